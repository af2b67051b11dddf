/-
  PROVED HERE: 'muntinlaw25.DrawTells' answers true whatever the raw shape and the numbers, and what was handed in reads as it did. Conditions: the package variables that the row lists hold what the program's text lays.
  Part 3 of 6.
-/
import Derived.Test.YtimadnngfhbfiaaDoorDtB
import Derived.ProofKit
import Derived.Deep.Grids
import Derived.Deep.Slices
import Derived.Lib.SmallJoins
import Derived.Laws.IdiomArrays
import Derived.Carry
import Derived.Test.YtimadnngfhbfiaaDoorProg

section
/-
  Drawings: the bounds of places; a drawing in the heap.
-/
namespace Go.Shape
open Go.Mu
theorem box_ge (bx : List Bool) (es : List Ed) (s : List Cell × List Nat) (v : Nat) (hb : bx.getD v false = true) : s.1.length + 4 ≤ (vtx bx es s v).1.length := by
  unfold vtx
  rw [if_pos hb]
  have key : ∀ n, s.1.length + 4 ≤ (bSides es v s.1.length (s.1 ++ List.replicate 4 Cell.empty, s.2) n).1.length := by
    intro n
    induction n with
    | zero => simp [bSides]
    | succ n ih =>
      have e : bSides es v s.1.length (s.1 ++ List.replicate 4 Cell.empty, s.2) (n + 1) = bSide es v s.1.length (bSides es v s.1.length (s.1 ++ List.replicate 4 Cell.empty, s.2) n) n := range_foldl _ _ _
      rw [e]
      have k := bEnds_len (wayP n) (on es v n) ((bSides es v s.1.length (s.1 ++ List.replicate 4 Cell.empty, s.2) n).1, (bSides es v s.1.length (s.1 ++ List.replicate 4 Cell.empty, s.2) n).2, fromP s.1.length n)
      simp only [bSide, join_len]
      rw [k.1]; simp only; omega
  have := key 4
  unfold box; omega
def cellsOf (bx : List Bool) (es : List Ed) : List Cell := (edges (verts bx es bx.length).2 (verts bx es bx.length).1 es).1
def waysOf (bx : List Bool) (es : List Ed) : List (List Nat) := (edges (verts bx es bx.length).2 (verts bx es bx.length).1 es).2
theorem cells_ge (bx : List Bool) (es : List Ed) : (verts bx es bx.length).1.length ≤ (cellsOf bx es).length := by
  have := edges_ge (en := (verts bx es bx.length).2) (cs := (verts bx es bx.length).1) (es := es) es.length
  rwa [List.take_length] at this
theorem cells_le {bx : List Bool} {es : List Ed} (h1 : bx.length ≤ 8) (h2 : es.length ≤ 16) (ok : ∀ e ∈ es, e.Ok bx.length) : (cellsOf bx es).length ≤ 1200 := by
  have hv := verts_len bx es bx.length
  have hbound : bx.length * (4 + 8 * es.length) ≤ 8 * 132 := Nat.mul_le_mul h1 (by omega)
  have el := edges_len (en := (verts bx es bx.length).2) (cs := (verts bx es bx.length).1) ok es.length
  rw [List.take_length] at el
  unfold cellsOf; omega
theorem first_lt {bx : List Bool} {es : List Ed} {v : Nat} (hv : v < bx.length) : (verts bx es v).1.length < (cellsOf bx es).length := by
  have h1 := vtx_ge bx es (verts bx es v) v
  have h2 := verts_mono bx es (v := v + 1) (n := bx.length) (by omega)
  have h3 := cells_ge bx es
  rw [verts_succ] at h2; omega
theorem first2_lt {bx : List Bool} {es : List Ed} {v : Nat} (hv : v < bx.length) (hb : bx.getD v false = true) : (verts bx es v).1.length + 2 < (cellsOf bx es).length := by
  have h1 := box_ge bx es (verts bx es v) v hb
  have h2 := verts_mono bx es (v := v + 1) (n := bx.length) (by omega)
  have h3 := cells_ge bx es
  rw [verts_succ] at h2; omega
theorem end_lt {bx : List Bool} {es : List Ed} (ok : ∀ e ∈ es, e.Ok bx.length) {i : Nat} {e : Ed} (he : es[i]? = some e) :
    (verts bx es bx.length).2.getD (2 * i) 0 < (verts bx es bx.length).1.length ∧ (verts bx es bx.length).2.getD (2 * i + 1) 0 < (verts bx es bx.length).1.length := by
  have hl : i < es.length := (List.getElem?_eq_some_iff.1 he).1
  have o := ok e (List.mem_of_getElem? he)
  have m := on_mem he
  have hlen := (verts_len bx es bx.length).2
  have key : ∀ v k, v < bx.length → own es v k → k < 2 * es.length → (verts bx es bx.length).2.getD k 0 < (verts bx es bx.length).1.length := fun v k hv ho hk => by
    have h1 := (verts_inv bx es bx.length v hv).lo k ((verts bx es bx.length).2[k]'(by omega)) ho (List.getElem?_eq_getElem _)
    have h2 := verts_mono bx es (v := v + 1) (n := bx.length) (by omega)
    rw [List.getD_eq_getElem?_getD, List.getElem?_eq_getElem (by omega)]
    simp only [Option.getD_some]; omega
  exact ⟨key e.f _ o.f ⟨e.d, o.d, m.1⟩ (by omega), key e.t _ o.t ⟨e.side, e.side_lt, m.2⟩ (by omega)⟩
theorem bends_lt (i : Nat) : ∀ (b : List Bool) (s : List Cell × Nat × Nat × List Nat), (∀ c ∈ s.2.2.2, c < s.1.length) → ∀ c ∈ (bends i s b).2.2.2, c < (bends i s b).1.length
  | [], s, h => h
  | x :: b, s, h => by
    refine bends_lt i b (bend i s x) fun c hc => ?_
    simp only [bend, join_len, List.length_append, List.length_singleton, List.mem_append, List.mem_singleton] at hc ⊢
    rcases hc with hc | hc
    · have := h c hc; omega
    · omega
theorem edges_lt {en : List Nat} {cs : List Cell} {es : List Ed} (he : ∀ j e, es[j]? = some e → en.getD (2 * j) 0 < cs.length ∧ en.getD (2 * j + 1) 0 < cs.length) : ∀ i, ∀ w ∈ (edges en cs (es.take i)).2, ∀ c ∈ w, c < (edges en cs (es.take i)).1.length
  | 0 => by simp [edges]
  | i + 1 => by
    have ih := edges_lt he i
    by_cases hi : i < es.length
    · obtain ⟨e, hx⟩ : ∃ x, es[i]? = some x := ⟨_, List.getElem?_eq_getElem hi⟩
      have hge := edges_ge (en := en) (cs := cs) (es := es) i
      obtain ⟨h0, h1⟩ := he i e hx
      rw [edges_take hx]
      have k := bends_len i e.b ((edges en cs (es.take i)).1, en.getD (2 * i) 0, e.d, [en.getD (2 * i) 0])
      have k2 := bends_lt i e.b ((edges en cs (es.take i)).1, en.getD (2 * i) 0, e.d, [en.getD (2 * i) 0]) (by
        intro c hc
        simp only [List.mem_singleton] at hc
        subst hc; simp only; omega)
      intro w hw c hc
      simp only [edge, edge0, join_len, List.mem_append, List.mem_singleton] at hw ⊢
      rw [k.1]
      simp only
      rcases hw with hw | hw
      · have := ih w hw c hc; omega
      · rw [hw] at hc
        rcases List.mem_append.1 hc with hc | hc
        · have := k2 c hc; rw [k.1] at this; exact this
        · simp only [List.mem_singleton] at hc; omega
    · have h1 : es.take (i + 1) = es.take i := by rw [List.take_of_length_le (by omega), List.take_of_length_le (by omega)]
      rw [h1]; exact ih
theorem ways_lt {bx : List Bool} {es : List Ed} (ok : ∀ e ∈ es, e.Ok bx.length) : ∀ w ∈ waysOf bx es, ∀ c ∈ w, c < (cellsOf bx es).length := by
  have := edges_lt (en := (verts bx es bx.length).2) (cs := (verts bx es bx.length).1) (es := es) (fun j e he => end_lt ok he) es.length
  rwa [List.take_length] at this
theorem ways_len {bx : List Bool} {es : List Ed} (ok : ∀ e ∈ es, e.Ok bx.length) : (waysOf bx es).length = es.length := by
  have el := edges_len (en := (verts bx es bx.length).2) (cs := (verts bx es bx.length).1) ok es.length
  rw [List.take_length] at el
  unfold waysOf; omega
theorem ways_short {bx : List Bool} {es : List Ed} (ok : ∀ e ∈ es, e.Ok bx.length) : ∀ w ∈ waysOf bx es, w.length ≤ 5 := by
  have := Go.Proofs.YtimadnngfhbfiaaDoor.edges_ways (en := (verts bx es bx.length).2) (cs := (verts bx es bx.length).1) ok es.length
  rwa [List.take_length] at this
end Go.Shape
namespace Go.Proofs.YtimadnngfhbfiaaDoor
open Go Go.Mu Go.Shape Go.Rk
variable {h h0 : H}
abbrev Pt := Int × Int
structure Rt where
  f : Int
  t : Int
  p : Sl
  pts : List Pt
def Rt.enc (x : Rt) : List Value := [.int .i64 x.f, .int .i64 x.t, .slice x.p.a x.p.l x.p.c]
def Rt.strip (x : Rt) : Int × Int × List Pt := (x.f, x.t, x.pts)
def encBx (b : Pt × Pt) : List Value := [.int .i64 b.1.1, .int .i64 b.1.2, .int .i64 b.2.1, .int .i64 b.2.2]
/-- A drawing, by roles. -/
def drM (b r : Sl) (bs : List (Pt × Pt)) (rs : List Rt) (u : Res) : Ro → Res
  | .cells => .arr b 86 4 (bs.flatMap encBx)
  | .ways => .arr r 84 3 (rs.flatMap Rt.enc)
  | .cur => u
  | .way i => match rs[i]? with
    | some x => .arr x.p 67 2 (x.pts.flatMap encP)
    | none => .no
  | _ => .no
section
variable {b r : Sl} {bs : List (Pt × Pt)} {rs : List Rt} {u : Res}
theorem drM_cells (b' : Sl) (bs' : List (Pt × Pt)) : put (drM b r bs rs u) .cells (.arr b' 86 4 (bs'.flatMap encBx)) = drM b' r bs' rs u := by funext i; cases i <;> simp [put, drM]
theorem drM_cur (u' : Res) : put (drM b r bs rs u) .cur u' = drM b r bs rs u' := by funext i; cases i <;> simp [put, drM]
theorem drM_push {r' : Sl} {x : Rt} (st : St h0 h (put (drM b r bs rs (.arr x.p 67 2 (x.pts.flatMap encP))) .ways (.arr r' 84 3 ((rs ++ [x]).flatMap Rt.enc)))) : St h0 h (drM b r' bs (rs ++ [x]) .no) := by
  refine st.re _ (fun k => match k with | .way i => if i = rs.length then .cur else .way i | k => k) (fun k => ?_) (fun k k' h1 h2 e => ?_)
  · cases k with
    | ways => right; simp [drM, put]
    | way i =>
      right
      by_cases hi : i = rs.length
      · subst hi; simp [drM, put]
      · simp only [hi, if_false, drM, put, reduceCtorEq, if_false]
        by_cases hl : i < rs.length
        · rw [List.getElem?_append_left hl]
        · rw [List.getElem?_eq_none (by simp; omega), List.getElem?_eq_none (by omega)]
    | cur => exact .inl rfl
    | _ => right; simp [drM, put]
  · cases k <;> cases k' <;> simp_all [drM] <;> (try split at e) <;> (try split at e) <;> simp_all
theorem drM_nil (h : H) : St h h (drM Sl.nil Sl.nil [] [] .no) :=
  ((St.init (ρ := Ro) h).nilArr (e := 86) (size := 4) .cells (fun b => match b with | .cells => .arr Sl.nil 86 4 [] | _ => .no) rfl (fun i hi => by cases i <;> simp_all)).nilArr (e := 84) (size := 3) .ways _ rfl (fun i hi => by cases i <;> simp_all [drM])
end
theorem own_nilD {st : H} {e size : Nat} {s : Sl} {xs : List Value} (o : Own st e size s.v s.l xs) : s.a = none → s.l = 0 → s.c = 0 := fun ha _ => by
  rcases o.2 with ⟨hv, _⟩ | ⟨g, cap, hv, _⟩
  · simp only [Value.slice.injEq] at hv; exact hv.2.2
  · simp only [Value.slice.injEq] at hv; rw [hv.1] at ha; cases ha
/-- What is known of a drawing. -/
structure Drw (h : H) (b r : Sl) (bs : List (Pt × Pt)) (rs : List Rt) : Prop where
  b : Rd h b 4 encBx bs
  r : Rd h r 3 Rt.enc rs
  p : ∀ x ∈ rs, Rd h x.p 2 encP x.pts
  z : ∀ x ∈ rs, x.p.a = none → x.p.l = 0 → x.p.c = 0
theorem Drw.le {h' : H} {b r : Sl} {bs : List (Pt × Pt)} {rs : List Rt} (d : Drw h b r bs rs) (l : h.Le h') : Drw h' b r bs rs := ⟨d.b.le l, d.r.le l, fun x hx => (d.p x hx).le l, d.z⟩
theorem Drw.of {b r : Sl} {bs : List (Pt × Pt)} {rs : List Rt} {u : Res} (st : St h0 h (drM b r bs rs u)) : Drw h b r bs rs :=
  ⟨st.arr (enc := encBx) .cells rfl (fun _ _ => rfl) (by decide), st.arr (enc := Rt.enc) .ways rfl (fun _ _ => rfl) (by decide), fun x hx => by
    obtain ⟨i, hi⟩ := List.getElem?_of_mem hx
    exact st.arr (e := 67) (enc := encP) (.way i) (by simp only [drM, hi]) (fun _ _ => rfl) (by decide), fun x hx => by
    obtain ⟨i, hi⟩ := List.getElem?_of_mem hx
    exact own_nilD (st.own (e := 67) (size := 2) (xs := x.pts.flatMap encP) (.way i) (by simp only [drM, hi]))⟩
def boxesOf (bx : List Bool) (es : List Ed) (at_ : List Pt) (n : Nat) : List (Pt × Pt) := (List.range n).map fun v => (at_.getD (verts bx es v).1.length (0, 0), at_.getD (if bx.getD v false = true then (verts bx es v).1.length + 2 else (verts bx es v).1.length) (0, 0))
theorem boxesOf_succ (bx : List Bool) (es : List Ed) (at_ : List Pt) (n : Nat) : boxesOf bx es at_ (n + 1) = boxesOf bx es at_ n ++ [(at_.getD (verts bx es n).1.length (0, 0), at_.getD (if bx.getD n false = true then (verts bx es n).1.length + 2 else (verts bx es n).1.length) (0, 0))] := by
  unfold boxesOf; rw [List.range_succ, List.map_append]; rfl
def ptsOf (at_ : List Pt) (w : List Nat) : List Pt := w.map fun c => at_.getD c (0, 0)
def rtsOf (es : List Ed) (ways : List (List Nat)) (at_ : List Pt) : List (Int × Int × List Pt) := (es.zip ways).map fun x => ((x.1.f : Int), (x.1.t : Int), ptsOf at_ x.2)
theorem rtsOf_at {es : List Ed} {ways : List (List Nat)} {at_ : List Pt} {i : Nat} {e : Ed} {w : List Nat} (he : es[i]? = some e) (hw : ways[i]? = some w) : (rtsOf es ways at_)[i]? = some ((e.f : Int), (e.t : Int), ptsOf at_ w) := by
  unfold rtsOf
  rw [List.getElem?_map, (List.getElem?_zip_eq_some (z := (e, w))).2 ⟨he, hw⟩]; rfl
theorem firsts_at {bx : List Bool} {es : List Ed} {n v : Nat} (hv : v < n) : (firsts bx es n)[v]? = some (verts bx es v).1.length := by simp [firsts, hv]
theorem getD_of {l : List Pt} {i : Nat} (hi : i < l.length) : l[i]? = some (l.getD i (0, 0)) := by
  rw [List.getD_eq_getElem?_getD, List.getElem?_eq_getElem hi]; rfl
end Go.Proofs.YtimadnngfhbfiaaDoor
end

section
/- PRINTED by wip/gen.py: what muntin/draw.Of does, in the words of Mu. -/
namespace Go.Proofs.YtimadnngfhbfiaaDoor
open Go Go.Mu
/- muntin/draw.Of -/
def S27_j1 (K : Sl → Sl → Int → H → Prop) (c8_0_1 : Sl) (c8_1_1 : Sl) (h_4 : H) : Prop :=
  K c8_0_1 c8_1_1 0 h_4
def S27_j2 (v81 : Int) (c8_0_2 : Sl) (c8_1_2 : Sl) (X : (Int × Sl × Sl) → H → Prop) (c14_0 : Int) (c14_1 : Int) (c14_2 : Sl) (h_6 : H) : Prop :=
  app 84 3 40 c8_1_2 1 [(.int .i64 c14_0), (.int .i64 c14_1), (.slice c14_2.a c14_2.l c14_2.c)] h_6 (fun (v115 : Sl) (h_7 : H) => X ((IntKind.wrap .i64 (v81 + 1)), c8_0_2, v115) h_7)
def S27_l3 (v34 : Sl) (v81 : Int) (c8_0_2 : Sl) (c8_1_2 : Sl) (X : (Int × Sl × Sl) → H → Prop) (v95 : Sl) (X_1 : (Int × Int × Int × Sl) → H → Prop) (v97 : Int) (c14_0_1 : Int) (c14_1_1 : Int) (c14_2_1 : Sl) (h_8 : H) : Prop :=
  (if (decide (v97 < (v95.l : Int))) = true then (∃ a99 : Addr, v95.a = some a99 ∧ 0 ≤ v97 ∧ v97 < (v95.l : Int) ∧ (∃ (v100 : Int), H.rd h_8 (Addr.add a99 (Int.toNat v97 * 1)) = some (.int .i64 v100) ∧ (∃ a105 : Addr, v34.a = some a105 ∧ 0 ≤ v100 ∧ v100 < (v34.l : Int) ∧ (∃ (v106_0 : Int) (v106_1 : Int), H.rdn h_8 (Addr.add a105 (Int.toNat v100 * 2)) 2 [(.int .i64 v106_0), (.int .i64 v106_1)] ∧ app 67 2 16 c14_2_1 1 [(.int .i64 v106_0), (.int .i64 v106_1)] h_8 (fun (v108 : Sl) (h_9 : H) => X_1 ((IntKind.wrap .i64 (v97 + 1)), c14_0_1, c14_1_1, v108) h_9))))) else S27_j2 v81 c8_0_2 c8_1_2 X c14_0_1 c14_1_1 c14_2_1 h_8)
def S27_l4 (p0_1 : Sl) (K : Sl → Sl → Int → H → Prop) (v19_0_2 : Sl) (v34 : Sl) (X : (Int × Sl × Sl) → H → Prop) (v81 : Int) (c8_0_2 : Sl) (c8_1_2 : Sl) (h_5 : H) : Prop :=
  (if (decide (v81 < (p0_1.l : Int))) = true then (∃ a84 : Addr, p0_1.a = some a84 ∧ 0 ≤ v81 ∧ v81 < (p0_1.l : Int) ∧ (∃ (v85_0 : Int) (v85_1 : Int) (v85_2 : Int) (v85_3 : ByteArray), H.rdn h_5 (Addr.add a84 (Int.toNat v81 * 4)) 4 [(.int .i64 v85_0), (.int .i64 v85_1), (.int .i64 v85_2), (.string v85_3)] ∧ (∃ a94 : Addr, v19_0_2.a = some a94 ∧ 0 ≤ v81 ∧ v81 < (v19_0_2.l : Int) ∧ (∃ (v95 : Sl), H.rd h_5 (Addr.add a94 (Int.toNat v81 * 1)) = some (.slice v95.a v95.l v95.c) ∧ lfp (fun X_1 s h_8 => S27_l3 v34 v81 c8_0_2 c8_1_2 X v95 X_1 s.1 s.2.1 s.2.2.1 s.2.2.2 h_8) (0, v85_0, v85_1, Sl.nil) h_5)))) else S27_j1 K c8_0_2 c8_1_2 h_5)
def S27_j5 (p0_1 : Sl) (K : Sl → Sl → Int → H → Prop) (v19_0_2 : Sl) (v34 : Sl) (c8_0 : Sl) (c8_1 : Sl) (h_3 : H) : Prop :=
  lfp (fun X s h_5 => S27_l4 p0_1 K v19_0_2 v34 X s.1 s.2.1 s.2.2 h_5) (0, c8_0, c8_1) h_3
def S27_j6 (v38 : Int) (c8_0_3 : Sl) (c8_1_3 : Sl) (X_2 : (Int × Sl × Sl) → H → Prop) (c11_0 : Int) (c11_1 : Int) (c11_2 : Int) (c11_3 : Int) (h_11 : H) : Prop :=
  app 86 4 32 c8_0_3 1 [(.int .i64 c11_0), (.int .i64 c11_1), (.int .i64 c11_2), (.int .i64 c11_3)] h_11 (fun (v75 : Sl) (h_12 : H) => X_2 ((IntKind.wrap .i64 (v38 + 1)), v75, c8_1_3) h_12)
def S27_l7 (p0_0 : Sl) (p0_1 : Sl) (K : Sl → Sl → Int → H → Prop) (v19_0_1 : Sl) (v19_0_2 : Sl) (v34 : Sl) (X_2 : (Int × Sl × Sl) → H → Prop) (v38 : Int) (c8_0_3 : Sl) (c8_1_3 : Sl) (h_10 : H) : Prop :=
  (if (decide (v38 < (p0_0.l : Int))) = true then (∃ a41 : Addr, p0_0.a = some a41 ∧ 0 ≤ v38 ∧ v38 < (p0_0.l : Int) ∧ (∃ (v42 : Bool), H.rd h_10 (Addr.add a41 (Int.toNat v38 * 1)) = some (.bool v42) ∧ (∃ a47 : Addr, v19_0_1.a = some a47 ∧ 0 ≤ v38 ∧ v38 < (v19_0_1.l : Int) ∧ (∃ (v48 : Int), H.rd h_10 (Addr.add a47 (Int.toNat v38 * 1)) = some (.int .i64 v48) ∧ (∃ a49 : Addr, v34.a = some a49 ∧ 0 ≤ v48 ∧ v48 < (v34.l : Int) ∧ (∃ (v50_0 : Int) (v50_1 : Int), H.rdn h_10 (Addr.add a49 (Int.toNat v48 * 2)) 2 [(.int .i64 v50_0), (.int .i64 v50_1)] ∧ (∃ a55 : Addr, v19_0_1.a = some a55 ∧ 0 ≤ v38 ∧ v38 < (v19_0_1.l : Int) ∧ (∃ (v56 : Int), H.rd h_10 (Addr.add a55 (Int.toNat v38 * 1)) = some (.int .i64 v56) ∧ (∃ a57 : Addr, v34.a = some a57 ∧ 0 ≤ v56 ∧ v56 < (v34.l : Int) ∧ (∃ (v58_0 : Int) (v58_1 : Int), H.rdn h_10 (Addr.add a57 (Int.toNat v56 * 2)) 2 [(.int .i64 v58_0), (.int .i64 v58_1)] ∧ (if v42 = true then (∃ a65 : Addr, v19_0_1.a = some a65 ∧ 0 ≤ v38 ∧ v38 < (v19_0_1.l : Int) ∧ (∃ (v66 : Int), H.rd h_10 (Addr.add a65 (Int.toNat v38 * 1)) = some (.int .i64 v66) ∧ (∃ a68 : Addr, v34.a = some a68 ∧ 0 ≤ (IntKind.wrap .i64 (v66 + 2)) ∧ (IntKind.wrap .i64 (v66 + 2)) < (v34.l : Int) ∧ (∃ (v69_0 : Int) (v69_1 : Int), H.rdn h_10 (Addr.add a68 (Int.toNat (IntKind.wrap .i64 (v66 + 2)) * 2)) 2 [(.int .i64 v69_0), (.int .i64 v69_1)] ∧ S27_j6 v38 c8_0_3 c8_1_3 X_2 v50_0 v50_1 v69_0 v69_1 h_10)))) else S27_j6 v38 c8_0_3 c8_1_3 X_2 v50_0 v50_1 v58_0 v58_1 h_10))))))))))) else S27_j5 p0_1 K v19_0_2 v34 c8_0_3 c8_1_3 h_10)
def S27 (p0_0 : Sl) (p0_1 : Sl) (p1 : Sl) (h : H) (K : Sl → Sl → Int → H → Prop) : Prop :=
  S12 p0_0 p0_1 h (fun (v19_0_0 : Sl) (v19_0_1 : Sl) (v19_0_2 : Sl) (v19_1 : Int) (h_1 : H) => (if (v19_1 != 0) = true then K Sl.nil Sl.nil v19_1 h_1 else (if ((p1.l : Int) != (v19_0_0.l : Int)) = true then K Sl.nil Sl.nil 2 h_1 else S63 p1 h_1 (fun (v34 : Sl) (h_2 : H) => lfp (fun X_2 s h_10 => S27_l7 p0_0 p0_1 K v19_0_1 v19_0_2 v34 X_2 s.1 s.2.1 s.2.2 h_10) (0, Sl.nil, Sl.nil) h_2))))
end Go.Proofs.YtimadnngfhbfiaaDoor
end

section
/- PRINTED by wip/gen.py: what muntin/muntinref25.Of does, in the words of Mu. -/
namespace Go.Proofs.YtimadnngfhbfiaaDoor
open Go Go.Mu
/- muntin/muntinref25.Of -/
def S31_j1 (K : Sl → Sl → H → Prop) (c7_0_1 : Sl) (c7_1_1 : Sl) (h_4 : H) : Prop :=
  K c7_0_1 c7_1_1 h_4
def S31_j2 (v11 : Int) (c7_0_2 : Sl) (c7_1_2 : Sl) (X : (Int × Sl × Sl) → H → Prop) (c12_0 : Int) (c12_1 : Int) (c12_2 : Sl) (h_6 : H) : Prop :=
  app 84 3 40 c7_1_2 1 [(.int .i64 c12_0), (.int .i64 c12_1), (.slice c12_2.a c12_2.l c12_2.c)] h_6 (fun (v107 : Sl) (h_7 : H) => X ((IntKind.wrap .i64 (v11 + 1)), c7_0_2, v107) h_7)
def S31_l3 (v15_3 : Sl) (v17 : Sl) (v11 : Int) (c7_0_2 : Sl) (c7_1_2 : Sl) (X : (Int × Sl × Sl) → H → Prop) (X_1 : (Int × Int × Int × Sl) → H → Prop) (v13 : Int) (c12_0_1 : Int) (c12_1_1 : Int) (c12_2_1 : Sl) (h_8 : H) : Prop :=
  (∃ a81 : Addr, v15_3.a = some a81 ∧ 0 ≤ v11 ∧ v11 < (v15_3.l : Int) ∧ (∃ (v82 : Sl), H.rd h_8 (Addr.add a81 (Int.toNat v11 * 1)) = some (.slice v82.a v82.l v82.c) ∧ (if (decide (v13 < (v82.l : Int))) = true then (∃ a93 : Addr, v15_3.a = some a93 ∧ 0 ≤ v11 ∧ v11 < (v15_3.l : Int) ∧ (∃ (v94 : Sl), H.rd h_8 (Addr.add a93 (Int.toNat v11 * 1)) = some (.slice v94.a v94.l v94.c) ∧ (∃ a96 : Addr, v94.a = some a96 ∧ 0 ≤ v13 ∧ v13 < (v94.l : Int) ∧ (∃ (v97 : Int), H.rd h_8 (Addr.add a96 (Int.toNat v13 * 1)) = some (.int .i64 v97) ∧ (∃ a98 : Addr, v17.a = some a98 ∧ 0 ≤ v97 ∧ v97 < (v17.l : Int) ∧ (∃ (v99_0 : Int) (v99_1 : Int), H.rdn h_8 (Addr.add a98 (Int.toNat v97 * 2)) 2 [(.int .i64 v99_0), (.int .i64 v99_1)] ∧ app 67 2 16 c12_2_1 1 [(.int .i64 v99_0), (.int .i64 v99_1)] h_8 (fun (v101 : Sl) (h_9 : H) => X_1 ((IntKind.wrap .i64 (v13 + 1)), c12_0_1, c12_1_1, v101) h_9))))))) else S31_j2 v11 c7_0_2 c7_1_2 X c12_0_1 c12_1_1 c12_2_1 h_8)))
def S31_l4 (p0_1 : Sl) (K : Sl → Sl → H → Prop) (v15_3 : Sl) (v17 : Sl) (X : (Int × Sl × Sl) → H → Prop) (v11 : Int) (c7_0_2 : Sl) (c7_1_2 : Sl) (h_5 : H) : Prop :=
  (if (decide (v11 < (p0_1.l : Int))) = true then (∃ a67 : Addr, p0_1.a = some a67 ∧ 0 ≤ v11 ∧ v11 < (p0_1.l : Int) ∧ (∃ (v69 : Int), H.rd h_5 (Addr.add a67 (Int.toNat v11 * 4)) = some (.int .i64 v69) ∧ (∃ a73 : Addr, p0_1.a = some a73 ∧ 0 ≤ v11 ∧ v11 < (p0_1.l : Int) ∧ (∃ (v75 : Int), H.rd h_5 (Addr.add (Addr.add a73 (Int.toNat v11 * 4)) 1) = some (.int .i64 v75) ∧ lfp (fun X_1 s h_8 => S31_l3 v15_3 v17 v11 c7_0_2 c7_1_2 X X_1 s.1 s.2.1 s.2.2.1 s.2.2.2 h_8) (0, v69, v75, Sl.nil) h_5)))) else S31_j1 K c7_0_2 c7_1_2 h_5)
def S31_j5 (p0_1 : Sl) (K : Sl → Sl → H → Prop) (v15_3 : Sl) (v17 : Sl) (c7_0 : Sl) (c7_1 : Sl) (h_3 : H) : Prop :=
  lfp (fun X s h_5 => S31_l4 p0_1 K v15_3 v17 X s.1 s.2.1 s.2.2 h_5) (0, c7_0, c7_1) h_3
def S31_j6 (v8 : Int) (c7_0_3 : Sl) (c7_1_3 : Sl) (X_2 : (Int × Sl × Sl) → H → Prop) (c10_0 : Int) (c10_1 : Int) (c10_2 : Int) (c10_3 : Int) (h_11 : H) : Prop :=
  app 86 4 32 c7_0_3 1 [(.int .i64 c10_0), (.int .i64 c10_1), (.int .i64 c10_2), (.int .i64 c10_3)] h_11 (fun (v55 : Sl) (h_12 : H) => X_2 ((IntKind.wrap .i64 (v8 + 1)), v55, c7_1_3) h_12)
def S31_l7 (p0_0 : Sl) (p0_1 : Sl) (K : Sl → Sl → H → Prop) (v15_1 : Sl) (v15_3 : Sl) (v17 : Sl) (X_2 : (Int × Sl × Sl) → H → Prop) (v8 : Int) (c7_0_3 : Sl) (c7_1_3 : Sl) (h_10 : H) : Prop :=
  (if (decide (v8 < (p0_0.l : Int))) = true then (∃ a29 : Addr, v15_1.a = some a29 ∧ 0 ≤ v8 ∧ v8 < (v15_1.l : Int) ∧ (∃ (v30 : Int), H.rd h_10 (Addr.add a29 (Int.toNat v8 * 1)) = some (.int .i64 v30) ∧ (∃ a33 : Addr, v17.a = some a33 ∧ 0 ≤ v30 ∧ v30 < (v17.l : Int) ∧ (∃ (v34_0 : Int) (v34_1 : Int), H.rdn h_10 (Addr.add a33 (Int.toNat v30 * 2)) 2 [(.int .i64 v34_0), (.int .i64 v34_1)] ∧ (∃ a37 : Addr, v17.a = some a37 ∧ 0 ≤ v30 ∧ v30 < (v17.l : Int) ∧ (∃ (v38_0 : Int) (v38_1 : Int), H.rdn h_10 (Addr.add a37 (Int.toNat v30 * 2)) 2 [(.int .i64 v38_0), (.int .i64 v38_1)] ∧ (∃ a43 : Addr, p0_0.a = some a43 ∧ 0 ≤ v8 ∧ v8 < (p0_0.l : Int) ∧ (∃ (v44 : Bool), H.rd h_10 (Addr.add a43 (Int.toNat v8 * 1)) = some (.bool v44) ∧ (if v44 = true then (∃ a48 : Addr, v17.a = some a48 ∧ 0 ≤ (IntKind.wrap .i64 (v30 + 2)) ∧ (IntKind.wrap .i64 (v30 + 2)) < (v17.l : Int) ∧ (∃ (v49_0 : Int) (v49_1 : Int), H.rdn h_10 (Addr.add a48 (Int.toNat (IntKind.wrap .i64 (v30 + 2)) * 2)) 2 [(.int .i64 v49_0), (.int .i64 v49_1)] ∧ S31_j6 v8 c7_0_3 c7_1_3 X_2 v34_0 v34_1 v49_0 v49_1 h_10)) else S31_j6 v8 c7_0_3 c7_1_3 X_2 v34_0 v34_1 v38_0 v38_1 h_10))))))))) else S31_j5 p0_1 K v15_3 v17 c7_0_3 c7_1_3 h_10)
def S31 (p0_0 : Sl) (p0_1 : Sl) (p1 : Sl) (h : H) (K : Sl → Sl → H → Prop) : Prop :=
  S15 p0_0 p0_1 h (fun (v15_0 : Sl) (v15_1 : Sl) (v15_2 : Sl) (v15_3 : Sl) (h_1 : H) => S64 p1 h_1 (fun (v17 : Sl) (h_2 : H) => lfp (fun X_2 s h_10 => S31_l7 p0_0 p0_1 K v15_1 v15_3 v17 X_2 s.1 s.2.1 s.2.2 h_10) (0, Sl.nil, Sl.nil) h_2))
end Go.Proofs.YtimadnngfhbfiaaDoor
end

section
/-
  draw.Of: the program's drawing; the document's.
-/
namespace Go.Proofs.YtimadnngfhbfiaaDoor
open Go Go.Mu Go.Shape Go.Rk
variable {h h0 : H}
set_option maxHeartbeats 4000000
theorem c27 {p0 p1 q : Sl} {bx : List Bool} {es : List Ed} {ats : List Pt} (sh : Shp h p0 p1 bx es) (ra : Rd h q 2 encP ats) (hn : ats.length ≤ 2000) {K : Sl → Sl → Int → H → Prop}
    (k8 : (∃ v d, v < bx.length ∧ d < 4 ∧ sided bx es v d) → ∀ h', h.Le h' → K Sl.nil Sl.nil 8 h')
    (k10 : ¬ (∃ v d, v < bx.length ∧ d < 4 ∧ sided bx es v d) → (∃ i x, es[i]? = some x ∧ bad bx es i x) → ∀ h', h.Le h' → K Sl.nil Sl.nil 10 h')
    (k2 : ¬ (∃ v d, v < bx.length ∧ d < 4 ∧ sided bx es v d) → (¬ ∃ i x, es[i]? = some x ∧ bad bx es i x) → ats.length ≠ (cellsOf bx es).length → ∀ h', h.Le h' → K Sl.nil Sl.nil 2 h')
    (kok : ¬ (∃ v d, v < bx.length ∧ d < 4 ∧ sided bx es v d) → (¬ ∃ i x, es[i]? = some x ∧ bad bx es i x) → ats.length = (cellsOf bx es).length → ∀ d0 d1 rs h',
      St h h' (drM d0 d1 (boxesOf bx es (rkd ats) bx.length) rs .no) → rs.map Rt.strip = rtsOf es (waysOf bx es) (rkd ats) → K d0 d1 0 h') : S27 p0 p1 q h K := by
  have e0 := sh.b.len
  have e1 := sh.e.len
  have lb := sh.lb
  have le := sh.le
  unfold S27
  refine c12 sh (fun hs h1 l1 => ?_) (fun hs ht h1 l1 => ?_) (fun hs ht c f w ws h1 st1 hws => ?_)
  · rw [if_pos (by decide)]; exact k8 hs h1 l1
  · rw [if_pos (by decide)]; exact k10 hs ht h1 l1
  rw [if_neg (by decide)]
  have rc := (st1.arr (enc := Cell.enc) .cells rfl (enc8 _) (by decide)).len
  have rf : Rd h1 f 1 encN (firsts bx es bx.length) := st1.arr (enc := encN) .first rfl (enc1N _) (by decide)
  have rw' : Rd h1 w 1 (fun p : Sl × List Nat => [p.1.v]) ws := st1.arr (enc := fun p : Sl × List Nat => [p.1.v]) .ways rfl (fun _ _ => rfl) (by decide)
  have rws : ∀ (i : Nat) (x : Sl × List Nat), ws[i]? = some x → Rd h1 x.1 1 encN x.2 := fun i x hx => st1.arr (e := 3) (enc := encN) (.way i) (by simp only [refM, hx]) (enc1N _) (by decide)
  have hwl : ws.length = es.length := by
    have := congrArg List.length hws
    rw [List.length_map] at this
    rw [this]; exact ways_len sh.ok
  change (c.l : Int) = ((cellsOf bx es).length : Int) at rc
  rw [ra.len, rc]
  by_cases hc : ats.length ≠ (cellsOf bx es).length
  · rw [if_pos (by simp only [bne_iff_ne, ne_eq]; omega)]
    exact k2 hs ht hc h1 st1.le
  have hc : ats.length = (cellsOf bx es).length := Decidable.not_not.1 hc
  rw [if_neg (by simp only [bne_iff_ne, ne_eq, Decidable.not_not]; omega)]
  refine c63 (ra.le st1.le) hn fun v34 h2 st2 => ?_
  have hrl := rkd_len ats
  have hcl := cells_le lb le sh.ok
  have rA : Rd h2 v34 2 encP (rkd ats) := st2.arr (enc := encP) () rfl (fun _ _ => rfl) (by decide)
  have nA := rA.len
  have l2 := st1.le.trans st2.le
  generalize hR : rkd ats = R at *
  have nf := rf.len
  have nw := rw'.len
  have fl : (firsts bx es bx.length).length = bx.length := by simp [firsts]
  refine lfp.count bx.length (fun i (u : Int × Sl × Sl) h' => u.1 = (i : Int) ∧ u.2.2 = Sl.nil ∧ St h2 h' (drM u.2.1 Sl.nil (boxesOf bx es R i) [] .no)) (fun X i u h' hi ⟨q1, q2, st⟩ next => ?_) ⟨rfl, rfl, drM_nil h2⟩
  obtain ⟨u1, b, u2⟩ := u
  simp only at q1 q2 st; subst q1 q2
  simp only
  unfold S27_l7
  rw [e0]
  have l' := l2.trans st.le
  by_cases hlt : i < bx.length
  · rw [if_pos (by simp only [decide_eq_true_eq]; omega)]
    obtain ⟨x, hx⟩ : ∃ x, bx[i]? = some x := ⟨_, List.getElem?_eq_getElem hlt⟩
    have hxd : bx.getD i false = x := by rw [List.getD_eq_getElem?_getD, hx]; rfl
    obtain ⟨a, ha, rx⟩ := (sh.b.le l').ix hx
    have hF := first_lt (es := es) hlt
    obtain ⟨a1, ha1, r1⟩ := ((rf.le st2.le).le st.le).ix (firsts_at (es := es) hlt)
    have hp := getD_of (l := R) (i := (verts bx es i).1.length) (by omega)
    obtain ⟨a2, ha2, r2⟩ := (rA.le st.le).ix hp
    refine ⟨a, ha, by omega, by omega, x, by rw [Int.toNat_natCast]; exact rx.at0, a1, ha1, by omega, by omega, _, by rw [Int.toNat_natCast]; exact r1.at0, a2, ha2, by omega, by omega, _, _, by rw [Int.toNat_natCast]; exact r2,
      a1, ha1, by omega, by omega, _, by rw [Int.toNat_natCast]; exact r1.at0, a2, ha2, by omega, by omega, _, _, by rw [Int.toNat_natCast]; exact r2, ?_⟩
    have fin : ∀ pt : Pt, pt = R.getD (if bx.getD i false = true then (verts bx es i).1.length + 2 else (verts bx es i).1.length) (0, 0) → S27_j6 i b Sl.nil X (R.getD (verts bx es i).1.length (0, 0)).1 (R.getD (verts bx es i).1.length (0, 0)).2 pt.1 pt.2 h' := fun pt hpt => by
      unfold S27_j6
      refine app1 (bytes := 32) (enc := encBx) .cells (R.getD (verts bx es i).1.length (0, 0), pt) st rfl (fun _ => rfl) (by decide) (by simp [boxesOf]; omega) (by decide) fun b' h5 st5 => ?_
      rw [drM_cells] at st5
      rw [wsucc (by omega)]
      refine next hlt _ _ ⟨rfl, rfl, ?_⟩
      rw [boxesOf_succ, ← hpt]
      exact st5
    cases x with
    | true =>
      rw [if_pos rfl]
      have hF2 := first2_lt (es := es) hlt hxd
      have hw : IntKind.i64.wrap (((verts bx es i).1.length : Int) + 2) = (((verts bx es i).1.length + 2 : Nat) : Int) := wrapN (by omega) (by omega)
      have hp2 := getD_of (l := R) (i := (verts bx es i).1.length + 2) (by omega)
      obtain ⟨a3, ha3, r3⟩ := (rA.le st.le).ix hp2
      rw [hxd, if_pos rfl] at fin
      refine ⟨a1, ha1, by omega, by omega, _, by rw [Int.toNat_natCast]; exact r1.at0, a3, ha3, by rw [hw]; omega, by rw [hw]; omega, _, _, by rw [hw, Int.toNat_natCast]; exact r3, fin _ rfl⟩
    | false =>
      rw [if_neg (by decide)]
      rw [hxd, if_neg (by decide)] at fin
      exact fin _ rfl
  · rw [if_neg (by simp only [decide_eq_true_eq]; omega)]
    obtain rfl : i = bx.length := by omega
    clear next
    unfold S27_j5
    refine lfp.count es.length (fun i (u : Int × Sl × Sl) h3 => u.1 = (i : Int) ∧ ∃ rs, rs.map Rt.strip = (rtsOf es (waysOf bx es) R).take i ∧ St h2 h3 (drM u.2.1 u.2.2 (boxesOf bx es R bx.length) rs .no)) (fun Y i u h3 hi ⟨q1, rs, q2, st⟩ next => ?_) ⟨rfl, [], by simp, st⟩
    obtain ⟨u1, b, r⟩ := u
    simp only at q1 st; subst q1
    simp only
    unfold S27_l4
    rw [e1]
    have l3 := l2.trans st.le
    have hrs : rs.length ≤ es.length := by
      have := congrArg List.length q2
      rw [List.length_map, List.length_take] at this
      simp only [rtsOf, List.length_map, List.length_zip] at this
      omega
    by_cases hlt : i < es.length
    · rw [if_pos (by simp only [decide_eq_true_eq]; omega)]
      obtain ⟨e, he⟩ : ∃ x, es[i]? = some x := ⟨_, List.getElem?_eq_getElem hlt⟩
      obtain ⟨y, hy⟩ : ∃ x, ws[i]? = some x := ⟨_, List.getElem?_eq_getElem (by omega)⟩
      have hyw : (waysOf bx es)[i]? = some y.2 := by
        have : (ws.map (·.2))[i]? = some y.2 := by rw [List.getElem?_map, hy]; rfl
        rw [hws] at this; exact this
      have hym := List.mem_of_getElem? hyw
      have hshort := ways_short sh.ok _ hym
      obtain ⟨a, ha, rx⟩ := (sh.e.le l3).ix he
      obtain ⟨a2, ha2, r2⟩ := ((rw'.le st2.le).le st.le).ix hy
      have ry := ((rws i y hy).le st2.le).le st.le
      have ny := ry.len
      refine ⟨a, ha, by omega, by omega, _, _, _, _, by rw [Int.toNat_natCast]; exact rx, a2, ha2, by omega, by omega, y.1, by rw [Int.toNat_natCast]; exact r2.at0, ?_⟩
      refine lfp.count y.2.length (fun j (u : Int × Int × Int × Sl) h4 => u.1 = (j : Int) ∧ u.2.1 = e.f ∧ u.2.2.1 = e.t ∧ St h2 h4 (drM b r (boxesOf bx es R bx.length) rs (.arr u.2.2.2 67 2 ((ptsOf R (y.2.take j)).flatMap encP)))) (fun Z j u h4 hj ⟨q3, q4, q5, st4⟩ next2 => ?_) ⟨rfl, rfl, rfl, st.nilArr (e := 67) (size := 2) .cur _ rfl (fun i hi => by cases i <;> simp_all [drM])⟩
      obtain ⟨u1, u2, u3, c⟩ := u
      simp only at q3 q4 q5 st4; subst q3 q4 q5
      simp only
      unfold S27_l3
      rw [ny]
      by_cases hlt2 : j < y.2.length
      · rw [if_pos (by simp only [decide_eq_true_eq]; omega)]
        obtain ⟨z, hz⟩ : ∃ x, y.2[j]? = some x := ⟨_, List.getElem?_eq_getElem hlt2⟩
        have hzl := ways_lt sh.ok _ hym z (List.mem_of_getElem? hz)
        have lx : h3.Le h4 ∨ True := .inr trivial
        obtain ⟨a5, ha5, r5⟩ := (((rws i y hy).le st2.le).le st4.le).ix hz
        obtain ⟨a6, ha6, r6⟩ := (rA.le st4.le).ix (getD_of (l := R) (i := z) (by omega))
        refine ⟨a5, ha5, by omega, by omega, _, by rw [Int.toNat_natCast]; exact r5.at0, a6, ha6, by omega, by omega, _, _, by rw [Int.toNat_natCast]; exact r6, ?_⟩
        refine app1 (bytes := 16) (enc := encP) .cur (R.getD z (0, 0)) st4 rfl (fun _ => rfl) (by decide) (by simp [ptsOf]; omega) (by decide) fun c' h5 st5 => ?_
        rw [drM_cur] at st5
        rw [wsucc (by omega)]
        refine next2 hlt2 _ _ ⟨rfl, rfl, rfl, ?_⟩
        rw [List.take_add_one, hz]
        simpa [ptsOf] using st5
      · rw [if_neg (by simp only [decide_eq_true_eq]; omega)]
        obtain rfl : j = y.2.length := by omega
        rw [List.take_length] at st4
        unfold S27_j2
        refine app1 (bytes := 40) (enc := Rt.enc) .ways (⟨e.f, e.t, c, ptsOf R y.2⟩ : Rt) st4 rfl (fun _ => rfl) (by decide) (by omega) (by decide) fun r' h5 st5 => ?_
        have st6 := drM_push (x := ⟨e.f, e.t, c, ptsOf R y.2⟩) st5
        rw [wsucc (by omega)]
        refine next hlt _ _ ⟨rfl, _, ?_, st6⟩
        rw [List.map_append, q2, List.take_add_one, rtsOf_at he hyw]; rfl
    · rw [if_neg (by simp only [decide_eq_true_eq]; omega)]
      obtain rfl : i = es.length := by omega
      unfold S27_j1
      refine kok hs ht hc b r rs _ (St.pre l2 st) ?_
      rw [q2, List.take_of_length_le]
      simp only [rtsOf, List.length_map, List.length_zip]; omega
theorem c31 {p0 p1 q : Sl} {bx : List Bool} {es : List Ed} {ats : List Pt} (sh : Shp h p0 p1 bx es) (ra : Rd h q 2 encP ats) (hn : ats.length ≤ 2000) (hc : ats.length = (cellsOf bx es).length) {K : Sl → Sl → H → Prop}
    (kok : ∀ d0 d1 rs h', St h h' (drM d0 d1 (boxesOf bx es (rkd ats) bx.length) rs .no) → rs.map Rt.strip = rtsOf es (waysOf bx es) (rkd ats) → K d0 d1 h') : S31 p0 p1 q h K := by
  have e0 := sh.b.len
  have e1 := sh.e.len
  have lb := sh.lb
  have le := sh.le
  unfold S31
  refine c15 sh fun c f e_ w ws h1 st1 hws => ?_
  have rf : Rd h1 f 1 encN (firsts bx es bx.length) := st1.arr (enc := encN) .first rfl (enc1N _) (by decide)
  have rw' : Rd h1 w 1 (fun p : Sl × List Nat => [p.1.v]) ws := st1.arr (enc := fun p : Sl × List Nat => [p.1.v]) .ways rfl (fun _ _ => rfl) (by decide)
  have rws : ∀ (i : Nat) (x : Sl × List Nat), ws[i]? = some x → Rd h1 x.1 1 encN x.2 := fun i x hx => st1.arr (e := 3) (enc := encN) (.way i) (by simp only [refM, hx]) (enc1N _) (by decide)
  have hwl : ws.length = es.length := by
    have := congrArg List.length hws
    rw [List.length_map] at this
    rw [this]; exact ways_len sh.ok
  refine c64 (ra.le st1.le) hn fun v17 h2 st2 => ?_
  have hrl := rkd_len ats
  have hcl := cells_le lb le sh.ok
  have rA : Rd h2 v17 2 encP (rkd ats) := st2.arr (enc := encP) () rfl (fun _ _ => rfl) (by decide)
  have nA := rA.len
  have l2 := st1.le.trans st2.le
  generalize hR : rkd ats = R at *
  have nf := rf.len
  have nw := rw'.len
  have fl : (firsts bx es bx.length).length = bx.length := by simp [firsts]
  refine lfp.count bx.length (fun i (u : Int × Sl × Sl) h' => u.1 = (i : Int) ∧ u.2.2 = Sl.nil ∧ St h2 h' (drM u.2.1 Sl.nil (boxesOf bx es R i) [] .no)) (fun X i u h' hi ⟨q1, q2, st⟩ next => ?_) ⟨rfl, rfl, drM_nil h2⟩
  obtain ⟨u1, b, u2⟩ := u
  simp only at q1 q2 st; subst q1 q2
  simp only
  unfold S31_l7
  rw [e0]
  have l' := l2.trans st.le
  by_cases hlt : i < bx.length
  · rw [if_pos (by simp only [decide_eq_true_eq]; omega)]
    obtain ⟨x, hx⟩ : ∃ x, bx[i]? = some x := ⟨_, List.getElem?_eq_getElem hlt⟩
    have hxd : bx.getD i false = x := by rw [List.getD_eq_getElem?_getD, hx]; rfl
    obtain ⟨a, ha, rx⟩ := (sh.b.le l').ix hx
    have hF := first_lt (es := es) hlt
    obtain ⟨a1, ha1, r1⟩ := ((rf.le st2.le).le st.le).ix (firsts_at (es := es) hlt)
    have hp := getD_of (l := R) (i := (verts bx es i).1.length) (by omega)
    obtain ⟨a2, ha2, r2⟩ := (rA.le st.le).ix hp
    refine ⟨a1, ha1, by omega, by omega, _, by rw [Int.toNat_natCast]; exact r1.at0, a2, ha2, by omega, by omega, _, _, by rw [Int.toNat_natCast]; exact r2,
      a2, ha2, by omega, by omega, _, _, by rw [Int.toNat_natCast]; exact r2, a, ha, by omega, by omega, x, by rw [Int.toNat_natCast]; exact rx.at0, ?_⟩
    have fin : ∀ pt : Pt, pt = R.getD (if bx.getD i false = true then (verts bx es i).1.length + 2 else (verts bx es i).1.length) (0, 0) → S31_j6 i b Sl.nil X (R.getD (verts bx es i).1.length (0, 0)).1 (R.getD (verts bx es i).1.length (0, 0)).2 pt.1 pt.2 h' := fun pt hpt => by
      unfold S31_j6
      refine app1 (bytes := 32) (enc := encBx) .cells (R.getD (verts bx es i).1.length (0, 0), pt) st rfl (fun _ => rfl) (by decide) (by simp [boxesOf]; omega) (by decide) fun b' h5 st5 => ?_
      rw [drM_cells] at st5
      rw [wsucc (by omega)]
      refine next hlt _ _ ⟨rfl, rfl, ?_⟩
      rw [boxesOf_succ, ← hpt]
      exact st5
    cases x with
    | true =>
      rw [if_pos rfl]
      have hF2 := first2_lt (es := es) hlt hxd
      have hw : IntKind.i64.wrap (((verts bx es i).1.length : Int) + 2) = (((verts bx es i).1.length + 2 : Nat) : Int) := wrapN (by omega) (by omega)
      have hp2 := getD_of (l := R) (i := (verts bx es i).1.length + 2) (by omega)
      obtain ⟨a3, ha3, r3⟩ := (rA.le st.le).ix hp2
      rw [hxd, if_pos rfl] at fin
      refine ⟨a3, ha3, by rw [hw]; omega, by rw [hw]; omega, _, _, by rw [hw, Int.toNat_natCast]; exact r3, fin _ rfl⟩
    | false =>
      rw [if_neg (by decide)]
      rw [hxd, if_neg (by decide)] at fin
      exact fin _ rfl
  · rw [if_neg (by simp only [decide_eq_true_eq]; omega)]
    obtain rfl : i = bx.length := by omega
    clear next
    unfold S31_j5
    refine lfp.count es.length (fun i (u : Int × Sl × Sl) h3 => u.1 = (i : Int) ∧ ∃ rs, rs.map Rt.strip = (rtsOf es (waysOf bx es) R).take i ∧ St h2 h3 (drM u.2.1 u.2.2 (boxesOf bx es R bx.length) rs .no)) (fun Y i u h3 hi ⟨q1, rs, q2, st⟩ next => ?_) ⟨rfl, [], by simp, st⟩
    obtain ⟨u1, b, r⟩ := u
    simp only at q1 st; subst q1
    simp only
    unfold S31_l4
    rw [e1]
    have l3 := l2.trans st.le
    have hrs : rs.length ≤ es.length := by
      have := congrArg List.length q2
      rw [List.length_map, List.length_take] at this
      simp only [rtsOf, List.length_map, List.length_zip] at this
      omega
    by_cases hlt : i < es.length
    · rw [if_pos (by simp only [decide_eq_true_eq]; omega)]
      obtain ⟨e, he⟩ : ∃ x, es[i]? = some x := ⟨_, List.getElem?_eq_getElem hlt⟩
      obtain ⟨y, hy⟩ : ∃ x, ws[i]? = some x := ⟨_, List.getElem?_eq_getElem (by omega)⟩
      have hyw : (waysOf bx es)[i]? = some y.2 := by
        have : (ws.map (·.2))[i]? = some y.2 := by rw [List.getElem?_map, hy]; rfl
        rw [hws] at this; exact this
      have hym := List.mem_of_getElem? hyw
      have hshort := ways_short sh.ok _ hym
      obtain ⟨a, ha, rx⟩ := (sh.e.le l3).ix he
      have ny := (rws i y hy).len
      refine ⟨a, ha, by omega, by omega, _, by rw [Int.toNat_natCast]; exact rx.at0, a, ha, by omega, by omega, _, by rw [Int.toNat_natCast]; exact rx.at 1 rfl, ?_⟩
      refine lfp.count y.2.length (fun j (u : Int × Int × Int × Sl) h4 => u.1 = (j : Int) ∧ u.2.1 = e.f ∧ u.2.2.1 = e.t ∧ St h2 h4 (drM b r (boxesOf bx es R bx.length) rs (.arr u.2.2.2 67 2 ((ptsOf R (y.2.take j)).flatMap encP)))) (fun Z j u h4 hj ⟨q3, q4, q5, st4⟩ next2 => ?_) ⟨rfl, rfl, rfl, st.nilArr (e := 67) (size := 2) .cur _ rfl (fun i hi => by cases i <;> simp_all [drM])⟩
      obtain ⟨u1, u2, u3, c⟩ := u
      simp only at q3 q4 q5 st4; subst q3 q4 q5
      simp only
      unfold S31_l3
      obtain ⟨a2, ha2, r2⟩ := ((rw'.le st2.le).le st4.le).ix hy
      refine ⟨a2, ha2, by omega, by omega, y.1, by rw [Int.toNat_natCast]; exact r2.at0, ?_⟩
      rw [ny]
      by_cases hlt2 : j < y.2.length
      · rw [if_pos (by simp only [decide_eq_true_eq]; omega)]
        obtain ⟨z, hz⟩ : ∃ x, y.2[j]? = some x := ⟨_, List.getElem?_eq_getElem hlt2⟩
        have hzl := ways_lt sh.ok _ hym z (List.mem_of_getElem? hz)
        obtain ⟨a5, ha5, r5⟩ := (((rws i y hy).le st2.le).le st4.le).ix hz
        obtain ⟨a6, ha6, r6⟩ := (rA.le st4.le).ix (getD_of (l := R) (i := z) (by omega))
        refine ⟨a2, ha2, by omega, by omega, y.1, by rw [Int.toNat_natCast]; exact r2.at0, a5, ha5, by omega, by omega, _, by rw [Int.toNat_natCast]; exact r5.at0, a6, ha6, by omega, by omega, _, _, by rw [Int.toNat_natCast]; exact r6, ?_⟩
        refine app1 (bytes := 16) (enc := encP) .cur (R.getD z (0, 0)) st4 rfl (fun _ => rfl) (by decide) (by simp [ptsOf]; omega) (by decide) fun c' h5 st5 => ?_
        rw [drM_cur] at st5
        rw [wsucc (by omega)]
        refine next2 hlt2 _ _ ⟨rfl, rfl, rfl, ?_⟩
        rw [List.take_add_one, hz]
        simpa [ptsOf] using st5
      · rw [if_neg (by simp only [decide_eq_true_eq]; omega)]
        obtain rfl : j = y.2.length := by omega
        rw [List.take_length] at st4
        unfold S31_j2
        refine app1 (bytes := 40) (enc := Rt.enc) .ways (⟨e.f, e.t, c, ptsOf R y.2⟩ : Rt) st4 rfl (fun _ => rfl) (by decide) (by omega) (by decide) fun r' h5 st5 => ?_
        have st6 := drM_push (x := ⟨e.f, e.t, c, ptsOf R y.2⟩) st5
        rw [wsucc (by omega)]
        refine next hlt _ _ ⟨rfl, _, ?_, st6⟩
        rw [List.map_append, q2, List.take_add_one, rtsOf_at he hyw]; rfl
    · rw [if_neg (by simp only [decide_eq_true_eq]; omega)]
      obtain rfl : i = es.length := by omega
      unfold S31_j1
      refine kok b r rs _ (St.pre l2 st) ?_
      rw [q2, List.take_of_length_le]
      simp only [rtsOf, List.length_map, List.length_zip]; omega
end Go.Proofs.YtimadnngfhbfiaaDoor
end

section
/- PRINTED by wip/gen.py: what muntin/muntinref25.Same does, in the words of Mu. -/
namespace Go.Proofs.YtimadnngfhbfiaaDoor
open Go Go.Mu
/- muntin/muntinref25.Same -/
def S30_j1 (K : Bool → H → Prop) (h_3 : H) : Prop :=
  K true h_3
def S30_j2 (v6 : Int) (X : Int → H → Prop) (h_5 : H) : Prop :=
  X (IntKind.wrap .i64 (v6 + 1)) h_5
def S30_l3 (K : Bool → H → Prop) (v6 : Int) (X : Int → H → Prop) (v55_2 : Sl) (v60_2 : Sl) (X_1 : Int → H → Prop) (v9 : Int) (h_7 : H) : Prop :=
  (if (decide (v9 < (v55_2.l : Int))) = true then (∃ a92 : Addr, v55_2.a = some a92 ∧ 0 ≤ v9 ∧ v9 < (v55_2.l : Int) ∧ (∃ (v93_0 : Int) (v93_1 : Int), H.rdn h_7 (Addr.add a92 (Int.toNat v9 * 2)) 2 [(.int .i64 v93_0), (.int .i64 v93_1)] ∧ (∃ a97 : Addr, v60_2.a = some a97 ∧ 0 ≤ v9 ∧ v9 < (v60_2.l : Int) ∧ (∃ (v98_0 : Int) (v98_1 : Int), H.rdn h_7 (Addr.add a97 (Int.toNat v9 * 2)) 2 [(.int .i64 v98_0), (.int .i64 v98_1)] ∧ (if (!((v93_0 == v98_0) && ((v93_1 == v98_1) && true))) = true then K false h_7 else X_1 (IntKind.wrap .i64 (v9 + 1)) h_7))))) else S30_j2 v6 X h_7)
def S30_j4 (K : Bool → H → Prop) (v6 : Int) (X : Int → H → Prop) (v55_2 : Sl) (v60_2 : Sl) (v81 : Bool) (h_6 : H) : Prop :=
  (if v81 = true then K false h_6 else lfp (fun X_1 s h_7 => S30_l3 K v6 X v55_2 v60_2 X_1 s h_7) 0 h_6)
def S30_l5 (p0_1 : Sl) (p1_1 : Sl) (K : Bool → H → Prop) (X : Int → H → Prop) (v6 : Int) (h_4 : H) : Prop :=
  (if (decide (v6 < (p0_1.l : Int))) = true then (∃ a54 : Addr, p0_1.a = some a54 ∧ 0 ≤ v6 ∧ v6 < (p0_1.l : Int) ∧ (∃ (v55_0 : Int) (v55_1 : Int) (v55_2 : Sl), H.rdn h_4 (Addr.add a54 (Int.toNat v6 * 3)) 3 [(.int .i64 v55_0), (.int .i64 v55_1), (.slice v55_2.a v55_2.l v55_2.c)] ∧ (∃ a59 : Addr, p1_1.a = some a59 ∧ 0 ≤ v6 ∧ v6 < (p1_1.l : Int) ∧ (∃ (v60_0 : Int) (v60_1 : Int) (v60_2 : Sl), H.rdn h_4 (Addr.add a59 (Int.toNat v6 * 3)) 3 [(.int .i64 v60_0), (.int .i64 v60_1), (.slice v60_2.a v60_2.l v60_2.c)] ∧ S30_j4 K v6 X v55_2 v60_2 (((v55_0 != v60_0) || (v55_1 != v60_1)) || ((v55_2.l : Int) != (v60_2.l : Int))) h_4)))) else S30_j1 K h_4)
def S30_j6 (p0_1 : Sl) (p1_1 : Sl) (K : Bool → H → Prop) (h_2 : H) : Prop :=
  lfp (fun X s h_4 => S30_l5 p0_1 p1_1 K X s h_4) 0 h_2
def S30_l7 (p0_0 : Sl) (p0_1 : Sl) (p1_0 : Sl) (p1_1 : Sl) (K : Bool → H → Prop) (X_2 : Int → H → Prop) (v5 : Int) (h_8 : H) : Prop :=
  (if (decide (v5 < (p0_0.l : Int))) = true then (∃ a36 : Addr, p0_0.a = some a36 ∧ 0 ≤ v5 ∧ v5 < (p0_0.l : Int) ∧ (∃ (v37_0 : Int) (v37_1 : Int) (v37_2 : Int) (v37_3 : Int), H.rdn h_8 (Addr.add a36 (Int.toNat v5 * 4)) 4 [(.int .i64 v37_0), (.int .i64 v37_1), (.int .i64 v37_2), (.int .i64 v37_3)] ∧ (∃ a41 : Addr, p1_0.a = some a41 ∧ 0 ≤ v5 ∧ v5 < (p1_0.l : Int) ∧ (∃ (v42_0 : Int) (v42_1 : Int) (v42_2 : Int) (v42_3 : Int), H.rdn h_8 (Addr.add a41 (Int.toNat v5 * 4)) 4 [(.int .i64 v42_0), (.int .i64 v42_1), (.int .i64 v42_2), (.int .i64 v42_3)] ∧ (if (!(((v37_0 == v42_0) && ((v37_1 == v42_1) && true)) && (((v37_2 == v42_2) && ((v37_3 == v42_3) && true)) && true))) = true then K false h_8 else X_2 (IntKind.wrap .i64 (v5 + 1)) h_8))))) else S30_j6 p0_1 p1_1 K h_8)
def S30_j8 (p0_0 : Sl) (p0_1 : Sl) (p1_0 : Sl) (p1_1 : Sl) (K : Bool → H → Prop) (v25 : Bool) (h_1 : H) : Prop :=
  (if v25 = true then K false h_1 else lfp (fun X_2 s h_8 => S30_l7 p0_0 p0_1 p1_0 p1_1 K X_2 s h_8) 0 h_1)
def S30 (p0_0 : Sl) (p0_1 : Sl) (p1_0 : Sl) (p1_1 : Sl) (h : H) (K : Bool → H → Prop) : Prop :=
  S30_j8 p0_0 p0_1 p1_0 p1_1 K (((p0_0.l : Int) != (p1_0.l : Int)) || ((p0_1.l : Int) != (p1_1.l : Int))) h
end Go.Proofs.YtimadnngfhbfiaaDoor
end

section
/- PRINTED by wip/gen.py: what slices.Equal[[]muntin/api.Box,muntin/api.Box] does, in the words of Mu. -/
namespace Go.Proofs.YtimadnngfhbfiaaDoor
open Go Go.Mu
/- slices.Equal[[]muntin/api.Box,muntin/api.Box] -/
def S65_j1 (K : Bool → H → Prop) (h_1 : H) : Prop :=
  K true h_1
def S65_l2 (p0 : Sl) (p1 : Sl) (K : Bool → H → Prop) (X : Int → H → Prop) (v13 : Int) (h_2 : H) : Prop :=
  (if (decide (v13 < (p0.l : Int))) = true then (∃ a18 : Addr, p0.a = some a18 ∧ 0 ≤ v13 ∧ v13 < (p0.l : Int) ∧ (∃ (v19_0 : Int) (v19_1 : Int) (v19_2 : Int) (v19_3 : Int), H.rdn h_2 (Addr.add a18 (Int.toNat v13 * 4)) 4 [(.int .i64 v19_0), (.int .i64 v19_1), (.int .i64 v19_2), (.int .i64 v19_3)] ∧ (∃ a22 : Addr, p1.a = some a22 ∧ 0 ≤ v13 ∧ v13 < (p1.l : Int) ∧ (∃ (v23_0 : Int) (v23_1 : Int) (v23_2 : Int) (v23_3 : Int), H.rdn h_2 (Addr.add a22 (Int.toNat v13 * 4)) 4 [(.int .i64 v23_0), (.int .i64 v23_1), (.int .i64 v23_2), (.int .i64 v23_3)] ∧ (if (!(((v19_0 == v23_0) && ((v19_1 == v23_1) && true)) && (((v19_2 == v23_2) && ((v19_3 == v23_3) && true)) && true))) = true then K false h_2 else X (IntKind.wrap .i64 (v13 + 1)) h_2))))) else S65_j1 K h_2)
def S65 (p0 : Sl) (p1 : Sl) (h : H) (K : Bool → H → Prop) : Prop :=
  (if ((p0.l : Int) != (p1.l : Int)) = true then K false h else lfp (fun X s h_2 => S65_l2 p0 p1 K X s h_2) 0 h)
end Go.Proofs.YtimadnngfhbfiaaDoor
end

section
/- PRINTED by wip/gen.py: what slices.Equal[[]muntin/api.Point,muntin/api.Point] does, in the words of Mu. -/
namespace Go.Proofs.YtimadnngfhbfiaaDoor
open Go Go.Mu
/- slices.Equal[[]muntin/api.Point,muntin/api.Point] -/
def S91_j1 (K : Bool → H → Prop) (h_1 : H) : Prop :=
  K true h_1
def S91_l2 (p0 : Sl) (p1 : Sl) (K : Bool → H → Prop) (X : Int → H → Prop) (v13 : Int) (h_2 : H) : Prop :=
  (if (decide (v13 < (p0.l : Int))) = true then (∃ a18 : Addr, p0.a = some a18 ∧ 0 ≤ v13 ∧ v13 < (p0.l : Int) ∧ (∃ (v19_0 : Int) (v19_1 : Int), H.rdn h_2 (Addr.add a18 (Int.toNat v13 * 2)) 2 [(.int .i64 v19_0), (.int .i64 v19_1)] ∧ (∃ a22 : Addr, p1.a = some a22 ∧ 0 ≤ v13 ∧ v13 < (p1.l : Int) ∧ (∃ (v23_0 : Int) (v23_1 : Int), H.rdn h_2 (Addr.add a22 (Int.toNat v13 * 2)) 2 [(.int .i64 v23_0), (.int .i64 v23_1)] ∧ (if (!((v19_0 == v23_0) && ((v19_1 == v23_1) && true))) = true then K false h_2 else X (IntKind.wrap .i64 (v13 + 1)) h_2))))) else S91_j1 K h_2)
def S91 (p0 : Sl) (p1 : Sl) (h : H) (K : Bool → H → Prop) : Prop :=
  (if ((p0.l : Int) != (p1.l : Int)) = true then K false h else lfp (fun X s h_2 => S91_l2 p0 p1 K X s h_2) 0 h)
end Go.Proofs.YtimadnngfhbfiaaDoor
end

section
/- PRINTED by wip/gen.py: what muntin/draw.same does, in the words of Mu. -/
namespace Go.Proofs.YtimadnngfhbfiaaDoor
open Go Go.Mu
/- muntin/draw.same -/
def S67_j1 (K : Bool → H → Prop) (v4 : Bool) (h_1 : H) : Prop :=
  K v4 h_1
def S67 (p0_0 : Int) (p0_1 : Int) (p0_2 : Sl) (p1_0 : Int) (p1_1 : Int) (p1_2 : Sl) (h : H) (K : Bool → H → Prop) : Prop :=
  (if (p0_0 == p1_0) = true then (if (p0_1 == p1_1) = true then S91 p0_2 p1_2 h (fun (v22 : Bool) (h_2 : H) => S67_j1 K v22 h_2) else S67_j1 K false h) else S67_j1 K false h)
end Go.Proofs.YtimadnngfhbfiaaDoor
end

section
/- PRINTED by wip/gen.py: what slices.EqualFunc[[]muntin/api.Route,[]muntin/api.Route,muntin/api.Route,muntin/api.Route] does, in the words of Mu. -/
namespace Go.Proofs.YtimadnngfhbfiaaDoor
open Go Go.Mu
/- slices.EqualFunc[[]muntin/api.Route,[]muntin/api.Route,muntin/api.Route,muntin/api.Route] -/
def S66_j1 (K : Bool → H → Prop) (h_1 : H) : Prop :=
  K true h_1
def S66_l2 (p0 : Sl) (p1 : Sl) (K : Bool → H → Prop) (X : Int → H → Prop) (v17 : Int) (h_2 : H) : Prop :=
  (if (decide (v17 < (p0.l : Int))) = true then (∃ a20 : Addr, p0.a = some a20 ∧ 0 ≤ v17 ∧ v17 < (p0.l : Int) ∧ (∃ (v21_0 : Int) (v21_1 : Int) (v21_2 : Sl), H.rdn h_2 (Addr.add a20 (Int.toNat v17 * 3)) 3 [(.int .i64 v21_0), (.int .i64 v21_1), (.slice v21_2.a v21_2.l v21_2.c)] ∧ (∃ a24 : Addr, p1.a = some a24 ∧ 0 ≤ v17 ∧ v17 < (p1.l : Int) ∧ (∃ (v25_0 : Int) (v25_1 : Int) (v25_2 : Sl), H.rdn h_2 (Addr.add a24 (Int.toNat v17 * 3)) 3 [(.int .i64 v25_0), (.int .i64 v25_1), (.slice v25_2.a v25_2.l v25_2.c)] ∧ S67 v21_0 v21_1 v21_2 v25_0 v25_1 v25_2 h_2 (fun (v29 : Bool) (h_3 : H) => (if (!v29) = true then K false h_3 else X (IntKind.wrap .i64 (v17 + 1)) h_3)))))) else S66_j1 K h_2)
def S66 (p0 : Sl) (p1 : Sl) (h : H) (K : Bool → H → Prop) : Prop :=
  (if ((p0.l : Int) != (p1.l : Int)) = true then K false h else lfp (fun X s h_2 => S66_l2 p0 p1 K X s h_2) 0 h)
end Go.Proofs.YtimadnngfhbfiaaDoor
end

section
/- PRINTED by wip/gen.py: what muntin/draw.Equal does, in the words of Mu. -/
namespace Go.Proofs.YtimadnngfhbfiaaDoor
open Go Go.Mu
/- muntin/draw.Equal -/
def S35_j1 (K : Bool → H → Prop) (v4 : Bool) (h_1 : H) : Prop :=
  K v4 h_1
def S35 (p0_0 : Sl) (p0_1 : Sl) (p1_0 : Sl) (p1_1 : Sl) (h : H) (K : Bool → H → Prop) : Prop :=
  S65 p0_0 p1_0 h (fun (v9 : Bool) (h_2 : H) => (if v9 = true then S66 p0_1 p1_1 h_2 (fun (v15 : Bool) (h_3 : H) => S35_j1 K v15 h_3) else S35_j1 K false h_2))
end Go.Proofs.YtimadnngfhbfiaaDoor
end

section
/- PRINTED by wip/gen.py: what slices.Clone[[]muntin/api.Point,muntin/api.Point] does, in the words of Mu. -/
namespace Go.Proofs.YtimadnngfhbfiaaDoor
open Go Go.Mu
/- slices.Clone[[]muntin/api.Point,muntin/api.Point] -/
def S28 (p0 : Sl) (h : H) (K : Sl → H → Prop) : Prop :=
  (if (Option.isNone p0.a) = true then K Sl.nil h else (∀ (b5 : Nat) (h_1 : H), h b5 = none → h_1 = H.set h b5 (.row ⟨[], 0, 67, true, true⟩) → ((p0.a = none → p0.l = 0 → p0.c = 0) ∧ appS 67 2 16 ⟨some ⟨b5, 0, none⟩, 0, 0⟩ p0 h_1 (fun (v7 : Sl) (h_2 : H) => K v7 h_2))))
end Go.Proofs.YtimadnngfhbfiaaDoor
end

section
/-
  Whether two drawings are the same: the document's; the program's; a copy of points.
-/
namespace Go.Proofs.YtimadnngfhbfiaaDoor
open Go Go.Mu Go.Shape Go.Rk
variable {h h0 : H}
set_option maxHeartbeats 4000000
theorem pair_eq (x y : Pt) : ((x.1 == y.1) && ((x.2 == y.2) && true)) = decide (x = y) := by
  obtain ⟨a, b⟩ := x
  obtain ⟨c, d⟩ := y
  rw [Bool.eq_iff_iff]; simp
theorem boxes_eq (x y : Pt × Pt) : (((x.1.1 == y.1.1) && ((x.1.2 == y.1.2) && true)) && (((x.2.1 == y.2.1) && ((x.2.2 == y.2.2) && true)) && true)) = decide (x = y) := by
  obtain ⟨⟨a, b⟩, c, d⟩ := x
  obtain ⟨⟨a', b'⟩, c', d'⟩ := y
  rw [Bool.eq_iff_iff]; simp [and_assoc]
theorem take_eq {α : Type} {l m : List α} {i : Nat} {x y : α} (hx : l[i]? = some x) (hy : m[i]? = some y) (q : l.take i = m.take i) (e : x = y) : l.take (i + 1) = m.take (i + 1) := by
  rw [List.take_add_one, List.take_add_one, hx, hy, q, e]
theorem c91 {p q : Sl} {l m : List Pt} (rp : Rd h p 2 encP l) (rq : Rd h q 2 encP m) (hn : l.length < 100000) {K : Bool → H → Prop} (k : K (decide (l = m)) h) : S91 p q h K := by
  have g1 := rp.len
  have g2 := rq.len
  unfold S91
  by_cases hl : l.length = m.length
  · rw [if_neg (by simp only [bne_iff_ne, ne_eq]; omega)]
    refine lfp.count l.length (fun i (u : Int) h' => u = (i : Int) ∧ h' = h ∧ l.take i = m.take i) (fun X i u h' hi ⟨q1, q2, q3⟩ next => ?_) ⟨rfl, rfl, rfl⟩
    subst q1 q2
    unfold S91_l2 S91_j1
    rw [g1]
    by_cases hlt : i < l.length
    · rw [if_pos (by simp only [decide_eq_true_eq]; omega)]
      obtain ⟨x, hx⟩ : ∃ x, l[i]? = some x := ⟨_, List.getElem?_eq_getElem hlt⟩
      obtain ⟨y, hy⟩ : ∃ x, m[i]? = some x := ⟨_, List.getElem?_eq_getElem (by omega)⟩
      obtain ⟨a, ha, r1⟩ := rp.ix hx
      obtain ⟨a2, ha2, r2⟩ := rq.ix hy
      refine ⟨a, ha, by omega, by omega, x.1, x.2, by rw [Int.toNat_natCast]; exact r1, a2, ha2, by omega, by omega, y.1, y.2, by rw [Int.toNat_natCast]; exact r2, ?_⟩
      rw [pair_eq]
      by_cases hxy : x = y
      · rw [if_neg (by simp [hxy]), wsucc (by omega)]
        exact next hlt _ _ ⟨rfl, rfl, take_eq hx hy q3 hxy⟩
      · rw [if_pos (by simp [hxy])]
        rw [decide_eq_false (fun e => hxy (by rw [e, hy] at hx; exact (Option.some.inj hx).symm))] at k
        exact k
    · rw [if_neg (by simp only [decide_eq_true_eq]; omega)]
      rw [List.take_of_length_le (by omega), List.take_of_length_le (by omega)] at q3
      rw [decide_eq_true q3] at k
      exact k
  · rw [if_pos (by simp only [bne_iff_ne, ne_eq]; omega)]
    rw [decide_eq_false (fun e => hl (by rw [e]))] at k
    exact k
theorem c65 {p q : Sl} {l m : List (Pt × Pt)} (rp : Rd h p 4 encBx l) (rq : Rd h q 4 encBx m) (hn : l.length < 100000) {K : Bool → H → Prop} (k : K (decide (l = m)) h) : S65 p q h K := by
  have g1 := rp.len
  have g2 := rq.len
  unfold S65
  by_cases hl : l.length = m.length
  · rw [if_neg (by simp only [bne_iff_ne, ne_eq]; omega)]
    refine lfp.count l.length (fun i (u : Int) h' => u = (i : Int) ∧ h' = h ∧ l.take i = m.take i) (fun X i u h' hi ⟨q1, q2, q3⟩ next => ?_) ⟨rfl, rfl, rfl⟩
    subst q1 q2
    unfold S65_l2 S65_j1
    rw [g1]
    by_cases hlt : i < l.length
    · rw [if_pos (by simp only [decide_eq_true_eq]; omega)]
      obtain ⟨x, hx⟩ : ∃ x, l[i]? = some x := ⟨_, List.getElem?_eq_getElem hlt⟩
      obtain ⟨y, hy⟩ : ∃ x, m[i]? = some x := ⟨_, List.getElem?_eq_getElem (by omega)⟩
      obtain ⟨a, ha, r1⟩ := rp.ix hx
      obtain ⟨a2, ha2, r2⟩ := rq.ix hy
      refine ⟨a, ha, by omega, by omega, x.1.1, x.1.2, x.2.1, x.2.2, by rw [Int.toNat_natCast]; exact r1, a2, ha2, by omega, by omega, y.1.1, y.1.2, y.2.1, y.2.2, by rw [Int.toNat_natCast]; exact r2, ?_⟩
      rw [boxes_eq]
      by_cases hxy : x = y
      · rw [if_neg (by simp [hxy]), wsucc (by omega)]
        exact next hlt _ _ ⟨rfl, rfl, take_eq hx hy q3 hxy⟩
      · rw [if_pos (by simp [hxy])]
        rw [decide_eq_false (fun e => hxy (by rw [e, hy] at hx; exact (Option.some.inj hx).symm))] at k
        exact k
    · rw [if_neg (by simp only [decide_eq_true_eq]; omega)]
      rw [List.take_of_length_le (by omega), List.take_of_length_le (by omega)] at q3
      rw [decide_eq_true q3] at k
      exact k
  · rw [if_pos (by simp only [bne_iff_ne, ne_eq]; omega)]
    rw [decide_eq_false (fun e => hl (by rw [e]))] at k
    exact k
theorem c66 {p q : Sl} {l m : List Rt} (rp : Rd h p 3 Rt.enc l) (rq : Rd h q 3 Rt.enc m) (pp : ∀ x ∈ l, Rd h x.p 2 encP x.pts) (pq : ∀ x ∈ m, Rd h x.p 2 encP x.pts) (hn : l.length < 100000) (hs : ∀ x ∈ l, x.pts.length < 100000) {K : Bool → H → Prop} (k : K (decide (l.map Rt.strip = m.map Rt.strip)) h) : S66 p q h K := by
  have g1 := rp.len
  have g2 := rq.len
  unfold S66
  by_cases hl : l.length = m.length
  · rw [if_neg (by simp only [bne_iff_ne, ne_eq]; omega)]
    refine lfp.count l.length (fun i (u : Int) h' => u = (i : Int) ∧ h' = h ∧ (l.map Rt.strip).take i = (m.map Rt.strip).take i) (fun X i u h' hi ⟨q1, q2, q3⟩ next => ?_) ⟨rfl, rfl, rfl⟩
    subst q1 q2
    unfold S66_l2 S66_j1
    rw [g1]
    by_cases hlt : i < l.length
    · rw [if_pos (by simp only [decide_eq_true_eq]; omega)]
      obtain ⟨x, hx⟩ : ∃ x, l[i]? = some x := ⟨_, List.getElem?_eq_getElem hlt⟩
      obtain ⟨y, hy⟩ : ∃ x, m[i]? = some x := ⟨_, List.getElem?_eq_getElem (by omega)⟩
      have hx' : (l.map Rt.strip)[i]? = some x.strip := by rw [List.getElem?_map, hx]; rfl
      have hy' : (m.map Rt.strip)[i]? = some y.strip := by rw [List.getElem?_map, hy]; rfl
      obtain ⟨a, ha, r1⟩ := rp.ix hx
      obtain ⟨a2, ha2, r2⟩ := rq.ix hy
      refine ⟨a, ha, by omega, by omega, x.f, x.t, x.p, by rw [Int.toNat_natCast]; exact r1, a2, ha2, by omega, by omega, y.f, y.t, y.p, by rw [Int.toNat_natCast]; exact r2, ?_⟩
      have no : x.strip ≠ y.strip → K false h' := fun hne => by
        rw [decide_eq_false (fun e => hne (by rw [e, hy'] at hx'; exact (Option.some.inj hx').symm))] at k
        exact k
      unfold S67 S67_j1
      by_cases e1 : x.f = y.f
      · rw [if_pos (by simpa using e1)]
        by_cases e2 : x.t = y.t
        · rw [if_pos (by simpa using e2)]
          refine c91 (pp x (List.mem_of_getElem? hx)) (pq y (List.mem_of_getElem? hy)) (hs x (List.mem_of_getElem? hx)) ?_
          dsimp only
          by_cases e3 : x.pts = y.pts
          · rw [if_neg (by simp [e3]), wsucc (by omega)]
            exact next hlt _ _ ⟨rfl, rfl, take_eq hx' hy' q3 (by simp [Rt.strip, e1, e2, e3])⟩
          · rw [if_pos (by simp [e3])]
            exact no fun e => e3 (by simp only [Rt.strip, Prod.mk.injEq] at e; exact e.2.2)
        · rw [if_neg (by simpa using e2)]
          dsimp only
          rw [if_pos (by decide)]
          exact no fun e => e2 (by simp only [Rt.strip, Prod.mk.injEq] at e; exact e.2.1)
      · rw [if_neg (by simpa using e1)]
        dsimp only
        rw [if_pos (by decide)]
        exact no fun e => e1 (by simp only [Rt.strip, Prod.mk.injEq] at e; exact e.1)
    · rw [if_neg (by simp only [decide_eq_true_eq]; omega)]
      rw [List.take_of_length_le (by simp; omega), List.take_of_length_le (by simp; omega)] at q3
      rw [decide_eq_true q3] at k
      exact k
  · rw [if_pos (by simp only [bne_iff_ne, ne_eq]; omega)]
    rw [decide_eq_false (fun e => hl (by have := congrArg List.length e; simpa using this))] at k
    exact k
/-- A drawing that isn't too great. -/
structure Small (bs : List (Pt × Pt)) (rs : List Rt) : Prop where
  b : bs.length ≤ 100
  r : rs.length ≤ 100
  p : ∀ x ∈ rs, x.pts.length ≤ 500
theorem c35 {b r b' r' : Sl} {bs bs' : List (Pt × Pt)} {rs rs' : List Rt} (d : Drw h b r bs rs) (d' : Drw h b' r' bs' rs') (s : Small bs rs) {K : Bool → H → Prop} (k : K (decide (bs = bs' ∧ rs.map Rt.strip = rs'.map Rt.strip)) h) : S35 b r b' r' h K := by
  have s0 := s.b
  have s1 := s.r
  unfold S35 S35_j1
  refine c65 d.b d'.b (by omega) ?_
  by_cases e : bs = bs'
  · rw [if_pos (by simpa using e)]
    refine c66 d.r d'.r d.p d'.p (by omega) (fun x hx => by have := s.p x hx; omega) ?_
    simpa [e] using k
  · rw [if_neg (by simpa using e)]
    simpa [e] using k
theorem c30 {b r b' r' : Sl} {bs bs' : List (Pt × Pt)} {rs rs' : List Rt} (d : Drw h b r bs rs) (d' : Drw h b' r' bs' rs') (s : Small bs rs) {K : Bool → H → Prop} (k : K (decide (bs = bs' ∧ rs.map Rt.strip = rs'.map Rt.strip)) h) : S30 b r b' r' h K := by
  have s0 := s.b
  have s1 := s.r
  have g1 := d.b.len
  have g2 := d'.b.len
  have g3 := d.r.len
  have g4 := d'.r.len
  unfold S30 S30_j8
  by_cases hl : ¬ (bs.length = bs'.length ∧ rs.length = rs'.length)
  · rw [if_pos (by simp only [Bool.or_eq_true, bne_iff_ne, ne_eq]; omega)]
    rw [decide_eq_false (fun e => hl ⟨by rw [e.1], by have := congrArg List.length e.2; simpa using this⟩)] at k
    exact k
  have hl := Decidable.not_not.1 hl
  obtain ⟨hl0, hl1⟩ := hl
  rw [if_neg (by simp only [Bool.or_eq_true, bne_iff_ne, ne_eq]; omega)]
  refine lfp.count bs.length (fun i (u : Int) h' => u = (i : Int) ∧ h' = h ∧ bs.take i = bs'.take i) (fun X i u h' hi ⟨q1, q2, q3⟩ next => ?_) ⟨rfl, rfl, rfl⟩
  subst q1 q2
  unfold S30_l7 S30_j6
  rw [g1]
  by_cases hlt : i < bs.length
  · rw [if_pos (by simp only [decide_eq_true_eq]; omega)]
    obtain ⟨x, hx⟩ : ∃ x, bs[i]? = some x := ⟨_, List.getElem?_eq_getElem hlt⟩
    obtain ⟨y, hy⟩ : ∃ x, bs'[i]? = some x := ⟨_, List.getElem?_eq_getElem (by omega)⟩
    obtain ⟨a, ha, r1⟩ := d.b.ix hx
    obtain ⟨a2, ha2, r2⟩ := d'.b.ix hy
    refine ⟨a, ha, by omega, by omega, x.1.1, x.1.2, x.2.1, x.2.2, by rw [Int.toNat_natCast]; exact r1, a2, ha2, by omega, by omega, y.1.1, y.1.2, y.2.1, y.2.2, by rw [Int.toNat_natCast]; exact r2, ?_⟩
    rw [boxes_eq]
    by_cases hxy : x = y
    · rw [if_neg (by simp [hxy]), wsucc (by omega)]
      exact next hlt _ _ ⟨rfl, rfl, take_eq hx hy q3 hxy⟩
    · rw [if_pos (by simp [hxy])]
      rw [decide_eq_false (fun e => hxy (by rw [e.1, hy] at hx; exact (Option.some.inj hx).symm))] at k
      exact k
  · rw [if_neg (by simp only [decide_eq_true_eq]; omega)]
    rw [List.take_of_length_le (by omega), List.take_of_length_le (by omega)] at q3
    clear next
    refine lfp.count rs.length (fun i (u : Int) h2 => u = (i : Int) ∧ h2 = h' ∧ (rs.map Rt.strip).take i = (rs'.map Rt.strip).take i) (fun Y i u h2 hi ⟨q1, q2, q4⟩ next => ?_) ⟨rfl, rfl, rfl⟩
    subst q1 q2
    unfold S30_l5 S30_j1
    rw [g3]
    by_cases hlt : i < rs.length
    · rw [if_pos (by simp only [decide_eq_true_eq]; omega)]
      obtain ⟨x, hx⟩ : ∃ x, rs[i]? = some x := ⟨_, List.getElem?_eq_getElem hlt⟩
      obtain ⟨y, hy⟩ : ∃ x, rs'[i]? = some x := ⟨_, List.getElem?_eq_getElem (by omega)⟩
      have hx' : (rs.map Rt.strip)[i]? = some x.strip := by rw [List.getElem?_map, hx]; rfl
      have hy' : (rs'.map Rt.strip)[i]? = some y.strip := by rw [List.getElem?_map, hy]; rfl
      obtain ⟨a, ha, r1⟩ := d.r.ix hx
      obtain ⟨a2, ha2, r2⟩ := d'.r.ix hy
      refine ⟨a, ha, by omega, by omega, x.f, x.t, x.p, by rw [Int.toNat_natCast]; exact r1, a2, ha2, by omega, by omega, y.f, y.t, y.p, by rw [Int.toNat_natCast]; exact r2, ?_⟩
      have no : x.strip ≠ y.strip → K false h2 := fun hne => by
        rw [decide_eq_false (fun e => hne (by rw [e.2, hy'] at hx'; exact (Option.some.inj hx').symm))] at k
        exact k
      have px := d.p x (List.mem_of_getElem? hx)
      have py := d'.p y (List.mem_of_getElem? hy)
      have hsx := s.p x (List.mem_of_getElem? hx)
      have n1 := px.len
      have n2 := py.len
      unfold S30_j4
      by_cases e1 : x.f = y.f ∧ x.t = y.t ∧ x.pts.length = y.pts.length
      · obtain ⟨e1, e2, e3⟩ := e1
        rw [if_neg (by simp only [Bool.or_eq_true, bne_iff_ne, ne_eq]; omega)]
        refine lfp.count x.pts.length (fun j (u : Int) h3 => u = (j : Int) ∧ h3 = h2 ∧ x.pts.take j = y.pts.take j) (fun Z j u h3 hj ⟨q1, q2, q5⟩ next2 => ?_) ⟨rfl, rfl, rfl⟩
        subst q1 q2
        unfold S30_l3 S30_j2
        rw [n1]
        by_cases hlt2 : j < x.pts.length
        · rw [if_pos (by simp only [decide_eq_true_eq]; omega)]
          obtain ⟨u, hu⟩ : ∃ u, x.pts[j]? = some u := ⟨_, List.getElem?_eq_getElem hlt2⟩
          obtain ⟨v, hv⟩ : ∃ u, y.pts[j]? = some u := ⟨_, List.getElem?_eq_getElem (by omega)⟩
          obtain ⟨a3, ha3, r3⟩ := px.ix hu
          obtain ⟨a4, ha4, r4⟩ := py.ix hv
          refine ⟨a3, ha3, by omega, by omega, u.1, u.2, by rw [Int.toNat_natCast]; exact r3, a4, ha4, by omega, by omega, v.1, v.2, by rw [Int.toNat_natCast]; exact r4, ?_⟩
          rw [pair_eq]
          by_cases huv : u = v
          · rw [if_neg (by simp [huv]), wsucc (by omega)]
            exact next2 hlt2 _ _ ⟨rfl, rfl, take_eq hu hv q5 huv⟩
          · rw [if_pos (by simp [huv])]
            refine no fun e => huv ?_
            simp only [Rt.strip, Prod.mk.injEq] at e
            rw [e.2.2, hv] at hu; exact (Option.some.inj hu).symm
        · rw [if_neg (by simp only [decide_eq_true_eq]; omega), wsucc (by omega)]
          rw [List.take_of_length_le (by omega), List.take_of_length_le (by omega)] at q5
          exact next hlt _ _ ⟨rfl, rfl, take_eq hx' hy' q4 (by simp [Rt.strip, e1, e2, q5])⟩
      · rw [if_pos (by simp only [Bool.or_eq_true, bne_iff_ne, ne_eq]; omega)]
        refine no fun e => e1 ?_
        simp only [Rt.strip, Prod.mk.injEq] at e
        exact ⟨e.1, e.2.1, by rw [e.2.2]⟩
    · rw [if_neg (by simp only [decide_eq_true_eq]; omega)]
      rw [List.take_of_length_le (by simp; omega), List.take_of_length_le (by simp; omega)] at q4
      rw [decide_eq_true ⟨q3, q4⟩] at k
      exact k
end Go.Proofs.YtimadnngfhbfiaaDoor
end

section
/- PRINTED by wip/gen.py: what muntin/draw.Size does, in the words of Mu. -/
namespace Go.Proofs.YtimadnngfhbfiaaDoor
open Go Go.Mu
/- muntin/draw.Size -/
def S34_j1 (K : Int → Int → H → Prop) (c10_0 : Int) (c10_1 : Int) (c9_0 : Int) (c9_1 : Int) (h_3 : H) : Prop :=
  K (IntKind.wrap .i64 (c10_0 - c9_0)) (IntKind.wrap .i64 (c10_1 - c9_1)) h_3
def S34_l2 (K : Int → Int → H → Prop) (v4_1 : Sl) (X : (Int × Int × Int × Int × Int) → H → Prop) (v51 : Int) (c10_0_1 : Int) (c10_1_1 : Int) (c9_0_1 : Int) (c9_1_1 : Int) (h_4 : H) : Prop :=
  (if (decide (v51 < (v4_1.l : Int))) = true then (∃ a53 : Addr, v4_1.a = some a53 ∧ 0 ≤ v51 ∧ v51 < (v4_1.l : Int) ∧ (∃ (v54_0 : Int) (v54_1 : Int), H.rdn h_4 (Addr.add a53 (Int.toNat v51 * 2)) 2 [(.int .i64 v54_0), (.int .i64 v54_1)] ∧ X ((IntKind.wrap .i64 (v51 + 1)), (if v54_0 > c10_0_1 then v54_0 else c10_0_1), (if v54_1 > c10_1_1 then v54_1 else c10_1_1), (if v54_0 < c9_0_1 then v54_0 else c9_0_1), (if v54_1 < c9_1_1 then v54_1 else c9_1_1)) h_4)) else S34_j1 K c10_0_1 c10_1_1 c9_0_1 c9_1_1 h_4)
def S34_j3 (K : Int → Int → H → Prop) (v4_1 : Sl) (h_2 : H) : Prop :=
  (if ((v4_1.l : Int) == 0) = true then K 0 0 h_2 else (∃ a44 : Addr, v4_1.a = some a44 ∧ 0 ≤ (0 : Int) ∧ 0 < (v4_1.l : Int) ∧ (∃ (v45_0 : Int) (v45_1 : Int), H.rdn h_2 (Addr.add a44 (Int.toNat 0 * 2)) 2 [(.int .i64 v45_0), (.int .i64 v45_1)] ∧ (∃ a47 : Addr, v4_1.a = some a47 ∧ 0 ≤ (0 : Int) ∧ 0 < (v4_1.l : Int) ∧ (∃ (v48_0 : Int) (v48_1 : Int), H.rdn h_2 (Addr.add a47 (Int.toNat 0 * 2)) 2 [(.int .i64 v48_0), (.int .i64 v48_1)] ∧ H.rdn h_2 (Addr.add a47 (Int.toNat 0 * 2)) 2 [(.int .i64 v48_0), (.int .i64 v48_1)] ∧ lfp (fun X s h_4 => S34_l2 K v4_1 X s.1 s.2.1 s.2.2.1 s.2.2.2.1 s.2.2.2.2 h_4) (0, v48_0, v48_1, v45_0, v45_1) h_2)))))
def S34_l4 (p0_1 : Sl) (K : Int → Int → H → Prop) (X_1 : (Sl × Int) → H → Prop) (v4_2 : Sl) (v31 : Int) (h_5 : H) : Prop :=
  (if (decide (v31 < (p0_1.l : Int))) = true then (∃ a33 : Addr, p0_1.a = some a33 ∧ 0 ≤ v31 ∧ v31 < (p0_1.l : Int) ∧ (∃ (v34_0 : Int) (v34_1 : Int) (v34_2 : Sl), H.rdn h_5 (Addr.add a33 (Int.toNat v31 * 3)) 3 [(.int .i64 v34_0), (.int .i64 v34_1), (.slice v34_2.a v34_2.l v34_2.c)] ∧ ((v34_2.a = none → v34_2.l = 0 → v34_2.c = 0) ∧ appS 67 2 16 v4_2 v34_2 h_5 (fun (v38 : Sl) (h_6 : H) => X_1 (v38, (IntKind.wrap .i64 (v31 + 1))) h_6)))) else S34_j3 K v4_2 h_5)
def S34_j5 (p0_1 : Sl) (K : Int → Int → H → Prop) (v4 : Sl) (h_1 : H) : Prop :=
  lfp (fun X_1 s h_5 => S34_l4 p0_1 K X_1 s.1 s.2 h_5) (v4, 0) h_1
def S34_l6 (p0_0 : Sl) (p0_1 : Sl) (K : Int → Int → H → Prop) (X_2 : (Sl × Int) → H → Prop) (v4_3 : Sl) (v16 : Int) (h_7 : H) : Prop :=
  (if (decide (v16 < (p0_0.l : Int))) = true then (∃ a18 : Addr, p0_0.a = some a18 ∧ 0 ≤ v16 ∧ v16 < (p0_0.l : Int) ∧ (∃ (v19_0 : Int) (v19_1 : Int) (v19_2 : Int) (v19_3 : Int), H.rdn h_7 (Addr.add a18 (Int.toNat v16 * 4)) 4 [(.int .i64 v19_0), (.int .i64 v19_1), (.int .i64 v19_2), (.int .i64 v19_3)] ∧ app 67 2 16 v4_3 2 [(.int .i64 v19_0), (.int .i64 v19_1), (.int .i64 v19_2), (.int .i64 v19_3)] h_7 (fun (v26 : Sl) (h_8 : H) => X_2 (v26, (IntKind.wrap .i64 (v16 + 1))) h_8))) else S34_j5 p0_1 K v4_3 h_7)
def S34 (p0_0 : Sl) (p0_1 : Sl) (h : H) (K : Int → Int → H → Prop) : Prop :=
  lfp (fun X_2 s h_7 => S34_l6 p0_0 p0_1 K X_2 s.1 s.2 h_7) (Sl.nil, 0) h
end Go.Proofs.YtimadnngfhbfiaaDoor
end

section
/- PRINTED by wip/gen.py: what muntin/draw.far does, in the words of Mu. -/
namespace Go.Proofs.YtimadnngfhbfiaaDoor
open Go Go.Mu
/- muntin/draw.far -/
def S68 (p0_0 : Int) (p0_1 : Int) (p1_0 : Int) (p1_1 : Int) (h : H) (K : Int → H → Prop) : Prop :=
  K (IntKind.wrap .i64 ((if (IntKind.wrap .i64 (p1_0 - p0_0)) > (IntKind.wrap .i64 (p0_0 - p1_0)) then (IntKind.wrap .i64 (p1_0 - p0_0)) else (IntKind.wrap .i64 (p0_0 - p1_0))) + (if (IntKind.wrap .i64 (p1_1 - p0_1)) > (IntKind.wrap .i64 (p0_1 - p1_1)) then (IntKind.wrap .i64 (p1_1 - p0_1)) else (IntKind.wrap .i64 (p0_1 - p1_1))))) h
end Go.Proofs.YtimadnngfhbfiaaDoor
end

section
/- PRINTED by wip/gen.py: what muntin/draw.Length does, in the words of Mu. -/
namespace Go.Proofs.YtimadnngfhbfiaaDoor
open Go Go.Mu
/- muntin/draw.Length -/
def S36_j1 (K : Int → H → Prop) (v3 : Int) (h_1 : H) : Prop :=
  K v3 h_1
def S36_j2 (v10 : Int) (X : (Int × Int) → H → Prop) (v3_2 : Int) (h_3 : H) : Prop :=
  X (v3_2, (IntKind.wrap .i64 (v10 + 1))) h_3
def S36_l3 (v10 : Int) (X : (Int × Int) → H → Prop) (v13_2 : Sl) (X_1 : (Int × Int) → H → Prop) (v3_3 : Int) (v6 : Int) (h_4 : H) : Prop :=
  (if (decide (v6 < (v13_2.l : Int))) = true then (∃ a26 : Addr, v13_2.a = some a26 ∧ 0 ≤ (IntKind.wrap .i64 (v6 - 1)) ∧ (IntKind.wrap .i64 (v6 - 1)) < (v13_2.l : Int) ∧ (∃ (v27_0 : Int) (v27_1 : Int), H.rdn h_4 (Addr.add a26 (Int.toNat (IntKind.wrap .i64 (v6 - 1)) * 2)) 2 [(.int .i64 v27_0), (.int .i64 v27_1)] ∧ (∃ a31 : Addr, v13_2.a = some a31 ∧ 0 ≤ v6 ∧ v6 < (v13_2.l : Int) ∧ (∃ (v32_0 : Int) (v32_1 : Int), H.rdn h_4 (Addr.add a31 (Int.toNat v6 * 2)) 2 [(.int .i64 v32_0), (.int .i64 v32_1)] ∧ S68 v27_0 v27_1 v32_0 v32_1 h_4 (fun (v33 : Int) (h_5 : H) => X_1 ((IntKind.wrap .i64 (v3_3 + v33)), (IntKind.wrap .i64 (v6 + 1))) h_5))))) else S36_j2 v10 X v3_3 h_4)
def S36_l4 (p0_1 : Sl) (K : Int → H → Prop) (X : (Int × Int) → H → Prop) (v3_1 : Int) (v10 : Int) (h_2 : H) : Prop :=
  (if (decide (v10 < (p0_1.l : Int))) = true then (∃ a12 : Addr, p0_1.a = some a12 ∧ 0 ≤ v10 ∧ v10 < (p0_1.l : Int) ∧ (∃ (v13_0 : Int) (v13_1 : Int) (v13_2 : Sl), H.rdn h_2 (Addr.add a12 (Int.toNat v10 * 3)) 3 [(.int .i64 v13_0), (.int .i64 v13_1), (.slice v13_2.a v13_2.l v13_2.c)] ∧ lfp (fun X_1 s h_4 => S36_l3 v10 X v13_2 X_1 s.1 s.2 h_4) (v3_1, 1) h_2)) else S36_j1 K v3_1 h_2)
def S36 (p0_0 : Sl) (p0_1 : Sl) (h : H) (K : Int → H → Prop) : Prop :=
  lfp (fun X s h_2 => S36_l4 p0_1 K X s.1 s.2 h_2) (0, 0) h
end Go.Proofs.YtimadnngfhbfiaaDoor
end

section
/- PRINTED by wip/gen.py: what muntin/muntinlaw25.wakes does, in the words of Mu. -/
namespace Go.Proofs.YtimadnngfhbfiaaDoor
open Go Go.Mu
/- muntin/muntinlaw25.wakes -/
def S29_j1 (K : Bool → H → Prop) (v0 : Bool) (h_7 : H) : Prop :=
  K v0 h_7
def S29  (h : H) (K : Bool → H → Prop) : Prop :=
  (∀ (b8 : Nat) (h_1 : H), h b8 = none → h_1 = H.set h b8 (.row ⟨[(.bool false), (.bool false)], 2, 4, true, true⟩) → (∀ (b10 : Nat) (h_2 : H), h_1 b10 = none → h_2 = H.set h_1 b10 (.row ⟨[(.int .i64 0), (.int .i64 1), (.int .i64 0), (.string ⟨#[]⟩)], 4, 54, true, true⟩) → (∀ (b16 : Nat) (h_3 : H), h_2 b16 = none → h_3 = H.set h_2 b16 (.row ⟨[(.int .i64 3), (.int .i64 7), (.int .i64 9), (.int .i64 7)], 4, 67, true, true⟩) → S27 ⟨some ⟨b8, 0, none⟩, 2, 2⟩ ⟨some ⟨b10, 0, none⟩, 1, 1⟩ ⟨some ⟨b16, 0, none⟩, 2, 2⟩ h_3 (fun (v17_0_0 : Sl) (v17_0_1 : Sl) (v17_1 : Int) (h_4 : H) => S34 v17_0_0 v17_0_1 h_4 (fun (v22_0 : Int) (v22_1 : Int) (h_5 : H) => S27 ⟨some ⟨b8, 0, none⟩, 2, 2⟩ ⟨some ⟨b10, 0, none⟩, 1, 1⟩ Sl.nil h_5 (fun (v27_0_0 : Sl) (v27_0_1 : Sl) (v27_1 : Int) (h_6 : H) => (if (v17_1 == 0) = true then (if ((v17_0_0.l : Int) == 2) = true then (∃ a41 : Addr, v17_0_0.a = some a41 ∧ 0 ≤ (1 : Int) ∧ 1 < (v17_0_0.l : Int) ∧ (∃ (v43_0 : Int) (v43_1 : Int), H.rdn h_6 (Addr.add (Addr.add a41 (Int.toNat 1 * 4)) 2) 2 [(.int .i64 v43_0), (.int .i64 v43_1)] ∧ (if ((v43_0 == 1) && ((v43_1 == 0) && true)) = true then (if ((v17_0_1.l : Int) == 1) = true then S36 v17_0_0 v17_0_1 h_6 (fun (v55 : Int) (h_8 : H) => (if (v55 == 1) = true then (if (v22_0 == 1) = true then (if (v22_1 == 0) = true then (if (v27_1 == 2) = true then S35 v17_0_0 v17_0_1 v17_0_0 v17_0_1 h_8 (fun (v73 : Bool) (h_9 : H) => S29_j1 K v73 h_9) else S29_j1 K false h_8) else S29_j1 K false h_8) else S29_j1 K false h_8) else S29_j1 K false h_8)) else S29_j1 K false h_6) else S29_j1 K false h_6))) else S29_j1 K false h_6) else S29_j1 K false h_6)))))))
end Go.Proofs.YtimadnngfhbfiaaDoor
end

section
/-
  A copy of points; a drawing's length, and size; what a law asks as a sign of life.
-/
namespace Go.Proofs.YtimadnngfhbfiaaDoor
open Go Go.Mu Go.Shape Go.Rk
variable {h h0 : H}
set_option maxHeartbeats 4000000
/-- Some elements are appended. -/
theorem appl {ρ : Type} {M : ρ → Res} (r : ρ) {s : Sl} {e size bytes m : Nat} {α : Type} {enc : α → List Value} {l : List α} (ys : List α) (st : St h0 h M) (hr : M r = .arr s e size (l.flatMap enc)) (hsz : ∀ x, (enc x).length = size) (hp : 0 < size) (hl : l.length < 90000) (hm : ys.length = m) (hm2 : m < 10000) (hb : bytes ≤ 1000) {K : Sl → H → Prop}
    (k : ∀ s' h', St h0 h' (put M r (.arr s' e size ((l ++ ys).flatMap enc))) → K s' h') : app e size bytes s m (ys.flatMap enc) h K := by
  have hlen := (st.arr r hr (fun x _ => hsz x) hp).1
  refine ⟨_, _, st.own r hr, by simp only [maxLen]; omega, ?_, fun s' h' ap => ?_⟩
  · have : (s.l + m) * bytes ≤ 100001 * 1000 := Nat.mul_le_mul (by omega) hb
    omega
  · obtain ⟨st1, _⟩ := st.app r hr rfl (by rw [flatMap_len fun x _ => hsz x, hm]) ap (put M r (.arr s' e size ((l ++ ys).flatMap enc))) (by rw [put_eq, List.flatMap_append]) (put_or _ _ _)
    exact k _ _ st1
theorem rdAll {s : Sl} {size : Nat} {α : Type} {enc : α → List Value} {l : List α} (r : Rd h s size enc l) (hp : 0 < size) {a : Addr} (ha : s.a = some a) (hl : 0 < s.l) : h.rdn a (s.l * size) (l.flatMap enc) := by
  obtain ⟨h1, h2, h3⟩ := r
  obtain ⟨a', ha', q⟩ := h3 hl
  have : a' = a := by rw [ha] at ha'; exact (Option.some.inj ha').symm
  subst this
  have hlen : (l.flatMap enc).length = l.length * size := flatMap_len h2
  refine ⟨by rw [hlen, h1], fun j v hj => ?_⟩
  have hjl : j < l.length * size := by have := (List.getElem?_eq_some_iff.1 hj).1; omega
  have hi : j / size < l.length := (Nat.div_lt_iff_lt_mul hp).2 hjl
  have hx : l[j / size]? = some l[j / size] := List.getElem?_eq_getElem hi
  have hr := (q (j / size) _ hx)
  have hs := h2 _ (List.mem_of_getElem? hx)
  have hm : j % size < size := Nat.mod_lt _ hp
  have hv : (enc l[j / size])[j % size]? = some v := by
    have e1 : (enc l[j / size])[j % size]? = some ((enc l[j / size])[j % size]'(by omega)) := List.getElem?_eq_getElem (by omega)
    have := flatMap_at h2 hx e1
    rw [Nat.div_add_mod' j size, hj] at this
    rw [e1]; exact this.symm
  have := hr.at (j % size) hv
  rwa [Addr.add_add, Nat.div_add_mod' j size] at this
theorem rd_all {α : Type} {enc : α → List Value} {size : Nat} {s : Sl} {l : List α} {a : Addr} (r : Rd h s size enc l) (hp : 0 < size) (ha : s.a = some a) : h.rdn a (s.l * size) (l.flatMap enc) := by
  rcases Nat.eq_zero_or_pos s.l with hz | hz
  · have hl := r.1
    have hn : l = [] := List.eq_nil_of_length_eq_zero (by omega)
    subst hn
    rw [hz, Nat.zero_mul]
    exact ⟨rfl, fun j v hj => by simp at hj⟩
  · exact rdAll r hp ha hz
/-- Another slice's elements are appended. -/
theorem appSl {ρ : Type} {M : ρ → Res} (r : ρ) {s t : Sl} {e size bytes : Nat} {α : Type} {enc : α → List Value} {l ys : List α} (st : St h0 h M) (hr : M r = .arr s e size (l.flatMap enc)) (hsz : ∀ x, (enc x).length = size) (h1 : ∀ x, ∀ u ∈ enc x, u.oneCell' = true) (hp : 0 < size) (rt : Rd h t size enc ys) (hl : l.length < 90000) (hm2 : ys.length < 10000) (hb : bytes ≤ 1000) {K : Sl → H → Prop}
    (k : ∀ s' h', St h0 h' (put M r (.arr s' e size ((l ++ ys).flatMap enc))) → K s' h') : appS e size bytes s t h K := by
  have hlen := (st.arr r hr (fun x _ => hsz x) hp).1
  have hlt := rt.1
  refine ⟨_, _, st.own r hr, ?_⟩
  cases ha : t.a with
  | none =>
    have hz : t.l = 0 := by
      rcases Nat.eq_zero_or_pos t.l with h | h
      · exact h
      · obtain ⟨a, ha2, _⟩ := rt.2.2 h
        rw [ha] at ha2; cases ha2
    have hn : ys = [] := List.eq_nil_of_length_eq_zero (by omega)
    subst hn
    refine .inl ⟨rfl, hz, k _ _ ?_⟩
    rw [List.append_nil, put_self _ _ _ hr]; exact st
  | some a =>
    refine .inr ⟨a, ys.flatMap enc, rfl, rd_all rt hp ha, fun u hu => ?_, by simp only [maxLen]; omega, ?_, fun s' h' ap => ?_⟩
    · obtain ⟨x, _, hx⟩ := List.mem_flatMap.1 hu
      exact h1 x u hx
    · have : (s.l + t.l) * bytes ≤ 100001 * 1000 := Nat.mul_le_mul (by omega) hb
      omega
    · obtain ⟨st1, _⟩ := st.app r hr rfl (by rw [flatMap_len fun x _ => hsz x, hlt]) ap (put M r (.arr s' e size ((l ++ ys).flatMap enc))) (by rw [put_eq, List.flatMap_append]) (put_or _ _ _)
      exact k _ _ st1
theorem oneP (p : Pt) : ∀ u ∈ encP p, u.oneCell' = true := by
  intro u hu
  simp only [encP, List.mem_cons, List.not_mem_nil, or_false] at hu
  rcases hu with rfl | rfl <;> rfl
theorem c28 {p : Sl} {l : List Pt} (r : Rd h p 2 encP l) (hn : l.length < 10000) {K : Sl → H → Prop} (k : ∀ s' h', St h h' (fun _ : Unit => .arr s' 67 2 (l.flatMap encP)) → K s' h') : S28 p h K := by
  unfold S28
  cases ha : p.a with
  | none =>
    rw [if_pos (by rfl)]
    have hn : l = [] := List.eq_nil_of_length_eq_zero (by
      rcases Nat.eq_zero_or_pos p.l with h | h
      · rw [← r.1]; exact h
      · obtain ⟨a, ha2, _⟩ := r.2.2 h
        rw [ha] at ha2; cases ha2)
    subst hn
    exact k _ _ (St.nil1 h)
  | some a =>
    rw [if_neg (by simp)]
    intro b5 h1 n1 e1
    refine ⟨fun h => (by cases h), ?_⟩
    have st1 : St h h1 (fun _ : Unit => .arr ⟨some ⟨b5, 0, none⟩, 0, 0⟩ 67 2 (([] : List Pt).flatMap encP)) := by
      rw [e1]
      exact (St.init (ρ := Unit) h).allocArr (k := 0) (cap := 0) (e := 67) (size := 2) (xs := []) n1 () (fun _ => .arr ⟨some ⟨b5, 0, none⟩, 0, 0⟩ 67 2 []) rfl (Nat.le_refl _) (by decide) rfl (fun i hi => (hi rfl).elim)
    refine appSl (enc := encP) () st1 rfl (fun _ => rfl) oneP (by decide) (r.le st1.le) (by decide) hn (by decide) fun s' h' st2 => ?_
    rw [put_unit, List.nil_append] at st2
    exact k _ _ st2
/- ---------------------------------------------------------------- length -/
structure InB (p : Pt) : Prop where
  a : -1000000 ≤ p.1
  b : p.1 ≤ 1000000
  c : -1000000 ≤ p.2
  d : p.2 ≤ 1000000
def dst (p q : Pt) : Int := (if q.1 - p.1 > p.1 - q.1 then q.1 - p.1 else p.1 - q.1) + (if q.2 - p.2 > p.2 - q.2 then q.2 - p.2 else p.2 - q.2)
theorem dst_b {p q : Pt} (hp : InB p) (hq : InB q) : 0 ≤ dst p q ∧ dst p q ≤ 4000000 := by
  obtain ⟨a1, a2, a3, a4⟩ := hp
  obtain ⟨b1, b2, b3, b4⟩ := hq
  unfold dst
  split <;> split <;> omega
theorem c68 {p q : Pt} (hp : InB p) (hq : InB q) {K : Int → H → Prop} (k : K (dst p q) h) : S68 p.1 p.2 q.1 q.2 h K := by
  have hd := dst_b hp hq
  obtain ⟨a1, a2, a3, a4⟩ := hp
  obtain ⟨b1, b2, b3, b4⟩ := hq
  unfold S68
  rw [wrap64_id (x := q.1 - p.1) (by omega) (by omega), wrap64_id (x := p.1 - q.1) (by omega) (by omega), wrap64_id (x := q.2 - p.2) (by omega) (by omega), wrap64_id (x := p.2 - q.2) (by omega) (by omega)]
  have := wrap64_id (x := dst p q) (by omega) (by omega)
  unfold dst at this k
  rw [this]; exact k
def lenT (l : List Pt) : Nat → Int
  | 0 => 0
  | 1 => 0
  | k + 2 => lenT l (k + 1) + dst (l.getD k (0, 0)) (l.getD (k + 1) (0, 0))
theorem inB0 : InB (0, 0) := ⟨by decide, by decide, by decide, by decide⟩
theorem inB_getD {l : List Pt} (hl : ∀ p ∈ l, InB p) (i : Nat) : InB (l.getD i (0, 0)) := by
  rw [List.getD_eq_getElem?_getD]
  cases e : l[i]? with
  | none => exact inB0
  | some p => exact hl p (List.mem_of_getElem? e)
theorem lenT_b {l : List Pt} (hl : ∀ p ∈ l, InB p) : ∀ k, 0 ≤ lenT l k ∧ lenT l k ≤ 4000000 * (k : Int)
  | 0 => by simp [lenT]
  | 1 => by simp [lenT]
  | k + 2 => by
    have ih := lenT_b hl (k + 1)
    have := dst_b (inB_getD hl k) (inB_getD hl (k + 1))
    simp only [lenT]
    omega
def lenR (rs : List (Int × Int × List Pt)) : Int := rs.foldl (fun s x => s + lenT x.2.2 x.2.2.length) 0
theorem lenR_take {rs : List (Int × Int × List Pt)} {i : Nat} {x : Int × Int × List Pt} (e : rs[i]? = some x) : lenR (rs.take (i + 1)) = lenR (rs.take i) + lenT x.2.2 x.2.2.length := take_foldl _ _ _ e
theorem lenR_b {rs : List (Int × Int × List Pt)} (hb : ∀ x ∈ rs, x.2.2.length ≤ 500 ∧ ∀ p ∈ x.2.2, InB p) : ∀ i, 0 ≤ lenR (rs.take i) ∧ lenR (rs.take i) ≤ 2000000000 * (i : Int)
  | 0 => by simp [lenR]
  | i + 1 => by
    have ih := lenR_b hb i
    by_cases hi : i < rs.length
    · have he := List.getElem?_eq_getElem hi
      rw [lenR_take he]
      have hm := hb _ (List.mem_of_getElem? he)
      have := lenT_b hm.2 (rs[i]).2.2.length
      omega
    · have h1 : rs.take (i + 1) = rs.take i := by rw [List.take_of_length_le (by omega), List.take_of_length_le (by omega)]
      rw [h1]; omega
/-- A drawing that isn't too far. -/
structure Near (bs : List (Pt × Pt)) (rs : List Rt) : Prop where
  b : ∀ x ∈ bs, InB x.1 ∧ InB x.2
  r : ∀ x ∈ rs, ∀ p ∈ x.pts, InB p
theorem c36 {b r : Sl} {bs : List (Pt × Pt)} {rs : List Rt} (d : Drw h b r bs rs) (s : Small bs rs) (nr : Near bs rs) {K : Int → H → Prop} (k : K (lenR (rs.map Rt.strip)) h) : S36 b r h K := by
  have g := d.r.len
  have s1 := s.r
  have hb : ∀ x ∈ rs.map Rt.strip, x.2.2.length ≤ 500 ∧ ∀ p ∈ x.2.2, InB p := fun x hx => by
    obtain ⟨y, hy, rfl⟩ := List.mem_map.1 hx
    exact ⟨s.p y hy, nr.r y hy⟩
  unfold S36
  refine lfp.count rs.length (fun i (u : Int × Int) h' => u.1 = lenR ((rs.map Rt.strip).take i) ∧ u.2 = (i : Int) ∧ h' = h) (fun X i u h' hi ⟨q1, q2, q3⟩ next => ?_) ⟨rfl, rfl, rfl⟩
  obtain ⟨u1, u2⟩ := u
  simp only at q1 q2 q3; subst q1 q2 q3
  simp only
  unfold S36_l4 S36_j1
  rw [g]
  have bR := lenR_b hb i
  by_cases hlt : i < rs.length
  · rw [if_pos (by simp only [decide_eq_true_eq]; omega)]
    obtain ⟨x, hx⟩ : ∃ x, rs[i]? = some x := ⟨_, List.getElem?_eq_getElem hlt⟩
    have hm := List.mem_of_getElem? hx
    have hx' : (rs.map Rt.strip)[i]? = some x.strip := by rw [List.getElem?_map, hx]; rfl
    obtain ⟨a, ha, r1⟩ := d.r.ix hx
    have px := d.p x hm
    have n1 := px.len
    have hs := s.p x hm
    have hn := nr.r x hm
    refine ⟨a, ha, by omega, by omega, x.f, x.t, x.p, by rw [Int.toNat_natCast]; exact r1, ?_⟩
    refine lfp.count (x.pts.length - 1) (fun j (u : Int × Int) h2 => u.1 = lenR ((rs.map Rt.strip).take i) + lenT x.pts (j + 1) ∧ u.2 = ((j + 1 : Nat) : Int) ∧ h2 = h') (fun Y j u h2 hj ⟨q1, q2, q3⟩ next2 => ?_) ⟨by simp [lenT], rfl, rfl⟩
    obtain ⟨u1, u2⟩ := u
    simp only at q1 q2 q3; subst q1 q2 q3
    simp only
    unfold S36_l3 S36_j2
    rw [n1]
    by_cases hlt2 : j + 1 < x.pts.length
    · rw [if_pos (by simp only [decide_eq_true_eq]; omega)]
      have hw : IntKind.i64.wrap (((j + 1 : Nat) : Int) - 1) = ((j : Nat) : Int) := wrapN (by omega) (by omega)
      obtain ⟨a1, ha1, k1⟩ := px.ix (getD_of (l := x.pts) (i := j) (by omega))
      obtain ⟨a2, ha2, k2⟩ := px.ix (getD_of (l := x.pts) (i := j + 1) (by omega))
      refine ⟨a1, ha1, by rw [hw]; omega, by rw [hw]; omega, _, _, by rw [hw, Int.toNat_natCast]; exact k1, a2, ha2, by omega, by omega, _, _, by rw [Int.toNat_natCast]; exact k2, ?_⟩
      refine c68 (inB_getD hn j) (inB_getD hn (j + 1)) ?_
      have bT := lenT_b hn (j + 2)
      have bT1 := lenT_b hn (j + 1)
      have eT : lenT x.pts (j + 2) = lenT x.pts (j + 1) + dst (x.pts.getD j (0, 0)) (x.pts.getD (j + 1) (0, 0)) := rfl
      have hj2 : ((j + 2 : Nat) : Int) ≤ 500 := by omega
      have i100 : (i : Int) ≤ 100 := by omega
      rw [wsucc (by omega), Int.add_assoc, ← eT, wrap64_id (by omega) (by omega)]
      exact next2 (by omega) _ _ ⟨rfl, rfl, rfl⟩
    · rw [if_neg (by simp only [decide_eq_true_eq]; omega), wsucc (by omega)]
      refine next hlt _ _ ⟨?_, rfl, rfl⟩
      rw [lenR_take hx']
      show _ = _ + lenT x.pts x.pts.length
      by_cases hz : x.pts.length = 0
      · have : j = 0 := by omega
        rw [hz, this]; rfl
      · have : j + 1 = x.pts.length := by omega
        rw [this]
  · rw [if_neg (by simp only [decide_eq_true_eq]; omega)]
    rw [List.take_of_length_le (by simp; omega)]
    exact k
/- ---------------------------------------------------------------- size -/
def extF (s : Int × Int × Int × Int) (p : Pt) : Int × Int × Int × Int := (if p.1 > s.1 then p.1 else s.1, if p.2 > s.2.1 then p.2 else s.2.1, if p.1 < s.2.2.1 then p.1 else s.2.2.1, if p.2 < s.2.2.2 then p.2 else s.2.2.2)
def ext (l : List Pt) : Int × Int × Int × Int := l.foldl extF ((l.getD 0 (0, 0)).1, (l.getD 0 (0, 0)).2, (l.getD 0 (0, 0)).1, (l.getD 0 (0, 0)).2)
def sizeOf' (l : List Pt) : Int × Int := if l.length = 0 then (0, 0) else ((ext l).1 - (ext l).2.2.1, (ext l).2.1 - (ext l).2.2.2)
def allP (bs : List (Pt × Pt)) (rs : List (Int × Int × List Pt)) : List Pt := bs.flatMap (fun b => [b.1, b.2]) ++ rs.flatMap fun x => x.2.2
structure In4 (s : Int × Int × Int × Int) : Prop where
  a : InB (s.1, s.2.1)
  b : InB (s.2.2.1, s.2.2.2)
theorem ext_b : ∀ (l : List Pt) (s : Int × Int × Int × Int), (∀ p ∈ l, InB p) → In4 s → In4 (l.foldl extF s)
  | [], _, _, hs => hs
  | p :: l, s, hl, hs => by
    refine ext_b l _ (fun q hq => hl q (List.mem_cons_of_mem _ hq)) ?_
    obtain ⟨⟨a1, a2, a3, a4⟩, b1, b2, b3, b4⟩ := hs
    obtain ⟨c1, c2, c3, c4⟩ := hl p (by simp)
    simp only at a1 a2 a3 a4 b1 b2 b3 b4
    refine ⟨⟨?_, ?_, ?_, ?_⟩, ?_, ?_, ?_, ?_⟩ <;> simp only [extF] <;> split <;> omega
theorem flat_len {α : Type} (f : α → List Pt) (m : Nat) : ∀ (l : List α), (∀ x ∈ l, (f x).length ≤ m) → (l.flatMap f).length ≤ m * l.length
  | [], _ => by simp
  | x :: l, hh => by
    rw [List.flatMap_cons, List.length_append, List.length_cons, Nat.mul_succ]
    have h1 := hh x (by simp)
    have h2 := flat_len f m l fun y hy => hh y (List.mem_cons_of_mem _ hy)
    omega
theorem flat_take {α : Type} (f : α → List Pt) {l : List α} {i : Nat} {x : α} (e : l[i]? = some x) : (l.take (i + 1)).flatMap f = (l.take i).flatMap f ++ f x := by
  rw [List.take_add_one, e, List.flatMap_append]; simp
theorem allP_len {bs : List (Pt × Pt)} {rs : List Rt} (s : Small bs rs) : ∀ i j, ((bs.take i).flatMap (fun b => [b.1, b.2])).length + ((rs.take j).flatMap fun x => x.pts).length ≤ 50200 := fun i j => by
  have h1 := flat_len (fun b : Pt × Pt => [b.1, b.2]) 2 (bs.take i) (fun _ _ => Nat.le_refl _)
  have h2 := flat_len (fun x : Rt => x.pts) 500 (rs.take j) (fun x hx => s.p x (List.mem_of_mem_take hx))
  have h3 : (bs.take i).length ≤ 100 := Nat.le_trans (by simp; omega) s.b
  have h4 : (rs.take j).length ≤ 100 := Nat.le_trans (by simp; omega) s.r
  omega
theorem allP_in {bs : List (Pt × Pt)} {rs : List Rt} (nr : Near bs rs) : ∀ p ∈ allP bs (rs.map Rt.strip), InB p := fun p hp => by
  unfold allP at hp
  rcases List.mem_append.1 hp with hp | hp
  · obtain ⟨x, hx, hp⟩ := List.mem_flatMap.1 hp
    simp only [List.mem_cons, List.not_mem_nil, or_false] at hp
    rcases hp with rfl | rfl
    · exact (nr.b x hx).1
    · exact (nr.b x hx).2
  · obtain ⟨x, hx, hp⟩ := List.mem_flatMap.1 hp
    obtain ⟨y, hy, rfl⟩ := List.mem_map.1 hx
    exact nr.r y hy p hp
theorem c34 {b r : Sl} {bs : List (Pt × Pt)} {rs : List Rt} (d : Drw h b r bs rs) (s : Small bs rs) (nr : Near bs rs) {K : Int → Int → H → Prop} (k : ∀ h', h.Le h' → K (sizeOf' (allP bs (rs.map Rt.strip))).1 (sizeOf' (allP bs (rs.map Rt.strip))).2 h') : S34 b r h K := by
  have g := d.r.len
  have g0 := d.b.len
  have s1 := s.r
  have s0 := s.b
  unfold S34
  refine lfp.count bs.length (fun i (u : Sl × Int) h' => u.2 = (i : Int) ∧ St h h' (fun _ : Unit => .arr u.1 67 2 (((bs.take i).flatMap (fun b => [b.1, b.2])).flatMap encP))) (fun X i u h1 hi ⟨q1, st⟩ next => ?_) ⟨rfl, St.nil1 h⟩
  obtain ⟨v4, u2⟩ := u
  simp only at q1 st; subst q1
  simp only
  unfold S34_l6
  rw [g0]
  by_cases hlt : i < bs.length
  · rw [if_pos (by simp only [decide_eq_true_eq]; omega)]
    obtain ⟨x, hx⟩ : ∃ x, bs[i]? = some x := ⟨_, List.getElem?_eq_getElem hlt⟩
    obtain ⟨a, ha, r1⟩ := (d.b.le st.le).ix hx
    refine ⟨a, ha, by omega, by omega, _, _, _, _, by rw [Int.toNat_natCast]; exact r1, ?_⟩
    have hL := allP_len s i 0
    refine appl (bytes := 16) (enc := encP) () [x.1, x.2] st rfl (fun _ => rfl) (by decide) (by omega) rfl (by simp) (by decide) fun s' h5 st5 => ?_
    rw [put_unit] at st5
    rw [wsucc (by omega)]
    refine next hlt _ _ ⟨rfl, ?_⟩
    rw [flat_take _ hx]; exact st5
  · rw [if_neg (by simp only [decide_eq_true_eq]; omega)]
    obtain rfl : i = bs.length := by omega
    have hLb := allP_len s bs.length
    rw [List.take_length] at st hLb
    clear next
    unfold S34_j5
    refine lfp.count rs.length (fun i (u : Sl × Int) h' => u.2 = (i : Int) ∧ St h h' (fun _ : Unit => .arr u.1 67 2 ((bs.flatMap (fun b => [b.1, b.2]) ++ (rs.take i).flatMap fun x => x.pts).flatMap encP))) (fun Y i u h2 hi ⟨q1, st⟩ next => ?_) ⟨rfl, by simpa using st⟩
    obtain ⟨v4, u2⟩ := u
    simp only at q1 st; subst q1
    simp only
    unfold S34_l4
    rw [g]
    by_cases hlt : i < rs.length
    · rw [if_pos (by simp only [decide_eq_true_eq]; omega)]
      obtain ⟨x, hx⟩ : ∃ x, rs[i]? = some x := ⟨_, List.getElem?_eq_getElem hlt⟩
      have hm := List.mem_of_getElem? hx
      obtain ⟨a, ha, r1⟩ := (d.r.le st.le).ix hx
      have hL := hLb i
      have hs := s.p x hm
      refine ⟨a, ha, by omega, by omega, x.f, x.t, x.p, by rw [Int.toNat_natCast]; exact r1, d.z x hm, ?_⟩
      refine appSl (enc := encP) () st rfl (fun _ => rfl) oneP (by decide) ((d.p x hm).le st.le) (by rw [List.length_append]; omega) (by omega) (by decide) fun s' h5 st5 => ?_
      rw [put_unit] at st5
      rw [wsucc (by omega)]
      refine next hlt _ _ ⟨rfl, ?_⟩
      rw [flat_take _ hx, ← List.append_assoc]; exact st5
    · rw [if_neg (by simp only [decide_eq_true_eq]; omega)]
      obtain rfl : i = rs.length := by omega
      have hL := hLb rs.length
      rw [List.take_length] at st hL
      clear next
      have eA : bs.flatMap (fun b => [b.1, b.2]) ++ (rs.flatMap fun x => x.pts) = allP bs (rs.map Rt.strip) := by
        unfold allP
        rw [List.flatMap_map]; rfl
      have hin := allP_in nr
      have hLA : (allP bs (rs.map Rt.strip)).length ≤ 50200 := by rw [← eA, List.length_append]; exact hL
      rw [eA] at st
      generalize allP bs (rs.map Rt.strip) = A at *
      have rA : Rd h2 v4 2 encP A := st.arr (enc := encP) () rfl (fun _ _ => rfl) (by decide)
      have nA := rA.len
      unfold S34_j3
      rw [nA]
      by_cases hz : A.length = 0
      · rw [if_pos (by simp only [beq_iff_eq]; omega)]
        have := k _ st.le
        rw [sizeOf', if_pos hz] at this
        exact this
      · rw [if_neg (by simp only [beq_iff_eq]; omega)]
        obtain ⟨a, ha, r0⟩ := rA.ix (getD_of (l := A) (i := 0) (by omega))
        refine ⟨a, ha, by decide, by omega, _, _, r0, a, ha, by decide, by omega, _, _, r0, r0, ?_⟩
        have h0b : In4 ((A.getD 0 (0, 0)).1, (A.getD 0 (0, 0)).2, (A.getD 0 (0, 0)).1, (A.getD 0 (0, 0)).2) := ⟨inB_getD hin 0, inB_getD hin 0⟩
        refine lfp.count A.length (fun i (u : Int × Int × Int × Int × Int) h3 => u.1 = (i : Int) ∧ u.2 = (A.take i).foldl extF ((A.getD 0 (0, 0)).1, (A.getD 0 (0, 0)).2, (A.getD 0 (0, 0)).1, (A.getD 0 (0, 0)).2) ∧ h3 = h2) (fun Z i u h3 hi ⟨q1, q2, q3⟩ next => ?_) ⟨rfl, rfl, rfl⟩
        obtain ⟨u1, u2⟩ := u
        simp only at q1 q2 q3; subst q1 q3
        simp only
        unfold S34_l2
        rw [nA]
        by_cases hlt : i < A.length
        · rw [if_pos (by simp only [decide_eq_true_eq]; omega)]
          obtain ⟨x, hx⟩ : ∃ x, A[i]? = some x := ⟨_, List.getElem?_eq_getElem hlt⟩
          obtain ⟨a1, ha1, r1⟩ := rA.ix hx
          refine ⟨a1, ha1, by omega, by omega, _, _, by rw [Int.toNat_natCast]; exact r1, ?_⟩
          rw [wsucc (by omega)]
          refine next hlt _ _ ⟨rfl, ?_, rfl⟩
          rw [take_foldl _ _ _ hx, ← q2]; rfl
        · rw [if_neg (by simp only [decide_eq_true_eq]; omega)]
          rw [List.take_of_length_le (by omega)] at q2
          have hb := ext_b A _ hin h0b
          rw [← q2] at hb
          obtain ⟨⟨a1, a2, a3, a4⟩, b1, b2, b3, b4⟩ := hb
          simp only at a1 a2 a3 a4 b1 b2 b3 b4
          unfold S34_j1
          rw [wrap64_id (by omega) (by omega), wrap64_id (by omega) (by omega)]
          have := k _ st.le
          rw [sizeOf', if_neg hz] at this
          unfold ext at this
          rw [← q2] at this
          exact this
end Go.Proofs.YtimadnngfhbfiaaDoor
end

section
/- PRINTED by wip/gen.py: what muntin/muntinlaw25.DrawTells does, in the words of Mu. -/
namespace Go.Proofs.YtimadnngfhbfiaaDoor
open Go Go.Mu
/- muntin/muntinlaw25.DrawTells -/
def S8_j1 (K : Bool → H → Prop) (v6 : Bool) (h_9 : H) : Prop :=
  K v6 h_9
def S8_j2 (K : Bool → H → Prop) (v6_1 : Bool) (h_11 : H) : Prop :=
  K v6_1 h_11
def S8_j3 (K : Bool → H → Prop) (v18_0 : Sl) (v18_1 : Sl) (v20 : Int) (v8 : Sl) (h_4 : H) : Prop :=
  S27 v18_0 v18_1 v8 h_4 (fun (v61_0_0 : Sl) (v61_0_1 : Sl) (v61_1 : Int) (h_5 : H) => S28 v8 h_5 (fun (v67 : Sl) (h_6 : H) => app 67 2 16 v67 1 [(.int .i64 0), (.int .i64 0)] h_6 (fun (v70 : Sl) (h_7 : H) => S27 v18_0 v18_1 v70 h_7 (fun (v71_0_0 : Sl) (v71_0_1 : Sl) (v71_1 : Int) (h_8 : H) => (if (v20 != 0) = true then S29  h_8 (fun (v76 : Bool) (h_10 : H) => S8_j1 K (((v76 && (v61_1 == v20)) && (v71_1 == v20)) && ((IntKind.wrap .i64 ((v61_0_0.l : Int) + (v61_0_1.l : Int))) == 0)) h_10) else S29  h_8 (fun (v97 : Bool) (h_12 : H) => (if v97 = true then (if (v61_1 == 0) = true then (if (v71_1 == 2) = true then S31 v18_0 v18_1 v8 h_12 (fun (v110_0 : Sl) (v110_1 : Sl) (h_13 : H) => S30 v61_0_0 v61_0_1 v110_0 v110_1 h_13 (fun (v111 : Bool) (h_14 : H) => S8_j2 K v111 h_14)) else S8_j2 K false h_12) else S8_j2 K false h_12) else S8_j2 K false h_12)))))))
def S8_j4 (v8_1 : Sl) (v28 : Int) (X : (Sl × Int) → H → Prop) (c12_0_1 : Int) (c12_1_1 : Int) (h_17 : H) : Prop :=
  app 67 2 16 v8_1 1 [(.int .i64 c12_0_1), (.int .i64 c12_1_1)] h_17 (fun (v56 : Sl) (h_18 : H) => X (v56, (IntKind.wrap .i64 (v28 + 1))) h_18)
def S8_j5 (p2 : Sl) (v8_1 : Sl) (v28 : Int) (X : (Sl × Int) → H → Prop) (c12_0 : Int) (c12_1 : Int) (h_16 : H) : Prop :=
  (if (decide (v28 < (p2.l : Int))) = true then (∃ a50 : Addr, p2.a = some a50 ∧ 0 ≤ v28 ∧ v28 < (p2.l : Int) ∧ (∃ (v51 : Int), H.rd h_16 (Addr.add a50 (Int.toNat v28 * 1)) = some (.int .i64 v51) ∧ S8_j4 v8_1 v28 X c12_0 v51 h_16)) else S8_j4 v8_1 v28 X c12_0 c12_1 h_16)
def S8_l6 (p1 : Sl) (p2 : Sl) (K : Bool → H → Prop) (v18_0 : Sl) (v18_1 : Sl) (v20 : Int) (v9 : Int) (X : (Sl × Int) → H → Prop) (v8_1 : Sl) (v28 : Int) (h_15 : H) : Prop :=
  (if (decide (v28 < v9)) = true then (if (decide (v28 < (p1.l : Int))) = true then (∃ a41 : Addr, p1.a = some a41 ∧ 0 ≤ v28 ∧ v28 < (p1.l : Int) ∧ (∃ (v42 : Int), H.rd h_15 (Addr.add a41 (Int.toNat v28 * 1)) = some (.int .i64 v42) ∧ S8_j5 p2 v8_1 v28 X v42 (IntKind.wrap .i64 (0 - v28)) h_15)) else S8_j5 p2 v8_1 v28 X v28 (IntKind.wrap .i64 (0 - v28)) h_15) else S8_j3 K v18_0 v18_1 v20 v8_1 h_15)
def S8_j7 (p1 : Sl) (p2 : Sl) (K : Bool → H → Prop) (v18_0 : Sl) (v18_1 : Sl) (v20 : Int) (v9 : Int) (h_3 : H) : Prop :=
  lfp (fun X s h_15 => S8_l6 p1 p2 K v18_0 v18_1 v20 v9 X s.1 s.2 h_15) (Sl.nil, 0) h_3
def S8 (p0_0 : Sl) (p0_1 : Sl) (p0_2 : Sl) (p1 : Sl) (p2 : Sl) (h : H) (K : Bool → H → Prop) : Prop :=
  S11 p0_0 p0_1 p0_2 6 h (fun (v18_0 : Sl) (v18_1 : Sl) (h_1 : H) => S13 v18_0 v18_1 h_1 (fun (v20 : Int) (h_2 : H) => (if (v20 == 0) = true then S15 v18_0 v18_1 h_2 (fun (v24_0 : Sl) (v24_1 : Sl) (v24_2 : Sl) (v24_3 : Sl) (h_19 : H) => S8_j7 p1 p2 K v18_0 v18_1 v20 (v24_0.l : Int) h_19) else S8_j7 p1 p2 K v18_0 v18_1 v20 0 h_2)))
end Go.Proofs.YtimadnngfhbfiaaDoor
end

section
/-
  Draw's signs of life; DrawTells: what the law answers.
-/
namespace Go.Proofs.YtimadnngfhbfiaaDoor
open Go Go.Mu Go.Shape Go.Rk
variable {h h0 : H}
set_option maxHeartbeats 4000000
theorem rkd2 : rkd [(3, 7), (9, 7)] = [(0, 0), (1, 0)] := by
  have e : ∀ l v, rank l v = (lessL l v).length := fun l v => (rank_eq l v).symm
  simp only [rkd, e, List.map_cons, List.map_nil]
  decide
theorem rdNil {h : H} {size : Nat} {α : Type} {enc : α → List Value} : Rd h Sl.nil size enc [] := ⟨rfl, fun _ hx => (by cases hx), fun hp => absurd hp (Nat.lt_irrefl 0)⟩
theorem c29 {K : Bool → H → Prop} (k : ∀ h', h.Le h' → K true h') : S29 h K := by
  unfold S29
  intro b8 h1 n1 e1 b10 h2 n2 e2 b16 h3 n3 e3
  have l1 := le_new n1 e1
  have l2 := le_new n2 e2
  have l3 := le_new n3 e3
  have r1 : Rd h1 ⟨some ⟨b8, 0, none⟩, 2, 2⟩ 1 encB [false, false] := lit_Rd (l := [false, false]) (enc := encB) e1 (fun _ _ => rfl)
  have r2 : Rd h2 ⟨some ⟨b10, 0, none⟩, 1, 1⟩ 4 Ed.enc [e01] := lit_Rd (l := [e01]) (enc := Ed.enc) e2 (fun _ _ => rfl)
  have r3 : Rd h3 ⟨some ⟨b16, 0, none⟩, 2, 2⟩ 2 encP [(3, 7), (9, 7)] := lit_Rd (l := [((3, 7) : Pt), (9, 7)]) (enc := encP) e3 (fun _ _ => rfl)
  have sh : Shp h3 ⟨some ⟨b8, 0, none⟩, 2, 2⟩ ⟨some ⟨b10, 0, none⟩, 1, 1⟩ [false, false] [e01] := ⟨(r1.le l2).le l3, r2.le l3, by decide, by decide, fun e he => by
    simp only [List.mem_singleton] at he; subst he; exact ⟨by decide, by decide, by decide, by decide⟩⟩
  have ns : ¬ ∃ v d, v < ([false, false] : List Bool).length ∧ d < 4 ∧ sided [false, false] [e01] v d := by
    rintro ⟨v, d, hv, hd, hs⟩
    have hv2 : v = 0 ∨ v = 1 := by simp only [List.length_cons, List.length_nil] at hv; omega
    rcases hv2 with rfl | rfl <;> rcases cases4 hd with rfl | rfl | rfl | rfl <;> revert hs <;> unfold sided <;> decide
  have nb : ¬ ∃ i x, ([e01] : List Ed)[i]? = some x ∧ bad [false, false] [e01] i x := by
    rintro ⟨i, x, hx, hb⟩
    have hi : i = 0 := by have := (List.getElem?_eq_some_iff.1 hx).1; simp only [List.length_cons, List.length_nil] at this; omega
    subst hi
    simp only [List.getElem?_cons_zero, Option.some.injEq] at hx; subst hx
    revert hb; unfold bad; decide
  have hcl : (cellsOf [false, false] [e01]).length = 2 := by decide
  refine c27 sh r3 (by decide) (fun q => absurd q ns) (fun _ q => absurd q nb) (fun _ _ q => absurd hcl.symm q) (fun _ _ _ d0 d1 rs h4 st4 hrs => ?_)
  have hB : boxesOf [false, false] [e01] (rkd [(3, 7), (9, 7)]) ([false, false] : List Bool).length = [((0, 0), (0, 0)), ((1, 0), (1, 0))] := by rw [rkd2]; decide
  have hR : rtsOf [e01] (waysOf [false, false] [e01]) (rkd [(3, 7), (9, 7)]) = [(0, 1, [(0, 0), (1, 0)])] := by rw [rkd2]; decide
  rw [hB] at st4
  rw [hR] at hrs
  obtain ⟨p, rfl⟩ : ∃ p, rs = [⟨0, 1, p, [(0, 0), (1, 0)]⟩] := by
    match rs, hrs with
    | [⟨f, t, p, l⟩], hrs =>
      simp only [List.map_cons, List.map_nil, List.cons.injEq, and_true, Rt.strip, Prod.mk.injEq] at hrs
      obtain ⟨rfl, rfl, rfl⟩ := hrs
      exact ⟨p, rfl⟩
    | [], hrs => simp at hrs
    | _ :: _ :: _, hrs => simp at hrs
  have d4 := Drw.of st4
  have sm : Small [(((0, 0) : Pt), ((0, 0) : Pt)), ((1, 0), (1, 0))] [⟨0, 1, p, [(0, 0), (1, 0)]⟩] := ⟨by simp, by simp, fun x hx => by
    simp only [List.mem_singleton] at hx; subst hx; simp⟩
  have i1 : InB (1, 0) := ⟨by decide, by decide, by decide, by decide⟩
  have nr : Near [(((0, 0) : Pt), ((0, 0) : Pt)), ((1, 0), (1, 0))] [⟨0, 1, p, [(0, 0), (1, 0)]⟩] := ⟨fun x hx => by
      simp only [List.mem_cons, List.not_mem_nil, or_false] at hx
      rcases hx with rfl | rfl
      · exact ⟨inB0, inB0⟩
      · exact ⟨i1, i1⟩, fun x hx q hq => by
      simp only [List.mem_singleton] at hx; subst hx
      simp only [List.mem_cons, List.not_mem_nil, or_false] at hq
      rcases hq with rfl | rfl
      · exact inB0
      · exact i1⟩
  refine c34 d4 sm nr fun h5 l5 => ?_
  have hS : sizeOf' (allP [(((0, 0) : Pt), ((0, 0) : Pt)), ((1, 0), (1, 0))] (List.map Rt.strip [(⟨0, 1, p, [(0, 0), (1, 0)]⟩ : Rt)])) = (1, 0) := by
    show sizeOf' (allP [(((0, 0) : Pt), ((0, 0) : Pt)), ((1, 0), (1, 0))] [(0, 1, [(0, 0), (1, 0)])]) = (1, 0)
    decide
  rw [hS]
  have l34 := l3.trans st4.le
  refine c27 ((sh.mono st4.le).mono l5) (rdNil (enc := encP)) (by simp) (fun q => absurd q ns) (fun _ q => absurd q nb) (fun _ _ _ h6 l6 => ?_) (fun _ _ q => absurd q (by rw [hcl]; simp))
  have d6 := (d4.le l5).le l6
  have hb2 : d0.l = 2 := d6.b.1
  have hr1 : d1.l = 1 := d6.r.1
  rw [if_pos (by decide), hb2, if_pos (by decide)]
  obtain ⟨a, ha, rd⟩ := d6.b.ix (i := 1) rfl
  refine ⟨a, ha, by decide, by decide, 1, 0, ⟨rfl, fun j v hj => ?_⟩, ?_⟩
  · rw [Addr.add_add]
    match j, hj with
    | 0, hj => exact rd.2 2 v hj
    | 1, hj => exact rd.2 3 v hj
    | j + 2, hj => simp at hj
  rw [if_pos (by decide), hr1, if_pos (by decide)]
  refine c36 d6 sm nr ?_
  have hL : lenR (List.map Rt.strip [(⟨0, 1, p, [(0, 0), (1, 0)]⟩ : Rt)]) = 1 := by
    show lenR [(0, 1, [(0, 0), (1, 0)])] = 1
    decide
  rw [hL, if_pos (by decide), if_pos (by decide), if_pos (by decide), if_pos (by decide)]
  refine c35 d6 d6 sm ?_
  rw [decide_eq_true ⟨rfl, rfl⟩]
  exact k _ (((((l1.trans l2).trans l3).trans st4.le).trans l5).trans l6)
end Go.Proofs.YtimadnngfhbfiaaDoor
end

section
/-
  DrawTells: what the law answers.
-/
namespace Go.Proofs.YtimadnngfhbfiaaDoor
open Go Go.Mu Go.Shape Go.Rk
variable {h h0 : H}
set_option maxHeartbeats 4000000
section
variable {p0 p1 q : Sl} {bx : List Bool} {es : List Ed} {ats : List Pt} {r : Int}
theorem c27e (sh : Shp h p0 p1 bx es) (ra : Rd h q 2 encP ats) (hn : ats.length ≤ 2000) (hr : Wrong bx es r) (h0r : r ≠ 0) {K : Sl → Sl → Int → H → Prop} (k : ∀ h', h.Le h' → K Sl.nil Sl.nil r h') : S27 p0 p1 q h K := by
  refine c27 sh ra hn (fun hs h1 l1 => ?_) (fun hs ht h1 l1 => ?_) (fun hs ht => ?_) (fun hs ht => ?_)
  · have := k h1 l1; rwa [hr.side hs] at this
  · have := k h1 l1; rwa [hr.turn hs ((turned_iff sh.ok).1 ht)] at this
  · exact absurd (hr.ok hs fun h => ht ((turned_iff sh.ok).2 h)) h0r
  · exact absurd (hr.ok hs fun h => ht ((turned_iff sh.ok).2 h)) h0r
theorem c27n (sh : Shp h p0 p1 bx es) (ra : Rd h q 2 encP ats) (hn : ats.length ≤ 2000) (hr : Wrong bx es 0) (hc : ats.length ≠ (cellsOf bx es).length) {K : Sl → Sl → Int → H → Prop} (k : ∀ h', h.Le h' → K Sl.nil Sl.nil 2 h') : S27 p0 p1 q h K := by
  refine c27 sh ra hn (fun hs h1 l1 => ?_) (fun hs ht h1 l1 => ?_) (fun hs ht _ => k) (fun hs ht hc2 => absurd hc2 hc)
  · have := hr.side hs; omega
  · have := hr.turn hs ((turned_iff sh.ok).1 ht); omega
theorem c27o (sh : Shp h p0 p1 bx es) (ra : Rd h q 2 encP ats) (hn : ats.length ≤ 2000) (hr : Wrong bx es 0) (hc : ats.length = (cellsOf bx es).length) {K : Sl → Sl → Int → H → Prop}
    (k : ∀ d0 d1 rs h', St h h' (drM d0 d1 (boxesOf bx es (rkd ats) bx.length) rs .no) → rs.map Rt.strip = rtsOf es (waysOf bx es) (rkd ats) → K d0 d1 0 h') : S27 p0 p1 q h K := by
  refine c27 sh ra hn (fun hs h1 l1 => ?_) (fun hs ht h1 l1 => ?_) (fun hs ht hc2 => absurd hc hc2) (fun hs ht _ => k)
  · have := hr.side hs; omega
  · have := hr.turn hs ((turned_iff sh.ok).1 ht); omega
theorem small_of (h1 : bx.length ≤ 8) (h2 : es.length ≤ 16) (ok : ∀ e ∈ es, e.Ok bx.length) {R : List Pt} {rs : List Rt} (hrs : rs.map Rt.strip = rtsOf es (waysOf bx es) R) : Small (boxesOf bx es R bx.length) rs := by
  refine ⟨by simp [boxesOf]; omega, ?_, fun x hx => ?_⟩
  · have := congrArg List.length hrs
    simp only [rtsOf, List.length_map, List.length_zip] at this
    omega
  · have : x.strip ∈ rtsOf es (waysOf bx es) R := by rw [← hrs]; exact List.mem_map_of_mem hx
    obtain ⟨⟨e, w⟩, hm, he⟩ := List.mem_map.1 this
    have hw := ways_short ok w (List.of_mem_zip hm).2
    simp only [Rt.strip, Prod.mk.injEq] at he
    rw [← he.2.2]
    simp only [ptsOf, List.length_map]; omega
end
def pick (xs : List Int) (d : Int) (i : Nat) : Int := xs.getD i d
def atsOf (xs ys : List Int) (n : Nat) : List Pt := (List.range n).map fun i => (xs.getD i i, ys.getD i (-(i : Int)))
theorem atsOf_succ (xs ys : List Int) (n : Nat) : atsOf xs ys (n + 1) = atsOf xs ys n ++ [(xs.getD n n, ys.getD n (-(n : Int)))] := by
  unfold atsOf; rw [List.range_succ, List.map_append]; rfl
theorem atsOf_len (xs ys : List Int) (n : Nat) : (atsOf xs ys n).length = n := by simp [atsOf]
/-- The points that a law makes. -/
theorem c8 {z0 z1 z2 x y : Sl} {xs ys : List Int} (raw : RawIn h z0 z1 z2) (rx : Rd h x 1 enc1 xs) (ry : Rd h y 1 enc1 ys) {K : Bool → H → Prop} (k : ∀ h', K true h') : S8 z0 z1 z2 x y h K := by
  obtain ⟨zb, ze, zc, r0, r1, r2, u1, u2⟩ := raw.in'
  unfold S8
  refine c11m (m := 6) (by decide) r0 r1 r2 u1 u2 fun bx es p0 p1 h1 st1 _ _ lb le ok => ?_
  have sh := two_shp st1 (by omega) (by omega) ok
  refine c13 sh fun r h2 hr l2 => ?_
  have sh2 := sh.mono l2
  have nx := rx.len
  have ny := ry.len
  -- the loop
  have main : ∀ (n : Nat) (h3 : H), h2.Le h3 → n ≤ 1200 → (∀ v8 h4, h3.Le h4 → St h3 h4 (fun _ : Unit => .arr v8 67 2 ((atsOf xs ys n).flatMap encP)) → S8_j3 K p0 p1 r v8 h4) → S8_j7 x y K p0 p1 r n h3 := by
    intro n h3 l3 hn kk
    unfold S8_j7
    refine lfp.count n (fun i (u : Sl × Int) h' => u.2 = (i : Int) ∧ St h3 h' (fun _ : Unit => .arr u.1 67 2 ((atsOf xs ys i).flatMap encP))) (fun X i u h4 hi ⟨q1, st⟩ next => ?_) ⟨rfl, St.nil1 h3⟩
    obtain ⟨v8, u2⟩ := u
    simp only at q1 st; subst q1
    simp only
    unfold S8_l6
    have l4 := ((st1.le.trans l2).trans l3).trans st.le
    by_cases hlt : i < n
    · rw [if_pos (by simp only [decide_eq_true_eq]; omega)]
      have fin : ∀ a b : Int, a = xs.getD i i → b = ys.getD i (-(i : Int)) → S8_j4 v8 i X a b h4 := fun a b ea eb => by
        unfold S8_j4
        refine app1 (bytes := 16) (enc := encP) () ((a, b) : Pt) st rfl (fun _ => rfl) (by decide) (by rw [atsOf_len]; omega) (by decide) fun s' h5 st5 => ?_
        rw [put_unit] at st5
        rw [wsucc (by omega)]
        refine next hlt _ _ ⟨rfl, ?_⟩
        rw [atsOf_succ, ← ea, ← eb]; exact st5
      have hw : IntKind.i64.wrap (0 - (i : Int)) = -(i : Int) := by rw [wrap64_id (by omega) (by omega)]; omega
      have j5 : ∀ a : Int, a = xs.getD i i → S8_j5 y v8 i X a (IntKind.i64.wrap (0 - (i : Int))) h4 := fun a ea => by
        unfold S8_j5
        rw [ny]
        by_cases hy : i < ys.length
        · rw [if_pos (by simp only [decide_eq_true_eq]; omega)]
          obtain ⟨b, hb⟩ : ∃ b, ys[i]? = some b := ⟨_, List.getElem?_eq_getElem hy⟩
          obtain ⟨a1, ha1, k1⟩ := (ry.le l4).ix hb
          exact ⟨a1, ha1, by omega, by omega, b, by rw [Int.toNat_natCast]; exact k1.at0, fin _ _ ea (by rw [List.getD_eq_getElem?_getD, hb]; rfl)⟩
        · rw [if_neg (by simp only [decide_eq_true_eq]; omega)]
          exact fin _ _ ea (by rw [hw, List.getD_eq_getElem?_getD, List.getElem?_eq_none (by omega)]; rfl)
      rw [nx]
      by_cases hx : i < xs.length
      · rw [if_pos (by simp only [decide_eq_true_eq]; omega)]
        obtain ⟨b, hb⟩ : ∃ b, xs[i]? = some b := ⟨_, List.getElem?_eq_getElem hx⟩
        obtain ⟨a1, ha1, k1⟩ := (rx.le l4).ix hb
        exact ⟨a1, ha1, by omega, by omega, b, by rw [Int.toNat_natCast]; exact k1.at0, j5 _ (by rw [List.getD_eq_getElem?_getD, hb]; rfl)⟩
      · rw [if_neg (by simp only [decide_eq_true_eq]; omega)]
        exact j5 _ (by rw [List.getD_eq_getElem?_getD, List.getElem?_eq_none (by omega)]; rfl)
    · rw [if_neg (by simp only [decide_eq_true_eq]; omega)]
      obtain rfl : i = n := by omega
      exact kk v8 h4 st.le st
  have al := atsOf_len xs ys
  by_cases hz : r = 0
  · subst hz
    rw [if_pos (by decide)]
    refine c15 sh2 fun c f e w ws h3 st3 _ => ?_
    have hcl : (c.l : Int) = (cellsOf bx es).length := (st3.arr (enc := Cell.enc) .cells rfl (enc8 _) (by decide)).len
    have hce := cells_le (bx := bx) (es := es) (by omega) (by omega) ok
    rw [hcl]
    refine main _ _ st3.le hce fun v8 h4 l4 st4 => ?_
    have sh4 := (sh2.mono st3.le).mono l4
    have ra : Rd h4 v8 2 encP (atsOf xs ys (cellsOf bx es).length) := st4.arr (enc := encP) () rfl (fun _ _ => rfl) (by decide)
    have al2 := al (cellsOf bx es).length
    generalize hA : atsOf xs ys (cellsOf bx es).length = A at *
    unfold S8_j3
    refine c27o sh4 ra (by omega) hr al2 fun d0 d1 rs h5 st5 hrs => ?_
    refine c28 (ra.le st5.le) (by omega) fun v67 h6 st6 => ?_
    refine app1 (bytes := 16) (enc := encP) () ((0, 0) : Pt) st6 rfl (fun _ => rfl) (by decide) (by omega) (by decide) fun v70 h7 st7 => ?_
    rw [put_unit] at st7
    have l57 := st7.le
    refine c27n ((sh4.mono st5.le).mono l57) (st7.arr (enc := encP) () rfl (fun _ _ => rfl) (by decide)) (by simp; omega) hr (by simp; omega) fun h8 l8 => ?_
    rw [if_neg (by decide)]
    refine c29 fun h12 l12 => ?_
    rw [if_pos rfl, if_pos (by decide), if_pos (by decide)]
    have ll := (l57.trans l8).trans l12
    refine c31 ((sh4.mono st5.le).mono ll) ((ra.le st5.le).le ll) (by omega) al2 fun e0 e1 rs' h13 st13 hrs' => ?_
    refine c30 (((Drw.of st5).le ll).le st13.le) (Drw.of st13) (small_of (by omega) (by omega) ok hrs) ?_
    rw [decide_eq_true ⟨rfl, by rw [hrs, hrs']⟩]
    exact k _
  · rw [if_neg (by simpa using hz)]
    refine main 0 h2 (H.Le.refl _) (by decide) fun v8 h4 l4 st4 => ?_
    have sh4 := sh2.mono l4
    have ra : Rd h4 v8 2 encP [] := st4.arr (enc := encP) (l := ([] : List Pt)) () rfl (fun _ _ => rfl) (by decide)
    unfold S8_j3
    refine c27e sh4 ra (by decide) hr hz fun h5 l5 => ?_
    refine c28 (ra.le l5) (by decide) fun v67 h6 st6 => ?_
    refine app1 (bytes := 16) (enc := encP) () ((0, 0) : Pt) st6 rfl (fun _ => rfl) (by decide) (by decide) (by decide) fun v70 h7 st7 => ?_
    rw [put_unit] at st7
    have l57 := st7.le
    refine c27e ((sh4.mono l5).mono l57) (st7.arr (enc := encP) () rfl (fun _ _ => rfl) (by decide)) (by simp) hr hz fun h8 l8 => ?_
    rw [if_pos (by simpa using hz)]
    refine c29 fun h10 l10 => ?_
    unfold S8_j1
    have : ((true && (r == r) && (r == r)) && (IntKind.i64.wrap (((Sl.nil).l : Int) + ((Sl.nil).l : Int)) == 0)) = true := by
      simp only [beq_self_eq_true, Bool.and_self, Bool.true_and]
      decide
    rw [this]
    exact k _
end Go.Proofs.YtimadnngfhbfiaaDoor
end

section
/-
  What lies in a world, as a heap that may not be written; the arguments read out of it; what stays.
-/
namespace Go.Mu
/-- All that the world's rows hold, none to be written. -/
def H.of (W : World) : H := fun b => match W.heap[b]? with
  | some (.cells c e _) => some (.row ⟨c.toList, c.size, e, false, false⟩)
  | _ => none
theorem H.of_sat (W : World) : Sat (H.of W) W := by
  intro b x hx
  unfold H.of at hx
  split at hx
  · rename_i c e fz hb
    cases hx
    exact ⟨c, fz, hb, rfl, List.prefix_rfl, fun h => (by cases h), fun h => (by cases h)⟩
  · cases hx
theorem H.of_own (W : World) (b : Nat) : Blk.own (H.of W b) = false := by
  unfold H.of
  split <;> rfl
theorem H.of_rd {W : World} {a : Addr} {v : Value} (e : W.cell? a = some v) : (H.of W).rd a = some v := by
  unfold World.cell? at e
  unfold H.rd H.of
  split at e
  · rename_i c t fz hb
    split at e
    · cases e
    · rename_i hs
      have : a.spot = none := by simpa using hs
      rw [this, hb]
      simpa using e
  · cases e
theorem Fr.below {W W' : World} {h' : H} (f : Fr (H.of W) W h' W') : Go.RowKit.Below W.heap.size W W' :=
  ⟨f.os, f.tape, f.output, f.size, fun k hk => (f.keep k hk (H.of_own W k)).1⟩
/-- A call, told of the world in which it begins. -/
theorem ACall.world {P : Program} {f : FuncId} {args : Array Value} {W : World} {K : Value → H → Prop} (a : ACall P f args (H.of W) K) : Calls P f args W fun e W' => ∃ r h', e = .returned r ∧ Go.RowKit.Below W.heap.size W W' ∧ K r h' :=
  (a W (H.of_sat W)).mono fun _ _ ⟨r, h', e, _, fr, k⟩ => ⟨r, h', e, fr.below, k⟩
end Go.Mu
namespace Go.Proofs.YtimadnngfhbfiaaDoor
open Go Go.Mu Go.Shape
open Go.ChangeShapes Go.WideShapes Go.ChangeAt Go.RowKit Go.Joins Go.Deep
section
variable {H' : Type} {enc : TypeId × Value → H'} {P : Program} {W : World} {held : Bool} {fuel : Nat} {base : Nat}
theorem Rd_nil {h : H} {size : Nat} {α : Type} {en : α → List Value} : Rd h Sl.nil size en [] := ⟨rfl, fun _ hx => (by cases hx), fun hp => absurd hp (Nat.lt_irrefl 0)⟩
/-- A slice of bools, of bytes, of arrays of three bytes, as it is read. -/
theorem rd_bools {t e : TypeId} {v : Value} {x : DataW H' × List MemPlace} (ht : P.underlying t = some (.slice e)) (he : P.underlying e = some .bool) (hc : P.cellsOf e = 1)
    (h : DataW.trod enc P W base (fun _ => true) held fuel t [v] = some x) : ∃ s : Sl, v = .slice s.a s.l s.c ∧ ∃ l : List Bool, Rd (H.of W) s 1 encB l := by
  rcases open_bools ht he hc h with ⟨hv, _⟩ | ⟨a, len, cap, B, hv, _, hl, _, _, hcell⟩
  · exact ⟨Sl.nil, by simpa using hv, [], Rd_nil⟩
  · refine ⟨⟨some a, len, cap⟩, by simpa using hv, (List.range len).map B, by simp, fun _ _ => rfl, fun _ => ⟨a, rfl, fun i y hi => ⟨rfl, fun j u hj => ?_⟩⟩⟩
    have hil : i < len := by have := (List.getElem?_eq_some_iff.1 hi).1; simpa using this
    have hy : B i = y := by simpa [hil] using hi
    match j, hj with
    | 0, hj =>
      have : u = .bool (B i) := by rw [hy]; simpa [encB] using hj.symm
      rw [this, Addr.add_add, Nat.mul_one, Nat.add_zero]
      exact H.of_rd (hcell i (by omega))
    | j + 1, hj => simp [encB] at hj
theorem u8_nat {n : Int} (hw : (Lit.int .u8 n).wf = true) : ∃ k : Nat, n = k ∧ k < 256 := by
  simp only [Lit.wf, Bool.and_eq_true] at hw
  have h1 : (0 : Int) ≤ n := of_decide_eq_true hw.1
  have h2 : n ≤ 255 := of_decide_eq_true hw.2
  exact ⟨n.toNat, by omega, by omega⟩
theorem rd_bytes {t e : TypeId} {v : Value} {x : DataW H' × List MemPlace} (ht : P.underlying t = some (.slice e)) (he : P.underlying e = some (.int .u8)) (hc : P.cellsOf e = 1)
    (h : DataW.trod enc P W base (fun _ => true) held fuel t [v] = some x) : ∃ s : Sl, v = .slice s.a s.l s.c ∧ ∃ l : List Nat, Rd (H.of W) s 1 encU l ∧ ∀ x ∈ l, x < 256 := by
  rcases open_ints ht he hc h with ⟨hv, _⟩ | ⟨a, len, cap, zs, hv, _, hl, _, hz, _, hcell, hwf⟩
  · exact ⟨Sl.nil, by simpa using hv, [], Rd_nil, fun _ hx => (by cases hx)⟩
  · simp only [if_true] at hz
    refine ⟨⟨some a, len, cap⟩, by simpa using hv, (zs.take len).map Int.toNat, ⟨by simp; omega, fun _ _ => rfl, fun _ => ⟨a, rfl, fun i y hi => ⟨rfl, fun j u hj => ?_⟩⟩⟩, fun x hx => ?_⟩
    · have hil : i < len := by have := (List.getElem?_eq_some_iff.1 hi).1; simp at this; omega
      have hzi : zs[i]? = some (zs.getD i 0) := by rw [List.getD_eq_getElem?_getD, List.getElem?_eq_getElem (by omega)]; rfl
      obtain ⟨k, hk, _⟩ := u8_nat (hwf (zs.getD i 0) (List.mem_of_getElem? hzi))
      have hy : y = (zs.getD i 0).toNat := by
        rw [List.getElem?_map, List.getElem?_take_of_lt hil, hzi] at hi
        simpa using hi.symm
      match j, hj with
      | 0, hj =>
        have : u = .int .u8 (zs.getD i 0) := by
          have h1 : u = .int .u8 (y : Int) := by simpa [encU] using hj.symm
          rw [h1, hy, hk]; rfl
        rw [this, Addr.add_add, Nat.mul_one, Nat.add_zero]
        exact H.of_rd (hcell i (by omega))
      | j + 1, hj => simp [encU] at hj
    · obtain ⟨z, hz2, rfl⟩ := List.mem_map.1 hx
      obtain ⟨k, rfl, hk⟩ := u8_nat (hwf z (List.mem_of_mem_take hz2))
      simpa using hk
theorem rd_threes {t e b : TypeId} {v : Value} {x : DataW H' × List MemPlace} (ht : P.underlying t = some (.slice e)) (he : P.underlying e = some (.array 3 b)) (hb : P.underlying b = some (.int .u8)) (hc : P.cellsOf e = 3) (hcb : P.cellsOf b = 1)
    (h : DataW.trod enc P W base (fun _ => true) held fuel t [v] = some x) : ∃ s : Sl, v = .slice s.a s.l s.c ∧ ∃ l : List (Nat × Nat × Nat), Rd (H.of W) s 3 enc3 l ∧ ∀ x ∈ l, x.1 < 256 ∧ x.2.1 < 256 ∧ x.2.2 < 256 := by
  rcases open_slice ht h with ⟨hv, _⟩ | ⟨a, len, cap, m, n, D, Pl, hv, _, hl, _, hm, _, hel⟩
  · exact ⟨Sl.nil, by simpa using hv, [], Rd_nil, fun _ hx => (by cases hx)⟩
  · simp only [if_true] at hm
    subst hm
    have one : ∀ i, i < m → ∃ y : Nat × Nat × Nat, (y.1 < 256 ∧ y.2.1 < 256 ∧ y.2.2 < 256) ∧ (H.of W).rdn (a.add (i * 3)) 3 (enc3 y) := fun i hi => by
      obtain ⟨cs, hcs, htr⟩ := hel i hi
      rw [hc] at hcs
      obtain ⟨_, hcl, hat⟩ := World.cells?_some hcs
      match cs, hcl with
      | [c0, c1, c2], _ =>
        obtain ⟨y0, y1, y2, n', _, t0, t1, t2⟩ := trod_array3 he hcb htr
        obtain ⟨z0, e0, _, w0⟩ := DataW.trod_int hb t0
        obtain ⟨z1, e1, _, w1⟩ := DataW.trod_int hb t1
        obtain ⟨z2, e2, _, w2⟩ := DataW.trod_int hb t2
        obtain ⟨k0, rfl, l0⟩ := u8_nat w0
        obtain ⟨k1, rfl, l1⟩ := u8_nat w1
        obtain ⟨k2, rfl, l2⟩ := u8_nat w2
        simp only [List.cons.injEq, and_true] at e0 e1 e2
        subst e0 e1 e2
        refine ⟨(k0, k1, k2), ⟨l0, l1, l2⟩, rfl, fun j u hj => ?_⟩
        refine H.of_rd ?_
        match j, hj with
        | 0, hj => rw [hat 0 (by decide)]; exact hj
        | 1, hj => rw [hat 1 (by decide)]; exact hj
        | 2, hj => rw [hat 2 (by decide)]; exact hj
        | j + 3, hj => simp [enc3] at hj
    -- gathered
    have all : ∀ k, k ≤ m → ∃ l : List (Nat × Nat × Nat), l.length = k ∧ (∀ x ∈ l, x.1 < 256 ∧ x.2.1 < 256 ∧ x.2.2 < 256) ∧ ∀ i y, l[i]? = some y → (H.of W).rdn (a.add (i * 3)) 3 (enc3 y) := by
      intro k
      induction k with
      | zero => intro _; exact ⟨[], rfl, fun _ hx => (by cases hx), fun i y hi => (by simp at hi)⟩
      | succ k ih =>
        intro hk
        obtain ⟨l, h1, h2, h3⟩ := ih (by omega)
        obtain ⟨y, hy, hr⟩ := one k (by omega)
        refine ⟨l ++ [y], by simp [h1], fun x hx => ?_, fun i z hi => ?_⟩
        · rcases List.mem_append.1 hx with hx | hx
          · exact h2 x hx
          · simp only [List.mem_singleton] at hx; subst hx; exact hy
        · by_cases hik : i < k
          · rw [List.getElem?_append_left (by omega)] at hi; exact h3 i z hi
          · have : i = k := by
              have := (List.getElem?_eq_some_iff.1 hi).1
              simp [h1] at this; omega
            subst this
            rw [List.getElem?_append_right (by omega), h1] at hi
            simp at hi; subst hi; exact hr
    obtain ⟨l, h1, h2, h3⟩ := all len hl
    exact ⟨⟨some a, len, m⟩, by simpa using hv, l, ⟨h1.symm, fun _ _ => rfl, fun _ => ⟨a, rfl, h3⟩⟩, h2⟩
end
end Go.Proofs.YtimadnngfhbfiaaDoor
end

section
/-
  Slices of numbers, read out of the world.
-/
namespace Go.Proofs.YtimadnngfhbfiaaDoor
open Go Go.Mu Go.Shape
open Go.ChangeShapes Go.WideShapes Go.ChangeAt Go.RowKit Go.Joins Go.Deep
variable {H' : Type} {enc : TypeId × Value → H'} {P : Program} {W : World} {base fuel : Nat} {held : Bool}
theorem rd_ints {t e : TypeId} {v : Value} {x : DataW H' × List MemPlace} (ht : P.underlying t = some (.slice e)) (he : P.underlying e = some (.int .i64)) (hc : P.cellsOf e = 1)
    (h : DataW.trod enc P W base (fun _ => true) held fuel t [v] = some x) : ∃ s : Sl, v = .slice s.a s.l s.c ∧ ∃ l : List Int, Rd (H.of W) s 1 enc1 l := by
  rcases open_ints ht he hc h with ⟨hv, _⟩ | ⟨a, len, cap, zs, hv, _, hl, _, hz, _, hcell, hwf⟩
  · exact ⟨Sl.nil, by simpa using hv, [], Rd_nil⟩
  · simp only [if_true] at hz
    refine ⟨⟨some a, len, cap⟩, by simpa using hv, zs.take len, ⟨by simp; omega, fun _ _ => rfl, fun _ => ⟨a, rfl, fun i y hi => ⟨rfl, fun j u hj => ?_⟩⟩⟩⟩
    have hil : i < len := by have := (List.getElem?_eq_some_iff.1 hi).1; simp at this; omega
    have hzi : zs[i]? = some (zs.getD i 0) := by rw [List.getD_eq_getElem?_getD, List.getElem?_eq_getElem (by omega)]; rfl
    have hy : y = zs.getD i 0 := by
      rw [List.getElem?_take_of_lt hil, hzi] at hi
      exact (Option.some.inj hi).symm
    match j, hj with
    | 0, hj =>
      have : u = .int .i64 (zs.getD i 0) := by
        have h1 : u = .int .i64 y := by simpa [enc1] using hj.symm
        rw [h1, hy]
      rw [this, Addr.add_add, Nat.mul_one, Nat.add_zero]
      exact H.of_rd (hcell i (by omega))
    | j + 1, hj => simp [enc1] at hj
end Go.Proofs.YtimadnngfhbfiaaDoor
end

section
/- PRINTED by wip/gen.py: facts of the program's types and calls. -/
namespace Go.Proofs.YtimadnngfhbfiaaDoor
open Go Go.Mu
set_option maxRecDepth 100000
theorem MO : Tryd.prog.follows .mixedOrders = true := by kernel_rfl
theorem CB11 : callB Tryd.prog 11 = true := by kernel_rfl
theorem CB12 : callB Tryd.prog 12 = true := by kernel_rfl
theorem CB13 : callB Tryd.prog 13 = true := by kernel_rfl
theorem CB15 : callB Tryd.prog 15 = true := by kernel_rfl
theorem CB23 : callB Tryd.prog 23 = true := by kernel_rfl
theorem CB27 : callB Tryd.prog 27 = true := by kernel_rfl
theorem CB28 : callB Tryd.prog 28 = true := by kernel_rfl
theorem CB29 : callB Tryd.prog 29 = true := by kernel_rfl
theorem CB30 : callB Tryd.prog 30 = true := by kernel_rfl
theorem CB31 : callB Tryd.prog 31 = true := by kernel_rfl
theorem CB34 : callB Tryd.prog 34 = true := by kernel_rfl
theorem CB35 : callB Tryd.prog 35 = true := by kernel_rfl
theorem CB36 : callB Tryd.prog 36 = true := by kernel_rfl
theorem CB39 : callB Tryd.prog 39 = true := by kernel_rfl
theorem CB40 : callB Tryd.prog 40 = true := by kernel_rfl
theorem CB41 : callB Tryd.prog 41 = true := by kernel_rfl
theorem CB42 : callB Tryd.prog 42 = true := by kernel_rfl
theorem CB43 : callB Tryd.prog 43 = true := by kernel_rfl
theorem CB44 : callB Tryd.prog 44 = true := by kernel_rfl
theorem CB45 : callB Tryd.prog 45 = true := by kernel_rfl
theorem CB46 : callB Tryd.prog 46 = true := by kernel_rfl
theorem CB47 : callB Tryd.prog 47 = true := by kernel_rfl
theorem CB48 : callB Tryd.prog 48 = true := by kernel_rfl
theorem CB49 : callB Tryd.prog 49 = true := by kernel_rfl
theorem CB50 : callB Tryd.prog 50 = true := by kernel_rfl
theorem CB51 : callB Tryd.prog 51 = true := by kernel_rfl
theorem CB52 : callB Tryd.prog 52 = true := by kernel_rfl
theorem CB53 : callB Tryd.prog 53 = true := by kernel_rfl
theorem CB54 : callB Tryd.prog 54 = true := by kernel_rfl
theorem CB56 : callB Tryd.prog 56 = true := by kernel_rfl
theorem CB58 : callB Tryd.prog 58 = true := by kernel_rfl
theorem CB63 : callB Tryd.prog 63 = true := by kernel_rfl
theorem CB64 : callB Tryd.prog 64 = true := by kernel_rfl
theorem CB65 : callB Tryd.prog 65 = true := by kernel_rfl
theorem CB66 : callB Tryd.prog 66 = true := by kernel_rfl
theorem CB67 : callB Tryd.prog 67 = true := by kernel_rfl
theorem CB68 : callB Tryd.prog 68 = true := by kernel_rfl
theorem CB70 : callB Tryd.prog 70 = true := by kernel_rfl
theorem CB71 : callB Tryd.prog 71 = true := by kernel_rfl
theorem CB72 : callB Tryd.prog 72 = true := by kernel_rfl
theorem CB73 : callB Tryd.prog 73 = true := by kernel_rfl
theorem CB74 : callB Tryd.prog 74 = true := by kernel_rfl
theorem CB75 : callB Tryd.prog 75 = true := by kernel_rfl
theorem CB76 : callB Tryd.prog 76 = true := by kernel_rfl
theorem CB77 : callB Tryd.prog 77 = true := by kernel_rfl
theorem CB78 : callB Tryd.prog 78 = true := by kernel_rfl
theorem CB79 : callB Tryd.prog 79 = true := by kernel_rfl
theorem CB89 : callB Tryd.prog 89 = true := by kernel_rfl
theorem CB90 : callB Tryd.prog 90 = true := by kernel_rfl
theorem CB91 : callB Tryd.prog 91 = true := by kernel_rfl
theorem CB92 : callB Tryd.prog 92 = true := by kernel_rfl
theorem CB93 : callB Tryd.prog 93 = true := by kernel_rfl
theorem CB94 : callB Tryd.prog 94 = true := by kernel_rfl
theorem CB95 : callB Tryd.prog 95 = true := by kernel_rfl
theorem CB96 : callB Tryd.prog 96 = true := by kernel_rfl
theorem CB97 : callB Tryd.prog 97 = true := by kernel_rfl
theorem CB99 : callB Tryd.prog 99 = true := by kernel_rfl
theorem CB101 : callB Tryd.prog 101 = true := by kernel_rfl
theorem CB104 : callB Tryd.prog 104 = true := by kernel_rfl
theorem CB106 : callB Tryd.prog 106 = true := by kernel_rfl
theorem CB107 : callB Tryd.prog 107 = true := by kernel_rfl
theorem CB109 : callB Tryd.prog 109 = true := by kernel_rfl
theorem CB111 : callB Tryd.prog 111 = true := by kernel_rfl
theorem CB112 : callB Tryd.prog 112 = true := by kernel_rfl
theorem CB113 : callB Tryd.prog 113 = true := by kernel_rfl
theorem CB114 : callB Tryd.prog 114 = true := by kernel_rfl
theorem EG67 : Program.eqGuardType Tryd.prog (Program.depth Tryd.prog) 67 = false := by kernel_rfl
theorem EG86 : Program.eqGuardType Tryd.prog (Program.depth Tryd.prog) 86 = false := by kernel_rfl
theorem SH67 : Program.stoodInHeld Tryd.prog 67 = false := by kernel_rfl
theorem SH86 : Program.stoodInHeld Tryd.prog 86 = false := by kernel_rfl
theorem T3 : TI Tryd.prog 3 (.int .i64 0) 1 8 := by unfold TI; kernel_rfl
theorem T4 : TI Tryd.prog 4 (.bool false) 1 1 := by unfold TI; kernel_rfl
theorem T5 : TI Tryd.prog 5 (.int .u8 0) 1 1 := by unfold TI; kernel_rfl
theorem T9 : TI Tryd.prog 9 (.string ⟨#[]⟩) 1 16 := by unfold TI; kernel_rfl
theorem T22 : TI Tryd.prog 22 (.slice none 0 0) 1 24 := by unfold TI; kernel_rfl
theorem T23 : TI Tryd.prog 23 (.slice none 0 0) 1 24 := by unfold TI; kernel_rfl
theorem T24 : TI Tryd.prog 24 (.slice none 0 0) 1 24 := by unfold TI; kernel_rfl
theorem T26 : TI Tryd.prog 26 (.agg #[(.slice none 0 0), (.slice none 0 0), (.slice none 0 0)]) 3 72 := by unfold TI; kernel_rfl
theorem T27 : TI Tryd.prog 27 (.slice none 0 0) 1 24 := by unfold TI; kernel_rfl
theorem T29 : TI Tryd.prog 29 (.agg #[(.slice none 0 0), (.slice none 0 0)]) 2 48 := by unfold TI; kernel_rfl
theorem T31 : TI Tryd.prog 31 (.slice none 0 0) 1 24 := by unfold TI; kernel_rfl
theorem T32 : TI Tryd.prog 32 (.slice none 0 0) 1 24 := by unfold TI; kernel_rfl
theorem T33 : TI Tryd.prog 33 (.slice none 0 0) 1 24 := by unfold TI; kernel_rfl
theorem T35 : TI Tryd.prog 35 (.agg #[(.slice none 0 0), (.slice none 0 0), (.slice none 0 0)]) 3 72 := by unfold TI; kernel_rfl
theorem T41 : TI Tryd.prog 41 (.slice none 0 0) 1 24 := by unfold TI; kernel_rfl
theorem T43 : TI Tryd.prog 43 (.agg #[(.slice none 0 0), (.slice none 0 0), (.slice none 0 0), (.slice none 0 0)]) 4 96 := by unfold TI; kernel_rfl
theorem T49 : TI Tryd.prog 49 (.agg #[(.int .i64 0), (.int .i64 0), (.int .i64 0), (.int .i64 0)]) 4 32 := by unfold TI; kernel_rfl
theorem T51 : TI Tryd.prog 51 (.agg #[(.int .i64 0), (.int .i64 0), (.int .i64 0), (.int .i64 0), (.int .i64 0), (.int .i64 0), (.int .i64 0), (.int .i64 0)]) 8 64 := by unfold TI; kernel_rfl
theorem T54 : TI Tryd.prog 54 (.agg #[(.int .i64 0), (.int .i64 0), (.int .i64 0), (.string ⟨#[]⟩)]) 4 40 := by unfold TI; kernel_rfl
theorem T65 : TI Tryd.prog 65 (.slice none 0 0) 1 24 := by unfold TI; kernel_rfl
theorem T67 : TI Tryd.prog 67 (.agg #[(.int .i64 0), (.int .i64 0)]) 2 16 := by unfold TI; kernel_rfl
theorem T68 : TI Tryd.prog 68 (.slice none 0 0) 1 24 := by unfold TI; kernel_rfl
theorem T69 : TI Tryd.prog 69 (.slice none 0 0) 1 24 := by unfold TI; kernel_rfl
theorem T71 : TI Tryd.prog 71 (.agg #[(.slice none 0 0), (.slice none 0 0)]) 2 48 := by unfold TI; kernel_rfl
theorem T84 : TI Tryd.prog 84 (.agg #[(.int .i64 0), (.int .i64 0), (.slice none 0 0)]) 3 40 := by unfold TI; kernel_rfl
theorem T86 : TI Tryd.prog 86 (.agg #[(.int .i64 0), (.int .i64 0), (.int .i64 0), (.int .i64 0)]) 4 32 := by unfold TI; kernel_rfl
theorem T100 : TI Tryd.prog 100 (.agg #[(.int .u8 0), (.int .u8 0), (.int .u8 0)]) 3 3 := by unfold TI; kernel_rfl
theorem T103 : TI Tryd.prog 103 (.pointer none) 1 8 := by unfold TI; kernel_rfl
theorem T104 : TI Tryd.prog 104 (.slice none 0 0) 1 24 := by unfold TI; kernel_rfl
theorem T106 : TI Tryd.prog 106 (.agg #[(.slice none 0 0), (.slice none 0 0), (.pointer none), (.slice none 0 0), (.slice none 0 0), (.slice none 0 0), (.slice none 0 0), (.slice none 0 0)]) 8 176 := by unfold TI; kernel_rfl
theorem T116 : TI Tryd.prog 116 (.agg #[(.int .i64 0), (.int .i64 0)]) 2 16 := by unfold TI; kernel_rfl
theorem T144 : TI Tryd.prog 144 (.slice none 0 0) 1 24 := by unfold TI; kernel_rfl
theorem T145 : TI Tryd.prog 145 (.agg #[(.slice none 0 0), (.slice none 0 0), (.slice none 0 0), (.slice none 0 0)]) 4 96 := by unfold TI; kernel_rfl
theorem T147 : TI Tryd.prog 147 (.agg #[(.int .i64 0), (.int .i64 0)]) 2 16 := by unfold TI; kernel_rfl
theorem T151 : TI Tryd.prog 151 (.agg #[(.slice none 0 0)]) 1 24 := by unfold TI; kernel_rfl
end Go.Proofs.YtimadnngfhbfiaaDoor
end

section
/-
  MU: short names.
-/
namespace Go.Mu
abbrev Ep := @Env.put
abbrev E0 := Env.emp
abbrev i6 (x : Int) : Value := .int .i64 x
theorem lq {a b : Env} {d : Nat} {v : Value} (h : b d = some v) (le : a.Le b) : (a.put d v).Le b := Env.le_put h le
theorem lz (b : Env) : Env.emp.Le b := Env.le_emp b
theorem sl0 {α : Type} : List.Sublist ([] : List α) [] := List.Sublist.slnil
section
variable {P : Program} {n : Nat} {ops : Array Oper} {env : Env} {h : H} {L : Log} {K : Env → H → Prop} {s : List Item} {i d : Nat} {o : Oper} {v : Value}
theorem Xk (ho : ops[i]? = some o) (hd : o.dst = some d) (l : Look P n o env h v) (r : ∀ L, Run P n ops s L K (env.put d v) h) (hg : o.guard = none := by rfl) : Run P n ops (.look i :: s) L K env h := R.look ho hg hd l r
theorem Xm {x : Operand} (ho : ops[i]? = some o) (hd : o.dst = some d) (h1 : o.op = .move x) (h2 : look env x = some v) (r : ∀ L, Run P n ops s L K (env.put d v) h) (hg : o.guard = none := by rfl) : Run P n ops (.look i :: s) L K env h := R.look ho hg hd (Lk.move h1 h2) r
theorem Xa {x : Operand} (ho : ops[i]? = some o) (hd : o.dst = some d) (h1 : o.op = .assign x) (h2 : look env x = some v) (r : ∀ L, Run P n ops s L K (env.put d v) h) (hg : o.guard = none := by rfl) : Run P n ops (.look i :: s) L K env h := R.look ho hg hd (Lk.assign h1 h2) r
theorem XP {L : Log} {a i : Nat} {p : H → Prop} {hp : H} (x : L i hp) (hne : i ≠ a := by decide) : (L.set a p) i hp := Log.past hne x
theorem Xr {id : Nat} {ops : Array Oper} (s : List Item) {env : Env} {h : H} {K : Exit → Env → H → Prop} (r : Run P n ops s Log.none (K .normal) env h) (hB : seqB n ops s = true := by kernel_rfl) : EvC P n (.region id ops false) env h K := EvC.region s hB r
end
end Go.Mu
end

section
namespace Go.Proofs.YtimadnngfhbfiaaDoor
open Go Go.Mu
set_option maxHeartbeats 4000000
set_option maxRecDepth 100000
theorem f11_ok {p0_0 : Sl} {p0_1 : Sl} {p0_2 : Sl} {p1 : Int} {h : H} {K : Sl → Sl → H → Prop} (hS : S11 p0_0 p0_1 p0_2 p1 h K) : ACall Tryd.prog 11 ([(.agg ([(.slice p0_0.a p0_0.l p0_0.c), (.slice p0_1.a p0_1.l p0_1.c), (.slice p0_2.a p0_2.l p0_2.c)] : List Value).toArray), (i6 p1)] : List Value).toArray h (fun r h' => ∃ r0_0 : Sl, ∃ r0_1 : Sl, r = tup [(.agg ([(.slice r0_0.a r0_0.l r0_0.c), (.slice r0_1.a r0_1.l r0_1.c)] : List Value).toArray)] ∧ K r0_0 r0_1 h') := by
  refine ACall.enter (fn := Tryd.f11) Tryd.func11 rfl (Nat.le_of_ble_eq_true rfl) ?_; unfold S11 at hS; have ok := Lok.nil h; refine EvC.seq (Xr [.alc 0, .alc 1] (R.var (blk := .row ⟨[(.slice p0_0.a p0_0.l p0_0.c), (.slice p0_1.a p0_1.l p0_1.c), (.slice p0_2.a p0_2.l p0_2.c)], 3, 26, true, true⟩) ok rfl rfl rfl (Ac.box rfl rfl) rfl rfl fun b2 ok => ?_)); refine R.var (blk := .row ⟨[(.slice none 0 0), (.slice none 0 0)], 2, 29, true, true⟩) ok rfl rfl rfl (Ac.alloc rfl T29) rfl rfl fun b4 ok => ?_; refine R.nil (EvC.seq (Xr [.look 0, .alc 1, .eff 2 []] (Xk rfl rfl (Lk.build (cs := [(.slice none 0 0), (.slice none 0 0)]) (pl := [(0, 1), (1, 1)]) rfl Tryd.underlying29 T29 (PlacesL.places (.cons T22 (.cons T27 PlacesL.nil))) rfl rfl) fun _ => R.var (blk := .row ⟨[(.slice none 0 0), (.slice none 0 0)], 2, 29, true, true⟩) ok rfl rfl rfl (Ac.alloc rfl T29) rfl rfl fun b5 ok => ?_))); refine R.effN rfl rfl rfl (Ef.storeLoc (i := 0) (vs := [(.slice none 0 0), (.slice none 0 0)]) (cs := [(.slice none 0 0), (.slice none 0 0)]) (l' := [(b5, .row ⟨[(.slice none 0 0), (.slice none 0 0)], 2, 29, true, true⟩), (b4, .row ⟨[(.slice none 0 0), (.slice none 0 0)], 2, 29, true, true⟩), (b2, .row ⟨[(.slice p0_0.a p0_0.l p0_0.c), (.slice p0_1.a p0_1.l p0_1.c), (.slice p0_2.a p0_2.l p0_2.c)], 3, 26, true, true⟩)]) ok rfl T29 rfl rfl rfl rfl rfl rfl rfl rfl rfl rfl fun ok => ⟨noChk, ?_⟩); refine R.nil (EvC.join (σ := Sl × Sl) (fun s => (Ep (Ep (Ep (Ep E0 5 (.pointer (some ⟨b5, 0, none⟩))) 4 (.pointer (some ⟨b4, 0, none⟩))) 2 (.pointer (some ⟨b2, 0, none⟩))) 1 (i6 p1))) (fun s => [(b5, .row ⟨[(.slice s.1.a s.1.l s.1.c), (.slice s.2.a s.2.l s.2.c)], 2, 29, true, true⟩), (b4, .row ⟨[(.slice none 0 0), (.slice none 0 0)], 2, 29, true, true⟩), (b2, .row ⟨[(.slice p0_0.a p0_0.l p0_0.c), (.slice p0_1.a p0_1.l p0_1.c), (.slice p0_2.a p0_2.l p0_2.c)], 3, 26, true, true⟩)]) (fun s h_1 => S11_j7 p0_1 p0_2 p1 K s.1 s.2 h_1) ?_ (fun Ih_1 hIh_1 => ?_))
  · rintro ⟨c5_0, c5_1⟩ h_1 ok hS; replace hS : S11_j7 p0_1 p0_2 p1 K c5_0 c5_1 h_1 := hS; unfold S11_j7 at hS; refine EvC.join (σ := Sl × Sl) (fun s => (Ep (Ep E0 5 (.pointer (some ⟨b5, 0, none⟩))) 4 (.pointer (some ⟨b4, 0, none⟩)))) (fun s => [(b5, .row ⟨[(.slice s.1.a s.1.l s.1.c), (.slice s.2.a s.2.l s.2.c)], 2, 29, true, true⟩), (b4, .row ⟨[(.slice none 0 0), (.slice none 0 0)], 2, 29, true, true⟩)]) (fun s h_2 => S11_j1 K s.1 s.2 h_2) ?_ (fun Ih_2 hIh_2 => ?_)
    · rintro ⟨c5_0_1, c5_1_1⟩ h_2 ok hS; replace hS : S11_j1 K c5_0_1 c5_1_1 h_2 := hS; unfold S11_j1 at hS; refine EvC.seq (Xr [.look 0, .eff 1 []] (Xk rfl rfl (Lk.loadN (vs := [(.slice c5_0_1.a c5_0_1.l c5_0_1.c), (.slice c5_1_1.a c5_1_1.l c5_1_1.c)]) rfl Tryd.underlying29 rfl T29 rfl (H.rdn_loc ok (i := 0) rfl rfl rfl)) fun _ => ?_)); refine R.effN rfl rfl rfl (Ef.storeLoc (i := 1) (vs := [(.slice c5_0_1.a c5_0_1.l c5_0_1.c), (.slice c5_1_1.a c5_1_1.l c5_1_1.c)]) (cs := [(.slice c5_0_1.a c5_0_1.l c5_0_1.c), (.slice c5_1_1.a c5_1_1.l c5_1_1.c)]) (l' := [(b5, .row ⟨[(.slice c5_0_1.a c5_0_1.l c5_0_1.c), (.slice c5_1_1.a c5_1_1.l c5_1_1.c)], 2, 29, true, true⟩), (b4, .row ⟨[(.slice c5_0_1.a c5_0_1.l c5_0_1.c), (.slice c5_1_1.a c5_1_1.l c5_1_1.c)], 2, 29, true, true⟩)]) ok rfl T29 rfl rfl rfl rfl rfl rfl rfl rfl rfl rfl fun ok => ⟨noChk, ?_⟩); refine R.nil (EvC.ret ?_); exact ⟨.inr rfl, _, _, (.cons (.cells rfl (fun w => Und.agg Tryd.underlying29 w) (fun w => T29.size_ w) (H.rdn_loc ok (i := 1) rfl rfl rfl)) .nil), ok.le, _, _, rfl, hS⟩
    · refine EvC.seq (Xr [.look 0] (Xa rfl rfl rfl rfl fun _ => ?_)); refine R.nil (EvC.block (EvC.loop (LoopC.lfp (σ := Int × Sl × Sl) (fun s => (Ep (Ep (Ep (Ep (Ep E0 7 (i6 s.1)) 5 (.pointer (some ⟨b5, 0, none⟩))) 4 (.pointer (some ⟨b4, 0, none⟩))) 2 (.pointer (some ⟨b2, 0, none⟩))) 1 (i6 p1))) (fun s => [(b5, .row ⟨[(.slice s.2.1.a s.2.1.l s.2.1.c), (.slice s.2.2.a s.2.2.l s.2.2.c)], 2, 29, true, true⟩), (b4, .row ⟨[(.slice none 0 0), (.slice none 0 0)], 2, 29, true, true⟩), (b2, .row ⟨[(.slice p0_0.a p0_0.l p0_0.c), (.slice p0_1.a p0_1.l p0_1.c), (.slice p0_2.a p0_2.l p0_2.c)], 3, 26, true, true⟩)]) (fun X hX => ?_) hS (ok.sub (.cons_cons _ (.cons_cons _ (.cons_cons _ sl0)))) (lq rfl (lq rfl (lq rfl (lq rfl (lq rfl (lz _)))))) (H.add_sub ok (.cons_cons _ (.cons_cons _ (.cons_cons _ sl0))))))); rintro ⟨v7, c5_0_2, c5_1_2⟩ h_3 hS ok; replace hS : S11_l6 p0_1 p0_2 p1 K X v7 c5_0_2 c5_1_2 h_3 := hS; unfold S11_l6 at hS; refine EvC.seq (EvC.join (σ := Bool) (fun s => (Ep (Ep (Ep (Ep (Ep (Ep E0 49 (.bool s)) 7 (i6 v7)) 5 (.pointer (some ⟨b5, 0, none⟩))) 4 (.pointer (some ⟨b4, 0, none⟩))) 2 (.pointer (some ⟨b2, 0, none⟩))) 1 (i6 p1))) (fun s => [(b5, .row ⟨[(.slice c5_0_2.a c5_0_2.l c5_0_2.c), (.slice c5_1_2.a c5_1_2.l c5_1_2.c)], 2, 29, true, true⟩), (b4, .row ⟨[(.slice none 0 0), (.slice none 0 0)], 2, 29, true, true⟩), (b2, .row ⟨[(.slice p0_0.a p0_0.l p0_0.c), (.slice p0_1.a p0_1.l p0_1.c), (.slice p0_2.a p0_2.l p0_2.c)], 3, 26, true, true⟩)]) (fun s h_4 => S11_j5 p0_1 p0_2 K v7 c5_0_2 c5_1_2 X s h_4) ?_ (fun Ih_4 hIh_4 => ?_))
      · intro v49 h_4 ok hS; replace hS : S11_j5 p0_1 p0_2 K v7 c5_0_2 c5_1_2 X v49 h_4 := hS; unfold S11_j5 at hS
        by_cases e1 : v49 = true
        · rw [if_pos e1] at hS; refine EvC.condT rfl e1 (EvC.skip (EvC.seq (EvC.block (EvC.seq (EvC.draw [0, 1, 0, 7, 15, 31, 63, 0, 128, 384, 1023, 0, 2048, 0, 14336, 30720, 63488, 129024, 0, 262144, 786432, 2095104, 0, 4194304, 0, 29360128, 62914560, 130023424, 264241152, 532676608, 1073741823, 0, 4294967295] [Item.look 0, Item.look 1, Item.look 2, Item.look 3, Item.look 4, Item.look 5, Item.look 6, Item.look 7, Item.look 8, Item.look 9, Item.look 10, Item.look 11, Item.look 12, Item.look 13, Item.look 14, Item.look 15, Item.look 16, Item.look 17, Item.look 18, Item.look 19, Item.look 20, Item.look 21, Item.look 22, Item.look 23, Item.look 24, Item.look 25, Item.look 26, Item.look 27, Item.look 28, Item.look 29, Item.look 30, Item.alc 31, Item.eff 32 []] MO (by kernel_rfl) ?_))))); refine Xk (v := (.pointer (some ⟨b2, 1, none⟩))) rfl rfl (Lk.fldAddr rfl Tryd.underlying26 rfl rfl T23 rfl rfl rfl) fun _ => ?_; refine Xk rfl rfl (Lk.load1 (v := (.slice p0_1.a p0_1.l p0_1.c)) rfl Tryd.underlying23 rfl rfl (H.rd_loc ok (i := 2) rfl rfl)) fun _ => ?_; refine Xm rfl rfl rfl rfl fun _ => ?_
          obtain ⟨a55, e2, e3, e4, hS⟩ := hS
          refine Xk rfl rfl (Lk.ixAddr rfl Tryd.underlying23 T100 rfl e2 rfl e3 e4) fun _ => ?_; refine R.look (v := (.pointer (some (Addr.add a55 (Int.toNat v7 * 3))))) rfl rfl rfl (Lk.ixConst rfl Tryd.underlying100 T5 rfl rfl rfl rfl) fun _ => ?_
          obtain ⟨v57, e5, hS⟩ := hS
          refine Xk rfl rfl (Look.loc ok (Lk.load1 rfl Tryd.underlying5 rfl rfl e5)) fun _ => ?_; refine Xk rfl rfl (Lk.conv rfl Tryd.underlying5 Tryd.underlying3 rfl) fun _ => ?_; refine Xk (v := (.pointer (some ⟨b5, 0, none⟩))) rfl rfl (Lk.fldAddr rfl Tryd.underlying29 rfl rfl T22 rfl rfl rfl) fun _ => ?_; refine Xk rfl rfl (Lk.load1 (v := (.slice c5_0_2.a c5_0_2.l c5_0_2.c)) rfl Tryd.underlying22 rfl rfl (H.rd_loc ok (i := 0) rfl rfl)) fun _ => ?_; refine Xk rfl rfl (Lk.len rfl Tryd.underlying22 rfl) fun _ => ?_
          obtain ⟨e6, hS⟩ := hS
          refine Xk rfl rfl (Lk.rem rfl rfl rfl e6) fun _ => ?_; refine Xk (v := (.pointer (some ⟨b2, 1, none⟩))) rfl rfl (Lk.fldAddr rfl Tryd.underlying26 rfl rfl T23 rfl rfl rfl) fun _ => ?_; refine Xk rfl rfl (Lk.load1 (v := (.slice p0_1.a p0_1.l p0_1.c)) rfl Tryd.underlying23 rfl rfl (H.rd_loc ok (i := 2) rfl rfl)) fun _ => ?_; refine Xm rfl rfl rfl rfl fun _ => ?_
          obtain ⟨a66, e7, e8, e9, hS⟩ := hS
          refine Xk rfl rfl (Lk.ixAddr rfl Tryd.underlying23 T100 rfl e7 rfl e8 e9) fun _ => ?_; refine R.look (v := (.pointer (some (Addr.add (Addr.add a66 (Int.toNat v7 * 3)) 1)))) rfl rfl rfl (Lk.ixConst rfl Tryd.underlying100 T5 rfl rfl rfl rfl) fun _ => ?_
          obtain ⟨v68, e10, hS⟩ := hS
          refine Xk rfl rfl (Look.loc ok (Lk.load1 rfl Tryd.underlying5 rfl rfl e10)) fun _ => ?_; refine Xk rfl rfl (Lk.conv rfl Tryd.underlying5 Tryd.underlying3 rfl) fun _ => ?_; refine Xk (v := (.pointer (some ⟨b5, 0, none⟩))) rfl rfl (Lk.fldAddr rfl Tryd.underlying29 rfl rfl T22 rfl rfl rfl) fun _ => ?_; refine Xk rfl rfl (Lk.load1 (v := (.slice c5_0_2.a c5_0_2.l c5_0_2.c)) rfl Tryd.underlying22 rfl rfl (H.rd_loc ok (i := 0) rfl rfl)) fun _ => ?_; refine Xk rfl rfl (Lk.len rfl Tryd.underlying22 rfl) fun _ => ?_
          obtain ⟨e11, hS⟩ := hS
          refine Xk rfl rfl (Lk.rem rfl rfl rfl e11) fun _ => ?_; refine Xk (v := (.pointer (some ⟨b2, 1, none⟩))) rfl rfl (Lk.fldAddr rfl Tryd.underlying26 rfl rfl T23 rfl rfl rfl) fun _ => ?_; refine Xk rfl rfl (Lk.load1 (v := (.slice p0_1.a p0_1.l p0_1.c)) rfl Tryd.underlying23 rfl rfl (H.rd_loc ok (i := 2) rfl rfl)) fun _ => ?_; refine Xm rfl rfl rfl rfl fun _ => ?_
          obtain ⟨a77, e12, e13, e14, hS⟩ := hS
          refine Xk rfl rfl (Lk.ixAddr rfl Tryd.underlying23 T100 rfl e12 rfl e13 e14) fun _ => ?_; refine R.look (v := (.pointer (some (Addr.add (Addr.add a77 (Int.toNat v7 * 3)) 2)))) rfl rfl rfl (Lk.ixConst rfl Tryd.underlying100 T5 rfl rfl rfl rfl) fun _ => ?_
          obtain ⟨v79, e15, hS⟩ := hS
          refine Xk rfl rfl (Look.loc ok (Lk.load1 rfl Tryd.underlying5 rfl rfl e15)) fun _ => ?_; refine Xk rfl rfl (Lk.conv rfl Tryd.underlying5 Tryd.underlying3 rfl) fun _ => ?_; refine Xk rfl rfl (Lk.rem (j := 4) rfl rfl rfl (by decide)) fun _ => ?_; refine Xk rfl rfl (Lk.build (cs := [(i6 (Int.tmod (IntKind.wrap .i64 v57) (c5_0_2.l : Int))), (i6 (Int.tmod (IntKind.wrap .i64 v68) (c5_0_2.l : Int))), (i6 (Int.tmod (IntKind.wrap .i64 v79) 4)), (.string ⟨#[]⟩)]) (pl := [(0, 1), (1, 1), (2, 1), (3, 1)]) rfl Tryd.underlying54 T54 (PlacesL.places (.cons T3 (.cons T3 (.cons T3 (.cons T9 PlacesL.nil))))) rfl rfl) fun _ => ?_; refine R.var (blk := .row ⟨[(i6 0), (i6 0), (i6 0), (.string ⟨#[]⟩)], 4, 54, true, true⟩) ok rfl rfl rfl (Ac.alloc rfl T54) rfl rfl fun b8 ok => ?_; refine R.effN rfl rfl rfl (Ef.storeLoc (i := 0) (vs := [(i6 (Int.tmod (IntKind.wrap .i64 v57) (c5_0_2.l : Int))), (i6 (Int.tmod (IntKind.wrap .i64 v68) (c5_0_2.l : Int))), (i6 (Int.tmod (IntKind.wrap .i64 v79) 4)), (.string ⟨#[]⟩)]) (cs := [(i6 (Int.tmod (IntKind.wrap .i64 v57) (c5_0_2.l : Int))), (i6 (Int.tmod (IntKind.wrap .i64 v68) (c5_0_2.l : Int))), (i6 (Int.tmod (IntKind.wrap .i64 v79) 4)), (.string ⟨#[]⟩)]) (l' := [(b8, .row ⟨[(i6 (Int.tmod (IntKind.wrap .i64 v57) (c5_0_2.l : Int))), (i6 (Int.tmod (IntKind.wrap .i64 v68) (c5_0_2.l : Int))), (i6 (Int.tmod (IntKind.wrap .i64 v79) 4)), (.string ⟨#[]⟩)], 4, 54, true, true⟩), (b5, .row ⟨[(.slice c5_0_2.a c5_0_2.l c5_0_2.c), (.slice c5_1_2.a c5_1_2.l c5_1_2.c)], 2, 29, true, true⟩), (b4, .row ⟨[(.slice none 0 0), (.slice none 0 0)], 2, 29, true, true⟩), (b2, .row ⟨[(.slice p0_0.a p0_0.l p0_0.c), (.slice p0_1.a p0_1.l p0_1.c), (.slice p0_2.a p0_2.l p0_2.c)], 3, 26, true, true⟩)]) ok rfl T54 rfl rfl rfl rfl rfl rfl rfl rfl rfl rfl fun ok => ⟨noChk, ?_⟩); refine R.nil (EvC.join (σ := Int × Int × Int × ByteArray) (fun s => (Ep (Ep (Ep (Ep (Ep (Ep E0 8 (.pointer (some ⟨b8, 0, none⟩))) 7 (i6 v7)) 5 (.pointer (some ⟨b5, 0, none⟩))) 4 (.pointer (some ⟨b4, 0, none⟩))) 2 (.pointer (some ⟨b2, 0, none⟩))) 1 (i6 p1))) (fun s => [(b8, .row ⟨[(i6 s.1), (i6 s.2.1), (i6 s.2.2.1), (.string s.2.2.2)], 4, 54, true, true⟩), (b5, .row ⟨[(.slice c5_0_2.a c5_0_2.l c5_0_2.c), (.slice c5_1_2.a c5_1_2.l c5_1_2.c)], 2, 29, true, true⟩), (b4, .row ⟨[(.slice none 0 0), (.slice none 0 0)], 2, 29, true, true⟩), (b2, .row ⟨[(.slice p0_0.a p0_0.l p0_0.c), (.slice p0_1.a p0_1.l p0_1.c), (.slice p0_2.a p0_2.l p0_2.c)], 3, 26, true, true⟩)]) (fun s h_5 => S11_j2 v7 c5_0_2 c5_1_2 X s.1 s.2.1 s.2.2.1 s.2.2.2 h_5) ?_ (fun Ih_5 hIh_5 => ?_))
          · rintro ⟨c8_0, c8_1, c8_2, c8_3⟩ h_5 ok hS; replace hS : S11_j2 v7 c5_0_2 c5_1_2 X c8_0 c8_1 c8_2 c8_3 h_5 := hS; unfold S11_j2 at hS; refine Xr [.look 0, .look 1, .look 2, .alc 3, .eff 4 [], .look 5, .eff 6 []] (Xk (v := (.pointer (some ⟨b5, 1, none⟩))) rfl rfl (Lk.fldAddr rfl Tryd.underlying29 rfl rfl T27 rfl rfl rfl) fun _ => ?_); refine Xk rfl rfl (Lk.load1 (v := (.slice c5_1_2.a c5_1_2.l c5_1_2.c)) rfl Tryd.underlying27 rfl rfl (H.rd_loc ok (i := 1) rfl rfl)) fun _ => ?_; refine Xk rfl rfl (Lk.loadN (vs := [(i6 c8_0), (i6 c8_1), (i6 c8_2), (.string c8_3)]) rfl Tryd.underlying54 rfl T54 rfl (H.rdn_loc ok (i := 0) rfl rfl rfl)) fun _ => ?_; refine R.appL (cs := [(i6 c8_0), (i6 c8_1), (i6 c8_2), (.string c8_3)]) ok rfl rfl rfl rfl rfl rfl rfl rfl Tryd.underlying27 T54 rfl (by decide) (by decide) rfl rfl rfl rfl rfl (fun _ => rfl) hS ?_; intro bb120 v121 h_6 hS ok; refine ⟨noChk, ?_⟩; refine Xk (v := (.pointer (some ⟨b5, 1, none⟩))) rfl rfl (Lk.fldAddr rfl Tryd.underlying29 rfl rfl T27 rfl rfl rfl) fun _ => ?_; refine R.effN rfl rfl rfl (Ef.storeLoc (i := 1) (vs := [(.slice v121.a v121.l v121.c)]) (cs := [(.slice c5_0_2.a c5_0_2.l c5_0_2.c), (.slice v121.a v121.l v121.c)]) (l' := [(b8, .row ⟨[(i6 c8_0), (i6 c8_1), (i6 c8_2), (.string c8_3)], 4, 54, true, true⟩), (b5, .row ⟨[(.slice c5_0_2.a c5_0_2.l c5_0_2.c), (.slice v121.a v121.l v121.c)], 2, 29, true, true⟩), (b4, .row ⟨[(.slice none 0 0), (.slice none 0 0)], 2, 29, true, true⟩), (b2, .row ⟨[(.slice p0_0.a p0_0.l p0_0.c), (.slice p0_1.a p0_1.l p0_1.c), (.slice p0_2.a p0_2.l p0_2.c)], 3, 26, true, true⟩)]) ok rfl T27 rfl rfl rfl rfl rfl rfl rfl rfl rfl rfl fun ok => ⟨noChk, ?_⟩); refine R.nil (Xr [.look 0, .look 1, .look 2] (Xm rfl rfl rfl rfl fun _ => Xk rfl rfl (Lk.arith rfl rfl rfl rfl) fun _ => Xa rfl rfl rfl rfl fun _ => R.nil ?_)); exact hX ((IntKind.wrap .i64 (v7 + 1)), c5_0_2, v121) _ _ _ hS (ok.sub (.cons _ (.cons_cons _ (.cons_cons _ (.cons_cons _ sl0))))) (lq rfl (lq rfl (lq rfl (lq rfl (lq rfl (lz _)))))) (H.add_sub ok (.cons _ (.cons_cons _ (.cons_cons _ (.cons_cons _ sl0)))))
          · refine EvC.seq (Xr [.look 0, .look 1, .look 2, .look 3, .look 4] (Xm rfl rfl rfl rfl fun _ => ?_)); refine Xk (v := (.pointer (some ⟨b2, 2, none⟩))) rfl rfl (Lk.fldAddr rfl Tryd.underlying26 rfl rfl T24 rfl rfl rfl) fun _ => ?_; refine Xk rfl rfl (Lk.load1 (v := (.slice p0_2.a p0_2.l p0_2.c)) rfl Tryd.underlying24 rfl rfl (H.rd_loc ok (i := 3) rfl rfl)) fun _ => ?_; refine Xk rfl rfl (Lk.len rfl Tryd.underlying24 rfl) fun _ => ?_; refine Xk rfl rfl (Lk.arith rfl rfl rfl rfl) fun _ => ?_; refine R.nil ?_
            by_cases e16 : (decide (v7 < (p0_2.l : Int))) = true
            · rw [if_pos e16] at hS; refine EvC.condT rfl e16 (EvC.seq (Xr [.look 0] (Xa rfl rfl rfl rfl fun _ => ?_))); refine R.nil (EvC.block (EvC.loop (LoopC.lfp (σ := Int × Int × Int × Int × ByteArray) (fun s => (Ep (Ep (Ep (Ep (Ep (Ep (Ep E0 9 (i6 s.1)) 8 (.pointer (some ⟨b8, 0, none⟩))) 7 (i6 v7)) 5 (.pointer (some ⟨b5, 0, none⟩))) 4 (.pointer (some ⟨b4, 0, none⟩))) 2 (.pointer (some ⟨b2, 0, none⟩))) 1 (i6 p1))) (fun s => [(b8, .row ⟨[(i6 s.2.1), (i6 s.2.2.1), (i6 s.2.2.2.1), (.string s.2.2.2.2)], 4, 54, true, true⟩), (b5, .row ⟨[(.slice c5_0_2.a c5_0_2.l c5_0_2.c), (.slice c5_1_2.a c5_1_2.l c5_1_2.c)], 2, 29, true, true⟩), (b4, .row ⟨[(.slice none 0 0), (.slice none 0 0)], 2, 29, true, true⟩), (b2, .row ⟨[(.slice p0_0.a p0_0.l p0_0.c), (.slice p0_1.a p0_1.l p0_1.c), (.slice p0_2.a p0_2.l p0_2.c)], 3, 26, true, true⟩)]) (fun X_1 hX_1 => ?_) hS (ok.sub (.cons_cons _ (.cons_cons _ (.cons_cons _ (.cons_cons _ sl0))))) (lq rfl (lq rfl (lq rfl (lq rfl (lq rfl (lq rfl (lq rfl (lz _)))))))) (H.add_sub ok (.cons_cons _ (.cons_cons _ (.cons_cons _ (.cons_cons _ sl0)))))))); rintro ⟨v9, c8_0_1, c8_1_1, c8_2_1, c8_3_1⟩ h_7 hS ok; replace hS : S11_l4 p0_2 v7 c5_0_2 c5_1_2 X X_1 v9 c8_0_1 c8_1_1 c8_2_1 c8_3_1 h_7 := hS; unfold S11_l4 at hS; refine EvC.seq (EvC.seq (Xr [.look 0, .look 1, .look 2, .look 3, .look 4, .look 5, .look 6, .look 7, .look 8] (Xm rfl rfl rfl rfl fun _ => ?_))); refine Xk (v := (.pointer (some ⟨b2, 2, none⟩))) rfl rfl (Lk.fldAddr rfl Tryd.underlying26 rfl rfl T24 rfl rfl rfl) fun _ => ?_; refine Xk rfl rfl (Lk.load1 (v := (.slice p0_2.a p0_2.l p0_2.c)) rfl Tryd.underlying24 rfl rfl (H.rd_loc ok (i := 3) rfl rfl)) fun _ => ?_; refine Xm rfl rfl rfl rfl fun _ => ?_
              obtain ⟨a92, e17, e18, e19, hS⟩ := hS
              refine Xk rfl rfl (Lk.ixAddr rfl Tryd.underlying24 T5 rfl e17 rfl e18 e19) fun _ => ?_
              obtain ⟨v93, e20, hS⟩ := hS
              refine Xk rfl rfl (Look.loc ok (Lk.load1 rfl Tryd.underlying5 rfl rfl e20)) fun _ => ?_; refine Xk rfl rfl (Lk.conv rfl Tryd.underlying5 Tryd.underlying3 rfl) fun _ => ?_; refine Xk rfl rfl (Lk.rem (j := 4) rfl rfl rfl (by decide)) fun _ => ?_; refine Xk rfl rfl (Lk.arith rfl rfl rfl rfl) fun _ => ?_; refine R.nil ?_
              by_cases e21 : (decide (v9 < (Int.tmod (IntKind.wrap .i64 v93) 4))) = true
              · rw [if_pos e21] at hS; refine EvC.condT rfl e21 (EvC.skip (EvC.join (σ := Int × Int × Int × ByteArray) (fun s => (Ep (Ep (Ep (Ep (Ep (Ep (Ep E0 9 (i6 v9)) 8 (.pointer (some ⟨b8, 0, none⟩))) 7 (i6 v7)) 5 (.pointer (some ⟨b5, 0, none⟩))) 4 (.pointer (some ⟨b4, 0, none⟩))) 2 (.pointer (some ⟨b2, 0, none⟩))) 1 (i6 p1))) (fun s => [(b8, .row ⟨[(i6 s.1), (i6 s.2.1), (i6 s.2.2.1), (.string s.2.2.2)], 4, 54, true, true⟩), (b5, .row ⟨[(.slice c5_0_2.a c5_0_2.l c5_0_2.c), (.slice c5_1_2.a c5_1_2.l c5_1_2.c)], 2, 29, true, true⟩), (b4, .row ⟨[(.slice none 0 0), (.slice none 0 0)], 2, 29, true, true⟩), (b2, .row ⟨[(.slice p0_0.a p0_0.l p0_0.c), (.slice p0_1.a p0_1.l p0_1.c), (.slice p0_2.a p0_2.l p0_2.c)], 3, 26, true, true⟩)]) (fun s h_8 => S11_j3 v9 X_1 s.1 s.2.1 s.2.2.1 s.2.2.2 h_8) ?_ (fun Ih_8 hIh_8 => ?_)))
                · rintro ⟨c8_0_2, c8_1_2, c8_2_2, c8_3_2⟩ h_8 ok hS; replace hS : S11_j3 v9 X_1 c8_0_2 c8_1_2 c8_2_2 c8_3_2 h_8 := hS; unfold S11_j3 at hS; refine Xr [.look 0, .look 1, .look 2] (Xm rfl rfl rfl rfl fun _ => ?_); refine Xk rfl rfl (Lk.arith rfl rfl rfl rfl) fun _ => ?_; refine Xa rfl rfl rfl rfl fun _ => ?_; refine R.nil ?_; exact hX_1 ((IntKind.wrap .i64 (v9 + 1)), c8_0_2, c8_1_2, c8_2_2, c8_3_2) _ _ _ hS (ok.sub (.cons_cons _ (.cons_cons _ (.cons_cons _ (.cons_cons _ sl0))))) (lq rfl (lq rfl (lq rfl (lq rfl (lq rfl (lq rfl (lq rfl (lz _)))))))) (H.add_sub ok (.cons_cons _ (.cons_cons _ (.cons_cons _ (.cons_cons _ sl0)))))
                · refine EvC.block (EvC.seq (Xr [.look 0, .look 1, .look 2, .look 3, .look 4, .look 5, .look 6, .look 7, .look 8, .look 9] (Xk (v := (.pointer (some ⟨b2, 2, none⟩))) rfl rfl (Lk.fldAddr rfl Tryd.underlying26 rfl rfl T24 rfl rfl rfl) fun _ => ?_))); refine Xk rfl rfl (Lk.load1 (v := (.slice p0_2.a p0_2.l p0_2.c)) rfl Tryd.underlying24 rfl rfl (H.rd_loc ok (i := 3) rfl rfl)) fun _ => ?_; refine Xm rfl rfl rfl rfl fun _ => ?_
                  obtain ⟨a102, e22, e23, e24, hS⟩ := hS
                  refine Xk rfl rfl (Lk.ixAddr rfl Tryd.underlying24 T5 rfl e22 rfl e23 e24) fun _ => ?_
                  obtain ⟨v103, e25, hS⟩ := hS
                  refine Xk rfl rfl (Look.loc ok (Lk.load1 rfl Tryd.underlying5 rfl rfl e25)) fun _ => ?_; refine Xm rfl rfl rfl rfl fun _ => ?_; refine Xk rfl rfl (Lk.arith rfl rfl rfl rfl) fun _ => ?_
                  obtain ⟨e26, hS⟩ := hS
                  refine Xk rfl rfl (Lk.shr rfl rfl rfl e26) fun _ => ?_; refine Xk rfl rfl (Lk.arith rfl rfl rfl rfl) fun _ => ?_; refine Xk rfl rfl (Lk.arith rfl rfl rfl rfl) fun _ => ?_; refine R.nil ?_
                  by_cases e27 : ((IntKind.wrap .u8 (((BitVec.ofInt (IntKind.bits .u8) (Int.fdiv v103 (2 ^ (min (Int.toNat (IntKind.wrap .i64 (2 + v9))) (IntKind.bits .u8)))) &&& BitVec.ofInt (IntKind.bits .u8) 1).toNat : Nat) : Int)) == 1) = true
                  · rw [if_pos e27] at hS; refine EvC.condT rfl e27 (Xr [.look 0, .look 1, .look 2, .look 3, .eff 4 []] (Xk (v := (.pointer (some ⟨b8, 3, none⟩))) rfl rfl (Lk.fldAddr rfl Tryd.underlying54 rfl rfl T9 rfl rfl rfl) fun _ => ?_)); refine Xk rfl rfl (Lk.load1 (v := (.string c8_3_1)) rfl Tryd.underlying9 rfl rfl (H.rd_loc ok (i := 0) rfl rfl)) fun _ => ?_
                    obtain ⟨e28, hS⟩ := hS
                    refine Xk rfl rfl (Lk.strAdd rfl rfl rfl e28) fun _ => ?_; refine Xk (v := (.pointer (some ⟨b8, 3, none⟩))) rfl rfl (Lk.fldAddr rfl Tryd.underlying54 rfl rfl T9 rfl rfl rfl) fun _ => ?_; refine R.effN rfl rfl rfl (Ef.storeLoc (i := 0) (vs := [(.string (c8_3_1 ++ ⟨#[76]⟩))]) (cs := [(i6 c8_0_1), (i6 c8_1_1), (i6 c8_2_1), (.string (c8_3_1 ++ ⟨#[76]⟩))]) (l' := [(b8, .row ⟨[(i6 c8_0_1), (i6 c8_1_1), (i6 c8_2_1), (.string (c8_3_1 ++ ⟨#[76]⟩))], 4, 54, true, true⟩), (b5, .row ⟨[(.slice c5_0_2.a c5_0_2.l c5_0_2.c), (.slice c5_1_2.a c5_1_2.l c5_1_2.c)], 2, 29, true, true⟩), (b4, .row ⟨[(.slice none 0 0), (.slice none 0 0)], 2, 29, true, true⟩), (b2, .row ⟨[(.slice p0_0.a p0_0.l p0_0.c), (.slice p0_1.a p0_1.l p0_1.c), (.slice p0_2.a p0_2.l p0_2.c)], 3, 26, true, true⟩)]) ok rfl T9 rfl rfl rfl rfl rfl rfl rfl rfl rfl rfl fun ok => ⟨noChk, ?_⟩); refine R.nil ?_; exact hIh_8 (c8_0_1, c8_1_1, c8_2_1, (c8_3_1 ++ ⟨#[76]⟩)) _ _ _ (lq rfl (lq rfl (lq rfl (lq rfl (lq rfl (lq rfl (lq rfl (lz _)))))))) (ok.sub (.cons_cons _ (.cons_cons _ (.cons_cons _ (.cons_cons _ sl0))))) (H.add_sub ok (.cons_cons _ (.cons_cons _ (.cons_cons _ (.cons_cons _ sl0))))) hS
                  · rw [if_neg e27] at hS; replace e27 := eq_false_of_ne_true e27; refine EvC.condF rfl e27 (Xr [.look 0, .look 1, .look 2, .look 3, .eff 4 []] (Xk (v := (.pointer (some ⟨b8, 3, none⟩))) rfl rfl (Lk.fldAddr rfl Tryd.underlying54 rfl rfl T9 rfl rfl rfl) fun _ => ?_)); refine Xk rfl rfl (Lk.load1 (v := (.string c8_3_1)) rfl Tryd.underlying9 rfl rfl (H.rd_loc ok (i := 0) rfl rfl)) fun _ => ?_
                    obtain ⟨e29, hS⟩ := hS
                    refine Xk rfl rfl (Lk.strAdd rfl rfl rfl e29) fun _ => ?_; refine Xk (v := (.pointer (some ⟨b8, 3, none⟩))) rfl rfl (Lk.fldAddr rfl Tryd.underlying54 rfl rfl T9 rfl rfl rfl) fun _ => ?_; refine R.effN rfl rfl rfl (Ef.storeLoc (i := 0) (vs := [(.string (c8_3_1 ++ ⟨#[82]⟩))]) (cs := [(i6 c8_0_1), (i6 c8_1_1), (i6 c8_2_1), (.string (c8_3_1 ++ ⟨#[82]⟩))]) (l' := [(b8, .row ⟨[(i6 c8_0_1), (i6 c8_1_1), (i6 c8_2_1), (.string (c8_3_1 ++ ⟨#[82]⟩))], 4, 54, true, true⟩), (b5, .row ⟨[(.slice c5_0_2.a c5_0_2.l c5_0_2.c), (.slice c5_1_2.a c5_1_2.l c5_1_2.c)], 2, 29, true, true⟩), (b4, .row ⟨[(.slice none 0 0), (.slice none 0 0)], 2, 29, true, true⟩), (b2, .row ⟨[(.slice p0_0.a p0_0.l p0_0.c), (.slice p0_1.a p0_1.l p0_1.c), (.slice p0_2.a p0_2.l p0_2.c)], 3, 26, true, true⟩)]) ok rfl T9 rfl rfl rfl rfl rfl rfl rfl rfl rfl rfl fun ok => ⟨noChk, ?_⟩); refine R.nil ?_; exact hIh_8 (c8_0_1, c8_1_1, c8_2_1, (c8_3_1 ++ ⟨#[82]⟩)) _ _ _ (lq rfl (lq rfl (lq rfl (lq rfl (lq rfl (lq rfl (lq rfl (lz _)))))))) (ok.sub (.cons_cons _ (.cons_cons _ (.cons_cons _ (.cons_cons _ sl0))))) (H.add_sub ok (.cons_cons _ (.cons_cons _ (.cons_cons _ (.cons_cons _ sl0))))) hS
              · rw [if_neg e21] at hS; replace e21 := eq_false_of_ne_true e21; refine EvC.condF rfl e21 (EvC.exit ?_); exact hIh_5 (c8_0_1, c8_1_1, c8_2_1, c8_3_1) _ _ _ (lq rfl (lq rfl (lq rfl (lq rfl (lq rfl (lq rfl (lz _))))))) (ok.sub (.cons_cons _ (.cons_cons _ (.cons_cons _ (.cons_cons _ sl0))))) (H.add_sub ok (.cons_cons _ (.cons_cons _ (.cons_cons _ (.cons_cons _ sl0))))) hS
            · rw [if_neg e16] at hS; replace e16 := eq_false_of_ne_true e16; refine EvC.condF rfl e16 (EvC.skip ?_); exact hIh_5 ((Int.tmod (IntKind.wrap .i64 v57) (c5_0_2.l : Int)), (Int.tmod (IntKind.wrap .i64 v68) (c5_0_2.l : Int)), (Int.tmod (IntKind.wrap .i64 v79) 4), ⟨#[]⟩) _ _ _ (lq rfl (lq rfl (lq rfl (lq rfl (lq rfl (lq rfl (lz _))))))) (ok.sub (.cons_cons _ (.cons_cons _ (.cons_cons _ (.cons_cons _ sl0))))) (H.add_sub ok (.cons_cons _ (.cons_cons _ (.cons_cons _ (.cons_cons _ sl0))))) hS
        · rw [if_neg e1] at hS; replace e1 := eq_false_of_ne_true e1; refine EvC.condF rfl e1 (EvC.exit ?_); exact hIh_2 (c5_0_2, c5_1_2) _ _ _ (lq rfl (lq rfl (lz _))) (ok.sub (.cons_cons _ (.cons_cons _ (.cons _ sl0)))) (H.add_sub ok (.cons_cons _ (.cons_cons _ (.cons _ sl0)))) hS
      · refine Xr [.look 0, .look 1, .look 2, .look 3, .look 4, .look 5, .look 6, .look 7, .look 8, .look 9, .look 10, .look 11, .look 12, .look 13, .look 14, .look 15, .look 16] (Xm rfl rfl rfl rfl fun _ => ?_); refine Xk (v := (.pointer (some ⟨b2, 1, none⟩))) rfl rfl (Lk.fldAddr rfl Tryd.underlying26 rfl rfl T23 rfl rfl rfl) fun _ => ?_; refine Xk rfl rfl (Lk.load1 (v := (.slice p0_1.a p0_1.l p0_1.c)) rfl Tryd.underlying23 rfl rfl (H.rd_loc ok (i := 2) rfl rfl)) fun _ => ?_; refine Xk rfl rfl (Lk.len rfl Tryd.underlying23 rfl) fun _ => ?_; refine Xk rfl rfl (Lk.arith rfl rfl rfl rfl) fun _ => ?_; refine Xm rfl rfl rfl rfl fun _ => ?_
        by_cases e30 : (decide (v7 < (p0_1.l : Int))) = true
        · refine R.lookT rfl rfl rfl rfl e30 rfl (Lk.move rfl rfl) fun _ => R.lookT rfl rfl rfl rfl e30 rfl (Lk.move rfl rfl) fun _ => R.lookT rfl rfl rfl rfl e30 rfl (Lk.arith rfl rfl rfl rfl) fun _ => R.lookT rfl rfl rfl rfl e30 rfl (Lk.arith rfl rfl rfl rfl) fun _ => Xk rfl rfl (Lk.pick rfl rfl (fun _ => rfl) (fun e => by rw [e30] at e; cases e)) fun _ => Xm rfl rfl rfl rfl fun _ => ?_
          by_cases e31 : (decide (v7 < (IntKind.wrap .i64 (2 * p1)))) = true
          · refine R.lookT (v := (.pointer (some ⟨b5, 0, none⟩))) rfl rfl rfl rfl e31 rfl (Lk.fldAddr rfl Tryd.underlying29 rfl rfl T22 rfl rfl rfl) fun _ => R.lookT rfl rfl rfl rfl e31 rfl (Lk.load1 (v := (.slice c5_0_2.a c5_0_2.l c5_0_2.c)) rfl Tryd.underlying22 rfl rfl (H.rd_loc ok (i := 0) rfl rfl)) fun _ => R.lookT rfl rfl rfl rfl e31 rfl (Lk.len rfl Tryd.underlying22 rfl) fun _ => R.lookT rfl rfl rfl rfl e31 rfl (Lk.arith rfl rfl rfl rfl) fun _ => Xk rfl rfl (Lk.pick rfl rfl (fun _ => rfl) (fun e => by rw [e31] at e; cases e)) fun _ => R.nil ?_; exact hIh_4 (((decide (v7 < (p0_1.l : Int))) && (decide (v7 < (IntKind.wrap .i64 (2 * p1))))) && (decide ((c5_0_2.l : Int) > 0))) _ _ _ (lq rfl (lq rfl (lq rfl (lq rfl (lq rfl (lq (by rw [e30, e31]; rfl) (lz _))))))) (ok.sub (.cons_cons _ (.cons_cons _ (.cons_cons _ sl0)))) (H.add_sub ok (.cons_cons _ (.cons_cons _ (.cons_cons _ sl0)))) hS
          · replace e31 := eq_false_of_ne_true e31; refine R.lookF rfl rfl rfl rfl e31 rfl fun _ => R.lookF rfl rfl rfl rfl e31 rfl fun _ => R.lookF rfl rfl rfl rfl e31 rfl fun _ => R.lookF rfl rfl rfl rfl e31 rfl fun _ => Xk rfl rfl (Lk.pick rfl rfl (fun e => by rw [e31] at e; cases e) (fun _ => rfl)) fun _ => R.nil ?_; exact hIh_4 (((decide (v7 < (p0_1.l : Int))) && (decide (v7 < (IntKind.wrap .i64 (2 * p1))))) && (decide ((c5_0_2.l : Int) > 0))) _ _ _ (lq rfl (lq rfl (lq rfl (lq rfl (lq rfl (lq (by rw [e30, e31]; rfl) (lz _))))))) (ok.sub (.cons_cons _ (.cons_cons _ (.cons_cons _ sl0)))) (H.add_sub ok (.cons_cons _ (.cons_cons _ (.cons_cons _ sl0)))) hS
        · replace e30 := eq_false_of_ne_true e30; refine R.lookF rfl rfl rfl rfl e30 rfl fun _ => R.lookF rfl rfl rfl rfl e30 rfl fun _ => R.lookF rfl rfl rfl rfl e30 rfl fun _ => R.lookF rfl rfl rfl rfl e30 rfl fun _ => Xk rfl rfl (Lk.pick rfl rfl (fun e => by rw [e30] at e; cases e) (fun _ => rfl)) fun _ => Xm rfl rfl rfl rfl fun _ => R.lookF rfl rfl rfl rfl rfl rfl fun _ => R.lookF rfl rfl rfl rfl rfl rfl fun _ => R.lookF rfl rfl rfl rfl rfl rfl fun _ => R.lookF rfl rfl rfl rfl rfl rfl fun _ => Xk rfl rfl (Lk.pick rfl rfl (fun e => by cases e) (fun _ => rfl)) fun _ => R.nil ?_; exact hIh_4 (((decide (v7 < (p0_1.l : Int))) && (decide (v7 < (IntKind.wrap .i64 (2 * p1))))) && (decide ((c5_0_2.l : Int) > 0))) _ _ _ (lq rfl (lq rfl (lq rfl (lq rfl (lq rfl (lq (by rw [e30]; rfl) (lz _))))))) (ok.sub (.cons_cons _ (.cons_cons _ (.cons_cons _ sl0)))) (H.add_sub ok (.cons_cons _ (.cons_cons _ (.cons_cons _ sl0)))) hS
  · refine EvC.seq (Xr [.look 0] (Xa rfl rfl rfl rfl fun _ => ?_)); refine R.nil (EvC.block (EvC.loop (LoopC.lfp (σ := Int × Sl × Sl) (fun s => (Ep (Ep (Ep (Ep (Ep E0 6 (i6 s.1)) 5 (.pointer (some ⟨b5, 0, none⟩))) 4 (.pointer (some ⟨b4, 0, none⟩))) 2 (.pointer (some ⟨b2, 0, none⟩))) 1 (i6 p1))) (fun s => [(b5, .row ⟨[(.slice s.2.1.a s.2.1.l s.2.1.c), (.slice s.2.2.a s.2.2.l s.2.2.c)], 2, 29, true, true⟩), (b4, .row ⟨[(.slice none 0 0), (.slice none 0 0)], 2, 29, true, true⟩), (b2, .row ⟨[(.slice p0_0.a p0_0.l p0_0.c), (.slice p0_1.a p0_1.l p0_1.c), (.slice p0_2.a p0_2.l p0_2.c)], 3, 26, true, true⟩)]) (fun X_2 hX_2 => ?_) hS (ok.sub (.cons_cons _ (.cons_cons _ (.cons_cons _ sl0)))) (lq rfl (lq rfl (lq rfl (lq rfl (lq rfl (lz _)))))) (H.add_sub ok (.cons_cons _ (.cons_cons _ (.cons_cons _ sl0))))))); rintro ⟨v6, c5_0_3, c5_1_3⟩ h_9 hS ok; replace hS : S11_l9 p0_0 p0_1 p0_2 p1 K X_2 v6 c5_0_3 c5_1_3 h_9 := hS; unfold S11_l9 at hS; refine EvC.seq (EvC.join (σ := Bool) (fun s => (Ep (Ep (Ep (Ep (Ep (Ep E0 20 (.bool s)) 6 (i6 v6)) 5 (.pointer (some ⟨b5, 0, none⟩))) 4 (.pointer (some ⟨b4, 0, none⟩))) 2 (.pointer (some ⟨b2, 0, none⟩))) 1 (i6 p1))) (fun s => [(b5, .row ⟨[(.slice c5_0_3.a c5_0_3.l c5_0_3.c), (.slice c5_1_3.a c5_1_3.l c5_1_3.c)], 2, 29, true, true⟩), (b4, .row ⟨[(.slice none 0 0), (.slice none 0 0)], 2, 29, true, true⟩), (b2, .row ⟨[(.slice p0_0.a p0_0.l p0_0.c), (.slice p0_1.a p0_1.l p0_1.c), (.slice p0_2.a p0_2.l p0_2.c)], 3, 26, true, true⟩)]) (fun s h_10 => S11_j8 p0_0 p0_1 p0_2 p1 K v6 c5_0_3 c5_1_3 X_2 s h_10) ?_ (fun Ih_10 hIh_10 => ?_))
    · intro v20 h_10 ok hS; replace hS : S11_j8 p0_0 p0_1 p0_2 p1 K v6 c5_0_3 c5_1_3 X_2 v20 h_10 := hS; unfold S11_j8 at hS
      by_cases e32 : v20 = true
      · rw [if_pos e32] at hS; refine EvC.condT rfl e32 (EvC.skip (EvC.seq (EvC.block (EvC.draw [0, 1, 0, 4, 0, 28, 60, 124, 255, 511, 1023] [Item.look 0, Item.look 1, Item.look 2, Item.look 3, Item.look 4, Item.look 5, Item.look 6, Item.alc 7, Item.eff 8 [], Item.look 9, Item.eff 10 []] MO (by kernel_rfl) ?_)))); refine Xk (v := (.pointer (some ⟨b5, 0, none⟩))) rfl rfl (Lk.fldAddr rfl Tryd.underlying29 rfl rfl T22 rfl rfl rfl) fun _ => ?_; refine Xk rfl rfl (Lk.load1 (v := (.slice c5_0_3.a c5_0_3.l c5_0_3.c)) rfl Tryd.underlying22 rfl rfl (H.rd_loc ok (i := 0) rfl rfl)) fun _ => ?_; refine Xk (v := (.pointer (some ⟨b2, 0, none⟩))) rfl rfl (Lk.fldAddr rfl Tryd.underlying26 rfl rfl T22 rfl rfl rfl) fun _ => ?_; refine Xk rfl rfl (Lk.load1 (v := (.slice p0_0.a p0_0.l p0_0.c)) rfl Tryd.underlying22 rfl rfl (H.rd_loc ok (i := 2) rfl rfl)) fun _ => ?_; refine Xm rfl rfl rfl rfl fun _ => ?_
        obtain ⟨a28, e33, e34, e35, hS⟩ := hS
        refine Xk rfl rfl (Lk.ixAddr rfl Tryd.underlying22 T4 rfl e33 rfl e34 e35) fun _ => ?_
        obtain ⟨v29, e36, hS⟩ := hS
        refine Xk rfl rfl (Look.loc ok (Lk.load1 rfl Tryd.underlying4 rfl rfl e36)) fun _ => ?_; refine R.appL (cs := [(.bool v29)]) ok rfl rfl rfl rfl rfl rfl rfl rfl Tryd.underlying22 T4 rfl (by decide) (by decide) rfl rfl rfl rfl rfl (fun _ => rfl) hS ?_; intro bb30 v31 h_11 hS ok; refine ⟨noChk, ?_⟩; refine Xk (v := (.pointer (some ⟨b5, 0, none⟩))) rfl rfl (Lk.fldAddr rfl Tryd.underlying29 rfl rfl T22 rfl rfl rfl) fun _ => ?_; refine R.effN rfl rfl rfl (Ef.storeLoc (i := 0) (vs := [(.slice v31.a v31.l v31.c)]) (cs := [(.slice v31.a v31.l v31.c), (.slice c5_1_3.a c5_1_3.l c5_1_3.c)]) (l' := [(b5, .row ⟨[(.slice v31.a v31.l v31.c), (.slice c5_1_3.a c5_1_3.l c5_1_3.c)], 2, 29, true, true⟩), (b4, .row ⟨[(.slice none 0 0), (.slice none 0 0)], 2, 29, true, true⟩), (b2, .row ⟨[(.slice p0_0.a p0_0.l p0_0.c), (.slice p0_1.a p0_1.l p0_1.c), (.slice p0_2.a p0_2.l p0_2.c)], 3, 26, true, true⟩)]) ok rfl T22 rfl rfl rfl rfl rfl rfl rfl rfl rfl rfl fun ok => ⟨noChk, ?_⟩); refine R.nil (Xr [.look 0, .look 1, .look 2] (Xm rfl rfl rfl rfl fun _ => Xk rfl rfl (Lk.arith rfl rfl rfl rfl) fun _ => Xa rfl rfl rfl rfl fun _ => R.nil ?_)); exact hX_2 ((IntKind.wrap .i64 (v6 + 1)), v31, c5_1_3) _ _ _ hS (ok.sub (.cons_cons _ (.cons_cons _ (.cons_cons _ sl0)))) (lq rfl (lq rfl (lq rfl (lq rfl (lq rfl (lz _)))))) (H.add_sub ok (.cons_cons _ (.cons_cons _ (.cons_cons _ sl0))))
      · rw [if_neg e32] at hS; replace e32 := eq_false_of_ne_true e32; refine EvC.condF rfl e32 (EvC.exit ?_); exact hIh_1 (c5_0_3, c5_1_3) _ _ _ (lq rfl (lq rfl (lq rfl (lq rfl (lz _))))) (ok.sub (.cons_cons _ (.cons_cons _ (.cons_cons _ sl0)))) (H.add_sub ok (.cons_cons _ (.cons_cons _ (.cons_cons _ sl0)))) hS
    · refine Xr [.look 0, .look 1, .look 2, .look 3, .look 4, .look 5, .look 6, .look 7, .look 8, .look 9] (Xm rfl rfl rfl rfl fun _ => ?_); refine Xk (v := (.pointer (some ⟨b2, 0, none⟩))) rfl rfl (Lk.fldAddr rfl Tryd.underlying26 rfl rfl T22 rfl rfl rfl) fun _ => ?_; refine Xk rfl rfl (Lk.load1 (v := (.slice p0_0.a p0_0.l p0_0.c)) rfl Tryd.underlying22 rfl rfl (H.rd_loc ok (i := 2) rfl rfl)) fun _ => ?_; refine Xk rfl rfl (Lk.len rfl Tryd.underlying22 rfl) fun _ => ?_; refine Xk rfl rfl (Lk.arith rfl rfl rfl rfl) fun _ => ?_; refine Xm rfl rfl rfl rfl fun _ => ?_
      by_cases e37 : (decide (v6 < (p0_0.l : Int))) = true
      · refine R.lookT rfl rfl rfl rfl e37 rfl (Lk.move rfl rfl) fun _ => R.lookT rfl rfl rfl rfl e37 rfl (Lk.move rfl rfl) fun _ => R.lookT rfl rfl rfl rfl e37 rfl (Lk.arith rfl rfl rfl rfl) fun _ => Xk rfl rfl (Lk.pick rfl rfl (fun _ => rfl) (fun e => by rw [e37] at e; cases e)) fun _ => R.nil ?_; exact hIh_10 ((decide (v6 < (p0_0.l : Int))) && (decide (v6 < p1))) _ _ _ (lq rfl (lq rfl (lq rfl (lq rfl (lq rfl (lq (by rw [e37]; rfl) (lz _))))))) (ok.sub (.cons_cons _ (.cons_cons _ (.cons_cons _ sl0)))) (H.add_sub ok (.cons_cons _ (.cons_cons _ (.cons_cons _ sl0)))) hS
      · replace e37 := eq_false_of_ne_true e37; refine R.lookF rfl rfl rfl rfl e37 rfl fun _ => R.lookF rfl rfl rfl rfl e37 rfl fun _ => R.lookF rfl rfl rfl rfl e37 rfl fun _ => Xk rfl rfl (Lk.pick rfl rfl (fun e => by rw [e37] at e; cases e) (fun _ => rfl)) fun _ => R.nil ?_; exact hIh_10 ((decide (v6 < (p0_0.l : Int))) && (decide (v6 < p1))) _ _ _ (lq rfl (lq rfl (lq rfl (lq rfl (lq rfl (lq (by rw [e37]; rfl) (lz _))))))) (ok.sub (.cons_cons _ (.cons_cons _ (.cons_cons _ sl0)))) (H.add_sub ok (.cons_cons _ (.cons_cons _ (.cons_cons _ sl0)))) hS

theorem f58_ok {p0 : ByteArray} {h : H} {K : Bool → H → Prop} (hS : S58 p0 h K) : ACall Tryd.prog 58 ([(.string p0)] : List Value).toArray h (fun r h' => ∃ r0 : Bool, r = tup [(.bool r0)] ∧ K r0 h') := by
  refine ACall.enter (fn := Tryd.f58) Tryd.func58 rfl (Nat.le_of_ble_eq_true rfl) ?_; unfold S58 at hS; have ok := Lok.nil h; refine EvC.seq (Xr [.look 0] (Xa rfl rfl rfl rfl fun _ => ?_)); refine R.nil (EvC.join (σ := Unit) (fun s => E0) (fun s => []) (fun s h_1 => S58_j1 K h_1) ?_ (fun Ih_1 hIh_1 => ?_))
  · rintro ⟨⟩ h_1 ok hS; replace hS : S58_j1 K h_1 := hS; unfold S58_j1 at hS; refine EvC.seq (Xr [.look 0] (Xa rfl rfl rfl rfl fun _ => ?_)); refine R.nil (EvC.ret ?_); exact ⟨.inr rfl, _, _, (.cons (.tmp rfl) .nil), ok.le, _, rfl, hS⟩
  · refine EvC.seq (Xr [.look 0] (Xa rfl rfl rfl rfl fun _ => ?_)); refine R.nil (EvC.block (EvC.loop (LoopC.lfp (σ := Int) (fun s => (Ep (Ep E0 3 (i6 s)) 0 (.string p0))) (fun s => []) (fun X hX => ?_) hS (ok.sub sl0) (lq rfl (lq rfl (lz _))) (H.add_sub ok sl0)))); intro v3 h_2 hS ok; replace hS : S58_l3 p0 K X v3 h_2 := hS; unfold S58_l3 at hS; refine EvC.seq (EvC.seq (Xr [.look 0, .look 1, .look 2, .look 3] (Xm rfl rfl rfl rfl fun _ => ?_))); refine Xm rfl rfl rfl rfl fun _ => ?_; refine Xk rfl rfl (Lk.lenS rfl Tryd.underlying9 rfl) fun _ => ?_; refine Xk rfl rfl (Lk.arith rfl rfl rfl rfl) fun _ => ?_; refine R.nil ?_
    by_cases e1 : (decide (v3 < (ByteArray.size p0 : Int))) = true
    · rw [if_pos e1] at hS; refine EvC.condT rfl e1 (EvC.skip (EvC.seq (EvC.block (EvC.join (σ := Bool) (fun s => (Ep (Ep (Ep E0 19 (.bool s)) 3 (i6 v3)) 0 (.string p0))) (fun s => []) (fun s h_3 => S58_j2 K v3 X s h_3) ?_ (fun Ih_3 hIh_3 => ?_)))))
      · intro v19 h_3 ok hS; replace hS : S58_j2 K v3 X v19 h_3 := hS; unfold S58_j2 at hS
        by_cases e2 : v19 = true
        · rw [if_pos e2] at hS; refine EvC.condT rfl e2 (EvC.seq (Xr [.look 0] (Xa rfl rfl rfl rfl fun _ => ?_))); refine R.nil (EvC.ret ?_); exact ⟨.inr rfl, _, _, (.cons (.tmp rfl) .nil), ok.le, _, rfl, hS⟩
        · rw [if_neg e2] at hS; replace e2 := eq_false_of_ne_true e2; refine EvC.condF rfl e2 (EvC.skip (Xr [.look 0, .look 1, .look 2] (Xm rfl rfl rfl rfl fun _ => ?_))); refine Xk rfl rfl (Lk.arith rfl rfl rfl rfl) fun _ => ?_; refine Xa rfl rfl rfl rfl fun _ => ?_; refine R.nil ?_; exact hX (IntKind.wrap .i64 (v3 + 1)) _ _ _ hS (ok.sub sl0) (lq rfl (lq rfl (lz _))) (H.add_sub ok sl0)
      · refine Xr [.look 0, .look 1, .look 2, .look 3, .look 4, .look 5, .look 6, .look 7, .look 8, .look 9] (Xm rfl rfl rfl rfl fun _ => ?_); refine Xm rfl rfl rfl rfl fun _ => ?_
        obtain ⟨e3, e4, hS⟩ := hS
        refine Xk rfl rfl (Lk.byte rfl Tryd.underlying9 rfl rfl e3 e4) fun _ => ?_; refine Xk rfl rfl (Lk.arith rfl rfl rfl rfl) fun _ => ?_; refine Xm rfl rfl rfl rfl fun _ => ?_
        by_cases e5 : ((byteAt p0 v3) != 76) = true
        · rw [if_pos e5] at hS; refine R.lookT rfl rfl rfl rfl e5 rfl (Lk.move rfl rfl) fun _ => R.lookT rfl rfl rfl rfl e5 rfl (Lk.move rfl rfl) fun _ => ?_
          obtain ⟨e6, e7, hS⟩ := hS
          refine R.lookT rfl rfl rfl rfl e5 rfl (Lk.byte rfl Tryd.underlying9 rfl rfl e6 e7) fun _ => R.lookT rfl rfl rfl rfl e5 rfl (Lk.arith rfl rfl rfl rfl) fun _ => Xk rfl rfl (Lk.pick rfl rfl (fun _ => rfl) (fun e => by rw [e5] at e; cases e)) fun _ => R.nil ?_; exact hIh_3 ((byteAt p0 v3) != 82) _ _ _ (lq rfl (lq rfl (lq rfl (lz _)))) (ok.sub sl0) (H.add_sub ok sl0) hS
        · rw [if_neg e5] at hS; replace e5 := eq_false_of_ne_true e5; refine R.lookF rfl rfl rfl rfl e5 rfl fun _ => R.lookF rfl rfl rfl rfl e5 rfl fun _ => R.lookF rfl rfl rfl rfl e5 rfl fun _ => R.lookF rfl rfl rfl rfl e5 rfl fun _ => Xk rfl rfl (Lk.pick rfl rfl (fun e => by rw [e5] at e; cases e) (fun _ => rfl)) fun _ => R.nil ?_; exact hIh_3 false _ _ _ (lq rfl (lq rfl (lq rfl (lz _)))) (ok.sub sl0) (H.add_sub ok sl0) hS
    · rw [if_neg e1] at hS; replace e1 := eq_false_of_ne_true e1; refine EvC.condF rfl e1 (EvC.exit ?_); exact hIh_1 () _ _ _ (lz _) (ok.sub sl0) (H.add_sub ok sl0) hS

theorem f23_ok {p0_0 : Sl} {p0_1 : Sl} {h : H} {K : Int → H → Prop} (hS : S23 p0_0 p0_1 h K) : ACall Tryd.prog 23 ([(.agg ([(.slice p0_0.a p0_0.l p0_0.c), (.slice p0_1.a p0_1.l p0_1.c)] : List Value).toArray)] : List Value).toArray h (fun r h' => ∃ r0 : Int, r = tup [(i6 r0)] ∧ K r0 h') := by
  refine ACall.enter (fn := Tryd.f23) Tryd.func23 rfl (Nat.le_of_ble_eq_true rfl) ?_; unfold S23 at hS; have ok := Lok.nil h; refine EvC.seq (Xr [.alc 0, .look 1] (R.var (blk := .row ⟨[(.slice p0_0.a p0_0.l p0_0.c), (.slice p0_1.a p0_1.l p0_1.c)], 2, 29, true, true⟩) ok rfl rfl rfl (Ac.box rfl rfl) rfl rfl fun b1 ok => ?_)); refine Xa rfl rfl rfl rfl fun _ => ?_; refine R.nil (EvC.seq (Xr [.look 0] (Xa rfl rfl rfl rfl fun _ => R.nil (EvC.join (σ := Int) (fun s => (Ep (Ep E0 3 (i6 s)) 1 (.pointer (some ⟨b1, 0, none⟩)))) (fun s => [(b1, .row ⟨[(.slice p0_0.a p0_0.l p0_0.c), (.slice p0_1.a p0_1.l p0_1.c)], 2, 29, true, true⟩)]) (fun s h_1 => S23_j6 p0_0 p0_1 K s h_1) ?_ (fun Ih_1 hIh_1 => ?_)))))
  · intro v3 h_1 ok hS; replace hS : S23_j6 p0_0 p0_1 K v3 h_1 := hS; unfold S23_j6 at hS; refine EvC.seq (EvC.join (σ := Bool) (fun s => (Ep (Ep E0 37 (.bool s)) 1 (.pointer (some ⟨b1, 0, none⟩)))) (fun s => [(b1, .row ⟨[(.slice p0_0.a p0_0.l p0_0.c), (.slice p0_1.a p0_1.l p0_1.c)], 2, 29, true, true⟩)]) (fun s h_2 => S23_j5 p0_0 p0_1 K s h_2) ?_ (fun Ih_2 hIh_2 => ?_))
    · intro v37 h_2 ok hS; replace hS : S23_j5 p0_0 p0_1 K v37 h_2 := hS; unfold S23_j5 at hS
      by_cases e1 : v37 = true
      · rw [if_pos e1] at hS; refine EvC.condT rfl e1 (EvC.seq (Xr [.look 0] (Xa rfl rfl rfl rfl fun _ => ?_))); refine R.nil (EvC.ret ?_); exact ⟨.inr rfl, _, _, (.cons (.tmp rfl) .nil), ok.le, _, rfl, hS⟩
      · rw [if_neg e1] at hS; replace e1 := eq_false_of_ne_true e1; refine EvC.condF rfl e1 (EvC.skip (EvC.join (σ := Unit) (fun s => E0) (fun s => []) (fun s h_3 => S23_j1 K h_3) ?_ (fun Ih_3 hIh_3 => ?_)))
        · rintro ⟨⟩ h_3 ok hS; replace hS : S23_j1 K h_3 := hS; unfold S23_j1 at hS; refine EvC.seq (Xr [.look 0] (Xa rfl rfl rfl rfl fun _ => ?_)); refine R.nil (EvC.ret ?_); exact ⟨.inr rfl, _, _, (.cons (.tmp rfl) .nil), ok.le, _, rfl, hS⟩
        · refine EvC.seq (Xr [.look 0] (Xa rfl rfl rfl rfl fun _ => ?_)); refine R.nil (EvC.block (EvC.loop (LoopC.lfp (σ := Int) (fun s => (Ep (Ep E0 5 (i6 s)) 1 (.pointer (some ⟨b1, 0, none⟩)))) (fun s => [(b1, .row ⟨[(.slice p0_0.a p0_0.l p0_0.c), (.slice p0_1.a p0_1.l p0_1.c)], 2, 29, true, true⟩)]) (fun X hX => ?_) hS (ok.sub (.cons_cons _ sl0)) (lq rfl (lq rfl (lz _))) (H.add_sub ok (.cons_cons _ sl0))))); intro v5 h_4 hS ok; replace hS : S23_l4 p0_0 p0_1 K X v5 h_4 := hS; unfold S23_l4 at hS; refine EvC.seq (EvC.seq (Xr [.look 0, .look 1, .look 2, .look 3, .look 4] (Xm rfl rfl rfl rfl fun _ => ?_))); refine Xk (v := (.pointer (some ⟨b1, 1, none⟩))) rfl rfl (Lk.fldAddr rfl Tryd.underlying29 rfl rfl T27 rfl rfl rfl) fun _ => ?_; refine Xk rfl rfl (Lk.load1 (v := (.slice p0_1.a p0_1.l p0_1.c)) rfl Tryd.underlying27 rfl rfl (H.rd_loc ok (i := 0) rfl rfl)) fun _ => ?_; refine Xk rfl rfl (Lk.len rfl Tryd.underlying27 rfl) fun _ => ?_; refine Xk rfl rfl (Lk.arith rfl rfl rfl rfl) fun _ => ?_; refine R.nil ?_
          by_cases e2 : (decide (v5 < (p0_1.l : Int))) = true
          · rw [if_pos e2] at hS; refine EvC.condT rfl e2 (EvC.skip (EvC.seq (EvC.block (EvC.seq (Xr [.look 0, .look 1, .look 2, .look 3, .look 4, .alc 5, .eff 6 []] (Xk (v := (.pointer (some ⟨b1, 1, none⟩))) rfl rfl (Lk.fldAddr rfl Tryd.underlying29 rfl rfl T27 rfl rfl rfl) fun _ => ?_)))))); refine Xk rfl rfl (Lk.load1 (v := (.slice p0_1.a p0_1.l p0_1.c)) rfl Tryd.underlying27 rfl rfl (H.rd_loc ok (i := 0) rfl rfl)) fun _ => ?_; refine Xm rfl rfl rfl rfl fun _ => ?_
            obtain ⟨a48, e3, e4, e5, hS⟩ := hS
            refine Xk rfl rfl (Lk.ixAddr rfl Tryd.underlying27 T54 rfl e3 rfl e4 e5) fun _ => ?_
            obtain ⟨v49_0, v49_1, v49_2, v49_3, e6, hS⟩ := hS
            refine Xk rfl rfl (Look.loc ok (Lk.loadN rfl Tryd.underlying54 rfl T54 rfl e6)) fun _ => ?_; refine R.var (blk := .row ⟨[(i6 0), (i6 0), (i6 0), (.string ⟨#[]⟩)], 4, 54, true, true⟩) ok rfl rfl rfl (Ac.alloc rfl T54) rfl rfl fun b6 ok => ?_; refine R.effN rfl rfl rfl (Ef.storeLoc (i := 0) (vs := [(i6 v49_0), (i6 v49_1), (i6 v49_2), (.string v49_3)]) (cs := [(i6 v49_0), (i6 v49_1), (i6 v49_2), (.string v49_3)]) (l' := [(b6, .row ⟨[(i6 v49_0), (i6 v49_1), (i6 v49_2), (.string v49_3)], 4, 54, true, true⟩), (b1, .row ⟨[(.slice p0_0.a p0_0.l p0_0.c), (.slice p0_1.a p0_1.l p0_1.c)], 2, 29, true, true⟩)]) ok rfl T54 rfl rfl rfl rfl rfl rfl rfl rfl rfl rfl fun ok => ⟨noChk, ?_⟩); refine R.nil (EvC.seq (EvC.join (σ := Bool) (fun s => (Ep (Ep (Ep (Ep E0 73 (.bool s)) 6 (.pointer (some ⟨b6, 0, none⟩))) 5 (i6 v5)) 1 (.pointer (some ⟨b1, 0, none⟩)))) (fun s => [(b6, .row ⟨[(i6 v49_0), (i6 v49_1), (i6 v49_2), (.string v49_3)], 4, 54, true, true⟩), (b1, .row ⟨[(.slice p0_0.a p0_0.l p0_0.c), (.slice p0_1.a p0_1.l p0_1.c)], 2, 29, true, true⟩)]) (fun s h_5 => S23_j3 K v5 X v49_2 v49_3 s h_5) ?_ (fun Ih_5 hIh_5 => ?_)))
            · intro v73 h_5 ok hS; replace hS : S23_j3 K v5 X v49_2 v49_3 v73 h_5 := hS; unfold S23_j3 at hS
              by_cases e7 : v73 = true
              · rw [if_pos e7] at hS; refine EvC.condT rfl e7 (EvC.seq (Xr [.look 0] (Xa rfl rfl rfl rfl fun _ => ?_))); refine R.nil (EvC.ret ?_); exact ⟨.inr rfl, _, _, (.cons (.tmp rfl) .nil), ok.le, _, rfl, hS⟩
              · rw [if_neg e7] at hS; replace e7 := eq_false_of_ne_true e7; refine EvC.condF rfl e7 (EvC.skip (EvC.seq (Xr [.look 0, .look 1, .eff 2 [], .look 3] (Xk (v := (.pointer (some ⟨b6, 3, none⟩))) rfl rfl (Lk.fldAddr rfl Tryd.underlying54 rfl rfl T9 rfl rfl rfl) fun _ => ?_)))); refine Xk rfl rfl (Lk.load1 (v := (.string v49_3)) rfl Tryd.underlying9 rfl rfl (H.rd_loc ok (i := 0) rfl rfl)) fun _ => ?_; refine R.eff rfl rfl rfl (Eff.loc ok (Ef.call rfl CB58 rfl ((f58_ok hS).mono ?_))); rintro _ h_6 ⟨v76, rfl, hS⟩; refine fun ok => ⟨noChk, ?_⟩; refine Xa rfl rfl rfl rfl fun _ => ?_; refine R.nil (EvC.join (σ := Bool) (fun s => (Ep (Ep (Ep E0 88 (.bool s)) 5 (i6 v5)) 1 (.pointer (some ⟨b1, 0, none⟩)))) (fun s => [(b1, .row ⟨[(.slice p0_0.a p0_0.l p0_0.c), (.slice p0_1.a p0_1.l p0_1.c)], 2, 29, true, true⟩)]) (fun s h_7 => S23_j2 K v5 X s h_7) ?_ (fun Ih_7 hIh_7 => ?_))
                · intro v88 h_7 ok hS; replace hS : S23_j2 K v5 X v88 h_7 := hS; unfold S23_j2 at hS
                  by_cases e8 : v88 = true
                  · rw [if_pos e8] at hS; refine EvC.condT rfl e8 (EvC.seq (Xr [.look 0] (Xa rfl rfl rfl rfl fun _ => ?_))); refine R.nil (EvC.ret ?_); exact ⟨.inr rfl, _, _, (.cons (.tmp rfl) .nil), ok.le, _, rfl, hS⟩
                  · rw [if_neg e8] at hS; replace e8 := eq_false_of_ne_true e8; refine EvC.condF rfl e8 (EvC.skip (Xr [.look 0, .look 1, .look 2] (Xm rfl rfl rfl rfl fun _ => ?_))); refine Xk rfl rfl (Lk.arith rfl rfl rfl rfl) fun _ => ?_; refine Xa rfl rfl rfl rfl fun _ => ?_; refine R.nil ?_; exact hX (IntKind.wrap .i64 (v5 + 1)) _ _ _ hS (ok.sub (.cons_cons _ sl0)) (lq rfl (lq rfl (lz _))) (H.add_sub ok (.cons_cons _ sl0))
                · refine Xr [.look 0, .look 1, .look 2, .look 3, .look 4, .look 5, .look 6, .look 7, .look 8, .look 9, .look 10, .look 11] (Xk (v := (.pointer (some ⟨b6, 2, none⟩))) rfl rfl (Lk.fldAddr rfl Tryd.underlying54 rfl rfl T3 rfl rfl rfl) fun _ => ?_); refine Xk rfl rfl (Lk.load1 (v := (i6 v49_2)) rfl Tryd.underlying3 rfl rfl (H.rd_loc ok (i := 0) rfl rfl)) fun _ => ?_; refine Xk rfl rfl (Lk.arith rfl rfl rfl rfl) fun _ => ?_; refine Xm rfl rfl rfl rfl fun _ => ?_
                  by_cases e9 : (decide (v49_2 < 0)) = true
                  · refine R.lookF rfl rfl rfl rfl e9 rfl fun _ => R.lookF rfl rfl rfl rfl e9 rfl fun _ => R.lookF rfl rfl rfl rfl e9 rfl fun _ => Xk rfl rfl (Lk.pick rfl rfl (fun _ => rfl) (fun e => by rw [e9] at e; cases e)) fun _ => Xm rfl rfl rfl rfl fun _ => R.lookF rfl rfl rfl rfl rfl rfl fun _ => R.lookF rfl rfl rfl rfl rfl rfl fun _ => Xk rfl rfl (Lk.pick rfl rfl (fun _ => rfl) (fun e => by cases e)) fun _ => R.nil ?_; exact hIh_7 (((decide (v49_2 < 0)) || (decide (v49_2 > 3))) || (!v76)) _ _ _ (lq rfl (lq rfl (lq (by rw [e9]; rfl) (lz _)))) (ok.sub (.cons _ (.cons_cons _ sl0))) (H.add_sub ok (.cons _ (.cons_cons _ sl0))) hS
                  · replace e9 := eq_false_of_ne_true e9; refine R.lookT (v := (.pointer (some ⟨b6, 2, none⟩))) rfl rfl rfl rfl e9 rfl (Lk.fldAddr rfl Tryd.underlying54 rfl rfl T3 rfl rfl rfl) fun _ => R.lookT rfl rfl rfl rfl e9 rfl (Lk.load1 (v := (i6 v49_2)) rfl Tryd.underlying3 rfl rfl (H.rd_loc ok (i := 0) rfl rfl)) fun _ => R.lookT rfl rfl rfl rfl e9 rfl (Lk.arith rfl rfl rfl rfl) fun _ => Xk rfl rfl (Lk.pick rfl rfl (fun e => by rw [e9] at e; cases e) (fun _ => rfl)) fun _ => Xm rfl rfl rfl rfl fun _ => ?_
                    by_cases e10 : (decide (v49_2 > 3)) = true
                    · refine R.lookF rfl rfl rfl rfl e10 rfl fun _ => R.lookF rfl rfl rfl rfl e10 rfl fun _ => Xk rfl rfl (Lk.pick rfl rfl (fun _ => rfl) (fun e => by rw [e10] at e; cases e)) fun _ => R.nil ?_; exact hIh_7 (((decide (v49_2 < 0)) || (decide (v49_2 > 3))) || (!v76)) _ _ _ (lq rfl (lq rfl (lq (by rw [e9, e10]; rfl) (lz _)))) (ok.sub (.cons _ (.cons_cons _ sl0))) (H.add_sub ok (.cons _ (.cons_cons _ sl0))) hS
                    · replace e10 := eq_false_of_ne_true e10; refine R.lookT rfl rfl rfl rfl e10 rfl (Lk.move rfl rfl) fun _ => R.lookT rfl rfl rfl rfl e10 rfl (Lk.not rfl rfl) fun _ => Xk rfl rfl (Lk.pick rfl rfl (fun e => by rw [e10] at e; cases e) (fun _ => rfl)) fun _ => R.nil ?_; exact hIh_7 (((decide (v49_2 < 0)) || (decide (v49_2 > 3))) || (!v76)) _ _ _ (lq rfl (lq rfl (lq (by rw [e9, e10]; rfl) (lz _)))) (ok.sub (.cons _ (.cons_cons _ sl0))) (H.add_sub ok (.cons _ (.cons_cons _ sl0))) hS
            · refine Xr [.look 0, .look 1, .look 2, .look 3, .look 4, .look 5, .look 6, .look 7, .look 8, .look 9, .look 10, .look 11, .look 12, .look 13, .look 14, .look 15, .look 16, .look 17, .look 18, .look 19, .look 20, .look 21, .look 22, .look 23] (Xk (v := (.pointer (some ⟨b6, 0, none⟩))) rfl rfl (Lk.fldAddr rfl Tryd.underlying54 rfl rfl T3 rfl rfl rfl) fun _ => ?_); refine Xk rfl rfl (Lk.load1 (v := (i6 v49_0)) rfl Tryd.underlying3 rfl rfl (H.rd_loc ok (i := 0) rfl rfl)) fun _ => ?_; refine Xk rfl rfl (Lk.arith rfl rfl rfl rfl) fun _ => ?_; refine Xm rfl rfl rfl rfl fun _ => ?_
              by_cases e11 : (decide (v49_0 < 0)) = true
              · refine R.lookF rfl rfl rfl rfl e11 rfl fun _ => R.lookF rfl rfl rfl rfl e11 rfl fun _ => R.lookF rfl rfl rfl rfl e11 rfl fun _ => R.lookF rfl rfl rfl rfl e11 rfl fun _ => R.lookF rfl rfl rfl rfl e11 rfl fun _ => R.lookF rfl rfl rfl rfl e11 rfl fun _ => Xk rfl rfl (Lk.pick rfl rfl (fun _ => rfl) (fun e => by rw [e11] at e; cases e)) fun _ => Xm rfl rfl rfl rfl fun _ => R.lookF rfl rfl rfl rfl rfl rfl fun _ => R.lookF rfl rfl rfl rfl rfl rfl fun _ => R.lookF rfl rfl rfl rfl rfl rfl fun _ => Xk rfl rfl (Lk.pick rfl rfl (fun _ => rfl) (fun e => by cases e)) fun _ => Xm rfl rfl rfl rfl fun _ => ?_; refine R.lookF rfl rfl rfl rfl rfl rfl fun _ => R.lookF rfl rfl rfl rfl rfl rfl fun _ => R.lookF rfl rfl rfl rfl rfl rfl fun _ => R.lookF rfl rfl rfl rfl rfl rfl fun _ => R.lookF rfl rfl rfl rfl rfl rfl fun _ => R.lookF rfl rfl rfl rfl rfl rfl fun _ => Xk rfl rfl (Lk.pick rfl rfl (fun _ => rfl) (fun e => by cases e)) fun _ => R.nil ?_; exact hIh_5 ((((decide (v49_0 < 0)) || (decide (v49_0 ≥ (p0_0.l : Int)))) || (decide (v49_1 < 0))) || (decide (v49_1 ≥ (p0_0.l : Int)))) _ _ _ (lq rfl (lq rfl (lq rfl (lq (by rw [e11]; rfl) (lz _))))) (ok.sub (.cons_cons _ (.cons_cons _ sl0))) (H.add_sub ok (.cons_cons _ (.cons_cons _ sl0))) hS
              · replace e11 := eq_false_of_ne_true e11; refine R.lookT (v := (.pointer (some ⟨b6, 0, none⟩))) rfl rfl rfl rfl e11 rfl (Lk.fldAddr rfl Tryd.underlying54 rfl rfl T3 rfl rfl rfl) fun _ => R.lookT rfl rfl rfl rfl e11 rfl (Lk.load1 (v := (i6 v49_0)) rfl Tryd.underlying3 rfl rfl (H.rd_loc ok (i := 0) rfl rfl)) fun _ => R.lookT (v := (.pointer (some ⟨b1, 0, none⟩))) rfl rfl rfl rfl e11 rfl (Lk.fldAddr rfl Tryd.underlying29 rfl rfl T22 rfl rfl rfl) fun _ => R.lookT rfl rfl rfl rfl e11 rfl (Lk.load1 (v := (.slice p0_0.a p0_0.l p0_0.c)) rfl Tryd.underlying22 rfl rfl (H.rd_loc ok (i := 1) rfl rfl)) fun _ => R.lookT rfl rfl rfl rfl e11 rfl (Lk.len rfl Tryd.underlying22 rfl) fun _ => R.lookT rfl rfl rfl rfl e11 rfl (Lk.arith rfl rfl rfl rfl) fun _ => Xk rfl rfl (Lk.pick rfl rfl (fun e => by rw [e11] at e; cases e) (fun _ => rfl)) fun _ => Xm rfl rfl rfl rfl fun _ => ?_
                by_cases e12 : (decide (v49_0 ≥ (p0_0.l : Int))) = true
                · refine R.lookF rfl rfl rfl rfl e12 rfl fun _ => R.lookF rfl rfl rfl rfl e12 rfl fun _ => R.lookF rfl rfl rfl rfl e12 rfl fun _ => Xk rfl rfl (Lk.pick rfl rfl (fun _ => rfl) (fun e => by rw [e12] at e; cases e)) fun _ => Xm rfl rfl rfl rfl fun _ => R.lookF rfl rfl rfl rfl rfl rfl fun _ => R.lookF rfl rfl rfl rfl rfl rfl fun _ => R.lookF rfl rfl rfl rfl rfl rfl fun _ => R.lookF rfl rfl rfl rfl rfl rfl fun _ => R.lookF rfl rfl rfl rfl rfl rfl fun _ => R.lookF rfl rfl rfl rfl rfl rfl fun _ => Xk rfl rfl (Lk.pick rfl rfl (fun _ => rfl) (fun e => by cases e)) fun _ => R.nil ?_; exact hIh_5 ((((decide (v49_0 < 0)) || (decide (v49_0 ≥ (p0_0.l : Int)))) || (decide (v49_1 < 0))) || (decide (v49_1 ≥ (p0_0.l : Int)))) _ _ _ (lq rfl (lq rfl (lq rfl (lq (by rw [e11, e12]; rfl) (lz _))))) (ok.sub (.cons_cons _ (.cons_cons _ sl0))) (H.add_sub ok (.cons_cons _ (.cons_cons _ sl0))) hS
                · replace e12 := eq_false_of_ne_true e12; refine R.lookT (v := (.pointer (some ⟨b6, 1, none⟩))) rfl rfl rfl rfl e12 rfl (Lk.fldAddr rfl Tryd.underlying54 rfl rfl T3 rfl rfl rfl) fun _ => R.lookT rfl rfl rfl rfl e12 rfl (Lk.load1 (v := (i6 v49_1)) rfl Tryd.underlying3 rfl rfl (H.rd_loc ok (i := 0) rfl rfl)) fun _ => R.lookT rfl rfl rfl rfl e12 rfl (Lk.arith rfl rfl rfl rfl) fun _ => Xk rfl rfl (Lk.pick rfl rfl (fun e => by rw [e12] at e; cases e) (fun _ => rfl)) fun _ => Xm rfl rfl rfl rfl fun _ => ?_
                  by_cases e13 : (decide (v49_1 < 0)) = true
                  · refine R.lookF rfl rfl rfl rfl e13 rfl fun _ => R.lookF rfl rfl rfl rfl e13 rfl fun _ => R.lookF rfl rfl rfl rfl e13 rfl fun _ => R.lookF rfl rfl rfl rfl e13 rfl fun _ => R.lookF rfl rfl rfl rfl e13 rfl fun _ => R.lookF rfl rfl rfl rfl e13 rfl fun _ => Xk rfl rfl (Lk.pick rfl rfl (fun _ => rfl) (fun e => by rw [e13] at e; cases e)) fun _ => R.nil ?_; exact hIh_5 ((((decide (v49_0 < 0)) || (decide (v49_0 ≥ (p0_0.l : Int)))) || (decide (v49_1 < 0))) || (decide (v49_1 ≥ (p0_0.l : Int)))) _ _ _ (lq rfl (lq rfl (lq rfl (lq (by rw [e11, e12, e13]; rfl) (lz _))))) (ok.sub (.cons_cons _ (.cons_cons _ sl0))) (H.add_sub ok (.cons_cons _ (.cons_cons _ sl0))) hS
                  · replace e13 := eq_false_of_ne_true e13; refine R.lookT (v := (.pointer (some ⟨b6, 1, none⟩))) rfl rfl rfl rfl e13 rfl (Lk.fldAddr rfl Tryd.underlying54 rfl rfl T3 rfl rfl rfl) fun _ => R.lookT rfl rfl rfl rfl e13 rfl (Lk.load1 (v := (i6 v49_1)) rfl Tryd.underlying3 rfl rfl (H.rd_loc ok (i := 0) rfl rfl)) fun _ => R.lookT (v := (.pointer (some ⟨b1, 0, none⟩))) rfl rfl rfl rfl e13 rfl (Lk.fldAddr rfl Tryd.underlying29 rfl rfl T22 rfl rfl rfl) fun _ => R.lookT rfl rfl rfl rfl e13 rfl (Lk.load1 (v := (.slice p0_0.a p0_0.l p0_0.c)) rfl Tryd.underlying22 rfl rfl (H.rd_loc ok (i := 1) rfl rfl)) fun _ => R.lookT rfl rfl rfl rfl e13 rfl (Lk.len rfl Tryd.underlying22 rfl) fun _ => R.lookT rfl rfl rfl rfl e13 rfl (Lk.arith rfl rfl rfl rfl) fun _ => Xk rfl rfl (Lk.pick rfl rfl (fun e => by rw [e13] at e; cases e) (fun _ => rfl)) fun _ => R.nil ?_; exact hIh_5 ((((decide (v49_0 < 0)) || (decide (v49_0 ≥ (p0_0.l : Int)))) || (decide (v49_1 < 0))) || (decide (v49_1 ≥ (p0_0.l : Int)))) _ _ _ (lq rfl (lq rfl (lq rfl (lq (by rw [e11, e12, e13]; rfl) (lz _))))) (ok.sub (.cons_cons _ (.cons_cons _ sl0))) (H.add_sub ok (.cons_cons _ (.cons_cons _ sl0))) hS
          · rw [if_neg e2] at hS; replace e2 := eq_false_of_ne_true e2; refine EvC.condF rfl e2 (EvC.exit ?_); exact hIh_3 () _ _ _ (lz _) (ok.sub (.cons _ sl0)) (H.add_sub ok (.cons _ sl0)) hS
    · refine Xr [.look 0, .look 1, .look 2, .look 3, .look 4, .look 5, .look 6, .look 7, .look 8, .look 9, .look 10, .look 11, .look 12, .look 13] (Xk (v := (.pointer (some ⟨b1, 0, none⟩))) rfl rfl (Lk.fldAddr rfl Tryd.underlying29 rfl rfl T22 rfl rfl rfl) fun _ => ?_); refine Xk rfl rfl (Lk.load1 (v := (.slice p0_0.a p0_0.l p0_0.c)) rfl Tryd.underlying22 rfl rfl (H.rd_loc ok (i := 0) rfl rfl)) fun _ => ?_; refine Xk rfl rfl (Lk.len rfl Tryd.underlying22 rfl) fun _ => ?_; refine Xk rfl rfl (Lk.arith rfl rfl rfl rfl) fun _ => ?_; refine Xm rfl rfl rfl rfl fun _ => ?_
      by_cases e14 : (decide ((p0_0.l : Int) > 4096)) = true
      · refine R.lookF rfl rfl rfl rfl e14 rfl fun _ => R.lookF rfl rfl rfl rfl e14 rfl fun _ => R.lookF rfl rfl rfl rfl e14 rfl fun _ => R.lookF rfl rfl rfl rfl e14 rfl fun _ => Xk rfl rfl (Lk.pick rfl rfl (fun _ => rfl) (fun e => by rw [e14] at e; cases e)) fun _ => Xm rfl rfl rfl rfl fun _ => R.lookF rfl rfl rfl rfl rfl rfl fun _ => R.lookF rfl rfl rfl rfl rfl rfl fun _ => Xk rfl rfl (Lk.pick rfl rfl (fun _ => rfl) (fun e => by cases e)) fun _ => R.nil ?_; exact hIh_2 (((decide ((p0_0.l : Int) > 4096)) || (decide ((p0_1.l : Int) > 4096))) || (decide (v3 > 4096))) _ _ _ (lq rfl (lq (by rw [e14]; rfl) (lz _))) (ok.sub (.cons_cons _ sl0)) (H.add_sub ok (.cons_cons _ sl0)) hS
      · replace e14 := eq_false_of_ne_true e14; refine R.lookT (v := (.pointer (some ⟨b1, 1, none⟩))) rfl rfl rfl rfl e14 rfl (Lk.fldAddr rfl Tryd.underlying29 rfl rfl T27 rfl rfl rfl) fun _ => R.lookT rfl rfl rfl rfl e14 rfl (Lk.load1 (v := (.slice p0_1.a p0_1.l p0_1.c)) rfl Tryd.underlying27 rfl rfl (H.rd_loc ok (i := 0) rfl rfl)) fun _ => R.lookT rfl rfl rfl rfl e14 rfl (Lk.len rfl Tryd.underlying27 rfl) fun _ => R.lookT rfl rfl rfl rfl e14 rfl (Lk.arith rfl rfl rfl rfl) fun _ => Xk rfl rfl (Lk.pick rfl rfl (fun e => by rw [e14] at e; cases e) (fun _ => rfl)) fun _ => Xm rfl rfl rfl rfl fun _ => ?_
        by_cases e15 : (decide ((p0_1.l : Int) > 4096)) = true
        · refine R.lookF rfl rfl rfl rfl e15 rfl fun _ => R.lookF rfl rfl rfl rfl e15 rfl fun _ => Xk rfl rfl (Lk.pick rfl rfl (fun _ => rfl) (fun e => by rw [e15] at e; cases e)) fun _ => R.nil ?_; exact hIh_2 (((decide ((p0_0.l : Int) > 4096)) || (decide ((p0_1.l : Int) > 4096))) || (decide (v3 > 4096))) _ _ _ (lq rfl (lq (by rw [e14, e15]; rfl) (lz _))) (ok.sub (.cons_cons _ sl0)) (H.add_sub ok (.cons_cons _ sl0)) hS
        · replace e15 := eq_false_of_ne_true e15; refine R.lookT rfl rfl rfl rfl e15 rfl (Lk.move rfl rfl) fun _ => R.lookT rfl rfl rfl rfl e15 rfl (Lk.arith rfl rfl rfl rfl) fun _ => Xk rfl rfl (Lk.pick rfl rfl (fun e => by rw [e15] at e; cases e) (fun _ => rfl)) fun _ => R.nil ?_; exact hIh_2 (((decide ((p0_0.l : Int) > 4096)) || (decide ((p0_1.l : Int) > 4096))) || (decide (v3 > 4096))) _ _ _ (lq rfl (lq (by rw [e14, e15]; rfl) (lz _))) (ok.sub (.cons_cons _ sl0)) (H.add_sub ok (.cons_cons _ sl0)) hS
  · refine EvC.seq (Xr [.look 0] (Xa rfl rfl rfl rfl fun _ => ?_)); refine R.nil (EvC.block (EvC.loop (LoopC.lfp (σ := Int × Int) (fun s => (Ep (Ep (Ep E0 4 (i6 s.2)) 3 (i6 s.1)) 1 (.pointer (some ⟨b1, 0, none⟩)))) (fun s => [(b1, .row ⟨[(.slice p0_0.a p0_0.l p0_0.c), (.slice p0_1.a p0_1.l p0_1.c)], 2, 29, true, true⟩)]) (fun X_1 hX_1 => ?_) hS (ok.sub (.cons_cons _ sl0)) (lq rfl (lq rfl (lq rfl (lz _)))) (H.add_sub ok (.cons_cons _ sl0))))); rintro ⟨v3_1, v4⟩ h_8 hS ok; replace hS : S23_l7 p0_0 p0_1 K X_1 v3_1 v4 h_8 := hS; unfold S23_l7 at hS; refine EvC.seq (EvC.seq (Xr [.look 0, .look 1, .look 2, .look 3, .look 4] (Xm rfl rfl rfl rfl fun _ => ?_))); refine Xk (v := (.pointer (some ⟨b1, 1, none⟩))) rfl rfl (Lk.fldAddr rfl Tryd.underlying29 rfl rfl T27 rfl rfl rfl) fun _ => ?_; refine Xk rfl rfl (Lk.load1 (v := (.slice p0_1.a p0_1.l p0_1.c)) rfl Tryd.underlying27 rfl rfl (H.rd_loc ok (i := 0) rfl rfl)) fun _ => ?_; refine Xk rfl rfl (Lk.len rfl Tryd.underlying27 rfl) fun _ => ?_; refine Xk rfl rfl (Lk.arith rfl rfl rfl rfl) fun _ => ?_; refine R.nil ?_
    by_cases e16 : (decide (v4 < (p0_1.l : Int))) = true
    · rw [if_pos e16] at hS; refine EvC.condT rfl e16 (EvC.skip (EvC.seq (EvC.block (Xr [.look 0, .look 1, .look 2, .look 3, .look 4, .look 5, .look 6, .look 7, .look 8, .look 9] (Xm rfl rfl rfl rfl fun _ => ?_))))); refine Xk (v := (.pointer (some ⟨b1, 1, none⟩))) rfl rfl (Lk.fldAddr rfl Tryd.underlying29 rfl rfl T27 rfl rfl rfl) fun _ => ?_; refine Xk rfl rfl (Lk.load1 (v := (.slice p0_1.a p0_1.l p0_1.c)) rfl Tryd.underlying27 rfl rfl (H.rd_loc ok (i := 0) rfl rfl)) fun _ => ?_; refine Xm rfl rfl rfl rfl fun _ => ?_
      obtain ⟨a19, e17, e18, e19, hS⟩ := hS
      refine Xk rfl rfl (Lk.ixAddr rfl Tryd.underlying27 T54 rfl e17 rfl e18 e19) fun _ => ?_; refine R.look (v := (.pointer (some (Addr.add (Addr.add a19 (Int.toNat v4 * 4)) 3)))) rfl rfl rfl (Lk.fldAddr rfl Tryd.underlying54 rfl rfl T9 rfl rfl rfl) fun _ => ?_
      obtain ⟨v21, e20, hS⟩ := hS
      refine Xk rfl rfl (Look.loc ok (Lk.load1 rfl Tryd.underlying9 rfl rfl e20)) fun _ => ?_; refine Xk rfl rfl (Lk.lenS rfl Tryd.underlying9 rfl) fun _ => ?_; refine Xk rfl rfl (Lk.arith rfl rfl rfl rfl) fun _ => ?_; refine Xa rfl rfl rfl rfl fun _ => ?_; refine R.nil (Xr [.look 0, .look 1, .look 2] (Xm rfl rfl rfl rfl fun _ => Xk rfl rfl (Lk.arith rfl rfl rfl rfl) fun _ => Xa rfl rfl rfl rfl fun _ => R.nil ?_)); exact hX_1 ((IntKind.wrap .i64 (v3_1 + (ByteArray.size v21 : Int))), (IntKind.wrap .i64 (v4 + 1))) _ _ _ hS (ok.sub (.cons_cons _ sl0)) (lq rfl (lq rfl (lq rfl (lz _)))) (H.add_sub ok (.cons_cons _ sl0))
    · rw [if_neg e16] at hS; replace e16 := eq_false_of_ne_true e16; refine EvC.condF rfl e16 (EvC.exit ?_); exact hIh_1 v3_1 _ _ _ (lq rfl (lq rfl (lz _))) (ok.sub (.cons_cons _ sl0)) (H.add_sub ok (.cons_cons _ sl0)) hS

theorem f53_ok {p0_0 : Int} {p0_1 : Int} {p0_2 : Int} {p0_3 : ByteArray} {h : H} {K : Int → H → Prop} (hS : S53 p0_0 p0_1 p0_2 p0_3 h K) : ACall Tryd.prog 53 ([(.agg ([(i6 p0_0), (i6 p0_1), (i6 p0_2), (.string p0_3)] : List Value).toArray)] : List Value).toArray h (fun r h' => ∃ r0 : Int, r = tup [(i6 r0)] ∧ K r0 h') := by
  refine ACall.enter (fn := Tryd.f53) Tryd.func53 rfl (Nat.le_of_ble_eq_true rfl) ?_; unfold S53 at hS; have ok := Lok.nil h; refine EvC.seq (Xr [.alc 0, .look 1] (R.var (blk := .row ⟨[(i6 p0_0), (i6 p0_1), (i6 p0_2), (.string p0_3)], 4, 54, true, true⟩) ok rfl rfl rfl (Ac.box rfl rfl) rfl rfl fun b1 ok => ?_)); refine Xa rfl rfl rfl rfl fun _ => ?_; refine R.nil (EvC.seq (Xr [.look 0, .look 1, .look 2] (Xk (v := (.pointer (some ⟨b1, 2, none⟩))) rfl rfl (Lk.fldAddr rfl Tryd.underlying54 rfl rfl T3 rfl rfl rfl) fun _ => Xk rfl rfl (Lk.load1 (v := (i6 p0_2)) rfl Tryd.underlying3 rfl rfl (H.rd_loc ok (i := 0) rfl rfl)) fun _ => Xa rfl rfl rfl rfl fun _ => R.nil (EvC.join (σ := Int) (fun s => (Ep E0 3 (i6 s))) (fun s => []) (fun s h_1 => S53_j1 K s h_1) ?_ (fun Ih_1 hIh_1 => ?_)))))
  · intro v3 h_1 ok hS; replace hS : S53_j1 K v3 h_1 := hS; unfold S53_j1 at hS; refine EvC.seq (Xr [.look 0, .look 1] (Xm rfl rfl rfl rfl fun _ => ?_)); refine Xa rfl rfl rfl rfl fun _ => ?_; refine R.nil (EvC.ret ?_); exact ⟨.inr rfl, _, _, (.cons (.tmp rfl) .nil), ok.le, _, rfl, hS⟩
  · refine EvC.seq (Xr [.look 0] (Xa rfl rfl rfl rfl fun _ => ?_)); refine R.nil (EvC.block (EvC.loop (LoopC.lfp (σ := Int × Int) (fun s => (Ep (Ep (Ep E0 4 (i6 s.2)) 3 (i6 s.1)) 1 (.pointer (some ⟨b1, 0, none⟩)))) (fun s => [(b1, .row ⟨[(i6 p0_0), (i6 p0_1), (i6 p0_2), (.string p0_3)], 4, 54, true, true⟩)]) (fun X hX => ?_) hS (ok.sub (.cons_cons _ sl0)) (lq rfl (lq rfl (lq rfl (lz _)))) (H.add_sub ok (.cons_cons _ sl0))))); rintro ⟨v3_1, v4⟩ h_2 hS ok; replace hS : S53_l3 p0_3 K X v3_1 v4 h_2 := hS; unfold S53_l3 at hS; refine EvC.seq (EvC.seq (Xr [.look 0, .look 1, .look 2, .look 3, .look 4] (Xm rfl rfl rfl rfl fun _ => ?_))); refine Xk (v := (.pointer (some ⟨b1, 3, none⟩))) rfl rfl (Lk.fldAddr rfl Tryd.underlying54 rfl rfl T9 rfl rfl rfl) fun _ => ?_; refine Xk rfl rfl (Lk.load1 (v := (.string p0_3)) rfl Tryd.underlying9 rfl rfl (H.rd_loc ok (i := 0) rfl rfl)) fun _ => ?_; refine Xk rfl rfl (Lk.lenS rfl Tryd.underlying9 rfl) fun _ => ?_; refine Xk rfl rfl (Lk.arith rfl rfl rfl rfl) fun _ => ?_; refine R.nil ?_
    by_cases e1 : (decide (v4 < (ByteArray.size p0_3 : Int))) = true
    · rw [if_pos e1] at hS; refine EvC.condT rfl e1 (EvC.skip (EvC.join (σ := Int) (fun s => (Ep (Ep (Ep E0 4 (i6 v4)) 3 (i6 s)) 1 (.pointer (some ⟨b1, 0, none⟩)))) (fun s => [(b1, .row ⟨[(i6 p0_0), (i6 p0_1), (i6 p0_2), (.string p0_3)], 4, 54, true, true⟩)]) (fun s h_3 => S53_j2 v4 X s h_3) ?_ (fun Ih_3 hIh_3 => ?_)))
      · intro v3_2 h_3 ok hS; replace hS : S53_j2 v4 X v3_2 h_3 := hS; unfold S53_j2 at hS; refine Xr [.look 0, .look 1, .look 2] (Xm rfl rfl rfl rfl fun _ => ?_); refine Xk rfl rfl (Lk.arith rfl rfl rfl rfl) fun _ => ?_; refine Xa rfl rfl rfl rfl fun _ => ?_; refine R.nil ?_; exact hX (v3_2, (IntKind.wrap .i64 (v4 + 1))) _ _ _ hS (ok.sub (.cons_cons _ sl0)) (lq rfl (lq rfl (lq rfl (lz _)))) (H.add_sub ok (.cons_cons _ sl0))
      · refine EvC.block (EvC.seq (Xr [.look 0, .look 1, .look 2, .look 3, .look 4] (Xk (v := (.pointer (some ⟨b1, 3, none⟩))) rfl rfl (Lk.fldAddr rfl Tryd.underlying54 rfl rfl T9 rfl rfl rfl) fun _ => ?_))); refine Xk rfl rfl (Lk.load1 (v := (.string p0_3)) rfl Tryd.underlying9 rfl rfl (H.rd_loc ok (i := 0) rfl rfl)) fun _ => ?_; refine Xm rfl rfl rfl rfl fun _ => ?_
        obtain ⟨e2, e3, hS⟩ := hS
        refine Xk rfl rfl (Lk.byte rfl Tryd.underlying9 rfl rfl e2 e3) fun _ => ?_; refine Xk rfl rfl (Lk.arith rfl rfl rfl rfl) fun _ => ?_; refine R.nil ?_
        by_cases e4 : ((byteAt p0_3 v4) == 76) = true
        · rw [if_pos e4] at hS; refine EvC.condT rfl e4 (Xr [.look 0, .look 1, .look 2, .look 3] (Xm rfl rfl rfl rfl fun _ => ?_)); refine Xk rfl rfl (Lk.arith rfl rfl rfl rfl) fun _ => ?_; refine Xk rfl rfl (Lk.rem (j := 4) rfl rfl rfl (by decide)) fun _ => ?_; refine Xa rfl rfl rfl rfl fun _ => ?_; refine R.nil ?_; exact hIh_3 (Int.tmod (IntKind.wrap .i64 (v3_1 + 1)) 4) _ _ _ (lq rfl (lq rfl (lq rfl (lz _)))) (ok.sub (.cons_cons _ sl0)) (H.add_sub ok (.cons_cons _ sl0)) hS
        · rw [if_neg e4] at hS; replace e4 := eq_false_of_ne_true e4; refine EvC.condF rfl e4 (Xr [.look 0, .look 1, .look 2, .look 3] (Xm rfl rfl rfl rfl fun _ => ?_)); refine Xk rfl rfl (Lk.arith rfl rfl rfl rfl) fun _ => ?_; refine Xk rfl rfl (Lk.rem (j := 4) rfl rfl rfl (by decide)) fun _ => ?_; refine Xa rfl rfl rfl rfl fun _ => ?_; refine R.nil ?_; exact hIh_3 (Int.tmod (IntKind.wrap .i64 (v3_1 + 3)) 4) _ _ _ (lq rfl (lq rfl (lq rfl (lz _)))) (ok.sub (.cons_cons _ sl0)) (H.add_sub ok (.cons_cons _ sl0)) hS
    · rw [if_neg e1] at hS; replace e1 := eq_false_of_ne_true e1; refine EvC.condF rfl e1 (EvC.exit ?_); exact hIh_1 v3_1 _ _ _ (lq rfl (lz _)) (ok.sub (.cons _ sl0)) (H.add_sub ok (.cons _ sl0)) hS

theorem f78_ok {p0_0 : Int} {p0_1 : Int} {p0_2 : Int} {p0_3 : ByteArray} {h : H} {K : Int → H → Prop} (hS : S78 p0_0 p0_1 p0_2 p0_3 h K) : ACall Tryd.prog 78 ([(.agg ([(i6 p0_0), (i6 p0_1), (i6 p0_2), (.string p0_3)] : List Value).toArray)] : List Value).toArray h (fun r h' => ∃ r0 : Int, r = tup [(i6 r0)] ∧ K r0 h') := by
  refine ACall.enter (fn := Tryd.f78) Tryd.func78 rfl (Nat.le_of_ble_eq_true rfl) ?_; unfold S78 at hS; have ok := Lok.nil h; refine EvC.seq (Xr [.alc 0, .look 1] (R.var (blk := .row ⟨[(i6 p0_0), (i6 p0_1), (i6 p0_2), (.string p0_3)], 4, 54, true, true⟩) ok rfl rfl rfl (Ac.box rfl rfl) rfl rfl fun b1 ok => ?_)); refine Xa rfl rfl rfl rfl fun _ => ?_; refine R.nil (EvC.seq (Xr [.look 0, .eff 1 [], .look 2] (Xk rfl rfl (Lk.loadN (vs := [(i6 p0_0), (i6 p0_1), (i6 p0_2), (.string p0_3)]) rfl Tryd.underlying54 rfl T54 rfl (H.rdn_loc ok (i := 0) rfl rfl rfl)) fun _ => R.eff rfl rfl rfl (Eff.loc ok (Ef.call rfl CB53 rfl ((f53_ok hS).mono ?_)))))); rintro _ h_1 ⟨v5, rfl, hS⟩; refine fun ok => ⟨noChk, ?_⟩; refine Xa rfl rfl rfl rfl fun _ => ?_; refine R.nil (EvC.seq (Xr [.look 0, .look 1, .look 2, .look 3] (Xm rfl rfl rfl rfl fun _ => Xk rfl rfl (Lk.arith rfl rfl rfl rfl) fun _ => Xk rfl rfl (Lk.rem (j := 4) rfl rfl rfl (by decide)) fun _ => Xa rfl rfl rfl rfl fun _ => R.nil (EvC.ret ?_)))); exact ⟨.inr rfl, _, _, (.cons (.tmp rfl) .nil), ok.le, _, rfl, hS⟩

theorem f49_ok {p0_0 : Sl} {p0_1 : Sl} {p1 : Int} {p2 : Int} {h : H} {K : Sl → H → Prop} (hS : S49 p0_0 p0_1 p1 p2 h K) : ACall Tryd.prog 49 ([(.agg ([(.slice p0_0.a p0_0.l p0_0.c), (.slice p0_1.a p0_1.l p0_1.c)] : List Value).toArray), (i6 p1), (i6 p2)] : List Value).toArray h (fun r h' => ∃ r0 : Sl, r = tup [(.slice r0.a r0.l r0.c)] ∧ K r0 h') := by
  refine ACall.enter (fn := Tryd.f49) Tryd.func49 rfl (Nat.le_of_ble_eq_true rfl) ?_; unfold S49 at hS; have ok := Lok.nil h; refine EvC.seq (Xr [.alc 0, .look 1] (R.var (blk := .row ⟨[(.slice p0_0.a p0_0.l p0_0.c), (.slice p0_1.a p0_1.l p0_1.c)], 2, 29, true, true⟩) ok rfl rfl rfl (Ac.box rfl rfl) rfl rfl fun b3 ok => ?_)); refine Xa rfl rfl rfl rfl fun _ => ?_; refine R.nil (EvC.seq (Xr [.look 0] (Xa rfl rfl rfl rfl fun _ => R.nil (EvC.join (σ := Sl) (fun s => (Ep E0 7 (.slice s.a s.l s.c))) (fun s => []) (fun s h_1 => S49_j1 K s h_1) ?_ (fun Ih_1 hIh_1 => ?_)))))
  · intro v7 h_1 ok hS; replace hS : S49_j1 K v7 h_1 := hS; unfold S49_j1 at hS; refine EvC.seq (Xr [.look 0, .look 1] (Xm rfl rfl rfl rfl fun _ => ?_)); refine Xa rfl rfl rfl rfl fun _ => ?_; refine R.nil (EvC.ret ?_); exact ⟨.inr rfl, _, _, (.cons (.tmp rfl) .nil), ok.le, _, rfl, hS⟩
  · refine EvC.seq (Xr [.look 0] (Xa rfl rfl rfl rfl fun _ => ?_)); refine R.nil (EvC.block (EvC.loop (LoopC.lfp (σ := Sl × Int) (fun s => (Ep (Ep (Ep (Ep (Ep E0 8 (i6 s.2)) 7 (.slice s.1.a s.1.l s.1.c)) 3 (.pointer (some ⟨b3, 0, none⟩))) 2 (i6 p2)) 1 (i6 p1))) (fun s => [(b3, .row ⟨[(.slice p0_0.a p0_0.l p0_0.c), (.slice p0_1.a p0_1.l p0_1.c)], 2, 29, true, true⟩)]) (fun X hX => ?_) hS (ok.sub (.cons_cons _ sl0)) (lq rfl (lq rfl (lq rfl (lq rfl (lq rfl (lz _)))))) (H.add_sub ok (.cons_cons _ sl0))))); rintro ⟨v7_1, v8⟩ h_2 hS ok; replace hS : S49_l6 p0_1 p1 p2 K X v7_1 v8 h_2 := hS; unfold S49_l6 at hS; refine EvC.seq (EvC.seq (Xr [.look 0, .look 1, .look 2, .look 3, .look 4] (Xm rfl rfl rfl rfl fun _ => ?_))); refine Xk (v := (.pointer (some ⟨b3, 1, none⟩))) rfl rfl (Lk.fldAddr rfl Tryd.underlying29 rfl rfl T27 rfl rfl rfl) fun _ => ?_; refine Xk rfl rfl (Lk.load1 (v := (.slice p0_1.a p0_1.l p0_1.c)) rfl Tryd.underlying27 rfl rfl (H.rd_loc ok (i := 0) rfl rfl)) fun _ => ?_; refine Xk rfl rfl (Lk.len rfl Tryd.underlying27 rfl) fun _ => ?_; refine Xk rfl rfl (Lk.arith rfl rfl rfl rfl) fun _ => ?_; refine R.nil ?_
    by_cases e1 : (decide (v8 < (p0_1.l : Int))) = true
    · rw [if_pos e1] at hS; refine EvC.condT rfl e1 (EvC.skip (EvC.join (σ := Sl) (fun s => (Ep (Ep (Ep (Ep (Ep E0 8 (i6 v8)) 7 (.slice s.a s.l s.c)) 3 (.pointer (some ⟨b3, 0, none⟩))) 2 (i6 p2)) 1 (i6 p1))) (fun s => [(b3, .row ⟨[(.slice p0_0.a p0_0.l p0_0.c), (.slice p0_1.a p0_1.l p0_1.c)], 2, 29, true, true⟩)]) (fun s h_3 => S49_j2 v8 X s h_3) ?_ (fun Ih_3 hIh_3 => ?_)))
      · intro v7_2 h_3 ok hS; replace hS : S49_j2 v8 X v7_2 h_3 := hS; unfold S49_j2 at hS; refine Xr [.look 0, .look 1, .look 2] (Xm rfl rfl rfl rfl fun _ => ?_); refine Xk rfl rfl (Lk.arith rfl rfl rfl rfl) fun _ => ?_; refine Xa rfl rfl rfl rfl fun _ => ?_; refine R.nil ?_; exact hX (v7_2, (IntKind.wrap .i64 (v8 + 1))) _ _ _ hS (ok.sub (.cons_cons _ sl0)) (lq rfl (lq rfl (lq rfl (lq rfl (lq rfl (lz _)))))) (H.add_sub ok (.cons_cons _ sl0))
      · refine EvC.block (EvC.seq (Xr [.look 0, .look 1, .look 2, .look 3, .look 4, .alc 5, .eff 6 []] (Xk (v := (.pointer (some ⟨b3, 1, none⟩))) rfl rfl (Lk.fldAddr rfl Tryd.underlying29 rfl rfl T27 rfl rfl rfl) fun _ => ?_))); refine Xk rfl rfl (Lk.load1 (v := (.slice p0_1.a p0_1.l p0_1.c)) rfl Tryd.underlying27 rfl rfl (H.rd_loc ok (i := 0) rfl rfl)) fun _ => ?_; refine Xm rfl rfl rfl rfl fun _ => ?_
        obtain ⟨a21, e2, e3, e4, hS⟩ := hS
        refine Xk rfl rfl (Lk.ixAddr rfl Tryd.underlying27 T54 rfl e2 rfl e3 e4) fun _ => ?_
        obtain ⟨v22_0, v22_1, v22_2, v22_3, e5, hS⟩ := hS
        refine Xk rfl rfl (Look.loc ok (Lk.loadN rfl Tryd.underlying54 rfl T54 rfl e5)) fun _ => ?_; refine R.var (blk := .row ⟨[(i6 0), (i6 0), (i6 0), (.string ⟨#[]⟩)], 4, 54, true, true⟩) ok rfl rfl rfl (Ac.alloc rfl T54) rfl rfl fun b9 ok => ?_; refine R.effN rfl rfl rfl (Ef.storeLoc (i := 0) (vs := [(i6 v22_0), (i6 v22_1), (i6 v22_2), (.string v22_3)]) (cs := [(i6 v22_0), (i6 v22_1), (i6 v22_2), (.string v22_3)]) (l' := [(b9, .row ⟨[(i6 v22_0), (i6 v22_1), (i6 v22_2), (.string v22_3)], 4, 54, true, true⟩), (b3, .row ⟨[(.slice p0_0.a p0_0.l p0_0.c), (.slice p0_1.a p0_1.l p0_1.c)], 2, 29, true, true⟩)]) ok rfl T54 rfl rfl rfl rfl rfl rfl rfl rfl rfl rfl fun ok => ⟨noChk, ?_⟩); refine R.nil (EvC.join (σ := Sl) (fun s => (Ep (Ep (Ep (Ep (Ep (Ep E0 9 (.pointer (some ⟨b9, 0, none⟩))) 8 (i6 v8)) 7 (.slice s.a s.l s.c)) 3 (.pointer (some ⟨b3, 0, none⟩))) 2 (i6 p2)) 1 (i6 p1))) (fun s => [(b9, .row ⟨[(i6 v22_0), (i6 v22_1), (i6 v22_2), (.string v22_3)], 4, 54, true, true⟩), (b3, .row ⟨[(.slice p0_0.a p0_0.l p0_0.c), (.slice p0_1.a p0_1.l p0_1.c)], 2, 29, true, true⟩)]) (fun s h_4 => S49_j4 p1 p2 v8 X v22_0 v22_1 v22_2 v22_3 s h_4) ?_ (fun Ih_4 hIh_4 => ?_))
        · intro v7_3 h_4 ok hS; replace hS : S49_j4 p1 p2 v8 X v22_0 v22_1 v22_2 v22_3 v7_3 h_4 := hS; unfold S49_j4 at hS; refine EvC.seq (Xr [.look 0, .eff 1 [], .look 2] (Xk rfl rfl (Lk.loadN (vs := [(i6 v22_0), (i6 v22_1), (i6 v22_2), (.string v22_3)]) rfl Tryd.underlying54 rfl T54 rfl (H.rdn_loc ok (i := 0) rfl rfl rfl)) fun _ => ?_)); refine R.eff rfl rfl rfl (Eff.loc ok (Ef.call rfl CB78 rfl ((f78_ok hS).mono ?_))); rintro _ h_5 ⟨v39, rfl, hS⟩; refine fun ok => ⟨noChk, ?_⟩; refine Xa rfl rfl rfl rfl fun _ => ?_; refine R.nil (EvC.join (σ := Bool) (fun s => (Ep (Ep (Ep (Ep (Ep (Ep E0 48 (.bool s)) 8 (i6 v8)) 7 (.slice v7_3.a v7_3.l v7_3.c)) 3 (.pointer (some ⟨b3, 0, none⟩))) 2 (i6 p2)) 1 (i6 p1))) (fun s => [(b3, .row ⟨[(.slice p0_0.a p0_0.l p0_0.c), (.slice p0_1.a p0_1.l p0_1.c)], 2, 29, true, true⟩)]) (fun s h_6 => S49_j3 v8 X v7_3 s h_6) ?_ (fun Ih_6 hIh_6 => ?_))
          · intro v48 h_6 ok hS; replace hS : S49_j3 v8 X v7_3 v48 h_6 := hS; unfold S49_j3 at hS
            by_cases e6 : v48 = true
            · rw [if_pos e6] at hS; refine EvC.condT rfl e6 (Xr [.look 0, .look 1, .look 2, .look 3, .alc 4, .eff 5 [], .look 6] (Xm rfl rfl rfl rfl fun _ => ?_)); refine Xm rfl rfl rfl rfl fun _ => ?_; refine Xk rfl rfl (Lk.arith rfl rfl rfl rfl) fun _ => ?_; refine Xk rfl rfl (Lk.arith rfl rfl rfl rfl) fun _ => ?_; refine R.appL (cs := [(i6 (IntKind.wrap .i64 ((IntKind.wrap .i64 (2 * v8)) + 1)))]) ok rfl rfl rfl rfl rfl rfl rfl rfl Tryd.underlying32 T3 rfl (by decide) (by decide) rfl rfl rfl rfl rfl (fun _ => rfl) hS ?_; intro bb53 v54 h_7 hS ok; refine ⟨noChk, ?_⟩; refine Xa rfl rfl rfl rfl fun _ => ?_; refine R.nil ?_; exact hIh_3 v54 _ _ _ (lq rfl (lq rfl (lq rfl (lq rfl (lq rfl (lz _)))))) (ok.sub (.cons_cons _ sl0)) (H.add_sub ok (.cons_cons _ sl0)) hS
            · rw [if_neg e6] at hS; replace e6 := eq_false_of_ne_true e6; refine EvC.condF rfl e6 (EvC.skip ?_); exact hIh_3 v7_3 _ _ _ (lq rfl (lq rfl (lq rfl (lq rfl (lq rfl (lz _)))))) (ok.sub (.cons_cons _ sl0)) (H.add_sub ok (.cons_cons _ sl0)) hS
          · refine Xr [.look 0, .look 1, .look 2, .look 3, .look 4, .look 5, .look 6, .look 7, .look 8] (Xk (v := (.pointer (some ⟨b9, 1, none⟩))) rfl rfl (Lk.fldAddr rfl Tryd.underlying54 rfl rfl T3 rfl rfl rfl) fun _ => ?_); refine Xk rfl rfl (Lk.load1 (v := (i6 v22_1)) rfl Tryd.underlying3 rfl rfl (H.rd_loc ok (i := 0) rfl rfl)) fun _ => ?_; refine Xm rfl rfl rfl rfl fun _ => ?_; refine Xk rfl rfl (Lk.arith rfl rfl rfl rfl) fun _ => ?_; refine Xm rfl rfl rfl rfl fun _ => ?_
            by_cases e7 : (v22_1 == p1) = true
            · refine R.lookT rfl rfl rfl rfl e7 rfl (Lk.move rfl rfl) fun _ => R.lookT rfl rfl rfl rfl e7 rfl (Lk.move rfl rfl) fun _ => R.lookT rfl rfl rfl rfl e7 rfl (Lk.arith rfl rfl rfl rfl) fun _ => Xk rfl rfl (Lk.pick rfl rfl (fun _ => rfl) (fun e => by rw [e7] at e; cases e)) fun _ => R.nil ?_; exact hIh_6 ((v22_1 == p1) && (v39 == p2)) _ _ _ (lq rfl (lq rfl (lq rfl (lq rfl (lq rfl (lq (by rw [e7]; rfl) (lz _))))))) (ok.sub (.cons _ (.cons_cons _ sl0))) (H.add_sub ok (.cons _ (.cons_cons _ sl0))) hS
            · replace e7 := eq_false_of_ne_true e7; refine R.lookF rfl rfl rfl rfl e7 rfl fun _ => R.lookF rfl rfl rfl rfl e7 rfl fun _ => R.lookF rfl rfl rfl rfl e7 rfl fun _ => Xk rfl rfl (Lk.pick rfl rfl (fun e => by rw [e7] at e; cases e) (fun _ => rfl)) fun _ => R.nil ?_; exact hIh_6 ((v22_1 == p1) && (v39 == p2)) _ _ _ (lq rfl (lq rfl (lq rfl (lq rfl (lq rfl (lq (by rw [e7]; rfl) (lz _))))))) (ok.sub (.cons _ (.cons_cons _ sl0))) (H.add_sub ok (.cons _ (.cons_cons _ sl0))) hS
        · refine EvC.join (σ := Bool) (fun s => (Ep (Ep (Ep (Ep (Ep (Ep (Ep E0 32 (.bool s)) 9 (.pointer (some ⟨b9, 0, none⟩))) 8 (i6 v8)) 7 (.slice v7_1.a v7_1.l v7_1.c)) 3 (.pointer (some ⟨b3, 0, none⟩))) 2 (i6 p2)) 1 (i6 p1))) (fun s => [(b9, .row ⟨[(i6 v22_0), (i6 v22_1), (i6 v22_2), (.string v22_3)], 4, 54, true, true⟩), (b3, .row ⟨[(.slice p0_0.a p0_0.l p0_0.c), (.slice p0_1.a p0_1.l p0_1.c)], 2, 29, true, true⟩)]) (fun s h_8 => S49_j5 p1 p2 v7_1 v8 X v22_0 v22_1 v22_2 v22_3 s h_8) ?_ (fun Ih_8 hIh_8 => ?_)
          · intro v32 h_8 ok hS; replace hS : S49_j5 p1 p2 v7_1 v8 X v22_0 v22_1 v22_2 v22_3 v32 h_8 := hS; unfold S49_j5 at hS
            by_cases e8 : v32 = true
            · rw [if_pos e8] at hS; refine EvC.condT rfl e8 (Xr [.look 0, .look 1, .look 2, .alc 3, .eff 4 [], .look 5] (Xm rfl rfl rfl rfl fun _ => ?_)); refine Xm rfl rfl rfl rfl fun _ => ?_; refine Xk rfl rfl (Lk.arith rfl rfl rfl rfl) fun _ => ?_; refine R.appL (cs := [(i6 (IntKind.wrap .i64 (2 * v8)))]) ok rfl rfl rfl rfl rfl rfl rfl rfl Tryd.underlying32 T3 rfl (by decide) (by decide) rfl rfl rfl rfl rfl (fun _ => rfl) hS ?_; intro bb36 v37 h_9 hS ok; refine ⟨noChk, ?_⟩; refine Xa rfl rfl rfl rfl fun _ => ?_; refine R.nil ?_; exact hIh_4 v37 _ _ _ (lq rfl (lq rfl (lq rfl (lq rfl (lq rfl (lq rfl (lz _))))))) (ok.sub (.cons_cons _ (.cons_cons _ sl0))) (H.add_sub ok (.cons_cons _ (.cons_cons _ sl0))) hS
            · rw [if_neg e8] at hS; replace e8 := eq_false_of_ne_true e8; refine EvC.condF rfl e8 (EvC.skip ?_); exact hIh_4 v7_1 _ _ _ (lq rfl (lq rfl (lq rfl (lq rfl (lq rfl (lq rfl (lz _))))))) (ok.sub (.cons_cons _ (.cons_cons _ sl0))) (H.add_sub ok (.cons_cons _ (.cons_cons _ sl0))) hS
          · refine Xr [.look 0, .look 1, .look 2, .look 3, .look 4, .look 5, .look 6, .look 7, .look 8, .look 9] (Xk (v := (.pointer (some ⟨b9, 0, none⟩))) rfl rfl (Lk.fldAddr rfl Tryd.underlying54 rfl rfl T3 rfl rfl rfl) fun _ => ?_); refine Xk rfl rfl (Lk.load1 (v := (i6 v22_0)) rfl Tryd.underlying3 rfl rfl (H.rd_loc ok (i := 0) rfl rfl)) fun _ => ?_; refine Xm rfl rfl rfl rfl fun _ => ?_; refine Xk rfl rfl (Lk.arith rfl rfl rfl rfl) fun _ => ?_; refine Xm rfl rfl rfl rfl fun _ => ?_
            by_cases e9 : (v22_0 == p1) = true
            · refine R.lookT (v := (.pointer (some ⟨b9, 2, none⟩))) rfl rfl rfl rfl e9 rfl (Lk.fldAddr rfl Tryd.underlying54 rfl rfl T3 rfl rfl rfl) fun _ => R.lookT rfl rfl rfl rfl e9 rfl (Lk.load1 (v := (i6 v22_2)) rfl Tryd.underlying3 rfl rfl (H.rd_loc ok (i := 0) rfl rfl)) fun _ => R.lookT rfl rfl rfl rfl e9 rfl (Lk.move rfl rfl) fun _ => R.lookT rfl rfl rfl rfl e9 rfl (Lk.arith rfl rfl rfl rfl) fun _ => Xk rfl rfl (Lk.pick rfl rfl (fun _ => rfl) (fun e => by rw [e9] at e; cases e)) fun _ => R.nil ?_; exact hIh_8 ((v22_0 == p1) && (v22_2 == p2)) _ _ _ (lq rfl (lq rfl (lq rfl (lq rfl (lq rfl (lq rfl (lq (by rw [e9]; rfl) (lz _)))))))) (ok.sub (.cons_cons _ (.cons_cons _ sl0))) (H.add_sub ok (.cons_cons _ (.cons_cons _ sl0))) hS
            · replace e9 := eq_false_of_ne_true e9; refine R.lookF rfl rfl rfl rfl e9 rfl fun _ => R.lookF rfl rfl rfl rfl e9 rfl fun _ => R.lookF rfl rfl rfl rfl e9 rfl fun _ => R.lookF rfl rfl rfl rfl e9 rfl fun _ => Xk rfl rfl (Lk.pick rfl rfl (fun e => by rw [e9] at e; cases e) (fun _ => rfl)) fun _ => R.nil ?_; exact hIh_8 ((v22_0 == p1) && (v22_2 == p2)) _ _ _ (lq rfl (lq rfl (lq rfl (lq rfl (lq rfl (lq rfl (lq (by rw [e9]; rfl) (lz _)))))))) (ok.sub (.cons_cons _ (.cons_cons _ sl0))) (H.add_sub ok (.cons_cons _ (.cons_cons _ sl0))) hS
    · rw [if_neg e1] at hS; replace e1 := eq_false_of_ne_true e1; refine EvC.condF rfl e1 (EvC.exit ?_); exact hIh_1 v7_1 _ _ _ (lq rfl (lz _)) (ok.sub (.cons _ sl0)) (H.add_sub ok (.cons _ sl0)) hS

theorem f48_ok {p0_0 : Sl} {p0_1 : Sl} {h : H} {K : Int → H → Prop} (hS : S48 p0_0 p0_1 h K) : ACall Tryd.prog 48 ([(.agg ([(.slice p0_0.a p0_0.l p0_0.c), (.slice p0_1.a p0_1.l p0_1.c)] : List Value).toArray)] : List Value).toArray h (fun r h' => ∃ r0 : Int, r = tup [(i6 r0)] ∧ K r0 h') := by
  refine ACall.enter (fn := Tryd.f48) Tryd.func48 rfl (Nat.le_of_ble_eq_true rfl) ?_; unfold S48 at hS; have ok := Lok.nil h; refine EvC.seq (Xr [.alc 0, .look 1] (R.var (blk := .row ⟨[(.slice p0_0.a p0_0.l p0_0.c), (.slice p0_1.a p0_1.l p0_1.c)], 2, 29, true, true⟩) ok rfl rfl rfl (Ac.box rfl rfl) rfl rfl fun b1 ok => ?_)); refine Xa rfl rfl rfl rfl fun _ => ?_; refine R.nil (EvC.seq (Xr [.look 0] (Xa rfl rfl rfl rfl fun _ => R.nil (EvC.join (σ := Int) (fun s => (Ep (Ep E0 3 (i6 s)) 1 (.pointer (some ⟨b1, 0, none⟩)))) (fun s => [(b1, .row ⟨[(.slice p0_0.a p0_0.l p0_0.c), (.slice p0_1.a p0_1.l p0_1.c)], 2, 29, true, true⟩)]) (fun s h_1 => S48_j3 p0_1 K s h_1) ?_ (fun Ih_1 hIh_1 => ?_)))))
  · intro v3 h_1 ok hS; replace hS : S48_j3 p0_1 K v3 h_1 := hS; unfold S48_j3 at hS; refine EvC.join (σ := Int) (fun s => (Ep E0 3 (i6 s))) (fun s => []) (fun s h_2 => S48_j1 K s h_2) ?_ (fun Ih_2 hIh_2 => ?_)
    · intro v3_1 h_2 ok hS; replace hS : S48_j1 K v3_1 h_2 := hS; unfold S48_j1 at hS; refine EvC.seq (Xr [.look 0, .look 1] (Xm rfl rfl rfl rfl fun _ => ?_)); refine Xa rfl rfl rfl rfl fun _ => ?_; refine R.nil (EvC.ret ?_); exact ⟨.inr rfl, _, _, (.cons (.tmp rfl) .nil), ok.le, _, rfl, hS⟩
    · refine EvC.seq (Xr [.look 0] (Xa rfl rfl rfl rfl fun _ => ?_)); refine R.nil (EvC.block (EvC.loop (LoopC.lfp (σ := Int × Int) (fun s => (Ep (Ep (Ep E0 7 (i6 s.2)) 3 (i6 s.1)) 1 (.pointer (some ⟨b1, 0, none⟩)))) (fun s => [(b1, .row ⟨[(.slice p0_0.a p0_0.l p0_0.c), (.slice p0_1.a p0_1.l p0_1.c)], 2, 29, true, true⟩)]) (fun X hX => ?_) hS (ok.sub (.cons_cons _ sl0)) (lq rfl (lq rfl (lq rfl (lz _)))) (H.add_sub ok (.cons_cons _ sl0))))); rintro ⟨v3_2, v7⟩ h_3 hS ok; replace hS : S48_l2 p0_1 K X v3_2 v7 h_3 := hS; unfold S48_l2 at hS; refine EvC.seq (EvC.seq (Xr [.look 0, .look 1, .look 2, .look 3, .look 4] (Xm rfl rfl rfl rfl fun _ => ?_))); refine Xk (v := (.pointer (some ⟨b1, 1, none⟩))) rfl rfl (Lk.fldAddr rfl Tryd.underlying29 rfl rfl T27 rfl rfl rfl) fun _ => ?_; refine Xk rfl rfl (Lk.load1 (v := (.slice p0_1.a p0_1.l p0_1.c)) rfl Tryd.underlying27 rfl rfl (H.rd_loc ok (i := 0) rfl rfl)) fun _ => ?_; refine Xk rfl rfl (Lk.len rfl Tryd.underlying27 rfl) fun _ => ?_; refine Xk rfl rfl (Lk.arith rfl rfl rfl rfl) fun _ => ?_; refine R.nil ?_
      by_cases e1 : (decide (v7 < (p0_1.l : Int))) = true
      · rw [if_pos e1] at hS; refine EvC.condT rfl e1 (EvC.skip (EvC.seq (EvC.block (Xr [.look 0, .look 1, .look 2, .look 3, .look 4, .look 5, .look 6, .look 7, .look 8, .look 9] (Xm rfl rfl rfl rfl fun _ => ?_))))); refine Xk (v := (.pointer (some ⟨b1, 1, none⟩))) rfl rfl (Lk.fldAddr rfl Tryd.underlying29 rfl rfl T27 rfl rfl rfl) fun _ => ?_; refine Xk rfl rfl (Lk.load1 (v := (.slice p0_1.a p0_1.l p0_1.c)) rfl Tryd.underlying27 rfl rfl (H.rd_loc ok (i := 0) rfl rfl)) fun _ => ?_; refine Xm rfl rfl rfl rfl fun _ => ?_
        obtain ⟨a54, e2, e3, e4, hS⟩ := hS
        refine Xk rfl rfl (Lk.ixAddr rfl Tryd.underlying27 T54 rfl e2 rfl e3 e4) fun _ => ?_; refine R.look (v := (.pointer (some (Addr.add (Addr.add a54 (Int.toNat v7 * 4)) 3)))) rfl rfl rfl (Lk.fldAddr rfl Tryd.underlying54 rfl rfl T9 rfl rfl rfl) fun _ => ?_
        obtain ⟨v56, e5, hS⟩ := hS
        refine Xk rfl rfl (Look.loc ok (Lk.load1 rfl Tryd.underlying9 rfl rfl e5)) fun _ => ?_; refine Xk rfl rfl (Lk.lenS rfl Tryd.underlying9 rfl) fun _ => ?_; refine Xk rfl rfl (Lk.arith rfl rfl rfl rfl) fun _ => ?_; refine Xa rfl rfl rfl rfl fun _ => ?_; refine R.nil (Xr [.look 0, .look 1, .look 2] (Xm rfl rfl rfl rfl fun _ => Xk rfl rfl (Lk.arith rfl rfl rfl rfl) fun _ => Xa rfl rfl rfl rfl fun _ => R.nil ?_)); exact hX ((IntKind.wrap .i64 (v3_2 + (ByteArray.size v56 : Int))), (IntKind.wrap .i64 (v7 + 1))) _ _ _ hS (ok.sub (.cons_cons _ sl0)) (lq rfl (lq rfl (lq rfl (lz _)))) (H.add_sub ok (.cons_cons _ sl0))
      · rw [if_neg e1] at hS; replace e1 := eq_false_of_ne_true e1; refine EvC.condF rfl e1 (EvC.exit ?_); exact hIh_2 v3_2 _ _ _ (lq rfl (lz _)) (ok.sub (.cons _ sl0)) (H.add_sub ok (.cons _ sl0)) hS
  · refine EvC.seq (Xr [.look 0] (Xa rfl rfl rfl rfl fun _ => ?_)); refine R.nil (EvC.block (EvC.loop (LoopC.lfp (σ := Int × Int) (fun s => (Ep (Ep (Ep E0 4 (i6 s.2)) 3 (i6 s.1)) 1 (.pointer (some ⟨b1, 0, none⟩)))) (fun s => [(b1, .row ⟨[(.slice p0_0.a p0_0.l p0_0.c), (.slice p0_1.a p0_1.l p0_1.c)], 2, 29, true, true⟩)]) (fun X_1 hX_1 => ?_) hS (ok.sub (.cons_cons _ sl0)) (lq rfl (lq rfl (lq rfl (lz _)))) (H.add_sub ok (.cons_cons _ sl0))))); rintro ⟨v3_3, v4⟩ h_4 hS ok; replace hS : S48_l8 p0_0 p0_1 K X_1 v3_3 v4 h_4 := hS; unfold S48_l8 at hS; refine EvC.seq (EvC.seq (Xr [.look 0, .look 1, .look 2, .look 3, .look 4] (Xm rfl rfl rfl rfl fun _ => ?_))); refine Xk (v := (.pointer (some ⟨b1, 0, none⟩))) rfl rfl (Lk.fldAddr rfl Tryd.underlying29 rfl rfl T22 rfl rfl rfl) fun _ => ?_; refine Xk rfl rfl (Lk.load1 (v := (.slice p0_0.a p0_0.l p0_0.c)) rfl Tryd.underlying22 rfl rfl (H.rd_loc ok (i := 0) rfl rfl)) fun _ => ?_; refine Xk rfl rfl (Lk.len rfl Tryd.underlying22 rfl) fun _ => ?_; refine Xk rfl rfl (Lk.arith rfl rfl rfl rfl) fun _ => ?_; refine R.nil ?_
    by_cases e6 : (decide (v4 < (p0_0.l : Int))) = true
    · rw [if_pos e6] at hS; refine EvC.condT rfl e6 (EvC.skip (EvC.join (σ := Int) (fun s => (Ep (Ep (Ep E0 4 (i6 v4)) 3 (i6 s)) 1 (.pointer (some ⟨b1, 0, none⟩)))) (fun s => [(b1, .row ⟨[(.slice p0_0.a p0_0.l p0_0.c), (.slice p0_1.a p0_1.l p0_1.c)], 2, 29, true, true⟩)]) (fun s h_5 => S48_j4 v4 X_1 s h_5) ?_ (fun Ih_5 hIh_5 => ?_)))
      · intro v3_4 h_5 ok hS; replace hS : S48_j4 v4 X_1 v3_4 h_5 := hS; unfold S48_j4 at hS; refine Xr [.look 0, .look 1, .look 2] (Xm rfl rfl rfl rfl fun _ => ?_); refine Xk rfl rfl (Lk.arith rfl rfl rfl rfl) fun _ => ?_; refine Xa rfl rfl rfl rfl fun _ => ?_; refine R.nil ?_; exact hX_1 (v3_4, (IntKind.wrap .i64 (v4 + 1))) _ _ _ hS (ok.sub (.cons_cons _ sl0)) (lq rfl (lq rfl (lq rfl (lz _)))) (H.add_sub ok (.cons_cons _ sl0))
      · refine EvC.block (EvC.seq (Xr [.look 0, .look 1, .look 2] (Xm rfl rfl rfl rfl fun _ => ?_))); refine Xk rfl rfl (Lk.arith rfl rfl rfl rfl) fun _ => ?_; refine Xa rfl rfl rfl rfl fun _ => ?_; refine R.nil (EvC.join (σ := Int) (fun s => (Ep (Ep (Ep E0 4 (i6 v4)) 3 (i6 s)) 1 (.pointer (some ⟨b1, 0, none⟩)))) (fun s => [(b1, .row ⟨[(.slice p0_0.a p0_0.l p0_0.c), (.slice p0_1.a p0_1.l p0_1.c)], 2, 29, true, true⟩)]) (fun s h_6 => S48_j5 p0_0 v4 X_1 s h_6) ?_ (fun Ih_6 hIh_6 => ?_))
        · intro v3_5 h_6 ok hS; replace hS : S48_j5 p0_0 v4 X_1 v3_5 h_6 := hS; unfold S48_j5 at hS; refine EvC.seq (Xr [.look 0, .look 1, .look 2, .look 3, .look 4] (Xk (v := (.pointer (some ⟨b1, 0, none⟩))) rfl rfl (Lk.fldAddr rfl Tryd.underlying29 rfl rfl T22 rfl rfl rfl) fun _ => ?_)); refine Xk rfl rfl (Lk.load1 (v := (.slice p0_0.a p0_0.l p0_0.c)) rfl Tryd.underlying22 rfl rfl (H.rd_loc ok (i := 0) rfl rfl)) fun _ => ?_; refine Xm rfl rfl rfl rfl fun _ => ?_
          obtain ⟨a39, e7, e8, e9, hS⟩ := hS
          refine Xk rfl rfl (Lk.ixAddr rfl Tryd.underlying22 T4 rfl e7 rfl e8 e9) fun _ => ?_
          obtain ⟨v40, e10, hS⟩ := hS
          refine Xk rfl rfl (Look.loc ok (Lk.load1 rfl Tryd.underlying4 rfl rfl e10)) fun _ => ?_; refine R.nil ?_
          by_cases e11 : v40 = true
          · rw [if_pos e11] at hS; refine EvC.condT rfl e11 (Xr [.look 0, .look 1, .look 2] (Xm rfl rfl rfl rfl fun _ => ?_)); refine Xk rfl rfl (Lk.arith rfl rfl rfl rfl) fun _ => ?_; refine Xa rfl rfl rfl rfl fun _ => ?_; refine R.nil ?_; exact hIh_5 (IntKind.wrap .i64 (v3_5 + 3)) _ _ _ (lq rfl (lq rfl (lq rfl (lz _)))) (ok.sub (.cons_cons _ sl0)) (H.add_sub ok (.cons_cons _ sl0)) hS
          · rw [if_neg e11] at hS; replace e11 := eq_false_of_ne_true e11; refine EvC.condF rfl e11 (EvC.skip ?_); exact hIh_5 v3_5 _ _ _ (lq rfl (lq rfl (lq rfl (lz _)))) (ok.sub (.cons_cons _ sl0)) (H.add_sub ok (.cons_cons _ sl0)) hS
        · refine EvC.seq (Xr [.look 0] (Xa rfl rfl rfl rfl fun _ => ?_)); refine R.nil (EvC.block (EvC.loop (LoopC.lfp (σ := Int × Int) (fun s => (Ep (Ep (Ep (Ep E0 5 (i6 s.2)) 4 (i6 v4)) 3 (i6 s.1)) 1 (.pointer (some ⟨b1, 0, none⟩)))) (fun s => [(b1, .row ⟨[(.slice p0_0.a p0_0.l p0_0.c), (.slice p0_1.a p0_1.l p0_1.c)], 2, 29, true, true⟩)]) (fun X_2 hX_2 => ?_) hS (ok.sub (.cons_cons _ sl0)) (lq rfl (lq rfl (lq rfl (lq rfl (lz _))))) (H.add_sub ok (.cons_cons _ sl0))))); rintro ⟨v3_6, v5⟩ h_7 hS ok; replace hS : S48_l7 p0_0 p0_1 v4 X_1 X_2 v3_6 v5 h_7 := hS; unfold S48_l7 at hS; refine EvC.seq (EvC.join (σ := Bool) (fun s => (Ep (Ep (Ep (Ep (Ep E0 25 (.bool s)) 5 (i6 v5)) 4 (i6 v4)) 3 (i6 v3_6)) 1 (.pointer (some ⟨b1, 0, none⟩)))) (fun s => [(b1, .row ⟨[(.slice p0_0.a p0_0.l p0_0.c), (.slice p0_1.a p0_1.l p0_1.c)], 2, 29, true, true⟩)]) (fun s h_8 => S48_j6 p0_0 p0_1 v4 X_1 v3_6 v5 X_2 s h_8) ?_ (fun Ih_8 hIh_8 => ?_))
          · intro v25 h_8 ok hS; replace hS : S48_j6 p0_0 p0_1 v4 X_1 v3_6 v5 X_2 v25 h_8 := hS; unfold S48_j6 at hS
            by_cases e12 : v25 = true
            · rw [if_pos e12] at hS; refine EvC.condT rfl e12 (EvC.skip (EvC.seq (EvC.block (EvC.seq (Xr [.look 0, .look 1, .look 2, .eff 3 [], .look 4] (Xk rfl rfl (Lk.loadN (vs := [(.slice p0_0.a p0_0.l p0_0.c), (.slice p0_1.a p0_1.l p0_1.c)]) rfl Tryd.underlying29 rfl T29 rfl (H.rdn_loc ok (i := 0) rfl rfl rfl)) fun _ => ?_)))))); refine Xm rfl rfl rfl rfl fun _ => ?_; refine Xm rfl rfl rfl rfl fun _ => ?_; refine R.eff rfl rfl rfl (Eff.loc ok (Ef.call rfl CB49 rfl ((f49_ok hS).mono ?_))); rintro _ h_9 ⟨v31, rfl, hS⟩; refine fun ok => ⟨noChk, ?_⟩; refine Xa rfl rfl rfl rfl fun _ => ?_; refine R.nil (Xr [.look 0, .look 1, .look 2, .look 3, .look 4] (Xm rfl rfl rfl rfl fun _ => Xm rfl rfl rfl rfl fun _ => Xk rfl rfl (Lk.len rfl Tryd.underlying32 rfl) fun _ => Xk rfl rfl (Lk.arith rfl rfl rfl rfl) fun _ => Xa rfl rfl rfl rfl fun _ => R.nil (Xr [.look 0, .look 1, .look 2] (Xm rfl rfl rfl rfl fun _ => Xk rfl rfl (Lk.arith rfl rfl rfl rfl) fun _ => Xa rfl rfl rfl rfl fun _ => R.nil ?_)))); exact hX_2 ((IntKind.wrap .i64 (v3_6 + (v31.l : Int))), (IntKind.wrap .i64 (v5 + 1))) _ _ _ hS (ok.sub (.cons_cons _ sl0)) (lq rfl (lq rfl (lq rfl (lq rfl (lz _))))) (H.add_sub ok (.cons_cons _ sl0))
            · rw [if_neg e12] at hS; replace e12 := eq_false_of_ne_true e12; refine EvC.condF rfl e12 (EvC.exit ?_); exact hIh_6 v3_6 _ _ _ (lq rfl (lq rfl (lq rfl (lz _)))) (ok.sub (.cons_cons _ sl0)) (H.add_sub ok (.cons_cons _ sl0)) hS
          · refine Xr [.look 0, .look 1, .look 2, .look 3, .look 4, .look 5, .look 6, .look 7, .look 8] (Xm rfl rfl rfl rfl fun _ => ?_); refine Xk rfl rfl (Lk.arith rfl rfl rfl rfl) fun _ => ?_; refine Xm rfl rfl rfl rfl fun _ => ?_
            by_cases e13 : (decide (v5 < 4)) = true
            · rw [if_pos e13] at hS; refine R.lookT (v := (.pointer (some ⟨b1, 0, none⟩))) rfl rfl rfl rfl e13 rfl (Lk.fldAddr rfl Tryd.underlying29 rfl rfl T22 rfl rfl rfl) fun _ => R.lookT rfl rfl rfl rfl e13 rfl (Lk.load1 (v := (.slice p0_0.a p0_0.l p0_0.c)) rfl Tryd.underlying22 rfl rfl (H.rd_loc ok (i := 0) rfl rfl)) fun _ => R.lookT rfl rfl rfl rfl e13 rfl (Lk.move rfl rfl) fun _ => ?_
              obtain ⟨a23, e14, e15, e16, hS⟩ := hS
              refine R.lookT rfl rfl rfl rfl e13 rfl (Lk.ixAddr rfl Tryd.underlying22 T4 rfl e14 rfl e15 e16) fun _ => ?_
              obtain ⟨v24, e17, hS⟩ := hS
              refine R.lookT rfl rfl rfl rfl e13 rfl (Look.loc ok (Lk.load1 rfl Tryd.underlying4 rfl rfl e17)) fun _ => Xk rfl rfl (Lk.pick rfl rfl (fun _ => rfl) (fun e => by rw [e13] at e; cases e)) fun _ => R.nil ?_; exact hIh_8 v24 _ _ _ (lq rfl (lq rfl (lq rfl (lq rfl (lq rfl (lz _)))))) (ok.sub (.cons_cons _ sl0)) (H.add_sub ok (.cons_cons _ sl0)) hS
            · rw [if_neg e13] at hS; replace e13 := eq_false_of_ne_true e13; refine R.lookF rfl rfl rfl rfl e13 rfl fun _ => R.lookF rfl rfl rfl rfl e13 rfl fun _ => R.lookF rfl rfl rfl rfl e13 rfl fun _ => R.lookF rfl rfl rfl rfl e13 rfl fun _ => R.lookF rfl rfl rfl rfl e13 rfl fun _ => Xk rfl rfl (Lk.pick rfl rfl (fun e => by rw [e13] at e; cases e) (fun _ => rfl)) fun _ => R.nil ?_; exact hIh_8 false _ _ _ (lq rfl (lq rfl (lq rfl (lq rfl (lq rfl (lz _)))))) (ok.sub (.cons_cons _ sl0)) (H.add_sub ok (.cons_cons _ sl0)) hS
    · rw [if_neg e6] at hS; replace e6 := eq_false_of_ne_true e6; refine EvC.condF rfl e6 (EvC.exit ?_); exact hIh_1 v3_3 _ _ _ (lq rfl (lq rfl (lz _))) (ok.sub (.cons_cons _ sl0)) (H.add_sub ok (.cons_cons _ sl0)) hS

theorem f13_ok {p0_0 : Sl} {p0_1 : Sl} {h : H} {K : Int → H → Prop} (hS : S13 p0_0 p0_1 h K) : ACall Tryd.prog 13 ([(.agg ([(.slice p0_0.a p0_0.l p0_0.c), (.slice p0_1.a p0_1.l p0_1.c)] : List Value).toArray)] : List Value).toArray h (fun r h' => ∃ r0 : Int, r = tup [(i6 r0)] ∧ K r0 h') := by
  refine ACall.enter (fn := Tryd.f13) Tryd.func13 rfl (Nat.le_of_ble_eq_true rfl) ?_; unfold S13 at hS; have ok := Lok.nil h; refine EvC.seq (Xr [.alc 0, .look 1] (R.var (blk := .row ⟨[(.slice p0_0.a p0_0.l p0_0.c), (.slice p0_1.a p0_1.l p0_1.c)], 2, 29, true, true⟩) ok rfl rfl rfl (Ac.box rfl rfl) rfl rfl fun b1 ok => ?_)); refine Xa rfl rfl rfl rfl fun _ => ?_; refine R.nil (EvC.seq (Xr [.look 0, .eff 1 [], .look 2] (Xk rfl rfl (Lk.loadN (vs := [(.slice p0_0.a p0_0.l p0_0.c), (.slice p0_1.a p0_1.l p0_1.c)]) rfl Tryd.underlying29 rfl T29 rfl (H.rdn_loc ok (i := 0) rfl rfl rfl)) fun _ => R.eff rfl rfl rfl (Eff.loc ok (Ef.call rfl CB23 rfl ((f23_ok hS).mono ?_)))))); rintro _ h_1 ⟨v11, rfl, hS⟩; refine fun ok => ⟨noChk, ?_⟩; refine Xa rfl rfl rfl rfl fun _ => ?_; refine R.nil (EvC.seq (EvC.seq (Xr [.look 0, .look 1] (Xm rfl rfl rfl rfl fun _ => Xk rfl rfl (Lk.arith rfl rfl rfl rfl) fun _ => R.nil ?_))))
  by_cases e1 : (v11 != 0) = true
  · rw [if_pos e1] at hS; refine EvC.condT rfl e1 (EvC.seq (Xr [.look 0, .look 1] (Xm rfl rfl rfl rfl fun _ => ?_))); refine Xa rfl rfl rfl rfl fun _ => ?_; refine R.nil (EvC.ret ?_); exact ⟨.inr rfl, _, _, (.cons (.tmp rfl) .nil), ok.le, _, rfl, hS⟩
  · rw [if_neg e1] at hS; replace e1 := eq_false_of_ne_true e1; refine EvC.condF rfl e1 (EvC.skip (EvC.seq (Xr [.look 0, .eff 1 [], .look 2] (Xk rfl rfl (Lk.loadN (vs := [(.slice p0_0.a p0_0.l p0_0.c), (.slice p0_1.a p0_1.l p0_1.c)]) rfl Tryd.underlying29 rfl T29 rfl (H.rdn_loc ok (i := 0) rfl rfl rfl)) fun _ => ?_)))); refine R.eff rfl rfl rfl (Eff.loc ok (Ef.call rfl CB48 rfl ((f48_ok hS).mono ?_))); rintro _ h_2 ⟨v16, rfl, hS⟩; refine fun ok => ⟨noChk, ?_⟩; refine Xa rfl rfl rfl rfl fun _ => ?_; refine R.nil (EvC.seq (EvC.seq (Xr [.look 0, .look 1] (Xm rfl rfl rfl rfl fun _ => Xk rfl rfl (Lk.arith rfl rfl rfl rfl) fun _ => R.nil ?_))))
    by_cases e2 : (decide (v16 > 4096)) = true
    · rw [if_pos e2] at hS; refine EvC.condT rfl e2 (EvC.seq (Xr [.look 0] (Xa rfl rfl rfl rfl fun _ => ?_))); refine R.nil (EvC.ret ?_); exact ⟨.inr rfl, _, _, (.cons (.tmp rfl) .nil), ok.le, _, rfl, hS⟩
    · rw [if_neg e2] at hS; replace e2 := eq_false_of_ne_true e2; refine EvC.condF rfl e2 (EvC.skip (EvC.join (σ := Unit) (fun s => (Ep E0 1 (.pointer (some ⟨b1, 0, none⟩)))) (fun s => [(b1, .row ⟨[(.slice p0_0.a p0_0.l p0_0.c), (.slice p0_1.a p0_1.l p0_1.c)], 2, 29, true, true⟩)]) (fun s h_3 => S13_j4 p0_0 p0_1 K h_3) ?_ (fun Ih_3 hIh_3 => ?_)))
      · rintro ⟨⟩ h_3 ok hS; replace hS : S13_j4 p0_0 p0_1 K h_3 := hS; unfold S13_j4 at hS; refine EvC.join (σ := Unit) (fun s => E0) (fun s => []) (fun s h_4 => S13_j1 K h_4) ?_ (fun Ih_4 hIh_4 => ?_)
        · rintro ⟨⟩ h_4 ok hS; replace hS : S13_j1 K h_4 := hS; unfold S13_j1 at hS; refine EvC.seq (Xr [.look 0] (Xa rfl rfl rfl rfl fun _ => ?_)); refine R.nil (EvC.ret ?_); exact ⟨.inr rfl, _, _, (.cons (.tmp rfl) .nil), ok.le, _, rfl, hS⟩
        · refine EvC.seq (Xr [.look 0] (Xa rfl rfl rfl rfl fun _ => ?_)); refine R.nil (EvC.block (EvC.loop (LoopC.lfp (σ := Int) (fun s => (Ep (Ep E0 8 (i6 s)) 1 (.pointer (some ⟨b1, 0, none⟩)))) (fun s => [(b1, .row ⟨[(.slice p0_0.a p0_0.l p0_0.c), (.slice p0_1.a p0_1.l p0_1.c)], 2, 29, true, true⟩)]) (fun X hX => ?_) hS (ok.sub (.cons_cons _ sl0)) (lq rfl (lq rfl (lz _))) (H.add_sub ok (.cons_cons _ sl0))))); intro v8 h_5 hS ok; replace hS : S13_l3 p0_0 p0_1 K X v8 h_5 := hS; unfold S13_l3 at hS; refine EvC.seq (EvC.seq (Xr [.look 0, .look 1, .look 2, .look 3, .look 4] (Xm rfl rfl rfl rfl fun _ => ?_))); refine Xk (v := (.pointer (some ⟨b1, 1, none⟩))) rfl rfl (Lk.fldAddr rfl Tryd.underlying29 rfl rfl T27 rfl rfl rfl) fun _ => ?_; refine Xk rfl rfl (Lk.load1 (v := (.slice p0_1.a p0_1.l p0_1.c)) rfl Tryd.underlying27 rfl rfl (H.rd_loc ok (i := 0) rfl rfl)) fun _ => ?_; refine Xk rfl rfl (Lk.len rfl Tryd.underlying27 rfl) fun _ => ?_; refine Xk rfl rfl (Lk.arith rfl rfl rfl rfl) fun _ => ?_; refine R.nil ?_
          by_cases e3 : (decide (v8 < (p0_1.l : Int))) = true
          · rw [if_pos e3] at hS; refine EvC.condT rfl e3 (EvC.skip (EvC.seq (EvC.block (EvC.seq (Xr [.look 0, .look 1, .look 2, .look 3, .look 4, .alc 5, .eff 6 []] (Xk (v := (.pointer (some ⟨b1, 1, none⟩))) rfl rfl (Lk.fldAddr rfl Tryd.underlying29 rfl rfl T27 rfl rfl rfl) fun _ => ?_)))))); refine Xk rfl rfl (Lk.load1 (v := (.slice p0_1.a p0_1.l p0_1.c)) rfl Tryd.underlying27 rfl rfl (H.rd_loc ok (i := 0) rfl rfl)) fun _ => ?_; refine Xm rfl rfl rfl rfl fun _ => ?_
            obtain ⟨a55, e4, e5, e6, hS⟩ := hS
            refine Xk rfl rfl (Lk.ixAddr rfl Tryd.underlying27 T54 rfl e4 rfl e5 e6) fun _ => ?_
            obtain ⟨v56_0, v56_1, v56_2, v56_3, e7, hS⟩ := hS
            refine Xk rfl rfl (Look.loc ok (Lk.loadN rfl Tryd.underlying54 rfl T54 rfl e7)) fun _ => ?_; refine R.var (blk := .row ⟨[(i6 0), (i6 0), (i6 0), (.string ⟨#[]⟩)], 4, 54, true, true⟩) ok rfl rfl rfl (Ac.alloc rfl T54) rfl rfl fun b9 ok => ?_; refine R.effN rfl rfl rfl (Ef.storeLoc (i := 0) (vs := [(i6 v56_0), (i6 v56_1), (i6 v56_2), (.string v56_3)]) (cs := [(i6 v56_0), (i6 v56_1), (i6 v56_2), (.string v56_3)]) (l' := [(b9, .row ⟨[(i6 v56_0), (i6 v56_1), (i6 v56_2), (.string v56_3)], 4, 54, true, true⟩), (b1, .row ⟨[(.slice p0_0.a p0_0.l p0_0.c), (.slice p0_1.a p0_1.l p0_1.c)], 2, 29, true, true⟩)]) ok rfl T54 rfl rfl rfl rfl rfl rfl rfl rfl rfl rfl fun ok => ⟨noChk, ?_⟩); refine R.nil (EvC.join (σ := Bool) (fun s => (Ep (Ep (Ep E0 75 (.bool s)) 8 (i6 v8)) 1 (.pointer (some ⟨b1, 0, none⟩)))) (fun s => [(b1, .row ⟨[(.slice p0_0.a p0_0.l p0_0.c), (.slice p0_1.a p0_1.l p0_1.c)], 2, 29, true, true⟩)]) (fun s h_6 => S13_j2 K v8 X s h_6) ?_ (fun Ih_6 hIh_6 => ?_))
            · intro v75 h_6 ok hS; replace hS : S13_j2 K v8 X v75 h_6 := hS; unfold S13_j2 at hS
              by_cases e8 : v75 = true
              · rw [if_pos e8] at hS; refine EvC.condT rfl e8 (EvC.seq (Xr [.look 0] (Xa rfl rfl rfl rfl fun _ => ?_))); refine R.nil (EvC.ret ?_); exact ⟨.inr rfl, _, _, (.cons (.tmp rfl) .nil), ok.le, _, rfl, hS⟩
              · rw [if_neg e8] at hS; replace e8 := eq_false_of_ne_true e8; refine EvC.condF rfl e8 (EvC.skip (Xr [.look 0, .look 1, .look 2] (Xm rfl rfl rfl rfl fun _ => ?_))); refine Xk rfl rfl (Lk.arith rfl rfl rfl rfl) fun _ => ?_; refine Xa rfl rfl rfl rfl fun _ => ?_; refine R.nil ?_; exact hX (IntKind.wrap .i64 (v8 + 1)) _ _ _ hS (ok.sub (.cons_cons _ sl0)) (lq rfl (lq rfl (lz _))) (H.add_sub ok (.cons_cons _ sl0))
            · refine Xr [.look 0, .look 1, .look 2, .look 3, .look 4, .look 5, .look 6, .look 7, .look 8, .look 9, .look 10, .look 11, .look 12, .look 13, .look 14, .look 15, .look 16, .look 17, .look 18] (Xk (v := (.pointer (some ⟨b9, 0, none⟩))) rfl rfl (Lk.fldAddr rfl Tryd.underlying54 rfl rfl T3 rfl rfl rfl) fun _ => ?_); refine Xk rfl rfl (Lk.load1 (v := (i6 v56_0)) rfl Tryd.underlying3 rfl rfl (H.rd_loc ok (i := 0) rfl rfl)) fun _ => ?_; refine Xk (v := (.pointer (some ⟨b9, 1, none⟩))) rfl rfl (Lk.fldAddr rfl Tryd.underlying54 rfl rfl T3 rfl rfl rfl) fun _ => ?_; refine Xk rfl rfl (Lk.load1 (v := (i6 v56_1)) rfl Tryd.underlying3 rfl rfl (H.rd_loc ok (i := 0) rfl rfl)) fun _ => ?_; refine Xk rfl rfl (Lk.arith rfl rfl rfl rfl) fun _ => ?_; refine Xm rfl rfl rfl rfl fun _ => ?_
              by_cases e9 : (v56_0 == v56_1) = true
              · rw [if_pos e9] at hS; refine R.lookT (v := (.pointer (some ⟨b9, 3, none⟩))) rfl rfl rfl rfl e9 rfl (Lk.fldAddr rfl Tryd.underlying54 rfl rfl T9 rfl rfl rfl) fun _ => R.lookT rfl rfl rfl rfl e9 rfl (Lk.load1 (v := (.string v56_3)) rfl Tryd.underlying9 rfl rfl (H.rd_loc ok (i := 0) rfl rfl)) fun _ => R.lookT rfl rfl rfl rfl e9 rfl (Lk.strEq rfl rfl rfl) fun _ => Xk rfl rfl (Lk.pick rfl rfl (fun _ => rfl) (fun e => by rw [e9] at e; cases e)) fun _ => Xm rfl rfl rfl rfl fun _ => ?_
                by_cases e10 : (ByteArray.toList v56_3 == ByteArray.toList ⟨#[]⟩) = true
                · rw [if_pos e10] at hS; refine R.lookT (v := (.pointer (some ⟨b1, 0, none⟩))) rfl rfl rfl rfl e10 rfl (Lk.fldAddr rfl Tryd.underlying29 rfl rfl T22 rfl rfl rfl) fun _ => R.lookT rfl rfl rfl rfl e10 rfl (Lk.load1 (v := (.slice p0_0.a p0_0.l p0_0.c)) rfl Tryd.underlying22 rfl rfl (H.rd_loc ok (i := 1) rfl rfl)) fun _ => R.lookT (v := (.pointer (some ⟨b9, 0, none⟩))) rfl rfl rfl rfl e10 rfl (Lk.fldAddr rfl Tryd.underlying54 rfl rfl T3 rfl rfl rfl) fun _ => R.lookT rfl rfl rfl rfl e10 rfl (Lk.load1 (v := (i6 v56_0)) rfl Tryd.underlying3 rfl rfl (H.rd_loc ok (i := 0) rfl rfl)) fun _ => ?_
                  obtain ⟨a72, e11, e12, e13, hS⟩ := hS
                  refine R.lookT rfl rfl rfl rfl e10 rfl (Lk.ixAddr rfl Tryd.underlying22 T4 rfl e11 rfl e12 e13) fun _ => ?_
                  obtain ⟨v73, e14, hS⟩ := hS
                  refine R.lookT rfl rfl rfl rfl e10 rfl (Look.loc ok (Lk.load1 rfl Tryd.underlying4 rfl rfl e14)) fun _ => R.lookT rfl rfl rfl rfl e10 rfl (Lk.not rfl rfl) fun _ => Xk rfl rfl (Lk.pick rfl rfl (fun _ => rfl) (fun e => by rw [e10] at e; cases e)) fun _ => R.nil ?_; exact hIh_6 (!v73) _ _ _ (lq rfl (lq rfl (lq rfl (lz _)))) (ok.sub (.cons _ (.cons_cons _ sl0))) (H.add_sub ok (.cons _ (.cons_cons _ sl0))) hS
                · rw [if_neg e10] at hS; replace e10 := eq_false_of_ne_true e10; refine R.lookF rfl rfl rfl rfl e10 rfl fun _ => R.lookF rfl rfl rfl rfl e10 rfl fun _ => R.lookF rfl rfl rfl rfl e10 rfl fun _ => R.lookF rfl rfl rfl rfl e10 rfl fun _ => R.lookF rfl rfl rfl rfl e10 rfl fun _ => R.lookF rfl rfl rfl rfl e10 rfl fun _ => R.lookF rfl rfl rfl rfl e10 rfl fun _ => Xk rfl rfl (Lk.pick rfl rfl (fun e => by rw [e10] at e; cases e) (fun _ => rfl)) fun _ => R.nil ?_; exact hIh_6 false _ _ _ (lq rfl (lq rfl (lq rfl (lz _)))) (ok.sub (.cons _ (.cons_cons _ sl0))) (H.add_sub ok (.cons _ (.cons_cons _ sl0))) hS
              · rw [if_neg e9] at hS; replace e9 := eq_false_of_ne_true e9; refine R.lookF rfl rfl rfl rfl e9 rfl fun _ => R.lookF rfl rfl rfl rfl e9 rfl fun _ => R.lookF rfl rfl rfl rfl e9 rfl fun _ => Xk rfl rfl (Lk.pick rfl rfl (fun e => by rw [e9] at e; cases e) (fun _ => rfl)) fun _ => Xm rfl rfl rfl rfl fun _ => R.lookF rfl rfl rfl rfl rfl rfl fun _ => R.lookF rfl rfl rfl rfl rfl rfl fun _ => R.lookF rfl rfl rfl rfl rfl rfl fun _ => R.lookF rfl rfl rfl rfl rfl rfl fun _ => R.lookF rfl rfl rfl rfl rfl rfl fun _ => R.lookF rfl rfl rfl rfl rfl rfl fun _ => R.lookF rfl rfl rfl rfl rfl rfl fun _ => Xk rfl rfl (Lk.pick rfl rfl (fun e => by cases e) (fun _ => rfl)) fun _ => ?_; refine R.nil ?_; exact hIh_6 false _ _ _ (lq rfl (lq rfl (lq rfl (lz _)))) (ok.sub (.cons _ (.cons_cons _ sl0))) (H.add_sub ok (.cons _ (.cons_cons _ sl0))) hS
          · rw [if_neg e3] at hS; replace e3 := eq_false_of_ne_true e3; refine EvC.condF rfl e3 (EvC.exit ?_); exact hIh_4 () _ _ _ (lz _) (ok.sub (.cons _ sl0)) (H.add_sub ok (.cons _ sl0)) hS
      · refine EvC.seq (Xr [.look 0] (Xa rfl rfl rfl rfl fun _ => ?_)); refine R.nil (EvC.block (EvC.loop (LoopC.lfp (σ := Int) (fun s => (Ep (Ep E0 5 (i6 s)) 1 (.pointer (some ⟨b1, 0, none⟩)))) (fun s => [(b1, .row ⟨[(.slice p0_0.a p0_0.l p0_0.c), (.slice p0_1.a p0_1.l p0_1.c)], 2, 29, true, true⟩)]) (fun X_1 hX_1 => ?_) hS (ok.sub (.cons_cons _ sl0)) (lq rfl (lq rfl (lz _))) (H.add_sub ok (.cons_cons _ sl0))))); intro v5 h_7 hS ok; replace hS : S13_l8 p0_0 p0_1 K X_1 v5 h_7 := hS; unfold S13_l8 at hS; refine EvC.seq (EvC.seq (Xr [.look 0, .look 1, .look 2, .look 3, .look 4] (Xm rfl rfl rfl rfl fun _ => ?_))); refine Xk (v := (.pointer (some ⟨b1, 0, none⟩))) rfl rfl (Lk.fldAddr rfl Tryd.underlying29 rfl rfl T22 rfl rfl rfl) fun _ => ?_; refine Xk rfl rfl (Lk.load1 (v := (.slice p0_0.a p0_0.l p0_0.c)) rfl Tryd.underlying22 rfl rfl (H.rd_loc ok (i := 0) rfl rfl)) fun _ => ?_; refine Xk rfl rfl (Lk.len rfl Tryd.underlying22 rfl) fun _ => ?_; refine Xk rfl rfl (Lk.arith rfl rfl rfl rfl) fun _ => ?_; refine R.nil ?_
        by_cases e15 : (decide (v5 < (p0_0.l : Int))) = true
        · rw [if_pos e15] at hS; refine EvC.condT rfl e15 (EvC.skip (EvC.join (σ := Unit) (fun s => (Ep (Ep E0 5 (i6 v5)) 1 (.pointer (some ⟨b1, 0, none⟩)))) (fun s => [(b1, .row ⟨[(.slice p0_0.a p0_0.l p0_0.c), (.slice p0_1.a p0_1.l p0_1.c)], 2, 29, true, true⟩)]) (fun s h_8 => S13_j5 v5 X_1 h_8) ?_ (fun Ih_8 hIh_8 => ?_)))
          · rintro ⟨⟩ h_8 ok hS; replace hS : S13_j5 v5 X_1 h_8 := hS; unfold S13_j5 at hS; refine Xr [.look 0, .look 1, .look 2] (Xm rfl rfl rfl rfl fun _ => ?_); refine Xk rfl rfl (Lk.arith rfl rfl rfl rfl) fun _ => ?_; refine Xa rfl rfl rfl rfl fun _ => ?_; refine R.nil ?_; exact hX_1 (IntKind.wrap .i64 (v5 + 1)) _ _ _ hS (ok.sub (.cons_cons _ sl0)) (lq rfl (lq rfl (lz _))) (H.add_sub ok (.cons_cons _ sl0))
          · refine EvC.block (EvC.seq (Xr [.look 0] (Xa rfl rfl rfl rfl fun _ => ?_))); refine R.nil (EvC.block (EvC.loop (LoopC.lfp (σ := Int) (fun s => (Ep (Ep (Ep E0 6 (i6 s)) 5 (i6 v5)) 1 (.pointer (some ⟨b1, 0, none⟩)))) (fun s => [(b1, .row ⟨[(.slice p0_0.a p0_0.l p0_0.c), (.slice p0_1.a p0_1.l p0_1.c)], 2, 29, true, true⟩)]) (fun X_2 hX_2 => ?_) hS (ok.sub (.cons_cons _ sl0)) (lq rfl (lq rfl (lq rfl (lz _)))) (H.add_sub ok (.cons_cons _ sl0))))); intro v6 h_9 hS ok; replace hS : S13_l7 p0_0 p0_1 K v5 X_1 X_2 v6 h_9 := hS; unfold S13_l7 at hS; refine EvC.seq (EvC.join (σ := Bool) (fun s => (Ep (Ep (Ep (Ep E0 35 (.bool s)) 6 (i6 v6)) 5 (i6 v5)) 1 (.pointer (some ⟨b1, 0, none⟩)))) (fun s => [(b1, .row ⟨[(.slice p0_0.a p0_0.l p0_0.c), (.slice p0_1.a p0_1.l p0_1.c)], 2, 29, true, true⟩)]) (fun s h_10 => S13_j6 p0_0 p0_1 K v5 X_1 v6 X_2 s h_10) ?_ (fun Ih_10 hIh_10 => ?_))
            · intro v35 h_10 ok hS; replace hS : S13_j6 p0_0 p0_1 K v5 X_1 v6 X_2 v35 h_10 := hS; unfold S13_j6 at hS
              by_cases e16 : v35 = true
              · rw [if_pos e16] at hS; refine EvC.condT rfl e16 (EvC.skip (EvC.seq (EvC.block (EvC.seq (Xr [.look 0, .look 1, .look 2, .eff 3 [], .look 4] (Xk rfl rfl (Lk.loadN (vs := [(.slice p0_0.a p0_0.l p0_0.c), (.slice p0_1.a p0_1.l p0_1.c)]) rfl Tryd.underlying29 rfl T29 rfl (H.rdn_loc ok (i := 0) rfl rfl rfl)) fun _ => ?_)))))); refine Xm rfl rfl rfl rfl fun _ => ?_; refine Xm rfl rfl rfl rfl fun _ => ?_; refine R.eff rfl rfl rfl (Eff.loc ok (Ef.call rfl CB49 rfl ((f49_ok hS).mono ?_))); rintro _ h_11 ⟨v41, rfl, hS⟩; refine fun ok => ⟨noChk, ?_⟩; refine Xa rfl rfl rfl rfl fun _ => ?_; refine R.nil (EvC.seq (Xr [.look 0, .look 1, .look 2] (Xm rfl rfl rfl rfl fun _ => Xk rfl rfl (Lk.len rfl Tryd.underlying32 rfl) fun _ => Xk rfl rfl (Lk.arith rfl rfl rfl rfl) fun _ => R.nil ?_)))
                by_cases e17 : (decide ((v41.l : Int) > 1)) = true
                · rw [if_pos e17] at hS; refine EvC.condT rfl e17 (EvC.seq (Xr [.look 0] (Xa rfl rfl rfl rfl fun _ => ?_))); refine R.nil (EvC.ret ?_); exact ⟨.inr rfl, _, _, (.cons (.tmp rfl) .nil), ok.le, _, rfl, hS⟩
                · rw [if_neg e17] at hS; replace e17 := eq_false_of_ne_true e17; refine EvC.condF rfl e17 (EvC.skip (Xr [.look 0, .look 1, .look 2] (Xm rfl rfl rfl rfl fun _ => ?_))); refine Xk rfl rfl (Lk.arith rfl rfl rfl rfl) fun _ => ?_; refine Xa rfl rfl rfl rfl fun _ => ?_; refine R.nil ?_; exact hX_2 (IntKind.wrap .i64 (v6 + 1)) _ _ _ hS (ok.sub (.cons_cons _ sl0)) (lq rfl (lq rfl (lq rfl (lz _)))) (H.add_sub ok (.cons_cons _ sl0))
              · rw [if_neg e16] at hS; replace e16 := eq_false_of_ne_true e16; refine EvC.condF rfl e16 (EvC.exit ?_); exact hIh_8 () _ _ _ (lq rfl (lq rfl (lz _))) (ok.sub (.cons_cons _ sl0)) (H.add_sub ok (.cons_cons _ sl0)) hS
            · refine Xr [.look 0, .look 1, .look 2, .look 3, .look 4, .look 5, .look 6, .look 7, .look 8, .look 9] (Xm rfl rfl rfl rfl fun _ => ?_); refine Xk rfl rfl (Lk.arith rfl rfl rfl rfl) fun _ => ?_; refine Xm rfl rfl rfl rfl fun _ => ?_
              by_cases e18 : (decide (v6 < 4)) = true
              · rw [if_pos e18] at hS; refine R.lookT (v := (.pointer (some ⟨b1, 0, none⟩))) rfl rfl rfl rfl e18 rfl (Lk.fldAddr rfl Tryd.underlying29 rfl rfl T22 rfl rfl rfl) fun _ => R.lookT rfl rfl rfl rfl e18 rfl (Lk.load1 (v := (.slice p0_0.a p0_0.l p0_0.c)) rfl Tryd.underlying22 rfl rfl (H.rd_loc ok (i := 0) rfl rfl)) fun _ => R.lookT rfl rfl rfl rfl e18 rfl (Lk.move rfl rfl) fun _ => ?_
                obtain ⟨a32, e19, e20, e21, hS⟩ := hS
                refine R.lookT rfl rfl rfl rfl e18 rfl (Lk.ixAddr rfl Tryd.underlying22 T4 rfl e19 rfl e20 e21) fun _ => ?_
                obtain ⟨v33, e22, hS⟩ := hS
                refine R.lookT rfl rfl rfl rfl e18 rfl (Look.loc ok (Lk.load1 rfl Tryd.underlying4 rfl rfl e22)) fun _ => R.lookT rfl rfl rfl rfl e18 rfl (Lk.not rfl rfl) fun _ => Xk rfl rfl (Lk.pick rfl rfl (fun _ => rfl) (fun e => by rw [e18] at e; cases e)) fun _ => R.nil ?_; exact hIh_10 (!v33) _ _ _ (lq rfl (lq rfl (lq rfl (lq rfl (lz _))))) (ok.sub (.cons_cons _ sl0)) (H.add_sub ok (.cons_cons _ sl0)) hS
              · rw [if_neg e18] at hS; replace e18 := eq_false_of_ne_true e18; refine R.lookF rfl rfl rfl rfl e18 rfl fun _ => R.lookF rfl rfl rfl rfl e18 rfl fun _ => R.lookF rfl rfl rfl rfl e18 rfl fun _ => R.lookF rfl rfl rfl rfl e18 rfl fun _ => R.lookF rfl rfl rfl rfl e18 rfl fun _ => R.lookF rfl rfl rfl rfl e18 rfl fun _ => Xk rfl rfl (Lk.pick rfl rfl (fun e => by rw [e18] at e; cases e) (fun _ => rfl)) fun _ => R.nil ?_; exact hIh_10 false _ _ _ (lq rfl (lq rfl (lq rfl (lq rfl (lz _))))) (ok.sub (.cons_cons _ sl0)) (H.add_sub ok (.cons_cons _ sl0)) hS
        · rw [if_neg e15] at hS; replace e15 := eq_false_of_ne_true e15; refine EvC.condF rfl e15 (EvC.exit ?_); exact hIh_3 () _ _ _ (lq rfl (lz _)) (ok.sub (.cons_cons _ sl0)) (H.add_sub ok (.cons_cons _ sl0)) hS

theorem f51_ok {p0 : Int} {h : H} {K : Sl → H → Prop} (hS : S51 p0 h K) : ACall Tryd.prog 51 ([(i6 p0)] : List Value).toArray h (fun r h' => ∃ r0 : Sl, r = tup [(.slice r0.a r0.l r0.c)] ∧ K r0 h') := by
  refine ACall.enter (fn := Tryd.f51) Tryd.func51 rfl (Nat.le_of_ble_eq_true rfl) ?_; unfold S51 at hS; have ok := Lok.nil h; refine EvC.seq (Xr [.look 0] (Xa rfl rfl rfl rfl fun _ => ?_)); refine R.nil (EvC.seq (Xr [.look 0, .alc 1, .look 2] (Xm rfl rfl rfl rfl fun _ => ?_)))
  obtain ⟨e1, e2, e3, e4, hS⟩ := hS
  refine R.new (blk := (.row ⟨zeros (.agg #[(i6 0), (i6 0), (i6 0), (i6 0), (i6 0), (i6 0), (i6 0), (i6 0)]) (Int.toNat p0 * 8), (zeros (.agg #[(i6 0), (i6 0), (i6 0), (i6 0), (i6 0), (i6 0), (i6 0), (i6 0)]) (Int.toNat p0 * 8)).length, 51, true, true⟩)) ok rfl rfl rfl (Ac.makeSlice rfl Tryd.underlying31 T51 rfl rfl e1 e2 e3 e4) rfl rfl fun b7 e5 ok => ?_; replace hS := hS b7 _ e5 rfl; refine Xa rfl rfl rfl rfl fun _ => ?_; refine R.nil (EvC.join (σ := Unit) (fun s => (Ep E0 3 (.slice (some ⟨b7, 0, none⟩) (Int.toNat p0) (Int.toNat p0)))) (fun s => []) (fun s h_2 => S51_j1 p0 K b7 h_2) ?_ (fun Ih_2 hIh_2 => ?_))
  · rintro ⟨⟩ h_2 ok hS; replace hS : S51_j1 p0 K b7 h_2 := hS; unfold S51_j1 at hS; refine EvC.seq (Xr [.look 0, .look 1] (Xm rfl rfl rfl rfl fun _ => ?_)); refine Xa rfl rfl rfl rfl fun _ => ?_; refine R.nil (EvC.ret ?_); exact ⟨.inr rfl, _, _, (.cons (.tmp rfl) .nil), ok.le, _, rfl, hS⟩
  · refine EvC.seq (Xr [.look 0] (Xa rfl rfl rfl rfl fun _ => ?_)); refine R.nil (EvC.block (EvC.loop (LoopC.lfp (σ := Int) (fun s => (Ep (Ep (Ep E0 4 (i6 s)) 3 (.slice (some ⟨b7, 0, none⟩) (Int.toNat p0) (Int.toNat p0))) 0 (i6 p0))) (fun s => []) (fun X hX => ?_) hS (ok.sub sl0) (lq rfl (lq rfl (lq rfl (lz _)))) (H.add_sub ok sl0)))); intro v4 h_3 hS ok; replace hS : S51_l4 p0 K b7 X v4 h_3 := hS; unfold S51_l4 at hS; refine EvC.seq (EvC.seq (Xr [.look 0, .look 1, .look 2] (Xm rfl rfl rfl rfl fun _ => ?_))); refine Xm rfl rfl rfl rfl fun _ => ?_; refine Xk rfl rfl (Lk.arith rfl rfl rfl rfl) fun _ => ?_; refine R.nil ?_
    by_cases e6 : (decide (v4 < p0)) = true
    · rw [if_pos e6] at hS; refine EvC.condT rfl e6 (EvC.skip (EvC.join (σ := Unit) (fun s => (Ep (Ep (Ep E0 4 (i6 v4)) 3 (.slice (some ⟨b7, 0, none⟩) (Int.toNat p0) (Int.toNat p0))) 0 (i6 p0))) (fun s => []) (fun s h_4 => S51_j2 v4 X h_4) ?_ (fun Ih_4 hIh_4 => ?_)))
      · rintro ⟨⟩ h_4 ok hS; replace hS : S51_j2 v4 X h_4 := hS; unfold S51_j2 at hS; refine Xr [.look 0, .look 1, .look 2] (Xm rfl rfl rfl rfl fun _ => ?_); refine Xk rfl rfl (Lk.arith rfl rfl rfl rfl) fun _ => ?_; refine Xa rfl rfl rfl rfl fun _ => ?_; refine R.nil ?_; exact hX (IntKind.wrap .i64 (v4 + 1)) _ _ _ hS (ok.sub sl0) (lq rfl (lq rfl (lq rfl (lz _)))) (H.add_sub ok sl0)
      · refine EvC.block (EvC.seq (Xr [.look 0] (Xa rfl rfl rfl rfl fun _ => ?_))); refine R.nil (EvC.block (EvC.loop (LoopC.lfp (σ := Int) (fun s => (Ep (Ep (Ep (Ep E0 5 (i6 s)) 4 (i6 v4)) 3 (.slice (some ⟨b7, 0, none⟩) (Int.toNat p0) (Int.toNat p0))) 0 (i6 p0))) (fun s => []) (fun X_1 hX_1 => ?_) hS (ok.sub sl0) (lq rfl (lq rfl (lq rfl (lq rfl (lz _))))) (H.add_sub ok sl0)))); intro v5 h_5 hS ok; replace hS : S51_l3 p0 b7 v4 X X_1 v5 h_5 := hS; unfold S51_l3 at hS; refine EvC.seq (EvC.seq (Xr [.look 0, .look 1] (Xm rfl rfl rfl rfl fun _ => ?_))); refine Xk rfl rfl (Lk.arith rfl rfl rfl rfl) fun _ => ?_; refine R.nil ?_
        by_cases e7 : (decide (v5 < 4)) = true
        · rw [if_pos e7] at hS; refine EvC.condT rfl e7 (EvC.skip (EvC.seq (EvC.block (Xr [.look 0, .look 1, .look 2, .look 3, .look 4, .look 5, .eff 6 []] (Xm rfl rfl rfl rfl fun _ => ?_))))); refine Xm rfl rfl rfl rfl fun _ => ?_; refine Xm rfl rfl rfl rfl fun _ => ?_
          obtain ⟨a20, e8, e9, e10, hS⟩ := hS
          refine Xk rfl rfl (Lk.ixAddr rfl Tryd.underlying31 T51 rfl e8 rfl e9 e10) fun _ => ?_; refine R.look (v := (.pointer (some (Addr.add a20 (Int.toNat v4 * 8))))) rfl rfl rfl (Lk.fldAddr rfl Tryd.underlying51 rfl rfl T49 rfl rfl rfl) fun _ => ?_
          obtain ⟨e11, e12, hS⟩ := hS
          refine Xk rfl rfl (Lk.indexAddrA rfl Tryd.underlying49 T3 rfl rfl e11 e12) fun _ => ?_
          obtain ⟨h_6, e13, hS⟩ := hS
          refine R.effN rfl rfl rfl (Eff.loc ok (Ef.store rfl T3 rfl rfl rfl rfl rfl e13 fun ok => ⟨noChk, ?_⟩)); refine R.nil (Xr [.look 0, .look 1, .look 2] (Xm rfl rfl rfl rfl fun _ => Xk rfl rfl (Lk.arith rfl rfl rfl rfl) fun _ => Xa rfl rfl rfl rfl fun _ => R.nil ?_)); exact hX_1 (IntKind.wrap .i64 (v5 + 1)) _ _ _ hS (ok.sub sl0) (lq rfl (lq rfl (lq rfl (lq rfl (lz _))))) (H.add_sub ok sl0)
        · rw [if_neg e7] at hS; replace e7 := eq_false_of_ne_true e7; refine EvC.condF rfl e7 (EvC.exit ?_); exact hIh_4 () _ _ _ (lq rfl (lq rfl (lq rfl (lz _)))) (ok.sub sl0) (H.add_sub ok sl0) hS
    · rw [if_neg e6] at hS; replace e6 := eq_false_of_ne_true e6; refine EvC.condF rfl e6 (EvC.exit ?_); exact hIh_2 () _ _ _ (lq rfl (lz _)) (ok.sub sl0) (H.add_sub ok sl0) hS

end Go.Proofs.YtimadnngfhbfiaaDoor
end
