/-
  PROVED HERE: 'muntinlaw27.TraceMany' answers true whatever the three numbers, and what was handed in reads as it did. Conditions: the package variables that the row lists hold what the program's text lays (the proof reads none of them).
  Part 2 of 6.
-/
import Derived.Test.YtimadnngfhbfiaaGreatDoorTmA
import Derived.ProofKit

section
/-
  What lies in a world, as a heap that may not be written.
-/
namespace Go.Mu
/-- All that the world's rows hold, none to be written. -/
def H.of (W : World) : H := fun b => match W.heap[b]? with
  | some (.cells c e _) => some (.row ⟨c.toList, c.size, e, false, false⟩)
  | _ => none
theorem H.of_sat (W : World) : Sat (H.of W) W := by
  intro b x hx
  unfold H.of at hx
  split at hx
  · rename_i c e fz hb
    cases hx
    exact ⟨c, fz, hb, rfl, List.prefix_rfl, fun h => (by cases h), fun h => (by cases h)⟩
  · cases hx
theorem H.of_own (W : World) (b : Nat) : Blk.own (H.of W b) = false := by
  unfold H.of
  split <;> rfl
theorem H.of_rd {W : World} {a : Addr} {v : Value} (e : W.cell? a = some v) : (H.of W).rd a = some v := by
  unfold World.cell? at e
  unfold H.rd H.of
  split at e
  · rename_i c t fz hb
    split at e
    · cases e
    · rename_i hs
      have : a.spot = none := by simpa using hs
      rw [this, hb]
      simpa using e
  · cases e
theorem Fr.below {W W' : World} {h' : H} (f : Fr (H.of W) W h' W') : Go.RowKit.Below W.heap.size W W' :=
  ⟨f.os, f.tape, f.output, f.size, fun k hk => (f.keep k hk (H.of_own W k)).1⟩
/-- A call, told of the world in which it begins. -/
theorem ACall.world {P : Program} {f : FuncId} {args : Array Value} {W : World} {K : Value → H → Prop} (a : ACall P f args (H.of W) K) : Calls P f args W fun e W' => ∃ r h', e = .returned r ∧ Go.RowKit.Below W.heap.size W W' ∧ K r h' :=
  (a W (H.of_sat W)).mono fun _ _ ⟨r, h', e, _, fr, k⟩ => ⟨r, h', e, fr.below, k⟩
end Go.Mu
end

section
/-
  Shapes and their ends in plain words; loops that count.
-/
namespace Go.Mu
/-- A loop that counts to n at most. -/
theorem lfp.count {σ : Type} {F : (σ → H → Prop) → σ → H → Prop} (n : Nat) (I : Nat → σ → H → Prop)
    (step : ∀ (X : σ → H → Prop) (i : Nat) (s : σ) (h : H), i ≤ n → I i s h → (i < n → ∀ s' h', I (i + 1) s' h' → X s' h') → F X s h) {s : σ} {h : H} (h0 : I 0 s h) : lfp F s h := by
  intro X hX
  have key : ∀ m i s h, n - i = m → i ≤ n → I i s h → X s h := by
    intro m
    induction m with
    | zero => intro i s h hm hi q; exact hX s h (step X i s h hi q fun hlt => by omega)
    | succ m ih => intro i s h hm hi q; exact hX s h (step X i s h hi q fun hlt s' h' q' => ih (i + 1) s' h' (by omega) (by omega) q')
  exact key n 0 s h (by omega) (Nat.zero_le _) h0
theorem wrapN {x : Int} {n : Nat} (e : x = n) (hn : n < 4611686018427387904) : IntKind.i64.wrap x = n := by
  subst e; exact wrap64_id (by omega) (by omega)
theorem wsucc {i : Nat} (hi : i < 4611686018427387903) : IntKind.i64.wrap ((i : Int) + 1) = ((i + 1 : Nat) : Int) := wrapN (by omega) (by omega)
theorem Addr.add_add (a : Addr) (i j : Nat) : (a.add i).add j = a.add (i + j) := by
  unfold Addr.add
  by_cases h1 : i = 0 <;> by_cases h2 : j = 0
  · simp [h1, h2]
  · simp [h1, h2]
  · simp [h1, h2]
  · have : i + j ≠ 0 := by omega
    simp [h1, h2, Nat.add_assoc]
end Go.Mu

namespace Go.Shape
open Go.Mu
structure Ed where
  f : Nat
  t : Nat
  d : Nat
  b : List Bool
def letter (x : Bool) : UInt8 := if x then 76 else 82
def bs (b : List Bool) : ByteArray := ⟨(b.map letter).toArray⟩
def Ed.enc (e : Ed) : List Value := [.int .i64 e.f, .int .i64 e.t, .int .i64 e.d, .string (bs e.b)]
theorem Ed.enc_len (e : Ed) : e.enc.length = 4 := rfl
def turn (d : Nat) (b : Bool) : Nat := (d + if b then 1 else 3) % 4
theorem turn_lt (d : Nat) (b : Bool) : turn d b < 4 := Nat.mod_lt _ (by decide)
def lastOf (d : Nat) (b : List Bool) : Nat := b.foldl turn d
theorem lastOf_lt : ∀ (b : List Bool) {d : Nat}, d < 4 → lastOf d b < 4
  | [], _, h => h
  | x :: b, d, _ => lastOf_lt b (turn_lt d x)
theorem lastOf_take {d : Nat} {b : List Bool} {i : Nat} {x : Bool} (e : b[i]? = some x) : lastOf d (b.take (i + 1)) = turn (lastOf d (b.take i)) x := by
  rw [List.take_add_one, e]; simp [lastOf]
def Ed.side (e : Ed) : Nat := (lastOf e.d e.b + 2) % 4
theorem Ed.side_lt (e : Ed) : e.side < 4 := Nat.mod_lt _ (by decide)
structure Ed.Ok (n : Nat) (e : Ed) : Prop where
  f : e.f < n
  t : e.t < n
  d : e.d < 4
  b : e.b.length < 4
def enc1 (x : Int) : List Value := [.int .i64 x]
def encN (x : Nat) : List Value := [.int .i64 x]
def encB (x : Bool) : List Value := [.bool x]
/-- An edge's ends on a side of a vertex. -/
def endsOf (v d : Nat) (p : Ed × Nat) : List Nat := (if p.1.f = v ∧ p.1.d = d then [2 * p.2] else []) ++ (if p.1.t = v ∧ p.1.side = d then [2 * p.2 + 1] else [])
def on (es : List Ed) (v d : Nat) : List Nat := es.zipIdx.flatMap (endsOf v d)
theorem on_take {es : List Ed} {v d i : Nat} {e : Ed} (he : es[i]? = some e) : on (es.take (i + 1)) v d = on (es.take i) v d ++ endsOf v d (e, i) := by
  have hl : i < es.length := (List.getElem?_eq_some_iff.1 he).1
  rw [List.take_add_one, he]
  simp only [on, Option.toList_some, List.zipIdx_append, List.flatMap_append, List.length_take, Nat.min_eq_left (Nat.le_of_lt hl), Nat.zero_add, List.zipIdx_cons, List.zipIdx_nil, List.flatMap_cons, List.flatMap_nil, List.append_nil]
theorem endsOf_len (v d : Nat) (p : Ed × Nat) : (endsOf v d p).length ≤ 2 := by
  unfold endsOf
  rw [List.length_append]
  split <;> split <;> simp
theorem on_len : ∀ (es : List Ed) (v d : Nat), (on es v d).length ≤ 2 * es.length := by
  intro es v d
  have key : ∀ (l : List (Ed × Nat)), (l.flatMap (endsOf v d)).length ≤ 2 * l.length := by
    intro l
    induction l with
    | nil => simp
    | cons p l ih =>
      rw [List.flatMap_cons, List.length_append, List.length_cons]
      have := endsOf_len v d p
      omega
  have := key es.zipIdx
  rwa [List.length_zipIdx] at this
theorem bs_size (b : List Bool) : (bs b).size = b.length := by simp [bs, ByteArray.size]
theorem bs_get {b : List Bool} {i : Nat} {x : Bool} (e : b[i]? = some x) (hi : i < (bs b).size) : (bs b)[i]'hi = letter x := by
  have h2 : i < b.length := by rwa [bs_size] at hi
  have : b[i]'h2 = x := by
    rw [List.getElem?_eq_getElem h2] at e; exact Option.some.inj e
  show (bs b).data[i]'_ = _
  simp [bs, this]
theorem byteAt_bs {b : List Bool} {i : Nat} {x : Bool} (e : b[i]? = some x) : byteAt (bs b) (i : Int) = (letter x).toNat := by
  have hl : i < b.length := (List.getElem?_eq_some_iff.1 e).1
  have hi : (i : Int).toNat < (bs b).size := by rw [bs_size]; simpa using hl
  unfold byteAt
  rw [dif_pos hi]
  have := bs_get e (by rw [bs_size]; exact hl)
  simp only [Int.toNat_natCast] at *
  rw [this]
theorem decode_bs {b : List Bool} {i : Nat} {x : Bool} (e : b[i]? = some x) : Utf8.decode (bs b) i = ((letter x).toNat, 1) := by
  have hl : i < b.length := (List.getElem?_eq_some_iff.1 e).1
  have hi : i < (bs b).size := by rw [bs_size]; exact hl
  have hg : (bs b).get! i = letter x := by
    have := bs_get e hi
    rw [← this]
    have h3 : i < (bs b).data.size := hi
    show (bs b).data[i]! = (bs b).data[i]
    rw [getElem!_pos (bs b).data i h3]
  unfold Utf8.decode
  simp only [Nat.add_zero, hg]
  cases x <;> simp [letter]
theorem letter_L (x : Bool) : (((letter x).toNat : Int) == 76) = x := by cases x <;> decide
end Go.Shape
end

section
/-
  Roles put anew; literals in the heap.
-/
namespace Go.Mu
open Classical in
/-- One role's row is another. -/
noncomputable def put {ρ : Type} (M : ρ → Res) (r : ρ) (x : Res) : ρ → Res := fun i => if i = r then x else M i
theorem put_eq {ρ : Type} (M : ρ → Res) (r : ρ) (x : Res) : put M r x r = x := by simp [put]
theorem put_ne {ρ : Type} (M : ρ → Res) {r i : ρ} (x : Res) (hi : i ≠ r) : put M r x i = M i := by simp [put, hi]
theorem put_or {ρ : Type} (M : ρ → Res) (r : ρ) (x : Res) : ∀ i, i ≠ r → put M r x i = M i ∨ put M r x i = .no := fun _ hi => .inl (put_ne M x hi)
theorem put_put {ρ : Type} (M : ρ → Res) (r : ρ) (x y : Res) : put (put M r x) r y = put M r y := by
  funext i
  by_cases hi : i = r
  · subst hi; rw [put_eq, put_eq]
  · rw [put_ne _ _ hi, put_ne _ _ hi, put_ne _ _ hi]
theorem put_self {ρ : Type} (M : ρ → Res) (r : ρ) (x : Res) (e : M r = x) : put M r x = M := by
  funext i
  by_cases hi : i = r
  · subst hi; rw [put_eq, e]
  · rw [put_ne _ _ hi]
end Go.Mu
namespace Go.Proofs.YtimadnngfhbfiaaGreatDoor
open Go Go.Mu
variable {h h0 : H}
theorem le_new {h' : H} {b : Nat} {x : Blk} (hb : h b = none) (e : h' = h.set b x) : h.Le h' := by rw [e]; exact H.Le.put x hb
theorem lit_Rd {h' : H} {b e n size : Nat} {α : Type} {enc : α → List Value} {l : List α} (eh : h' = h.set b (.row ⟨l.flatMap enc, n, e, true, true⟩)) (hsz : ∀ x ∈ l, (enc x).length = size) : Rd h' ⟨some ⟨b, 0, none⟩, l.length, l.length⟩ size enc l := by
  refine ⟨rfl, hsz, fun _ => ⟨_, rfl, fun i x hi => ⟨hsz x (List.mem_of_getElem? hi), fun j v hj => ?_⟩⟩⟩
  rw [eh, Addr.add_n, Addr.add_n]
  simp only [H.rd, H.set_eq, Nat.zero_add]
  exact flatMap_at hsz hi hj
end Go.Proofs.YtimadnngfhbfiaaGreatDoor
end

section
/- PRINTED by wip/gen.py: what muntin/compass.Good does, in the words of Mu. -/
namespace Go.Proofs.YtimadnngfhbfiaaGreatDoor
open Go Go.Mu
/- muntin/compass.Good -/
def S48_j1 (K : Bool → H → Prop) (v2 : Bool) (h_1 : H) : Prop :=
  K v2 h_1
def S48 (p0 : Int) (h : H) (K : Bool → H → Prop) : Prop :=
  S48_j1 K ((decide (p0 ≥ 0)) && (decide (p0 ≤ 3))) h
end Go.Proofs.YtimadnngfhbfiaaGreatDoor
end

section
/- PRINTED by wip/gen.py: what muntin/compass.Left does, in the words of Mu. -/
namespace Go.Proofs.YtimadnngfhbfiaaGreatDoor
open Go Go.Mu
/- muntin/compass.Left -/
def S104 (p0 : Int) (p1 : Int) (h : H) (K : Int → H → Prop) : Prop :=
  S48 p0 h (fun (v6 : Bool) (h_1 : H) => (if (!v6) = true then K 0 h_1 else K (Int.tmod (IntKind.wrap .i64 ((IntKind.wrap .i64 (p0 + (Int.tmod p1 4))) + 4)) 4) h_1))
end Go.Proofs.YtimadnngfhbfiaaGreatDoor
end

section
/-
  Directions, and the list of a vertex's sides.
-/
namespace Go.Text
open Go Go.Mu Go.Shape
variable {h h0 h1 : H}
theorem appB {s : Sl} {e size bytes : Nat} {α : Type} {enc : α → List Value} {l : List α} (y : α) (st : St h0 h (fun _ : Unit => .arr s e size (l.flatMap enc))) (hsz : ∀ x, (enc x).length = size) (hp : 0 < size) (hl : l.length < 4000000) (hb : bytes ≤ 1000) {K : Sl → H → Prop}
    (k : ∀ s' h', St h0 h' (fun _ : Unit => .arr s' e size ((l ++ [y]).flatMap enc)) → K s' h') : app e size bytes s 1 (enc y) h K := by
  have hlen := (st.arr () rfl (fun x _ => hsz x) hp).1
  refine ⟨_, _, st.own () rfl, by simp only [maxLen]; omega, ?_, fun s' h' ap => ?_⟩
  · have : (s.l + 1) * bytes ≤ 4000001 * 1000 := Nat.mul_le_mul (by omega) hb
    omega
  · obtain ⟨st1, _⟩ := st.app () rfl rfl (by rw [hsz, Nat.one_mul]) ap (fun _ => .arr s' e size ((l ++ [y]).flatMap enc)) (by rw [List.flatMap_append]; simp) (fun i hi => (hi rfl).elim)
    exact k _ _ st1
theorem St.rd1 {s : Sl} {e size : Nat} {α : Type} {enc : α → List Value} {l : List α} (st : St h0 h (fun _ : Unit => .arr s e size (l.flatMap enc))) (hsz : ∀ x, (enc x).length = size) (hp : 0 < size) : Rd h s size enc l := st.arr () rfl (fun x _ => hsz x) hp
theorem Rd.nil {size : Nat} {α : Type} {enc : α → List Value} : Rd h Sl.nil size enc ([] : List α) := ⟨rfl, fun _ hx => (by cases hx), fun hp => absurd hp (Nat.lt_irrefl 0)⟩
end Go.Text
namespace Go.Proofs.YtimadnngfhbfiaaGreatDoor
open Go Go.Mu Go.Shape Go.Text
variable {h h0 : H}
theorem cases4 {d : Nat} (hd : d < 4) : d = 0 ∨ d = 1 ∨ d = 2 ∨ d = 3 := by omega
theorem c48 {d : Nat} (hd : d < 4) {K : Bool → H → Prop} (k : K true h) : S48 d h K := by
  unfold S48 S48_j1
  have h1 : decide ((d : Int) ≥ 0) = true := decide_eq_true (by omega)
  have h2 : decide ((d : Int) ≤ 3) = true := decide_eq_true (by omega)
  rw [h1, h2]; exact k
/-- A shape that may be written, as it lies in the heap. -/
theorem c104 {d e : Nat} {p : Int} (hd : d < 4) (he : Int.tmod (IntKind.wrap .i64 ((IntKind.wrap .i64 ((d : Int) + (Int.tmod p 4))) + 4)) 4 = (e : Int)) {K : Int → H → Prop} (k : K e h) : S104 d p h K := by
  unfold S104
  refine c48 hd ?_
  simp only [Bool.not_true, Bool.false_eq_true, if_false]
  rw [he]; exact k
theorem left1 {d : Nat} (hd : d < 4) : Int.tmod (IntKind.wrap .i64 ((IntKind.wrap .i64 ((d : Int) + (Int.tmod 1 4))) + 4)) 4 = (((d + 1) % 4 : Nat) : Int) := by
  rcases cases4 hd with rfl | rfl | rfl | rfl <;> rfl
theorem left3 {d : Nat} (hd : d < 4) : Int.tmod (IntKind.wrap .i64 ((IntKind.wrap .i64 ((d : Int) + (Int.tmod (-1) 4))) + 4)) 4 = (((d + 3) % 4 : Nat) : Int) := by
  rcases cases4 hd with rfl | rfl | rfl | rfl <;> rfl
theorem left2 {d : Nat} (hd : d < 4) : Int.tmod (IntKind.wrap .i64 ((IntKind.wrap .i64 ((d : Int) + (Int.tmod 2 4))) + 4)) 4 = (((d + 2) % 4 : Nat) : Int) := by
  rcases cases4 hd with rfl | rfl | rfl | rfl <;> rfl
end Go.Proofs.YtimadnngfhbfiaaGreatDoor
end

section
/- PRINTED by wip/gen.py: what muntin/parse.cutRight does, in the words of Mu. -/
namespace Go.Proofs.YtimadnngfhbfiaaGreatDoor
open Go Go.Mu
/- muntin/parse.cutRight -/
def S96_j1 (K : ByteArray → H → Prop) (v0 : ByteArray) (h_1 : H) : Prop :=
  K v0 h_1
def S96_l2 (K : ByteArray → H → Prop) (v0_1 : ByteArray) (h_2 : H) : Prop :=
  (if (decide ((ByteArray.size v0_1 : Int) > 0)) = true then False else S96_j1 K v0_1 h_2)
def S96 (p0 : ByteArray) (p1 : ByteArray) (h : H) (K : ByteArray → H → Prop) : Prop :=
  lfp (fun X s h_2 => S96_l2 K s h_2) p0 h
end Go.Proofs.YtimadnngfhbfiaaGreatDoor
end

section
/- PRINTED by wip/gen.py: what muntin/parse.cutLeft does, in the words of Mu. -/
namespace Go.Proofs.YtimadnngfhbfiaaGreatDoor
open Go Go.Mu
/- muntin/parse.cutLeft -/
def S97_j1 (K : ByteArray → H → Prop) (h_1 : H) : Prop :=
  K ⟨#[]⟩ h_1
def S97_l2 (p0 : ByteArray) (K : ByteArray → H → Prop) (c11_1 : Nat) (h_2 : H) : Prop :=
  (if c11_1 < ByteArray.size p0 then False else S97_j1 K h_2)
def S97 (p0 : ByteArray) (p1 : ByteArray) (h : H) (K : ByteArray → H → Prop) : Prop :=
  lfp (fun X s h_2 => S97_l2 p0 K s h_2) 0 h
end Go.Proofs.YtimadnngfhbfiaaGreatDoor
end

section
/- PRINTED by wip/gen.py: what muntin/parse.letters does, in the words of Mu. -/
namespace Go.Proofs.YtimadnngfhbfiaaGreatDoor
open Go Go.Mu
/- muntin/parse.letters -/
def S49 (p0 : ByteArray) (p1 : ByteArray) (h : H) (K : Bool → H → Prop) : Prop :=
  S97 p0 p1 h (fun (v7 : ByteArray) (h_1 : H) => S96 v7 p1 h_1 (fun (v9 : ByteArray) (h_2 : H) => K (ByteArray.toList v9 == ByteArray.toList ⟨#[]⟩) h_2))
end Go.Proofs.YtimadnngfhbfiaaGreatDoor
end

section
/- PRINTED by wip/gen.py: what muntin/parse.Check does, in the words of Mu. -/
namespace Go.Proofs.YtimadnngfhbfiaaGreatDoor
open Go Go.Mu
/- muntin/parse.Check -/
def S18_j1 (K : Int → H → Prop) (h_2 : H) : Prop :=
  K 0 h_2
def S18_j2 (v34 : Int) (X : Int → H → Prop) (v64 : Bool) (h_5 : H) : Prop :=
  (if v64 = true then False else X (IntKind.wrap .i64 (v34 + 1)) h_5)
def S18_j3 (v34 : Int) (X : Int → H → Prop) (v37_2 : Int) (v37_3 : ByteArray) (v54 : Bool) (h_4 : H) : Prop :=
  (if v54 = true then False else S48 v37_2 h_4 (fun (v57 : Bool) (h_6 : H) => (if (!v57) = true then S18_j2 v34 X true h_6 else S49 v37_3 ⟨#[76, 82]⟩ h_6 (fun (v62 : Bool) (h_7 : H) => S18_j2 v34 X (!v62) h_7))))
def S18_l4 (p0_0 : Sl) (p0_1 : Sl) (K : Int → H → Prop) (X : Int → H → Prop) (v34 : Int) (h_3 : H) : Prop :=
  (if (decide (v34 < (p0_1.l : Int))) = true then (∃ a36 : Addr, p0_1.a = some a36 ∧ 0 ≤ v34 ∧ v34 < (p0_1.l : Int) ∧ (∃ (v37_0 : Int) (v37_1 : Int) (v37_2 : Int) (v37_3 : ByteArray), H.rdn h_3 (Addr.add a36 (Int.toNat v34 * 4)) 4 [(.int .i64 v37_0), (.int .i64 v37_1), (.int .i64 v37_2), (.string v37_3)] ∧ S18_j3 v34 X v37_2 v37_3 ((decide ((if v37_1 < v37_0 then v37_1 else v37_0) < 0)) || (decide ((if v37_1 > v37_0 then v37_1 else v37_0) ≥ (p0_0.l : Int)))) h_3)) else S18_j1 K h_3)
def S18_j5 (p0_0 : Sl) (p0_1 : Sl) (K : Int → H → Prop) (v3 : Int) (h_1 : H) : Prop :=
  (if (decide ((if v3 > (if (p0_1.l : Int) > (p0_0.l : Int) then (p0_1.l : Int) else (p0_0.l : Int)) then v3 else (if (p0_1.l : Int) > (p0_0.l : Int) then (p0_1.l : Int) else (p0_0.l : Int))) > 4096)) = true then False else lfp (fun X s h_3 => S18_l4 p0_0 p0_1 K X s h_3) 0 h_1)
def S18_l6 (p0_0 : Sl) (p0_1 : Sl) (K : Int → H → Prop) (X_1 : (Int × Int) → H → Prop) (v3_1 : Int) (v11 : Int) (h_8 : H) : Prop :=
  (if (decide (v11 < (p0_1.l : Int))) = true then (∃ a13 : Addr, p0_1.a = some a13 ∧ 0 ≤ v11 ∧ v11 < (p0_1.l : Int) ∧ (∃ (v14_0 : Int) (v14_1 : Int) (v14_2 : Int) (v14_3 : ByteArray), H.rdn h_8 (Addr.add a13 (Int.toNat v11 * 4)) 4 [(.int .i64 v14_0), (.int .i64 v14_1), (.int .i64 v14_2), (.string v14_3)] ∧ X_1 ((IntKind.wrap .i64 (v3_1 + (if 4097 < (ByteArray.size v14_3 : Int) then 4097 else (ByteArray.size v14_3 : Int)))), (IntKind.wrap .i64 (v11 + 1))) h_8)) else S18_j5 p0_0 p0_1 K v3_1 h_8)
def S18 (p0_0 : Sl) (p0_1 : Sl) (h : H) (K : Int → H → Prop) : Prop :=
  lfp (fun X_1 s h_8 => S18_l6 p0_0 p0_1 K X_1 s.1 s.2 h_8) (0, 0) h
end Go.Proofs.YtimadnngfhbfiaaGreatDoor
end

section
/- PRINTED by wip/gen.py: what muntin/norm.turned does, in the words of Mu. -/
namespace Go.Proofs.YtimadnngfhbfiaaGreatDoor
open Go Go.Mu
/- muntin/norm.turned -/
def S118 (p0 : Int) (p1 : Int) (h : H) (K : Int → H → Prop) : Prop :=
  (if (p1 == 76) = true then S104 p0 1 h (fun (v8 : Int) (h_1 : H) => K v8 h_1) else S104 p0 (-1) h (fun (v10 : Int) (h_2 : H) => K v10 h_2))
end Go.Proofs.YtimadnngfhbfiaaGreatDoor
end

section
/- PRINTED by wip/gen.py: what muntin/norm.last does, in the words of Mu. -/
namespace Go.Proofs.YtimadnngfhbfiaaGreatDoor
open Go Go.Mu
/- muntin/norm.last -/
def S113_j1 (K : Int → H → Prop) (v3 : Int) (h_1 : H) : Prop :=
  K v3 h_1
def S113_l2 (p0_3 : ByteArray) (K : Int → H → Prop) (X : (Int × Nat) → H → Prop) (v3_1 : Int) (c10_1 : Nat) (h_2 : H) : Prop :=
  (if c10_1 < ByteArray.size p0_3 then S118 v3_1 ((Utf8.decode p0_3 c10_1).1 : Int) h_2 (fun (v16 : Int) (h_3 : H) => X (v16, (c10_1 + (Utf8.decode p0_3 c10_1).2)) h_3) else S113_j1 K v3_1 h_2)
def S113 (p0_0 : Int) (p0_1 : Int) (p0_2 : Int) (p0_3 : ByteArray) (h : H) (K : Int → H → Prop) : Prop :=
  lfp (fun X s h_2 => S113_l2 p0_3 K X s.1 s.2 h_2) (p0_2, 0) h
end Go.Proofs.YtimadnngfhbfiaaGreatDoor
end

section
/- PRINTED by wip/gen.py: what (*muntin/norm.maker).sort does, in the words of Mu. -/
namespace Go.Proofs.YtimadnngfhbfiaaGreatDoor
open Go Go.Mu
/- (*muntin/norm.maker).sort -/
def S69_l1 (p0 : Option Addr) (K : H → Prop) (v20 : Sl) (X : Int → H → Prop) (v22 : Int) (h_3 : H) : Prop :=
  (if (decide (v22 < (v20.l : Int))) = true then (∃ a25 : Addr, v20.a = some a25 ∧ 0 ≤ v22 ∧ v22 < (v20.l : Int) ∧ (∃ (v26_0 : Int) (v26_1 : Int) (v26_2 : Int) (v26_3 : ByteArray), H.rdn h_3 (Addr.add a25 (Int.toNat v22 * 4)) 4 [(.int .i64 v26_0), (.int .i64 v26_1), (.int .i64 v26_2), (.string v26_3)] ∧ (∃ a28 : Addr, p0 = some a28 ∧ (∃ (v30 : Sl), H.rd h_3 (Addr.add a28 3) = some (.slice v30.a v30.l v30.c) ∧ (∃ a35 : Addr, v30.a = some a35 ∧ 0 ≤ v26_0 ∧ v26_0 < (v30.l : Int) ∧ (0 ≤ v26_2 ∧ v26_2 < (4 : Int) ∧ (∃ a38 : Addr, p0 = some a38 ∧ (∃ (v40 : Sl), H.rd h_3 (Addr.add a38 3) = some (.slice v40.a v40.l v40.c) ∧ (∃ a46 : Addr, v40.a = some a46 ∧ 0 ≤ v26_1 ∧ v26_1 < (v40.l : Int) ∧ S113 v26_0 v26_1 v26_2 v26_3 h_3 (fun (v44 : Int) (h_4 : H) => H.rd h_4 (Addr.add a28 3) = some (.slice v30.a v30.l v30.c) ∧ H.rd h_4 (Addr.add a38 3) = some (.slice v40.a v40.l v40.c) ∧ S104 v44 2 h_4 (fun (v45 : Int) (h_5 : H) => H.rd h_5 (Addr.add a28 3) = some (.slice v30.a v30.l v30.c) ∧ H.rd h_5 (Addr.add a38 3) = some (.slice v40.a v40.l v40.c) ∧ (0 ≤ v45 ∧ v45 < (4 : Int) ∧ (∃ (v51 : Sl), H.rd h_5 (Addr.add (Addr.add a35 (Int.toNat v26_0 * 4)) (Int.toNat v26_2 * 1)) = some (.slice v51.a v51.l v51.c) ∧ app 170 2 16 v51 1 [(.int .i64 v22), (.int .i64 0)] h_5 (fun (v55 : Sl) (h_6 : H) => (∃ h_7 : H, H.wr h_6 (Addr.add (Addr.add a35 (Int.toNat v26_0 * 4)) (Int.toNat v26_2 * 1)) [(.slice v55.a v55.l v55.c)] h_7 ∧ (∃ (v60 : Sl), H.rd h_7 (Addr.add (Addr.add a46 (Int.toNat v26_1 * 4)) (Int.toNat v45 * 1)) = some (.slice v60.a v60.l v60.c) ∧ app 170 2 16 v60 1 [(.int .i64 v22), (.int .i64 1)] h_7 (fun (v64 : Sl) (h_8 : H) => (∃ h_9 : H, H.wr h_8 (Addr.add (Addr.add a46 (Int.toNat v26_1 * 4)) (Int.toNat v45 * 1)) [(.slice v64.a v64.l v64.c)] h_9 ∧ X (IntKind.wrap .i64 (v22 + 1)) h_9)))))))))))))))))) else K  h_3)
def S69 (p0 : Option Addr) (h : H) (K : H → Prop) : Prop :=
  (∃ a8 : Addr, p0 = some a8 ∧ (∃ (v11 : Sl), H.rd h a8 = some (.slice v11.a v11.l v11.c) ∧ ((0 : Int) ≤ (v11.l : Int) ∧ (v11.l : Int) ≤ (v11.l : Int) ∧ 96 * (v11.l : Int) ≤ (281474976710656 : Int) ∧ (v11.l : Int) ≤ 9223372036854775807 ∧ (∀ (b13 : Nat) (h_1 : H), h b13 = none → h_1 = H.set h b13 (.row ⟨zeros (.agg #[(.slice none 0 0), (.slice none 0 0), (.slice none 0 0), (.slice none 0 0)]) (Int.toNat (v11.l : Int) * 4), (zeros (.agg #[(.slice none 0 0), (.slice none 0 0), (.slice none 0 0), (.slice none 0 0)]) (Int.toNat (v11.l : Int) * 4)).length, 167, true, true⟩) → (∃ a14 : Addr, p0 = some a14 ∧ (∃ h_2 : H, H.wr h_1 (Addr.add a14 3) [(.slice (some ⟨b13, 0, none⟩) (Int.toNat (v11.l : Int)) (Int.toNat (v11.l : Int)))] h_2 ∧ (∃ a17 : Addr, p0 = some a17 ∧ (∃ (v20 : Sl), H.rd h_2 (Addr.add a17 1) = some (.slice v20.a v20.l v20.c) ∧ lfp (fun X s h_3 => S69_l1 p0 K v20 X s h_3) 0 h_2))))))))
end Go.Proofs.YtimadnngfhbfiaaGreatDoor
end

section
/- PRINTED by wip/gen.py: what (*muntin/norm.maker).count does, in the words of Mu. -/
namespace Go.Proofs.YtimadnngfhbfiaaGreatDoor
open Go Go.Mu
/- (*muntin/norm.maker).count -/
def S70_j1 (K : Int → H → Prop) (v3_1 : Int) (h_2 : H) : Prop :=
  K v3_1 h_2
def S70_l2 (K : Int → H → Prop) (v46 : Sl) (X : (Int × Int) → H → Prop) (v3_2 : Int) (v48 : Int) (h_3 : H) : Prop :=
  (if (decide (v48 < (v46.l : Int))) = true then (∃ a50 : Addr, v46.a = some a50 ∧ 0 ≤ v48 ∧ v48 < (v46.l : Int) ∧ (∃ (v51_0 : Int) (v51_1 : Int) (v51_2 : Int) (v51_3 : ByteArray), H.rdn h_3 (Addr.add a50 (Int.toNat v48 * 4)) 4 [(.int .i64 v51_0), (.int .i64 v51_1), (.int .i64 v51_2), (.string v51_3)] ∧ X ((IntKind.wrap .i64 (v3_2 + (ByteArray.size v51_3 : Int))), (IntKind.wrap .i64 (v48 + 1))) h_3)) else S70_j1 K v3_2 h_3)
def S70_j3 (p0 : Option Addr) (K : Int → H → Prop) (v3 : Int) (h_1 : H) : Prop :=
  (∃ a43 : Addr, p0 = some a43 ∧ (∃ (v46 : Sl), H.rd h_1 (Addr.add a43 1) = some (.slice v46.a v46.l v46.c) ∧ lfp (fun X s h_3 => S70_l2 K v46 X s.1 s.2 h_3) (v3, 0) h_1))
def S70_j4 (v16 : Int) (X_1 : (Int × Int) → H → Prop) (v3_4 : Int) (h_5 : H) : Prop :=
  X_1 (v3_4, (IntKind.wrap .i64 (v16 + 1))) h_5
def S70_l5 (v16 : Int) (X_1 : (Int × Int) → H → Prop) (v32_0 : Sl) (v32_1 : Sl) (v32_2 : Sl) (v32_3 : Sl) (X_2 : (Int × Int) → H → Prop) (v3_5 : Int) (v33 : Int) (h_6 : H) : Prop :=
  (if (decide (v33 < 4)) = true then (0 ≤ v33 ∧ v33 < (4 : Int) ∧ X_2 ((IntKind.wrap .i64 (v3_5 + (((sel ([v32_0, v32_1, v32_2, v32_3] : List Sl) v33).l) : Int))), (IntKind.wrap .i64 (v33 + 1))) h_6) else S70_j4 v16 X_1 v3_5 h_6)
def S70_l6 (p0 : Option Addr) (K : Int → H → Prop) (v14 : Sl) (X_1 : (Int × Int) → H → Prop) (v3_3 : Int) (v16 : Int) (h_4 : H) : Prop :=
  (if (decide (v16 < (v14.l : Int))) = true then (∃ a19 : Addr, v14.a = some a19 ∧ 0 ≤ v16 ∧ v16 < (v14.l : Int) ∧ (∃ (v20 : Bool), H.rd h_4 (Addr.add a19 (Int.toNat v16 * 1)) = some (.bool v20) ∧ (if v20 = true then (∃ a27 : Addr, p0 = some a27 ∧ (∃ (v29 : Sl), H.rd h_4 (Addr.add a27 3) = some (.slice v29.a v29.l v29.c) ∧ (∃ a31 : Addr, v29.a = some a31 ∧ 0 ≤ v16 ∧ v16 < (v29.l : Int) ∧ (∃ (v32_0 : Sl) (v32_1 : Sl) (v32_2 : Sl) (v32_3 : Sl), H.rdn h_4 (Addr.add a31 (Int.toNat v16 * 4)) 4 [(.slice v32_0.a v32_0.l v32_0.c), (.slice v32_1.a v32_1.l v32_1.c), (.slice v32_2.a v32_2.l v32_2.c), (.slice v32_3.a v32_3.l v32_3.c)] ∧ lfp (fun X_2 s h_6 => S70_l5 v16 X_1 v32_0 v32_1 v32_2 v32_3 X_2 s.1 s.2 h_6) ((IntKind.wrap .i64 ((IntKind.wrap .i64 (v3_3 + 1)) + 3)), 0) h_4)))) else S70_j4 v16 X_1 (IntKind.wrap .i64 (v3_3 + 1)) h_4))) else S70_j3 p0 K v3_3 h_4)
def S70 (p0 : Option Addr) (h : H) (K : Int → H → Prop) : Prop :=
  (∃ a11 : Addr, p0 = some a11 ∧ (∃ (v14 : Sl), H.rd h a11 = some (.slice v14.a v14.l v14.c) ∧ lfp (fun X_1 s h_4 => S70_l6 p0 K v14 X_1 s.1 s.2 h_4) (0, 0) h))
end Go.Proofs.YtimadnngfhbfiaaGreatDoor
end

section
/- PRINTED by wip/gen.py: what math/bits.Mul64 does, in the words of Mu. -/
namespace Go.Proofs.YtimadnngfhbfiaaGreatDoor
open Go Go.Mu
/- math/bits.Mul64 -/
def S108 (p0 : Int) (p1 : Int) (h : H) (K : Int → Int → H → Prop) : Prop :=
  K (IntKind.wrap .u64 ((IntKind.wrap .u64 ((IntKind.wrap .u64 ((Int.fdiv p0 (2 ^ (min (Int.toNat 32) (IntKind.bits .u64)))) * (Int.fdiv p1 (2 ^ (min (Int.toNat 32) (IntKind.bits .u64)))))) + (Int.fdiv (IntKind.wrap .u64 ((IntKind.wrap .u64 ((Int.fdiv p0 (2 ^ (min (Int.toNat 32) (IntKind.bits .u64)))) * (IntKind.wrap .u64 (((BitVec.ofInt (IntKind.bits .u64) p1 &&& BitVec.ofInt (IntKind.bits .u64) 4294967295).toNat : Nat) : Int)))) + (Int.fdiv (IntKind.wrap .u64 ((IntKind.wrap .u64 (((BitVec.ofInt (IntKind.bits .u64) p0 &&& BitVec.ofInt (IntKind.bits .u64) 4294967295).toNat : Nat) : Int)) * (IntKind.wrap .u64 (((BitVec.ofInt (IntKind.bits .u64) p1 &&& BitVec.ofInt (IntKind.bits .u64) 4294967295).toNat : Nat) : Int)))) (2 ^ (min (Int.toNat 32) (IntKind.bits .u64)))))) (2 ^ (min (Int.toNat 32) (IntKind.bits .u64)))))) + (Int.fdiv (IntKind.wrap .u64 ((IntKind.wrap .u64 (((BitVec.ofInt (IntKind.bits .u64) (IntKind.wrap .u64 ((IntKind.wrap .u64 ((Int.fdiv p0 (2 ^ (min (Int.toNat 32) (IntKind.bits .u64)))) * (IntKind.wrap .u64 (((BitVec.ofInt (IntKind.bits .u64) p1 &&& BitVec.ofInt (IntKind.bits .u64) 4294967295).toNat : Nat) : Int)))) + (Int.fdiv (IntKind.wrap .u64 ((IntKind.wrap .u64 (((BitVec.ofInt (IntKind.bits .u64) p0 &&& BitVec.ofInt (IntKind.bits .u64) 4294967295).toNat : Nat) : Int)) * (IntKind.wrap .u64 (((BitVec.ofInt (IntKind.bits .u64) p1 &&& BitVec.ofInt (IntKind.bits .u64) 4294967295).toNat : Nat) : Int)))) (2 ^ (min (Int.toNat 32) (IntKind.bits .u64)))))) &&& BitVec.ofInt (IntKind.bits .u64) 4294967295).toNat : Nat) : Int)) + (IntKind.wrap .u64 ((IntKind.wrap .u64 (((BitVec.ofInt (IntKind.bits .u64) p0 &&& BitVec.ofInt (IntKind.bits .u64) 4294967295).toNat : Nat) : Int)) * (Int.fdiv p1 (2 ^ (min (Int.toNat 32) (IntKind.bits .u64)))))))) (2 ^ (min (Int.toNat 32) (IntKind.bits .u64)))))) (IntKind.wrap .u64 (p0 * p1)) h
end Go.Proofs.YtimadnngfhbfiaaGreatDoor
end

section
/- PRINTED by wip/gen.py: what math/bits.Mul does, in the words of Mu. -/
namespace Go.Proofs.YtimadnngfhbfiaaGreatDoor
open Go Go.Mu
/- math/bits.Mul -/
def S61 (p0 : Int) (p1 : Int) (h : H) (K : Int → Int → H → Prop) : Prop :=
  S108 p0 p1 h (fun (v25_0 : Int) (v25_1 : Int) (h_1 : H) => K v25_0 v25_1 h_1)
end Go.Proofs.YtimadnngfhbfiaaGreatDoor
end

section
/- PRINTED by wip/gen.py: what slices.Repeat[[]muntin/api.Cell,muntin/api.Cell] does, in the words of Mu. -/
namespace Go.Proofs.YtimadnngfhbfiaaGreatDoor
open Go Go.Mu
/- slices.Repeat[[]muntin/api.Cell,muntin/api.Cell] -/
def S114_j1 (K : Sl → H → Prop) (v18_1 : Int) (b30 : Nat) (h_5 : H) : Prop :=
  K ⟨some ⟨b30, 0, none⟩, Int.toNat (IntKind.wrap .i64 v18_1), Int.toNat (IntKind.wrap .i64 v18_1)⟩ h_5
def S114_l2 (K : Sl → H → Prop) (v18_1 : Int) (b30 : Nat) (X : Int → H → Prop) (v8 : Int) (h_6 : H) : Prop :=
  (if (decide (v8 < ((Int.toNat (IntKind.wrap .i64 v18_1)) : Int))) = true then ((0 : Int) ≤ v8 ∧ v8 ≤ ((Int.toNat (IntKind.wrap .i64 v18_1)) : Int) ∧ ((Int.toNat (IntKind.wrap .i64 v18_1)) : Int) ≤ ((Int.toNat (IntKind.wrap .i64 v18_1)) : Int) ∧ (Int.toNat (IntKind.wrap .i64 v18_1)) ≤ (Int.toNat (IntKind.wrap .i64 v18_1)) ∧ ((0 : Int) ≤ 0 ∧ (0 : Int) ≤ v8 ∧ v8 ≤ ((Int.toNat (IntKind.wrap .i64 v18_1)) : Int) ∧ (Int.toNat (IntKind.wrap .i64 v18_1)) ≤ (Int.toNat (IntKind.wrap .i64 v18_1)) ∧ ((Nat.sub (Int.toNat ((Int.toNat (IntKind.wrap .i64 v18_1)) : Int)) (Int.toNat v8)) = 0 ∧ X (IntKind.wrap .i64 (v8 + 0)) h_6))) else S114_j1 K v18_1 b30 h_6)
def S114_j3 (K : Sl → H → Prop) (v18_1 : Int) (h_3 : H) : Prop :=
  ((0 : Int) ≤ (IntKind.wrap .i64 v18_1) ∧ (IntKind.wrap .i64 v18_1) ≤ (IntKind.wrap .i64 v18_1) ∧ 64 * (IntKind.wrap .i64 v18_1) ≤ (281474976710656 : Int) ∧ (IntKind.wrap .i64 v18_1) ≤ 9223372036854775807 ∧ (∀ (b30 : Nat) (h_4 : H), h_3 b30 = none → h_4 = H.set h_3 b30 (.row ⟨zeros (.agg #[(.int .i64 0), (.int .i64 0), (.int .i64 0), (.int .i64 0), (.int .i64 0), (.int .i64 0), (.int .i64 0), (.int .i64 0)]) (Int.toNat (IntKind.wrap .i64 v18_1) * 8), (zeros (.agg #[(.int .i64 0), (.int .i64 0), (.int .i64 0), (.int .i64 0), (.int .i64 0), (.int .i64 0), (.int .i64 0), (.int .i64 0)]) (Int.toNat (IntKind.wrap .i64 v18_1) * 8)).length, 174, true, true⟩) → (Int.toNat (IntKind.wrap .i64 v18_1) = 0 ∧ lfp (fun X s h_6 => S114_l2 K v18_1 b30 X s h_6) 0 h_4)))
def S114_j4 (K : Sl → H → Prop) (v18_1 : Int) (v26 : Bool) (h_7 : H) : Prop :=
  (if v26 = true then False else S114_j3 K v18_1 h_7)
def S114_j5 (p0 : Sl) (p1 : Int) (K : Sl → H → Prop) (h_1 : H) : Prop :=
  S61 (IntKind.wrap .u64 (p0.l : Int)) (IntKind.wrap .u64 p1) h_1 (fun (v18_0 : Int) (v18_1 : Int) (h_2 : H) => S114_j4 K v18_1 ((decide (v18_0 > 0)) || (decide (v18_1 > 9223372036854775807))) h_2)
def S114 (p0 : Sl) (p1 : Int) (h : H) (K : Sl → H → Prop) : Prop :=
  (if (decide (p1 < 0)) = true then False else S114_j5 p0 p1 K h)
end Go.Proofs.YtimadnngfhbfiaaGreatDoor
end

section
/- PRINTED by wip/gen.py: what muntin/grid.empty does, in the words of Mu. -/
namespace Go.Proofs.YtimadnngfhbfiaaGreatDoor
open Go Go.Mu
/- muntin/grid.empty -/
def S115  (h : H) (K : Int → Int → Int → Int → Int → Int → Int → Int → H → Prop) : Prop :=
  K (-1) (-1) (-1) (-1) 0 0 0 0 h
end Go.Proofs.YtimadnngfhbfiaaGreatDoor
end

section
/- PRINTED by wip/gen.py: what muntin/grid.New does, in the words of Mu. -/
namespace Go.Proofs.YtimadnngfhbfiaaGreatDoor
open Go Go.Mu
/- muntin/grid.New -/
def S71 (p0 : Int) (h : H) (K : Option Addr → Int → H → Prop) : Prop :=
  (if (decide (p0 < 0)) = true then K none 2 h else (if (decide (p0 > 4096)) = true then K none 6 h else S115  h (fun (v10_0 : Int) (v10_1 : Int) (v10_2 : Int) (v10_3 : Int) (v10_4 : Int) (v10_5 : Int) (v10_6 : Int) (v10_7 : Int) (h_1 : H) => (∀ (b11 : Nat) (h_2 : H), h_1 b11 = none → h_2 = H.set h_1 b11 (.row ⟨[(.int .i64 v10_0), (.int .i64 v10_1), (.int .i64 v10_2), (.int .i64 v10_3), (.int .i64 v10_4), (.int .i64 v10_5), (.int .i64 v10_6), (.int .i64 v10_7)], 8, 174, true, true⟩) → S114 ⟨some ⟨b11, 0, none⟩, 1, 1⟩ p0 h_2 (fun (v13 : Sl) (h_3 : H) => (∀ (b15 : Nat) (h_4 : H), h_3 b15 = none → h_4 = H.set h_3 b15 (.row ⟨[(.slice v13.a v13.l v13.c)], 1, 177, true, true⟩) → K (some ⟨b15, 0, none⟩) 0 h_4))))))
end Go.Proofs.YtimadnngfhbfiaaGreatDoor
end

section
/- PRINTED by wip/gen.py: what (*muntin/grid.Grid).Len does, in the words of Mu. -/
namespace Go.Proofs.YtimadnngfhbfiaaGreatDoor
open Go Go.Mu
/- (*muntin/grid.Grid).Len -/
def S72 (p0 : Option Addr) (h : H) (K : Int → H → Prop) : Prop :=
  (if (Option.isNone p0) = true then K 0 h else (∃ a6 : Addr, p0 = some a6 ∧ (∃ (v8 : Sl), H.rd h a6 = some (.slice v8.a v8.l v8.c) ∧ K (v8.l : Int) h)))
end Go.Proofs.YtimadnngfhbfiaaGreatDoor
end

section
/- BY HAND: norm's box: never called here. -/
namespace Go.Proofs.YtimadnngfhbfiaaGreatDoor
open Go Go.Mu
def S73 (_p0 : Option Addr) (_p1 : Int) (_h : H) (_K : H → Prop) : Prop := False
end Go.Proofs.YtimadnngfhbfiaaGreatDoor
end

section
/- PRINTED by wip/gen.py: what (*muntin/grid.Grid).Add does, in the words of Mu. -/
namespace Go.Proofs.YtimadnngfhbfiaaGreatDoor
open Go Go.Mu
/- (*muntin/grid.Grid).Add -/
def S145 (p0 : Option Addr) (h : H) (K : Int → Int → H → Prop) : Prop :=
  (if (Option.isNone p0) = true then K 0 1 h else S72 p0 h (fun (v9 : Int) (h_1 : H) => (if (v9 == 4096) = true then K 0 6 h_1 else (∃ a13 : Addr, p0 = some a13 ∧ (∃ (v15 : Sl), H.rd h_1 a13 = some (.slice v15.a v15.l v15.c) ∧ S115  h_1 (fun (v16_0 : Int) (v16_1 : Int) (v16_2 : Int) (v16_3 : Int) (v16_4 : Int) (v16_5 : Int) (v16_6 : Int) (v16_7 : Int) (h_2 : H) => H.rd h_2 a13 = some (.slice v15.a v15.l v15.c) ∧ app 174 8 64 v15 1 [(.int .i64 v16_0), (.int .i64 v16_1), (.int .i64 v16_2), (.int .i64 v16_3), (.int .i64 v16_4), (.int .i64 v16_5), (.int .i64 v16_6), (.int .i64 v16_7)] h_2 (fun (v18 : Sl) (h_3 : H) => (∃ a19 : Addr, p0 = some a19 ∧ (∃ h_4 : H, H.wr h_3 a19 [(.slice v18.a v18.l v18.c)] h_4 ∧ S72 p0 h_4 (fun (v22 : Int) (h_5 : H) => K (IntKind.wrap .i64 (v22 - 1)) 0 h_5))))))))))
end Go.Proofs.YtimadnngfhbfiaaGreatDoor
end

section
/- PRINTED by wip/gen.py: what (*muntin/norm.maker).add does, in the words of Mu. -/
namespace Go.Proofs.YtimadnngfhbfiaaGreatDoor
open Go Go.Mu
/- (*muntin/norm.maker).add -/
def S116 (p0 : Option Addr) (h : H) (K : Int → H → Prop) : Prop :=
  (∃ a7 : Addr, p0 = some a7 ∧ (∃ (v9 : Option Addr), H.rd h (Addr.add a7 2) = some (.pointer v9) ∧ S145 v9 h (fun (v10_0 : Int) (v10_1 : Int) (h_1 : H) => K v10_0 h_1)))
end Go.Proofs.YtimadnngfhbfiaaGreatDoor
end

section
/- PRINTED by wip/gen.py: what (*muntin/norm.maker).point does, in the words of Mu. -/
namespace Go.Proofs.YtimadnngfhbfiaaGreatDoor
open Go Go.Mu
/- (*muntin/norm.maker).point -/
def S74_j1 (K : Int → H → Prop) (h_2 : H) : Prop :=
  K 0 h_2
def S74_j2 (v19 : Int) (X : Int → H → Prop) (h_4 : H) : Prop :=
  X (IntKind.wrap .i64 (v19 + 1)) h_4
def S74_l3 (p0 : Option Addr) (v11 : Int) (v18_0 : Sl) (v18_1 : Sl) (v18_2 : Sl) (v18_3 : Sl) (v19 : Int) (X : Int → H → Prop) (X_1 : Int → H → Prop) (v27 : Int) (h_5 : H) : Prop :=
  (if (decide (v27 < (((sel ([v18_0, v18_1, v18_2, v18_3] : List Sl) v19).l) : Int))) = true then (∃ a29 : Addr, (sel ([v18_0, v18_1, v18_2, v18_3] : List Sl) v19).a = some a29 ∧ 0 ≤ v27 ∧ v27 < (((sel ([v18_0, v18_1, v18_2, v18_3] : List Sl) v19).l) : Int) ∧ (∃ (v30_0 : Int) (v30_1 : Int), H.rdn h_5 (Addr.add a29 (Int.toNat v27 * 2)) 2 [(.int .i64 v30_0), (.int .i64 v30_1)] ∧ (∃ a32 : Addr, p0 = some a32 ∧ (∃ (v34 : Sl), H.rd h_5 (Addr.add a32 4) = some (.slice v34.a v34.l v34.c) ∧ (∃ a40 : Addr, v34.a = some a40 ∧ 0 ≤ v30_0 ∧ v30_0 < (v34.l : Int) ∧ (0 ≤ v30_1 ∧ v30_1 < (2 : Int) ∧ (∃ h_6 : H, H.wr h_5 (Addr.add (Addr.add a40 (Int.toNat v30_0 * 2)) (Int.toNat v30_1 * 1)) [(.int .i64 v11)] h_6 ∧ X_1 (IntKind.wrap .i64 (v27 + 1)) h_6))))))) else S74_j2 v19 X h_5)
def S74_l4 (p0 : Option Addr) (K : Int → H → Prop) (v11 : Int) (v18_0 : Sl) (v18_1 : Sl) (v18_2 : Sl) (v18_3 : Sl) (X : Int → H → Prop) (v19 : Int) (h_3 : H) : Prop :=
  (if (decide (v19 < 4)) = true then (0 ≤ v19 ∧ v19 < (4 : Int) ∧ (if (decide ((((sel ([v18_0, v18_1, v18_2, v18_3] : List Sl) v19).l) : Int) > 1)) = true then K 8 h_3 else lfp (fun X_1 s h_5 => S74_l3 p0 v11 v18_0 v18_1 v18_2 v18_3 v19 X X_1 s h_5) 0 h_3)) else S74_j1 K h_3)
def S74 (p0 : Option Addr) (p1 : Int) (h : H) (K : Int → H → Prop) : Prop :=
  S116 p0 h (fun (v11 : Int) (h_1 : H) => (∃ a13 : Addr, p0 = some a13 ∧ (∃ (v15 : Sl), H.rd h_1 (Addr.add a13 3) = some (.slice v15.a v15.l v15.c) ∧ (∃ a17 : Addr, v15.a = some a17 ∧ 0 ≤ p1 ∧ p1 < (v15.l : Int) ∧ (∃ (v18_0 : Sl) (v18_1 : Sl) (v18_2 : Sl) (v18_3 : Sl), H.rdn h_1 (Addr.add a17 (Int.toNat p1 * 4)) 4 [(.slice v18_0.a v18_0.l v18_0.c), (.slice v18_1.a v18_1.l v18_1.c), (.slice v18_2.a v18_2.l v18_2.c), (.slice v18_3.a v18_3.l v18_3.c)] ∧ lfp (fun X s h_3 => S74_l4 p0 K v11 v18_0 v18_1 v18_2 v18_3 X s h_3) 0 h_1)))))
end Go.Proofs.YtimadnngfhbfiaaGreatDoor
end

section
/- PRINTED by wip/gen.py: what (*muntin/grid.Grid).is does, in the words of Mu. -/
namespace Go.Proofs.YtimadnngfhbfiaaGreatDoor
open Go Go.Mu
/- (*muntin/grid.Grid).is -/
def S146_j1 (K : Bool → H → Prop) (v6 : Bool) (h_1 : H) : Prop :=
  K v6 h_1
def S146 (p0 : Option Addr) (p1 : Int) (p2 : Int) (h : H) (K : Bool → H → Prop) : Prop :=
  (if (decide (p1 ≥ 0)) = true then S72 p0 h (fun (v12 : Int) (h_2 : H) => (if (decide (p1 < v12)) = true then S48 p2 h_2 (fun (v17 : Bool) (h_3 : H) => S146_j1 K v17 h_3) else S146_j1 K false h_2)) else S146_j1 K false h)
end Go.Proofs.YtimadnngfhbfiaaGreatDoor
end

section
/- PRINTED by wip/gen.py: what (*muntin/grid.Grid).lay does, in the words of Mu. -/
namespace Go.Proofs.YtimadnngfhbfiaaGreatDoor
open Go Go.Mu
/- (*muntin/grid.Grid).lay -/
def S147 (p0 : Option Addr) (p1 : Int) (p2 : Int) (p3 : Int) (p4 : Int) (h : H) (K : H → Prop) : Prop :=
  S104 p2 2 h (fun (v12 : Int) (h_1 : H) => (∃ a14 : Addr, p0 = some a14 ∧ (∃ (v16 : Sl), H.rd h_1 a14 = some (.slice v16.a v16.l v16.c) ∧ (∃ a20 : Addr, p0 = some a20 ∧ (∃ (v22 : Sl), H.rd h_1 a20 = some (.slice v22.a v22.l v22.c) ∧ (∃ a27 : Addr, v16.a = some a27 ∧ 0 ≤ p1 ∧ p1 < (v16.l : Int) ∧ (0 ≤ p2 ∧ p2 < (4 : Int) ∧ (∃ a30 : Addr, v22.a = some a30 ∧ 0 ≤ p1 ∧ p1 < (v22.l : Int) ∧ (∃ h_2 : H, H.wr h_1 (Addr.add (Addr.add a27 (Int.toNat p1 * 8)) (Int.toNat p2 * 1)) [(.int .i64 p3)] h_2 ∧ (0 ≤ p2 ∧ p2 < (4 : Int) ∧ (∃ h_3 : H, H.wr h_2 (Addr.add (Addr.add (Addr.add a30 (Int.toNat p1 * 8)) 4) (Int.toNat p2 * 1)) [(.int .i64 p4)] h_3 ∧ (∃ a34 : Addr, p0 = some a34 ∧ (∃ (v36 : Sl), H.rd h_3 a34 = some (.slice v36.a v36.l v36.c) ∧ (∃ a40 : Addr, p0 = some a40 ∧ (∃ (v42 : Sl), H.rd h_3 a40 = some (.slice v42.a v42.l v42.c) ∧ (∃ a47 : Addr, v36.a = some a47 ∧ 0 ≤ p3 ∧ p3 < (v36.l : Int) ∧ (0 ≤ v12 ∧ v12 < (4 : Int) ∧ (∃ a50 : Addr, v42.a = some a50 ∧ 0 ≤ p3 ∧ p3 < (v42.l : Int) ∧ (∃ h_4 : H, H.wr h_3 (Addr.add (Addr.add a47 (Int.toNat p3 * 8)) (Int.toNat v12 * 1)) [(.int .i64 p1)] h_4 ∧ (0 ≤ v12 ∧ v12 < (4 : Int) ∧ (∃ h_5 : H, H.wr h_4 (Addr.add (Addr.add (Addr.add a50 (Int.toNat p3 * 8)) 4) (Int.toNat v12 * 1)) [(.int .i64 p4)] h_5 ∧ K  h_5)))))))))))))))))))))
end Go.Proofs.YtimadnngfhbfiaaGreatDoor
end

section
/- PRINTED by wip/gen.py: what (*muntin/grid.Grid).Join does, in the words of Mu. -/
namespace Go.Proofs.YtimadnngfhbfiaaGreatDoor
open Go Go.Mu
/- (*muntin/grid.Grid).Join -/
def S117_j1 (p0 : Option Addr) (p1 : Int) (p2 : Int) (p3 : Int) (p4 : Int) (K : Int → H → Prop) (v36 : Bool) (h_2 : H) : Prop :=
  (if v36 = true then K 9 h_2 else S147 p0 p1 p2 p3 p4 h_2 (fun  (h_3 : H) => K 0 h_3))
def S117_j2 (p0 : Option Addr) (p1 : Int) (p2 : Int) (p3 : Int) (p4 : Int) (K : Int → H → Prop) (v14 : Bool) (h_1 : H) : Prop :=
  (if v14 = true then K 2 h_1 else (∃ a38 : Addr, p0 = some a38 ∧ (∃ (v40 : Sl), H.rd h_1 a38 = some (.slice v40.a v40.l v40.c) ∧ (∃ a43 : Addr, v40.a = some a43 ∧ 0 ≤ p1 ∧ p1 < (v40.l : Int) ∧ (0 ≤ p2 ∧ p2 < (4 : Int) ∧ (∃ (v46 : Int), H.rd h_1 (Addr.add (Addr.add a43 (Int.toNat p1 * 8)) (Int.toNat p2 * 1)) = some (.int .i64 v46) ∧ (if (v46 != (-1)) = true then S117_j1 p0 p1 p2 p3 p4 K true h_1 else (∃ a50 : Addr, p0 = some a50 ∧ (∃ (v52 : Sl), H.rd h_1 a50 = some (.slice v52.a v52.l v52.c) ∧ (∃ a56 : Addr, v52.a = some a56 ∧ 0 ≤ p3 ∧ p3 < (v52.l : Int) ∧ S104 p2 2 h_1 (fun (v55 : Int) (h_4 : H) => H.rd h_4 a50 = some (.slice v52.a v52.l v52.c) ∧ (0 ≤ v55 ∧ v55 < (4 : Int) ∧ (∃ (v59 : Int), H.rd h_4 (Addr.add (Addr.add a56 (Int.toNat p3 * 8)) (Int.toNat v55 * 1)) = some (.int .i64 v59) ∧ S117_j1 p0 p1 p2 p3 p4 K (v59 != (-1)) h_4)))))))))))))
def S117 (p0 : Option Addr) (p1 : Int) (p2 : Int) (p3 : Int) (p4 : Int) (h : H) (K : Int → H → Prop) : Prop :=
  (if (Option.isNone p0) = true then K 1 h else S146 p0 p1 p2 h (fun (v18 : Bool) (h_5 : H) => (if (!v18) = true then S117_j2 p0 p1 p2 p3 p4 K true h_5 else S146 p0 p3 p2 h_5 (fun (v24 : Bool) (h_6 : H) => (if (!v24) = true then S117_j2 p0 p1 p2 p3 p4 K true h_6 else (if (p1 == p3) = true then S117_j2 p0 p1 p2 p3 p4 K true h_6 else S117_j2 p0 p1 p2 p3 p4 K (decide (p4 < (-2))) h_6))))))
end Go.Proofs.YtimadnngfhbfiaaGreatDoor
end

section
/- PRINTED by wip/gen.py: what (*muntin/norm.maker).edge does, in the words of Mu. -/
namespace Go.Proofs.YtimadnngfhbfiaaGreatDoor
open Go Go.Mu
/- (*muntin/norm.maker).edge -/
def S75_j1 (p0 : Option Addr) (p1 : Int) (K : Int → H → Prop) (v6 : Int) (v7 : Int) (v8 : Sl) (h_2 : H) : Prop :=
  (∃ a59 : Addr, p0 = some a59 ∧ (∃ (v61 : Sl), H.rd h_2 (Addr.add a59 4) = some (.slice v61.a v61.l v61.c) ∧ (∃ a63 : Addr, v61.a = some a63 ∧ 0 ≤ p1 ∧ p1 < (v61.l : Int) ∧ (∃ (v65 : Int), H.rd h_2 (Addr.add (Addr.add a63 (Int.toNat p1 * 2)) 1) = some (.int .i64 v65) ∧ (if (v6 == v65) = true then K 10 h_2 else (∃ a68 : Addr, p0 = some a68 ∧ (∃ (v70 : Option Addr), H.rd h_2 (Addr.add a68 2) = some (.pointer v70) ∧ (∃ a74 : Addr, p0 = some a74 ∧ (∃ (v76 : Sl), H.rd h_2 (Addr.add a74 4) = some (.slice v76.a v76.l v76.c) ∧ (∃ a78 : Addr, v76.a = some a78 ∧ 0 ≤ p1 ∧ p1 < (v76.l : Int) ∧ (∃ (v80 : Int), H.rd h_2 (Addr.add (Addr.add a78 (Int.toNat p1 * 2)) 1) = some (.int .i64 v80) ∧ S117 v70 v6 v7 v80 p1 h_2 (fun (v82 : Int) (h_3 : H) => (∃ a85 : Addr, p0 = some a85 ∧ (∃ (v88 : Sl), H.rd h_3 (Addr.add (Addr.add a85 5) 2) = some (.slice v88.a v88.l v88.c) ∧ (∃ a91 : Addr, p0 = some a91 ∧ (∃ (v93 : Sl), H.rd h_3 (Addr.add a91 4) = some (.slice v93.a v93.l v93.c) ∧ (∃ a95 : Addr, v93.a = some a95 ∧ 0 ≤ p1 ∧ p1 < (v93.l : Int) ∧ (∃ (v97 : Int), H.rd h_3 (Addr.add (Addr.add a95 (Int.toNat p1 * 2)) 1) = some (.int .i64 v97) ∧ app 3 1 8 v8 1 [(.int .i64 v97)] h_3 (fun (v99 : Sl) (h_4 : H) => H.rd h_4 (Addr.add (Addr.add a85 5) 2) = some (.slice v88.a v88.l v88.c) ∧ app 69 1 24 v88 1 [(.slice v99.a v99.l v99.c)] h_4 (fun (v101 : Sl) (h_5 : H) => (∃ a102 : Addr, p0 = some a102 ∧ (∃ h_6 : H, H.wr h_5 (Addr.add (Addr.add a102 5) 2) [(.slice v101.a v101.l v101.c)] h_6 ∧ K 0 h_6))))))))))))))))))))))
def S75_l2 (p0 : Option Addr) (p1 : Int) (K : Int → H → Prop) (v19_3 : ByteArray) (X : (Int × Int × Sl × Nat) → H → Prop) (v6_1 : Int) (v7_1 : Int) (v8_1 : Sl) (c34_1 : Nat) (h_7 : H) : Prop :=
  (if c34_1 < ByteArray.size v19_3 then S116 p0 h_7 (fun (v39 : Int) (h_8 : H) => (∃ a41 : Addr, p0 = some a41 ∧ (∃ (v43 : Option Addr), H.rd h_8 (Addr.add a41 2) = some (.pointer v43) ∧ S117 v43 v6_1 v7_1 v39 p1 h_8 (fun (v48 : Int) (h_9 : H) => S118 v7_1 ((Utf8.decode v19_3 c34_1).1 : Int) h_9 (fun (v52 : Int) (h_10 : H) => app 3 1 8 v8_1 1 [(.int .i64 v39)] h_10 (fun (v56 : Sl) (h_11 : H) => X (v39, v52, v56, (c34_1 + (Utf8.decode v19_3 c34_1).2)) h_11)))))) else S75_j1 p0 p1 K v6_1 v7_1 v8_1 h_7)
def S75 (p0 : Option Addr) (p1 : Int) (h : H) (K : Int → H → Prop) : Prop :=
  (∃ a13 : Addr, p0 = some a13 ∧ (∃ (v16 : Sl), H.rd h (Addr.add a13 1) = some (.slice v16.a v16.l v16.c) ∧ (∃ a18 : Addr, v16.a = some a18 ∧ 0 ≤ p1 ∧ p1 < (v16.l : Int) ∧ (∃ (v19_0 : Int) (v19_1 : Int) (v19_2 : Int) (v19_3 : ByteArray), H.rdn h (Addr.add a18 (Int.toNat p1 * 4)) 4 [(.int .i64 v19_0), (.int .i64 v19_1), (.int .i64 v19_2), (.string v19_3)] ∧ (∃ a21 : Addr, p0 = some a21 ∧ (∃ (v23 : Sl), H.rd h (Addr.add a21 4) = some (.slice v23.a v23.l v23.c) ∧ (∃ a25 : Addr, v23.a = some a25 ∧ 0 ≤ p1 ∧ p1 < (v23.l : Int) ∧ (∃ (v27 : Int), H.rd h (Addr.add a25 (Int.toNat p1 * 2)) = some (.int .i64 v27) ∧ (∀ (b31 : Nat) (h_1 : H), h b31 = none → h_1 = H.set h b31 (.row ⟨[(.int .i64 v27)], 1, 3, true, true⟩) → lfp (fun X s h_7 => S75_l2 p0 p1 K v19_3 X s.1 s.2.1 s.2.2.1 s.2.2.2 h_7) (v27, v19_2, ⟨some ⟨b31, 0, none⟩, 1, 1⟩, 0) h_1)))))))))
end Go.Proofs.YtimadnngfhbfiaaGreatDoor
end

section
/- PRINTED by wip/gen.py: what slices.Clone[[]muntin/api.Cell,muntin/api.Cell] does, in the words of Mu. -/
namespace Go.Proofs.YtimadnngfhbfiaaGreatDoor
open Go Go.Mu
/- slices.Clone[[]muntin/api.Cell,muntin/api.Cell] -/
def S119 (p0 : Sl) (h : H) (K : Sl → H → Prop) : Prop :=
  (if (Option.isNone p0.a) = true then K Sl.nil h else (∀ (b5 : Nat) (h_1 : H), h b5 = none → h_1 = H.set h b5 (.row ⟨[], 0, 174, true, true⟩) → ((p0.a = none → p0.l = 0 → p0.c = 0) ∧ appS 174 8 64 ⟨some ⟨b5, 0, none⟩, 0, 0⟩ p0 h_1 (fun (v7 : Sl) (h_2 : H) => K v7 h_2))))
end Go.Proofs.YtimadnngfhbfiaaGreatDoor
end

section
/- PRINTED by wip/gen.py: what (*muntin/grid.Grid).Cells does, in the words of Mu. -/
namespace Go.Proofs.YtimadnngfhbfiaaGreatDoor
open Go Go.Mu
/- (*muntin/grid.Grid).Cells -/
def S76 (p0 : Option Addr) (h : H) (K : Sl → H → Prop) : Prop :=
  (if (Option.isNone p0) = true then K Sl.nil h else (∃ a6 : Addr, p0 = some a6 ∧ (∃ (v8 : Sl), H.rd h a6 = some (.slice v8.a v8.l v8.c) ∧ S119 v8 h (fun (v9 : Sl) (h_1 : H) => K v9 h_1))))
end Go.Proofs.YtimadnngfhbfiaaGreatDoor
end

section
/- PRINTED by wip/gen.py: what muntin/norm.Of does, in the words of Mu. -/
namespace Go.Proofs.YtimadnngfhbfiaaGreatDoor
open Go Go.Mu
/- muntin/norm.Of -/
def S29_j1 (K : Sl → Sl → Sl → Int → H → Prop) (b23 : Nat) (c2_0_1 : Sl) (c2_1_1 : Sl) (c2_2_1 : Sl) (h_9 : H) : Prop :=
  (∃ (v91 : Option Addr), H.rd h_9 ⟨b23, 2, none⟩ = some (.pointer v91) ∧ S76 v91 h_9 (fun (v92 : Sl) (h_10 : H) => (∃ h_11 : H, H.wr h_10 ⟨b23, 5, none⟩ [(.slice v92.a v92.l v92.c)] h_11 ∧ (∃ (v99_0 : Sl) (v99_1 : Sl) (v99_2 : Sl), H.rdn h_11 ⟨b23, 5, none⟩ 3 [(.slice v99_0.a v99_0.l v99_0.c), (.slice v99_1.a v99_1.l v99_1.c), (.slice v99_2.a v99_2.l v99_2.c)] ∧ K v99_0 v99_1 v99_2 0 h_11))))
def S29_l2 (p0_1 : Sl) (K : Sl → Sl → Sl → Int → H → Prop) (b23 : Nat) (X : (Int × Sl × Sl × Sl) → H → Prop) (v76 : Int) (c2_0_2 : Sl) (c2_1_2 : Sl) (c2_2_2 : Sl) (h_12 : H) : Prop :=
  (if (decide (v76 < (p0_1.l : Int))) = true then S75 (some ⟨b23, 0, none⟩) v76 h_12 (fun (v81 : Int) (h_13 : H) => (if (v81 != 0) = true then K Sl.nil Sl.nil Sl.nil v81 h_13 else X ((IntKind.wrap .i64 (v76 + 1)), c2_0_2, c2_1_2, c2_2_2) h_13)) else S29_j1 K b23 c2_0_2 c2_1_2 c2_2_2 h_12)
def S29_j3 (p0_1 : Sl) (K : Sl → Sl → Sl → Int → H → Prop) (b23 : Nat) (c2_0 : Sl) (c2_1 : Sl) (c2_2 : Sl) (h_8 : H) : Prop :=
  lfp (fun X s h_12 => S29_l2 p0_1 K b23 X s.1 s.2.1 s.2.2.1 s.2.2.2 h_12) (0, c2_0, c2_1, c2_2) h_8
def S29_j4 (v40 : Int) (X_1 : (Int × Sl × Sl × Sl) → H → Prop) (c2_0_4 : Sl) (c2_1_4 : Sl) (c2_2_4 : Sl) (h_15 : H) : Prop :=
  X_1 ((IntKind.wrap .i64 (v40 + 1)), c2_0_4, c2_1_4, c2_2_4) h_15
def S29_l5 (p0_0 : Sl) (p0_1 : Sl) (K : Sl → Sl → Sl → Int → H → Prop) (b23 : Nat) (X_1 : (Int × Sl × Sl × Sl) → H → Prop) (v40 : Int) (c2_0_3 : Sl) (c2_1_3 : Sl) (c2_2_3 : Sl) (h_14 : H) : Prop :=
  (if (decide (v40 < (p0_0.l : Int))) = true then (∃ a43 : Addr, p0_0.a = some a43 ∧ 0 ≤ v40 ∧ v40 < (p0_0.l : Int) ∧ (∃ (v44 : Bool), H.rd h_14 (Addr.add a43 (Int.toNat v40 * 1)) = some (.bool v44) ∧ (∃ (v50 : Sl), H.rd h_14 ⟨b23, 6, none⟩ = some (.slice v50.a v50.l v50.c) ∧ (∃ (v54 : Option Addr), H.rd h_14 ⟨b23, 2, none⟩ = some (.pointer v54) ∧ S72 v54 h_14 (fun (v55 : Int) (h_16 : H) => H.rd h_16 ⟨b23, 6, none⟩ = some (.slice v50.a v50.l v50.c) ∧ app 3 1 8 v50 1 [(.int .i64 v55)] h_16 (fun (v57 : Sl) (h_17 : H) => (∃ h_18 : H, H.wr h_17 ⟨b23, 6, none⟩ [(.slice v57.a v57.l v57.c)] h_18 ∧ (if v44 = true then S73 (some ⟨b23, 0, none⟩) v40 h_18 (fun  (h_19 : H) => S29_j4 v40 X_1 c2_0_3 c2_1_3 c2_2_3 h_19) else S74 (some ⟨b23, 0, none⟩) v40 h_18 (fun (v67 : Int) (h_20 : H) => (if (v67 != 0) = true then K Sl.nil Sl.nil Sl.nil v67 h_20 else S29_j4 v40 X_1 c2_0_3 c2_1_3 c2_2_3 h_20)))))))))) else S29_j3 p0_1 K b23 c2_0_3 c2_1_3 c2_2_3 h_14)
def S29 (p0_0 : Sl) (p0_1 : Sl) (h : H) (K : Sl → Sl → Sl → Int → H → Prop) : Prop :=
  S18 p0_0 p0_1 h (fun (v12 : Int) (h_1 : H) => (if (v12 != 0) = true then K Sl.nil Sl.nil Sl.nil v12 h_1 else ((0 : Int) ≤ (p0_1.l : Int) ∧ (p0_1.l : Int) ≤ (p0_1.l : Int) ∧ 16 * (p0_1.l : Int) ≤ (281474976710656 : Int) ∧ (p0_1.l : Int) ≤ 9223372036854775807 ∧ (∀ (b21 : Nat) (h_2 : H), h_1 b21 = none → h_2 = H.set h_1 b21 (.row ⟨zeros (.agg #[(.int .i64 0), (.int .i64 0)]) (Int.toNat (p0_1.l : Int) * 2), (zeros (.agg #[(.int .i64 0), (.int .i64 0)]) (Int.toNat (p0_1.l : Int) * 2)).length, 178, true, true⟩) → (∀ (b23 : Nat) (h_3 : H), h_2 b23 = none → h_3 = H.set h_2 b23 (.row ⟨[(.slice p0_0.a p0_0.l p0_0.c), (.slice p0_1.a p0_1.l p0_1.c), (.pointer none), (.slice none 0 0), (.slice (some ⟨b21, 0, none⟩) (Int.toNat (p0_1.l : Int)) (Int.toNat (p0_1.l : Int))), (.slice none 0 0), (.slice none 0 0), (.slice none 0 0)], 8, 135, true, true⟩) → S69 (some ⟨b23, 0, none⟩) h_3 (fun  (h_4 : H) => S70 (some ⟨b23, 0, none⟩) h_4 (fun (v27 : Int) (h_5 : H) => (if (decide (v27 > 4096)) = true then K Sl.nil Sl.nil Sl.nil 6 h_5 else S71 0 h_5 (fun (v32_0 : Option Addr) (v32_1 : Int) (h_6 : H) => (∃ h_7 : H, H.wr h_6 ⟨b23, 2, none⟩ [(.pointer v32_0)] h_7 ∧ lfp (fun X_1 s h_14 => S29_l5 p0_0 p0_1 K b23 X_1 s.1 s.2.1 s.2.2.1 s.2.2.2 h_14) (0, Sl.nil, Sl.nil, Sl.nil) h_7))))))))))
end Go.Proofs.YtimadnngfhbfiaaGreatDoor
end

section
/-
  Cells, and the program's grid. (Turned to this seat from the other one's text.)
-/
namespace Go.Shape
open Go Go.Mu
structure Cell where
  n0 : Int
  n1 : Int
  n2 : Int
  n3 : Int
  o0 : Int
  o1 : Int
  o2 : Int
  o3 : Int
def Cell.enc (c : Cell) : List Value := [.int .i64 c.n0, .int .i64 c.n1, .int .i64 c.n2, .int .i64 c.n3, .int .i64 c.o0, .int .i64 c.o1, .int .i64 c.o2, .int .i64 c.o3]
def Cell.empty : Cell := ⟨-1, -1, -1, -1, 0, 0, 0, 0⟩
def Cell.zero : Cell := ⟨0, 0, 0, 0, 0, 0, 0, 0⟩
def Cell.next (c : Cell) : Nat → Int
  | 0 => c.n0
  | 1 => c.n1
  | 2 => c.n2
  | _ => c.n3
def Cell.own (c : Cell) : Nat → Int
  | 0 => c.o0
  | 1 => c.o1
  | 2 => c.o2
  | _ => c.o3
def Cell.lay (d : Nat) (w o : Int) (c : Cell) : Cell := match d with
  | 0 => { c with n0 := w, o0 := o }
  | 1 => { c with n1 := w, o1 := o }
  | 2 => { c with n2 := w, o2 := o }
  | _ => { c with n3 := w, o3 := o }
def opp (d : Nat) : Nat := (d + 2) % 4
theorem opp_lt (d : Nat) : opp d < 4 := Nat.mod_lt _ (by decide)
def free (cs : List Cell) (v d : Nat) : Bool := match cs[v]? with
  | some c => c.next d == -1
  | none => false
def laid (cs : List Cell) (v d w : Nat) (o : Int) : List Cell := (cs.modify v (Cell.lay d w o)).modify w (Cell.lay (opp d) v o)
def join (cs : List Cell) (v d w : Nat) (o : Int) : List Cell := if v ≠ w ∧ free cs v d = true ∧ free cs w (opp d) = true then laid cs v d w o else cs
theorem laid_len (cs : List Cell) (v d w : Nat) (o : Int) : (laid cs v d w o).length = cs.length := by simp [laid]
theorem join_len (cs : List Cell) (v d w : Nat) (o : Int) : (join cs v d w o).length = cs.length := by unfold join; split <;> simp [laid_len]
theorem Cell.enc_len (c : Cell) : c.enc.length = 8 := rfl
theorem enc8 (cs : List Cell) : ∀ c ∈ cs, c.enc.length = 8 := fun _ _ => rfl
theorem free_of {cs : List Cell} {v d : Nat} {c : Cell} (e : cs[v]? = some c) : free cs v d = (c.next d == -1) := by simp [free, e]
theorem free_lt {cs : List Cell} {v d : Nat} (e : free cs v d = true) : v < cs.length := by
  unfold free at e
  split at e
  · rename_i c hc; exact (List.getElem?_eq_some_iff.1 hc).1
  · cases e
theorem Cell.enc_next (c : Cell) {d : Nat} (hd : d < 4) : c.enc[d]? = some (.int .i64 (c.next d)) := by
  have : d = 0 ∨ d = 1 ∨ d = 2 ∨ d = 3 := by omega
  rcases this with rfl | rfl | rfl | rfl <;> rfl
end Go.Shape

namespace Go.Mu
theorem setL_append1 (a b : List Value) {i j : Nat} (v : Value) (hi : i = a.length + j) : setL (a ++ b) i [v] = a ++ setL b j [v] := by
  subst hi
  simp only [setL]
  rw [List.set_append_right _ _ (by omega)]
  simp
theorem setL_head1 (a b : List Value) {i : Nat} (v : Value) (hi : i < a.length) : setL (a ++ b) i [v] = setL a i [v] ++ b := by
  simp only [setL]
  rw [List.set_append_left _ _ hi]
/-- A cell of an element is written. -/
theorem setL_flatMap {α : Type} {enc : α → List Value} {size : Nat} {y : α} {j : Nat} {v : Value} (hj : j < size) : ∀ {l : List α} {i : Nat} {x : α}, (∀ x ∈ l, (enc x).length = size) → l[i]? = some x → setL (enc x) j [v] = enc y →
    setL (l.flatMap enc) (i * size + j) [v] = (l.set i y).flatMap enc
  | [], i, x, _, e, _ => by simp at e
  | z :: l, 0, x, hh, e, ev => by
    simp only [List.getElem?_cons_zero, Option.some.injEq] at e; subst e
    rw [List.flatMap_cons, Nat.zero_mul, Nat.zero_add, setL_head1 _ _ _ (by rw [hh z (by simp)]; exact hj), ev]; rfl
  | z :: l, i + 1, x, hh, e, ev => by
    rw [List.flatMap_cons, setL_append1 (j := i * size + j) _ _ _ (by rw [hh z (by simp), Nat.add_mul]; omega), setL_flatMap hj (fun q hq => hh q (List.mem_cons_of_mem _ hq)) (by simpa using e) ev]
    rfl
theorem zeros_agg {xs : List Value} {size m : Nat} (hx : xs.length = size) (hs : 0 < size) : zeros (.agg xs.toArray) (m * size) = (List.replicate m ()).flatMap fun _ => xs := by
  have hc : (Value.agg xs.toArray).cells.toList = xs := by simp [Value.cells]
  apply List.ext_getElem?
  intro i
  simp only [zeros, hc, hx]
  by_cases hi : i < m * size
  · have h1 : i / size < m := (Nat.div_lt_iff_lt_mul hs).2 hi
    have h2 : i % size < size := Nat.mod_lt _ hs
    have e2 : xs[i % size]? = some (xs.getD (i % size) default) := by
      rw [List.getD_eq_getElem?_getD, List.getElem?_eq_getElem (by omega)]; rfl
    have := flatMap_at (enc := fun _ : Unit => xs) (l := List.replicate m ()) (i := i / size) (j := i % size) (x := ()) (fun _ _ => hx) (by simp [h1]) e2
    rw [show i / size * size + i % size = i from Nat.div_add_mod' i size] at this
    rw [this]
    simp [hi]
  · rw [List.getElem?_eq_none (by simpa using Nat.le_of_not_lt hi), List.getElem?_eq_none]
    rw [flatMap_len (size := size) (fun _ _ => hx)]; simpa using Nat.le_of_not_lt hi
theorem zeros_len {xs : List Value} {size m : Nat} (hx : xs.length = size) (hs : 0 < size) : (zeros (.agg xs.toArray) (m * size)).length = m * size := by
  simp [zeros]
end Go.Mu

namespace Go.Proofs.YtimadnngfhbfiaaGreatDoor
open Go Go.Mu Go.Shape
variable {h h0 : H}

/- ---------------------------------------------------------------- the reference's cells -/
theorem lay_sel {d : Nat} (hd : d < 4) (w o : Int) (c : Cell) : (⟨sel (upd ([c.n0, c.n1, c.n2, c.n3] : List Int) d w) 0, sel (upd ([c.n0, c.n1, c.n2, c.n3] : List Int) d w) 1, sel (upd ([c.n0, c.n1, c.n2, c.n3] : List Int) d w) 2, sel (upd ([c.n0, c.n1, c.n2, c.n3] : List Int) d w) 3,
    sel (upd ([c.o0, c.o1, c.o2, c.o3] : List Int) d o) 0, sel (upd ([c.o0, c.o1, c.o2, c.o3] : List Int) d o) 1, sel (upd ([c.o0, c.o1, c.o2, c.o3] : List Int) d o) 2, sel (upd ([c.o0, c.o1, c.o2, c.o3] : List Int) d o) 3⟩ : Cell) = c.lay d w o := by
  rcases cases4 hd with rfl | rfl | rfl | rfl <;> rfl
end Go.Proofs.YtimadnngfhbfiaaGreatDoor
namespace Go.Proofs.YtimadnngfhbfiaaGreatDoor
open Go Go.Mu Go.Shape
variable {h h0 : H} {ρ : Type} {M : ρ → Res}

/-- The first k sides of a new cell are set. -/
def part : Nat → Cell
  | 0 => ⟨0, 0, 0, 0, 0, 0, 0, 0⟩
  | 1 => ⟨-1, 0, 0, 0, 0, 0, 0, 0⟩
  | 2 => ⟨-1, -1, 0, 0, 0, 0, 0, 0⟩
  | 3 => ⟨-1, -1, -1, 0, 0, 0, 0, 0⟩
  | _ => ⟨-1, -1, -1, -1, 0, 0, 0, 0⟩
def fresh (n i k : Nat) : List Cell := (List.range n).map fun j => if j < i then Cell.empty else if j = i then part k else Cell.zero
theorem fresh_at {n i k : Nat} (hi : i < n) : (fresh n i k)[i]? = some (part k) := by simp [fresh, hi]
theorem fresh_set {n i k : Nat} (hi : i < n) : (fresh n i k).set i (part (k + 1)) = fresh n i (k + 1) := by
  apply List.ext_getElem?
  intro j
  rw [List.getElem?_set]
  by_cases hj : i = j
  · subst hj
    rw [if_pos rfl, if_pos (by simpa [fresh] using hi), fresh_at hi]
  · rw [if_neg hj]
    by_cases hjn : j < n
    · simp [fresh, hjn, Ne.symm hj]
    · simp [fresh, hjn]
theorem fresh_next {n i : Nat} : fresh n i 4 = fresh n (i + 1) 0 := by
  unfold fresh
  refine List.map_congr_left fun j _ => ?_
  by_cases h1 : j < i
  · rw [if_pos h1, if_pos (by omega)]
  · by_cases h2 : j = i
    · rw [if_neg h1, if_pos h2, if_pos (by omega)]; rfl
    · rw [if_neg h1, if_neg h2, if_neg (by omega)]
      by_cases h3 : j = i + 1
      · rw [if_pos h3]; rfl
      · rw [if_neg h3]
theorem fresh_zero {n : Nat} : fresh n 0 0 = List.replicate n Cell.zero := by
  unfold fresh
  rw [List.eq_replicate_iff]
  refine ⟨by simp, fun c hc => ?_⟩
  obtain ⟨j, _, rfl⟩ := List.mem_map.1 hc
  by_cases h2 : j = 0
  · subst h2; rfl
  · rw [if_neg (by omega), if_neg h2]
theorem fresh_done {n : Nat} : fresh n n 0 = List.replicate n Cell.empty := by
  unfold fresh
  rw [List.eq_replicate_iff]
  refine ⟨by simp, fun c hc => ?_⟩
  obtain ⟨j, hj, rfl⟩ := List.mem_map.1 hc
  rw [if_pos (by simpa using hj)]
theorem fresh_len (n i k : Nat) : (fresh n i k).length = n := by simp [fresh]
theorem part_set {k : Nat} (hk : k < 4) : setL (part k).enc k [.int .i64 (-1)] = (part (k + 1)).enc := by
  rcases cases4 hk with rfl | rfl | rfl | rfl <;> rfl

theorem oneCell_enc (cs : List Cell) : ∀ u ∈ cs.flatMap Cell.enc, u.oneCell' = true := by
  intro u hu
  obtain ⟨c, _, hc⟩ := List.mem_flatMap.1 hu
  simp only [Cell.enc, List.mem_cons, List.not_mem_nil, or_false] at hc
  rcases hc with rfl | rfl | rfl | rfl | rfl | rfl | rfl | rfl <;> rfl
theorem zeros8 (n : Nat) : zeros (.agg #[(.int .i64 0), (.int .i64 0), (.int .i64 0), (.int .i64 0), (.int .i64 0), (.int .i64 0), (.int .i64 0), (.int .i64 0)]) (n * 8) = (List.replicate n Cell.zero).flatMap Cell.enc := by
  have := zeros_agg (xs := Cell.zero.enc) (size := 8) (m := n) rfl (by decide)
  rw [show Cell.zero.enc.toArray = #[(.int .i64 0), (.int .i64 0), (.int .i64 0), (.int .i64 0), (.int .i64 0), (.int .i64 0), (.int .i64 0), (.int .i64 0)] from rfl] at this
  rw [this]
  clear this
  induction n with
  | zero => rfl
  | succ n ih => rw [List.replicate_succ, List.replicate_succ, List.flatMap_cons, List.flatMap_cons, ih]
theorem rep_len (n : Nat) (c : Cell) : ((List.replicate n c).flatMap Cell.enc).length = n * 8 := by rw [flatMap_len (size := 8) (enc8 _)]; simp
abbrev gridRow (s : Sl) : Blk := .row ⟨[s.v], 1, 177, true, true⟩
/-- A grid by its roles. -/
structure Grd (M : ρ → Res) (rg rc : ρ) (bg : Nat) (s : Sl) (cs : List Cell) : Prop where
  g : M rg = .blk bg (gridRow s)
  c : M rc = .arr s 174 8 (cs.flatMap Cell.enc)
theorem Grd.rd {rg rc : ρ} {bg : Nat} {s : Sl} {cs : List Cell} (g : Grd M rg rc bg s cs) (st : St h0 h M) : h.rd ⟨bg, 0, none⟩ = some (.slice s.a s.l s.c) := st.rd rg g.g rfl
theorem Grd.len {rg rc : ρ} {bg : Nat} {s : Sl} {cs : List Cell} (g : Grd M rg rc bg s cs) (st : St h0 h M) : s.l = cs.length := (st.arr rc g.c (enc8 cs) (by decide)).1
theorem c72 {rg rc : ρ} {bg : Nat} {s : Sl} {cs : List Cell} (g : Grd M rg rc bg s cs) (st : St h0 h M) {K : Int → H → Prop} (k : K (cs.length : Nat) h) : S72 (some ⟨bg, 0, none⟩) h K := by
  unfold S72
  rw [if_neg (by simp)]
  exact ⟨_, rfl, s, g.rd st, by rw [g.len st]; exact k⟩
theorem c146 {rg rc : ρ} {bg : Nat} {s : Sl} {cs : List Cell} {v d : Nat} (g : Grd M rg rc bg s cs) (st : St h0 h M) (hv : v < cs.length) (hd : d < 4) {K : Bool → H → Prop} (k : K true h) : S146 (some ⟨bg, 0, none⟩) v d h K := by
  unfold S146 S146_j1
  rw [if_pos (by simp)]
  refine c72 g st ?_
  rw [if_pos (by simp only [decide_eq_true_eq]; omega)]
  exact c48 hd k
theorem c96' {rg rc : ρ} {bg : Nat} {s : Sl} {cs : List Cell} {v d : Nat} (g : Grd M rg rc bg s cs) (st : St h0 h M) (hv : ¬ v < cs.length) {K : Bool → H → Prop} (k : K false h) : S146 (some ⟨bg, 0, none⟩) v d h K := by
  unfold S146 S146_j1
  rw [if_pos (by simp)]
  refine c72 g st ?_
  rw [if_neg (by simp only [decide_eq_true_eq]; omega)]
  exact k
theorem c145 {rg rc : ρ} (hne : rg ≠ rc) {bg : Nat} {s : Sl} {cs : List Cell} (g : Grd M rg rc bg s cs) (st : St h0 h M) (hn : cs.length < 4096) {K : Int → Int → H → Prop}
    (k : ∀ s' h', St h0 h' (put (put M rc (.arr s' 174 8 ((cs ++ [Cell.empty]).flatMap Cell.enc))) rg (.blk bg (gridRow s'))) → K (cs.length : Nat) 0 h') : S145 (some ⟨bg, 0, none⟩) h K := by
  unfold S145
  rw [if_neg (by simp)]
  refine c72 g st ?_
  rw [if_neg (by simp only [beq_iff_eq]; omega)]
  refine ⟨_, rfl, s, g.rd st, ?_⟩
  unfold S115
  have hl := g.len st
  refine ⟨g.rd st, _, _, st.own rc g.c, by simp only [maxLen]; omega, by omega, fun s' h3 ap => ?_⟩
  obtain ⟨st2, sl⟩ := st.app rc g.c rfl rfl ap (put M rc (.arr s' 174 8 ((cs ++ [Cell.empty]).flatMap Cell.enc))) (by rw [put_eq, List.flatMap_append]; rfl) (put_or _ _ _)
  obtain ⟨h4, hw, st3⟩ := st2.wr (vs := [.slice s'.a s'.l s'.c]) (off := 0) rg (by rw [put_ne _ _ hne]; exact g.g) rfl (by simp) (put (put M rc (.arr s' 174 8 ((cs ++ [Cell.empty]).flatMap Cell.enc))) rg (.blk bg (gridRow s'))) (by rw [put_eq]; rfl) (put_or _ _ _)
  refine ⟨_, rfl, h4, hw, ?_⟩
  have g' : Grd (put (put M rc (.arr s' 174 8 ((cs ++ [Cell.empty]).flatMap Cell.enc))) rg (.blk bg (gridRow s'))) rg rc bg s' (cs ++ [Cell.empty]) := ⟨put_eq _ _ _, by rw [put_ne _ _ (Ne.symm hne), put_eq]⟩
  refine c72 g' st3 ?_
  have : IntKind.i64.wrap ((((cs ++ [Cell.empty]).length : Nat) : Int) - 1) = (cs.length : Nat) := wrapN (by simp) (by omega)
  rw [this]
  exact k s' h4 st3
theorem enc_own (c : Cell) {d : Nat} (hd : d < 4) : c.enc[4 + d]? = some (.int .i64 (c.own d)) := by
  rcases cases4 hd with rfl | rfl | rfl | rfl <;> rfl
def Cell.setN (d : Nat) (w : Int) (c : Cell) : Cell := match d with
  | 0 => { c with n0 := w }
  | 1 => { c with n1 := w }
  | 2 => { c with n2 := w }
  | _ => { c with n3 := w }
def Cell.setO (d : Nat) (w : Int) (c : Cell) : Cell := match d with
  | 0 => { c with o0 := w }
  | 1 => { c with o1 := w }
  | 2 => { c with o2 := w }
  | _ => { c with o3 := w }
theorem setN_enc (c : Cell) {d : Nat} (hd : d < 4) (w : Int) : setL c.enc d [.int .i64 w] = (Cell.setN d w c).enc := by
  rcases cases4 hd with rfl | rfl | rfl | rfl <;> rfl
theorem setO_enc (c : Cell) {d : Nat} (hd : d < 4) (w : Int) : setL c.enc (4 + d) [.int .i64 w] = (Cell.setO d w c).enc := by
  rcases cases4 hd with rfl | rfl | rfl | rfl <;> rfl
theorem setNO (c : Cell) (d : Nat) (hd : d < 4) (w o : Int) : Cell.setO d o (Cell.setN d w c) = c.lay d w o := by
  rcases cases4 hd with rfl | rfl | rfl | rfl <;> rfl
/-- Both halves of an edge's end are written. -/
theorem wr2 {rc : ρ} {s : Sl} {cs : List Cell} {v d : Nat} {w o : Int} {a : Addr} (st : St h0 h M) (hc : M rc = .arr s 174 8 (cs.flatMap Cell.enc)) (ha : s.a = some a) (hv : v < cs.length) (hd : d < 4) :
    ∃ h2 h3, H.wr h (a.add (v * 8 + d)) [.int .i64 w] h2 ∧ H.wr h2 (a.add (v * 8 + (4 + d))) [.int .i64 o] h3 ∧ St h0 h3 (put M rc (.arr s 174 8 ((cs.modify v (Cell.lay d w o)).flatMap Cell.enc))) := by
  obtain ⟨c, ec⟩ : ∃ x, cs[v]? = some x := ⟨_, List.getElem?_eq_getElem hv⟩
  have hl : ∀ (l : List Cell) (j : Nat) (x : Value), l.length = cs.length → j < 8 → v * 8 + j + ([x] : List Value).length ≤ (l.flatMap Cell.enc).length := fun l j x e hj => by
    rw [flatMap_len (size := 8) (enc8 _), e]; simp only [List.length_cons, List.length_nil]; omega
  obtain ⟨h2, w1, st1⟩ := st.wrArr (vs := [.int .i64 w]) rc hc ha (hl cs d _ rfl (by omega)) (put M rc (.arr s 174 8 ((cs.set v (Cell.setN d w c)).flatMap Cell.enc))) (by rw [put_eq, setL_flatMap (by omega) (enc8 _) ec (setN_enc c hd w)]) (put_or _ _ _)
  have ec2 : (cs.set v (Cell.setN d w c))[v]? = some (Cell.setN d w c) := by rw [List.getElem?_set_self hv]
  obtain ⟨h3, w2, st2⟩ := st1.wrArr (vs := [.int .i64 o]) rc (put_eq _ _ _) ha (hl _ (4 + d) _ (by simp) (by omega)) (put M rc (.arr s 174 8 ((cs.modify v (Cell.lay d w o)).flatMap Cell.enc))) (by
    rw [put_eq, setL_flatMap (by omega) (enc8 _) ec2 (setO_enc _ hd o), List.set_set, setNO _ _ hd]
    congr 2
    apply List.ext_getElem?
    intro j
    rw [List.getElem?_set, List.getElem?_modify]
    by_cases hj : v = j
    · subst hj; rw [if_pos rfl, if_pos hv, ec]; simp
    · rw [if_neg hj]; cases cs[j]? <;> simp [hj]) (fun i hi => by rw [put_ne _ _ hi, put_ne _ _ hi]; exact .inl rfl)
  exact ⟨h2, h3, w1, w2, st2⟩
theorem c147 {rg rc : ρ} (hne : rg ≠ rc) {bg : Nat} {s : Sl} {cs : List Cell} {v d w : Nat} {o : Int} (g : Grd M rg rc bg s cs) (st : St h0 h M) (hv : v < cs.length) (hw : w < cs.length) (hd : d < 4) {K : H → Prop}
    (k : ∀ h', St h0 h' (put M rc (.arr s 174 8 ((laid cs v d w o).flatMap Cell.enc))) → K h') : S147 (some ⟨bg, 0, none⟩) v d w o h K := by
  unfold S147
  refine c104 hd (left2 hd) ?_
  have hl := g.len st
  have hop := opp_lt d
  obtain ⟨c, ec⟩ : ∃ x, cs[v]? = some x := ⟨_, List.getElem?_eq_getElem hv⟩
  obtain ⟨a, ha, _⟩ := (st.arr rc g.c (enc8 cs) (by decide)).ix ec
  obtain ⟨h2, h3, w1, w2, st3⟩ := wr2 (w := w) (o := o) st g.c ha hv hd
  have hne' := Ne.symm hne
  have rd3 : h3.rd ⟨bg, 0, none⟩ = some (.slice s.a s.l s.c) := st3.rd rg (by rw [put_ne _ _ hne]; exact g.g) rfl
  obtain ⟨h4, h5, w3, w4, st5⟩ := wr2 (v := w) (d := opp d) (w := v) (o := o) st3 (put_eq _ _ _) ha (by simpa using hw) hop
  rw [put_put] at st5
  refine ⟨_, rfl, s, g.rd st, _, rfl, s, g.rd st, a, ha, by omega, by omega, by omega, by omega, a, ha, by omega, by omega, h2, ?_, by omega, by omega, h3, ?_, _, rfl, s, rd3, _, rfl, s, rd3, a, ha, by omega, by omega, by omega, by unfold opp at hop; omega, a, ha, by omega, by omega, h4, ?_, by omega, by unfold opp at hop; omega, h5, ?_, k h5 st5⟩
  · rw [Addr.add_add, Int.toNat_natCast, Int.toNat_natCast, Nat.mul_one]; exact w1
  · rw [Addr.add_add, Addr.add_add, Int.toNat_natCast, Int.toNat_natCast, Nat.mul_one]; exact w2
  · rw [Addr.add_add, Int.toNat_natCast, Int.toNat_natCast, Nat.mul_one]; exact w3
  · rw [Addr.add_add, Addr.add_add, Int.toNat_natCast, Int.toNat_natCast, Nat.mul_one]; exact w4
theorem c117 {rg rc : ρ} (hne : rg ≠ rc) {bg : Nat} {s : Sl} {cs : List Cell} {v d w : Nat} {o : Int} (g : Grd M rg rc bg s cs) (st : St h0 h M) (hd : d < 4) (ho : -2 ≤ o) {K : Int → H → Prop}
    (k : ∀ e h', St h0 h' (put M rc (.arr s 174 8 ((join cs v d w o).flatMap Cell.enc))) → K e h') : S117 (some ⟨bg, 0, none⟩) v d w o h K := by
  have hl := g.len st
  have same : ∀ e, ¬ (v ≠ w ∧ free cs v d = true ∧ free cs w (opp d) = true) → K e h := fun e hc => by
    refine k e h ?_
    unfold join
    rw [if_neg hc, put_self _ _ _ g.c]; exact st
  have hop := opp_lt d
  unfold S117
  rw [if_neg (by simp)]
  by_cases hv : v < cs.length
  case neg =>
    refine c96' g st hv ?_
    rw [if_pos (by decide)]
    unfold S117_j2
    rw [if_pos rfl]
    exact same 2 fun hc => hv (free_lt hc.2.1)
  refine c146 g st hv hd ?_
  rw [if_neg (by decide)]
  by_cases hw : w < cs.length
  case neg =>
    refine c96' g st hw ?_
    rw [if_pos (by decide)]
    unfold S117_j2
    rw [if_pos rfl]
    exact same 2 fun hc => hw (free_lt hc.2.2)
  refine c146 g st hw hd ?_
  rw [if_neg (by decide)]
  obtain ⟨cv, ev⟩ : ∃ x, cs[v]? = some x := ⟨_, List.getElem?_eq_getElem hv⟩
  obtain ⟨cw, ew⟩ : ∃ x, cs[w]? = some x := ⟨_, List.getElem?_eq_getElem hw⟩
  have hcs := st.arr rc g.c (enc8 cs) (by decide)
  obtain ⟨a, ha, rv⟩ := hcs.ix ev
  obtain ⟨a2, ha2, rw'⟩ := hcs.ix ew
  unfold S117_j2
  by_cases hvw : v = w
  · rw [if_pos (by simp [hvw]), if_pos rfl]; exact same 2 (by omega)
  · rw [if_neg (by simp; omega), if_neg (by simp only [decide_eq_true_eq]; omega)]
    refine ⟨_, rfl, s, g.rd st, a, ha, by omega, by omega, by omega, by omega, cv.next d, by rw [Nat.mul_one, Int.toNat_natCast, Int.toNat_natCast]; exact rv.at d (cv.enc_next hd), ?_⟩
    unfold S117_j1
    by_cases f1 : cv.next d = -1
    · rw [if_neg (by simp [f1])]
      refine ⟨_, rfl, s, g.rd st, a2, ha2, by omega, by omega, ?_⟩
      refine c104 hd (left2 hd) ?_
      refine ⟨g.rd st, by omega, by unfold opp at hop; omega, cw.next (opp d), by rw [Nat.mul_one, Int.toNat_natCast, Int.toNat_natCast]; exact rw'.at (opp d) (cw.enc_next hop), ?_⟩
      by_cases f2 : cw.next (opp d) = -1
      · rw [if_neg (by simp [f2])]
        refine c147 hne g st hv hw hd fun h' st' => k 0 h' ?_
        have hj : join cs v d w o = laid cs v d w o := by
          unfold join; rw [if_pos ⟨hvw, by rw [free_of ev]; simp [f1], by rw [free_of ew]; simp [f2]⟩]
        rw [hj]; exact st'
      · rw [if_pos (by simp [f2])]
        exact same 9 (by rw [free_of ew]; simp [f2])
    · rw [if_pos (by simp [f1]), if_pos rfl]
      exact same 9 (by rw [free_of ev]; simp [f1])
end Go.Proofs.YtimadnngfhbfiaaGreatDoor
end

section
/-
  The norm in plain words; ends that are read and written. (Turned to this seat from the other one's text.)
-/
namespace Go.Shape
open Go Go.Mu
def wayP : Nat → Nat
  | 0 => 1
  | 1 => 0
  | 2 => 1
  | _ => 0
def fromP (c : Nat) : Nat → Nat
  | 0 => c + 1
  | 1 => c + 3
  | _ => c
def toP (c : Nat) : Nat → Nat
  | 0 => c + 2
  | 1 => c + 2
  | 2 => c + 3
  | _ => c + 1
theorem wayP_lt (d : Nat) : wayP d < 4 := by unfold wayP; split <;> decide
def bEnd (way : Nat) (s : List Cell × List Nat × Nat) (k : Nat) : List Cell × List Nat × Nat := (join (s.1 ++ [Cell.empty]) s.2.2 way s.1.length (-1), s.2.1.set k s.1.length, s.1.length)
def bEnds (way : Nat) (s : List Cell × List Nat × Nat) (l : List Nat) : List Cell × List Nat × Nat := l.foldl (bEnd way) s
def bSide (es : List Ed) (v c : Nat) (s : List Cell × List Nat) (d : Nat) : List Cell × List Nat :=
  (join (bEnds (wayP d) (s.1, s.2, fromP c d) (on es v d)).1 (bEnds (wayP d) (s.1, s.2, fromP c d) (on es v d)).2.2 (wayP d) (toP c d) (-1), (bEnds (wayP d) (s.1, s.2, fromP c d) (on es v d)).2.1)
def bSides (es : List Ed) (v c : Nat) (s : List Cell × List Nat) (n : Nat) : List Cell × List Nat := (List.range n).foldl (bSide es v c) s
def box (es : List Ed) (v : Nat) (s : List Cell × List Nat) : List Cell × List Nat := bSides es v s.1.length (s.1 ++ List.replicate 4 Cell.empty, s.2) 4
def pEnds (c : Nat) (en l : List Nat) : List Nat := l.foldl (fun en k => en.set k c) en
def pSides (es : List Ed) (v c : Nat) (en : List Nat) (n : Nat) : List Nat := (List.range n).foldl (fun en d => pEnds c en (on es v d)) en
def point (es : List Ed) (v : Nat) (s : List Cell × List Nat) : List Cell × List Nat := (s.1 ++ [Cell.empty], pSides es v s.1.length s.2 4)
def vtx (bx : List Bool) (es : List Ed) (s : List Cell × List Nat) (v : Nat) : List Cell × List Nat := if bx.getD v false then box es v s else point es v s
def verts (bx : List Bool) (es : List Ed) (n : Nat) : List Cell × List Nat := (List.range n).foldl (vtx bx es) ([], List.replicate (2 * es.length) 0)
def firsts (bx : List Bool) (es : List Ed) (n : Nat) : List Nat := (List.range n).map fun v => (verts bx es v).1.length
def bend (i : Nat) (s : List Cell × Nat × Nat × List Nat) (b : Bool) : List Cell × Nat × Nat × List Nat := (join (s.1 ++ [Cell.empty]) s.2.1 s.2.2.1 s.1.length i, s.1.length, turn s.2.2.1 b, s.2.2.2 ++ [s.1.length])
def bends (i : Nat) (s : List Cell × Nat × Nat × List Nat) (b : List Bool) : List Cell × Nat × Nat × List Nat := b.foldl (bend i) s
def edge0 (en : List Nat) (e : Ed) (i : Nat) (cs : List Cell) : List Cell × Nat × Nat × List Nat := bends i (cs, en.getD (2 * i) 0, e.d, [en.getD (2 * i) 0]) e.b
def edge (en : List Nat) (s : List Cell × List (List Nat)) (p : Ed × Nat) : List Cell × List (List Nat) :=
  (join (edge0 en p.1 p.2 s.1).1 (edge0 en p.1 p.2 s.1).2.1 (edge0 en p.1 p.2 s.1).2.2.1 (en.getD (2 * p.2 + 1) 0) p.2, s.2 ++ [(edge0 en p.1 p.2 s.1).2.2.2 ++ [en.getD (2 * p.2 + 1) 0]])
def edges (en : List Nat) (cs : List Cell) (es : List Ed) : List Cell × List (List Nat) := es.zipIdx.foldl (edge en) (cs, [])

theorem range_foldl {α : Type} (f : α → Nat → α) (s : α) (n : Nat) : (List.range (n + 1)).foldl f s = f ((List.range n).foldl f s) n := by rw [List.range_succ, List.foldl_append]; rfl
theorem take_foldl {α β : Type} (f : α → β → α) (s : α) (l : List β) {i : Nat} {x : β} (e : l[i]? = some x) : (l.take (i + 1)).foldl f s = f ((l.take i).foldl f s) x := by
  rw [List.take_add_one, e, List.foldl_append]; rfl
theorem on_lt {es : List Ed} {v d k : Nat} (hk : k ∈ on es v d) : k < 2 * es.length := by
  obtain ⟨⟨e, i⟩, hp, hm⟩ := List.mem_flatMap.1 hk
  have hi : i < es.length := by
    have := List.mem_zipIdx hp
    omega
  unfold endsOf at hm
  rcases List.mem_append.1 hm with hm | hm
  · split at hm
    · simp only [List.mem_singleton] at hm; omega
    · cases hm
  · split at hm
    · simp only [List.mem_singleton] at hm; omega
    · cases hm
theorem bEnds_len (way : Nat) : ∀ (l : List Nat) (s : List Cell × List Nat × Nat), (bEnds way s l).1.length = s.1.length + l.length ∧ (bEnds way s l).2.1.length = s.2.1.length
  | [], s => ⟨rfl, rfl⟩
  | k :: l, s => by
    have := bEnds_len way l (bEnd way s k)
    refine ⟨this.1.trans ?_, this.2.trans ?_⟩
    · simp [bEnd, join_len]; omega
    · simp [bEnd]
theorem bSides_len (es : List Ed) (v c : Nat) (s : List Cell × List Nat) : ∀ n, (bSides es v c s n).1.length ≤ s.1.length + n * (2 * es.length) ∧ (bSides es v c s n).2.length = s.2.length
  | 0 => ⟨by simp [bSides], rfl⟩
  | n + 1 => by
    have ih := bSides_len es v c s n
    have hl := on_len es v n
    have e : bSides es v c s (n + 1) = bSide es v c (bSides es v c s n) n := range_foldl _ _ _
    rw [e]
    have k := bEnds_len (wayP n) (on es v n) ((bSides es v c s n).1, (bSides es v c s n).2, fromP c n)
    simp only [bSide, join_len]
    refine ⟨?_, k.2.trans ih.2⟩
    rw [k.1, Nat.add_mul]; simp only; omega
theorem pEnds_len (c : Nat) : ∀ (l en : List Nat), (pEnds c en l).length = en.length
  | [], _ => rfl
  | k :: l, en => (pEnds_len c l (en.set k c)).trans (by simp)
theorem pSides_len (es : List Ed) (v c : Nat) (en : List Nat) : ∀ n, (pSides es v c en n).length = en.length
  | 0 => rfl
  | n + 1 => by
    have e : pSides es v c en (n + 1) = pEnds c (pSides es v c en n) (on es v n) := range_foldl _ _ _
    rw [e, pEnds_len, pSides_len es v c en n]
theorem vtx_len (bx : List Bool) (es : List Ed) (s : List Cell × List Nat) (v : Nat) : (vtx bx es s v).1.length ≤ s.1.length + 4 + 8 * es.length ∧ (vtx bx es s v).2.length = s.2.length := by
  unfold vtx
  split
  · have := bSides_len es v s.1.length (s.1 ++ List.replicate 4 Cell.empty, s.2) 4
    simp only [List.length_append, List.length_replicate] at this
    exact ⟨by unfold box; omega, this.2⟩
  · exact ⟨by simp only [point, List.length_append, List.length_cons, List.length_nil]; omega, pSides_len _ _ _ _ _⟩
theorem verts_succ (bx : List Bool) (es : List Ed) (n : Nat) : verts bx es (n + 1) = vtx bx es (verts bx es n) n := range_foldl _ _ _
theorem verts_len (bx : List Bool) (es : List Ed) : ∀ n, (verts bx es n).1.length ≤ n * (4 + 8 * es.length) ∧ (verts bx es n).2.length = 2 * es.length
  | 0 => ⟨by simp [verts], by simp [verts]⟩
  | n + 1 => by
    have ih := verts_len bx es n
    have k := vtx_len bx es (verts bx es n) n
    rw [verts_succ]
    exact ⟨by rw [Nat.add_mul]; omega, by omega⟩
theorem bends_len (i : Nat) : ∀ (b : List Bool) (s : List Cell × Nat × Nat × List Nat), (bends i s b).1.length = s.1.length + b.length ∧ (bends i s b).2.2.2.length = s.2.2.2.length + b.length
  | [], s => ⟨rfl, rfl⟩
  | x :: b, s => by
    have := bends_len i b (bend i s x)
    refine ⟨this.1.trans ?_, this.2.trans ?_⟩
    · simp [bend, join_len]; omega
    · simp [bend]; omega
theorem bends_dir (i : Nat) : ∀ (b : List Bool) (s : List Cell × Nat × Nat × List Nat), (bends i s b).2.2.1 = lastOf s.2.2.1 b
  | [], _ => rfl
  | x :: b, s => bends_dir i b (bend i s x)
theorem edges_take {en : List Nat} {cs : List Cell} {es : List Ed} {i : Nat} {e : Ed} (he : es[i]? = some e) : edges en cs (es.take (i + 1)) = edge en (edges en cs (es.take i)) (e, i) := by
  have hl : i < es.length := (List.getElem?_eq_some_iff.1 he).1
  rw [List.take_add_one, he]
  simp only [edges, Option.toList_some, List.zipIdx_append, List.foldl_append, List.length_take, Nat.min_eq_left (Nat.le_of_lt hl), Nat.zero_add, List.zipIdx_cons, List.zipIdx_nil, List.foldl_cons, List.foldl_nil]
theorem edges_len {en : List Nat} {cs : List Cell} {es : List Ed} {n : Nat} (ok : ∀ e ∈ es, e.Ok n) : ∀ i, (edges en cs (es.take i)).1.length ≤ cs.length + 3 * i ∧ (edges en cs (es.take i)).2.length = min i es.length
  | 0 => ⟨by simp [edges], by simp [edges]⟩
  | i + 1 => by
    have ih := edges_len (en := en) (cs := cs) ok i
    by_cases hi : i < es.length
    · obtain ⟨e, he⟩ : ∃ x, es[i]? = some x := ⟨_, List.getElem?_eq_getElem hi⟩
      have hb := (ok e (List.mem_of_getElem? he)).b
      rw [edges_take he]
      have k := bends_len i e.b ((edges en cs (es.take i)).1, en.getD (2 * i) 0, e.d, [en.getD (2 * i) 0])
      simp only [edge, edge0, join_len, List.length_append, List.length_cons, List.length_nil]
      refine ⟨?_, by omega⟩
      rw [k.1]; simp only; omega
    · have h1 : es.take (i + 1) = es.take i := by rw [List.take_of_length_le (by omega), List.take_of_length_le (by omega)]
      rw [h1]
      exact ⟨by omega, by omega⟩
end Go.Shape
namespace Go.Proofs.YtimadnngfhbfiaaGreatDoor
open Go Go.Mu Go.Shape
variable {h h0 : H}
theorem St.with {ρ : Type} {M : ρ → Res} {h' : H} {x : Res} (st : St h0 h M) (st2 : St h h' (fun _ : Unit => x)) (r : ρ) : St h0 h' (put M r x) := by
  refine (st.plus st2).re _ (fun i => open Classical in if i = r then .inr () else .inl i) (fun i => ?_) (fun i j _ _ e => ?_)
  · by_cases hi : i = r
    · subst hi; rw [put_eq, if_pos rfl]; exact .inr rfl
    · rw [put_ne _ _ hi, if_neg hi]; exact .inr rfl
  · by_cases hi : i = r <;> by_cases hj : j = r
    · rw [hi, hj]
    · rw [if_pos hi, if_neg hj] at e; cases e
    · rw [if_neg hi, if_pos hj] at e; cases e
    · rw [if_neg hi, if_neg hj] at e; exact Sum.inl.inj e
theorem enc1N (l : List Nat) : ∀ x ∈ l, (encN x).length = 1 := fun _ _ => rfl
theorem wrEnd {ρ : Type} {M : ρ → Res} {r : ρ} {e : Sl} {en : List Nat} {k p : Nat} {ne : Nat} (st : St h0 h M) (hr : M r = .arr e 178 2 (en.flatMap encN)) (hk : k < en.length) (hl : en.length = 2 * ne) :
    e.l = ne ∧ ∃ a, e.a = some a ∧ ∃ h', H.wr h (a.add k) [.int .i64 (p : Int)] h' ∧ St h0 h' (put M r (.arr e 178 2 ((en.set k p).flatMap encN))) := by
  have o := st.own r hr
  have hlen : (en.flatMap encN).length = en.length := by rw [flatMap_len (size := 1) (enc1N en), Nat.mul_one]
  have h2 : e.l = ne := by have := o.1; omega
  refine ⟨h2, ?_⟩
  rcases o.2 with ⟨hv, hz⟩ | ⟨g, cap, hv, _⟩
  · omega
  · simp only [Value.slice.injEq] at hv
    refine ⟨_, hv.1, ?_⟩
    refine st.wrArr r hr hv.1 (by rw [hlen]; exact hk) _ ?_ (put_or _ _ _)
    have := setL_flatMap (enc := encN) (size := 1) (j := 0) (y := p) (v := .int .i64 (p : Int)) (by decide) (l := en) (i := k) (x := en[k]) (enc1N en) (List.getElem?_eq_getElem hk) rfl
    rw [Nat.mul_one, Nat.add_zero] at this
    rw [put_eq, this]
theorem rdEnd {ρ : Type} {M : ρ → Res} {r : ρ} {e : Sl} {en : List Nat} {k : Nat} {ne : Nat} (st : St h0 h M) (hr : M r = .arr e 178 2 (en.flatMap encN)) (hk : k < en.length) (hl : en.length = 2 * ne) :
    e.l = ne ∧ ∃ a, e.a = some a ∧ h.rd (a.add k) = some (.int .i64 ((en.getD k 0 : Nat) : Int)) := by
  have o := st.own r hr
  have hlen : (en.flatMap encN).length = en.length := by rw [flatMap_len (size := 1) (enc1N en), Nat.mul_one]
  have h2 : e.l = ne := by have := o.1; omega
  refine ⟨h2, ?_⟩
  rcases o.2 with ⟨hv, hz⟩ | ⟨g, cap, hv, hg, _⟩
  · omega
  · simp only [Value.slice.injEq] at hv
    refine ⟨_, hv.1, ?_⟩
    rw [Addr.add_n]
    simp only [H.rd, hg, Nat.zero_add]
    have := flatMap_at (enc := encN) (size := 1) (l := en) (i := k) (j := 0) (x := en[k]) (v := .int .i64 ((en[k] : Nat) : Int)) (enc1N en) (List.getElem?_eq_getElem hk) rfl
    rw [Nat.mul_one, Nat.add_zero] at this
    rw [this, List.getD_eq_getElem?_getD, List.getElem?_eq_getElem hk]; rfl
theorem div2 {k : Nat} (hk : k < 4611686018427387904) : IntKind.i64.wrap (Int.tdiv (k : Int) 2) = ((k / 2 : Nat) : Int) := wrapN rfl (by omega)
theorem mod2' (k : Nat) : Int.tmod (k : Int) 2 = ((k % 2 : Nat) : Int) := rfl
theorem lit_rd {b n e : Nat} {cells : List Value} {i : Nat} {v : Value} (hv : cells[i]? = some v) : (h.set b (.row ⟨cells, n, e, true, true⟩)).rd (Addr.add ⟨b, 0, none⟩ i) = some v := by
  rw [Addr.add_n]
  simp [H.rd, H.set_eq, hv]

theorem lit_rd' {h' : H} {b n e : Nat} {cells : List Value} {i : Nat} {v : Value} (eh : h' = h.set b (.row ⟨cells, n, e, true, true⟩)) (hv : cells[i]? = some v) : h'.rd (Addr.add ⟨b, 0, none⟩ i) = some v := by
  rw [eh]; exact lit_rd hv
theorem zeros2 (n : Nat) : zeros (.agg #[(.int .i64 0), (.int .i64 0)]) (n * 2) = (List.replicate (2 * n) 0).flatMap encN := by
  have := zeros_agg (xs := [(.int .i64 0), (.int .i64 0)]) (size := 2) (m := n) rfl (by decide)
  rw [show ([(.int .i64 0), (.int .i64 0)] : List Value).toArray = #[(.int .i64 0), (.int .i64 0)] from rfl] at this
  rw [this]
  clear this
  induction n with
  | zero => rfl
  | succ n ih => rw [List.replicate_succ, List.flatMap_cons, ih, show 2 * (n + 1) = 2 * n + 1 + 1 from by omega, List.replicate_succ, List.replicate_succ]; rfl

theorem firsts_succ (bx : List Bool) (es : List Ed) (n : Nat) : firsts bx es (n + 1) = firsts bx es n ++ [(verts bx es n).1.length] := by
  unfold firsts; rw [List.range_succ, List.map_append]; rfl

end Go.Proofs.YtimadnngfhbfiaaGreatDoor
end

section
/-
  The program's maker, by roles: its parts.
(Turned to this seat from the other one's text.)
-/
namespace Go.Proofs.YtimadnngfhbfiaaGreatDoor
open Go Go.Mu Go.Shape
variable {h h0 : H}
/-- A shape as it lies in the heap. -/
structure Shp (h : H) (p0 p1 : Sl) (bx : List Bool) (es : List Ed) : Prop where
  b : Rd h p0 1 encB bx
  e : Rd h p1 4 Ed.enc es
  lb : bx.length ≤ 4096
  le : es.length ≤ 16
  ok : ∀ e ∈ es, e.Ok bx.length
theorem Shp.mono {h' : H} {p0 p1 : Sl} {bx : List Bool} {es : List Ed} (s : Shp h p0 p1 bx es) (le : h.Le h') : Shp h' p0 p1 bx es := ⟨s.b.le le, s.e.le le, s.lb, s.le, s.ok⟩

inductive Rm where
  | mk | grid | cells | first | ends | sides | ways | cur
  | way (i : Nat)
  | side (v d : Nat)
structure Mk where
  bm : Nat
  p0 : Sl
  p1 : Sl
  gr : Option Nat
  sS : Sl
  e : Sl
  f : Sl
  w : Sl
  c : Sl
  cs : List Cell
  fi : List Nat
  en : List Nat
  ws : List (Sl × List Nat)
  nv : Nat
  sd : Nat → Nat → Sl
  sds : Nat → Nat → List Nat
def encE (k : Nat) : List Value := [.int .i64 ((k / 2 : Nat) : Int), .int .i64 ((k % 2 : Nat) : Int)]
def encS (sd : Nat → Nat → Sl) (v : Nat) : List Value := [(sd v 0).v, (sd v 1).v, (sd v 2).v, (sd v 3).v]
def Mk.row (m : Mk) : Row := ⟨[m.p0.v, m.p1.v, .pointer (m.gr.map fun b => ⟨b, 0, none⟩), m.sS.v, m.e.v, .slice none 0 0, m.f.v, m.w.v], 8, 135, true, true⟩
def Mk.M (m : Mk) (u : Res) : Rm → Res
  | .mk => .blk m.bm (.row m.row)
  | .grid => match m.gr with
    | some b => .blk b (gridRow m.c)
    | none => .no
  | .cells => .arr m.c 174 8 (m.cs.flatMap Cell.enc)
  | .first => .arr m.f 3 1 (m.fi.flatMap encN)
  | .ends => .arr m.e 178 2 (m.en.flatMap encN)
  | .sides => .arr m.sS 167 4 ((List.range m.nv).flatMap (encS m.sd))
  | .ways => .arr m.w 69 1 (m.ws.flatMap fun p => [p.1.v])
  | .cur => u
  | .way i => match m.ws[i]? with
    | some p => .arr p.1 3 1 (p.2.flatMap encN)
    | none => .no
  | .side v d => if v < m.nv ∧ d < 4 then .arr (m.sd v d) 170 2 ((m.sds v d).flatMap encE) else .no
theorem Mk.at {m : Mk} {u : Res} (st : St h0 h (m.M u)) {off : Nat} {v : Value} (hv : m.row.cells[off]? = some v) : h.rd (Addr.add ⟨m.bm, 0, none⟩ off) = some v := by
  rw [Addr.add_n, Nat.zero_add]; exact st.rd .mk rfl hv
theorem Mk.gp {m : Mk} {u : Res} (st : St h0 h (m.M u)) {bg : Nat} (hg : m.gr = some bg) : h.rd (Addr.add ⟨m.bm, 0, none⟩ 2) = some (.pointer (some ⟨bg, 0, none⟩)) := by
  refine Mk.at st ?_
  simp [Mk.row, hg]
theorem Mk.grd {m : Mk} {u : Res} {bg : Nat} (hg : m.gr = some bg) : Grd (m.M u) .grid .cells bg m.c m.cs := ⟨by simp [Mk.M, hg], rfl⟩
theorem Mk.put_cells (m : Mk) (u : Res) (cs : List Cell) : put (m.M u) .cells (.arr m.c 174 8 (cs.flatMap Cell.enc)) = ({ m with cs := cs } : Mk).M u := by funext r; cases r <;> simp [put, Mk.M, Mk.row]
theorem Mk.put_grid (m : Mk) (u : Res) {bg : Nat} (hg : m.gr = some bg) (c : Sl) (cs : List Cell) : put (put (m.M u) .cells (.arr c 174 8 (cs.flatMap Cell.enc))) .grid (.blk bg (gridRow c)) = ({ m with c := c, cs := cs } : Mk).M u := by funext r; cases r <;> simp [put, Mk.M, Mk.row, hg]
theorem Mk.put_ends (m : Mk) (u : Res) (en : List Nat) : put (m.M u) .ends (.arr m.e 178 2 (en.flatMap encN)) = ({ m with en := en } : Mk).M u := by funext r; cases r <;> simp [put, Mk.M, Mk.row]
theorem Mk.put_cur (m : Mk) (u u' : Res) : put (m.M u) .cur u' = m.M u' := by funext r; cases r <;> simp [put, Mk.M]

theorem c116 {m : Mk} {u : Res} {bg : Nat} (st : St h0 h (m.M u)) (hg : m.gr = some bg) (hn : m.cs.length < 4096) {K : Int → H → Prop}
    (k : ∀ c' h', St h0 h' (({ m with c := c', cs := m.cs ++ [Cell.empty] } : Mk).M u) → K (m.cs.length : Nat) h') : S116 (some ⟨m.bm, 0, none⟩) h K := by
  unfold S116
  refine ⟨_, rfl, _, Mk.gp st hg, c145 (by simp) (Mk.grd hg) st hn fun s' h' st' => k s' h' ?_⟩
  rw [Mk.put_grid m u hg] at st'; exact st'
theorem cJ {m : Mk} {u : Res} {bg : Nat} (st : St h0 h (m.M u)) (hg : m.gr = some bg) {v d w : Nat} {o : Int} (hd : d < 4) (ho : -2 ≤ o) {K : Int → H → Prop}
    (k : ∀ e h', St h0 h' (({ m with cs := join m.cs v d w o } : Mk).M u) → K e h') : S117 (some ⟨bg, 0, none⟩) v d w o h K := by
  refine c117 (by simp) (Mk.grd hg) st hd ho fun e h' st' => k e h' ?_
  rw [Mk.put_cells] at st'; exact st'
theorem sel4 {α : Type} [Inhabited α] {d : Nat} (hd : d < 4) (f : Nat → α) : sel ([f 0, f 1, f 2, f 3] : List α) d = f d := by
  rcases cases4 hd with rfl | rfl | rfl | rfl <;> rfl
instance : Inhabited Sl := ⟨Sl.nil⟩
theorem encS_len (sd : Nat → Nat → Sl) (v : Nat) : (encS sd v).length = 4 := rfl
theorem encE_len (k : Nat) : (encE k).length = 2 := rfl
/-- The ends of a side are read. -/
theorem Mk.sideRd {m : Mk} {u : Res} (st : St h0 h (m.M u)) {v d : Nat} (hv : v < m.nv) (hd : d < 4) : Rd h (m.sd v d) 2 encE (m.sds v d) :=
  st.arr (e := 170) (.side v d) (by simp [Mk.M, hv, hd]) (fun _ _ => rfl) (by decide)
theorem Mk.sidesRd {m : Mk} {u : Res} (st : St h0 h (m.M u)) : Rd h m.sS 4 (encS m.sd) (List.range m.nv) := st.arr .sides rfl (fun _ _ => rfl) (by decide)

/-- What a maker has of a shape when it is sorted. -/
structure Mk.Has (m : Mk) (bx : List Bool) (es : List Ed) : Prop where
  nv : m.nv = bx.length
  sds : ∀ v d, v < bx.length → d < 4 → m.sds v d = on es v d
  en : m.en.length = 2 * es.length

theorem c74 {m : Mk} {u : Res} {bg v : Nat} {bx : List Bool} {es : List Ed} (st : St h0 h (m.M u)) (hg : m.gr = some bg) (hn : m.cs.length < 4096) (hs : m.Has bx es) (hv : v < bx.length) (hes : es.length ≤ 16) {K : Int → H → Prop}
    (kerr : (∃ d, d < 4 ∧ 1 < (on es v d).length) → ∀ h', h0.Le h' → K 8 h')
    (kok : (¬ ∃ d, d < 4 ∧ 1 < (on es v d).length) → ∀ c' h', St h0 h' (({ m with c := c', cs := m.cs ++ [Cell.empty], en := pSides es v m.cs.length m.en 4 } : Mk).M u) → K 0 h') : S74 (some ⟨m.bm, 0, none⟩) v h K := by
  unfold S74
  refine c116 st hg hn fun c' h1 st1 => ?_
  have nv := hs.nv
  have hvr : (List.range m.nv)[v]? = some v := by rw [List.getElem?_range]; omega
  obtain ⟨a, ha, hrd⟩ := (Mk.sidesRd st1).ix (i := v) (y := v) hvr
  have hsl : m.sS.l = m.nv := by have := (Mk.sidesRd st1).1; rw [List.length_range] at this; exact this
  refine ⟨_, rfl, m.sS, Mk.at st1 (off := 3) rfl, a, ha, by omega, by omega, m.sd v 0, m.sd v 1, m.sd v 2, m.sd v 3, by rw [Int.toNat_natCast]; exact hrd, ?_⟩
  refine lfp.count 4 (fun d (s : Int) h2 => s = (d : Int) ∧ (∀ c, c < d → ¬ 1 < (on es v c).length) ∧ St h0 h2 (({ m with c := c', cs := m.cs ++ [Cell.empty], en := pSides es v m.cs.length m.en d } : Mk).M u)) (fun X d s h2 hd ⟨q1, q2, st2⟩ next => ?_) ⟨rfl, fun c hc => by omega, st1⟩
  subst q1
  have psl := pSides_len es v m.cs.length m.en d
  have hen := hs.en
  unfold S74_l4
  by_cases hd4 : d < 4
  · rw [if_pos (by simp only [decide_eq_true_eq]; omega)]
    refine ⟨by omega, by omega, ?_⟩
    rw [sel4 hd4 (m.sd v)]
    have rs : Rd h2 (m.sd v d) 2 encE (m.sds v d) := Mk.sideRd st2 (by show v < m.nv; omega) hd4
    rw [hs.sds v d hv hd4] at rs
    have rl := rs.len
    by_cases h1' : 1 < (on es v d).length
    · rw [if_pos (by simp only [decide_eq_true_eq]; omega)]
      exact kerr ⟨d, hd4, h1'⟩ _ st2.le
    · rw [if_neg (by simp only [decide_eq_true_eq]; omega)]
      refine lfp.count (on es v d).length (fun i (s : Int) h3 => s = (i : Int) ∧ St h0 h3 (({ m with c := c', cs := m.cs ++ [Cell.empty], en := pEnds m.cs.length (pSides es v m.cs.length m.en d) ((on es v d).take i) } : Mk).M u)) (fun Y i s h3 hi ⟨q1, st3⟩ nxt => ?_) ⟨rfl, st2⟩
      subst q1
      have pel := pEnds_len m.cs.length ((on es v d).take i) (pSides es v m.cs.length m.en d)
      unfold S74_l3 S74_j2
      rw [sel4 hd4 (m.sd v), rl]
      by_cases hi2 : i < (on es v d).length
      · rw [if_pos (by simp only [decide_eq_true_eq]; omega)]
        obtain ⟨x, hx⟩ : ∃ x, (on es v d)[i]? = some x := ⟨_, List.getElem?_eq_getElem hi2⟩
        have hxl := on_lt (List.mem_of_getElem? hx)
        have rs3 : Rd h3 (m.sd v d) 2 encE (m.sds v d) := Mk.sideRd st3 (by show v < m.nv; omega) hd4
        rw [hs.sds v d hv hd4] at rs3
        obtain ⟨a2, ha2, hrd2⟩ := rs3.ix hx
        refine ⟨a2, ha2, by omega, by omega, _, _, by rw [Int.toNat_natCast]; exact hrd2, ?_⟩
        obtain ⟨hel, a3, ha3, h10, w10, st10⟩ := wrEnd (p := m.cs.length) st3 (r := .ends) rfl (k := x) (by show x < (pEnds _ _ _).length; omega) (by show (pEnds _ _ _).length = 2 * es.length; omega)
        have hel' : m.e.l = es.length := hel
        refine ⟨_, rfl, m.e, Mk.at st3 (off := 4) rfl, a3, ha3, by omega, by omega, by omega, by omega, h10, ?_, nxt hi2 _ _ ⟨wsucc (by omega), ?_⟩⟩
        · rw [Addr.add_add, Nat.mul_one, Int.toNat_natCast, Int.toNat_natCast, Nat.div_add_mod']; exact w10
        · have := Mk.put_ends ({ m with c := c', cs := m.cs ++ [Cell.empty], en := pEnds m.cs.length (pSides es v m.cs.length m.en d) ((on es v d).take i) } : Mk) u ((pEnds m.cs.length (pSides es v m.cs.length m.en d) ((on es v d).take i)).set x m.cs.length)
          rw [this] at st10
          unfold pEnds at st10 ⊢
          rw [take_foldl _ _ _ hx]; exact st10
      · rw [if_neg (by simp only [decide_eq_true_eq]; omega)]
        rw [List.take_of_length_le (by omega)] at st3
        have e2 : pSides es v m.cs.length m.en (d + 1) = pEnds m.cs.length (pSides es v m.cs.length m.en d) (on es v d) := range_foldl _ _ _
        refine next hd4 _ _ ⟨wsucc (by omega), fun c hc => ?_, by rw [e2]; exact st3⟩
        by_cases hc2 : c < d
        · exact q2 c hc2
        · have : c = d := by omega
          subst this; exact h1'
  · rw [if_neg (by simp only [decide_eq_true_eq]; omega)]
    have : d = 4 := by omega
    subst this
    unfold S74_j1
    exact kok (fun ⟨d, hd, hl⟩ => q2 d hd hl) _ _ st2

end Go.Proofs.YtimadnngfhbfiaaGreatDoor
end

section
/-
  The program's maker: edges.
(Turned to this seat from the other one's text.)
-/
namespace Go.Proofs.YtimadnngfhbfiaaGreatDoor
open Go Go.Mu Go.Shape
variable {h h0 : H}
theorem c118 {d : Nat} (hd : d < 4) (x : Bool) {K : Int → H → Prop} (k : K (turn d x) h) : S118 d ((letter x).toNat : Int) h K := by
  unfold S118
  rw [letter_L]
  cases x with
  | true => rw [if_pos rfl]; exact c104 hd (left1 hd) k
  | false => rw [if_neg (by decide)]; exact c104 hd (left3 hd) k

theorem c113 {b : List Bool} {d f t : Nat} (hd : d < 4) (hb : b.length < 4) {K : Int → H → Prop} (k : K (lastOf d b) h) : S113 f t d (bs b) h K := by
  unfold S113
  refine lfp.count b.length (fun i s h' => s.1 = (lastOf d (b.take i) : Int) ∧ s.2 = i ∧ h' = h) (fun X i s h' hi ⟨q1, q2, q3⟩ next => ?_) ⟨rfl, rfl, rfl⟩
  obtain ⟨s1, s2⟩ := s
  simp only at q1 q2; subst q1 q2 q3
  unfold S113_l2 S113_j1
  simp only [bs_size]
  by_cases hlt : s2 < b.length
  · obtain ⟨x, hx⟩ : ∃ x, b[s2]? = some x := ⟨_, List.getElem?_eq_getElem hlt⟩
    rw [if_pos hlt, decode_bs hx]
    refine c118 (lastOf_lt _ hd) x (next hlt _ _ ⟨?_, rfl, rfl⟩)
    rw [lastOf_take hx]
  · rw [if_neg hlt]
    rw [List.take_of_length_le (by omega)]; exact k

theorem Mk.push {m : Mk} {w' wy : Sl} {way : List Nat}
    (st : St h0 h (put (put (m.M (.arr wy 3 1 (way.flatMap encN))) .ways (.arr w' 69 1 (m.ws.flatMap (fun p => [p.1.v]) ++ [wy.v]))) .mk (.blk m.bm (.row ({ m with w := w' } : Mk).row)))) : St h0 h (({ m with w := w', ws := m.ws ++ [(wy, way)] } : Mk).M .no) := by
  refine st.re _ (fun r => match r with | .way i => if i = m.ws.length then .cur else .way i | r => r) (fun r => ?_) (fun r r' h1 h2 e => ?_)
  · cases r with
    | ways => right; simp [Mk.M, put]
    | mk => right; simp [Mk.M, put, Mk.row]
    | way i =>
      right
      by_cases hi : i = m.ws.length
      · subst hi; simp [Mk.M, put]
      · simp only [hi, if_false, Mk.M, put, reduceCtorEq, if_false]
        by_cases hl : i < m.ws.length
        · rw [List.getElem?_append_left hl]
        · rw [List.getElem?_eq_none (by simp; omega), List.getElem?_eq_none (by omega)]
    | cur => exact .inl rfl
    | _ => right; simp [Mk.M, put]
  · cases r <;> cases r' <;> simp_all [Mk.M] <;> (try split at e) <;> (try split at e) <;> simp_all

theorem c75 {m : Mk} {u : Res} {bg i : Nat} {bx : List Bool} {es : List Ed} {x : Ed} (sh : Shp h0 m.p0 m.p1 bx es) (st : St h0 h (m.M u)) (hg : m.gr = some bg) (hn : m.cs.length < 4000) (hen : m.en.length = 2 * es.length) (hx : es[i]? = some x) (hw : m.ws.length < 100) {K : Int → H → Prop}
    (kerr : (edge0 m.en x i m.cs).2.1 = m.en.getD (2 * i + 1) 0 → ∀ h', h0.Le h' → K 10 h')
    (kok : (edge0 m.en x i m.cs).2.1 ≠ m.en.getD (2 * i + 1) 0 → ∀ c' w' wy h', St h0 h' (({ m with c := c', w := w', cs := join (edge0 m.en x i m.cs).1 (edge0 m.en x i m.cs).2.1 (edge0 m.en x i m.cs).2.2.1 (m.en.getD (2 * i + 1) 0) i, ws := m.ws ++ [(wy, (edge0 m.en x i m.cs).2.2.2 ++ [m.en.getD (2 * i + 1) 0])] } : Mk).M .no) → K 0 h') :
    S75 (some ⟨m.bm, 0, none⟩) i h K := by
  have le := sh.le
  have e1 := sh.e.len
  have hlt : i < es.length := (List.getElem?_eq_some_iff.1 hx).1
  have ek := sh.ok x (List.mem_of_getElem? hx)
  have hb4 := ek.b
  obtain ⟨a, ha, hrd⟩ := sh.e.ix hx
  unfold S75
  obtain ⟨hel, a2, ha2, rd0⟩ := rdEnd st (r := .ends) rfl (k := 2 * i) (by show 2 * i < m.en.length; omega) (hen : _ = 2 * es.length)
  have hel' : m.e.l = es.length := hel
  refine ⟨_, rfl, m.p1, Mk.at st (off := 1) rfl, a, ha, by omega, by omega, x.f, x.t, x.d, bs x.b, by rw [Int.toNat_natCast]; exact st.le.rdn hrd, _, rfl, m.e, Mk.at st (off := 4) rfl, a2, ha2, by omega, by omega, _, by rw [Int.toNat_natCast, Nat.mul_comm i 2]; exact rd0, fun b2 h2 n2 eh2 => ?_⟩
  have st2 : St h0 h2 (m.M (.arr ⟨some ⟨b2, 0, none⟩, 1, 1⟩ 3 1 ([m.en.getD (2 * i) 0].flatMap encN))) := by
    rw [eh2]
    have := st.allocArr (k := 1) (cap := 1) (e := 3) (size := 1) (xs := [m.en.getD (2 * i) 0].flatMap encN) n2 .cur (put _ .cur (.arr ⟨some ⟨b2, 0, none⟩, 1, 1⟩ 3 1 ([m.en.getD (2 * i) 0].flatMap encN))) rfl (Nat.le_refl _) (by decide) (put_eq _ _ _) (put_or _ _ _)
    rw [Mk.put_cur] at this; exact this
  refine lfp.count x.b.length (fun j (s : Int × Int × Sl × Nat) h' => ∃ wy c, s = ((((bends i (m.cs, m.en.getD (2 * i) 0, x.d, [m.en.getD (2 * i) 0]) (x.b.take j)).2.1 : Nat) : Int), (((bends i (m.cs, m.en.getD (2 * i) 0, x.d, [m.en.getD (2 * i) 0]) (x.b.take j)).2.2.1 : Nat) : Int), wy, j) ∧
      St h0 h' (({ m with c := c, cs := (bends i (m.cs, m.en.getD (2 * i) 0, x.d, [m.en.getD (2 * i) 0]) (x.b.take j)).1 } : Mk).M (.arr wy 3 1 ((bends i (m.cs, m.en.getD (2 * i) 0, x.d, [m.en.getD (2 * i) 0]) (x.b.take j)).2.2.2.flatMap encN))))
    (fun Y j s h' hj ⟨wy, c, q3, st3⟩ nxt => ?_) ⟨_, m.c, rfl, st2⟩
  subst q3
  simp only
  have bl := bends_len i (x.b.take j) (m.cs, m.en.getD (2 * i) 0, x.d, [m.en.getD (2 * i) 0])
  have bd := bends_dir i (x.b.take j) (m.cs, m.en.getD (2 * i) 0, x.d, [m.en.getD (2 * i) 0])
  have bdl := lastOf_lt (x.b.take j) ek.d
  rw [List.length_take] at bl
  simp only [List.length_cons, List.length_nil] at bl bd
  have hE0 : edge0 m.en x i m.cs = bends i (m.cs, m.en.getD (2 * i) 0, x.d, [m.en.getD (2 * i) 0]) x.b := rfl
  generalize hr : bends i (m.cs, m.en.getD (2 * i) 0, x.d, [m.en.getD (2 * i) 0]) (x.b.take j) = r at st3 bl bd
  rw [← bd] at bdl
  have hwy : wy.l = r.2.2.2.length := (st3.arr (enc := encN) .cur rfl (enc1N _) (by decide)).1
  unfold S75_l2
  rw [bs_size]
  by_cases hj2 : j < x.b.length
  · rw [if_pos hj2]
    obtain ⟨y, hy⟩ : ∃ y, x.b[j]? = some y := ⟨_, List.getElem?_eq_getElem hj2⟩
    rw [decode_bs hy]
    refine c116 st3 hg (by show r.1.length < 4096; omega) fun c4 h4 st4 => ?_
    refine ⟨_, rfl, _, Mk.gp st4 hg, ?_⟩
    refine cJ st4 hg bdl (by omega) fun ee h5 st5 => ?_
    refine c118 bdl y ?_
    refine ⟨_, _, st5.own .cur rfl, by simp only [maxLen]; omega, by omega, fun wy' h6 ap => ?_⟩
    obtain ⟨st6, _⟩ := st5.app .cur rfl rfl rfl ap (put _ .cur (.arr wy' 3 1 ((r.2.2.2 ++ [r.1.length]).flatMap encN))) (by rw [put_eq, List.flatMap_append]; rfl) (put_or _ _ _)
    rw [Mk.put_cur] at st6
    have eq : bends i (m.cs, m.en.getD (2 * i) 0, x.d, [m.en.getD (2 * i) 0]) (x.b.take (j + 1)) = bend i r y := by
      rw [← hr]; exact take_foldl _ _ _ hy
    refine nxt hj2 _ _ ⟨wy', c4, ?_, ?_⟩
    · rw [eq]; rfl
    · rw [eq]; exact st6
  · rw [if_neg hj2]
    have hjl : x.b.take j = x.b := List.take_of_length_le (by omega)
    rw [hjl] at hr
    rw [hE0, hr] at kerr kok
    unfold S75_j1
    obtain ⟨_, a3, ha3, rd3⟩ := rdEnd st3 (r := .ends) rfl (k := 2 * i + 1) (by show 2 * i + 1 < m.en.length; omega) (hen : _ = 2 * es.length)
    refine ⟨_, rfl, m.e, Mk.at st3 (off := 4) rfl, a3, ha3, by omega, by omega, _, by rw [Int.toNat_natCast, Addr.add_add, Nat.mul_comm i 2]; exact rd3, ?_⟩
    by_cases heq : r.2.1 = m.en.getD (2 * i + 1) 0
    · rw [if_pos (by simp only [beq_iff_eq]; exact congrArg Int.ofNat heq)]
      exact kerr heq _ st3.le
    · rw [if_neg (by simp only [beq_iff_eq]; exact fun h => heq (Int.ofNat.inj h))]
      refine ⟨_, rfl, _, Mk.gp st3 hg, _, rfl, m.e, Mk.at st3 (off := 4) rfl, a3, ha3, by omega, by omega, _, by rw [Int.toNat_natCast, Addr.add_add, Nat.mul_comm i 2]; exact rd3, ?_⟩
      refine cJ st3 hg bdl (by omega) fun ee h5 st5 => ?_
      obtain ⟨_, a4, ha4, rd4⟩ := rdEnd st5 (r := .ends) rfl (k := 2 * i + 1) (by show 2 * i + 1 < m.en.length; omega) (hen : _ = 2 * es.length)
      refine ⟨_, rfl, m.w, by rw [Addr.add_add]; exact Mk.at st5 (off := 7) rfl, _, rfl, m.e, Mk.at st5 (off := 4) rfl, a4, ha4, by omega, by omega, _, by rw [Int.toNat_natCast, Addr.add_add, Nat.mul_comm i 2]; exact rd4, ?_⟩
      refine ⟨_, _, st5.own .cur rfl, by simp only [maxLen]; omega, by omega, fun wy' h6 ap => ?_⟩
      obtain ⟨st6, _⟩ := st5.app .cur rfl rfl rfl ap (put _ .cur (.arr wy' 3 1 ((r.2.2.2 ++ [m.en.getD (2 * i + 1) 0]).flatMap encN))) (by rw [put_eq, List.flatMap_append]; rfl) (put_or _ _ _)
      rw [Mk.put_cur] at st6
      have hwl : m.w.l = m.ws.length := (st6.arr (enc := fun p : Sl × List Nat => [p.1.v]) .ways rfl (fun _ _ => rfl) (by decide)).1
      refine ⟨by rw [Addr.add_add]; exact Mk.at st6 (off := 7) rfl, ?_⟩
      refine ⟨_, _, st6.own .ways rfl, by simp only [maxLen]; omega, by omega, fun w' h7 ap2 => ?_⟩
      obtain ⟨st7, _⟩ := st6.app .ways rfl rfl rfl ap2 (put _ .ways (.arr w' 69 1 (m.ws.flatMap (fun p => [p.1.v]) ++ [wy'.v]))) (put_eq _ _ _) (put_or _ _ _)
      obtain ⟨h8, w8, st8⟩ := st7.wr (vs := [.slice w'.a w'.l w'.c]) (off := 7) .mk (by rw [put_ne _ _ (by simp)]; rfl) rfl (by simp [Mk.row]) (put _ .mk (.blk m.bm (.row ({ m with w := w' } : Mk).row))) (by rw [put_eq]; rfl) (put_or _ _ _)
      refine ⟨_, rfl, h8, by rw [Addr.add_add, Addr.add_n]; exact w8, kok heq c w' wy' h8 ?_⟩
      exact Mk.push (m := ({ m with c := c, cs := join r.1 r.2.1 r.2.2.1 (m.en.getD (2 * i + 1) 0) i } : Mk)) st8
end Go.Proofs.YtimadnngfhbfiaaGreatDoor
end

section
/-
  The program's maker: ends sorted to sides, cells counted; a new grid; cells cloned.
(Turned to this seat from the other one's text.)
-/
namespace Go.Proofs.YtimadnngfhbfiaaGreatDoor
open Go Go.Mu Go.Shape
variable {h h0 : H}

def upS {α : Type} (f : Nat → Nat → α) (v d : Nat) (x : α) : Nat → Nat → α := fun v' d' => if v' = v ∧ d' = d then x else f v' d'
theorem upS_eq {α : Type} (f : Nat → Nat → α) (v d : Nat) (x : α) : upS f v d x v d = x := by simp [upS]
theorem upS_ne {α : Type} (f : Nat → Nat → α) {v d v' d' : Nat} (x : α) (hn : ¬ (v' = v ∧ d' = d)) : upS f v d x v' d' = f v' d' := by simp [upS, hn]
theorem flatMap_congr' {α β : Type} {f g : α → List β} : ∀ {l : List α}, (∀ x ∈ l, f x = g x) → l.flatMap f = l.flatMap g
  | [], _ => rfl
  | x :: l, hh => by rw [List.flatMap_cons, List.flatMap_cons, hh x (by simp), flatMap_congr' fun y hy => hh y (List.mem_cons_of_mem _ hy)]
theorem encS_up (sd : Nat → Nat → Sl) {v d : Nat} (hd : d < 4) (s : Sl) : setL (encS sd v) d [s.v] = encS (upS sd v d s) v := by
  rcases cases4 hd with rfl | rfl | rfl | rfl <;> simp [encS, setL, upS]
theorem range_set_up (sd : Nat → Nat → Sl) {v d n : Nat} (hv : v < n) (s : Sl) (hd : d < 4) : setL ((List.range n).flatMap (encS sd)) (v * 4 + d) [s.v] = (List.range n).flatMap (encS (upS sd v d s)) := by
  -- as a list of rows
  have key : ∀ (l : List Nat) (i : Nat), l[i]? = some v → l.Nodup → setL (l.flatMap (encS sd)) (i * 4 + d) [s.v] = l.flatMap (encS (upS sd v d s)) := by
    intro l
    induction l with
    | nil => intro i e; simp at e
    | cons z l ih =>
      intro i e nd
      have ndc := List.nodup_cons.1 nd
      cases i with
      | zero =>
        simp only [List.getElem?_cons_zero, Option.some.injEq] at e; subst e
        rw [List.flatMap_cons, Nat.zero_mul, Nat.zero_add, setL_head1 _ _ _ (by rw [encS_len]; exact hd), encS_up sd hd, List.flatMap_cons]
        congr 1
        have : ∀ y ∈ l, encS sd y = encS (upS sd z d s) y := fun y hy => by
          have hne : y ≠ z := fun e => ndc.1 (e ▸ hy)
          simp [encS, upS, hne]
        exact flatMap_congr' this
      | succ i =>
        have e2 : l[i]? = some v := by simpa using e
        have hne : z ≠ v := fun h => ndc.1 (h ▸ List.mem_of_getElem? e2)
        rw [List.flatMap_cons, setL_append1 (j := i * 4 + d) _ _ _ (by rw [encS_len]; omega), ih i e2 ndc.2, List.flatMap_cons]
        congr 1
        simp [encS, upS, hne]
  exact key (List.range n) v (by rw [List.getElem?_range]; exact hv) List.nodup_range
/-- An end is added to a side. -/
theorem Mk.add {m : Mk} {u : Res} {v d k : Nat} {a : Addr} (st : St h0 h (m.M u)) (hv : v < m.nv) (hd : d < 4) (ha : m.sS.a = some a) (hl : (m.sds v d).length < 1000) {K : Sl → H → Prop}
    (kk : ∀ s' h' h2, H.wr h' (a.add (v * 4 + d)) [.slice s'.a s'.l s'.c] h2 → St h0 h2 (({ m with sd := upS m.sd v d s', sds := upS m.sds v d (m.sds v d ++ [k]) } : Mk).M u) → K s' h') : Mu.app 170 2 16 (m.sd v d) 1 (encE k) h K := by
  have hM : m.M u (.side v d) = .arr (m.sd v d) 170 2 ((m.sds v d).flatMap encE) := by simp [Mk.M, hv, hd]
  have hsl := (Mk.sideRd st hv hd).1
  refine ⟨_, _, st.own _ hM, by simp only [maxLen]; omega, by omega, fun s' h' ap => ?_⟩
  obtain ⟨st1, _⟩ := st.app _ hM rfl rfl ap (put (m.M u) (.side v d) (.arr s' 170 2 ((m.sds v d ++ [k]).flatMap encE))) (by rw [put_eq, List.flatMap_append]; simp) (put_or _ _ _)
  have hoff : v * 4 + d + ([.slice s'.a s'.l s'.c] : List Value).length ≤ ((List.range m.nv).flatMap (encS m.sd)).length := by
    rw [flatMap_len (size := 4) (fun _ _ => rfl)]; simp; omega
  obtain ⟨h2, w2, st2⟩ := st1.wrArr (e := 167) (size := 4) (vs := [.slice s'.a s'.l s'.c]) .sides (by rw [put_ne _ _ (by simp)]; rfl) ha hoff (({ m with sd := upS m.sd v d s', sds := upS m.sds v d (m.sds v d ++ [k]) } : Mk).M u)
    (by
      have := range_set_up m.sd hv s' hd
      simp only [Sl.v] at this
      simp only [Mk.M]
      rw [this]) (fun r hr => by
      left
      cases r with
      | side v' d' =>
        by_cases hc : v' = v ∧ d' = d
        · obtain ⟨rfl, rfl⟩ := hc
          rw [put_eq]; simp [Mk.M, hv, hd, upS_eq]
        · have hne : Rm.side v' d' ≠ Rm.side v d := fun e => by cases e; exact hc ⟨rfl, rfl⟩
          rw [put_ne _ _ hne]; simp [Mk.M, upS_ne _ _ hc]
      | sides => exact absurd rfl hr
      | _ => rw [put_ne _ _ (by simp)]; rfl)
  exact kk s' h' h2 w2 st2

theorem zeros4 (n : Nat) : zeros (.agg #[(.slice none 0 0), (.slice none 0 0), (.slice none 0 0), (.slice none 0 0)]) (n * 4) = (List.range n).flatMap (encS fun _ _ => Sl.nil) := by
  have := zeros_agg (xs := encS (fun _ _ => Sl.nil) 0) (size := 4) (m := n) rfl (by decide)
  rw [show (encS (fun _ _ => Sl.nil) 0).toArray = #[(.slice none 0 0), (.slice none 0 0), (.slice none 0 0), (.slice none 0 0)] from rfl] at this
  rw [this]
  have key : ∀ l : List Nat, (List.replicate l.length ()).flatMap (fun _ => encS (fun _ _ => Sl.nil) 0) = l.flatMap (encS fun _ _ => Sl.nil) := by
    intro l
    induction l with
    | nil => rfl
    | cons z l ih => rw [List.length_cons, List.replicate_succ, List.flatMap_cons, ih, List.flatMap_cons]; rfl
  have := key (List.range n)
  rwa [List.length_range] at this

theorem c69 {m : Mk} {u : Res} {bx : List Bool} {es : List Ed} (sh : Shp h0 m.p0 m.p1 bx es) (st : St h0 h (m.M u)) (hnv : m.nv = 0) (hsS : m.sS = Sl.nil) {K : H → Prop}
    (k : ∀ (m' : Mk) h', m' = ({ m with sS := m'.sS, nv := bx.length, sd := m'.sd, sds := on es } : Mk) → St h0 h' (m'.M u) → K h') : S69 (some ⟨m.bm, 0, none⟩) h K := by
  have lb := sh.lb
  have le := sh.le
  have e0 := sh.b.len
  have e1 := sh.e.len
  unfold S69
  refine ⟨_, rfl, m.p0, Mk.at st (off := 0) rfl, ?_⟩
  rw [e0]
  refine ⟨by omega, by omega, by omega, by omega, fun b h1 n1 eh1 => ?_⟩
  rw [Int.toNat_natCast, zeros4] at eh1
  rw [Int.toNat_natCast]
  have hz : ((List.range bx.length).flatMap (encS fun _ _ => Sl.nil)).length = bx.length * 4 := by rw [flatMap_len (size := 4) (fun _ _ => rfl)]; simp
  rw [hz] at eh1
  have st1 : St h0 h1 (put (m.M u) .sides (.arr ⟨some ⟨b, 0, none⟩, bx.length, bx.length⟩ 167 4 ((List.range bx.length).flatMap (encS fun _ _ => Sl.nil)))) := by
    rw [eh1]
    exact st.allocArr (k := bx.length) (cap := bx.length) (e := 167) (size := 4) (xs := (List.range bx.length).flatMap (encS fun _ _ => Sl.nil)) n1 .sides _ hz (Nat.le_refl _) (by simp only [maxLen]; omega) (put_eq _ _ _) (put_or _ _ _)
  obtain ⟨h2, w2, st2⟩ := st1.wr (vs := [.slice (some ⟨b, 0, none⟩) bx.length bx.length]) (off := 3) .mk (by rw [put_ne _ _ (by simp)]; rfl) rfl (by simp [Mk.row]) (put _ .mk (.blk m.bm (.row ({ m with sS := ⟨some ⟨b, 0, none⟩, bx.length, bx.length⟩ } : Mk).row))) (by rw [put_eq]; rfl) (put_or _ _ _)
  refine ⟨_, rfl, h2, by rw [Addr.add_n]; exact w2, ?_⟩
  -- all sides are empty
  have st3 : St h0 h2 (({ m with sS := ⟨some ⟨b, 0, none⟩, bx.length, bx.length⟩, nv := bx.length, sd := fun _ _ => Sl.nil, sds := fun _ _ => [] } : Mk).M u) := by
    have base : St h0 h2 (fun r : Rm => match r with | .side _ _ => Res.no | r => ({ m with sS := ⟨some ⟨b, 0, none⟩, bx.length, bx.length⟩, nv := bx.length, sd := fun _ _ => Sl.nil, sds := fun _ _ => [] } : Mk).M u r) := by
      refine st2.re _ id (fun r => ?_) (fun _ _ _ _ e => e)
      cases r <;> first | exact .inl rfl | (right; simp [put, Mk.M, Mk.row])
    refine ⟨base.le, fun r => ?_, fun r q hb => ?_, fun r r' q hb hb' => ?_⟩
    · cases r with
      | side v d =>
        simp only [Mk.M]
        split
        · exact ⟨rfl, .inl ⟨rfl, rfl⟩⟩
        · trivial
      | _ => first | exact base.ok .mk | exact base.ok .grid | exact base.ok .cells | exact base.ok .first | exact base.ok .ends | exact base.ok .sides | exact base.ok .ways | exact base.ok .cur | exact base.ok (.way _)
    · cases r with
      | side v d => exfalso; simp only [Mk.M] at hb; split at hb <;> cases hb
      | _ => first | exact base.new .mk _ hb | exact base.new .grid _ hb | exact base.new .cells _ hb | exact base.new .first _ hb | exact base.new .ends _ hb | exact base.new .sides _ hb | exact base.new .ways _ hb | exact base.new .cur _ hb | exact base.new (.way _) _ hb
    · have key : ∀ r b', (({ m with sS := ⟨some ⟨b, 0, none⟩, bx.length, bx.length⟩, nv := bx.length, sd := fun _ _ => Sl.nil, sds := fun _ _ => [] } : Mk).M u r).own = some b' → ((fun r : Rm => match r with | .side _ _ => Res.no | r => ({ m with sS := ⟨some ⟨b, 0, none⟩, bx.length, bx.length⟩, nv := bx.length, sd := fun _ _ => Sl.nil, sds := fun _ _ => [] } : Mk).M u r) r).own = some b' := fun r b' e => by
        cases r with
        | side v d => exfalso; simp only [Mk.M] at e; split at e <;> cases e
        | _ => exact e
      exact base.inj r r' _ (key _ _ hb) (key _ _ hb')
  refine ⟨_, rfl, m.p1, Mk.at st3 (off := 1) rfl, ?_⟩
  refine lfp.count es.length (fun i (s : Int) h' => s = (i : Int) ∧ ∃ sd sds, (∀ v d, v < bx.length → d < 4 → sds v d = on (es.take i) v d) ∧ St h0 h' (({ m with sS := ⟨some ⟨b, 0, none⟩, bx.length, bx.length⟩, nv := bx.length, sd := sd, sds := sds } : Mk).M u)) (fun X i s h' hi ⟨q1, sd, sds, q2, st4⟩ next => ?_)
    ⟨rfl, _, _, fun v d _ _ => rfl, st3⟩
  subst q1
  unfold S69_l1
  rw [e1]
  by_cases hlt : i < es.length
  · rw [if_pos (by simp only [decide_eq_true_eq]; omega)]
    obtain ⟨x, hx⟩ : ∃ x, es[i]? = some x := ⟨_, List.getElem?_eq_getElem hlt⟩
    have ek := sh.ok x (List.mem_of_getElem? hx)
    have hf := ek.f
    have ht := ek.t
    have hd := ek.d
    have hsd := x.side_lt
    obtain ⟨a, ha, hrd⟩ := sh.e.ix hx
    have hl1 : (on (es.take i) x.f x.d).length ≤ 2 * i := by have := on_len (es.take i) x.f x.d; rw [List.length_take] at this; omega
    have hl2 : (on (es.take i) x.t x.side).length ≤ 2 * i := by have := on_len (es.take i) x.t x.side; rw [List.length_take] at this; omega
    have r3 : ∀ {sd' : Nat → Nat → Sl} {sds' : Nat → Nat → List Nat} {hh : H}, St h0 hh (({ m with sS := ⟨some ⟨b, 0, none⟩, bx.length, bx.length⟩, nv := bx.length, sd := sd', sds := sds' } : Mk).M u) → hh.rd (Addr.add ⟨m.bm, 0, none⟩ 3) = some (.slice (some ⟨b, 0, none⟩) bx.length bx.length) := fun s => Mk.at s (off := 3) rfl
    have rs : ∀ {sd' : Nat → Nat → Sl} {sds' : Nat → Nat → List Nat} {hh : H} (_ : St h0 hh (({ m with sS := ⟨some ⟨b, 0, none⟩, bx.length, bx.length⟩, nv := bx.length, sd := sd', sds := sds' } : Mk).M u)) (v d : Nat), v < bx.length → d < 4 → hh.rd (Addr.add ⟨b, 0, none⟩ (v * 4 + d)) = some (sd' v d).v := fun {sd' sds' hh} s v d hv hd => by
      have hvr : (List.range bx.length)[v]? = some v := by rw [List.getElem?_range]; exact hv
      obtain ⟨a', ha', q⟩ := (Mk.sidesRd s).ix (i := v) (y := v) hvr
      have e : a' = ⟨b, 0, none⟩ := (Option.some.inj ha').symm
      subst e
      have := q.at d (v := (sd' v d).v) (by rcases cases4 hd with rfl | rfl | rfl | rfl <;> rfl)
      rw [Addr.add_add] at this; exact this
    refine ⟨a, ha, by omega, by omega, x.f, x.t, x.d, bs x.b, by rw [Int.toNat_natCast]; exact st4.le.rdn hrd, _, rfl, ⟨some ⟨b, 0, none⟩, bx.length, bx.length⟩, r3 st4, _, rfl, by omega, by simp only []; omega, by omega, by omega, _, rfl, ⟨some ⟨b, 0, none⟩, bx.length, bx.length⟩, r3 st4, _, rfl, by omega, by simp only []; omega, ?_⟩
    refine c113 hd ek.b ?_
    refine ⟨r3 st4, r3 st4, ?_⟩
    refine c104 (lastOf_lt _ hd) (left2 (lastOf_lt _ hd)) ?_
    have hside : ((lastOf x.d x.b + 2) % 4) = x.side := rfl
    rw [hside]
    refine ⟨r3 st4, r3 st4, by omega, by omega, sd x.f x.d, by rw [Addr.add_add, Nat.mul_one, Int.toNat_natCast, Int.toNat_natCast]; exact rs st4 x.f x.d hf hd, ?_⟩
    have en0 : ([(.int .i64 (i : Int)), (.int .i64 0)] : List Value) = encE (2 * i) := by
      unfold encE; rw [show 2 * i / 2 = i from by omega, show 2 * i % 2 = 0 from by omega]; rfl
    have en1 : ([(.int .i64 (i : Int)), (.int .i64 1)] : List Value) = encE (2 * i + 1) := by
      unfold encE; rw [show (2 * i + 1) / 2 = i from by omega, show (2 * i + 1) % 2 = 1 from by omega]; rfl
    rw [en0]
    refine Mk.add st4 (a := ⟨b, 0, none⟩) hf hd rfl (by show (sds x.f x.d).length < 1000; rw [q2 _ _ hf hd]; omega) fun s1 h5 h6 w6 st6 => ?_
    refine ⟨h6, by rw [Addr.add_add, Nat.mul_one, Int.toNat_natCast, Int.toNat_natCast]; exact w6, ?_⟩
    refine ⟨_, by rw [Addr.add_add, Nat.mul_one, Int.toNat_natCast, Int.toNat_natCast]; exact rs st6 x.t x.side ht hsd, ?_⟩
    rw [en1]
    have hsds6 : (upS sds x.f x.d (sds x.f x.d ++ [2 * i]) x.t x.side).length < 1000 := by
      by_cases hc : x.t = x.f ∧ x.side = x.d
      · rw [hc.1, hc.2, upS_eq, List.length_append, q2 _ _ hf hd]; simp; omega
      · rw [upS_ne _ _ hc, q2 _ _ ht hsd]; omega
    refine Mk.add st6 (a := ⟨b, 0, none⟩) ht hsd rfl hsds6 fun s2 h7 h8 w8 st8 => ?_
    refine ⟨h8, by rw [Addr.add_add, Nat.mul_one, Int.toNat_natCast, Int.toNat_natCast]; exact w8, ?_⟩
    refine next hlt _ _ ⟨wsucc (by omega), _, _, fun v d hv hd2 => ?_, st8⟩
    rw [on_take hx]
    show upS (upS sds x.f x.d (sds x.f x.d ++ [2 * i])) x.t x.side (upS sds x.f x.d (sds x.f x.d ++ [2 * i]) x.t x.side ++ [2 * i + 1]) v d = _
    have h1 : upS sds x.f x.d (sds x.f x.d ++ [2 * i]) v d = on (es.take i) v d ++ (if x.f = v ∧ x.d = d then [2 * i] else []) := by
      by_cases hc : x.f = v ∧ x.d = d
      · obtain ⟨rfl, rfl⟩ := hc
        rw [upS_eq, q2 _ _ hf hd]; simp
      · rw [upS_ne _ _ (fun h => hc ⟨h.1.symm, h.2.symm⟩), q2 _ _ hv hd2, if_neg hc, List.append_nil]
    by_cases hc : x.t = v ∧ x.side = d
    · obtain ⟨rfl, rfl⟩ := hc
      rw [upS_eq, h1]
      simp [endsOf]
    · rw [upS_ne _ _ (fun h => hc ⟨h.1.symm, h.2.symm⟩), h1]
      simp [endsOf, hc]
  · rw [if_neg (by simp only [decide_eq_true_eq]; omega)]
    rw [List.take_of_length_le (by omega)] at q2
    refine k ({ m with sS := ⟨some ⟨b, 0, none⟩, bx.length, bx.length⟩, nv := bx.length, sd := sd, sds := on es } : Mk) h' rfl ?_
    refine st4.re _ id (fun r => .inr ?_) (fun _ _ _ _ e => e)
    cases r with
    | side v d =>
      simp only [Mk.M, id]
      by_cases hc : v < bx.length ∧ d < 4
      · rw [if_pos hc, if_pos hc, q2 _ _ hc.1 hc.2]
      · rw [if_neg hc, if_neg hc]
    | _ => rfl
end Go.Proofs.YtimadnngfhbfiaaGreatDoor
end

section
/-
  The program's maker: count; a new grid; a clone.
(Turned to this seat from the other one's text.)
-/
namespace Go.Proofs.YtimadnngfhbfiaaGreatDoor
open Go Go.Mu Go.Shape
variable {h h0 : H}

theorem c70 {m : Mk} {u : Res} {bx : List Bool} {es : List Ed} (sh : Shp h0 m.p0 m.p1 bx es) (st : St h0 h (m.M u)) (hnv : m.nv = bx.length) (hsds : ∀ v d, v < bx.length → d < 4 → m.sds v d = on es v d) {K : Int → H → Prop}
    (hf : ∀ x ∈ bx, x = false) (hsum : bx.length + 3 * es.length ≤ 4096) (k : ∀ n, n ≤ 4096 → K n h) : S70 (some ⟨m.bm, 0, none⟩) h K := by
  have lb := sh.lb
  have le := sh.le
  have e0 := sh.b.len
  have e1 := sh.e.len
  unfold S70
  refine ⟨_, rfl, m.p0, Mk.at st (off := 0) rfl, ?_⟩
  refine lfp.count bx.length (fun v (s : Int × Int) h' => h' = h ∧ s.2 = (v : Int) ∧ ∃ n : Nat, s.1 = (n : Int) ∧ n ≤ v) (fun X v s h' hv ⟨q1, q2, n, q3, q4⟩ next => ?_) ⟨rfl, rfl, 0, rfl, Nat.le_refl _⟩
  obtain ⟨s1, s2⟩ := s
  simp only at q2 q3; subst q1 q2 q3
  unfold S70_l6
  rw [e0]
  by_cases hlt : v < bx.length
  · rw [if_pos (by simp only [decide_eq_true_eq]; omega)]
    obtain ⟨x, hx⟩ : ∃ x, bx[v]? = some x := ⟨_, List.getElem?_eq_getElem hlt⟩
    obtain ⟨a, ha, hrd⟩ := sh.b.ix hx
    refine ⟨a, ha, by omega, by omega, x, by rw [Int.toNat_natCast]; exact (st.le.rdn hrd).at0, ?_⟩
    rw [wsucc (i := n) (by omega)]
    unfold S70_j4
    cases x with
    | false =>
      rw [if_neg (by decide)]
      exact next hlt _ _ ⟨rfl, wsucc (by omega), n + 1, rfl, by omega⟩
    | true => exact absurd (hf true (List.mem_of_getElem? hx)) (by decide)
  · rw [if_neg (by simp only [decide_eq_true_eq]; omega)]
    unfold S70_j3
    refine ⟨_, rfl, m.p1, Mk.at st (off := 1) rfl, ?_⟩
    refine lfp.count es.length (fun i (s : Int × Int) h2 => h2 = h' ∧ s.2 = (i : Int) ∧ ∃ j : Nat, s.1 = (j : Int) ∧ j ≤ n + 3 * i) (fun Y i s h2 hi ⟨q1, q2, j, q3, q4⟩ nxt => ?_) ⟨rfl, rfl, n, rfl, by omega⟩
    obtain ⟨s1, s2⟩ := s
    simp only at q2 q3; subst q1 q2 q3
    unfold S70_l2 S70_j1
    rw [e1]
    by_cases hi2 : i < es.length
    · rw [if_pos (by simp only [decide_eq_true_eq]; omega)]
      obtain ⟨e, he⟩ : ∃ x, es[i]? = some x := ⟨_, List.getElem?_eq_getElem hi2⟩
      have hb := (sh.ok e (List.mem_of_getElem? he)).b
      obtain ⟨a, ha, hrd⟩ := sh.e.ix he
      refine ⟨a, ha, by omega, by omega, e.f, e.t, e.d, bs e.b, by rw [Int.toNat_natCast]; exact st.le.rdn hrd, nxt hi2 _ _ ⟨rfl, wsucc (by omega), j + e.b.length, ?_, by omega⟩⟩
      rw [bs_size]; exact wrapN (by omega) (by omega)
    · rw [if_neg (by simp only [decide_eq_true_eq]; omega)]
      exact k _ (by omega)

theorem c114 {s : Sl} (hs : s.l = 1) {K : Sl → H → Prop} (k : ∀ b h', h b = none → h' = h.set b (.row ⟨[], 0, 174, true, true⟩) → K ⟨some ⟨b, 0, none⟩, 0, 0⟩ h') : S114 s 0 h K := by
  unfold S114
  rw [if_neg (by decide)]
  unfold S114_j5
  rw [hs]
  unfold S61 S108
  have fin : S114_j4 K 0 ((decide ((0 : Int) > 0)) || (decide ((0 : Int) > 9223372036854775807))) h := by
    unfold S114_j4
    rw [if_neg (by decide)]
    unfold S114_j3
    refine ⟨by decide, by decide, by decide, by decide, fun b h' hb eh => ⟨by decide, ?_⟩⟩
    refine lfp.count 0 (fun i (s : Int) h2 => s = 0 ∧ h2 = h') (fun X i s h2 hi ⟨q1, q2⟩ next => ?_) ⟨rfl, rfl⟩
    subst q1 q2
    unfold S114_l2 S114_j1
    rw [if_neg (by decide)]
    exact k b h2 hb eh
  exact fin
theorem c71 {ρ : Type} {M : ρ → Res} (st : St h0 h M) {K : Option Addr → Int → H → Prop} (k : ∀ b b' h' , St h0 h' (fun i : ρ ⊕ Bool => match i with | .inl r => M r | .inr false => .arr ⟨some ⟨b, 0, none⟩, 0, 0⟩ 174 8 [] | .inr true => .blk b' (gridRow ⟨some ⟨b, 0, none⟩, 0, 0⟩)) → K (some ⟨b', 0, none⟩) 0 h') : S71 0 h K := by
  unfold S71
  rw [if_neg (by decide), if_neg (by decide)]
  unfold S115
  intro b1 h1 n1 e1
  refine c114 rfl fun b2 h2 n2 e2 => ?_
  intro b3 h3 n3 e3
  have s1 := st.le' (le_new n1 e1)
  have s2 : St h1 h2 (fun _ : Unit => .arr ⟨some ⟨b2, 0, none⟩, 0, 0⟩ 174 8 []) := by
    rw [e2]
    exact (St.init (ρ := Unit) h1).allocArr (k := 0) (cap := 0) (e := 174) (size := 8) (xs := []) n2 () _ rfl (Nat.le_refl _) (by decide) rfl (fun i hi => (hi rfl).elim)
  have s3 : St h2 h3 (fun _ : Unit => .blk b3 (gridRow ⟨some ⟨b2, 0, none⟩, 0, 0⟩)) := by
    rw [e3]
    exact (St.init (ρ := Unit) h2).alloc _ n3 () _ rfl (fun i hi => (hi rfl).elim)
  refine k b2 b3 h3 (((s1.plus s2).plus s3).re _ (fun i => match i with | .inl r => .inl (.inl r) | .inr false => .inl (.inr ()) | .inr true => .inr ()) (fun i => ?_) (fun i j _ _ e => ?_))
  · cases i with
    | inl r => exact .inr rfl
    | inr c => cases c <;> exact .inr rfl
  · rcases i with r | _ | _ <;> rcases j with r' | _ | _ <;> simp_all

theorem c76 {ρ : Type} {M : ρ → Res} {rg rc : ρ} {bg : Nat} {s : Sl} {cs : List Cell} (st : St h0 h M) (g : Grd M rg rc bg s cs) (hn : cs.length < 5000) {K : Sl → H → Prop}
    (k : ∀ s' h', St h h' (fun _ : Unit => .arr s' 174 8 (cs.flatMap Cell.enc)) → K s' h') : S76 (some ⟨bg, 0, none⟩) h K := by
  have hl := g.len st
  unfold S76
  rw [if_neg (by simp)]
  refine ⟨_, rfl, s, g.rd st, ?_⟩
  unfold S119
  by_cases hs : s.a = none
  · rw [if_pos (by simp [hs])]
    refine k _ _ ?_
    have o := st.own rc g.c
    have hxl : (cs.flatMap Cell.enc).length = cs.length * 8 := flatMap_len (enc8 cs)
    rcases o.2 with ⟨_, hk⟩ | ⟨gg, cap, hv, _⟩
    · have : cs = [] := List.eq_nil_of_length_eq_zero (by omega)
      subst this
      exact St.nil1 h
    · simp only [Value.slice.injEq] at hv; rw [hv.1] at hs; cases hs
  rw [if_neg (by simp; exact hs)]
  intro b1 h1 n1 e1
  have s1 : St h h1 (fun _ : Unit => .arr ⟨some ⟨b1, 0, none⟩, 0, 0⟩ 174 8 []) := by
    rw [e1]
    exact (St.init (ρ := Unit) h).allocArr (k := 0) (cap := 0) (e := 174) (size := 8) (xs := []) n1 () _ rfl (Nat.le_refl _) (by decide) rfl (fun i hi => (hi rfl).elim)
  refine ⟨fun e => absurd e hs, ?_⟩
  have o := (st.le' s1.le).own rc g.c
  have hxl : (cs.flatMap Cell.enc).length = cs.length * 8 := flatMap_len (enc8 cs)
  rcases o.2 with ⟨hv, _⟩ | ⟨gg, cap, hv, hg, hc, _⟩
  · simp only [Value.slice.injEq] at hv; exact absurd hv.1 hs
  · simp only [Value.slice.injEq] at hv
    refine ⟨_, _, s1.own () rfl, .inr ⟨_, cs.flatMap Cell.enc, hv.1, ⟨by rw [hxl, hl], fun j v hj => ?_⟩, oneCell_enc _, by show 0 + s.l ≤ maxLen; simp only [maxLen]; omega, by show (0 + s.l) * 64 ≤ _; omega, fun s' h2 ap => ?_⟩⟩
    · rw [Addr.add_n]
      simp only [H.rd, hg, Nat.zero_add]
      exact hj
    · obtain ⟨s2, _⟩ := s1.app () rfl rfl (by rw [hxl, hl]) ap (fun _ => .arr s' 174 8 (cs.flatMap Cell.enc)) rfl (fun i hi => (hi rfl).elim)
      exact k s' h2 s2
end Go.Proofs.YtimadnngfhbfiaaGreatDoor
end

section
/-
  The program's norm, whole, of points. (Turned to this seat from the other one's text.)
-/
namespace Go.Shape
def sided (bx : List Bool) (es : List Ed) (v d : Nat) : Prop := bx.getD v false = false ∧ 1 < (on es v d).length
/-- An edge that ends where it is. -/
def bad (bx : List Bool) (es : List Ed) (i : Nat) (x : Ed) : Prop :=
  (edge0 (verts bx es bx.length).2 x i (edges (verts bx es bx.length).2 (verts bx es bx.length).1 (es.take i)).1).2.1 = (verts bx es bx.length).2.getD (2 * i + 1) 0
theorem verts_pts {bx : List Bool} {es : List Ed} (hf : ∀ x ∈ bx, x = false) : ∀ n, (verts bx es n).1.length = n ∧ (verts bx es n).2.length = 2 * es.length
  | 0 => by simp [verts]
  | n + 1 => by
    obtain ⟨h1, h2⟩ := verts_pts (es := es) hf n
    have hb : bx.getD n false = false := by
      rw [List.getD_eq_getElem?_getD]
      cases e : bx[n]? with
      | none => rfl
      | some x => exact hf x (List.mem_of_getElem? e)
    rw [verts_succ, vtx, hb, if_neg (by decide), point]
    exact ⟨by simp [h1], by rw [pSides_len]; exact h2⟩
end Go.Shape
namespace Go.Proofs.YtimadnngfhbfiaaGreatDoor
open Go Go.Mu Go.Shape
variable {h h0 : H}

set_option maxHeartbeats 2000000
inductive Ro where
  | cells | first | ends | ways | tmp | cur
  | way (i : Nat)
/-- The reference's norm, by roles. -/
def refM (c f e w : Sl) (cs : List Cell) (fi en : List Nat) (ws : List (Sl × List Nat)) (t u : Res) : Ro → Res
  | .cells => .arr c 174 8 (cs.flatMap Cell.enc)
  | .first => .arr f 3 1 (fi.flatMap encN)
  | .ends => .arr e 178 2 (en.flatMap encN)
  | .ways => .arr w 69 1 (ws.flatMap fun p => [p.1.v])
  | .tmp => t
  | .cur => u
  | .way i => match ws[i]? with
    | some p => .arr p.1 3 1 (p.2.flatMap encN)
    | none => .no
/-- What stays of a maker. -/
structure Mk.Same (m : Mk) (bm bg : Nat) (p0 p1 : Sl) (bx : List Bool) (es : List Ed) : Prop where
  bm : m.bm = bm
  p0 : m.p0 = p0
  p1 : m.p1 = p1
  gr : m.gr = some bg
  nv : m.nv = bx.length
  sds : m.sds = on es

/-- Edges without bends. -/
theorem c49e {K : Bool → H → Prop} (k : K true h) : S49 (bs []) ⟨#[76, 82]⟩ h K := by
  unfold S49 S97
  intro X hX
  refine hX _ _ ?_
  unfold S97_l2 S97_j1
  dsimp only
  rw [if_neg (show ¬ 0 < ByteArray.size (bs []) from by rw [bs_size]; decide)]
  unfold S96
  intro Y hY
  refine hY _ _ ?_
  unfold S96_l2 S96_j1
  dsimp only
  rw [if_neg (by decide), beq_self_eq_true]
  exact k
theorem c18 {p0 p1 : Sl} {bx : List Bool} {es : List Ed} (s : Shp h p0 p1 bx es) (hb0 : ∀ x ∈ es, x.b = []) {K : Int → H → Prop} (k : K 0 h) : S18 p0 p1 h K := by
  have h1 := s.le
  have h2 := s.lb
  have e1 := s.e.len
  have e0 := s.b.len
  unfold S18
  refine lfp.count es.length (fun i (u : Int × Int) h' => h' = h ∧ u.2 = (i : Int) ∧ u.1 = 0) (fun X i u h' hi ⟨q1, q2, q3⟩ next => ?_) ⟨rfl, rfl, rfl⟩
  obtain ⟨u1, u2⟩ := u
  simp only at q2 q3; subst q1 q2 q3
  simp only
  unfold S18_l6
  by_cases hlt : i < es.length
  · obtain ⟨e, he⟩ : ∃ x, es[i]? = some x := ⟨_, List.getElem?_eq_getElem hlt⟩
    rw [if_pos (by simp; omega)]
    obtain ⟨a, ha, hrd⟩ := s.e.ix he
    refine ⟨a, ha, by omega, by omega, e.f, e.t, e.d, bs e.b, by rw [Int.toNat_natCast]; exact hrd, next hlt _ _ ⟨rfl, wsucc (by omega), ?_⟩⟩
    rw [bs_size, hb0 e (List.mem_of_getElem? he)]
    rfl
  · rw [if_neg (by simp; omega)]
    unfold S18_j5
    rw [if_neg (by simp only [decide_eq_true_eq]; split <;> split <;> omega)]
    refine lfp.count es.length (fun i (u : Int) h2 => h2 = h' ∧ u = (i : Int)) (fun Y i u h2 hi2 ⟨q1, q2⟩ next => ?_) ⟨rfl, rfl⟩
    subst q1 q2
    unfold S18_l4 S18_j1
    by_cases hlt : i < es.length
    · obtain ⟨e, he⟩ : ∃ x, es[i]? = some x := ⟨_, List.getElem?_eq_getElem hlt⟩
      have ek := s.ok e (List.mem_of_getElem? he)
      have f1 := ek.f
      have f2 := ek.t
      rw [if_pos (by simp; omega)]
      obtain ⟨a, ha, hrd⟩ := s.e.ix he
      refine ⟨a, ha, by omega, by omega, e.f, e.t, e.d, bs e.b, by rw [Int.toNat_natCast]; exact hrd, ?_⟩
      unfold S18_j3
      rw [if_neg (by simp only [Bool.or_eq_true, decide_eq_true_eq]; split <;> split <;> omega)]
      refine c48 ek.d ?_
      rw [if_neg (by decide), hb0 e (List.mem_of_getElem? he)]
      refine c49e ?_
      unfold S18_j2
      rw [if_neg (by decide), wsucc (by omega)]
      exact next hlt _ _ ⟨rfl, rfl⟩
    · rw [if_neg (by simp; omega)]; exact k
theorem c29 {p0 p1 : Sl} {bx : List Bool} {es : List Ed} (sh : Shp h p0 p1 bx es) (hb0 : ∀ x ∈ es, x.b = []) (hf : ∀ x ∈ bx, x = false) (hsum : bx.length + 3 * es.length ≤ 4096) (hse : es = [] ∨ bx.length ≤ 3000) {K : Sl → Sl → Sl → Int → H → Prop}
    (kerr8 : (∃ v d, v < bx.length ∧ d < 4 ∧ sided bx es v d) → ∀ h', h.Le h' → K Sl.nil Sl.nil Sl.nil 8 h')
    (kerr10 : ¬ (∃ v d, v < bx.length ∧ d < 4 ∧ sided bx es v d) → (∃ i x, es[i]? = some x ∧ bad bx es i x) → ∀ h', h.Le h' → K Sl.nil Sl.nil Sl.nil 10 h')
    (kok : ¬ (∃ v d, v < bx.length ∧ d < 4 ∧ sided bx es v d) → (¬ ∃ i x, es[i]? = some x ∧ bad bx es i x) → ∀ c f w ws h',
      St h h' (refM c f Sl.nil w (edges (verts bx es bx.length).2 (verts bx es bx.length).1 es).1 (firsts bx es bx.length) [] ws .no .no) → ws.map (·.2) = (edges (verts bx es bx.length).2 (verts bx es bx.length).1 es).2 → K c f w 0 h') : S29 p0 p1 h K := by
  have lb := sh.lb
  have le := sh.le
  have e0 := sh.b.len
  have e1 := sh.e.len
  have vl : ∀ n, (verts bx es n).1.length = n ∧ (verts bx es n).2.length = 2 * es.length := verts_pts hf
  unfold S29
  refine c18 sh hb0 ?_
  rw [if_neg (by decide), e1]
  refine ⟨by omega, by omega, by omega, by omega, fun b21 h2 n2 eh2 b23 h3 n3 eh3 => ?_⟩
  rw [Int.toNat_natCast] at eh2 eh3
  -- a maker is made
  have stM : St h h3 (({ bm := b23, p0 := p0, p1 := p1, gr := none, sS := Sl.nil, e := ⟨some ⟨b21, 0, none⟩, es.length, es.length⟩, f := Sl.nil, w := Sl.nil, c := Sl.nil, cs := [], fi := [], en := List.replicate (2 * es.length) 0, ws := [], nv := 0, sd := fun _ _ => Sl.nil, sds := fun _ _ => [] } : Mk).M .no) := by
    have s1 := ((((St.init (ρ := Rm) h).nilArr (e := 174) (size := 8) .cells _ (put_eq _ Rm.cells _) (put_or _ _ _)).nilArr (e := 3) (size := 1) .first _ (put_eq _ Rm.first _) (put_or _ _ _)).nilArr (e := 69) (size := 1) .ways _ (put_eq _ Rm.ways _) (put_or _ _ _)).nilArr (e := 167) (size := 4) .sides _ (put_eq _ Rm.sides _) (put_or _ _ _)
    have hz : ((List.replicate (2 * es.length) 0).flatMap encN).length = es.length * 2 := by rw [flatMap_len (size := 1) (enc1N _)]; simp; omega
    have s2 := s1.allocArr (b := b21) (k := es.length) (cap := es.length) (e := 178) (size := 2) (xs := (List.replicate (2 * es.length) 0).flatMap encN) n2 .ends _ hz (Nat.le_refl _) (by simp only [maxLen]; omega) (put_eq _ _ _) (put_or _ _ _)
    have ez := zeros2 es.length
    rw [ez, hz] at eh2
    rw [← eh2] at s2
    have s3 := s2.alloc (.row ⟨[(.slice p0.a p0.l p0.c), (.slice p1.a p1.l p1.c), (.pointer none), (.slice none 0 0), (.slice (some ⟨b21, 0, none⟩) es.length es.length), (.slice none 0 0), (.slice none 0 0), (.slice none 0 0)], 8, 135, true, true⟩) n3 .mk _ (put_eq _ _ _) (put_or _ _ _)
    rw [← eh3] at s3
    refine s3.re _ id (fun r => ?_) (fun _ _ _ _ e => e)
    cases r <;> first | exact .inl rfl | (right; simp [Mk.M, put]; done) | (left; simp [Mk.M]; done) | (right; simp [Mk.M, Mk.row, put]; done)
  refine c69 sh stM rfl rfl fun m1 h4 em1 st1 => ?_
  have hbm : m1.bm = b23 := by rw [em1]
  have hp0 : m1.p0 = p0 := by rw [em1]
  have hp1 : m1.p1 = p1 := by rw [em1]
  have hnv : m1.nv = bx.length := by rw [em1]
  have hsds : m1.sds = on es := by rw [em1]
  have hcs : m1.cs = [] := by rw [em1]
  have hfi : m1.fi = [] := by rw [em1]
  have hws : m1.ws = [] := by rw [em1]
  have hen : m1.en = List.replicate (2 * es.length) 0 := by rw [em1]
  clear em1
  have hq : (some (⟨b23, 0, none⟩ : Addr)) = some ⟨m1.bm, 0, none⟩ := by rw [hbm]
  rw [hq]
  refine c70 (bx := bx) (es := es) (by rw [hp0, hp1]; exact sh) st1 hnv (fun v d _ _ => by rw [hsds]) hf hsum fun n hn => ?_
  rw [if_neg (by simp only [decide_eq_true_eq]; omega)]
  refine c71 st1 fun bc bg h6 st6 => ?_
  -- the grid is the maker's
  obtain ⟨h7, w7, st7⟩ := st6.wr (vs := [.pointer (some ⟨bg, 0, none⟩)]) (off := 2) (.inl .mk) rfl rfl (by simp [Mk.row]) (put _ (.inl .mk) (.blk m1.bm (.row ({ m1 with gr := some bg } : Mk).row))) (by rw [put_eq]; rfl) (put_or _ _ _)
  refine ⟨h7, by rw [← hbm]; exact w7, ?_⟩
  have st8 : St h h7 (({ m1 with gr := some bg, c := ⟨some ⟨bc, 0, none⟩, 0, 0⟩ } : Mk).M .no) := by
    refine st7.re _ (fun r => match r with | .grid => .inr true | .cells => .inr false | r => .inl r) (fun r => ?_) (fun r r' h1 h2 e => ?_)
    · cases r with
      | cells => right; simp [Mk.M, put, hcs]
      | grid => right; simp [Mk.M, put]
      | mk => right; simp [Mk.M, put, Mk.row]
      | cur => left; rfl
      | _ => right; simp [Mk.M, put]
    · have key : ∀ r : Rm, (match (match r with | .grid => .inr true | .cells => .inr false | r => .inl r : Rm ⊕ Bool) with | .inl r => r | .inr true => Rm.grid | .inr false => Rm.cells) = r := fun r => by cases r <;> rfl
      have := congrArg (fun q : Rm ⊕ Bool => match q with | .inl r => r | .inr true => Rm.grid | .inr false => Rm.cells) e
      rw [← key r, ← key r']; exact this
  refine lfp.count bx.length (fun v (s : Int × Sl × Sl × Sl) h' => s = ((v : Int), Sl.nil, Sl.nil, Sl.nil) ∧ (∀ u d, u < v → d < 4 → ¬ sided bx es u d) ∧ ∃ m : Mk, m.Same b23 bg p0 p1 bx es ∧ m.cs = (verts bx es v).1 ∧ m.en = (verts bx es v).2 ∧ m.fi = firsts bx es v ∧ m.ws = [] ∧ St h h' (m.M .no))
    (fun X v s h' hv ⟨q1, q2, m, sm, mcs, men, mfi, mws, st⟩ next => ?_) ⟨rfl, fun u d hu => by omega, ({ m1 with gr := some bg, c := ⟨some ⟨bc, 0, none⟩, 0, 0⟩ } : Mk), ⟨hbm, hp0, hp1, rfl, hnv, hsds⟩, hcs, hen, hfi, hws, st8⟩
  subst q1
  simp only
  have vlv := vl v
  have hq2 : (some (⟨b23, 0, none⟩ : Addr)) = some ⟨m.bm, 0, none⟩ := by rw [sm.bm]
  unfold S29_l5
  rw [e0]
  by_cases hlt : v < bx.length
  · rw [if_pos (by simp only [decide_eq_true_eq]; omega)]
    obtain ⟨x, hx⟩ : ∃ x, bx[v]? = some x := ⟨_, List.getElem?_eq_getElem hlt⟩
    have hxd : bx.getD v false = x := by rw [List.getD_eq_getElem?_getD, hx]; rfl
    obtain ⟨a, ha, hrd⟩ := sh.b.ix hx
    have g6 : h'.rd ⟨b23, 6, none⟩ = some (.slice m.f.a m.f.l m.f.c) := by have := Mk.at st (off := 6) rfl; rw [Addr.add_n, sm.bm] at this; exact this
    have g2 : h'.rd ⟨b23, 2, none⟩ = some (.pointer (some ⟨bg, 0, none⟩)) := by have := Mk.gp st sm.gr; rw [Addr.add_n, sm.bm] at this; exact this
    refine ⟨a, ha, by omega, by omega, x, by rw [Int.toNat_natCast]; exact (st.le.rdn hrd).at0, m.f, g6, _, g2, c72 (Mk.grd sm.gr) st ⟨g6, ?_⟩⟩
    have hfl : m.f.l = v := by have := (st.arr (enc := encN) .first rfl (enc1N _) (by decide)).1; rw [mfi] at this; simpa [firsts] using this
    refine ⟨_, _, st.own .first rfl, by simp only [maxLen]; omega, by omega, fun f' h8 ap => ?_⟩
    obtain ⟨st9, _⟩ := st.app .first rfl rfl rfl ap (put _ .first (.arr f' 3 1 ((m.fi ++ [m.cs.length]).flatMap encN))) (by rw [put_eq, List.flatMap_append]; rfl) (put_or _ _ _)
    obtain ⟨h10, w10, st10⟩ := st9.wr (vs := [.slice f'.a f'.l f'.c]) (off := 6) .mk (by rw [put_ne _ _ (by simp)]; rfl) rfl (by simp [Mk.row]) (put _ .mk (.blk m.bm (.row ({ m with f := f' } : Mk).row))) (by rw [put_eq]; rfl) (put_or _ _ _)
    have st11 : St h h10 (({ m with f := f', fi := m.fi ++ [m.cs.length] } : Mk).M .no) := by
      refine st10.re _ id (fun r => ?_) (fun _ _ _ _ e => e)
      cases r <;> right <;> simp [put, Mk.M, Mk.row]
    refine ⟨h10, by rw [← sm.bm]; exact w10, ?_⟩
    rw [hq2]
    have hfi2 : m.fi ++ [m.cs.length] = firsts bx es (v + 1) := by rw [firsts_succ, mfi, mcs]
    have has : Mk.Has ({ m with f := f', fi := m.fi ++ [m.cs.length] } : Mk) bx es := ⟨sm.nv, fun v d _ _ => by show m.sds v d = _; rw [sm.sds], by show m.en.length = _; rw [men]; exact vlv.2⟩
    have nosd : (∀ d, d < 4 → ¬ sided bx es v d) → ∀ u d, u < v + 1 → d < 4 → ¬ sided bx es u d := fun hh u d hu hd => by
      by_cases hu2 : u < v
      · exact q2 u d hu2 hd
      · have : u = v := by omega
        subst this; exact hh d hd
    cases x with
    | true => exact absurd (hf true (List.mem_of_getElem? hx)) (by decide)
    | false =>
      rw [if_neg (by decide)]
      refine c74 st11 sm.gr (by show m.cs.length < 4096; rw [mcs]; omega) has hlt le (fun ⟨d, hd, hl⟩ h12 l12 => ?_) (fun hno c' h12 st12 => ?_)
      · rw [if_pos (by decide)]
        exact kerr8 ⟨v, d, hlt, hd, hxd, hl⟩ _ l12
      · rw [if_neg (by decide)]
        unfold S29_j4
        refine next hlt _ _ ⟨by rw [wsucc (by omega)], nosd fun d hd hs => hno ⟨d, hd, hs.2⟩, ({ m with f := f', fi := m.fi ++ [m.cs.length], c := c', cs := m.cs ++ [Cell.empty], en := pSides es v m.cs.length m.en 4 } : Mk), ⟨sm.bm, sm.p0, sm.p1, sm.gr, sm.nv, sm.sds⟩, ?_, ?_, hfi2, mws, st12⟩
        · show m.cs ++ [Cell.empty] = _
          rw [verts_succ, vtx, hxd, if_neg (by decide), mcs]; rfl
        · show pSides es v m.cs.length m.en 4 = _
          rw [verts_succ, vtx, hxd, if_neg (by decide), mcs, men]; rfl
  · rw [if_neg (by simp only [decide_eq_true_eq]; omega)]
    have hvl : v = bx.length := by omega
    subst hvl
    clear next
    have hno : ¬ (∃ v d, v < bx.length ∧ d < 4 ∧ sided bx es v d) := fun ⟨u, d, hu, hd, hs⟩ => q2 u d hu hd hs
    have hbad : ∀ i x, bad bx es i x ↔ (edge0 (verts bx es bx.length).2 x i (edges (verts bx es bx.length).2 (verts bx es bx.length).1 (es.take i)).1).2.1 = (verts bx es bx.length).2.getD (2 * i + 1) 0 := fun i x => Iff.rfl
    generalize hV : verts bx es bx.length = V at mcs men vlv hbad kok
    unfold S29_j3
    refine lfp.count es.length (fun i (s : Int × Sl × Sl × Sl) h' => s = ((i : Int), Sl.nil, Sl.nil, Sl.nil) ∧ (∀ j x, j < i → es[j]? = some x → ¬ bad bx es j x) ∧ ∃ m : Mk, m.Same b23 bg p0 p1 bx es ∧ m.cs = (edges V.2 V.1 (es.take i)).1 ∧ m.en = V.2 ∧ m.fi = firsts bx es bx.length ∧ m.ws.map (·.2) = (edges V.2 V.1 (es.take i)).2 ∧ St h h' (m.M .no))
      (fun X i s h' hi ⟨q1, q2, m, sm, mcs, men, mfi, mws, st⟩ next => ?_) ⟨rfl, fun j x hj => by omega, m, sm, mcs, men, mfi, by rw [mws]; rfl, st⟩
    subst q1
    simp only
    have hq3 : (some (⟨b23, 0, none⟩ : Addr)) = some ⟨m.bm, 0, none⟩ := by rw [sm.bm]
    have el := edges_len (en := V.2) (cs := V.1) sh.ok i
    have hwsl : m.ws.length = i := by
      have := congrArg List.length mws
      rw [List.length_map, el.2] at this; omega
    unfold S29_l2
    rw [e1]
    by_cases hlt2 : i < es.length
    · rw [if_pos (by simp only [decide_eq_true_eq]; omega)]
      obtain ⟨x, hx⟩ : ∃ x, es[i]? = some x := ⟨_, List.getElem?_eq_getElem hlt2⟩
      rw [hq3]
      refine c75 (bx := bx) (es := es) (by rw [sm.p0, sm.p1]; exact sh) st sm.gr (by
        have hb3 : bx.length ≤ 3000 := hse.resolve_left fun q => by rw [q] at hlt2; simp at hlt2
        rw [mcs]; omega) (by rw [men]; exact vlv.2) hx (by omega) (fun hb h2 l2 => ?_) (fun hb c' w' wy h2 st2 => ?_)
      · rw [if_pos (by decide)]
        rw [men, mcs] at hb
        exact kerr10 hno ⟨i, x, hx, (hbad i x).2 hb⟩ _ l2
      · rw [if_neg (by decide)]
        have hE : edges V.2 V.1 (es.take (i + 1)) = edge V.2 (edges V.2 V.1 (es.take i)) (x, i) := edges_take hx
        refine next hlt2 _ _ ⟨by rw [wsucc (by omega)], fun j y hj hy => ?_, ({ m with c := c', w := w', cs := join (edge0 m.en x i m.cs).1 (edge0 m.en x i m.cs).2.1 (edge0 m.en x i m.cs).2.2.1 (m.en.getD (2 * i + 1) 0) i, ws := m.ws ++ [(wy, (edge0 m.en x i m.cs).2.2.2 ++ [m.en.getD (2 * i + 1) 0])] } : Mk), ⟨sm.bm, sm.p0, sm.p1, sm.gr, sm.nv, sm.sds⟩, ?_, men, mfi, ?_, st2⟩
        · by_cases hj2 : j < i
          · exact q2 j y hj2 hy
          · have : j = i := by omega
            subst this
            rw [hx] at hy; cases hy
            intro hb2
            rw [hbad, ← mcs, ← men] at hb2
            exact hb hb2
        · rw [hE]; simp only [edge, men, mcs]
        · rw [hE]; simp only [List.map_append, mws, edge, men, mcs]; rfl
    · rw [if_neg (by simp only [decide_eq_true_eq]; omega)]
      rw [List.take_of_length_le (by omega)] at mcs mws el
      have hnb : ¬ ∃ i x, es[i]? = some x ∧ bad bx es i x := fun ⟨j, x, hx, hb⟩ => q2 j x (by have := (List.getElem?_eq_some_iff.1 hx).1; omega) hx hb
      have g2 : h'.rd ⟨b23, 2, none⟩ = some (.pointer (some ⟨bg, 0, none⟩)) := by have := Mk.gp st sm.gr; rw [Addr.add_n, sm.bm] at this; exact this
      unfold S29_j1
      refine ⟨_, g2, c76 st (Mk.grd sm.gr) (by rw [mcs]; omega) fun s' h2 st2 => ?_⟩
      have st3 := st.plus st2
      obtain ⟨h4, w4, st4⟩ := st3.wr (vs := [.slice s'.a s'.l s'.c]) (off := 5) (.inl .mk) rfl rfl (by simp [Mk.row]) (put _ (.inl .mk) (.blk m.bm (.row ⟨[m.p0.v, m.p1.v, .pointer (m.gr.map fun b => ⟨b, 0, none⟩), m.sS.v, m.e.v, s'.v, m.f.v, m.w.v], 8, 135, true, true⟩))) (by rw [put_eq]; rfl) (put_or _ _ _)
      refine ⟨h4, by rw [← sm.bm]; exact w4, s', m.f, m.w, ⟨rfl, fun j y hj => ?_⟩, kok hno hnb s' m.f m.w m.ws h4 ?_ mws⟩
      · have r5 : ∀ off y, ([m.p0.v, m.p1.v, .pointer (m.gr.map fun b => ⟨b, 0, none⟩), m.sS.v, m.e.v, s'.v, m.f.v, m.w.v] : List Value)[off]? = some y → h4.rd ⟨m.bm, off, none⟩ = some y := fun off y hy => st4.rd (.inl .mk) (put_eq _ _ _) hy
        rw [Addr.add_n, ← sm.bm]
        match j, hj with
        | 0, hj => exact r5 5 y hj
        | 1, hj => exact r5 6 y hj
        | 2, hj => exact r5 7 y hj
        | j + 3, hj => simp at hj
      · have st5 := st4.nilArr (e := 178) (size := 2) (.inl .mk) (put _ (.inl .mk) (.arr Sl.nil 178 2 [])) (put_eq _ _ _) (put_or _ _ _)
        refine st5.re _ (fun r => match r with | .cells => .inr () | .first => .inl .first | .ways => .inl .ways | .way i => .inl (.way i) | .ends => .inl .mk | .tmp => .inl .cur | .cur => .inl .grid) (fun r => ?_) (fun r r' h1 h2 e => ?_)
        · cases r with
          | cells => right; rw [put_ne _ _ (by simp), put_ne _ _ (by simp)]; simp only [refM, mcs]
          | first => right; rw [put_ne _ _ (by simp), put_ne _ _ (by simp)]; simp only [refM, Mk.M, mfi]
          | ends => right; rw [put_eq]; rfl
          | ways => right; rw [put_ne _ _ (by simp), put_ne _ _ (by simp)]; rfl
          | tmp => left; rfl
          | cur => left; rfl
          | way i => right; rw [put_ne _ _ (by simp), put_ne _ _ (by simp)]; rfl
        · have key : ∀ r : Ro, (match (match r with | .cells => .inr () | .first => .inl .first | .ways => .inl .ways | .way i => .inl (.way i) | .ends => .inl .mk | .tmp => .inl .cur | .cur => .inl .grid : Rm ⊕ Unit) with | .inr _ => Ro.cells | .inl .first => .first | .inl .ways => .ways | .inl (.way i) => .way i | .inl .mk => .ends | .inl .cur => .tmp | .inl _ => .cur) = r := fun r => by cases r <;> rfl
          have := congrArg (fun q : Rm ⊕ Unit => match q with | .inr _ => Ro.cells | .inl .first => .first | .inl .ways => .ways | .inl (.way i) => .way i | .inl .mk => .ends | .inl .cur => .tmp | .inl _ => .cur) e
          rw [← key r, ← key r']; exact this
end Go.Proofs.YtimadnngfhbfiaaGreatDoor
end

section
/- PRINTED by wip/gen.py: what muntin/trace.many does, in the words of Mu. -/
namespace Go.Proofs.YtimadnngfhbfiaaGreatDoor
open Go Go.Mu
/- muntin/trace.many -/
def S64_j1 (K : Bool → H → Prop) (v2 : Bool) (h_2 : H) : Prop :=
  K v2 h_2
def S64_j2 (p0_0 : Sl) (p0_1 : Sl) (K : Bool → H → Prop) (v3 : Int) (h_1 : H) : Prop :=
  S64_j1 K ((decide ((if (p0_1.l : Int) > (p0_0.l : Int) then (p0_1.l : Int) else (p0_0.l : Int)) > 4096)) || (decide (v3 > 12288))) h_1
def S64_l3 (p0_0 : Sl) (p0_1 : Sl) (K : Bool → H → Prop) (X : (Int × Int) → H → Prop) (v3_1 : Int) (v9 : Int) (h_3 : H) : Prop :=
  (if (decide (v9 < (p0_1.l : Int))) = true then (∃ a11 : Addr, p0_1.a = some a11 ∧ 0 ≤ v9 ∧ v9 < (p0_1.l : Int) ∧ (∃ (v12_0 : Int) (v12_1 : Int) (v12_2 : Sl), H.rdn h_3 (Addr.add a11 (Int.toNat v9 * 3)) 3 [(.int .i64 v12_0), (.int .i64 v12_1), (.slice v12_2.a v12_2.l v12_2.c)] ∧ X ((IntKind.wrap .i64 (v3_1 + (v12_2.l : Int))), (IntKind.wrap .i64 (v9 + 1))) h_3)) else S64_j2 p0_0 p0_1 K v3_1 h_3)
def S64 (p0_0 : Sl) (p0_1 : Sl) (h : H) (K : Bool → H → Prop) : Prop :=
  lfp (fun X s h_3 => S64_l3 p0_0 p0_1 K X s.1 s.2 h_3) (0, 0) h
end Go.Proofs.YtimadnngfhbfiaaGreatDoor
end

section
/- PRINTED by wip/gen.py: what muntin/trace.far does, in the words of Mu. -/
namespace Go.Proofs.YtimadnngfhbfiaaGreatDoor
open Go Go.Mu
/- muntin/trace.far -/
def S110_j1 (K : Bool → H → Prop) (v2 : Bool) (h_1 : H) : Prop :=
  K v2 h_1
def S110 (p0_0 : Int) (p0_1 : Int) (h : H) (K : Bool → H → Prop) : Prop :=
  S110_j1 K ((decide ((if p0_1 > p0_0 then p0_1 else p0_0) > 1000000)) || (decide ((if p0_1 < p0_0 then p0_1 else p0_0) < (-1000000)))) h
end Go.Proofs.YtimadnngfhbfiaaGreatDoor
end

section
/- PRINTED by wip/gen.py: what muntin/trace.box does, in the words of Mu. -/
namespace Go.Proofs.YtimadnngfhbfiaaGreatDoor
open Go Go.Mu
/- muntin/trace.box -/
def S65_j1 (K : Bool → H → Prop) (v2 : Bool) (h_2 : H) : Prop :=
  K v2 h_2
def S65_j2 (p0_0 : Int) (p0_1 : Int) (p0_2 : Int) (p0_3 : Int) (K : Bool → H → Prop) (v3 : Bool) (h_1 : H) : Prop :=
  S110 p0_0 p0_1 h_1 (fun (v22 : Bool) (h_3 : H) => (if (!v22) = true then S110 p0_2 p0_3 h_3 (fun (v27 : Bool) (h_4 : H) => (if (!v27) = true then (if ((p0_0 == p0_2) && ((p0_1 == p0_3) && true)) = true then S65_j1 K true h_4 else S65_j1 K v3 h_4) else S65_j1 K false h_4)) else S65_j1 K false h_3))
def S65 (p0_0 : Int) (p0_1 : Int) (p0_2 : Int) (p0_3 : Int) (h : H) (K : Bool → H → Prop) : Prop :=
  S65_j2 p0_0 p0_1 p0_2 p0_3 K ((decide (p0_0 < p0_2)) && (decide (p0_1 < p0_3))) h
end Go.Proofs.YtimadnngfhbfiaaGreatDoor
end

section
/- PRINTED by wip/gen.py: what muntin/compass.Between does, in the words of Mu. -/
namespace Go.Proofs.YtimadnngfhbfiaaGreatDoor
open Go Go.Mu
/- muntin/compass.Between -/
def S143 (p0_0 : Int) (p0_1 : Int) (p1_0 : Int) (p1_1 : Int) (h : H) (K : Int → Bool → H → Prop) : Prop :=
  (if ((p0_0 == p1_0) == (p0_1 == p1_1)) = true then K 0 false h else (if (decide (p0_0 < p1_0)) = true then K 0 true h else (if (decide (p0_0 > p1_0)) = true then K 2 true h else (if (decide (p0_1 < p1_1)) = true then K 1 true h else K 3 true h))))
end Go.Proofs.YtimadnngfhbfiaaGreatDoor
end

section
/- PRINTED by wip/gen.py: what muntin/trace.edge does, in the words of Mu. -/
namespace Go.Proofs.YtimadnngfhbfiaaGreatDoor
open Go Go.Mu
/- muntin/trace.edge -/
def S111_j1 (K : Int → Int → Int → ByteArray → Int → Int → H → Prop) (v6 : Int) (c5_0_1 : Int) (c5_1_1 : Int) (c5_2_1 : Int) (c5_3_1 : ByteArray) (c2_0_1 : Int) (c2_1_1 : Int) (c2_2_1 : Int) (c2_3_1 : ByteArray) (h_2 : H) : Prop :=
  K c5_0_1 c5_1_1 c5_2_1 c5_3_1 v6 0 h_2
def S111_l2 (p0_2 : Sl) (K : Int → Int → Int → ByteArray → Int → Int → H → Prop) (v6_1 : Int) (v10 : Int) (c5_0_2 : Int) (c5_1_2 : Int) (c5_2_2 : Int) (c5_3_2 : ByteArray) (c2_0_2 : Int) (c2_1_2 : Int) (c2_2_2 : Int) (c2_3_2 : ByteArray) (h_3 : H) : Prop :=
  (if (decide (v10 < (p0_2.l : Int))) = true then False else S111_j1 K v6_1 c5_0_2 c5_1_2 c5_2_2 c5_3_2 c2_0_2 c2_1_2 c2_2_2 c2_3_2 h_3)
def S111_j3 (p0_2 : Sl) (K : Int → Int → Int → ByteArray → Int → Int → H → Prop) (c5_0 : Int) (c5_1 : Int) (c5_2 : Int) (c5_3 : ByteArray) (c2_0 : Int) (c2_1 : Int) (c2_2 : Int) (c2_3 : ByteArray) (h_1 : H) : Prop :=
  lfp (fun X s h_3 => S111_l2 p0_2 K s.1 s.2.1 s.2.2.1 s.2.2.2.1 s.2.2.2.2.1 s.2.2.2.2.2.1 s.2.2.2.2.2.2.1 s.2.2.2.2.2.2.2.1 s.2.2.2.2.2.2.2.2.1 s.2.2.2.2.2.2.2.2.2 h_3) (c5_2, 2, c5_0, c5_1, c5_2, c5_3, c2_0, c2_1, c2_2, c2_3) h_1
def S111_j4 (v7 : Int) (c2_0_3 : Int) (c2_1_3 : Int) (c2_2_3 : Int) (c2_3_3 : ByteArray) (X_1 : (Int × Int × Int × Int × Int × ByteArray × Int × Int × Int × ByteArray) → H → Prop) (v37_0 : Int) (c5_0_4 : Int) (c5_1_4 : Int) (c5_2_4 : Int) (c5_3_4 : ByteArray) (h_6 : H) : Prop :=
  X_1 (v37_0, (IntKind.wrap .i64 (v7 + 1)), c5_0_4, c5_1_4, c5_2_4, c5_3_4, c2_0_3, c2_1_3, c2_2_3, c2_3_3) h_6
def S111_l5 (p0_2 : Sl) (K : Int → Int → Int → ByteArray → Int → Int → H → Prop) (X_1 : (Int × Int × Int × Int × Int × ByteArray × Int × Int × Int × ByteArray) → H → Prop) (v6_2 : Int) (v7 : Int) (c5_0_3 : Int) (c5_1_3 : Int) (c5_2_3 : Int) (c5_3_3 : ByteArray) (c2_0_3 : Int) (c2_1_3 : Int) (c2_2_3 : Int) (c2_3_3 : ByteArray) (h_4 : H) : Prop :=
  (if (decide (v7 < (p0_2.l : Int))) = true then (∃ a30 : Addr, p0_2.a = some a30 ∧ 0 ≤ (IntKind.wrap .i64 (v7 - 1)) ∧ (IntKind.wrap .i64 (v7 - 1)) < (p0_2.l : Int) ∧ (∃ (v31_0 : Int) (v31_1 : Int), H.rdn h_4 (Addr.add a30 (Int.toNat (IntKind.wrap .i64 (v7 - 1)) * 2)) 2 [(.int .i64 v31_0), (.int .i64 v31_1)] ∧ (∃ a35 : Addr, p0_2.a = some a35 ∧ 0 ≤ v7 ∧ v7 < (p0_2.l : Int) ∧ (∃ (v36_0 : Int) (v36_1 : Int), H.rdn h_4 (Addr.add a35 (Int.toNat v7 * 2)) 2 [(.int .i64 v36_0), (.int .i64 v36_1)] ∧ S143 v31_0 v31_1 v36_0 v36_1 h_4 (fun (v37_0 : Int) (v37_1 : Bool) (h_5 : H) => (if (!v37_1) = true then K 0 0 0 ⟨#[]⟩ 0 15 h_5 else (if (decide (v6_2 < 0)) = true then S111_j4 v7 c2_0_3 c2_1_3 c2_2_3 c2_3_3 X_1 v37_0 c5_0_3 c5_1_3 v37_0 c5_3_3 h_5 else S111_j4 v7 c2_0_3 c2_1_3 c2_2_3 c2_3_3 X_1 v37_0 c5_0_3 c5_1_3 c5_2_3 c5_3_3 h_5))))))) else S111_j3 p0_2 K c5_0_3 c5_1_3 c5_2_3 c5_3_3 c2_0_3 c2_1_3 c2_2_3 c2_3_3 h_4)
def S111 (p0_0 : Int) (p0_1 : Int) (p0_2 : Sl) (h : H) (K : Int → Int → Int → ByteArray → Int → Int → H → Prop) : Prop :=
  lfp (fun X_1 s h_4 => S111_l5 p0_2 K X_1 s.1 s.2.1 s.2.2.1 s.2.2.2.1 s.2.2.2.2.1 s.2.2.2.2.2.1 s.2.2.2.2.2.2.1 s.2.2.2.2.2.2.2.1 s.2.2.2.2.2.2.2.2.1 s.2.2.2.2.2.2.2.2.2 h_4) ((-1), 1, p0_0, p0_1, 0, ⟨#[]⟩, 0, 0, 0, ⟨#[]⟩) h
end Go.Proofs.YtimadnngfhbfiaaGreatDoor
end

section
/- PRINTED by wip/gen.py: what muntin/trace.on does, in the words of Mu. -/
namespace Go.Proofs.YtimadnngfhbfiaaGreatDoor
open Go Go.Mu
/- muntin/trace.on -/
def S112_j1 (K : Bool → H → Prop) (v6 : Bool) (h_3 : H) : Prop :=
  K v6 h_3
def S112_j2 (K : Bool → H → Prop) (v6_1 : Bool) (h_4 : H) : Prop :=
  K v6_1 h_4
def S112_j3 (K : Bool → H → Prop) (v6_2 : Bool) (h_5 : H) : Prop :=
  K v6_2 h_5
def S112_j4 (K : Bool → H → Prop) (v6_3 : Bool) (h_6 : H) : Prop :=
  K v6_3 h_6
def S112_j5 (p0_0 : Int) (p0_1 : Int) (p0_2 : Int) (p0_3 : Int) (p1 : Int) (p2_0 : Int) (p2_1 : Int) (K : Bool → H → Prop) (v7 : Bool) (v8 : Bool) (h_2 : H) : Prop :=
  (if (p1 == 0) = true then S112_j1 K (v7 && (p2_0 == p0_2)) h_2 else (if (p1 == 1) = true then S112_j2 K (v8 && (p2_1 == p0_3)) h_2 else (if (p1 == 2) = true then S112_j3 K (v7 && (p2_0 == p0_0)) h_2 else S112_j4 K (v8 && (p2_1 == p0_1)) h_2)))
def S112_j6 (p0_0 : Int) (p0_1 : Int) (p0_2 : Int) (p0_3 : Int) (p1 : Int) (p2_0 : Int) (p2_1 : Int) (K : Bool → H → Prop) (v7 : Bool) (h_1 : H) : Prop :=
  S112_j5 p0_0 p0_1 p0_2 p0_3 p1 p2_0 p2_1 K v7 ((decide (p0_0 < p2_0)) && (decide (p2_0 < p0_2))) h_1
def S112 (p0_0 : Int) (p0_1 : Int) (p0_2 : Int) (p0_3 : Int) (p1 : Int) (p2_0 : Int) (p2_1 : Int) (h : H) (K : Bool → H → Prop) : Prop :=
  (if ((p0_0 == p0_2) && ((p0_1 == p0_3) && true)) = true then K ((p2_0 == p0_0) && ((p2_1 == p0_1) && true)) h else False)
end Go.Proofs.YtimadnngfhbfiaaGreatDoor
end

section
/- PRINTED by wip/gen.py: what muntin/trace.route does, in the words of Mu. -/
namespace Go.Proofs.YtimadnngfhbfiaaGreatDoor
open Go Go.Mu
/- muntin/trace.route -/
def S66_j1 (K : Int → Int → Int → ByteArray → Int → H → Prop) (v49_0_0 : Int) (v49_0_1 : Int) (v49_0_2 : Int) (v49_0_3 : ByteArray) (v92 : Bool) (h_4 : H) : Prop :=
  (if v92 = true then K 0 0 0 ⟨#[]⟩ 9 h_4 else K v49_0_0 v49_0_1 v49_0_2 v49_0_3 0 h_4)
def S66_j2 (p0_0 : Sl) (p1_0 : Int) (p1_1 : Int) (p1_2 : Sl) (K : Int → Int → Int → ByteArray → Int → H → Prop) (c4_0 : Int) (c4_1 : Int) (c4_2 : Int) (c4_3 : ByteArray) (h_2 : H) : Prop :=
  S111 p1_0 p1_1 p1_2 h_2 (fun (v49_0_0 : Int) (v49_0_1 : Int) (v49_0_2 : Int) (v49_0_3 : ByteArray) (v49_1 : Int) (v49_2 : Int) (h_3 : H) => (if (v49_2 != 0) = true then K 0 0 0 ⟨#[]⟩ v49_2 h_3 else (∃ a59 : Addr, p1_2.a = some a59 ∧ 0 ≤ (0 : Int) ∧ 0 < (p1_2.l : Int) ∧ (∃ (v60_0 : Int) (v60_1 : Int), H.rdn h_3 (Addr.add a59 (Int.toNat 0 * 2)) 2 [(.int .i64 v60_0), (.int .i64 v60_1)] ∧ (∃ a67 : Addr, p1_2.a = some a67 ∧ 0 ≤ (IntKind.wrap .i64 ((p1_2.l : Int) - 1)) ∧ (IntKind.wrap .i64 ((p1_2.l : Int) - 1)) < (p1_2.l : Int) ∧ (∃ (v68_0 : Int) (v68_1 : Int), H.rdn h_3 (Addr.add a67 (Int.toNat (IntKind.wrap .i64 ((p1_2.l : Int) - 1)) * 2)) 2 [(.int .i64 v68_0), (.int .i64 v68_1)] ∧ H.rdn h_3 (Addr.add a67 (Int.toNat (IntKind.wrap .i64 ((p1_2.l : Int) - 1)) * 2)) 2 [(.int .i64 v68_0), (.int .i64 v68_1)] ∧ (∃ a73 : Addr, p0_0.a = some a73 ∧ 0 ≤ p1_0 ∧ p1_0 < (p0_0.l : Int) ∧ (∃ (v74_0 : Int) (v74_1 : Int) (v74_2 : Int) (v74_3 : Int), H.rdn h_3 (Addr.add a73 (Int.toNat p1_0 * 4)) 4 [(.int .i64 v74_0), (.int .i64 v74_1), (.int .i64 v74_2), (.int .i64 v74_3)] ∧ S112 v74_0 v74_1 v74_2 v74_3 v49_0_2 v60_0 v60_1 h_3 (fun (v78 : Bool) (h_5 : H) => (if (!v78) = true then S66_j1 K v49_0_0 v49_0_1 v49_0_2 v49_0_3 true h_5 else (∃ a85 : Addr, p0_0.a = some a85 ∧ 0 ≤ p1_1 ∧ p1_1 < (p0_0.l : Int) ∧ (∃ (v86_0 : Int) (v86_1 : Int) (v86_2 : Int) (v86_3 : Int), H.rdn h_5 (Addr.add a85 (Int.toNat p1_1 * 4)) 4 [(.int .i64 v86_0), (.int .i64 v86_1), (.int .i64 v86_2), (.int .i64 v86_3)] ∧ S104 v49_1 2 h_5 (fun (v88 : Int) (h_6 : H) => H.rdn h_6 (Addr.add a85 (Int.toNat p1_1 * 4)) 4 [(.int .i64 v86_0), (.int .i64 v86_1), (.int .i64 v86_2), (.int .i64 v86_3)] ∧ S112 v86_0 v86_1 v86_2 v86_3 v88 v68_0 v68_1 h_6 (fun (v90 : Bool) (h_7 : H) => S66_j1 K v49_0_0 v49_0_1 v49_0_2 v49_0_3 (!v90) h_7))))))))))))))
def S66_l3 (p0_0 : Sl) (p1_0 : Int) (p1_1 : Int) (p1_2 : Sl) (K : Int → Int → Int → ByteArray → Int → H → Prop) (X : (Int × Int × Int × Int × ByteArray) → H → Prop) (v39 : Int) (c4_0_1 : Int) (c4_1_1 : Int) (c4_2_1 : Int) (c4_3_1 : ByteArray) (h_8 : H) : Prop :=
  (if (decide (v39 < (p1_2.l : Int))) = true then (∃ a41 : Addr, p1_2.a = some a41 ∧ 0 ≤ v39 ∧ v39 < (p1_2.l : Int) ∧ (∃ (v42_0 : Int) (v42_1 : Int), H.rdn h_8 (Addr.add a41 (Int.toNat v39 * 2)) 2 [(.int .i64 v42_0), (.int .i64 v42_1)] ∧ S110 v42_0 v42_1 h_8 (fun (v44 : Bool) (h_9 : H) => (if v44 = true then K 0 0 0 ⟨#[]⟩ 2 h_9 else X ((IntKind.wrap .i64 (v39 + 1)), c4_0_1, c4_1_1, c4_2_1, c4_3_1) h_9)))) else S66_j2 p0_0 p1_0 p1_1 p1_2 K c4_0_1 c4_1_1 c4_2_1 c4_3_1 h_8)
def S66_j4 (p0_0 : Sl) (p1_0 : Int) (p1_1 : Int) (p1_2 : Sl) (K : Int → Int → Int → ByteArray → Int → H → Prop) (v29 : Bool) (h_1 : H) : Prop :=
  (if v29 = true then K 0 0 0 ⟨#[]⟩ 3 h_1 else (if (decide ((p1_2.l : Int) < 2)) = true then K 0 0 0 ⟨#[]⟩ 2 h_1 else lfp (fun X s h_8 => S66_l3 p0_0 p1_0 p1_1 p1_2 K X s.1 s.2.1 s.2.2.1 s.2.2.2.1 s.2.2.2.2 h_8) (0, 0, 0, 0, ⟨#[]⟩) h_1))
def S66 (p0_0 : Sl) (p0_1 : Sl) (p1_0 : Int) (p1_1 : Int) (p1_2 : Sl) (h : H) (K : Int → Int → Int → ByteArray → Int → H → Prop) : Prop :=
  S66_j4 p0_0 p1_0 p1_1 p1_2 K ((decide ((if p1_1 < p1_0 then p1_1 else p1_0) < 0)) || (decide ((if p1_1 > p1_0 then p1_1 else p1_0) ≥ (p0_0.l : Int)))) h
end Go.Proofs.YtimadnngfhbfiaaGreatDoor
end

section
/- PRINTED by wip/gen.py: what muntin/trace.ends does, in the words of Mu. -/
namespace Go.Proofs.YtimadnngfhbfiaaGreatDoor
open Go Go.Mu
/- muntin/trace.ends -/
def S67_j1 (p0_0 : Sl) (K : Sl → H → Prop) (b17 : Nat) (h_2 : H) : Prop :=
  K ⟨some ⟨b17, 0, none⟩, Int.toNat (p0_0.l : Int), Int.toNat (p0_0.l : Int)⟩ h_2
def S67_j2 (p0_0 : Sl) (b17 : Nat) (v21 : Int) (X : Int → H → Prop) (v25_0 : Int) (v25_1 : Int) (v25_2 : Int) (v30_2 : Sl) (v9 : Int) (h_4 : H) : Prop :=
  (∃ a50 : Addr, some ⟨b17, 0, none⟩ = some a50 ∧ 0 ≤ v25_0 ∧ v25_0 < ((Int.toNat (p0_0.l : Int)) : Int) ∧ (0 ≤ v25_2 ∧ v25_2 < (4 : Int) ∧ (∃ a57 : Addr, some ⟨b17, 0, none⟩ = some a57 ∧ 0 ≤ v25_1 ∧ v25_1 < ((Int.toNat (p0_0.l : Int)) : Int) ∧ S104 v9 2 h_4 (fun (v56 : Int) (h_5 : H) => (0 ≤ v56 ∧ v56 < (4 : Int) ∧ (∃ (v62 : Sl), H.rd h_5 (Addr.add (Addr.add a50 (Int.toNat v25_0 * 4)) (Int.toNat v25_2 * 1)) = some (.slice v62.a v62.l v62.c) ∧ (∃ a65 : Addr, v30_2.a = some a65 ∧ 0 ≤ (0 : Int) ∧ 0 < (v30_2.l : Int) ∧ (∃ (v66_0 : Int) (v66_1 : Int), H.rdn h_5 (Addr.add a65 (Int.toNat 0 * 2)) 2 [(.int .i64 v66_0), (.int .i64 v66_1)] ∧ app 77 2 16 v62 1 [(.int .i64 v66_0), (.int .i64 v66_1)] h_5 (fun (v68 : Sl) (h_6 : H) => (∃ h_7 : H, H.wr h_6 (Addr.add (Addr.add a50 (Int.toNat v25_0 * 4)) (Int.toNat v25_2 * 1)) [(.slice v68.a v68.l v68.c)] h_7 ∧ (∃ (v73 : Sl), H.rd h_7 (Addr.add (Addr.add a57 (Int.toNat v25_1 * 4)) (Int.toNat v56 * 1)) = some (.slice v73.a v73.l v73.c) ∧ (∃ a80 : Addr, v30_2.a = some a80 ∧ 0 ≤ (IntKind.wrap .i64 ((v30_2.l : Int) - 1)) ∧ (IntKind.wrap .i64 ((v30_2.l : Int) - 1)) < (v30_2.l : Int) ∧ (∃ (v81_0 : Int) (v81_1 : Int), H.rdn h_7 (Addr.add a80 (Int.toNat (IntKind.wrap .i64 ((v30_2.l : Int) - 1)) * 2)) 2 [(.int .i64 v81_0), (.int .i64 v81_1)] ∧ app 77 2 16 v73 1 [(.int .i64 v81_0), (.int .i64 v81_1)] h_7 (fun (v83 : Sl) (h_8 : H) => (∃ h_9 : H, H.wr h_8 (Addr.add (Addr.add a57 (Int.toNat v25_1 * 4)) (Int.toNat v56 * 1)) [(.slice v83.a v83.l v83.c)] h_9 ∧ X (IntKind.wrap .i64 (v21 + 1)) h_9)))))))))))))))
def S67_l3 (p0_0 : Sl) (b17 : Nat) (v21 : Int) (X : Int → H → Prop) (v25_0 : Int) (v25_1 : Int) (v25_2 : Int) (v25_3 : ByteArray) (v30_2 : Sl) (v9_1 : Int) (c35_1 : Nat) (h_10 : H) : Prop :=
  (if c35_1 < ByteArray.size v25_3 then False else S67_j2 p0_0 b17 v21 X v25_0 v25_1 v25_2 v30_2 v9_1 h_10)
def S67_l4 (p0_0 : Sl) (p0_1 : Sl) (p1_1 : Sl) (K : Sl → H → Prop) (b17 : Nat) (X : Int → H → Prop) (v21 : Int) (h_3 : H) : Prop :=
  (if (decide (v21 < (p1_1.l : Int))) = true then (∃ a24 : Addr, p1_1.a = some a24 ∧ 0 ≤ v21 ∧ v21 < (p1_1.l : Int) ∧ (∃ (v25_0 : Int) (v25_1 : Int) (v25_2 : Int) (v25_3 : ByteArray), H.rdn h_3 (Addr.add a24 (Int.toNat v21 * 4)) 4 [(.int .i64 v25_0), (.int .i64 v25_1), (.int .i64 v25_2), (.string v25_3)] ∧ (∃ a29 : Addr, p0_1.a = some a29 ∧ 0 ≤ v21 ∧ v21 < (p0_1.l : Int) ∧ (∃ (v30_0 : Int) (v30_1 : Int) (v30_2 : Sl), H.rdn h_3 (Addr.add a29 (Int.toNat v21 * 3)) 3 [(.int .i64 v30_0), (.int .i64 v30_1), (.slice v30_2.a v30_2.l v30_2.c)] ∧ lfp (fun X_1 s h_10 => S67_l3 p0_0 b17 v21 X v25_0 v25_1 v25_2 v25_3 v30_2 s.1 s.2 h_10) (v25_2, 0) h_3)))) else S67_j1 p0_0 K b17 h_3)
def S67 (p0_0 : Sl) (p0_1 : Sl) (p1_0 : Sl) (p1_1 : Sl) (h : H) (K : Sl → H → Prop) : Prop :=
  ((0 : Int) ≤ (p0_0.l : Int) ∧ (p0_0.l : Int) ≤ (p0_0.l : Int) ∧ 96 * (p0_0.l : Int) ≤ (281474976710656 : Int) ∧ (p0_0.l : Int) ≤ 9223372036854775807 ∧ (∀ (b17 : Nat) (h_1 : H), h b17 = none → h_1 = H.set h b17 (.row ⟨zeros (.agg #[(.slice none 0 0), (.slice none 0 0), (.slice none 0 0), (.slice none 0 0)]) (Int.toNat (p0_0.l : Int) * 4), (zeros (.agg #[(.slice none 0 0), (.slice none 0 0), (.slice none 0 0), (.slice none 0 0)]) (Int.toNat (p0_0.l : Int) * 4)).length, 128, true, true⟩) → lfp (fun X s h_3 => S67_l4 p0_0 p0_1 p1_1 K b17 X s h_3) 0 h_1))
end Go.Proofs.YtimadnngfhbfiaaGreatDoor
end

section
/- BY HAND: muntin/trace.rises: never called here. -/
namespace Go.Proofs.YtimadnngfhbfiaaGreatDoor
open Go Go.Mu
def S68 (_p0 : Int) (_p1 : Sl) (_h : H) (_K : Bool → H → Prop) : Prop := False
end Go.Proofs.YtimadnngfhbfiaaGreatDoor
end

section
/- PRINTED by wip/gen.py: what muntin/trace.shape does, in the words of Mu. -/
namespace Go.Proofs.YtimadnngfhbfiaaGreatDoor
open Go Go.Mu
/- muntin/trace.shape -/
def S28_j1 (K : Sl → Sl → Int → H → Prop) (c4_0_1 : Sl) (c4_1_1 : Sl) (c2_0_2 : Sl) (c2_1_2 : Sl) (h_4 : H) : Prop :=
  K c4_0_1 c4_1_1 0 h_4
def S28_j2 (v68 : Int) (X : (Int × Sl × Sl) → H → Prop) (c2_0_4 : Sl) (c2_1_4 : Sl) (h_7 : H) : Prop :=
  X ((IntKind.wrap .i64 (v68 + 1)), c2_0_4, c2_1_4) h_7
def S28_j3 (K : Sl → Sl → Int → H → Prop) (c4_0_1 : Sl) (c4_1_1 : Sl) (v74 : Int) (c2_0_5 : Sl) (c2_1_5 : Sl) (X_1 : (Int × Sl × Sl) → H → Prop) (v101 : Bool) (h_9 : H) : Prop :=
  (if v101 = true then K c4_0_1 c4_1_1 8 h_9 else X_1 ((IntKind.wrap .i64 (v74 + 1)), c2_0_5, c2_1_5) h_9)
def S28_l4 (K : Sl → Sl → Int → H → Prop) (c4_0_1 : Sl) (c4_1_1 : Sl) (v68 : Int) (X : (Int × Sl × Sl) → H → Prop) (v72_0 : Sl) (v72_1 : Sl) (v72_2 : Sl) (v72_3 : Sl) (X_1 : (Int × Sl × Sl) → H → Prop) (v74 : Int) (c2_0_5 : Sl) (c2_1_5 : Sl) (h_8 : H) : Prop :=
  (if (decide (v74 < 4)) = true then (0 ≤ v74 ∧ v74 < (4 : Int) ∧ (∃ a81 : Addr, c4_0_1.a = some a81 ∧ 0 ≤ v68 ∧ v68 < (c4_0_1.l : Int) ∧ (∃ (v82 : Bool), H.rd h_8 (Addr.add a81 (Int.toNat v68 * 1)) = some (.bool v82) ∧ (if v82 = true then S68 v74 (sel ([v72_0, v72_1, v72_2, v72_3] : List Sl) v74) h_8 (fun (v86 : Bool) (h_10 : H) => (if (!v86) = true then S28_j3 K c4_0_1 c4_1_1 v74 c2_0_5 c2_1_5 X_1 true h_10 else (∃ a93 : Addr, c4_0_1.a = some a93 ∧ 0 ≤ v68 ∧ v68 < (c4_0_1.l : Int) ∧ (∃ (v94 : Bool), H.rd h_10 (Addr.add a93 (Int.toNat v68 * 1)) = some (.bool v94) ∧ (if (!v94) = true then S28_j3 K c4_0_1 c4_1_1 v74 c2_0_5 c2_1_5 X_1 (decide ((((sel ([v72_0, v72_1, v72_2, v72_3] : List Sl) v74).l) : Int) > 1)) h_10 else S28_j3 K c4_0_1 c4_1_1 v74 c2_0_5 c2_1_5 X_1 false h_10))))) else (∃ a93 : Addr, c4_0_1.a = some a93 ∧ 0 ≤ v68 ∧ v68 < (c4_0_1.l : Int) ∧ (∃ (v94 : Bool), H.rd h_8 (Addr.add a93 (Int.toNat v68 * 1)) = some (.bool v94) ∧ (if (!v94) = true then S28_j3 K c4_0_1 c4_1_1 v74 c2_0_5 c2_1_5 X_1 (decide ((((sel ([v72_0, v72_1, v72_2, v72_3] : List Sl) v74).l) : Int) > 1)) h_8 else S28_j3 K c4_0_1 c4_1_1 v74 c2_0_5 c2_1_5 X_1 false h_8))))))) else S28_j2 v68 X c2_0_5 c2_1_5 h_8)
def S28_l5 (K : Sl → Sl → Int → H → Prop) (c4_0_1 : Sl) (c4_1_1 : Sl) (v66 : Sl) (X : (Int × Sl × Sl) → H → Prop) (v68 : Int) (c2_0_3 : Sl) (c2_1_3 : Sl) (h_6 : H) : Prop :=
  (if (decide (v68 < (v66.l : Int))) = true then (∃ a71 : Addr, v66.a = some a71 ∧ 0 ≤ v68 ∧ v68 < (v66.l : Int) ∧ (∃ (v72_0 : Sl) (v72_1 : Sl) (v72_2 : Sl) (v72_3 : Sl), H.rdn h_6 (Addr.add a71 (Int.toNat v68 * 4)) 4 [(.slice v72_0.a v72_0.l v72_0.c), (.slice v72_1.a v72_1.l v72_1.c), (.slice v72_2.a v72_2.l v72_2.c), (.slice v72_3.a v72_3.l v72_3.c)] ∧ lfp (fun X_1 s h_8 => S28_l4 K c4_0_1 c4_1_1 v68 X v72_0 v72_1 v72_2 v72_3 X_1 s.1 s.2.1 s.2.2 h_8) (0, c2_0_3, c2_1_3) h_6)) else S28_j1 K c4_0_1 c4_1_1 c2_0_3 c2_1_3 h_6)
def S28_j6 (p0_0 : Sl) (p0_1 : Sl) (K : Sl → Sl → Int → H → Prop) (c4_0_1 : Sl) (c4_1_1 : Sl) (c2_0_1 : Sl) (c2_1_1 : Sl) (h_3 : H) : Prop :=
  S67 p0_0 p0_1 c4_0_1 c4_1_1 h_3 (fun (v66 : Sl) (h_5 : H) => lfp (fun X s h_6 => S28_l5 K c4_0_1 c4_1_1 v66 X s.1 s.2.1 s.2.2 h_6) (0, c2_0_1, c2_1_1) h_5)
def S28_l7 (p0_0 : Sl) (p0_1 : Sl) (K : Sl → Sl → Int → H → Prop) (X_2 : (Int × Sl × Sl × Sl × Sl) → H → Prop) (v43 : Int) (c4_0_2 : Sl) (c4_1_2 : Sl) (c2_0_6 : Sl) (c2_1_6 : Sl) (h_11 : H) : Prop :=
  (if (decide (v43 < (p0_1.l : Int))) = true then (∃ a45 : Addr, p0_1.a = some a45 ∧ 0 ≤ v43 ∧ v43 < (p0_1.l : Int) ∧ (∃ (v46_0 : Int) (v46_1 : Int) (v46_2 : Sl), H.rdn h_11 (Addr.add a45 (Int.toNat v43 * 3)) 3 [(.int .i64 v46_0), (.int .i64 v46_1), (.slice v46_2.a v46_2.l v46_2.c)] ∧ S66 p0_0 p0_1 v46_0 v46_1 v46_2 h_11 (fun (v50_0_0 : Int) (v50_0_1 : Int) (v50_0_2 : Int) (v50_0_3 : ByteArray) (v50_1 : Int) (h_12 : H) => (if (v50_1 != 0) = true then K c4_0_2 c4_1_2 v50_1 h_12 else app 61 4 40 c4_1_2 1 [(.int .i64 v50_0_0), (.int .i64 v50_0_1), (.int .i64 v50_0_2), (.string v50_0_3)] h_12 (fun (v61 : Sl) (h_13 : H) => X_2 ((IntKind.wrap .i64 (v43 + 1)), c4_0_2, v61, c2_0_6, c2_1_6) h_13))))) else S28_j6 p0_0 p0_1 K c4_0_2 c4_1_2 c2_0_6 c2_1_6 h_11)
def S28_j8 (p0_0 : Sl) (p0_1 : Sl) (K : Sl → Sl → Int → H → Prop) (c4_0 : Sl) (c4_1 : Sl) (c2_0 : Sl) (c2_1 : Sl) (h_2 : H) : Prop :=
  lfp (fun X_2 s h_11 => S28_l7 p0_0 p0_1 K X_2 s.1 s.2.1 s.2.2.1 s.2.2.2.1 s.2.2.2.2 h_11) (0, c4_0, c4_1, c2_0, c2_1) h_2
def S28_l9 (p0_0 : Sl) (p0_1 : Sl) (K : Sl → Sl → Int → H → Prop) (X_3 : (Int × Sl × Sl × Sl × Sl) → H → Prop) (v21 : Int) (c4_0_3 : Sl) (c4_1_3 : Sl) (c2_0_7 : Sl) (c2_1_7 : Sl) (h_14 : H) : Prop :=
  (if (decide (v21 < (p0_0.l : Int))) = true then (∃ a23 : Addr, p0_0.a = some a23 ∧ 0 ≤ v21 ∧ v21 < (p0_0.l : Int) ∧ (∃ (v24_0 : Int) (v24_1 : Int) (v24_2 : Int) (v24_3 : Int), H.rdn h_14 (Addr.add a23 (Int.toNat v21 * 4)) 4 [(.int .i64 v24_0), (.int .i64 v24_1), (.int .i64 v24_2), (.int .i64 v24_3)] ∧ S65 v24_0 v24_1 v24_2 v24_3 h_14 (fun (v26 : Bool) (h_15 : H) => (if (!v26) = true then K c4_0_3 c4_1_3 2 h_15 else app 4 1 1 c4_0_3 1 [(.bool (!((v24_0 == v24_2) && ((v24_1 == v24_3) && true))))] h_15 (fun (v37 : Sl) (h_16 : H) => X_3 ((IntKind.wrap .i64 (v21 + 1)), v37, c4_1_3, c2_0_7, c2_1_7) h_16))))) else S28_j8 p0_0 p0_1 K c4_0_3 c4_1_3 c2_0_7 c2_1_7 h_14)
def S28 (p0_0 : Sl) (p0_1 : Sl) (h : H) (K : Sl → Sl → Int → H → Prop) : Prop :=
  S64 p0_0 p0_1 h (fun (v16 : Bool) (h_1 : H) => (if v16 = true then K Sl.nil Sl.nil 6 h_1 else lfp (fun X_3 s h_14 => S28_l9 p0_0 p0_1 K X_3 s.1 s.2.1 s.2.2.1 s.2.2.2.1 s.2.2.2.2 h_14) (0, Sl.nil, Sl.nil, Sl.nil, Sl.nil) h_1))
end Go.Proofs.YtimadnngfhbfiaaGreatDoor
end

section
/- PRINTED by wip/gen.py: what muntin/trace.points does, in the words of Mu. -/
namespace Go.Proofs.YtimadnngfhbfiaaGreatDoor
open Go Go.Mu
/- muntin/trace.points -/
def S30_j1 (p2_0 : Sl) (K : Sl → H → Prop) (b18 : Nat) (h_3 : H) : Prop :=
  K ⟨some ⟨b18, 0, none⟩, Int.toNat (p2_0.l : Int), Int.toNat (p2_0.l : Int)⟩ h_3
def S30_j2 (v74 : Int) (X : Int → H → Prop) (h_5 : H) : Prop :=
  X (IntKind.wrap .i64 (v74 + 1)) h_5
def S30_l3 (p0_1 : Sl) (p2_0 : Sl) (b18 : Nat) (v74 : Int) (X : Int → H → Prop) (v78 : Sl) (X_1 : Int → H → Prop) (v81 : Int) (h_6 : H) : Prop :=
  (if (decide (v81 < (v78.l : Int))) = true then (∃ a84 : Addr, v78.a = some a84 ∧ 0 ≤ v81 ∧ v81 < (v78.l : Int) ∧ (∃ (v85 : Int), H.rd h_6 (Addr.add a84 (Int.toNat v81 * 1)) = some (.int .i64 v85) ∧ (∃ a91 : Addr, p0_1.a = some a91 ∧ 0 ≤ v74 ∧ v74 < (p0_1.l : Int) ∧ (∃ (v93 : Sl), H.rd h_6 (Addr.add (Addr.add a91 (Int.toNat v74 * 3)) 2) = some (.slice v93.a v93.l v93.c) ∧ (∃ a95 : Addr, v93.a = some a95 ∧ 0 ≤ v81 ∧ v81 < (v93.l : Int) ∧ (∃ (v96_0 : Int) (v96_1 : Int), H.rdn h_6 (Addr.add a95 (Int.toNat v81 * 2)) 2 [(.int .i64 v96_0), (.int .i64 v96_1)] ∧ (∃ a97 : Addr, some ⟨b18, 0, none⟩ = some a97 ∧ 0 ≤ v85 ∧ v85 < ((Int.toNat (p2_0.l : Int)) : Int) ∧ (∃ h_7 : H, H.wr h_6 (Addr.add a97 (Int.toNat v85 * 2)) [(.int .i64 v96_0), (.int .i64 v96_1)] h_7 ∧ X_1 (IntKind.wrap .i64 (v81 + 1)) h_7)))))))) else S30_j2 v74 X h_6)
def S30_l4 (p0_1 : Sl) (p2_0 : Sl) (p2_2 : Sl) (K : Sl → H → Prop) (b18 : Nat) (X : Int → H → Prop) (v74 : Int) (h_4 : H) : Prop :=
  (if (decide (v74 < (p2_2.l : Int))) = true then (∃ a77 : Addr, p2_2.a = some a77 ∧ 0 ≤ v74 ∧ v74 < (p2_2.l : Int) ∧ (∃ (v78 : Sl), H.rd h_4 (Addr.add a77 (Int.toNat v74 * 1)) = some (.slice v78.a v78.l v78.c) ∧ lfp (fun X_1 s h_6 => S30_l3 p0_1 p2_0 b18 v74 X v78 X_1 s h_6) 0 h_4)) else S30_j1 p2_0 K b18 h_4)
def S30_j5 (p0_1 : Sl) (p2_0 : Sl) (p2_2 : Sl) (K : Sl → H → Prop) (b18 : Nat) (h_2 : H) : Prop :=
  lfp (fun X s h_4 => S30_l4 p0_1 p2_0 p2_2 K b18 X s h_4) 0 h_2
def S30_j6 (v22 : Int) (X_2 : Int → H → Prop) (h_9 : H) : Prop :=
  X_2 (IntKind.wrap .i64 (v22 + 1)) h_9
def S30_l7 (p0_0 : Sl) (p0_1 : Sl) (p1_0 : Sl) (p2_0 : Sl) (p2_1 : Sl) (p2_2 : Sl) (K : Sl → H → Prop) (b18 : Nat) (X_2 : Int → H → Prop) (v22 : Int) (h_8 : H) : Prop :=
  (if (decide (v22 < (p0_0.l : Int))) = true then (∃ a25 : Addr, p0_0.a = some a25 ∧ 0 ≤ v22 ∧ v22 < (p0_0.l : Int) ∧ (∃ (v26_0 : Int) (v26_1 : Int) (v26_2 : Int) (v26_3 : Int), H.rdn h_8 (Addr.add a25 (Int.toNat v22 * 4)) 4 [(.int .i64 v26_0), (.int .i64 v26_1), (.int .i64 v26_2), (.int .i64 v26_3)] ∧ (∃ a30 : Addr, p2_1.a = some a30 ∧ 0 ≤ v22 ∧ v22 < (p2_1.l : Int) ∧ (∃ (v31 : Int), H.rd h_8 (Addr.add a30 (Int.toNat v22 * 1)) = some (.int .i64 v31) ∧ (∃ a36 : Addr, some ⟨b18, 0, none⟩ = some a36 ∧ 0 ≤ v31 ∧ v31 < ((Int.toNat (p2_0.l : Int)) : Int) ∧ (∃ h_10 : H, H.wr h_8 (Addr.add a36 (Int.toNat v31 * 2)) [(.int .i64 v26_0), (.int .i64 v26_1)] h_10 ∧ (∃ a40 : Addr, p1_0.a = some a40 ∧ 0 ≤ v22 ∧ v22 < (p1_0.l : Int) ∧ (∃ (v41 : Bool), H.rd h_10 (Addr.add a40 (Int.toNat v22 * 1)) = some (.bool v41) ∧ (if v41 = true then False else S30_j6 v22 X_2 h_10))))))))) else S30_j5 p0_1 p2_0 p2_2 K b18 h_8)
def S30 (p0_0 : Sl) (p0_1 : Sl) (p1_0 : Sl) (p1_1 : Sl) (p2_0 : Sl) (p2_1 : Sl) (p2_2 : Sl) (h : H) (K : Sl → H → Prop) : Prop :=
  ((0 : Int) ≤ (p2_0.l : Int) ∧ (p2_0.l : Int) ≤ (p2_0.l : Int) ∧ 16 * (p2_0.l : Int) ≤ (281474976710656 : Int) ∧ (p2_0.l : Int) ≤ 9223372036854775807 ∧ (∀ (b18 : Nat) (h_1 : H), h b18 = none → h_1 = H.set h b18 (.row ⟨zeros (.agg #[(.int .i64 0), (.int .i64 0)]) (Int.toNat (p2_0.l : Int) * 2), (zeros (.agg #[(.int .i64 0), (.int .i64 0)]) (Int.toNat (p2_0.l : Int) * 2)).length, 77, true, true⟩) → lfp (fun X_2 s h_8 => S30_l7 p0_0 p0_1 p1_0 p2_0 p2_1 p2_2 K b18 X_2 s h_8) 0 h_1))
end Go.Proofs.YtimadnngfhbfiaaGreatDoor
end

section
/- PRINTED by wip/gen.py: what muntin/trace.Of does, in the words of Mu. -/
namespace Go.Proofs.YtimadnngfhbfiaaGreatDoor
open Go Go.Mu
/- muntin/trace.Of -/
def S9 (p0_0 : Sl) (p0_1 : Sl) (h : H) (K : Sl → Sl → Sl → Int → H → Prop) : Prop :=
  S28 p0_0 p0_1 h (fun (v10_0_0 : Sl) (v10_0_1 : Sl) (v10_1 : Int) (h_1 : H) => (if (v10_1 != 0) = true then K Sl.nil Sl.nil Sl.nil v10_1 h_1 else S29 v10_0_0 v10_0_1 h_1 (fun (v19_0_0 : Sl) (v19_0_1 : Sl) (v19_0_2 : Sl) (v19_1 : Int) (h_2 : H) => (if (v19_1 != 0) = true then K Sl.nil Sl.nil Sl.nil v19_1 h_2 else S30 p0_0 p0_1 v10_0_0 v10_0_1 v19_0_0 v19_0_1 v19_0_2 h_2 (fun (v30 : Sl) (h_3 : H) => K v10_0_0 v10_0_1 v30 0 h_3)))))
end Go.Proofs.YtimadnngfhbfiaaGreatDoor
end

section
/-
  Drawings of points: what the program's trace makes of boxes that are points, without routes.
-/
namespace Go.Shape
open Go Go.Mu
abbrev Pt := Int × Int
def encP (p : Pt) : List Value := [.int .i64 p.1, .int .i64 p.2]
def encX (p : Pt) : List Value := [.int .i64 p.1, .int .i64 p.2, .int .i64 p.1, .int .i64 p.2]
abbrev Rt := Int × Int × Sl
def encR (r : Rt) : List Value := [.int .i64 r.1, .int .i64 r.2.1, r.2.2.v]
def near (p : Pt) : Prop := (-1000000 ≤ p.1 ∧ p.1 ≤ 1000000) ∧ -1000000 ≤ p.2 ∧ p.2 ≤ 1000000
def totR (rs : List Rt) : Nat := (rs.map (·.2.2.l)).sum
theorem totR_take {rs : List Rt} {i : Nat} {r : Rt} (he : rs[i]? = some r) : totR (rs.take (i + 1)) = totR (rs.take i) + r.2.2.l := by
  rw [List.take_add_one, he]; simp [totR]
theorem totR_le (rs : List Rt) (i : Nat) : totR (rs.take i) ≤ totR rs := by
  have : totR rs = totR (rs.take i) + totR (rs.drop i) := by
    conv => lhs; rw [← List.take_append_drop i rs]
    simp only [totR, List.map_append, List.sum_append]
  omega
end Go.Shape
namespace Go.Proofs.YtimadnngfhbfiaaGreatDoor
open Go Go.Mu Go.Shape Go.Text
variable {h h0 : H}
set_option maxHeartbeats 1000000

theorem c110 {p : Pt} (hp : near p) {K : Bool → H → Prop} (k : K false h) : S110 p.1 p.2 h K := by
  unfold S110 S110_j1
  obtain ⟨⟨a, b⟩, c, d⟩ := hp
  have e1 : decide ((if p.2 > p.1 then p.2 else p.1) > 1000000) = false := decide_eq_false (by split <;> omega)
  have e2 : decide ((if p.2 < p.1 then p.2 else p.1) < (-1000000)) = false := decide_eq_false (by split <;> omega)
  rw [e1, e2]; exact k
theorem c65 {p : Pt} (hp : near p) {K : Bool → H → Prop} (k : K true h) : S65 p.1 p.2 p.1 p.2 h K := by
  unfold S65 S65_j2
  refine c110 hp ?_
  rw [if_pos (by decide)]
  refine c110 hp ?_
  rw [if_pos (by decide), if_pos (by simp)]
  exact k
theorem c64 {p0 p1 : Sl} {ps : List Pt} {rs : List Rt} (r0 : Rd h p0 4 encX ps) (r1 : Rd h p1 3 encR rs) (h0 : ps.length ≤ 1000000) (h1 : rs.length ≤ 1000000) (h2 : totR rs ≤ 1000000) {K : Bool → H → Prop} (k : K (decide (4096 < ps.length ∨ 4096 < rs.length ∨ 12288 < totR rs)) h) : S64 p0 p1 h K := by
  have e0 := r0.len
  have e1 := r1.len
  unfold S64
  refine lfp.count rs.length (fun i (u : Int × Int) h' => h' = h ∧ u.2 = (i : Int) ∧ u.1 = (totR (rs.take i) : Int)) (fun X i u h' hi ⟨q1, q2, q3⟩ next => ?_) ⟨rfl, rfl, rfl⟩
  obtain ⟨u1, u2⟩ := u
  simp only at q2 q3; subst q1 q2 q3
  simp only
  unfold S64_l3
  by_cases hlt : i < rs.length
  · rw [if_pos (by simp; omega)]
    obtain ⟨r, hr⟩ : ∃ x, rs[i]? = some x := ⟨_, List.getElem?_eq_getElem hlt⟩
    obtain ⟨a, ha, hrd⟩ := r1.ix hr
    have t1 := totR_take hr
    have t2 := totR_le rs (i + 1)
    refine ⟨a, ha, by omega, by omega, r.1, r.2.1, r.2.2, by rw [Int.toNat_natCast]; exact hrd, next hlt _ _ ⟨rfl, wsucc (by omega), ?_⟩⟩
    rw [t1]; exact wrapN (by omega) (by omega)
  · rw [if_neg (by simp; omega)]
    rw [List.take_of_length_le (by omega)]
    unfold S64_j2 S64_j1
    have e : (decide ((if (p1.l : Int) > (p0.l : Int) then (p1.l : Int) else (p0.l : Int)) > 4096) || decide ((totR rs : Int) > 12288)) = decide (4096 < ps.length ∨ 4096 < rs.length ∨ 12288 < totR rs) := by
      rw [← Bool.decide_or]
      refine decide_eq_decide.2 ?_
      split <;> omega
    rw [e]; exact k
/-- The boxes. -/
theorem c28a {p0 p1 : Sl} {ps : List Pt} {rs : List Rt} (r0 : Rd h p0 4 encX ps) (r1 : Rd h p1 3 encR rs) (hn : ∀ p ∈ ps, near p) (h0 : ps.length ≤ 4096) (h1 : rs.length ≤ 4096) (h2 : totR rs ≤ 12288) {K : Sl → Sl → Int → H → Prop}
    (k : ∀ s0 h', h.Le h' → Rd h' s0 1 encB (List.replicate ps.length false) → S28_j8 p0 p1 K s0 Sl.nil Sl.nil Sl.nil h') : S28 p0 p1 h K := by
  have e0 := r0.len
  unfold S28
  refine c64 r0 r1 (by omega) (by omega) (by omega) ?_
  rw [if_neg (by simp; omega)]
  refine lfp.count ps.length (fun i (u : Int × Sl × Sl × Sl × Sl) h' => u.1 = (i : Int) ∧ u.2.2 = (Sl.nil, Sl.nil, Sl.nil) ∧ St h h' (fun _ : Unit => .arr u.2.1 4 1 ((List.replicate i false).flatMap encB))) (fun X i u h' hi ⟨q1, q2, st⟩ next => ?_) ⟨rfl, rfl, St.nil1 h⟩
  obtain ⟨u0, u1, u2⟩ := u
  simp only at q1 q2 st
  subst q1 q2
  simp only
  unfold S28_l9
  by_cases hlt : i < ps.length
  · rw [if_pos (by simp; omega)]
    obtain ⟨p, hp⟩ : ∃ x, ps[i]? = some x := ⟨_, List.getElem?_eq_getElem hlt⟩
    obtain ⟨a, ha, hrd⟩ := r0.ix hp
    refine ⟨a, ha, by omega, by omega, p.1, p.2, p.1, p.2, by rw [Int.toNat_natCast]; exact st.le.rdn hrd, ?_⟩
    refine c65 (hn p (List.mem_of_getElem? hp)) ?_
    rw [if_neg (by decide)]
    have e : (!((p.1 == p.1) && ((p.2 == p.2) && true))) = false := by simp
    rw [e]
    refine appB (enc := encB) false st (fun _ => rfl) (by decide) (by simp; omega) (by decide) fun s' h3 st3 => ?_
    rw [wsucc (by omega)]
    refine next hlt _ _ ⟨rfl, rfl, ?_⟩
    rw [List.replicate_succ']; exact st3
  · rw [if_neg (by simp; omega)]
    have : i = ps.length := by omega
    subst this
    exact k u1 h' st.le (St.rd1 st (fun _ => rfl) (by decide))
/-- Too much. -/
theorem c28m {p0 p1 : Sl} {ps : List Pt} {rs : List Rt} (r0 : Rd h p0 4 encX ps) (r1 : Rd h p1 3 encR rs) (h0 : ps.length ≤ 1000000) (h1 : rs.length ≤ 1000000) (h2 : totR rs ≤ 1000000) (hm : 4096 < ps.length ∨ 4096 < rs.length ∨ 12288 < totR rs) {K : Sl → Sl → Int → H → Prop} (k : K Sl.nil Sl.nil 6 h) : S28 p0 p1 h K := by
  unfold S28
  refine c64 r0 r1 h0 h1 h2 ?_
  rw [if_pos (by simpa using hm)]
  exact k
/-- The sides' ends, four slices a vertex. -/
def encF (f : Nat → Nat → Sl) (v : Nat) : List Value := [(f v 0).v, (f v 1).v, (f v 2).v, (f v 3).v]
/-- No side has more ends than one. -/
theorem c28z {s0 s1 v66 : Sl} {f : Nat → Nat → Sl} {n : Nat} (rb : Rd h s0 1 encB (List.replicate n false)) (rf : Rd h v66 4 (encF f) (List.range n)) (hf : ∀ v d, (f v d).l ≤ 1) (hn : n ≤ 4096) {K : Sl → Sl → Int → H → Prop} (k : K s0 s1 0 h) :
    lfp (fun X s h_6 => S28_l5 K s0 s1 v66 X s.1 s.2.1 s.2.2 h_6) (0, Sl.nil, Sl.nil) h := by
  have eb := rb.len
  have ef := rf.len
  rw [List.length_replicate] at eb
  rw [List.length_range] at ef
  refine lfp.count n (fun i (u : Int × Sl × Sl) h' => h' = h ∧ u = ((i : Int), Sl.nil, Sl.nil)) (fun X i u h' hi ⟨q1, q2⟩ next => ?_) ⟨rfl, rfl⟩
  subst q1 q2
  simp only
  unfold S28_l5
  by_cases hlt : i < n
  · rw [if_pos (by simp; omega)]
    obtain ⟨a, ha, hrd⟩ := rf.ix (i := i) (y := i) (by rw [List.getElem?_range hlt])
    obtain ⟨b, hb, hrb⟩ := rb.ix (i := i) (y := false) (by rw [List.getElem?_replicate, if_pos hlt])
    refine ⟨a, ha, by omega, by omega, f i 0, f i 1, f i 2, f i 3, by rw [Int.toNat_natCast]; exact hrd, ?_⟩
    refine lfp.count 4 (fun d (u : Int × Sl × Sl) h2 => h2 = h' ∧ u = ((d : Int), Sl.nil, Sl.nil)) (fun Y d u h2 hd ⟨q1, q2⟩ nxt => ?_) ⟨rfl, rfl⟩
    subst q1 q2
    simp only
    unfold S28_l4
    by_cases hd4 : d < 4
    · rw [if_pos (by simp; omega)]
      refine ⟨by omega, by omega, b, hb, by omega, by omega, false, by rw [Int.toNat_natCast]; exact hrb.at0, ?_⟩
      rw [if_neg (by decide)]
      refine ⟨b, hb, by omega, by omega, false, by rw [Int.toNat_natCast]; exact hrb.at0, ?_⟩
      rw [if_pos (by decide), sel4 hd4 (f i)]
      have := hf i d
      unfold S28_j3
      rw [if_neg (by simp; omega), wsucc (by omega)]
      exact nxt hd4 _ _ ⟨rfl, rfl⟩
    · rw [if_neg (by simp; omega)]
      unfold S28_j2
      rw [wsucc (by omega)]
      exact next hlt _ _ ⟨rfl, rfl⟩
  · rw [if_neg (by simp; omega)]
    unfold S28_j1
    exact k
theorem zeros4s (n : Nat) : zeros (.agg #[(.slice none 0 0), (.slice none 0 0), (.slice none 0 0), (.slice none 0 0)]) (n * 4) = (List.range n).flatMap (encF fun _ _ => Sl.nil) := by
  have h1 := zeros_agg (xs := [.slice none 0 0, .slice none 0 0, .slice none 0 0, .slice none 0 0]) (size := 4) (m := n) rfl (by decide)
  rw [show (Value.agg #[(.slice none 0 0), (.slice none 0 0), (.slice none 0 0), (.slice none 0 0)]) = .agg ([.slice none 0 0, .slice none 0 0, .slice none 0 0, .slice none 0 0] : List Value).toArray from rfl, h1]
  clear h1
  induction n with
  | zero => rfl
  | succ n ih =>
    rw [List.replicate_succ', List.flatMap_append, ih, List.range_succ, List.flatMap_append]; rfl
/-- Without routes. -/
theorem c28i {p0 p1 : Sl} {ps : List Pt} (r0 : Rd h p0 4 encX ps) (hp1 : p1.l = 0) (hn : ∀ p ∈ ps, near p) (h0 : ps.length ≤ 4096) {K : Sl → Sl → Int → H → Prop}
    (k : ∀ s0 h', h.Le h' → Rd h' s0 1 encB (List.replicate ps.length false) → K s0 Sl.nil 0 h') : S28 p0 p1 h K := by
  have e0 := r0.len
  have r1 : Rd h p1 3 encR [] := ⟨by rw [hp1]; rfl, fun _ hx => (by cases hx), fun hp => absurd hp (by omega)⟩
  refine c28a r0 r1 hn h0 (by decide) (by decide) fun s0 h1 le1 rb => ?_
  unfold S28_j8
  intro X hX
  refine hX _ _ ?_
  unfold S28_l7
  simp only
  rw [if_neg (by simp [hp1])]
  unfold S28_j6 S67
  refine ⟨by omega, by omega, by omega, by omega, fun b h2 n2 e2 => ?_⟩
  rw [Int.toNat_natCast, zeros4s] at e2
  have le2 := le_new n2 e2
  have hpl : p0.l = ps.length := by omega
  rw [hpl] at e2
  have rf := lit_Rd (l := List.range ps.length) (enc := encF fun _ _ => Sl.nil) (size := 4) e2 (fun _ _ => rfl)
  rw [List.length_range] at rf
  intro Y hY
  refine hY _ _ ?_
  unfold S67_l4
  dsimp only
  rw [if_neg (by simp [Sl.nil])]
  unfold S67_j1
  rw [Int.toNat_natCast, hpl]
  refine c28z (rb.le le2) rf (fun _ _ => Nat.zero_le _) h0 ?_
  exact k s0 h2 (le1.trans le2) (rb.le le2)
end Go.Proofs.YtimadnngfhbfiaaGreatDoor
end

section
/- PRINTED by wip/gen.py: what muntin/muntinref27.far does, in the words of Mu. -/
namespace Go.Proofs.YtimadnngfhbfiaaGreatDoor
open Go Go.Mu
/- muntin/muntinref27.far -/
def S31_j1 (K : Bool → H → Prop) (v2 : Bool) (h_1 : H) : Prop :=
  K v2 h_1
def S31 (p0_0 : Int) (p0_1 : Int) (h : H) (K : Bool → H → Prop) : Prop :=
  S31_j1 K ((((decide (p0_0 > 1000000)) || (decide (p0_0 < (-1000000)))) || (decide (p0_1 > 1000000))) || (decide (p0_1 < (-1000000)))) h
end Go.Proofs.YtimadnngfhbfiaaGreatDoor
end

section
/- PRINTED by wip/gen.py: what muntin/muntinref27.point does, in the words of Mu. -/
namespace Go.Proofs.YtimadnngfhbfiaaGreatDoor
open Go Go.Mu
/- muntin/muntinref27.point -/
def S32 (p0_0 : Int) (p0_1 : Int) (p0_2 : Int) (p0_3 : Int) (h : H) (K : Bool → H → Prop) : Prop :=
  K ((p0_0 == p0_2) && ((p0_1 == p0_3) && true)) h
end Go.Proofs.YtimadnngfhbfiaaGreatDoor
end

section
/- PRINTED by wip/gen.py: what muntin/muntinref01.Between does, in the words of Mu. -/
namespace Go.Proofs.YtimadnngfhbfiaaGreatDoor
open Go Go.Mu
/- muntin/muntinref01.Between -/
def S77_j1 (p0_0 : Int) (p0_1 : Int) (p1_0 : Int) (p1_1 : Int) (K : Int → H → Prop) (v16 : Bool) (h_1 : H) : Prop :=
  (if v16 = true then K (-1) h_1 else (if (decide (p1_0 > p0_0)) = true then K 0 h_1 else (if (decide (p1_1 > p0_1)) = true then K 1 h_1 else (if (decide (p1_0 < p0_0)) = true then K 2 h_1 else (if (decide (p1_1 < p0_1)) = true then K 3 h_1 else K (-1) h_1)))))
def S77 (p0_0 : Int) (p0_1 : Int) (p1_0 : Int) (p1_1 : Int) (h : H) (K : Int → H → Prop) : Prop :=
  S77_j1 p0_0 p0_1 p1_0 p1_1 K ((p0_0 != p1_0) && (p0_1 != p1_1)) h
end Go.Proofs.YtimadnngfhbfiaaGreatDoor
end

section
/- PRINTED by wip/gen.py: what muntin/muntinref27.Route does, in the words of Mu. -/
namespace Go.Proofs.YtimadnngfhbfiaaGreatDoor
open Go Go.Mu
/- muntin/muntinref27.Route -/
def S33_j1 (v9 : Sl) (c4_0_1 : Int) (c4_1_1 : Int) (c4_2_1 : Int) (c4_3_1 : ByteArray) (h_3 : H) : Prop :=
  False
def S33_l2 (p1_0 : Int) (p1_1 : Int) (p1_2 : Sl) (K : Int → Int → Int → ByteArray → Int → H → Prop) (v9_1 : Sl) (v10 : Int) (c4_0_2 : Int) (c4_1_2 : Int) (c4_2_2 : Int) (c4_3_2 : ByteArray) (h_4 : H) : Prop :=
  (if (decide (v10 < (p1_2.l : Int))) = true then (∃ a77 : Addr, p1_2.a = some a77 ∧ 0 ≤ (IntKind.wrap .i64 (v10 - 1)) ∧ (IntKind.wrap .i64 (v10 - 1)) < (p1_2.l : Int) ∧ (∃ (v78_0 : Int) (v78_1 : Int), H.rdn h_4 (Addr.add a77 (Int.toNat (IntKind.wrap .i64 (v10 - 1)) * 2)) 2 [(.int .i64 v78_0), (.int .i64 v78_1)] ∧ (∃ a82 : Addr, p1_2.a = some a82 ∧ 0 ≤ v10 ∧ v10 < (p1_2.l : Int) ∧ (∃ (v83_0 : Int) (v83_1 : Int), H.rdn h_4 (Addr.add a82 (Int.toNat v10 * 2)) 2 [(.int .i64 v83_0), (.int .i64 v83_1)] ∧ S77 v78_0 v78_1 v83_0 v83_1 h_4 (fun (v84 : Int) (h_5 : H) => (if (decide (v84 < 0)) = true then K p1_0 p1_1 0 ⟨#[]⟩ 15 h_5 else False)))))) else S33_j1 v9_1 c4_0_2 c4_1_2 c4_2_2 c4_3_2 h_4)
def S33_j3 (p1_0 : Int) (p1_1 : Int) (p1_2 : Sl) (K : Int → Int → Int → ByteArray → Int → H → Prop) (c4_0 : Int) (c4_1 : Int) (c4_2 : Int) (c4_3 : ByteArray) (h_2 : H) : Prop :=
  lfp (fun X s h_4 => S33_l2 p1_0 p1_1 p1_2 K s.1 s.2.1 s.2.2.1 s.2.2.2.1 s.2.2.2.2.1 s.2.2.2.2.2 h_4) (Sl.nil, 1, c4_0, c4_1, c4_2, c4_3) h_2
def S33_l4 (p1_0 : Int) (p1_1 : Int) (p1_2 : Sl) (K : Int → Int → Int → ByteArray → Int → H → Prop) (X_1 : (Int × Int × Int × Int × ByteArray) → H → Prop) (v7 : Int) (c4_0_3 : Int) (c4_1_3 : Int) (c4_2_3 : Int) (c4_3_3 : ByteArray) (h_6 : H) : Prop :=
  (if (decide (v7 < (p1_2.l : Int))) = true then (∃ a61 : Addr, p1_2.a = some a61 ∧ 0 ≤ v7 ∧ v7 < (p1_2.l : Int) ∧ (∃ (v62_0 : Int) (v62_1 : Int), H.rdn h_6 (Addr.add a61 (Int.toNat v7 * 2)) 2 [(.int .i64 v62_0), (.int .i64 v62_1)] ∧ S31 v62_0 v62_1 h_6 (fun (v63 : Bool) (h_7 : H) => (if v63 = true then K p1_0 p1_1 0 ⟨#[]⟩ 2 h_7 else X_1 ((IntKind.wrap .i64 (v7 + 1)), c4_0_3, c4_1_3, c4_2_3, c4_3_3) h_7)))) else S33_j3 p1_0 p1_1 p1_2 K c4_0_3 c4_1_3 c4_2_3 c4_3_3 h_6)
def S33_j5 (p1_0 : Int) (p1_1 : Int) (p1_2 : Sl) (K : Int → Int → Int → ByteArray → Int → H → Prop) (v44 : Bool) (h_1 : H) : Prop :=
  (if v44 = true then K p1_0 p1_1 0 ⟨#[]⟩ 3 h_1 else (if (decide ((p1_2.l : Int) < 2)) = true then K p1_0 p1_1 0 ⟨#[]⟩ 2 h_1 else lfp (fun X_1 s h_6 => S33_l4 p1_0 p1_1 p1_2 K X_1 s.1 s.2.1 s.2.2.1 s.2.2.2.1 s.2.2.2.2 h_6) (0, 0, 0, 0, ⟨#[]⟩) h_1))
def S33 (p0_0 : Sl) (p0_1 : Sl) (p1_0 : Int) (p1_1 : Int) (p1_2 : Sl) (h : H) (K : Int → Int → Int → ByteArray → Int → H → Prop) : Prop :=
  S33_j5 p1_0 p1_1 p1_2 K ((((decide (p1_0 < 0)) || (decide (p1_0 ≥ (p0_0.l : Int)))) || (decide (p1_1 < 0))) || (decide (p1_1 ≥ (p0_0.l : Int)))) h
end Go.Proofs.YtimadnngfhbfiaaGreatDoor
end

section
/- PRINTED by wip/gen.py: what muntin/muntinref11.On does, in the words of Mu. -/
namespace Go.Proofs.YtimadnngfhbfiaaGreatDoor
open Go Go.Mu
/- muntin/muntinref11.On -/
def S80_j1 (K : Sl → H → Prop) (v7 : Sl) (h_1 : H) : Prop :=
  K v7 h_1
def S80_j2 (v8 : Int) (X : (Sl × Int) → H → Prop) (v7_2 : Sl) (h_3 : H) : Prop :=
  X (v7_2, (IntKind.wrap .i64 (v8 + 1))) h_3
def S80_l3 (p0_1 : Sl) (K : Sl → H → Prop) (v7_1 : Sl) (v8 : Int) (h_2 : H) : Prop :=
  (if (decide (v8 < (p0_1.l : Int))) = true then False else S80_j1 K v7_1 h_2)
def S80 (p0_0 : Sl) (p0_1 : Sl) (p1 : Int) (p2 : Int) (h : H) (K : Sl → H → Prop) : Prop :=
  lfp (fun X s h_2 => S80_l3 p0_1 K s.1 s.2 h_2) (Sl.nil, 0) h
end Go.Proofs.YtimadnngfhbfiaaGreatDoor
end

section
/- PRINTED by wip/gen.py: what muntin/muntinref27.sided does, in the words of Mu. -/
namespace Go.Proofs.YtimadnngfhbfiaaGreatDoor
open Go Go.Mu
/- muntin/muntinref27.sided -/
def S34_j1 (K : Bool → H → Prop) (h_1 : H) : Prop :=
  K true h_1
def S34_j2 (v5 : Int) (X : Int → H → Prop) (h_3 : H) : Prop :=
  X (IntKind.wrap .i64 (v5 + 1)) h_3
def S34_j3 (v6 : Int) (X_1 : Int → H → Prop) (h_5 : H) : Prop :=
  X_1 (IntKind.wrap .i64 (v6 + 1)) h_5
def S34_l4 (v6 : Int) (X_1 : Int → H → Prop) (v25 : Sl) (v8 : Int) (h_8 : H) : Prop :=
  (if (decide (v8 < (v25.l : Int))) = true then False else S34_j3 v6 X_1 h_8)
def S34_j5 (v6 : Int) (X_1 : Int → H → Prop) (v25 : Sl) (v36 : Bool) (h_7 : H) : Prop :=
  (if v36 = true then False else lfp (fun X_2 s h_8 => S34_l4 v6 X_1 v25 s h_8) 1 h_7)
def S34_l6 (p1_0 : Sl) (p1_1 : Sl) (v5 : Int) (X : Int → H → Prop) (X_1 : Int → H → Prop) (v6 : Int) (h_4 : H) : Prop :=
  (if (decide (v6 < 4)) = true then S80 p1_0 p1_1 v5 v6 h_4 (fun (v25 : Sl) (h_6 : H) => (∃ a29 : Addr, p1_0.a = some a29 ∧ 0 ≤ v5 ∧ v5 < (p1_0.l : Int) ∧ (∃ (v30 : Bool), H.rd h_6 (Addr.add a29 (Int.toNat v5 * 1)) = some (.bool v30) ∧ S34_j5 v6 X_1 v25 ((!v30) && (decide ((v25.l : Int) > 1))) h_6))) else S34_j2 v5 X h_4)
def S34_l7 (p1_0 : Sl) (p1_1 : Sl) (K : Bool → H → Prop) (X : Int → H → Prop) (v5 : Int) (h_2 : H) : Prop :=
  (if (decide (v5 < (p1_0.l : Int))) = true then lfp (fun X_1 s h_4 => S34_l6 p1_0 p1_1 v5 X X_1 s h_4) 0 h_2 else S34_j1 K h_2)
def S34 (p0_0 : Sl) (p0_1 : Sl) (p1_0 : Sl) (p1_1 : Sl) (h : H) (K : Bool → H → Prop) : Prop :=
  lfp (fun X s h_2 => S34_l7 p1_0 p1_1 K X s h_2) 0 h
end Go.Proofs.YtimadnngfhbfiaaGreatDoor
end

section
/- PRINTED by wip/gen.py: what muntin/muntinref08.Check does, in the words of Mu. -/
namespace Go.Proofs.YtimadnngfhbfiaaGreatDoor
open Go Go.Mu
/- muntin/muntinref08.Check -/
def S82_j1 (K : Int → H → Prop) (h_3 : H) : Prop :=
  K 0 h_3
def S82_l2 (p0_1 : Sl) (K : Int → H → Prop) (v5 : Int) (h_4 : H) : Prop :=
  (if (decide (v5 < (p0_1.l : Int))) = true then False else S82_j1 K h_4)
def S82_j3 (p0_1 : Sl) (K : Int → H → Prop) (v37 : Bool) (h_2 : H) : Prop :=
  (if v37 = true then False else lfp (fun X s h_4 => S82_l2 p0_1 K s h_4) 0 h_2)
def S82_j4 (p0_0 : Sl) (p0_1 : Sl) (K : Int → H → Prop) (v3 : Int) (h_1 : H) : Prop :=
  S82_j3 p0_1 K (((decide ((p0_0.l : Int) > 4096)) || (decide ((p0_1.l : Int) > 4096))) || (decide (v3 > 4096))) h_1
def S82_l5 (p0_0 : Sl) (p0_1 : Sl) (K : Int → H → Prop) (v3_1 : Int) (v4 : Int) (h_5 : H) : Prop :=
  (if (decide (v4 < (p0_1.l : Int))) = true then False else S82_j4 p0_0 p0_1 K v3_1 h_5)
def S82 (p0_0 : Sl) (p0_1 : Sl) (h : H) (K : Int → H → Prop) : Prop :=
  lfp (fun X_1 s h_5 => S82_l5 p0_0 p0_1 K s.1 s.2 h_5) (0, 0) h
end Go.Proofs.YtimadnngfhbfiaaGreatDoor
end

section
/- PRINTED by wip/gen.py: what muntin/muntinref11.Count does, in the words of Mu. -/
namespace Go.Proofs.YtimadnngfhbfiaaGreatDoor
open Go Go.Mu
/- muntin/muntinref11.Count -/
def S83_j1 (K : Int → H → Prop) (v3_1 : Int) (h_2 : H) : Prop :=
  K v3_1 h_2
def S83_l2 (p0_1 : Sl) (K : Int → H → Prop) (v3_2 : Int) (v7 : Int) (h_3 : H) : Prop :=
  (if (decide (v7 < (p0_1.l : Int))) = true then False else S83_j1 K v3_2 h_3)
def S83_j3 (p0_1 : Sl) (K : Int → H → Prop) (v3 : Int) (h_1 : H) : Prop :=
  lfp (fun X s h_3 => S83_l2 p0_1 K s.1 s.2 h_3) (v3, 0) h_1
def S83_j4 (v4 : Int) (X_1 : (Int × Int) → H → Prop) (v3_4 : Int) (h_5 : H) : Prop :=
  X_1 (v3_4, (IntKind.wrap .i64 (v4 + 1))) h_5
def S83_j5 (p0_0 : Sl) (v4 : Int) (X_1 : (Int × Int) → H → Prop) (v3_5 : Int) (h_6 : H) : Prop :=
  (∃ a39 : Addr, p0_0.a = some a39 ∧ 0 ≤ v4 ∧ v4 < (p0_0.l : Int) ∧ (∃ (v40 : Bool), H.rd h_6 (Addr.add a39 (Int.toNat v4 * 1)) = some (.bool v40) ∧ (if v40 = true then False else S83_j4 v4 X_1 v3_5 h_6)))
def S83_j6 (p0_0 : Sl) (v4 : Int) (X_1 : (Int × Int) → H → Prop) (v3_6 : Int) (v25 : Bool) (h_8 : H) : Prop :=
  (if v25 = true then False else S83_j5 p0_0 v4 X_1 v3_6 h_8)
def S83_l7 (p0_0 : Sl) (v4 : Int) (X_1 : (Int × Int) → H → Prop) (v3_6 : Int) (v5 : Int) (h_7 : H) : Prop :=
  (if (decide (v5 < 4)) = true then (∃ a23 : Addr, p0_0.a = some a23 ∧ 0 ≤ v4 ∧ v4 < (p0_0.l : Int) ∧ (∃ (v24 : Bool), H.rd h_7 (Addr.add a23 (Int.toNat v4 * 1)) = some (.bool v24) ∧ S83_j6 p0_0 v4 X_1 v3_6 v24 h_7)) else S83_j6 p0_0 v4 X_1 v3_6 false h_7)
def S83_l8 (p0_0 : Sl) (p0_1 : Sl) (K : Int → H → Prop) (X_1 : (Int × Int) → H → Prop) (v3_3 : Int) (v4 : Int) (h_4 : H) : Prop :=
  (if (decide (v4 < (p0_0.l : Int))) = true then lfp (fun X_2 s h_7 => S83_l7 p0_0 v4 X_1 s.1 s.2 h_7) ((IntKind.wrap .i64 (v3_3 + 1)), 0) h_4 else S83_j3 p0_1 K v3_3 h_4)
def S83 (p0_0 : Sl) (p0_1 : Sl) (h : H) (K : Int → H → Prop) : Prop :=
  lfp (fun X_1 s h_4 => S83_l8 p0_0 p0_1 K X_1 s.1 s.2 h_4) (0, 0) h
end Go.Proofs.YtimadnngfhbfiaaGreatDoor
end

section
/- PRINTED by wip/gen.py: what muntin/muntinref11.Wrong does, in the words of Mu. -/
namespace Go.Proofs.YtimadnngfhbfiaaGreatDoor
open Go Go.Mu
/- muntin/muntinref11.Wrong -/
def S35_j1 (K : Int → H → Prop) (h_4 : H) : Prop :=
  K 0 h_4
def S35_l2 (p0_1 : Sl) (K : Int → H → Prop) (v8 : Int) (h_5 : H) : Prop :=
  (if (decide (v8 < (p0_1.l : Int))) = true then False else S35_j1 K h_5)
def S35_j3 (p0_1 : Sl) (K : Int → H → Prop) (h_3 : H) : Prop :=
  lfp (fun X s h_5 => S35_l2 p0_1 K s h_5) 0 h_3
def S35_j4 (v5 : Int) (X_1 : Int → H → Prop) (h_7 : H) : Prop :=
  X_1 (IntKind.wrap .i64 (v5 + 1)) h_7
def S35_j5 (p0_0 : Sl) (p0_1 : Sl) (v5 : Int) (X_1 : Int → H → Prop) (v6 : Int) (X_2 : Int → H → Prop) (v35 : Bool) (h_9 : H) : Prop :=
  (if v35 = true then S80 p0_0 p0_1 v5 v6 h_9 (fun (v41 : Sl) (h_10 : H) => (if (decide ((v41.l : Int) > 1)) = true then False else X_2 (IntKind.wrap .i64 (v6 + 1)) h_10)) else S35_j4 v5 X_1 h_9)
def S35_l6 (p0_0 : Sl) (p0_1 : Sl) (v5 : Int) (X_1 : Int → H → Prop) (X_2 : Int → H → Prop) (v6 : Int) (h_8 : H) : Prop :=
  (if (decide (v6 < 4)) = true then (∃ a32 : Addr, p0_0.a = some a32 ∧ 0 ≤ v5 ∧ v5 < (p0_0.l : Int) ∧ (∃ (v33 : Bool), H.rd h_8 (Addr.add a32 (Int.toNat v5 * 1)) = some (.bool v33) ∧ S35_j5 p0_0 p0_1 v5 X_1 v6 X_2 (!v33) h_8)) else S35_j5 p0_0 p0_1 v5 X_1 v6 X_2 false h_8)
def S35_l7 (p0_0 : Sl) (p0_1 : Sl) (K : Int → H → Prop) (X_1 : Int → H → Prop) (v5 : Int) (h_6 : H) : Prop :=
  (if (decide (v5 < (p0_0.l : Int))) = true then lfp (fun X_2 s h_8 => S35_l6 p0_0 p0_1 v5 X_1 X_2 s h_8) 0 h_6 else S35_j3 p0_1 K h_6)
def S35 (p0_0 : Sl) (p0_1 : Sl) (h : H) (K : Int → H → Prop) : Prop :=
  S82 p0_0 p0_1 h (fun (v11 : Int) (h_1 : H) => (if (v11 != 0) = true then False else S83 p0_0 p0_1 h_1 (fun (v16 : Int) (h_2 : H) => (if (decide (v16 > 4096)) = true then False else lfp (fun X_1 s h_6 => S35_l7 p0_0 p0_1 K X_1 s h_6) 0 h_2))))
end Go.Proofs.YtimadnngfhbfiaaGreatDoor
end

section
/- PRINTED by wip/gen.py: what muntin/muntinref27.Shape does, in the words of Mu. -/
namespace Go.Proofs.YtimadnngfhbfiaaGreatDoor
open Go Go.Mu
/- muntin/muntinref27.Shape -/
def S10_j1 (p0_0 : Sl) (p0_1 : Sl) (K : Sl → Sl → Int → H → Prop) (c7_0_1 : Sl) (c7_1_1 : Sl) (c2_0_1 : Sl) (c2_1_1 : Sl) (h_4 : H) : Prop :=
  S34 p0_0 p0_1 c7_0_1 c7_1_1 h_4 (fun (v134 : Bool) (h_5 : H) => (if (!v134) = true then False else S35 c7_0_1 c7_1_1 h_5 (fun (v139 : Int) (h_6 : H) => (if (v139 != 0) = true then False else K c7_0_1 c7_1_1 0 h_6))))
def S10_l2 (p0_0 : Sl) (p0_1 : Sl) (K : Sl → Sl → Int → H → Prop) (v13 : Int) (c7_0_2 : Sl) (c7_1_2 : Sl) (c2_0_2 : Sl) (c2_1_2 : Sl) (h_7 : H) : Prop :=
  (if (decide (v13 < (p0_1.l : Int))) = true then (∃ a117 : Addr, p0_1.a = some a117 ∧ 0 ≤ v13 ∧ v13 < (p0_1.l : Int) ∧ (∃ (v118_0 : Int) (v118_1 : Int) (v118_2 : Sl), H.rdn h_7 (Addr.add a117 (Int.toNat v13 * 3)) 3 [(.int .i64 v118_0), (.int .i64 v118_1), (.slice v118_2.a v118_2.l v118_2.c)] ∧ S33 p0_0 p0_1 v118_0 v118_1 v118_2 h_7 (fun (v119_0_0 : Int) (v119_0_1 : Int) (v119_0_2 : Int) (v119_0_3 : ByteArray) (v119_1 : Int) (h_8 : H) => (if (v119_1 != 0) = true then K Sl.nil Sl.nil v119_1 h_8 else False)))) else S10_j1 p0_0 p0_1 K c7_0_2 c7_1_2 c2_0_2 c2_1_2 h_7)
def S10_j3 (p0_0 : Sl) (p0_1 : Sl) (K : Sl → Sl → Int → H → Prop) (c7_0 : Sl) (c7_1 : Sl) (c2_0 : Sl) (c2_1 : Sl) (h_3 : H) : Prop :=
  lfp (fun X s h_7 => S10_l2 p0_0 p0_1 K s.1 s.2.1 s.2.2.1 s.2.2.2.1 s.2.2.2.2 h_7) (0, c7_0, c7_1, c2_0, c2_1) h_3
def S10_j4 (v8 : Int) (c7_0_3 : Sl) (c7_1_3 : Sl) (c2_0_3 : Sl) (c2_1_3 : Sl) (X_1 : (Int × Sl × Sl × Sl × Sl) → H → Prop) (v70 : Bool) (v96 : Bool) (h_13 : H) : Prop :=
  (if v96 = true then False else app 4 1 1 c7_0_3 1 [(.bool (!v70))] h_13 (fun (v103 : Sl) (h_14 : H) => X_1 ((IntKind.wrap .i64 (v8 + 1)), v103, c7_1_3, c2_0_3, c2_1_3) h_14))
def S10_l5 (p0_0 : Sl) (p0_1 : Sl) (K : Sl → Sl → Int → H → Prop) (X_1 : (Int × Sl × Sl × Sl × Sl) → H → Prop) (v8 : Int) (c7_0_3 : Sl) (c7_1_3 : Sl) (c2_0_3 : Sl) (c2_1_3 : Sl) (h_9 : H) : Prop :=
  (if (decide (v8 < (p0_0.l : Int))) = true then (∃ a61 : Addr, p0_0.a = some a61 ∧ 0 ≤ v8 ∧ v8 < (p0_0.l : Int) ∧ (∃ (v62_0 : Int) (v62_1 : Int) (v62_2 : Int) (v62_3 : Int), H.rdn h_9 (Addr.add a61 (Int.toNat v8 * 4)) 4 [(.int .i64 v62_0), (.int .i64 v62_1), (.int .i64 v62_2), (.int .i64 v62_3)] ∧ S31 v62_0 v62_1 h_9 (fun (v65 : Bool) (h_10 : H) => S31 v62_2 v62_3 h_10 (fun (v68 : Bool) (h_11 : H) => S32 v62_0 v62_1 v62_2 v62_3 h_11 (fun (v70 : Bool) (h_12 : H) => S10_j4 v8 c7_0_3 c7_1_3 c2_0_3 c2_1_3 X_1 v70 ((v65 || v68) || ((!v70) && ((decide (v62_0 ≥ v62_2)) || (decide (v62_1 ≥ v62_3))))) h_12))))) else S10_j3 p0_0 p0_1 K c7_0_3 c7_1_3 c2_0_3 c2_1_3 h_9)
def S10_j6 (p0_0 : Sl) (p0_1 : Sl) (K : Sl → Sl → Int → H → Prop) (v48 : Bool) (h_2 : H) : Prop :=
  (if v48 = true then K Sl.nil Sl.nil 6 h_2 else lfp (fun X_1 s h_9 => S10_l5 p0_0 p0_1 K X_1 s.1 s.2.1 s.2.2.1 s.2.2.2.1 s.2.2.2.2 h_9) (0, Sl.nil, Sl.nil, Sl.nil, Sl.nil) h_2)
def S10_j7 (p0_0 : Sl) (p0_1 : Sl) (K : Sl → Sl → Int → H → Prop) (v5 : Int) (h_1 : H) : Prop :=
  S10_j6 p0_0 p0_1 K (((decide ((p0_0.l : Int) > 4096)) || (decide ((p0_1.l : Int) > 4096))) || (decide (v5 > 12288))) h_1
def S10_l8 (p0_0 : Sl) (p0_1 : Sl) (K : Sl → Sl → Int → H → Prop) (X_2 : (Int × Int) → H → Prop) (v5_1 : Int) (v6 : Int) (h_15 : H) : Prop :=
  (if (decide (v6 < (p0_1.l : Int))) = true then (∃ a30 : Addr, p0_1.a = some a30 ∧ 0 ≤ v6 ∧ v6 < (p0_1.l : Int) ∧ (∃ (v32 : Sl), H.rd h_15 (Addr.add (Addr.add a30 (Int.toNat v6 * 3)) 2) = some (.slice v32.a v32.l v32.c) ∧ X_2 ((IntKind.wrap .i64 (v5_1 + (v32.l : Int))), (IntKind.wrap .i64 (v6 + 1))) h_15)) else S10_j7 p0_0 p0_1 K v5_1 h_15)
def S10 (p0_0 : Sl) (p0_1 : Sl) (h : H) (K : Sl → Sl → Int → H → Prop) : Prop :=
  lfp (fun X_2 s h_15 => S10_l8 p0_0 p0_1 K X_2 s.1 s.2 h_15) (0, 0) h
end Go.Proofs.YtimadnngfhbfiaaGreatDoor
end

section
/-
  Drawings of points, as the reference's Shape tells them: without routes, with a first route that is wrong, too much.
-/
namespace Go.Proofs.YtimadnngfhbfiaaGreatDoor
open Go Go.Mu Go.Shape Go.Text
variable {h h0 : H}
set_option maxHeartbeats 1000000

theorem c31 {p : Pt} (hp : near p) {K : Bool → H → Prop} (k : K false h) : S31 p.1 p.2 h K := by
  unfold S31 S31_j1
  obtain ⟨⟨a, b⟩, c, d⟩ := hp
  rw [decide_eq_false (by omega), decide_eq_false (by omega), decide_eq_false (by omega), decide_eq_false (by omega)]
  exact k
theorem tot_rd {s : Sl} {rs : List Rt} (r : Rd h s 3 encR rs) {i : Nat} {x : Rt} (hx : rs[i]? = some x) : ∃ a : Addr, s.a = some a ∧ h.rd (Addr.add (Addr.add a (i * 3)) 2) = some (.slice x.2.2.a x.2.2.l x.2.2.c) := by
  obtain ⟨a, ha, hrd⟩ := r.ix hx
  exact ⟨a, ha, hrd.at 2 rfl⟩
theorem c10t {p0 p1 : Sl} {ps : List Pt} {rs : List Rt} (r0 : Rd h p0 4 encX ps) (r1 : Rd h p1 3 encR rs) (h0 : ps.length ≤ 1000000) (h1 : rs.length ≤ 1000000) (h2 : totR rs ≤ 1000000) {K : Sl → Sl → Int → H → Prop}
    (k : S10_j6 p0 p1 K (decide (4096 < ps.length ∨ 4096 < rs.length ∨ 12288 < totR rs)) h) : S10 p0 p1 h K := by
  have e0 := r0.len
  have e1 := r1.len
  unfold S10
  refine lfp.count rs.length (fun i (u : Int × Int) h' => h' = h ∧ u.2 = (i : Int) ∧ u.1 = (totR (rs.take i) : Int)) (fun X i u h' hi ⟨q1, q2, q3⟩ next => ?_) ⟨rfl, rfl, rfl⟩
  obtain ⟨u1, u2⟩ := u
  simp only at q2 q3; subst q1 q2 q3
  simp only
  unfold S10_l8
  by_cases hlt : i < rs.length
  · rw [if_pos (by simp; omega)]
    obtain ⟨r, hr⟩ : ∃ x, rs[i]? = some x := ⟨_, List.getElem?_eq_getElem hlt⟩
    obtain ⟨a, ha, hrd⟩ := tot_rd r1 hr
    have t1 := totR_take hr
    have t2 := totR_le rs (i + 1)
    refine ⟨a, ha, by omega, by omega, r.2.2, by rw [Int.toNat_natCast]; exact hrd, next hlt _ _ ⟨rfl, wsucc (by omega), ?_⟩⟩
    rw [t1]; exact wrapN (by omega) (by omega)
  · rw [if_neg (by simp; omega)]
    rw [List.take_of_length_le (by omega)]
    unfold S10_j7
    have e : ((decide ((p0.l : Int) > 4096) || decide ((p1.l : Int) > 4096)) || decide ((totR rs : Int) > 12288)) = decide (4096 < ps.length ∨ 4096 < rs.length ∨ 12288 < totR rs) := by
      rw [← Bool.decide_or, ← Bool.decide_or]
      refine decide_eq_decide.2 ?_
      omega
    rw [e]; exact k
theorem c10m {p0 p1 : Sl} {ps : List Pt} {rs : List Rt} (r0 : Rd h p0 4 encX ps) (r1 : Rd h p1 3 encR rs) (h0 : ps.length ≤ 1000000) (h1 : rs.length ≤ 1000000) (h2 : totR rs ≤ 1000000) (hm : 4096 < ps.length ∨ 4096 < rs.length ∨ 12288 < totR rs) {K : Sl → Sl → Int → H → Prop} (k : K Sl.nil Sl.nil 6 h) : S10 p0 p1 h K := by
  refine c10t r0 r1 h0 h1 h2 ?_
  rw [decide_eq_true hm]
  unfold S10_j6
  rw [if_pos rfl]; exact k
theorem c10a {p0 p1 : Sl} {ps : List Pt} {rs : List Rt} (r0 : Rd h p0 4 encX ps) (r1 : Rd h p1 3 encR rs) (hn : ∀ p ∈ ps, near p) (h0 : ps.length ≤ 4096) (h1 : rs.length ≤ 4096) (h2 : totR rs ≤ 12288) {K : Sl → Sl → Int → H → Prop}
    (k : ∀ s0 h', h.Le h' → Rd h' s0 1 encB (List.replicate ps.length false) → S10_j3 p0 p1 K s0 Sl.nil Sl.nil Sl.nil h') : S10 p0 p1 h K := by
  have e0 := r0.len
  refine c10t r0 r1 (by omega) (by omega) (by omega) ?_
  rw [decide_eq_false (by omega)]
  unfold S10_j6
  rw [if_neg (by decide)]
  refine lfp.count ps.length (fun i (u : Int × Sl × Sl × Sl × Sl) h' => u.1 = (i : Int) ∧ u.2.2 = (Sl.nil, Sl.nil, Sl.nil) ∧ St h h' (fun _ : Unit => .arr u.2.1 4 1 ((List.replicate i false).flatMap encB))) (fun X i u h' hi ⟨q1, q2, st⟩ next => ?_) ⟨rfl, rfl, St.nil1 h⟩
  obtain ⟨u0, u1, u2⟩ := u
  simp only at q1 q2 st
  subst q1 q2
  simp only
  unfold S10_l5
  by_cases hlt : i < ps.length
  · rw [if_pos (by simp; omega)]
    obtain ⟨p, hp⟩ : ∃ x, ps[i]? = some x := ⟨_, List.getElem?_eq_getElem hlt⟩
    have np := hn p (List.mem_of_getElem? hp)
    obtain ⟨a, ha, hrd⟩ := r0.ix hp
    refine ⟨a, ha, by omega, by omega, p.1, p.2, p.1, p.2, by rw [Int.toNat_natCast]; exact st.le.rdn hrd, ?_⟩
    refine c31 np (c31 np ?_)
    unfold S32 S10_j4
    have e : ((p.1 == p.1) && ((p.2 == p.2) && true)) = true := by simp
    rw [e]
    dsimp only
    rw [if_neg (by simp)]
    refine appB (enc := encB) false st (fun _ => rfl) (by decide) (by simp; omega) (by decide) fun s' h3 st3 => ?_
    rw [wsucc (by omega)]
    refine next hlt _ _ ⟨rfl, rfl, ?_⟩
    rw [List.replicate_succ']; exact st3
  · rw [if_neg (by simp; omega)]
    have : i = ps.length := by omega
    subst this
    exact k u1 h' st.le (St.rd1 st (fun _ => rfl) (by decide))
/-- No edges: no ends. -/
theorem c80 {p0 p1 : Sl} {v d : Int} (hp : p1.l = 0) {K : Sl → H → Prop} (k : K Sl.nil h) : S80 p0 p1 v d h K := by
  unfold S80
  intro X hX
  refine hX _ _ ?_
  unfold S80_l3 S80_j1
  dsimp only
  rw [if_neg (by simp [hp])]; exact k
theorem c34 {p0 p1 s0 s1 : Sl} {n : Nat} (rb : Rd h s0 1 encB (List.replicate n false)) (hs : s1.l = 0) (hn : n ≤ 4096) {K : Bool → H → Prop} (k : K true h) : S34 p0 p1 s0 s1 h K := by
  have eb := rb.len
  rw [List.length_replicate] at eb
  unfold S34
  refine lfp.count n (fun i (u : Int) h' => h' = h ∧ u = (i : Int)) (fun X i u h' hi ⟨q1, q2⟩ next => ?_) ⟨rfl, rfl⟩
  subst q1 q2
  unfold S34_l7
  by_cases hlt : i < n
  · rw [if_pos (by simp; omega)]
    obtain ⟨b, hb, hrb⟩ := rb.ix (i := i) (y := false) (by rw [List.getElem?_replicate, if_pos hlt])
    refine lfp.count 4 (fun d (u : Int) h2 => h2 = h' ∧ u = (d : Int)) (fun Y d u h2 hd ⟨q1, q2⟩ nxt => ?_) ⟨rfl, rfl⟩
    subst q1 q2
    unfold S34_l6
    by_cases hd4 : d < 4
    · rw [if_pos (by simp; omega)]
      refine c80 hs ⟨b, hb, by omega, by omega, false, by rw [Int.toNat_natCast]; exact hrb.at0, ?_⟩
      unfold S34_j5
      rw [if_neg (by simp [Sl.nil])]
      intro Z hZ
      refine hZ _ _ ?_
      unfold S34_l4 S34_j3
      dsimp only
      rw [if_neg (by simp [Sl.nil]), wsucc (by omega)]
      exact nxt hd4 _ _ ⟨rfl, rfl⟩
    · rw [if_neg (by simp; omega)]
      unfold S34_j2
      rw [wsucc (by omega)]
      exact next hlt _ _ ⟨rfl, rfl⟩
  · rw [if_neg (by simp; omega)]
    unfold S34_j1
    exact k
theorem c35 {s0 s1 : Sl} {n : Nat} (rb : Rd h s0 1 encB (List.replicate n false)) (hs : s1.l = 0) (hn : n ≤ 4096) {K : Int → H → Prop} (k : K 0 h) : S35 s0 s1 h K := by
  have eb := rb.len
  rw [List.length_replicate] at eb
  unfold S35
  -- Check
  unfold S82
  intro X hX
  refine hX _ _ ?_
  unfold S82_l5 S82_j4 S82_j3
  dsimp only
  rw [if_neg (by simp [hs]), if_neg (by simp [hs]; omega)]
  intro Y hY
  refine hY _ _ ?_
  unfold S82_l2 S82_j1
  dsimp only
  rw [if_neg (by simp [hs]), if_neg (by decide)]
  -- Count
  unfold S83
  refine lfp.count n (fun i (u : Int × Int) h' => h' = h ∧ u = ((i : Int), (i : Int))) (fun Z i u h' hi ⟨q1, q2⟩ next => ?_) ⟨rfl, rfl⟩
  subst q1 q2
  unfold S83_l8
  by_cases hlt : i < n
  · rw [if_pos (by simp; omega)]
    obtain ⟨b, hb, hrb⟩ := rb.ix (i := i) (y := false) (by rw [List.getElem?_replicate, if_pos hlt])
    intro V hV
    refine hV _ _ ?_
    unfold S83_l7 S83_j6 S83_j5 S83_j4
    dsimp only
    rw [if_pos (by simp)]
    refine ⟨b, hb, by omega, by omega, false, by rw [Int.toNat_natCast]; exact hrb.at0, ?_⟩
    rw [if_neg (by decide)]
    refine ⟨b, hb, by omega, by omega, false, by rw [Int.toNat_natCast]; exact hrb.at0, ?_⟩
    rw [if_neg (by decide), wsucc (by omega)]
    exact next hlt _ _ ⟨rfl, rfl⟩
  · rw [if_neg (by simp; omega)]
    unfold S83_j3
    intro V hV
    refine hV _ _ ?_
    unfold S83_l2 S83_j1
    dsimp only
    rw [if_neg (by simp [hs]), if_neg (by simp; omega)]
    clear next
    refine lfp.count n (fun i (u : Int) h2 => h2 = h' ∧ u = (i : Int)) (fun W i u h2 hi ⟨q1, q2⟩ next => ?_) ⟨rfl, rfl⟩
    subst q1 q2
    unfold S35_l7
    by_cases hlt2 : i < n
    · rw [if_pos (by simp; omega)]
      obtain ⟨b, hb, hrb⟩ := rb.ix (i := i) (y := false) (by rw [List.getElem?_replicate, if_pos hlt2])
      refine lfp.count 4 (fun d (u : Int) h3 => h3 = h2 ∧ u = (d : Int)) (fun U d u h3 hd ⟨q1, q2⟩ nxt => ?_) ⟨rfl, rfl⟩
      subst q1 q2
      unfold S35_l6 S35_j5 S35_j4
      by_cases hd4 : d < 4
      · rw [if_pos (by simp; omega)]
        refine ⟨b, hb, by omega, by omega, false, by rw [Int.toNat_natCast]; exact hrb.at0, ?_⟩
        rw [if_pos (by decide)]
        refine c80 hs ?_
        rw [if_neg (by simp [Sl.nil]), wsucc (by omega)]
        exact nxt hd4 _ _ ⟨rfl, rfl⟩
      · rw [if_neg (by simp; omega), if_neg (by decide), wsucc (by omega)]
        exact next hlt2 _ _ ⟨rfl, rfl⟩
    · rw [if_neg (by simp; omega)]
      unfold S35_j3
      intro U hU
      refine hU _ _ ?_
      unfold S35_l2 S35_j1
      dsimp only
      rw [if_neg (by simp [hs])]
      exact k
/-- Without routes. -/
theorem c10i {p0 p1 : Sl} {ps : List Pt} (r0 : Rd h p0 4 encX ps) (hp1 : p1.l = 0) (hn : ∀ p ∈ ps, near p) (h0 : ps.length ≤ 4096) {K : Sl → Sl → Int → H → Prop}
    (k : ∀ s0 h', h.Le h' → K s0 Sl.nil 0 h') : S10 p0 p1 h K := by
  have r1 : Rd h p1 3 encR [] := ⟨by rw [hp1]; rfl, fun _ hx => (by cases hx), fun hp => absurd hp (by omega)⟩
  refine c10a r0 r1 hn h0 (by decide) (by decide) fun s0 h1 le1 rb => ?_
  unfold S10_j3
  intro X hX
  refine hX _ _ ?_
  unfold S10_l2 S10_j1
  dsimp only
  rw [if_neg (by simp [hp1])]
  refine c34 rb rfl h0 ?_
  rw [if_neg (by decide)]
  refine c35 rb rfl h0 ?_
  rw [if_neg (by decide)]
  exact k s0 h1 le1
end Go.Proofs.YtimadnngfhbfiaaGreatDoor
end

section
/-
  Routes of drawings of points: one whose points are the same, and one of two points.
-/
namespace Go.Proofs.YtimadnngfhbfiaaGreatDoor
open Go Go.Mu Go.Shape Go.Text
variable {h h0 : H}
set_option maxHeartbeats 1000000

theorem c143e (p : Pt) {K : Int → Bool → H → Prop} (k : K 0 false h) : S143 p.1 p.2 p.1 p.2 h K := by
  unfold S143
  rw [if_pos (by simp)]; exact k
theorem c77e (p : Pt) {K : Int → H → Prop} (k : K (-1) h) : S77 p.1 p.2 p.1 p.2 h K := by
  unfold S77 S77_j1
  rw [if_neg (by simp), if_neg (by simp), if_neg (by simp), if_neg (by simp), if_neg (by simp)]; exact k
theorem c111e {s : Sl} {l : List Pt} {p : Pt} (r : Rd h s 2 encP l) (h0 : l[0]? = some p) (h1 : l[1]? = some p) {f t : Int} {K : Int → Int → Int → ByteArray → Int → Int → H → Prop} (k : K 0 0 0 ⟨#[]⟩ 0 15 h) : S111 f t s h K := by
  have e := r.len
  have hl : 1 < l.length := (List.getElem?_eq_some_iff.1 h1).1
  unfold S111
  intro X hX
  refine hX _ _ ?_
  unfold S111_l5
  dsimp only
  rw [if_pos (by simp; omega)]
  obtain ⟨a, ha, hr0⟩ := r.ix h0
  obtain ⟨a', ha', hr1⟩ := r.ix h1
  refine ⟨a, ha, by decide, by rw [show IntKind.i64.wrap (1 - 1) = 0 from rfl]; omega, p.1, p.2, hr0, a', ha', by decide, by omega, p.1, p.2, hr1, ?_⟩
  refine c143e p ?_
  rw [if_pos (by decide)]; exact k
/-- The far ones of a route's points: none. -/
theorem c66a {p0 p1 s : Sl} {n : Nat} {l : List Pt} (e0 : (p0.l : Int) = n) (r : Rd h s 2 encP l) (hn : ∀ p ∈ l, near p) (hl : l.length ≤ 100000) {f t : Nat} (hf : f < n) (ht : t < n) (h2 : 2 ≤ l.length) {K : Int → Int → Int → ByteArray → Int → H → Prop}
    (k : S66_j2 p0 f t s K 0 0 0 ⟨#[]⟩ h) : S66 p0 p1 f t s h K := by
  have e := r.len
  unfold S66 S66_j4
  rw [if_neg (by simp only [Bool.or_eq_true, decide_eq_true_eq]; split <;> split <;> omega), if_neg (by simp; omega)]
  refine lfp.count l.length (fun i (u : Int × Int × Int × Int × ByteArray) h' => h' = h ∧ u = ((i : Int), 0, 0, 0, ⟨#[]⟩)) (fun X i u h' hi ⟨q1, q2⟩ next => ?_) ⟨rfl, rfl⟩
  subst q1 q2
  simp only
  unfold S66_l3
  by_cases hlt : i < l.length
  · rw [if_pos (by simp; omega)]
    obtain ⟨x, hx⟩ : ∃ x, l[i]? = some x := ⟨_, List.getElem?_eq_getElem hlt⟩
    obtain ⟨a, ha, hr⟩ := r.ix hx
    refine ⟨a, ha, by omega, by omega, x.1, x.2, by rw [Int.toNat_natCast]; exact hr, ?_⟩
    refine c110 (hn x (List.mem_of_getElem? hx)) ?_
    rw [if_neg (by decide), wsucc (by omega)]
    exact next hlt _ _ ⟨rfl, rfl⟩
  · rw [if_neg (by simp; omega)]; exact k
/-- What is said of a route from the first box to itself, all points the same. -/
def errE (n k : Nat) : Int := if n = 0 then 3 else if k < 2 then 2 else 15
theorem c66e {p0 p1 s : Sl} {n : Nat} {l : List Pt} {p : Pt} (e0 : (p0.l : Int) = n) (r : Rd h s 2 encP l) (hn : near p) (hp : ∀ x ∈ l, x = p) (hl : l.length ≤ 100000) {K : Int → Int → Int → ByteArray → Int → H → Prop}
    (k : K 0 0 0 ⟨#[]⟩ (errE n l.length) h) : S66 p0 p1 0 0 s h K := by
  have e := r.len
  unfold errE at k
  by_cases h0 : n = 0
  · rw [if_pos h0] at k
    unfold S66 S66_j4
    rw [if_pos (by simp; omega)]; exact k
  · rw [if_neg h0] at k
    by_cases h2 : l.length < 2
    · rw [if_pos h2] at k
      unfold S66 S66_j4
      rw [if_neg (by simp; omega), if_pos (by simp; omega)]; exact k
    · rw [if_neg h2] at k
      refine c66a (f := 0) (t := 0) e0 r (fun x hx => by rw [hp x hx]; exact hn) hl (by omega) (by omega) (by omega) ?_
      have g : ∀ i, i < 2 → l[i]? = some p := fun i hi => by
        have hi' : i < l.length := by omega
        rw [List.getElem?_eq_getElem hi', hp _ (List.getElem_mem hi')]
      unfold S66_j2
      refine c111e r (g 0 (by decide)) (g 1 (by decide)) ?_
      rw [if_pos (by decide)]; exact k
theorem c33e {p0 p1 s : Sl} {n : Nat} {l : List Pt} {p : Pt} (e0 : (p0.l : Int) = n) (r : Rd h s 2 encP l) (hn : near p) (hp : ∀ x ∈ l, x = p) (hl : l.length ≤ 100000) {K : Int → Int → Int → ByteArray → Int → H → Prop}
    (k : K 0 0 0 ⟨#[]⟩ (errE n l.length) h) : S33 p0 p1 0 0 s h K := by
  have e := r.len
  unfold errE at k
  unfold S33 S33_j5
  by_cases h0 : n = 0
  · rw [if_pos h0] at k
    rw [if_pos (by simp; omega)]; exact k
  · rw [if_neg h0] at k
    rw [if_neg (by simp; omega)]
    by_cases h2 : l.length < 2
    · rw [if_pos h2] at k
      rw [if_pos (by simp; omega)]; exact k
    · rw [if_neg h2] at k
      rw [if_neg (by simp; omega)]
      refine lfp.count l.length (fun i (u : Int × Int × Int × Int × ByteArray) h' => h' = h ∧ u = ((i : Int), 0, 0, 0, ⟨#[]⟩)) (fun X i u h' hi ⟨q1, q2⟩ next => ?_) ⟨rfl, rfl⟩
      subst q1 q2
      simp only
      unfold S33_l4
      by_cases hlt : i < l.length
      · rw [if_pos (by simp; omega)]
        obtain ⟨x, hx⟩ : ∃ x, l[i]? = some x := ⟨_, List.getElem?_eq_getElem hlt⟩
        obtain ⟨a, ha, hr⟩ := r.ix hx
        refine ⟨a, ha, by omega, by omega, x.1, x.2, by rw [Int.toNat_natCast]; exact hr, ?_⟩
        refine c31 (by rw [hp x (List.mem_of_getElem? hx)]; exact hn) ?_
        rw [if_neg (by decide), wsucc (by omega)]
        exact next hlt _ _ ⟨rfl, rfl⟩
      · rw [if_neg (by simp; omega)]
        have g : ∀ i, i < 2 → l[i]? = some p := fun i hi => by
          have hi' : i < l.length := by omega
          rw [List.getElem?_eq_getElem hi', hp _ (List.getElem_mem hi')]
        unfold S33_j3
        intro Y hY
        refine hY _ _ ?_
        unfold S33_l2
        dsimp only
        rw [if_pos (by simp; omega)]
        obtain ⟨a, ha, hr0⟩ := r.ix (g 0 (by decide))
        obtain ⟨a', ha', hr1⟩ := r.ix (g 1 (by decide))
        refine ⟨a, ha, by decide, by rw [show IntKind.i64.wrap (1 - 1) = 0 from rfl]; omega, p.1, p.2, hr0, a', ha', by decide, by omega, p.1, p.2, hr1, ?_⟩
        refine c77e p ?_
        rw [if_pos (by decide)]; exact k
theorem errE_ne (n k : Nat) : (errE n k != 0) = true := by
  unfold errE
  split
  · rfl
  · split <;> rfl
/-- A drawing whose first route is wrong, on both sides. -/
theorem c28e {p0 p1 : Sl} {ps : List Pt} {rs : List Rt} {s : Sl} {l : List Pt} {p : Pt} (r0 : Rd h p0 4 encX ps) (r1 : Rd h p1 3 encR rs) (hn : ∀ p ∈ ps, near p) (h0 : ps.length ≤ 4096) (h1 : rs.length ≤ 4096) (h2 : totR rs ≤ 12288)
    (hr : rs[0]? = some (0, 0, s)) (r : Rd h s 2 encP l) (np : near p) (hp : ∀ x ∈ l, x = p) (hl : l.length ≤ 100000) {K : Sl → Sl → Int → H → Prop} (k : ∀ s0 s1 h', h.Le h' → K s0 s1 (errE ps.length l.length) h') : S28 p0 p1 h K := by
  have e1 := r1.len
  have hm : 0 < rs.length := (List.getElem?_eq_some_iff.1 hr).1
  refine c28a r0 r1 hn h0 h1 h2 fun s0 h1 le1 rb => ?_
  unfold S28_j8
  intro X hX
  refine hX _ _ ?_
  unfold S28_l7
  dsimp only
  rw [if_pos (by simp; omega)]
  obtain ⟨a, ha, hrd⟩ := r1.ix hr
  refine ⟨a, ha, by decide, by omega, 0, 0, s, le1.rdn hrd, ?_⟩
  refine c66e r0.len (r.le le1) np hp hl ?_
  rw [if_pos (errE_ne _ _)]; exact k _ _ _ le1
theorem c10e {p0 p1 : Sl} {ps : List Pt} {rs : List Rt} {s : Sl} {l : List Pt} {p : Pt} (r0 : Rd h p0 4 encX ps) (r1 : Rd h p1 3 encR rs) (hn : ∀ p ∈ ps, near p) (h0 : ps.length ≤ 4096) (h1 : rs.length ≤ 4096) (h2 : totR rs ≤ 12288)
    (hr : rs[0]? = some (0, 0, s)) (r : Rd h s 2 encP l) (np : near p) (hp : ∀ x ∈ l, x = p) (hl : l.length ≤ 100000) {K : Sl → Sl → Int → H → Prop} (k : ∀ h', h.Le h' → K Sl.nil Sl.nil (errE ps.length l.length) h') : S10 p0 p1 h K := by
  have e1 := r1.len
  have hm : 0 < rs.length := (List.getElem?_eq_some_iff.1 hr).1
  refine c10a r0 r1 hn h0 h1 h2 fun s0 h1 le1 rb => ?_
  unfold S10_j3
  intro X hX
  refine hX _ _ ?_
  unfold S10_l2
  dsimp only
  rw [if_pos (by simp; omega)]
  obtain ⟨a, ha, hrd⟩ := r1.ix hr
  refine ⟨a, ha, by decide, by omega, 0, 0, s, le1.rdn hrd, ?_⟩
  refine c33e r0.len (r.le le1) np hp hl ?_
  rw [if_pos (errE_ne _ _)]; exact k _ le1
/- ---------------------------------------------------------------- the wake's route -/
theorem c112 {p q : Pt} {d : Int} {K : Bool → H → Prop} (k : K ((q.1 == p.1) && ((q.2 == p.2) && true)) h) : S112 p.1 p.2 p.1 p.2 d q.1 q.2 h K := by
  unfold S112
  rw [if_pos (by simp)]; exact k
theorem c66w {p0 p1 s : Sl} (r0 : Rd h p0 4 encX [(0, 0), (1, 0)]) (r : Rd h s 2 encP [(0, 0), (1, 0)]) {K : Int → Int → Int → ByteArray → Int → H → Prop}
    (k : K 0 1 0 ⟨#[]⟩ 0 h) : S66 p0 p1 0 1 s h K := by
  have e0 := r0.len
  have e := r.len
  have nr : ∀ p ∈ [((0, 0) : Pt), (1, 0)], near p := fun p hp => by
    rcases List.mem_cons.1 hp with rfl | hp
    · unfold near; omega
    · rcases List.mem_cons.1 hp with rfl | hp
      · unfold near; omega
      · cases hp
  refine c66a (f := 0) (t := 1) e0 r nr (by decide) (by decide) (by decide) (by decide) ?_
  obtain ⟨a, ha, hr0⟩ := r.ix (i := 0) rfl
  obtain ⟨a', ha', hr1⟩ := r.ix (i := 1) rfl
  obtain ⟨b, hb, hb0⟩ := r0.ix (i := 0) rfl
  obtain ⟨b', hb', hb1⟩ := r0.ix (i := 1) rfl
  have e2 : s.l = 2 := by simpa using r.1
  have e3 : p0.l = 2 := by simpa using r0.1
  unfold S66_j2 S111
  intro X hX
  refine hX _ _ ?_
  unfold S111_l5
  dsimp only
  rw [if_pos (by simp [e2])]
  refine ⟨a, ha, by decide, by rw [e2]; decide, 0, 0, hr0, a', ha', by decide, by rw [e2]; decide, 1, 0, hr1, ?_⟩
  unfold S143
  rw [if_neg (by decide), if_pos (by decide)]
  dsimp only
  rw [if_neg (by decide), if_pos (by decide)]
  unfold S111_j4
  refine hX _ _ ?_
  unfold S111_l5
  dsimp only
  rw [if_neg (by rw [e2]; decide)]
  unfold S111_j3
  intro Y hY
  refine hY _ _ ?_
  unfold S111_l2 S111_j1
  dsimp only
  rw [if_neg (by simp [e2]), if_neg (by decide)]
  refine ⟨a, ha, by decide, by rw [e2]; decide, 0, 0, hr0, a', ha', by rw [e2]; decide, by rw [e2]; decide, 1, 0, by rw [e2]; exact hr1, by rw [e2]; exact hr1, b, hb, by decide, by rw [e3]; decide, 0, 0, 0, 0, hb0, ?_⟩
  refine c112 (p := (0, 0)) (q := (0, 0)) ?_
  rw [if_neg (by decide)]
  refine ⟨b', hb', by decide, by rw [e3]; decide, 1, 0, 1, 0, hb1, ?_⟩
  refine c104 (d := 0) (e := 2) (by decide) (left2 (d := 0) (by decide)) ?_
  refine ⟨hb1, ?_⟩
  refine c112 (p := (1, 0)) (q := (1, 0)) ?_
  unfold S66_j1
  rw [if_neg (by decide)]; exact k
end Go.Proofs.YtimadnngfhbfiaaGreatDoor
end

section
/-
  Roles told by numbers; the ends of the wake's drawing, its shape.
-/
namespace Go.Mu
variable {h0 h : H} {M : Nat → Res}
theorem pk0 {M : Nat → Res} {r : Nat} {x : Res} : put M r x r = x := put_eq _ _ _
theorem pk1 {M : Nat → Res} {r i : Nat} {x y : Res} (e : M i = y) (hi : i ≠ r := by decide) : put M r x i = y := (put_ne M x hi).trans e
theorem St.putApp {sl : Sl} {e size bytes : Nat} {xs new : List Value} (st : St h0 h M) (r : Nat) (hr : M r = .arr sl e size xs) (hsz : new.length = size) (hl : sl.l < 1000) (hb : bytes ≤ 1000) {K : Sl → H → Prop}
    (k : ∀ s' h', s'.l = sl.l + 1 → St h0 h' (put M r (.arr s' e size (xs ++ new))) → K s' h') : Mu.app e size bytes sl 1 new h K := by
  refine ⟨_, _, st.own r hr, by simp only [maxLen]; omega, ?_, fun s' h' ap => ?_⟩
  · have : (sl.l + 1) * bytes ≤ 1001 * 1000 := Nat.mul_le_mul (by omega) hb
    omega
  · obtain ⟨st1, e1⟩ := st.app r hr rfl (by rw [hsz, Nat.one_mul]) ap (put M r (.arr s' e size (xs ++ new))) (put_eq _ _ _) (put_or _ _ _)
    exact k _ _ e1 st1
theorem St.putNew {h' : H} {b : Nat} {x : Blk} (st : St h0 h M) (r : Nat) (hb : h b = none) (e : h' = h.set b x) : St h0 h' (put M r (.blk b x)) := by
  rw [e]; exact st.alloc x hb r _ (put_eq _ _ _) (put_or _ _ _)
theorem St.putNil (st : St h0 h M) (r : Nat) (e size : Nat) : St h0 h (put M r (.arr Sl.nil e size [])) := st.nilArr r _ (put_eq _ _ _) (put_or _ _ _)
theorem St.putWr {b : Nat} {cells : List Value} {n e : Nat} (st : St h0 h M) (r : Nat) (hr : M r = .blk b (.row ⟨cells, n, e, true, true⟩)) {off : Nat} {vs : List Value} (hl : off + vs.length ≤ cells.length) :
    ∃ h', H.wr h ⟨b, off, none⟩ vs h' ∧ St h0 h' (put M r (.blk b (.row ⟨setL cells off vs, n, e, true, true⟩))) := st.wr r hr rfl hl _ (put_eq _ _ _) (put_or _ _ _)
theorem St.putRd {b : Nat} {cells : List Value} {n e : Nat} (st : St h0 h M) (r : Nat) (hr : M r = .blk b (.row ⟨cells, n, e, true, true⟩)) {off : Nat} {v : Value} (hv : cells[off]? = some v) : h.rd ⟨b, off, none⟩ = some v := st.rd r hr hv
theorem St.putRow {b n e size : Nat} {α : Type} {enc : α → List Value} {l : List α} (st : St h0 h M) (r : Nat) (hr : M r = .blk b (.row ⟨l.flatMap enc, n, e, true, true⟩)) (hsz : ∀ x ∈ l, (enc x).length = size) : Rd h ⟨some ⟨b, 0, none⟩, l.length, l.length⟩ size enc l := by
  refine ⟨rfl, hsz, fun _ => ⟨_, rfl, fun i x hi => ⟨hsz x (List.mem_of_getElem? hi), fun j v hj => ?_⟩⟩⟩
  rw [Addr.add_n, Addr.add_n, Nat.zero_add]
  exact st.rd r hr (flatMap_at hsz hi hj)
end Go.Mu
namespace Go.Proofs.YtimadnngfhbfiaaGreatDoor
open Go Go.Mu Go.Shape Go.Text
variable {h h0 : H}
set_option maxHeartbeats 1000000

def e01 : Ed := ⟨0, 1, 0, []⟩
def wkF (s1 s2 : Sl) (v d : Nat) : Sl := if v = 0 ∧ d = 0 then s1 else if v = 1 ∧ d = 2 then s2 else Sl.nil
theorem c67w {p0 p1 s0 s1 sl : Sl} (e0 : p0.l = 2) (r1 : Rd h p1 3 encR [(0, 1, sl)]) (r : Rd h sl 2 encP [(0, 0), (1, 0)]) (rs : Rd h s1 4 Ed.enc [e01]) {K : Sl → H → Prop}
    (k : ∀ v h' f, h.Le h' → Rd h' v 4 (encF f) (List.range 2) → (∀ v d, (f v d).l ≤ 1) → K v h') : S67 p0 p1 s0 s1 h K := by
  have es : s1.l = 1 := by simpa using rs.1
  have el : sl.l = 2 := by simpa using r.1
  have ep : p1.l = 1 := by simpa using r1.1
  unfold S67
  rw [e0]
  refine ⟨by decide, by decide, by decide, by decide, fun b h1 n1 e1 => ?_⟩
  rw [show (Int.toNat ((2 : Nat) : Int)) = 2 from rfl, zeros4s] at e1
  have st := (St.init (ρ := Nat) h).putNew 0 n1 e1
  have st := (st.putNil 1 77 2).putNil 2 77 2
  have le1 := le_new n1 e1
  intro X hX
  refine hX _ _ ?_
  unfold S67_l4
  dsimp only
  rw [if_pos (by rw [es]; decide)]
  obtain ⟨a, ha, hre⟩ := rs.ix (i := 0) rfl
  obtain ⟨a', ha', hrr⟩ := r1.ix (i := 0) rfl
  obtain ⟨c, hc, hr0⟩ := r.ix (i := 0) rfl
  obtain ⟨c', hc', hr1⟩ := r.ix (i := 1) rfl
  refine ⟨a, ha, by decide, by rw [es]; decide, 0, 1, 0, ⟨#[]⟩, le1.rdn hre, a', ha', by decide, by rw [ep]; decide, 0, 1, sl, le1.rdn hrr, ?_⟩
  intro Y hY
  refine hY _ _ ?_
  unfold S67_l3
  dsimp only
  rw [if_neg (by decide)]
  unfold S67_j2
  refine ⟨_, rfl, by decide, by rw [e0]; decide, by decide, by decide, _, rfl, by decide, by rw [e0]; decide, ?_⟩
  refine c104 (d := 0) (e := 2) (by decide) (left2 (d := 0) (by decide)) ?_
  refine ⟨by decide, by decide, Sl.nil, ?_, c, hc, by decide, by rw [el]; decide, 0, 0, le1.rdn hr0, ?_⟩
  · rw [Addr.add_n, Addr.add_n]
    exact st.putRd 0 (pk1 (pk1 pk0)) rfl
  refine st.putApp 1 (pk1 pk0) rfl (by decide) (by decide) fun v68 h2 l68 st2 => ?_
  have le2 := st2.le
  obtain ⟨h3, w3, st3⟩ := st2.putWr 0 (pk1 (pk1 (pk1 pk0))) (off := 0) (vs := [v68.v]) (Nat.le_of_ble_eq_true rfl)
  have le3 := st3.le
  refine ⟨h3, by rw [Addr.add_n, Addr.add_n]; exact w3, Sl.nil, ?_, c', hc', by rw [el]; decide, by rw [el]; decide, 1, 0, by rw [el]; exact le3.rdn hr1, ?_⟩
  · rw [Addr.add_n, Addr.add_n]
    exact st3.putRd 0 pk0 rfl
  refine st3.putApp 2 (pk1 (pk1 pk0)) rfl (by decide) (by decide) fun v83 h4 l83 st4 => ?_
  obtain ⟨h5, w5, st5⟩ := st4.putWr 0 (pk1 pk0) (off := 6) (vs := [v83.v]) (Nat.le_of_ble_eq_true rfl)
  refine ⟨h5, by rw [Addr.add_n, Addr.add_n]; exact w5, ?_⟩
  refine hX _ _ ?_
  unfold S67_l4 S67_j1
  dsimp only
  rw [if_neg (by rw [es]; decide), e0]
  refine k _ _ (wkF v68 v83) st5.le ?_ fun v d => ?_
  · exact st5.putRow (l := List.range 2) (enc := encF (wkF v68 v83)) 0 pk0 fun _ _ => rfl
  · unfold wkF
    split
    · rw [l68]; decide
    · split
      · rw [l83]; decide
      · decide
end Go.Proofs.YtimadnngfhbfiaaGreatDoor
end

section
/-
  The norm and the points of drawings of points: without routes, and the wake's.
-/
namespace Go.Shape
open Go Go.Mu
def bx2 : List Bool := [false, false]
def cells2 : List Cell := [⟨1, -1, -1, -1, 0, 0, 0, 0⟩, ⟨-1, -1, 0, -1, 0, 0, 0, 0⟩]
theorem firsts_pts {bx : List Bool} {es : List Ed} (hf : ∀ x ∈ bx, x = false) (n : Nat) : firsts bx es n = List.range n := by
  unfold firsts
  rw [List.map_congr_left (g := id) fun v _ => (verts_pts hf v).1, List.map_id]
theorem on_nil (v d : Nat) : on [] v d = [] := rfl
theorem verts_nil (n : Nat) : (verts (List.replicate n false) [] n).1 = List.replicate n Cell.empty := by
  have key : ∀ m, m ≤ n → (verts (List.replicate n false) [] m).1 = List.replicate m Cell.empty := by
    intro m
    induction m with
    | zero => intro _; rfl
    | succ m ih =>
      intro hm
      have hb : (List.replicate n false).getD m false = false := by
        rw [List.getD_eq_getElem?_getD]
        cases e : (List.replicate n false)[m]? with
        | none => rfl
        | some x => exact (List.mem_replicate.1 (List.mem_of_getElem? e)).2
      rw [verts_succ, vtx, hb, if_neg (by decide), point]
      simp only [ih (by omega), List.replicate_succ']
  exact key n (Nat.le_refl n)
/-- The points that are laid: so many of them. -/
def laidP (ps : List Pt) (i : Nat) : List Pt := ps.take i ++ List.replicate (ps.length - i) (0, 0)
theorem laidP_len (ps : List Pt) {i : Nat} (hi : i ≤ ps.length) : (laidP ps i).length = ps.length := by simp [laidP]; omega
theorem laidP_at {ps : List Pt} {i : Nat} (hi : i < ps.length) : (laidP ps i)[i]? = some (0, 0) := by
  unfold laidP
  rw [List.getElem?_append_right (by simp; omega), List.getElem?_replicate, if_pos (by simp; omega)]
theorem laidP_set {ps : List Pt} {i : Nat} {p : Pt} (hp : ps[i]? = some p) : (laidP ps i).set i p = laidP ps (i + 1) := by
  have hi := (List.getElem?_eq_some_iff.1 hp).1
  unfold laidP
  rw [List.set_append_right _ _ (by simp; omega), List.take_add_one, hp, List.append_assoc]
  have e1 : ps.length - i = (ps.length - (i + 1)) + 1 := by omega
  have e2 : i - (ps.take i).length = 0 := by simp; omega
  rw [e1, e2, List.replicate_succ, List.set_cons_zero]; rfl
theorem laidP_zero (ps : List Pt) : laidP ps 0 = List.replicate ps.length (0, 0) := by simp [laidP]
theorem laidP_full (ps : List Pt) : laidP ps ps.length = ps := by simp [laidP]
theorem zerosP (n : Nat) : zeros (.agg #[(.int .i64 0), (.int .i64 0)]) (n * 2) = (List.replicate n ((0, 0) : Pt)).flatMap encP := by
  have h1 := zeros_agg (xs := [.int .i64 0, .int .i64 0]) (size := 2) (m := n) rfl (by decide)
  rw [show (Value.agg #[(.int .i64 0), (.int .i64 0)]) = .agg ([.int .i64 0, .int .i64 0] : List Value).toArray from rfl, h1]
  clear h1
  induction n with
  | zero => rfl
  | succ n ih => rw [List.replicate_succ, List.flatMap_cons, ih, List.replicate_succ, List.flatMap_cons]; rfl
theorem setP {l : List Pt} {i : Nat} {x p : Pt} (hx : l[i]? = some x) : setL (l.flatMap encP) (i * 2) (encP p) = (l.set i p).flatMap encP := by
  have hi := (List.getElem?_eq_some_iff.1 hx).1
  show setL (setL (l.flatMap encP) (i * 2 + 0) [.int .i64 p.1]) (i * 2 + 1) [.int .i64 p.2] = _
  rw [setL_flatMap (enc := encP) (y := (p.1, x.2)) (by decide) (fun _ _ => rfl) hx rfl, setL_flatMap (enc := encP) (x := (p.1, x.2)) (y := p) (by decide) (fun _ _ => rfl) (by simp [hi]) rfl, List.set_set]
end Go.Shape
namespace Go.Proofs.YtimadnngfhbfiaaGreatDoor
open Go Go.Mu Go.Shape Go.Text
variable {h h0 : H}
set_option maxHeartbeats 1000000

theorem c28w {p0 p1 sl : Sl} (r0 : Rd h p0 4 encX [(0, 0), (1, 0)]) (r1 : Rd h p1 3 encR [(0, 1, sl)]) (r : Rd h sl 2 encP [(0, 0), (1, 0)]) {K : Sl → Sl → Int → H → Prop}
    (k : ∀ s0 s1 h', h.Le h' → Rd h' s0 1 encB bx2 → Rd h' s1 4 Ed.enc [e01] → K s0 s1 0 h') : S28 p0 p1 h K := by
  have el : sl.l = 2 := r.1
  have ep : p1.l = 1 := r1.1
  have nr : ∀ p ∈ [((0, 0) : Pt), (1, 0)], near p := fun p hp => by
    rcases List.mem_cons.1 hp with rfl | hp
    · unfold near; omega
    · rcases List.mem_cons.1 hp with rfl | hp
      · unfold near; omega
      · cases hp
  refine c28a r0 r1 nr (by decide) (Nat.le_of_ble_eq_true rfl) (by simp [totR, el]) fun s0 h1 le1 rb => ?_
  unfold S28_j8
  intro X hX
  refine hX _ _ ?_
  unfold S28_l7
  dsimp only
  rw [if_pos (by simp [ep])]
  obtain ⟨a, ha, hrd⟩ := r1.ix (i := 0) rfl
  refine ⟨a, ha, by decide, by rw [ep]; decide, 0, 1, sl, le1.rdn hrd, ?_⟩
  refine c66w (r0.le le1) (r.le le1) ?_
  rw [if_neg (by decide)]
  refine appB (enc := Ed.enc) (l := []) e01 (St.nil1 h1) (fun _ => rfl) (by decide) (by decide) (by decide) fun s1 h2 st2 => ?_
  have rs := St.rd1 st2 (fun _ => rfl) (by decide)
  refine hX _ _ ?_
  unfold S28_l7
  dsimp only
  rw [if_neg (by simp [ep, show IntKind.i64.wrap 1 = 1 from rfl])]
  unfold S28_j6
  have le2 := le1.trans st2.le
  refine c67w (by simpa using r0.1) (r1.le le2) (r.le le2) rs fun v h3 f le3 rf hf => ?_
  refine c28z (n := 2) ((rb.le st2.le).le le3) rf hf (by decide) ?_
  exact k s0 s1 h3 (le2.trans le3) ((rb.le st2.le).le le3) (rs.le le3)
/-- The boxes' points are laid. -/
theorem c30a {p0 p1 s0 s1 c f w : Sl} {ps : List Pt} (r0 : Rd h p0 4 encX ps) (rb : Rd h s0 1 encB (List.replicate ps.length false)) (rf : Rd h f 1 encN (List.range ps.length)) (hc : c.l = ps.length) (hn : ps.length ≤ 4096) {K : Sl → H → Prop}
    (k : ∀ b h', St h h' (fun _ : Unit => .blk b (.row ⟨ps.flatMap encP, ps.length * 2, 77, true, true⟩)) → S30_j5 p1 c w K b h') : S30 p0 p1 s0 s1 c f w h K := by
  have e0 := r0.len
  have eb := rb.len
  have ef := rf.len
  rw [List.length_replicate] at eb
  rw [List.length_range] at ef
  unfold S30
  rw [hc]
  refine ⟨by omega, by omega, by omega, by omega, fun b h1 n1 e1 => ?_⟩
  rw [Int.toNat_natCast, zerosP, ← laidP_zero, flatMap_len (size := 2) (fun _ _ => rfl), laidP_len _ (Nat.zero_le _)] at e1
  have st1 : St h h1 (fun _ : Unit => .blk b (.row ⟨(laidP ps 0).flatMap encP, ps.length * 2, 77, true, true⟩)) := by
    rw [e1]
    exact (St.init (ρ := Unit) h).alloc _ n1 () _ rfl fun i hi => (hi rfl).elim
  refine lfp.count ps.length (fun i (u : Int) h' => u = (i : Int) ∧ St h h' (fun _ : Unit => .blk b (.row ⟨(laidP ps i).flatMap encP, ps.length * 2, 77, true, true⟩))) (fun X i u h' hi ⟨q1, st⟩ next => ?_) ⟨rfl, st1⟩
  subst q1
  unfold S30_l7
  by_cases hlt : i < ps.length
  · rw [if_pos (by simp; omega)]
    obtain ⟨p, hp⟩ : ∃ x, ps[i]? = some x := ⟨_, List.getElem?_eq_getElem hlt⟩
    obtain ⟨a, ha, hrd⟩ := r0.ix hp
    obtain ⟨a2, ha2, hrf⟩ := rf.ix (i := i) (y := i) (by rw [List.getElem?_range hlt])
    obtain ⟨a3, ha3, hrb⟩ := rb.ix (i := i) (y := false) (by rw [List.getElem?_replicate, if_pos hlt])
    have hlen : ((laidP ps i).flatMap encP).length = ps.length * 2 := by rw [flatMap_len (size := 2) (fun _ _ => rfl), laidP_len _ hi]
    obtain ⟨h2, w2, st2⟩ := st.wr () rfl rfl (off := i * 2) (vs := encP p) (by rw [hlen]; show i * 2 + 2 ≤ _; omega) (fun _ => .blk b (.row ⟨(laidP ps (i + 1)).flatMap encP, ps.length * 2, 77, true, true⟩)) (by rw [setP (laidP_at hlt), laidP_set hp]) (fun j hj => (hj rfl).elim)
    refine ⟨a, ha, by omega, by omega, p.1, p.2, p.1, p.2, by rw [Int.toNat_natCast]; exact st.le.rdn hrd, a2, ha2, by omega, by omega, (i : Int), by rw [Int.toNat_natCast]; exact st.le.rd hrf.at0, _, rfl, by omega, by rw [hc]; rw [Int.toNat_natCast]; omega, h2, by rw [Int.toNat_natCast, Addr.add_n, Nat.zero_add]; exact w2, a3, ha3, by omega, by omega, false, by rw [Int.toNat_natCast]; exact st2.le.rd hrb.at0, ?_⟩
    rw [if_neg (by decide)]
    unfold S30_j6
    rw [wsucc (by omega)]
    exact next hlt _ _ ⟨rfl, st2⟩
  · rw [if_neg (by simp; omega)]
    have : i = ps.length := by omega
    subst this
    rw [laidP_full] at st
    exact k b h' st
theorem row_Rd {b n e size : Nat} {α : Type} {enc : α → List Value} {l : List α} (st : St h0 h (fun _ : Unit => .blk b (.row ⟨l.flatMap enc, n, e, true, true⟩))) (hsz : ∀ x ∈ l, (enc x).length = size) : Rd h ⟨some ⟨b, 0, none⟩, l.length, l.length⟩ size enc l := by
  refine ⟨rfl, hsz, fun _ => ⟨_, rfl, fun i x hi => ⟨hsz x (List.mem_of_getElem? hi), fun j v hj => ?_⟩⟩⟩
  rw [Addr.add_n, Addr.add_n, Nat.zero_add]
  exact st.rd () rfl (flatMap_at hsz hi hj)
theorem c30i {p0 p1 s0 s1 c f w : Sl} {ps : List Pt} (r0 : Rd h p0 4 encX ps) (rb : Rd h s0 1 encB (List.replicate ps.length false)) (rf : Rd h f 1 encN (List.range ps.length)) (hc : c.l = ps.length) (hw : w.l = 0) (hn : ps.length ≤ 4096) {K : Sl → H → Prop}
    (k : ∀ a h', h.Le h' → Rd h' a 2 encP ps → K a h') : S30 p0 p1 s0 s1 c f w h K := by
  refine c30a r0 rb rf hc hn fun b h1 st => ?_
  unfold S30_j5
  intro X hX
  refine hX _ _ ?_
  unfold S30_l4
  dsimp only
  rw [if_neg (by simp [hw])]
  unfold S30_j1
  rw [hc, Int.toNat_natCast]
  exact k _ h1 st.le (row_Rd st fun _ _ => rfl)
/-- The norm of points without edges. -/
theorem c29i {s0 s1 : Sl} {n : Nat} (rb : Rd h s0 1 encB (List.replicate n false)) (hs : s1.l = 0) (hn : n ≤ 4096) {K : Sl → Sl → Sl → Int → H → Prop}
    (k : ∀ c f w h', h.Le h' → Rd h' c 8 Cell.enc (List.replicate n Cell.empty) → Rd h' f 1 encN (List.range n) → w.l = 0 → K c f w 0 h') : S29 s0 s1 h K := by
  have hf : ∀ x ∈ List.replicate n false, x = false := fun x hx => (List.mem_replicate.1 hx).2
  have rn : Rd h s1 4 Ed.enc [] := ⟨by rw [hs]; rfl, fun _ hx => (by cases hx), fun hp => absurd hp (by omega)⟩
  refine c29 (bx := List.replicate n false) (es := []) ⟨rb, rn, by simpa using hn, by decide, fun _ hx => by cases hx⟩ (fun _ hx => by cases hx) hf (by simpa using hn) (.inl rfl) (fun ⟨v, d, _, _, hs⟩ => ?_) (fun _ ⟨i, x, hx, _⟩ => by simp at hx) fun _ _ c f w ws h' st hws => ?_
  · have := hs.2
    rw [on_nil] at this
    simp at this
  · rw [List.length_replicate] at st
    have r1 := st.arr (enc := Cell.enc) .cells rfl (enc8 _) (by decide)
    have r2 := st.arr (enc := encN) .first rfl (fun _ _ => rfl) (by decide)
    have r3 := st.arr (enc := fun p : Sl × List Nat => [p.1.v]) .ways rfl (fun _ _ => rfl) (by decide)
    rw [firsts_pts hf] at r2
    rw [show (edges (verts (List.replicate n false) [] n).2 (verts (List.replicate n false) [] n).1 []).1 = (verts (List.replicate n false) [] n).1 from rfl, verts_nil] at r1
    refine k c f w h' st.le r1 r2 ?_
    have : ws.length = 0 := by
      have := congrArg List.length hws
      simpa [edges] using this
    rw [r3.1, this]
theorem c9i {p0 p1 : Sl} {ps : List Pt} (r0 : Rd h p0 4 encX ps) (hp1 : p1.l = 0) (hn : ∀ p ∈ ps, near p) (h0 : ps.length ≤ 4096) {K : Sl → Sl → Sl → Int → H → Prop}
    (k : ∀ s0 a h', h.Le h' → Rd h' s0 1 encB (List.replicate ps.length false) → Rd h' a 2 encP ps → K s0 Sl.nil a 0 h') : S9 p0 p1 h K := by
  unfold S9
  refine c28i r0 hp1 hn h0 fun s0 h1 le1 rb => ?_
  rw [if_neg (by decide)]
  refine c29i rb rfl h0 fun c f w h2 le2 rc rf hw => ?_
  rw [if_neg (by decide)]
  refine c30i ((r0.le le1).le le2) (rb.le le2) rf (by simpa using rc.1) hw h0 fun a h3 le3 ra => ?_
  exact k s0 a h3 ((le1.trans le2).trans le3) ((rb.le le2).le le3) ra
end Go.Proofs.YtimadnngfhbfiaaGreatDoor
end

section
/-
  The wake's drawing: its norm and its points.
-/
namespace Go.Shape
open Go Go.Mu
def es1 : List Ed := [⟨0, 1, 0, []⟩]
theorem not_sided1 : ¬ ∃ v d, v < bx2.length ∧ d < 4 ∧ sided bx2 es1 v d := by
  rintro ⟨v, d, hv, hd, _, h2⟩
  have : ∀ v, v < 2 → ∀ d, d < 4 → ¬ 1 < (on es1 v d).length := by decide
  exact this v hv d hd h2
theorem not_bad1 : ¬ ∃ i x, es1[i]? = some x ∧ bad bx2 es1 i x := by
  rintro ⟨i, x, hx, hb⟩
  match i, hx with
  | 0, hx =>
    cases hx
    revert hb
    show ¬ (0 = 1)
    decide
  | i + 1, hx => simp [es1] at hx
theorem cells1 : (edges (verts bx2 es1 bx2.length).2 (verts bx2 es1 bx2.length).1 es1).1 = cells2 := rfl
theorem ways1 : (edges (verts bx2 es1 bx2.length).2 (verts bx2 es1 bx2.length).1 es1).2 = [[0, 1]] := rfl
end Go.Shape
namespace Go.Proofs.YtimadnngfhbfiaaGreatDoor
open Go Go.Mu Go.Shape Go.Text
variable {h h0 : H}
set_option maxHeartbeats 1000000
theorem c29w {s0 s1 : Sl} (rb : Rd h s0 1 encB bx2) (re : Rd h s1 4 Ed.enc [e01]) {K : Sl → Sl → Sl → Int → H → Prop}
    (k : ∀ c f w sl h', h.Le h' → Rd h' c 8 Cell.enc cells2 → Rd h' f 1 encN [0, 1] → Rd h' w 1 (fun s : Sl => [s.v]) [sl] → Rd h' sl 1 encN [0, 1] → K c f w 0 h') : S29 s0 s1 h K := by
  have hf : ∀ x ∈ bx2, x = false := by decide
  have ok : ∀ e ∈ es1, e.Ok bx2.length := fun e he => by
    have : e = ⟨0, 1, 0, []⟩ := by simpa [es1] using he
    subst this
    exact ⟨by decide, by decide, by decide, by decide⟩
  refine c29 (bx := bx2) (es := es1) ⟨rb, re, by decide, by decide, ok⟩ (fun e he => by
    have : e = ⟨0, 1, 0, []⟩ := by simpa [es1] using he
    rw [this]) hf (by decide) (.inr (by decide)) (fun q => absurd q not_sided1) (fun _ q => absurd q not_bad1) fun _ _ c f w ws h' st hws => ?_
  rw [ways1] at hws
  obtain ⟨sl, rfl⟩ : ∃ sl, ws = [(sl, [0, 1])] := by
    match ws, hws with
    | [], e => simp at e
    | [(sl, l)], e => simp at e; exact ⟨sl, by rw [e]⟩
    | _ :: _ :: _, e => simp at e
  have r1 := st.arr (enc := Cell.enc) .cells rfl (enc8 _) (by decide)
  have r2 := st.arr (enc := encN) .first rfl (fun _ _ => rfl) (by decide)
  have r3 := st.arr (enc := fun s : Sl => [s.v]) (l := [sl]) .ways rfl (fun _ _ => rfl) (by decide)
  have r4 := st.arr (enc := encN) (l := [0, 1]) (.way 0) rfl (fun _ _ => rfl) (by decide)
  rw [firsts_pts hf] at r2
  rw [cells1] at r1
  exact k c f w sl h' st.le r1 r2 r3 r4
theorem c30w {p0 p1 s0 s1 c f w sl sl' : Sl} (r0 : Rd h p0 4 encX [(0, 0), (1, 0)]) (r1 : Rd h p1 3 encR [(0, 1, sl)]) (r : Rd h sl 2 encP [(0, 0), (1, 0)]) (rb : Rd h s0 1 encB bx2) (rf : Rd h f 1 encN [0, 1]) (hc : c.l = 2)
    (rw' : Rd h w 1 (fun s : Sl => [s.v]) [sl']) (rl : Rd h sl' 1 encN [0, 1]) {K : Sl → H → Prop}
    (k : ∀ a h', h.Le h' → Rd h' a 2 encP [(0, 0), (1, 0)] → K a h') : S30 p0 p1 s0 s1 c f w h K := by
  have el : sl.l = 2 := r.1
  have ep : p1.l = 1 := r1.1
  have ew : w.l = 1 := rw'.1
  have es : sl'.l = 2 := rl.1
  refine c30a r0 rb rf hc (by decide) fun b h1 st => ?_
  unfold S30_j5
  intro X hX
  refine hX _ _ ?_
  unfold S30_l4
  dsimp only
  rw [if_pos (by simp [ew])]
  obtain ⟨a, ha, hrw⟩ := rw'.ix (i := 0) rfl
  obtain ⟨b', hb', hrr⟩ := r1.ix (i := 0) rfl
  refine ⟨a, ha, by decide, by simp [ew], sl', st.le.rd hrw.at0, ?_⟩
  refine lfp.count 2 (fun i (u : Int) h' => u = (i : Int) ∧ St h h' (fun _ : Unit => .blk b (.row ⟨([(0, 0), (1, 0)] : List Pt).flatMap encP, 2 * 2, 77, true, true⟩))) (fun Y i u h' hi ⟨q1, st⟩ next => ?_) ⟨rfl, st⟩
  subst q1
  unfold S30_l3
  by_cases hlt : i < 2
  · rw [if_pos (by simp; omega)]
    obtain ⟨p, hp⟩ : ∃ p, ([(0, 0), (1, 0)] : List Pt)[i]? = some p := ⟨_, List.getElem?_eq_getElem hlt⟩
    obtain ⟨a1, ha1, hr1⟩ := rl.ix (i := i) (y := i) (by match i, hlt with | 0, _ => rfl | 1, _ => rfl)
    obtain ⟨a2, ha2, hr2⟩ := r.ix hp
    obtain ⟨h2, w2, st2⟩ := st.wr () rfl rfl (off := i * 2) (vs := encP p) (by show i * 2 + 2 ≤ 4; omega) (fun _ => .blk b (.row ⟨([(0, 0), (1, 0)] : List Pt).flatMap encP, 2 * 2, 77, true, true⟩)) (by
      rw [setP hp]
      match i, hlt, hp with
      | 0, _, hp => cases hp; rfl
      | 1, _, hp => cases hp; rfl) (fun j hj => (hj rfl).elim)
    refine ⟨a1, ha1, by omega, by omega, (i : Int), by rw [Int.toNat_natCast]; exact st.le.rd hr1.at0, b', hb', by decide, by simp [ep], sl, st.le.rd (hrr.at 2 rfl), a2, ha2, by omega, by omega, p.1, p.2, by rw [Int.toNat_natCast]; exact st.le.rdn hr2, _, rfl, by omega, by rw [hc, Int.toNat_natCast]; omega, h2, by rw [Int.toNat_natCast, Addr.add_n, Nat.zero_add]; exact w2, ?_⟩
    rw [wsucc (by omega)]
    exact next hlt _ _ ⟨rfl, st2⟩
  · rw [if_neg (by simp; omega)]
    unfold S30_j2
    refine hX _ _ ?_
    unfold S30_l4
    dsimp only
    rw [if_neg (by simp [ew, show IntKind.i64.wrap 1 = 1 from rfl])]
    unfold S30_j1
    rw [hc, Int.toNat_natCast]
    exact k _ h' st.le (row_Rd (l := [(0, 0), (1, 0)]) st fun _ _ => rfl)
theorem c9w {p0 p1 sl : Sl} (r0 : Rd h p0 4 encX [(0, 0), (1, 0)]) (r1 : Rd h p1 3 encR [(0, 1, sl)]) (r : Rd h sl 2 encP [(0, 0), (1, 0)]) {K : Sl → Sl → Sl → Int → H → Prop}
    (k : ∀ s0 s1 a h', h.Le h' → Rd h' s0 1 encB bx2 → Rd h' s1 4 Ed.enc [e01] → Rd h' a 2 encP [(0, 0), (1, 0)] → K s0 s1 a 0 h') : S9 p0 p1 h K := by
  unfold S9
  refine c28w r0 r1 r fun s0 s1 h1 le1 rb re => ?_
  rw [if_neg (by decide)]
  refine c29w rb re fun c f w sl' h2 le2 rc rf rw' rl => ?_
  rw [if_neg (by decide)]
  have le := le1.trans le2
  refine c30w (r0.le le) (r1.le le) (r.le le) (rb.le le2) rf rc.1 rw' rl fun a h3 le3 ra => ?_
  exact k s0 s1 a h3 (le.trans le3) ((rb.le le2).le le3) ((re.le le2).le le3) ra
end Go.Proofs.YtimadnngfhbfiaaGreatDoor
end

section
/- PRINTED by wip/gen.py: what muntin/grid.side does, in the words of Mu. -/
namespace Go.Proofs.YtimadnngfhbfiaaGreatDoor
open Go Go.Mu
/- muntin/grid.side -/
def S171_j1 (K : Int → H → Prop) (v66 : Bool) (h_3 : H) : Prop :=
  (if v66 = true then K 9 h_3 else K 0 h_3)
def S171_j2 (p0 : Sl) (p1 : Int) (p2 : Int) (K : Int → H → Prop) (v16 : Int) (v23 : Int) (v40 : Bool) (h_1 : H) : Prop :=
  (if v40 = true then K 3 h_1 else S104 p2 2 h_1 (fun (v42 : Int) (h_2 : H) => (∃ a46 : Addr, p0.a = some a46 ∧ 0 ≤ v16 ∧ v16 < (p0.l : Int) ∧ (0 ≤ v42 ∧ v42 < (4 : Int) ∧ (∃ (v49 : Int), H.rd h_2 (Addr.add (Addr.add a46 (Int.toNat v16 * 8)) (Int.toNat v42 * 1)) = some (.int .i64 v49) ∧ (if (v49 != p1) = true then S171_j1 K true h_2 else (∃ a56 : Addr, p0.a = some a56 ∧ 0 ≤ v16 ∧ v16 < (p0.l : Int) ∧ (0 ≤ v42 ∧ v42 < (4 : Int) ∧ (∃ (v59 : Int), H.rd h_2 (Addr.add (Addr.add (Addr.add a56 (Int.toNat v16 * 8)) 4) (Int.toNat v42 * 1)) = some (.int .i64 v59) ∧ (if (v59 != v23) = true then S171_j1 K true h_2 else S171_j1 K (decide (v23 < (-2))) h_2))))))))))
def S171 (p0 : Sl) (p1 : Int) (p2 : Int) (h : H) (K : Int → H → Prop) : Prop :=
  (∃ a13 : Addr, p0.a = some a13 ∧ 0 ≤ p1 ∧ p1 < (p0.l : Int) ∧ (0 ≤ p2 ∧ p2 < (4 : Int) ∧ (∃ (v16 : Int), H.rd h (Addr.add (Addr.add a13 (Int.toNat p1 * 8)) (Int.toNat p2 * 1)) = some (.int .i64 v16) ∧ (∃ a20 : Addr, p0.a = some a20 ∧ 0 ≤ p1 ∧ p1 < (p0.l : Int) ∧ (0 ≤ p2 ∧ p2 < (4 : Int) ∧ (∃ (v23 : Int), H.rd h (Addr.add (Addr.add (Addr.add a20 (Int.toNat p1 * 8)) 4) (Int.toNat p2 * 1)) = some (.int .i64 v23) ∧ (if (v16 == (-1)) = true then (if (v23 != 0) = true then K 9 h else K 0 h) else S171_j2 p0 p1 p2 K v16 v23 (((decide (v16 < 0)) || (decide (v16 ≥ (p0.l : Int)))) || (v16 == p1)) h)))))))
end Go.Proofs.YtimadnngfhbfiaaGreatDoor
end

section
/- PRINTED by wip/gen.py: what muntin/grid.Check does, in the words of Mu. -/
namespace Go.Proofs.YtimadnngfhbfiaaGreatDoor
open Go Go.Mu
/- muntin/grid.Check -/
def S149_j1 (K : Int → H → Prop) (h_1 : H) : Prop :=
  K 0 h_1
def S149_j2 (v11 : Int) (X : Int → H → Prop) (h_3 : H) : Prop :=
  X (IntKind.wrap .i64 (v11 + 1)) h_3
def S149_l3 (p0 : Sl) (K : Int → H → Prop) (v11 : Int) (X : Int → H → Prop) (X_1 : Int → H → Prop) (v14 : Int) (h_4 : H) : Prop :=
  (if (decide (v14 < 4)) = true then S171 p0 v11 v14 h_4 (fun (v20 : Int) (h_5 : H) => (if (v20 != 0) = true then K v20 h_5 else X_1 (IntKind.wrap .i64 (v14 + 1)) h_5)) else S149_j2 v11 X h_4)
def S149_l4 (p0 : Sl) (K : Int → H → Prop) (X : Int → H → Prop) (v11 : Int) (h_2 : H) : Prop :=
  (if (decide (v11 < (p0.l : Int))) = true then lfp (fun X_1 s h_4 => S149_l3 p0 K v11 X X_1 s h_4) 0 h_2 else S149_j1 K h_2)
def S149 (p0 : Sl) (h : H) (K : Int → H → Prop) : Prop :=
  (if (decide ((p0.l : Int) > 4096)) = true then K 6 h else lfp (fun X s h_2 => S149_l4 p0 K X s h_2) 0 h)
end Go.Proofs.YtimadnngfhbfiaaGreatDoor
end

section
/- PRINTED by wip/gen.py: what slices.Repeat[[]int,int] does, in the words of Mu. -/
namespace Go.Proofs.YtimadnngfhbfiaaGreatDoor
open Go Go.Mu
/- slices.Repeat[[]int,int] -/
def S194_j1 (K : Sl → H → Prop) (v18_1 : Int) (b30 : Nat) (h_6 : H) : Prop :=
  K ⟨some ⟨b30, 0, none⟩, Int.toNat (IntKind.wrap .i64 v18_1), Int.toNat (IntKind.wrap .i64 v18_1)⟩ h_6
def S194_l2 (K : Sl → H → Prop) (v18_1 : Int) (b30 : Nat) (X : Int → H → Prop) (v8 : Int) (h_7 : H) : Prop :=
  (if (decide (v8 < ((Int.toNat (IntKind.wrap .i64 v18_1)) : Int))) = true then ((0 : Int) ≤ v8 ∧ v8 ≤ ((Int.toNat (IntKind.wrap .i64 v18_1)) : Int) ∧ ((Int.toNat (IntKind.wrap .i64 v18_1)) : Int) ≤ ((Int.toNat (IntKind.wrap .i64 v18_1)) : Int) ∧ (Int.toNat (IntKind.wrap .i64 v18_1)) ≤ (Int.toNat (IntKind.wrap .i64 v18_1)) ∧ ((0 : Int) ≤ 0 ∧ (0 : Int) ≤ v8 ∧ v8 ≤ ((Int.toNat (IntKind.wrap .i64 v18_1)) : Int) ∧ (Int.toNat (IntKind.wrap .i64 v18_1)) ≤ (Int.toNat (IntKind.wrap .i64 v18_1)) ∧ copyN ⟨(if Int.toNat (IntKind.wrap .i64 v18_1) = Int.toNat v8 then some ⟨b30, 0, none⟩ else Option.map (fun x => Addr.add x (Int.toNat v8 * 1)) (some ⟨b30, 0, none⟩)), (Nat.sub (Int.toNat ((Int.toNat (IntKind.wrap .i64 v18_1)) : Int)) (Int.toNat v8)), (Int.toNat (IntKind.wrap .i64 v18_1) - Int.toNat v8)⟩ ⟨(if Int.toNat (IntKind.wrap .i64 v18_1) = Int.toNat 0 then some ⟨b30, 0, none⟩ else Option.map (fun x => Addr.add x (Int.toNat 0 * 1)) (some ⟨b30, 0, none⟩)), (Nat.sub (Int.toNat v8) (Int.toNat 0)), (Int.toNat (IntKind.wrap .i64 v18_1) - Int.toNat 0)⟩ h_7 (fun (v45 : Int) (h_8 : H) => X (IntKind.wrap .i64 (v8 + v45)) h_8))) else S194_j1 K v18_1 b30 h_7)
def S194_j3 (p0 : Sl) (K : Sl → H → Prop) (v18_1 : Int) (h_3 : H) : Prop :=
  ((0 : Int) ≤ (IntKind.wrap .i64 v18_1) ∧ (IntKind.wrap .i64 v18_1) ≤ (IntKind.wrap .i64 v18_1) ∧ 8 * (IntKind.wrap .i64 v18_1) ≤ (281474976710656 : Int) ∧ (IntKind.wrap .i64 v18_1) ≤ 9223372036854775807 ∧ (∀ (b30 : Nat) (h_4 : H), h_3 b30 = none → h_4 = H.set h_3 b30 (.row ⟨zeros (.int .i64 0) (Int.toNat (IntKind.wrap .i64 v18_1) * 1), (zeros (.int .i64 0) (Int.toNat (IntKind.wrap .i64 v18_1) * 1)).length, 3, true, true⟩) → copyN ⟨some ⟨b30, 0, none⟩, Int.toNat (IntKind.wrap .i64 v18_1), Int.toNat (IntKind.wrap .i64 v18_1)⟩ p0 h_4 (fun (v33 : Int) (h_5 : H) => lfp (fun X s h_7 => S194_l2 K v18_1 b30 X s h_7) v33 h_5)))
def S194_j4 (p0 : Sl) (K : Sl → H → Prop) (v18_1 : Int) (v26 : Bool) (h_9 : H) : Prop :=
  (if v26 = true then False else S194_j3 p0 K v18_1 h_9)
def S194_j5 (p0 : Sl) (p1 : Int) (K : Sl → H → Prop) (h_1 : H) : Prop :=
  S61 (IntKind.wrap .u64 (p0.l : Int)) (IntKind.wrap .u64 p1) h_1 (fun (v18_0 : Int) (v18_1 : Int) (h_2 : H) => S194_j4 p0 K v18_1 ((decide (v18_0 > 0)) || (decide (v18_1 > 9223372036854775807))) h_2)
def S194 (p0 : Sl) (p1 : Int) (h : H) (K : Sl → H → Prop) : Prop :=
  (if (decide (p1 < 0)) = true then False else S194_j5 p0 p1 K h)
end Go.Proofs.YtimadnngfhbfiaaGreatDoor
end

section
/- Printed by wip/gen.py, turned by hand (append to a slice without room): what muntin/join.spread does, in the words of Mu. -/
namespace Go.Proofs.YtimadnngfhbfiaaGreatDoor
open Go Go.Mu
/- muntin/join.spread -/
def S191_j1 (K : Sl → Sl → H → Prop) (v16 : Sl) (v20 : Sl) (h_8 : H) : Prop :=
  K v16 v20 h_8
def S191_j2 (v37 : Int) (X_1 : (Sl × Int) → H → Prop) (v8_2 : Sl) (h_11 : H) : Prop :=
  X_1 (v8_2, (IntKind.wrap .i64 (v37 + 1))) h_11
def S191_j3 (p0 : Sl) (v16 : Sl) (v20 : Sl) (b25 : Nat) (v34 : Int) (v8_1 : Sl) (v37 : Int) (X_1 : (Sl × Int) → H → Prop) (v46 : Int) (v55 : Bool) (h_12 : H) : Prop :=
  (if v55 = true then (∃ a64 : Addr, some ⟨b25, 0, none⟩ = some a64 ∧ 0 ≤ v46 ∧ v46 < ((Int.toNat (p0.l : Int)) : Int) ∧ (∃ h_13 : H, H.wr h_12 (Addr.add a64 (Int.toNat v46 * 1)) [(.bool true)] h_13 ∧ (∃ a65 : Addr, v16.a = some a65 ∧ 0 ≤ v46 ∧ v46 < (v16.l : Int) ∧ (∃ h_14 : H, H.wr h_13 (Addr.add a65 (Int.toNat v46 * 1)) [(.int .i64 v34)] h_14 ∧ (∃ a66 : Addr, v20.a = some a66 ∧ 0 ≤ v46 ∧ v46 < (v20.l : Int) ∧ (∃ h_15 : H, H.wr h_14 (Addr.add a66 (Int.toNat v46 * 1)) [(.int .i64 v37)] h_15 ∧ appC0 3 1 8 v8_1 1 [(.int .i64 v46)] h_15 (fun (v70 : Sl) (h_16 : H) => S191_j2 v37 X_1 v70 h_16))))))) else S191_j2 v37 X_1 v8_1 h_12)
def S191_l4 (p0 : Sl) (v16 : Sl) (v20 : Sl) (b25 : Nat) (X : Sl → H → Prop) (v34 : Int) (X_1 : (Sl × Int) → H → Prop) (v8_1 : Sl) (v37 : Int) (h_10 : H) : Prop :=
  (if (decide (v37 < 4)) = true then (∃ a43 : Addr, p0.a = some a43 ∧ 0 ≤ v34 ∧ v34 < (p0.l : Int) ∧ (0 ≤ v37 ∧ v37 < (4 : Int) ∧ (∃ (v46 : Int), H.rd h_10 (Addr.add (Addr.add a43 (Int.toNat v34 * 8)) (Int.toNat v37 * 1)) = some (.int .i64 v46) ∧ (if (decide (v46 ≥ 0)) = true then (∃ a52 : Addr, some ⟨b25, 0, none⟩ = some a52 ∧ 0 ≤ v46 ∧ v46 < ((Int.toNat (p0.l : Int)) : Int) ∧ (∃ (v53 : Bool), H.rd h_10 (Addr.add a52 (Int.toNat v46 * 1)) = some (.bool v53) ∧ S191_j3 p0 v16 v20 b25 v34 v8_1 v37 X_1 v46 (!v53) h_10)) else S191_j3 p0 v16 v20 b25 v34 v8_1 v37 X_1 v46 false h_10)))) else X v8_1 h_10)
def S191_l5 (p0 : Sl) (K : Sl → Sl → H → Prop) (v16 : Sl) (v20 : Sl) (b25 : Nat) (X : Sl → H → Prop) (v8 : Sl) (h_9 : H) : Prop :=
  (if (decide ((v8.l : Int) > 0)) = true then (∃ a33 : Addr, v8.a = some a33 ∧ 0 ≤ (0 : Int) ∧ 0 < (v8.l : Int) ∧ (∃ (v34 : Int), H.rd h_9 (Addr.add a33 (Int.toNat 0 * 1)) = some (.int .i64 v34) ∧ ((0 : Int) ≤ 1 ∧ 1 ≤ (v8.l : Int) ∧ (v8.l : Int) ≤ (v8.l : Int) ∧ v8.l ≤ v8.c ∧ lfp (fun X_1 s h_10 => S191_l4 p0 v16 v20 b25 X v34 X_1 s.1 s.2 h_10) (⟨(if v8.c = Int.toNat 1 then v8.a else Option.map (fun x => Addr.add x (Int.toNat 1 * 1)) v8.a), (Nat.sub (Int.toNat (v8.l : Int)) (Int.toNat 1)), (v8.c - Int.toNat 1)⟩, 0) h_9))) else S191_j1 K v16 v20 h_9)
def S191 (p0 : Sl) (p1 : Int) (h : H) (K : Sl → Sl → H → Prop) : Prop :=
  (∀ (b13 : Nat) (h_1 : H), h b13 = none → h_1 = H.set h b13 (.row ⟨[(.int .i64 (-1))], 1, 3, true, true⟩) → S194 ⟨some ⟨b13, 0, none⟩, 1, 1⟩ (p0.l : Int) h_1 (fun (v16 : Sl) (h_2 : H) => (∀ (b17 : Nat) (h_3 : H), h_2 b17 = none → h_3 = H.set h_2 b17 (.row ⟨[(.int .i64 (-1))], 1, 3, true, true⟩) → S194 ⟨some ⟨b17, 0, none⟩, 1, 1⟩ (p0.l : Int) h_3 (fun (v20 : Sl) (h_4 : H) => (∀ (b22 : Nat) (h_5 : H), h_4 b22 = none → h_5 = H.set h_4 b22 (.row ⟨[(.int .i64 p1)], 1, 3, true, true⟩) → ((0 : Int) ≤ (p0.l : Int) ∧ (p0.l : Int) ≤ (p0.l : Int) ∧ 1 * (p0.l : Int) ≤ (281474976710656 : Int) ∧ (p0.l : Int) ≤ 9223372036854775807 ∧ (∀ (b25 : Nat) (h_6 : H), h_5 b25 = none → h_6 = H.set h_5 b25 (.row ⟨zeros (.bool false) (Int.toNat (p0.l : Int) * 1), (zeros (.bool false) (Int.toNat (p0.l : Int) * 1)).length, 4, true, true⟩) → (∃ a28 : Addr, some ⟨b25, 0, none⟩ = some a28 ∧ 0 ≤ p1 ∧ p1 < ((Int.toNat (p0.l : Int)) : Int) ∧ (∃ h_7 : H, H.wr h_6 (Addr.add a28 (Int.toNat p1 * 1)) [(.bool true)] h_7 ∧ lfp (fun X s h_9 => S191_l5 p0 K v16 v20 b25 X s h_9) ⟨some ⟨b22, 0, none⟩, 1, 1⟩ h_7)))))))))
end Go.Proofs.YtimadnngfhbfiaaGreatDoor
end

section
/- PRINTED by wip/gen.py: what muntin/join.Parts does, in the words of Mu. -/
namespace Go.Proofs.YtimadnngfhbfiaaGreatDoor
open Go Go.Mu
/- muntin/join.Parts -/
def S172_j1 (K : Sl → Int → H → Prop) (v5 : Sl) (h_3 : H) : Prop :=
  K v5 0 h_3
def S172_j2 (v22 : Int) (X : (Sl × Int) → H → Prop) (v5_2 : Sl) (h_5 : H) : Prop :=
  X (v5_2, (IntKind.wrap .i64 (v22 + 1))) h_5
def S172_j3 (v5_1 : Sl) (v22 : Int) (X : (Sl × Int) → H → Prop) (v10 : Sl) (h_8 : H) : Prop :=
  app 69 1 24 v5_1 1 [(.slice v10.a v10.l v10.c)] h_8 (fun (v62 : Sl) (h_9 : H) => S172_j2 v22 X v62 h_9)
def S172_j4 (v38 : Int) (X_1 : (Sl × Int) → H → Prop) (v10_2 : Sl) (h_11 : H) : Prop :=
  X_1 (v10_2, (IntKind.wrap .i64 (v38 + 1))) h_11
def S172_j5 (p0 : Sl) (b19 : Nat) (v10_1 : Sl) (v38 : Int) (X_1 : (Sl × Int) → H → Prop) (v50 : Bool) (h_12 : H) : Prop :=
  (if v50 = true then (∃ a53 : Addr, some ⟨b19, 0, none⟩ = some a53 ∧ 0 ≤ v38 ∧ v38 < ((Int.toNat (p0.l : Int)) : Int) ∧ (∃ h_13 : H, H.wr h_12 (Addr.add a53 (Int.toNat v38 * 1)) [(.bool true)] h_13 ∧ app 3 1 8 v10_1 1 [(.int .i64 v38)] h_13 (fun (v57 : Sl) (h_14 : H) => S172_j4 v38 X_1 v57 h_14))) else S172_j4 v38 X_1 v10_1 h_12)
def S172_l6 (p0 : Sl) (b19 : Nat) (v5_1 : Sl) (v22 : Int) (X : (Sl × Int) → H → Prop) (v32_1 : Sl) (X_1 : (Sl × Int) → H → Prop) (v10_1 : Sl) (v38 : Int) (h_10 : H) : Prop :=
  (if (decide (v38 < (p0.l : Int))) = true then (if (v38 == v22) = true then S172_j5 p0 b19 v10_1 v38 X_1 true h_10 else (∃ a47 : Addr, v32_1.a = some a47 ∧ 0 ≤ v38 ∧ v38 < (v32_1.l : Int) ∧ (∃ (v48 : Int), H.rd h_10 (Addr.add a47 (Int.toNat v38 * 1)) = some (.int .i64 v48) ∧ S172_j5 p0 b19 v10_1 v38 X_1 (decide (v48 ≥ 0)) h_10))) else S172_j3 v5_1 v22 X v10_1 h_10)
def S172_l7 (p0 : Sl) (K : Sl → Int → H → Prop) (b19 : Nat) (X : (Sl × Int) → H → Prop) (v5_1 : Sl) (v22 : Int) (h_4 : H) : Prop :=
  (if (decide (v22 < (p0.l : Int))) = true then (∃ a27 : Addr, some ⟨b19, 0, none⟩ = some a27 ∧ 0 ≤ v22 ∧ v22 < ((Int.toNat (p0.l : Int)) : Int) ∧ (∃ (v28 : Bool), H.rd h_4 (Addr.add a27 (Int.toNat v22 * 1)) = some (.bool v28) ∧ (if v28 = true then S172_j2 v22 X v5_1 h_4 else S191 p0 v22 h_4 (fun (v32_0 : Sl) (v32_1 : Sl) (h_6 : H) => (∀ (b35 : Nat) (h_7 : H), h_6 b35 = none → h_7 = H.set h_6 b35 (.row ⟨[], 0, 3, true, true⟩) → lfp (fun X_1 s h_10 => S172_l6 p0 b19 v5_1 v22 X v32_1 X_1 s.1 s.2 h_10) (⟨some ⟨b35, 0, none⟩, 0, 0⟩, 0) h_7))))) else S172_j1 K v5_1 h_4)
def S172 (p0 : Sl) (h : H) (K : Sl → Int → H → Prop) : Prop :=
  S149 p0 h (fun (v13 : Int) (h_1 : H) => (if (v13 != 0) = true then K Sl.nil v13 h_1 else ((0 : Int) ≤ (p0.l : Int) ∧ (p0.l : Int) ≤ (p0.l : Int) ∧ 1 * (p0.l : Int) ≤ (281474976710656 : Int) ∧ (p0.l : Int) ≤ 9223372036854775807 ∧ (∀ (b19 : Nat) (h_2 : H), h_1 b19 = none → h_2 = H.set h_1 b19 (.row ⟨zeros (.bool false) (Int.toNat (p0.l : Int) * 1), (zeros (.bool false) (Int.toNat (p0.l : Int) * 1)).length, 4, true, true⟩) → lfp (fun X s h_4 => S172_l7 p0 K b19 X s.1 s.2 h_4) (Sl.nil, 0) h_2))))
end Go.Proofs.YtimadnngfhbfiaaGreatDoor
end

section
/- PRINTED by wip/gen.py: what muntin/join.Whole does, in the words of Mu. -/
namespace Go.Proofs.YtimadnngfhbfiaaGreatDoor
open Go Go.Mu
/- muntin/join.Whole -/
def S150_j1 (K : Bool → H → Prop) (v2 : Bool) (h_2 : H) : Prop :=
  K v2 h_2
def S150 (p0 : Sl) (h : H) (K : Bool → H → Prop) : Prop :=
  S172 p0 h (fun (v7_0 : Sl) (v7_1 : Int) (h_1 : H) => S150_j1 K ((v7_1 == 0) && ((v7_0.l : Int) == 1)) h_1)
end Go.Proofs.YtimadnngfhbfiaaGreatDoor
end

section
/- PRINTED by wip/gen.py: what (muntin/face.Dart).is does, in the words of Mu. -/
namespace Go.Proofs.YtimadnngfhbfiaaGreatDoor
open Go Go.Mu
/- (muntin/face.Dart).is -/
def S192_j1 (K : Bool → H → Prop) (v4 : Bool) (h_1 : H) : Prop :=
  K v4 h_1
def S192 (p0_0 : Int) (p0_1 : Int) (p1 : Sl) (h : H) (K : Bool → H → Prop) : Prop :=
  (if (decide (p0_0 ≥ 0)) = true then (if (decide (p0_0 < (p1.l : Int))) = true then S48 p0_1 h (fun (v18 : Bool) (h_2 : H) => (if v18 = true then (∃ a26 : Addr, p1.a = some a26 ∧ 0 ≤ p0_0 ∧ p0_0 < (p1.l : Int) ∧ (0 ≤ p0_1 ∧ p0_1 < (4 : Int) ∧ (∃ (v29 : Int), H.rd h_2 (Addr.add (Addr.add a26 (Int.toNat p0_0 * 8)) (Int.toNat p0_1 * 1)) = some (.int .i64 v29) ∧ S192_j1 K (decide (v29 ≥ 0)) h_2))) else S192_j1 K false h_2)) else S192_j1 K false h) else S192_j1 K false h)
end Go.Proofs.YtimadnngfhbfiaaGreatDoor
end

section
/- PRINTED by wip/gen.py: what (muntin/face.Dart).behind does, in the words of Mu. -/
namespace Go.Proofs.YtimadnngfhbfiaaGreatDoor
open Go Go.Mu
/- (muntin/face.Dart).behind -/
def S193_j1 (p0_0 : Int) (p0_1 : Int) (K : Int → Int → H → Prop) (c4_0 : Int) (c4_1 : Int) (h_1 : H) : Prop :=
  K p0_0 p0_1 h_1
def S193_l2 (p0_0 : Int) (p0_1 : Int) (p1 : Sl) (K : Int → Int → H → Prop) (v17 : Int) (X : (Int × Int × Int) → H → Prop) (v19 : Int) (c4_0_1 : Int) (c4_1_1 : Int) (h_2 : H) : Prop :=
  (if (decide (v19 < 4)) = true then (0 ≤ v19 ∧ v19 < (4 : Int) ∧ S104 p0_1 (sel ([1, 0, (-1), 2] : List Int) v19) h_2 (fun (v26 : Int) (h_3 : H) => S192 v17 v26 p1 h_3 (fun (v30 : Bool) (h_4 : H) => (if v30 = true then K v17 v26 h_4 else X ((IntKind.wrap .i64 (v19 + 1)), c4_0_1, c4_1_1) h_4)))) else S193_j1 p0_0 p0_1 K c4_0_1 c4_1_1 h_2)
def S193 (p0_0 : Int) (p0_1 : Int) (p1 : Sl) (h : H) (K : Int → Int → H → Prop) : Prop :=
  (∃ a14 : Addr, p1.a = some a14 ∧ 0 ≤ p0_0 ∧ p0_0 < (p1.l : Int) ∧ (0 ≤ p0_1 ∧ p0_1 < (4 : Int) ∧ (∃ (v17 : Int), H.rd h (Addr.add (Addr.add a14 (Int.toNat p0_0 * 8)) (Int.toNat p0_1 * 1)) = some (.int .i64 v17) ∧ lfp (fun X s h_2 => S193_l2 p0_0 p0_1 p1 K v17 X s.1 s.2.1 s.2.2 h_2) (0, 0, 0) h)))
end Go.Proofs.YtimadnngfhbfiaaGreatDoor
end

section
/- PRINTED by wip/gen.py: what muntin/face.Faces does, in the words of Mu. -/
namespace Go.Proofs.YtimadnngfhbfiaaGreatDoor
open Go Go.Mu
/- muntin/face.Faces -/
def S173_j1 (K : Sl → Int → H → Prop) (v5 : Sl) (h_3 : H) : Prop :=
  K v5 0 h_3
def S173_j2 (v20 : Int) (X : (Sl × Int) → H → Prop) (v5_2 : Sl) (h_5 : H) : Prop :=
  X (v5_2, (IntKind.wrap .i64 (v20 + 1))) h_5
def S173_j3 (v23 : Int) (X_1 : (Sl × Int) → H → Prop) (v5_4 : Sl) (h_7 : H) : Prop :=
  X_1 (v5_4, (IntKind.wrap .i64 (v23 + 1))) h_7
def S173_j4 (v5_3 : Sl) (v23 : Int) (X_1 : (Sl × Int) → H → Prop) (v10 : Sl) (h_9 : H) : Prop :=
  app 233 1 24 v5_3 1 [(.slice v10.a v10.l v10.c)] h_9 (fun (v56 : Sl) (h_10 : H) => S173_j3 v23 X_1 v56 h_10)
def S173_l5 (p0 : Sl) (b17 : Nat) (v5_3 : Sl) (v23 : Int) (X_1 : (Sl × Int) → H → Prop) (X_2 : (Sl × Option Addr) → H → Prop) (v10_1 : Sl) (v11 : Option Addr) (h_13 : H) : Prop :=
  (∃ a40 : Addr, v11 = some a40 ∧ (∃ (v40_0 : Int) (v40_1 : Int), H.rdn h_13 a40 2 [(.int .i64 v40_0), (.int .i64 v40_1)] ∧ (∃ (v41 : Bool), duoGet (some b17) v40_0 v40_1 h_13 v41 ∧ (if (!v41) = true then (∃ a47 : Addr, v11 = some a47 ∧ (∃ (v47_0 : Int) (v47_1 : Int), H.rdn h_13 a47 2 [(.int .i64 v47_0), (.int .i64 v47_1)] ∧ (∃ h_14 : H, duoPut (some b17) v47_0 v47_1 h_13 h_14 ∧ (∃ a49 : Addr, v11 = some a49 ∧ (∃ (v49_0 : Int) (v49_1 : Int), H.rdn h_14 a49 2 [(.int .i64 v49_0), (.int .i64 v49_1)] ∧ app 255 2 16 v10_1 1 [(.int .i64 v49_0), (.int .i64 v49_1)] h_14 (fun (v51 : Sl) (h_15 : H) => (∃ a52 : Addr, v11 = some a52 ∧ (∃ (v52_0 : Int) (v52_1 : Int), H.rdn h_15 a52 2 [(.int .i64 v52_0), (.int .i64 v52_1)] ∧ (∀ (b11_1 : Nat) (h_16 : H), h_15 b11_1 = none → h_16 = H.set h_15 b11_1 (.row ⟨[(.int .i64 0), (.int .i64 0)], 2, 255, true, true⟩) → (∃ h_17 : H, H.wr h_16 ⟨b11_1, 0, none⟩ [(.int .i64 v52_0), (.int .i64 v52_1)] h_17 ∧ (∃ (v43_0 : Int) (v43_1 : Int), H.rdn h_17 ⟨b11_1, 0, none⟩ 2 [(.int .i64 v43_0), (.int .i64 v43_1)] ∧ S193 v43_0 v43_1 p0 h_17 (fun (v45_0 : Int) (v45_1 : Int) (h_18 : H) => (∃ h_19 : H, H.wr h_18 ⟨b11_1, 0, none⟩ [(.int .i64 v45_0), (.int .i64 v45_1)] h_19 ∧ X_2 (v51, (some ⟨b11_1, 0, none⟩)) h_19))))))))))))) else S173_j4 v5_3 v23 X_1 v10_1 h_13))))
def S173_j6 (p0 : Sl) (b17 : Nat) (v20 : Int) (v5_3 : Sl) (v23 : Int) (X_1 : (Sl × Int) → H → Prop) (v37 : Bool) (h_8 : H) : Prop :=
  (if v37 = true then S173_j3 v23 X_1 v5_3 h_8 else (∀ (b11 : Nat) (h_11 : H), h_8 b11 = none → h_11 = H.set h_8 b11 (.row ⟨[(.int .i64 0), (.int .i64 0)], 2, 255, true, true⟩) → (∃ h_12 : H, H.wr h_11 ⟨b11, 0, none⟩ [(.int .i64 v20), (.int .i64 v23)] h_12 ∧ lfp (fun X_2 s h_13 => S173_l5 p0 b17 v5_3 v23 X_1 X_2 s.1 s.2 h_13) (Sl.nil, (some ⟨b11, 0, none⟩)) h_12)))
def S173_l7 (p0 : Sl) (b17 : Nat) (v20 : Int) (X : (Sl × Int) → H → Prop) (X_1 : (Sl × Int) → H → Prop) (v5_3 : Sl) (v23 : Int) (h_6 : H) : Prop :=
  (if (decide (v23 < 4)) = true then S192 v20 v23 p0 h_6 (fun (v31 : Bool) (h_20 : H) => (if (!v31) = true then S173_j6 p0 b17 v20 v5_3 v23 X_1 true h_20 else (∃ (v36 : Bool), duoGet (some b17) v20 v23 h_20 v36 ∧ S173_j6 p0 b17 v20 v5_3 v23 X_1 v36 h_20))) else S173_j2 v20 X v5_3 h_6)
def S173_l8 (p0 : Sl) (K : Sl → Int → H → Prop) (b17 : Nat) (X : (Sl × Int) → H → Prop) (v5_1 : Sl) (v20 : Int) (h_4 : H) : Prop :=
  (if (decide (v20 < (p0.l : Int))) = true then lfp (fun X_1 s h_6 => S173_l7 p0 b17 v20 X X_1 s.1 s.2 h_6) (v5_1, 0) h_4 else S173_j1 K v5_1 h_4)
def S173 (p0 : Sl) (h : H) (K : Sl → Int → H → Prop) : Prop :=
  S149 p0 h (fun (v13 : Int) (h_1 : H) => (if (v13 != 0) = true then K Sl.nil v13 h_1 else (∀ (b17 : Nat) (h_2 : H), h_1 b17 = none → h_2 = H.set h_1 b17 (.obj (.map #[] 0)) → lfp (fun X s h_4 => S173_l8 p0 K b17 X s.1 s.2 h_4) (Sl.nil, 0) h_2)))
end Go.Proofs.YtimadnngfhbfiaaGreatDoor
end

section
/- PRINTED by wip/gen.py: what muntin/face.Rotation does, in the words of Mu. -/
namespace Go.Proofs.YtimadnngfhbfiaaGreatDoor
open Go Go.Mu
/- muntin/face.Rotation -/
def S174_j1 (K : Int → H → Prop) (v3 : Int) (h_1 : H) : Prop :=
  K v3 h_1
def S174_j2 (v8 : Int) (X : (Int × Int) → H → Prop) (v3_2 : Int) (h_3 : H) : Prop :=
  X (v3_2, (IntKind.wrap .i64 (v8 + 1))) h_3
def S174_j3 (v3_1 : Int) (v8 : Int) (X : (Int × Int) → H → Prop) (v11 : Int) (v17 : Bool) (h_4 : H) : Prop :=
  (if v17 = true then S174_j2 v8 X (IntKind.wrap .i64 (v3_1 + v11)) h_4 else S174_j2 v8 X v3_1 h_4)
def S174_l4 (p0 : Sl) (K : Int → H → Prop) (X : (Int × Int) → H → Prop) (v3_1 : Int) (v8 : Int) (h_2 : H) : Prop :=
  (if (decide (v8 < (p0.l : Int))) = true then (∃ a10 : Addr, p0.a = some a10 ∧ 0 ≤ v8 ∧ v8 < (p0.l : Int) ∧ (∃ (v11 : Int), H.rd h_2 (Addr.add a10 (Int.toNat v8 * 1)) = some (.int .i64 v11) ∧ S174_j3 v3_1 v8 X v11 ((decide (v11 ≥ (-2))) && (decide (v11 ≤ 1))) h_2)) else S174_j1 K v3_1 h_2)
def S174 (p0 : Sl) (h : H) (K : Int → H → Prop) : Prop :=
  lfp (fun X s h_2 => S174_l4 p0 K X s.1 s.2 h_2) (0, 0) h
end Go.Proofs.YtimadnngfhbfiaaGreatDoor
end

section
/- PRINTED by wip/gen.py: what muntin/compass.Turn does, in the words of Mu. -/
namespace Go.Proofs.YtimadnngfhbfiaaGreatDoor
open Go Go.Mu
/- muntin/compass.Turn -/
def S144_j1 (p0 : Int) (p1 : Int) (K : Int → H → Prop) (v12 : Bool) (h_1 : H) : Prop :=
  (if v12 = true then K 0 h_1 else (0 ≤ (Int.tmod (IntKind.wrap .i64 ((IntKind.wrap .i64 (p1 - p0)) + 4)) 4) ∧ (Int.tmod (IntKind.wrap .i64 ((IntKind.wrap .i64 (p1 - p0)) + 4)) 4) < (4 : Int) ∧ K (sel ([0, 1, (-2), (-1)] : List Int) (Int.tmod (IntKind.wrap .i64 ((IntKind.wrap .i64 (p1 - p0)) + 4)) 4)) h_1))
def S144 (p0 : Int) (p1 : Int) (h : H) (K : Int → H → Prop) : Prop :=
  S48 p0 h (fun (v6 : Bool) (h_2 : H) => (if (!v6) = true then S144_j1 p0 p1 K true h_2 else S48 p1 h_2 (fun (v10 : Bool) (h_3 : H) => S144_j1 p0 p1 K (!v10) h_3)))
end Go.Proofs.YtimadnngfhbfiaaGreatDoor
end

section
/- PRINTED by wip/gen.py: what muntin/face.Turns does, in the words of Mu. -/
namespace Go.Proofs.YtimadnngfhbfiaaGreatDoor
open Go Go.Mu
/- muntin/face.Turns -/
def S175_j1 (p1 : Sl) (K : Sl → H → Prop) (b10 : Nat) (h_3 : H) : Prop :=
  K ⟨some ⟨b10, 0, none⟩, Int.toNat (p1.l : Int), Int.toNat (p1.l : Int)⟩ h_3
def S175_j2 (v17 : Int) (X : Int → H → Prop) (h_5 : H) : Prop :=
  X (IntKind.wrap .i64 (v17 + 1)) h_5
def S175_l3 (p0 : Sl) (p1 : Sl) (K : Sl → H → Prop) (b10 : Nat) (X : Int → H → Prop) (v17 : Int) (h_4 : H) : Prop :=
  (if (decide (v17 < (p1.l : Int))) = true then (∃ a20 : Addr, p1.a = some a20 ∧ 0 ≤ v17 ∧ v17 < (p1.l : Int) ∧ (∃ (v21_0 : Int) (v21_1 : Int), H.rdn h_4 (Addr.add a20 (Int.toNat v17 * 2)) 2 [(.int .i64 v21_0), (.int .i64 v21_1)] ∧ S192 v21_0 v21_1 p0 h_4 (fun (v24 : Bool) (h_6 : H) => (if v24 = true then S193 v21_0 v21_1 p0 h_6 (fun (v31_0 : Int) (v31_1 : Int) (h_7 : H) => S144 v21_1 v31_1 h_7 (fun (v33 : Int) (h_8 : H) => (∃ a34 : Addr, some ⟨b10, 0, none⟩ = some a34 ∧ 0 ≤ v17 ∧ v17 < ((Int.toNat (p1.l : Int)) : Int) ∧ (∃ h_9 : H, H.wr h_8 (Addr.add a34 (Int.toNat v17 * 1)) [(.int .i64 v33)] h_9 ∧ S175_j2 v17 X h_9)))) else S175_j2 v17 X h_6)))) else S175_j1 p1 K b10 h_4)
def S175 (p0 : Sl) (p1 : Sl) (h : H) (K : Sl → H → Prop) : Prop :=
  ((0 : Int) ≤ (p1.l : Int) ∧ (p1.l : Int) ≤ (p1.l : Int) ∧ 8 * (p1.l : Int) ≤ (281474976710656 : Int) ∧ (p1.l : Int) ≤ 9223372036854775807 ∧ (∀ (b10 : Nat) (h_1 : H), h b10 = none → h_1 = H.set h b10 (.row ⟨zeros (.int .i64 0) (Int.toNat (p1.l : Int) * 1), (zeros (.int .i64 0) (Int.toNat (p1.l : Int) * 1)).length, 3, true, true⟩) → S149 p0 h_1 (fun (v12 : Int) (h_2 : H) => (if (v12 != 0) = true then K ⟨some ⟨b10, 0, none⟩, Int.toNat (p1.l : Int), Int.toNat (p1.l : Int)⟩ h_2 else lfp (fun X s h_4 => S175_l3 p0 p1 K b10 X s h_4) 0 h_2))))
end Go.Proofs.YtimadnngfhbfiaaGreatDoor
end
