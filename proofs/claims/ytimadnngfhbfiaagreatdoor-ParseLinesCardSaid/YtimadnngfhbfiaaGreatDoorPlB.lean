/-
  PROVED HERE: 'muntinlaw08.ParseLines' answers true whatever the shape's raw data and the turn, and what was handed in reads as it did. Conditions: the package variables that the row lists hold what the program's text lays.
  Part 2 of 4.
-/
import Derived.Test.YtimadnngfhbfiaaGreatDoorPlA
import Derived.Lib.SplitLaws
import Derived.Lib.Atoi
import Derived.RowKit
import Derived.Laws.RangeAny
import Derived.Shelf.Unicode.DecodeLast
import Derived.Lib.RuneCountTail
import Derived.Shelf.Strings.SplitCore
import Derived.Shelf.Strings.Search3
import Derived.Shelf.Strings.Count
import Derived.Shelf.Strings.Trim
import Derived.Shelf.Strconv.Atoi
import Derived.Test.YtimadnngfhbfiaaGreatDoorProg
import Derived.ProofKit
import Derived.Lib.LaidU8T
import Derived.PinnedBridge
import Derived.Lib.ItoaNum
import Derived.Lib.Split
import Derived.Lib.TrimByte
import Derived.Lib.SlTrimSet
import Derived.Lib.Join
import Derived.Lib.Bytealg
import Derived.Deep.Grids
import Derived.Deep.Slices
import Derived.Lib.SmallJoins
import Derived.Laws.IdiomArrays
import Derived.Carry
import Derived.Handed
import Derived.Lib.Replace
import Derived.Lib.IndexBytes

section
/-
  Shapes and their ends in plain words; loops that count.
-/
namespace Go.Mu
/-- A loop that counts to n at most. -/
theorem lfp.count {σ : Type} {F : (σ → H → Prop) → σ → H → Prop} (n : Nat) (I : Nat → σ → H → Prop)
    (step : ∀ (X : σ → H → Prop) (i : Nat) (s : σ) (h : H), i ≤ n → I i s h → (i < n → ∀ s' h', I (i + 1) s' h' → X s' h') → F X s h) {s : σ} {h : H} (h0 : I 0 s h) : lfp F s h := by
  intro X hX
  have key : ∀ m i s h, n - i = m → i ≤ n → I i s h → X s h := by
    intro m
    induction m with
    | zero => intro i s h hm hi q; exact hX s h (step X i s h hi q fun hlt => by omega)
    | succ m ih => intro i s h hm hi q; exact hX s h (step X i s h hi q fun hlt s' h' q' => ih (i + 1) s' h' (by omega) (by omega) q')
  exact key n 0 s h (by omega) (Nat.zero_le _) h0
theorem wrapN {x : Int} {n : Nat} (e : x = n) (hn : n < 4611686018427387904) : IntKind.i64.wrap x = n := by
  subst e; exact wrap64_id (by omega) (by omega)
theorem wsucc {i : Nat} (hi : i < 4611686018427387903) : IntKind.i64.wrap ((i : Int) + 1) = ((i + 1 : Nat) : Int) := wrapN (by omega) (by omega)
theorem Addr.add_add (a : Addr) (i j : Nat) : (a.add i).add j = a.add (i + j) := by
  unfold Addr.add
  by_cases h1 : i = 0 <;> by_cases h2 : j = 0
  · simp [h1, h2]
  · simp [h1, h2]
  · simp [h1, h2]
  · have : i + j ≠ 0 := by omega
    simp [h1, h2, Nat.add_assoc]
end Go.Mu

namespace Go.Shape
open Go.Mu
structure Ed where
  f : Nat
  t : Nat
  d : Nat
  b : List Bool
def letter (x : Bool) : UInt8 := if x then 76 else 82
def bs (b : List Bool) : ByteArray := ⟨(b.map letter).toArray⟩
def Ed.enc (e : Ed) : List Value := [.int .i64 e.f, .int .i64 e.t, .int .i64 e.d, .string (bs e.b)]
theorem Ed.enc_len (e : Ed) : e.enc.length = 4 := rfl
def turn (d : Nat) (b : Bool) : Nat := (d + if b then 1 else 3) % 4
theorem turn_lt (d : Nat) (b : Bool) : turn d b < 4 := Nat.mod_lt _ (by decide)
def lastOf (d : Nat) (b : List Bool) : Nat := b.foldl turn d
theorem lastOf_lt : ∀ (b : List Bool) {d : Nat}, d < 4 → lastOf d b < 4
  | [], _, h => h
  | x :: b, d, _ => lastOf_lt b (turn_lt d x)
theorem lastOf_take {d : Nat} {b : List Bool} {i : Nat} {x : Bool} (e : b[i]? = some x) : lastOf d (b.take (i + 1)) = turn (lastOf d (b.take i)) x := by
  rw [List.take_add_one, e]; simp [lastOf]
def Ed.side (e : Ed) : Nat := (lastOf e.d e.b + 2) % 4
theorem Ed.side_lt (e : Ed) : e.side < 4 := Nat.mod_lt _ (by decide)
structure Ed.Ok (n : Nat) (e : Ed) : Prop where
  f : e.f < n
  t : e.t < n
  d : e.d < 4
  b : e.b.length < 4
def enc1 (x : Int) : List Value := [.int .i64 x]
def encN (x : Nat) : List Value := [.int .i64 x]
def encB (x : Bool) : List Value := [.bool x]
/-- An edge's ends on a side of a vertex. -/
def endsOf (v d : Nat) (p : Ed × Nat) : List Nat := (if p.1.f = v ∧ p.1.d = d then [2 * p.2] else []) ++ (if p.1.t = v ∧ p.1.side = d then [2 * p.2 + 1] else [])
def on (es : List Ed) (v d : Nat) : List Nat := es.zipIdx.flatMap (endsOf v d)
theorem on_take {es : List Ed} {v d i : Nat} {e : Ed} (he : es[i]? = some e) : on (es.take (i + 1)) v d = on (es.take i) v d ++ endsOf v d (e, i) := by
  have hl : i < es.length := (List.getElem?_eq_some_iff.1 he).1
  rw [List.take_add_one, he]
  simp only [on, Option.toList_some, List.zipIdx_append, List.flatMap_append, List.length_take, Nat.min_eq_left (Nat.le_of_lt hl), Nat.zero_add, List.zipIdx_cons, List.zipIdx_nil, List.flatMap_cons, List.flatMap_nil, List.append_nil]
theorem endsOf_len (v d : Nat) (p : Ed × Nat) : (endsOf v d p).length ≤ 2 := by
  unfold endsOf
  rw [List.length_append]
  split <;> split <;> simp
theorem on_len : ∀ (es : List Ed) (v d : Nat), (on es v d).length ≤ 2 * es.length := by
  intro es v d
  have key : ∀ (l : List (Ed × Nat)), (l.flatMap (endsOf v d)).length ≤ 2 * l.length := by
    intro l
    induction l with
    | nil => simp
    | cons p l ih =>
      rw [List.flatMap_cons, List.length_append, List.length_cons]
      have := endsOf_len v d p
      omega
  have := key es.zipIdx
  rwa [List.length_zipIdx] at this
theorem bs_size (b : List Bool) : (bs b).size = b.length := by simp [bs, ByteArray.size]
theorem bs_get {b : List Bool} {i : Nat} {x : Bool} (e : b[i]? = some x) (hi : i < (bs b).size) : (bs b)[i]'hi = letter x := by
  have h2 : i < b.length := by rwa [bs_size] at hi
  have : b[i]'h2 = x := by
    rw [List.getElem?_eq_getElem h2] at e; exact Option.some.inj e
  show (bs b).data[i]'_ = _
  simp [bs, this]
theorem byteAt_bs {b : List Bool} {i : Nat} {x : Bool} (e : b[i]? = some x) : byteAt (bs b) (i : Int) = (letter x).toNat := by
  have hl : i < b.length := (List.getElem?_eq_some_iff.1 e).1
  have hi : (i : Int).toNat < (bs b).size := by rw [bs_size]; simpa using hl
  unfold byteAt
  rw [dif_pos hi]
  have := bs_get e (by rw [bs_size]; exact hl)
  simp only [Int.toNat_natCast] at *
  rw [this]
theorem decode_bs {b : List Bool} {i : Nat} {x : Bool} (e : b[i]? = some x) : Utf8.decode (bs b) i = ((letter x).toNat, 1) := by
  have hl : i < b.length := (List.getElem?_eq_some_iff.1 e).1
  have hi : i < (bs b).size := by rw [bs_size]; exact hl
  have hg : (bs b).get! i = letter x := by
    have := bs_get e hi
    rw [← this]
    have h3 : i < (bs b).data.size := hi
    show (bs b).data[i]! = (bs b).data[i]
    rw [getElem!_pos (bs b).data i h3]
  unfold Utf8.decode
  simp only [Nat.add_zero, hg]
  cases x <;> simp [letter]
theorem letter_L (x : Bool) : (((letter x).toNat : Int) == 76) = x := by cases x <;> decide
end Go.Shape
end

section
/-
  Texts in plain words: lines, words, numbers, a shape's text and what is parsed of it.
-/
namespace Go.Text
open Go Go.Mu Go.Shape
abbrev Bs := List UInt8
abbrev B (l : Bs) : ByteArray := ⟨l.toArray⟩
theorem B_size (l : Bs) : ByteArray.size (B l) = l.length := by simp [ByteArray.size]
theorem B_list (l : Bs) : (B l).data.toList = l := by simp
theorem B_inj {a b : Bs} (e : B a = B b) : a = b := by
  have := congrArg (fun x : ByteArray => x.data.toList) e
  simpa using this
theorem B_eta (s : ByteArray) : s = B s.data.toList := by
  apply ByteArray.ext; simp
theorem B_app (l m : Bs) : B l ++ B m = B (l ++ m) := by
  apply ByteArray.ext
  rw [ByteArray.data_append]
  simp
theorem B_ext (l : Bs) (i j : Nat) : ByteArray.extract (B l) i j = B ((l.take j).drop i) := by
  apply ByteArray.ext
  rw [ByteArray.data_extract]
  apply Array.ext'
  simp [List.drop_take]
theorem B_get {l : Bs} {i : Nat} {x : UInt8} (e : l[i]? = some x) (hi : i < (B l).size) : (B l)[i]'hi = x := by
  have h2 : i < l.length := by rwa [B_size] at hi
  have : l[i]'h2 = x := by
    rw [List.getElem?_eq_getElem h2] at e; exact Option.some.inj e
  show (B l).data[i]'_ = _
  simp [this]
theorem byteAt_B {l : Bs} {i : Nat} {x : UInt8} (e : l[i]? = some x) : byteAt (B l) (i : Int) = x.toNat := by
  have hl : i < l.length := (List.getElem?_eq_some_iff.1 e).1
  have hi : (i : Int).toNat < (B l).size := by rw [B_size]; simpa using hl
  unfold byteAt
  rw [dif_pos hi]
  have := B_get e (by rw [B_size]; exact hl)
  simp only [Int.toNat_natCast] at *
  rw [this]

/- ---------------------------------------------------------------- pieces -/
def splitC (c : UInt8) : Bs → List Bs
  | [] => [[]]
  | b :: t => if b = c then [] :: splitC c t else (b :: (splitC c t).headD []) :: (splitC c t).tail
theorem splitC_cons (c : UInt8) : ∀ s, ∃ x l, splitC c s = x :: l
  | [] => ⟨_, _, rfl⟩
  | b :: t => by
    unfold splitC
    split <;> exact ⟨_, _, rfl⟩
theorem splitC_hit {c : UInt8} : ∀ {a t : Bs}, c ∉ a → splitC c (a ++ c :: t) = a :: splitC c t
  | [], t, _ => by simp [splitC]
  | b :: a, t, h => by
    have h1 : b ≠ c := fun e => h (e ▸ List.mem_cons_self)
    have h2 : c ∉ a := fun e => h (List.mem_cons_of_mem _ e)
    rw [List.cons_append, splitC, if_neg h1, splitC_hit h2]; rfl
theorem splitC_miss {c : UInt8} : ∀ {a : Bs}, c ∉ a → splitC c a = [a]
  | [], _ => rfl
  | b :: a, h => by
    have h1 : b ≠ c := fun e => h (e ▸ List.mem_cons_self)
    have h2 : c ∉ a := fun e => h (List.mem_cons_of_mem _ e)
    rw [splitC, if_neg h1, splitC_miss h2]; rfl
theorem splitC_snoc (c : UInt8) : ∀ t : Bs, splitC c (t ++ [c]) = splitC c t ++ [[]]
  | [] => by simp [splitC]
  | b :: t => by
    obtain ⟨x, l, e⟩ := splitC_cons c t
    rw [List.cons_append, splitC, splitC, splitC_snoc c t, e]
    split <;> rfl
theorem splitC_len (c : UInt8) : ∀ s : Bs, (splitC c s).length ≤ s.length + 1
  | [] => Nat.le_refl _
  | b :: t => by
    have := splitC_len c t
    obtain ⟨x, l, e⟩ := splitC_cons c t
    unfold splitC
    rw [e] at this ⊢
    split <;> simp at this ⊢ <;> omega
theorem splitC_mem {c : UInt8} : ∀ {s : Bs} {x : Bs}, x ∈ splitC c s → c ∉ x ∧ x.length ≤ s.length ∧ ∀ b ∈ x, b ∈ s
  | [], x, h => by simp [splitC] at h; subst h; simp
  | b :: t, x, h => by
    obtain ⟨y, l, e⟩ := splitC_cons c t
    have ih := fun z hz => splitC_mem (c := c) (s := t) (x := z) hz
    rw [e] at ih
    unfold splitC at h
    rw [e] at h
    split at h
    · rcases List.mem_cons.1 h with rfl | h
      · simp
      · have := ih x h
        exact ⟨this.1, by simp; omega, fun z hz => List.mem_cons_of_mem _ (this.2.2 z hz)⟩
    · rename_i hb
      simp only [List.headD_cons, List.tail_cons] at h
      rcases List.mem_cons.1 h with rfl | h
      · have := ih y List.mem_cons_self
        refine ⟨fun q => ?_, by simp; omega, fun z hz => ?_⟩
        · rcases List.mem_cons.1 q with q | q
          · exact hb q.symm
          · exact this.1 q
        · rcases List.mem_cons.1 hz with rfl | hz
          · exact List.mem_cons_self
          · exact List.mem_cons_of_mem _ (this.2.2 z hz)
      · have := ih x (List.mem_cons_of_mem _ h)
        exact ⟨this.1, by simp; omega, fun z hz => List.mem_cons_of_mem _ (this.2.2 z hz)⟩
theorem occ1 (s : Bs) (c : UInt8) (i : Nat) : Lib.occAt s [c] i = (s[i]? == some c) := by
  unfold Lib.occAt
  cases e : s[i]? with
  | none =>
    rw [List.drop_eq_nil_of_le (by simpa using e)]; rfl
  | some x =>
    have hl := (List.getElem?_eq_some_iff.1 e).1
    rw [List.drop_eq_getElem_cons hl]
    have : s[i] = x := (List.getElem?_eq_some_iff.1 e).2
    rw [this]
    by_cases hx : x = c
    · subst hx; simp [List.isPrefixOf]
    · have h2 : ¬ c = x := fun q => hx q.symm
      have e1 : (c == x) = false := beq_eq_false_iff_ne.2 h2
      have e2 : (some x == some c) = false := beq_eq_false_iff_ne.2 fun q => hx (Option.some.inj q)
      rw [e2]
      simp [List.isPrefixOf, e1]
theorem not_mem_of {c : UInt8} {a : Bs} (h : ∀ j : Nat, a[j]? ≠ some c) : c ∉ a := fun hm => by
  obtain ⟨j, hj⟩ := List.mem_iff_getElem?.1 hm
  exact h j hj
theorem splitK_C (c : UInt8) : ∀ (n : Nat) (s : Bs), s.length ≤ n → Lib.splitK [c] 0 (Lib.count s [c]) s = splitC c s := by
  intro n
  induction n with
  | zero =>
    intro s h
    have : s = [] := List.eq_nil_of_length_eq_zero (by omega)
    subst this
    rfl
  | succ n ih =>
    intro s h
    rcases Lib.index_spec s [c] with ⟨h1, h2⟩ | ⟨i, h1, h2, h3, h4⟩
    · rw [Lib.count_miss h1]
      refine (splitC_miss (not_mem_of fun j hj => ?_)).symm
      have := h2 j (Nat.le_of_lt (List.getElem?_eq_some_iff.1 hj).1)
      rw [occ1, hj] at this
      simp at this
    · rw [Lib.count_hit (by simp) h1, Nat.add_comm, Lib.splitK, if_neg (by rw [h1]; simp), h1]
      rw [occ1] at h3
      have h3 : s[i]? = some c := by simpa using h3
      have hl := (List.getElem?_eq_some_iff.1 h3).1
      have hg : s[i] = c := (List.getElem?_eq_some_iff.1 h3).2
      have e : s = s.take i ++ c :: s.drop (i + 1) := by
        rw [← hg, ← List.drop_eq_getElem_cons hl, List.take_append_drop]
      have hni : c ∉ s.take i := not_mem_of fun j hj => by
        rw [List.getElem?_take] at hj
        split at hj
        · rename_i hlt
          have := h4 j hlt
          rw [occ1, hj] at this
          simp at this
        · cases hj
      simp only [Int.toNat_natCast, Nat.add_zero, List.length_singleton]
      rw [ih _ (by rw [List.length_drop]; omega)]
      conv => rhs; rw [e, splitC_hit hni]
theorem splitB_C (c : UInt8) (l : Bs) : Lib.splitB (B [c]) 0 (Lib.countB (B l) (B [c])) (B l) = (splitC c l).map B := by
  have h := Lib.splitB_data (B [c]) 0 (Lib.countB (B l) (B [c])) (B l)
  have e : Lib.countB (B l) (B [c]) = Lib.count l [c] := by
    show Lib.count (B l).data.toList (B [c]).data.toList = _
    rw [B_list, B_list]
  rw [e, B_list, B_list, splitK_C c l.length l (Nat.le_refl _)] at h
  rw [e, ← h, List.map_map]
  conv => lhs; rw [← List.map_id (Lib.splitB _ _ _ _)]
  exact List.map_congr_left fun x _ => B_eta x

/-- So far: the pieces that are done, from where the next one goes. -/
structure Pc (c : UInt8) (s : Bs) (d : List Bs) (f i : Nat) : Prop where
  le : f ≤ i
  top : i ≤ s.length
  eq : splitC c s = d ++ splitC c (s.drop f)
  no : c ∉ (s.drop f).take (i - f)
theorem Pc.init (c : UInt8) (s : Bs) : Pc c s [] 0 0 := ⟨Nat.le_refl _, Nat.zero_le _, rfl, by simp⟩
theorem Pc.go {c : UInt8} {s : Bs} {d : List Bs} {f i : Nat} {x : UInt8} (p : Pc c s d f i) (hx : s[i]? = some x) (hc : x ≠ c) : Pc c s d f (i + 1) := by
  have hl := (List.getElem?_eq_some_iff.1 hx).1
  have h1 := p.le
  refine ⟨by omega, hl, p.eq, ?_⟩
  have e : i + 1 - f = (i - f) + 1 := by omega
  rw [e, List.take_add_one, List.getElem?_drop, Nat.add_sub_cancel' h1, hx]
  intro hm
  rcases List.mem_append.1 hm with hm | hm
  · exact p.no hm
  · simp at hm; exact hc hm.symm
theorem Pc.split {c : UInt8} {s : Bs} {d : List Bs} {f i : Nat} (p : Pc c s d f i) (hx : s[i]? = some c) : splitC c (s.drop f) = (s.drop f).take (i - f) :: splitC c (s.drop (i + 1)) := by
  have hl := (List.getElem?_eq_some_iff.1 hx).1
  have h1 := p.le
  have e : s.drop f = (s.drop f).take (i - f) ++ c :: s.drop (i + 1) := by
    have e1 : (s.drop f).drop (i - f) = s.drop i := by rw [List.drop_drop, Nat.add_sub_cancel' h1]
    have e2 : s[i] = c := (List.getElem?_eq_some_iff.1 hx).2
    have e3 : s.drop i = c :: s.drop (i + 1) := by rw [← e2]; exact List.drop_eq_getElem_cons hl
    rw [← e3, ← e1, List.take_append_drop]
  conv => lhs; rw [e]
  exact splitC_hit p.no
theorem Pc.hit {c : UInt8} {s : Bs} {d : List Bs} {f i : Nat} (p : Pc c s d f i) (hx : s[i]? = some c) : Pc c s (d ++ [(s.drop f).take (i - f)]) (i + 1) (i + 1) := by
  have hl := (List.getElem?_eq_some_iff.1 hx).1
  refine ⟨Nat.le_refl _, hl, ?_, by simp⟩
  rw [p.eq, p.split hx, List.append_assoc]; rfl
theorem Pc.fin {c : UInt8} {s : Bs} {d : List Bs} {f : Nat} (p : Pc c s d f s.length) : splitC c s = d ++ [s.drop f] := by
  have h := p.no
  rw [List.take_of_length_le (by rw [List.length_drop]; omega)] at h
  rw [p.eq, splitC_miss h]
theorem Pc.room {c : UInt8} {s : Bs} {d : List Bs} {f i : Nat} (p : Pc c s d f i) : d.length ≤ i := by
  have h1 := congrArg List.length p.eq
  rw [List.length_append] at h1
  have h2 := splitC_len c (s.drop f)
  have key : ∀ (t : Bs), (splitC c t).length = t.count c + 1 := by
    intro t
    induction t with
    | nil => rfl
    | cons b t ih =>
      obtain ⟨x, l, e⟩ := splitC_cons c t
      unfold splitC
      rw [e] at ih ⊢
      by_cases hb : b = c
      · subst hb; simp at ih ⊢; omega
      · rw [if_neg hb, List.count_cons_of_ne hb]; simpa using ih
  rw [key, key] at h1
  have h3 : s.count c = (s.take f).count c + (s.drop f).count c := by
    conv => lhs; rw [← List.take_append_drop f s]
    rw [List.count_append]
  have h4 : (s.take f).count c ≤ f := by
    have := List.count_le_length (a := c) (l := s.take f)
    rw [List.length_take] at this; omega
  have := p.le
  omega

/- ---------------------------------------------------------------- a text's shape -/
def linesP (s : Bs) : Option (List Bs) := if (splitC 10 s).getLast? = some [] then some (splitC 10 s).dropLast else none
def wordsP (s : Bs) : Option (List Bs) := if [] ∈ splitC 32 s then none else some (splitC 32 s)
def digit (b : UInt8) : Bool := decide (48 ≤ b.toNat) && decide (b.toNat ≤ 57)
def numP (w : Bs) : Nat := w.foldl (fun a b => 10 * a + (b.toNat - 48)) 0
def numberP (w : Bs) : Option Nat := if w.length < 1 ∨ 7 < w.length ∨ (1 < w.length ∧ w[0]? = some 48) ∨ w.all digit = false then none else some (numP w)
def dirP (w : Bs) : Option Nat := if w = [69] then some 0 else if w = [78] then some 1 else if w = [87] then some 2 else if w = [83] then some 3 else none
def isLR (b : UInt8) : Bool := b == 76 || b == 82
def isPB (b : UInt8) : Bool := b == 112 || b == 98
def vertP (w : Bs) (n : Nat) : Except Nat Nat := match numberP w with
  | none => .error 5
  | some v => if n ≤ v then .error 3 else .ok v
def shapeB : Bs := [115, 104, 97, 112, 101]
def endB : Bs := [101, 110, 100]
def headP (l : Bs) : Except Nat (List Bool) := match wordsP l with
  | none => .error 4
  | some w => if w.length ≠ 2 ∨ w[0]? ≠ some shapeB then .error 4 else
    if w[1]? = some [45] then .ok [] else
    if (w.getD 1 []).all isPB = false then .error 4 else
    if 4096 < (w.getD 1 []).length then .error 6 else .ok ((w.getD 1 []).map (· == 98))
def edgeP (l : Bs) (n : Nat) : Except Nat Ed := match wordsP l with
  | none => .error 4
  | some w => if w.length < 3 ∨ 4 < w.length then .error 4 else
    match vertP (w.getD 0 []) n with
    | .error e => .error e
    | .ok f => match dirP (w.getD 1 []) with
      | none => .error 4
      | some d => match vertP (w.getD 2 []) n with
        | .error e => .error e
        | .ok t => if (w.getD 3 []).all isLR = false then .error 4 else .ok ⟨f, t, d, (w.getD 3 []).map (· == 76)⟩
structure PR where
  bx : List Bool
  es : List Ed
  n : Nat
  e : Nat
def bodyP (n : Nat) : Nat → List Ed → Nat → List Bs → List Ed × Nat × Nat
  | i, _, _, [] => ([], i + 1, 4)
  | i, acc, b, l :: ls => if l = endB then (if ls = [] then (acc, 0, 0) else ([], i + 2, 4)) else
    match edgeP l n with
    | .error e => ([], i + 1, e)
    | .ok x => if 4096 < acc.length + 1 ∨ 4096 < b + x.b.length then ([], i + 1, 6) else bodyP n (i + 1) (acc ++ [x]) (b + x.b.length) ls
def finP (bx : List Bool) (r : List Ed × Nat × Nat) : PR := if r.2.2 = 0 then ⟨bx, r.1, 0, 0⟩ else ⟨[], [], r.2.1, r.2.2⟩
def parseP (s : Bs) : PR := match linesP s with
  | none => ⟨[], [], 0, 4⟩
  | some [] => ⟨[], [], 1, 4⟩
  | some (l :: ls) => match headP l with
    | .error e => ⟨[], [], 1, e⟩
    | .ok bx => finP bx (bodyP bx.length 1 [] 0 ls)
theorem lr_bs {w : Bs} (h : w.all isLR = true) : bs (w.map (· == 76)) = B w := by
  unfold bs
  congr 2
  rw [List.map_map]
  conv => rhs; rw [← List.map_id w]
  refine List.map_congr_left fun x hx => ?_
  have := List.all_eq_true.1 h x hx
  unfold isLR at this
  simp only [Bool.or_eq_true, beq_iff_eq] at this
  rcases this with rfl | rfl <;> rfl
theorem numP_bound : ∀ (w : Bs) (a : Nat), w.all digit = true → w.foldl (fun a b => 10 * a + (b.toNat - 48)) a + 1 ≤ (a + 1) * 10 ^ w.length
  | [], a, _ => by simp
  | b :: w, a, h => by
    have hb : digit b = true := List.all_eq_true.1 h b List.mem_cons_self
    have hw : w.all digit = true := List.all_eq_true.2 fun x hx => List.all_eq_true.1 h x (List.mem_cons_of_mem _ hx)
    have h1 : b.toNat - 48 ≤ 9 := by
      unfold digit at hb
      simp only [Bool.and_eq_true, decide_eq_true_eq] at hb
      omega
    have ih := numP_bound w (10 * a + (b.toNat - 48)) hw
    rw [List.foldl_cons, List.length_cons, Nat.pow_succ']
    refine Nat.le_trans ih ?_
    have : (10 * a + (b.toNat - 48) + 1) ≤ (a + 1) * 10 := by omega
    calc _ ≤ ((a + 1) * 10) * 10 ^ w.length := Nat.mul_le_mul_right _ this
      _ = _ := by rw [Nat.mul_assoc]
theorem numP_lt {w : Bs} (h : w.all digit = true) (hl : w.length ≤ 7) : numP w ≤ 9999999 := by
  have h1 := numP_bound w 0 h
  have h2 : 10 ^ w.length ≤ 10 ^ 7 := Nat.pow_le_pow_right (by decide) hl
  unfold numP
  omega
end Go.Text
end

section
/-
  Calls that lay one row; the tables of runes; the last rune.
-/
namespace Go.Proofs.YtimadnngfhbfiaaGreatDoor
open Go Go.Mu
theorem fr_of_below {h : H} {w w' : World} (b : Go.RowKit.Below w.heap.size w w') (s : Sat h w) : Sat h w' ∧ Fr h w h w' := by
  obtain ⟨h1, h2, h3, h4, h5⟩ := b
  exact ⟨fun c x e => by rw [h5 c (s.lt e)]; exact s c x e, ⟨h4, h1, h2, h3, fun c hc ho => ⟨h5 c hc, id, ho⟩⟩⟩
theorem Sat.none_of_ge {h : H} {w : World} (s : Sat h w) {g : Nat} (hg : w.heap.size ≤ g) : h g = none := by
  cases e : h g with
  | none => rfl
  | some x => exact absurd (s.lt e) (by omega)
/-- A call that lays one new row of its own, or none. -/
theorem acall_row {P : Program} {f : FuncId} {args : Array Value} {h : H} {K : Value → H → Prop}
    (c : ∀ w, Sat h w → Calls P f args w fun e w' => ∃ v, e = .returned v ∧ RowKit.Below w.heap.size w w' ∧
      (K v h ∨ ∃ g cur e vs, w.heap.size ≤ g ∧ w'.heap[g]? = some (.cells cur e (0, 0)) ∧ vs <+: cur.toList ∧ K v (h.set g (.row ⟨vs, cur.size, e, true, true⟩)))) : ACall P f args h K := by
  intro w s
  refine (c w s).mono ?_
  rintro e w' ⟨v, rfl, b, hk | ⟨g, cur, t, vs, hg, hc, hp, hk⟩⟩
  · exact ⟨v, h, rfl, (fr_of_below b s).1, (fr_of_below b s).2, hk⟩
  · obtain ⟨s', fr⟩ := fr_of_below b s
    refine ⟨v, _, rfl, ?_, ?_, hk⟩
    · intro b' x e
      by_cases hb : b' = g
      · subst hb
        rw [H.set_eq] at e; cases e
        exact ⟨cur, (0, 0), hc, rfl, hp, fun _ i _ _ => Nat.not_lt_zero _, fun _ => rfl⟩
      · rw [H.set_ne _ _ hb] at e
        exact s' _ _ e
    · refine ⟨fr.size, fr.os, fr.tape, fr.output, fun b' hb' ho => ?_⟩
      have hb : b' ≠ g := by omega
      rw [H.set_ne _ _ hb]
      exact fr.keep b' hb' ho
theorem below_bytes {w : World} {e : TypeId} {t : ByteArray} : Go.RowKit.Below w.heap.size w (Lib.bytesWorld w e t) :=
  ⟨rfl, rfl, rfl, by rw [Lib.bytesWorld_size]; omega, fun c hc => Lib.bytesWorld_at_old w e t c hc⟩
/-- The tables of runes lie in the heap. -/
def TabsH (h : H) : Prop := ∀ w, Sat h w → Lib.Utf8Tabs 1 2 w
theorem TabsH.le {h h' : H} (t : TabsH h) (le : h.Le h') : TabsH h' := fun w s => t w fun b x e => s b x (le _ _ e)
theorem last_high (s : ByteArray) (h0 : 0 < s.size) (hhi : 128 ≤ (s.get! (s.size - 1)).toNat) : 128 ≤ (Lib.decodeLastL s.data.toList).1 := by
  rw [Lib.decodeLastL_eq s h0 hhi]
  have hl : s.data.toList.length = s.size := (Lib.size_eq s).symm
  have hst := Lib.lastStart_lt s.data.toList (fun q => by rw [q] at hl; simp at hl; omega)
  rw [hl] at hst
  generalize Lib.lastStart s.data.toList = st at hst
  have hg : ∀ i (hi : i < s.size), s.get! i = s[i]'hi := fun i hi => by
    show s.data[i]! = s.data[i]
    rw [getElem!_pos s.data i hi]
  unfold Lib.lastOf
  have e : Lib.decodeGo (s.extract st s.size) = Utf8.decode s st := by
    have hsz : (s.extract st s.size).size ≠ 0 := by rw [ByteArray.size_extract]; omega
    unfold Lib.decodeGo
    rw [if_neg hsz, Lib.tail_decode]; rfl
  rw [e]
  by_cases ha : (s[st]'hst).toNat < 128
  · rw [decode_ascii s st hst ha]
    simp only
    split
    · rename_i hc
      have : st = s.size - 1 := by omega
      subst this
      rw [hg _ hst] at hhi
      omega
    · decide
  · have := (decode_high s st hst (by omega)).1
    split
    · exact this
    · decide
end Go.Proofs.YtimadnngfhbfiaaGreatDoor
end

section
/-
  The library's Split, Trim, Index, Count, Join, Atoi and DecodeLastRuneInString, as the kit's shelf lays them.
-/
namespace Go.Proofs
open Go.Shelf
def Tryz.lays160_ren : Go.Shelf.Ren := ⟨fun | 160 => 88 | 232 => 127 | 231 => 126 | 227 => 128 | 234 => 130 | 233 => 129 | 236 => 132 | 235 => 131 | 228 => 161 | 271 => 139 | 151 => 162 | 197 => 57 | 120 => 169 | 152 => 183 | 260 => 103 | 137 => 197 | 119 => 198 | 224 => 137 | 225 => 136 | 217 => 135 | 266 => 167 | n => n, fun | 9 => 9 | 4 => 4 | 3 => 3 | 5 => 5 | 117 => 189 | 116 => 188 | 0 => 0 | 124 => 192 | 21 => 21 | 105 => 116 | 46 => 120 | 119 => 197 | 139 => 200 | 138 => 199 | n => n, fun | 3 => 1 | 4 => 2 | n => n⟩
theorem Tryz.lays160 : Go.Proofs.Lays.n160 Tryz.prog Tryz.lays160_ren := {
  mixed := by kernel_rfl
  f119 := Tryz.func198.trans (congrArg some (by kernel_rfl))
  f120 := Tryz.func169.trans (congrArg some (by kernel_rfl))
  f137 := Tryz.func197.trans (congrArg some (by kernel_rfl))
  f151 := Tryz.func162.trans (congrArg some (by kernel_rfl))
  f152 := Tryz.func183.trans (congrArg some (by kernel_rfl))
  f160 := Tryz.func88.trans (congrArg some (by kernel_rfl))
  f197 := Tryz.func57.trans (congrArg some (by kernel_rfl))
  f217 := Tryz.func135.trans (congrArg some (by kernel_rfl))
  f224 := Tryz.func137.trans (congrArg some (by kernel_rfl))
  f225 := Tryz.func136.trans (congrArg some (by kernel_rfl))
  f227 := Tryz.func128.trans (congrArg some (by kernel_rfl))
  f228 := Tryz.func161.trans (congrArg some (by kernel_rfl))
  f231 := Tryz.func126.trans (congrArg some (by kernel_rfl))
  f232 := Tryz.func127.trans (congrArg some (by kernel_rfl))
  f233 := Tryz.func129.trans (congrArg some (by kernel_rfl))
  f234 := Tryz.func130.trans (congrArg some (by kernel_rfl))
  f235 := Tryz.func131.trans (congrArg some (by kernel_rfl))
  f236 := Tryz.func132.trans (congrArg some (by kernel_rfl))
  f260 := Tryz.func103.trans (congrArg some (by kernel_rfl))
  f266 := Tryz.func167.trans (congrArg some (by kernel_rfl))
  f271 := Tryz.func139.trans (congrArg some (by kernel_rfl))
  t0 := Tryz.underlying0
  a0 := Tryz.isAgg0
  z0 := Tryz.sizeOf0
  v0 := Tryz.zeroValue0
  t3 := Tryz.underlying3
  a3 := Tryz.isAgg3
  z3 := Tryz.sizeOf3
  v3 := Tryz.zeroValue3
  t4 := Tryz.underlying4
  a4 := Tryz.isAgg4
  z4 := Tryz.sizeOf4
  v4 := Tryz.zeroValue4
  t5 := Tryz.underlying5
  a5 := Tryz.isAgg5
  z5 := Tryz.sizeOf5
  v5 := Tryz.zeroValue5
  t9 := Tryz.underlying9
  a9 := Tryz.isAgg9
  z9 := Tryz.sizeOf9
  v9 := Tryz.zeroValue9
  t21 := Tryz.underlying21
  a21 := Tryz.isAgg21
  z21 := Tryz.sizeOf21
  v21 := Tryz.zeroValue21
  t46 := Tryz.underlying120
  a46 := Tryz.isAgg120
  z46 := Tryz.sizeOf120
  v46 := Tryz.zeroValue120
  t105 := Tryz.underlying116
  a105 := Tryz.isAgg116
  z105 := Tryz.sizeOf116
  v105 := Tryz.zeroValue116
  t116 := Tryz.underlying188
  a116 := Tryz.isAgg188
  z116 := Tryz.sizeOf188
  t117 := Tryz.underlying189
  a117 := Tryz.isAgg189
  z117 := Tryz.sizeOf189
  v117 := Tryz.zeroValue189
  t119 := Tryz.underlying197
  a119 := Tryz.isAgg197
  z119 := Tryz.sizeOf197
  t124 := Tryz.underlying192
  a124 := Tryz.isAgg192
  z124 := Tryz.sizeOf192
  v124 := Tryz.zeroValue192
  t138 := Tryz.underlying199
  a138 := Tryz.isAgg199
  z138 := Tryz.sizeOf199
  v138 := Tryz.zeroValue199
  t139 := Tryz.underlying200
  a139 := Tryz.isAgg200
  z139 := Tryz.sizeOf200
  v139 := Tryz.zeroValue200
  g3 := by kernel_rfl
  g4 := by kernel_rfl }
def Tryz.lays172_ren : Go.Shelf.Ren := ⟨fun | 172 => 166 | 244 => 185 | 245 => 186 | 247 => 200 | 279 => 201 | 280 => 202 | 281 => 203 | 282 => 204 | 287 => 210 | 316 => 211 | 171 => 106 | 205 => 212 | 321 => 215 | 322 => 216 | 243 => 142 | 246 => 170 | 283 => 187 | 284 => 188 | 285 => 189 | 286 => 190 | 129 => 206 | 317 => 205 | 318 => 207 | 319 => 208 | 320 => 209 | 337 => 213 | 338 => 214 | n => n, fun | 9 => 9 | 3 => 3 | 75 => 112 | 76 => 113 | 4 => 4 | 5 => 5 | 167 => 261 | 37 => 50 | 0 => 0 | 85 => 262 | 2 => 2 | 168 => 264 | 53 => 159 | 175 => 271 | 46 => 120 | 210 => 275 | 127 => 154 | 145 => 281 | 143 => 279 | 21 => 21 | 171 => 246 | 173 => 249 | 212 => 268 | 51 => 156 | 20 => 20 | 213 => 269 | 232 => 282 | 233 => 283 | 80 => 115 | n => n, fun | 15 => 4 | 16 => 5 | 17 => 3 | 18 => 6 | 19 => 7 | n => n⟩
theorem Tryz.lays172 : Go.Proofs.Lays.n172 Tryz.prog Tryz.lays172_ren := {
  mixed := by kernel_rfl
  f129 := Tryz.func206.trans (congrArg some (by kernel_rfl))
  f171 := Tryz.func106.trans (congrArg some (by kernel_rfl))
  f172 := Tryz.func166.trans (congrArg some (by kernel_rfl))
  f205 := Tryz.func212.trans (congrArg some (by kernel_rfl))
  f243 := Tryz.func142.trans (congrArg some (by kernel_rfl))
  f244 := Tryz.func185.trans (congrArg some (by kernel_rfl))
  f245 := Tryz.func186.trans (congrArg some (by kernel_rfl))
  f246 := Tryz.func170.trans (congrArg some (by kernel_rfl))
  f247 := Tryz.func200.trans (congrArg some (by kernel_rfl))
  f279 := Tryz.func201.trans (congrArg some (by kernel_rfl))
  f280 := Tryz.func202.trans (congrArg some (by kernel_rfl))
  f281 := Tryz.func203.trans (congrArg some (by kernel_rfl))
  f282 := Tryz.func204.trans (congrArg some (by kernel_rfl))
  f283 := Tryz.func187.trans (congrArg some (by kernel_rfl))
  f284 := Tryz.func188.trans (congrArg some (by kernel_rfl))
  f285 := Tryz.func189.trans (congrArg some (by kernel_rfl))
  f286 := Tryz.func190.trans (congrArg some (by kernel_rfl))
  f287 := Tryz.func210.trans (congrArg some (by kernel_rfl))
  f316 := Tryz.func211.trans (congrArg some (by kernel_rfl))
  f317 := Tryz.func205.trans (congrArg some (by kernel_rfl))
  f318 := Tryz.func207.trans (congrArg some (by kernel_rfl))
  f319 := Tryz.func208.trans (congrArg some (by kernel_rfl))
  f320 := Tryz.func209.trans (congrArg some (by kernel_rfl))
  f321 := Tryz.func215.trans (congrArg some (by kernel_rfl))
  f322 := Tryz.func216.trans (congrArg some (by kernel_rfl))
  f337 := Tryz.func213.trans (congrArg some (by kernel_rfl))
  f338 := Tryz.func214.trans (congrArg some (by kernel_rfl))
  t0 := Tryz.underlying0
  a0 := Tryz.isAgg0
  z0 := Tryz.sizeOf0
  v0 := Tryz.zeroValue0
  t2 := Tryz.underlying2
  a2 := Tryz.isAgg2
  z2 := Tryz.sizeOf2
  v2 := Tryz.zeroValue2
  t3 := Tryz.underlying3
  a3 := Tryz.isAgg3
  z3 := Tryz.sizeOf3
  v3 := Tryz.zeroValue3
  t4 := Tryz.underlying4
  a4 := Tryz.isAgg4
  z4 := Tryz.sizeOf4
  v4 := Tryz.zeroValue4
  t5 := Tryz.underlying5
  a5 := Tryz.isAgg5
  z5 := Tryz.sizeOf5
  v5 := Tryz.zeroValue5
  t9 := Tryz.underlying9
  a9 := Tryz.isAgg9
  z9 := Tryz.sizeOf9
  v9 := Tryz.zeroValue9
  t20 := Tryz.underlying20
  a20 := Tryz.isAgg20
  z20 := Tryz.sizeOf20
  v20 := Tryz.zeroValue20
  t21 := Tryz.underlying21
  a21 := Tryz.isAgg21
  z21 := Tryz.sizeOf21
  v21 := Tryz.zeroValue21
  t37 := Tryz.underlying50
  a37 := Tryz.isAgg50
  z37 := Tryz.sizeOf50
  v37 := Tryz.zeroValue50
  t46 := Tryz.underlying120
  a46 := Tryz.isAgg120
  z46 := Tryz.sizeOf120
  v46 := Tryz.zeroValue120
  t51 := Tryz.underlying156
  a51 := Tryz.isAgg156
  z51 := Tryz.sizeOf156
  v51 := Tryz.zeroValue156
  t53 := Tryz.underlying159
  a53 := Tryz.isAgg159
  z53 := Tryz.sizeOf159
  v53 := Tryz.zeroValue159
  t75 := Tryz.underlying112
  a75 := Tryz.isAgg112
  z75 := Tryz.sizeOf112
  v75 := Tryz.zeroValue112
  t76 := Tryz.underlying113
  a76 := Tryz.isAgg113
  z76 := Tryz.sizeOf113
  v76 := Tryz.zeroValue113
  t85 := Tryz.underlying262
  a85 := Tryz.isAgg262
  z85 := Tryz.sizeOf262
  v85 := Tryz.zeroValue262
  t127 := Tryz.underlying154
  a127 := Tryz.isAgg154
  z127 := Tryz.sizeOf154
  v127 := Tryz.zeroValue154
  t143 := Tryz.underlying279
  a143 := Tryz.isAgg279
  z143 := Tryz.sizeOf279
  v143 := Tryz.zeroValue279
  t145 := Tryz.underlying281
  a145 := Tryz.isAgg281
  z145 := Tryz.sizeOf281
  v145 := Tryz.zeroValue281
  t167 := Tryz.underlying261
  a167 := Tryz.isAgg261
  z167 := Tryz.sizeOf261
  v167 := Tryz.zeroValue261
  t168 := Tryz.underlying264
  a168 := Tryz.isAgg264
  z168 := Tryz.sizeOf264
  v168 := Tryz.zeroValue264
  t171 := Tryz.underlying246
  a171 := Tryz.isAgg246
  z171 := Tryz.sizeOf246
  v171 := Tryz.zeroValue246
  t173 := Tryz.underlying249
  a173 := Tryz.isAgg249
  z173 := Tryz.sizeOf249
  v173 := Tryz.zeroValue249
  t175 := Tryz.underlying271
  a175 := Tryz.isAgg271
  z175 := Tryz.sizeOf271
  v175 := Tryz.zeroValue271
  t210 := Tryz.underlying275
  a210 := Tryz.isAgg275
  z210 := Tryz.sizeOf275
  v210 := Tryz.zeroValue275
  t212 := Tryz.underlying268
  a212 := Tryz.isAgg268
  z212 := Tryz.sizeOf268
  v212 := Tryz.zeroValue268
  t213 := Tryz.underlying269
  a213 := Tryz.isAgg269
  z213 := Tryz.sizeOf269
  t232 := Tryz.underlying282
  a232 := Tryz.isAgg282
  z232 := Tryz.sizeOf282
  v232 := Tryz.zeroValue282
  t233 := Tryz.underlying283
  a233 := Tryz.isAgg283
  z233 := Tryz.sizeOf283
  v233 := Tryz.zeroValue283
  g15 := by kernel_rfl
  g16 := by kernel_rfl
  g17 := by kernel_rfl
  g18 := by kernel_rfl
  g19 := by kernel_rfl }
def Tryz.lays143_ren : Go.Shelf.Ren := ⟨fun | 143 => 47 | 219 => 95 | 217 => 135 | 225 => 136 | 224 => 137 | 267 => 138 | 266 => 167 | 314 => 168 | n => n, fun | 9 => 9 | 3 => 3 | 4 => 4 | 5 => 5 | 46 => 120 | 146 => 157 | 51 => 156 | n => n, fun | 1 => 0 | n => n⟩
theorem Tryz.lays143 : Go.Proofs.Lays.n143 Tryz.prog Tryz.lays143_ren := {
  mixed := by kernel_rfl
  f143 := Tryz.func47.trans (congrArg some (by kernel_rfl))
  f217 := Tryz.func135.trans (congrArg some (by kernel_rfl))
  f219 := Tryz.func95.trans (congrArg some (by kernel_rfl))
  f224 := Tryz.func137.trans (congrArg some (by kernel_rfl))
  f225 := Tryz.func136.trans (congrArg some (by kernel_rfl))
  f266 := Tryz.func167.trans (congrArg some (by kernel_rfl))
  f267 := Tryz.func138.trans (congrArg some (by kernel_rfl))
  f314 := Tryz.func168.trans (congrArg some (by kernel_rfl))
  t3 := Tryz.underlying3
  a3 := Tryz.isAgg3
  z3 := Tryz.sizeOf3
  v3 := Tryz.zeroValue3
  t4 := Tryz.underlying4
  a4 := Tryz.isAgg4
  z4 := Tryz.sizeOf4
  v4 := Tryz.zeroValue4
  t5 := Tryz.underlying5
  a5 := Tryz.isAgg5
  z5 := Tryz.sizeOf5
  v5 := Tryz.zeroValue5
  t9 := Tryz.underlying9
  a9 := Tryz.isAgg9
  z9 := Tryz.sizeOf9
  v9 := Tryz.zeroValue9
  t46 := Tryz.underlying120
  a46 := Tryz.isAgg120
  z46 := Tryz.sizeOf120
  v46 := Tryz.zeroValue120
  t51 := Tryz.underlying156
  a51 := Tryz.isAgg156
  z51 := Tryz.sizeOf156
  v51 := Tryz.zeroValue156
  t146 := Tryz.underlying157
  a146 := Tryz.isAgg157
  z146 := Tryz.sizeOf157
  v146 := Tryz.zeroValue157
  g1 := by kernel_rfl }
def Tryz.lays144_ren : Go.Shelf.Ren := ⟨fun | 144 => 134 | 143 => 47 | 219 => 95 | 217 => 135 | 225 => 136 | 224 => 137 | 267 => 138 | 266 => 167 | 314 => 168 | n => n, fun | 9 => 9 | 4 => 4 | 3 => 3 | 5 => 5 | 46 => 120 | 146 => 157 | 51 => 156 | n => n, fun | 1 => 0 | n => n⟩
theorem Tryz.lays144 : Go.Proofs.Lays.n144 Tryz.prog Tryz.lays144_ren := {
  mixed := by kernel_rfl
  f143 := Tryz.func47.trans (congrArg some (by kernel_rfl))
  f144 := Tryz.func134.trans (congrArg some (by kernel_rfl))
  f217 := Tryz.func135.trans (congrArg some (by kernel_rfl))
  f219 := Tryz.func95.trans (congrArg some (by kernel_rfl))
  f224 := Tryz.func137.trans (congrArg some (by kernel_rfl))
  f225 := Tryz.func136.trans (congrArg some (by kernel_rfl))
  f266 := Tryz.func167.trans (congrArg some (by kernel_rfl))
  f267 := Tryz.func138.trans (congrArg some (by kernel_rfl))
  f314 := Tryz.func168.trans (congrArg some (by kernel_rfl))
  t3 := Tryz.underlying3
  a3 := Tryz.isAgg3
  z3 := Tryz.sizeOf3
  v3 := Tryz.zeroValue3
  t4 := Tryz.underlying4
  a4 := Tryz.isAgg4
  z4 := Tryz.sizeOf4
  v4 := Tryz.zeroValue4
  t5 := Tryz.underlying5
  a5 := Tryz.isAgg5
  z5 := Tryz.sizeOf5
  v5 := Tryz.zeroValue5
  t9 := Tryz.underlying9
  a9 := Tryz.isAgg9
  z9 := Tryz.sizeOf9
  v9 := Tryz.zeroValue9
  t46 := Tryz.underlying120
  a46 := Tryz.isAgg120
  z46 := Tryz.sizeOf120
  v46 := Tryz.zeroValue120
  t51 := Tryz.underlying156
  a51 := Tryz.isAgg156
  z51 := Tryz.sizeOf156
  v51 := Tryz.zeroValue156
  t146 := Tryz.underlying157
  a146 := Tryz.isAgg157
  z146 := Tryz.sizeOf157
  v146 := Tryz.zeroValue157
  g1 := by kernel_rfl }
def Tryz.lays138_ren : Go.Shelf.Ren := ⟨fun | 138 => 17 | 195 => 45 | 218 => 46 | 143 => 47 | 219 => 95 | 217 => 135 | 225 => 136 | 224 => 137 | 267 => 138 | 266 => 167 | 314 => 168 | n => n, fun | 9 => 9 | 3 => 3 | 4 => 4 | 5 => 5 | 0 => 0 | 46 => 120 | 146 => 157 | 51 => 156 | n => n, fun | 1 => 0 | n => n⟩
theorem Tryz.lays138 : Go.Proofs.Lays.n138 Tryz.prog Tryz.lays138_ren := {
  mixed := by kernel_rfl
  f138 := Tryz.func17.trans (congrArg some (by kernel_rfl))
  f143 := Tryz.func47.trans (congrArg some (by kernel_rfl))
  f195 := Tryz.func45.trans (congrArg some (by kernel_rfl))
  f217 := Tryz.func135.trans (congrArg some (by kernel_rfl))
  f218 := Tryz.func46.trans (congrArg some (by kernel_rfl))
  f219 := Tryz.func95.trans (congrArg some (by kernel_rfl))
  f224 := Tryz.func137.trans (congrArg some (by kernel_rfl))
  f225 := Tryz.func136.trans (congrArg some (by kernel_rfl))
  f266 := Tryz.func167.trans (congrArg some (by kernel_rfl))
  f267 := Tryz.func138.trans (congrArg some (by kernel_rfl))
  f314 := Tryz.func168.trans (congrArg some (by kernel_rfl))
  t0 := Tryz.underlying0
  a0 := Tryz.isAgg0
  z0 := Tryz.sizeOf0
  v0 := Tryz.zeroValue0
  t3 := Tryz.underlying3
  a3 := Tryz.isAgg3
  z3 := Tryz.sizeOf3
  v3 := Tryz.zeroValue3
  t4 := Tryz.underlying4
  a4 := Tryz.isAgg4
  z4 := Tryz.sizeOf4
  v4 := Tryz.zeroValue4
  t5 := Tryz.underlying5
  a5 := Tryz.isAgg5
  z5 := Tryz.sizeOf5
  v5 := Tryz.zeroValue5
  t9 := Tryz.underlying9
  a9 := Tryz.isAgg9
  z9 := Tryz.sizeOf9
  v9 := Tryz.zeroValue9
  t46 := Tryz.underlying120
  a46 := Tryz.isAgg120
  z46 := Tryz.sizeOf120
  v46 := Tryz.zeroValue120
  t51 := Tryz.underlying156
  a51 := Tryz.isAgg156
  z51 := Tryz.sizeOf156
  v51 := Tryz.zeroValue156
  t146 := Tryz.underlying157
  a146 := Tryz.isAgg157
  z146 := Tryz.sizeOf157
  v146 := Tryz.zeroValue157
  g1 := by kernel_rfl }
def Tryz.lays221_ren : Go.Shelf.Ren := ⟨fun | 221 => 52 | 268 => 99 | 138 => 17 | 143 => 47 | 195 => 45 | 197 => 57 | 218 => 46 | 219 => 95 | 260 => 103 | 217 => 135 | 225 => 136 | 224 => 137 | 267 => 138 | 266 => 167 | 314 => 168 | n => n, fun | 9 => 9 | 3 => 3 | 31 => 55 | 4 => 4 | 0 => 0 | 105 => 116 | 21 => 21 | 5 => 5 | 46 => 120 | 119 => 197 | 139 => 200 | 138 => 199 | 146 => 157 | 51 => 156 | n => n, fun | 1 => 0 | 3 => 1 | 4 => 2 | n => n⟩
theorem Tryz.lays221 : Go.Proofs.Lays.n221 Tryz.prog Tryz.lays221_ren := {
  mixed := by kernel_rfl
  f138 := Tryz.func17.trans (congrArg some (by kernel_rfl))
  f143 := Tryz.func47.trans (congrArg some (by kernel_rfl))
  f195 := Tryz.func45.trans (congrArg some (by kernel_rfl))
  f197 := Tryz.func57.trans (congrArg some (by kernel_rfl))
  f217 := Tryz.func135.trans (congrArg some (by kernel_rfl))
  f218 := Tryz.func46.trans (congrArg some (by kernel_rfl))
  f219 := Tryz.func95.trans (congrArg some (by kernel_rfl))
  f221 := Tryz.func52.trans (congrArg some (by kernel_rfl))
  f224 := Tryz.func137.trans (congrArg some (by kernel_rfl))
  f225 := Tryz.func136.trans (congrArg some (by kernel_rfl))
  f260 := Tryz.func103.trans (congrArg some (by kernel_rfl))
  f266 := Tryz.func167.trans (congrArg some (by kernel_rfl))
  f267 := Tryz.func138.trans (congrArg some (by kernel_rfl))
  f268 := Tryz.func99.trans (congrArg some (by kernel_rfl))
  f314 := Tryz.func168.trans (congrArg some (by kernel_rfl))
  t0 := Tryz.underlying0
  a0 := Tryz.isAgg0
  z0 := Tryz.sizeOf0
  v0 := Tryz.zeroValue0
  t3 := Tryz.underlying3
  a3 := Tryz.isAgg3
  z3 := Tryz.sizeOf3
  v3 := Tryz.zeroValue3
  t4 := Tryz.underlying4
  a4 := Tryz.isAgg4
  z4 := Tryz.sizeOf4
  v4 := Tryz.zeroValue4
  t5 := Tryz.underlying5
  a5 := Tryz.isAgg5
  z5 := Tryz.sizeOf5
  v5 := Tryz.zeroValue5
  t9 := Tryz.underlying9
  a9 := Tryz.isAgg9
  z9 := Tryz.sizeOf9
  v9 := Tryz.zeroValue9
  t21 := Tryz.underlying21
  a21 := Tryz.isAgg21
  z21 := Tryz.sizeOf21
  v21 := Tryz.zeroValue21
  t31 := Tryz.underlying55
  a31 := Tryz.isAgg55
  z31 := Tryz.sizeOf55
  v31 := Tryz.zeroValue55
  t46 := Tryz.underlying120
  a46 := Tryz.isAgg120
  z46 := Tryz.sizeOf120
  v46 := Tryz.zeroValue120
  t51 := Tryz.underlying156
  a51 := Tryz.isAgg156
  z51 := Tryz.sizeOf156
  v51 := Tryz.zeroValue156
  t105 := Tryz.underlying116
  a105 := Tryz.isAgg116
  z105 := Tryz.sizeOf116
  v105 := Tryz.zeroValue116
  t119 := Tryz.underlying197
  a119 := Tryz.isAgg197
  z119 := Tryz.sizeOf197
  t138 := Tryz.underlying199
  a138 := Tryz.isAgg199
  z138 := Tryz.sizeOf199
  v138 := Tryz.zeroValue199
  t139 := Tryz.underlying200
  a139 := Tryz.isAgg200
  z139 := Tryz.sizeOf200
  v139 := Tryz.zeroValue200
  t146 := Tryz.underlying157
  a146 := Tryz.isAgg157
  z146 := Tryz.sizeOf157
  v146 := Tryz.zeroValue157
  g1 := by kernel_rfl
  g3 := by kernel_rfl
  g4 := by kernel_rfl }
def Tryz.lays271_ren : Go.Shelf.Ren := ⟨fun | 271 => 139 | 120 => 169 | 197 => 57 | 260 => 103 | n => n, fun | 9 => 9 | 21 => 21 | 3 => 3 | 4 => 4 | 5 => 5 | 105 => 116 | 119 => 197 | 0 => 0 | 46 => 120 | 139 => 200 | 138 => 199 | n => n, fun | 3 => 1 | 4 => 2 | n => n⟩
theorem Tryz.lays271 : Go.Proofs.Lays.n271 Tryz.prog Tryz.lays271_ren := {
  mixed := by kernel_rfl
  f120 := Tryz.func169.trans (congrArg some (by kernel_rfl))
  f197 := Tryz.func57.trans (congrArg some (by kernel_rfl))
  f260 := Tryz.func103.trans (congrArg some (by kernel_rfl))
  f271 := Tryz.func139.trans (congrArg some (by kernel_rfl))
  t0 := Tryz.underlying0
  a0 := Tryz.isAgg0
  z0 := Tryz.sizeOf0
  v0 := Tryz.zeroValue0
  t3 := Tryz.underlying3
  a3 := Tryz.isAgg3
  z3 := Tryz.sizeOf3
  v3 := Tryz.zeroValue3
  t4 := Tryz.underlying4
  a4 := Tryz.isAgg4
  z4 := Tryz.sizeOf4
  v4 := Tryz.zeroValue4
  t5 := Tryz.underlying5
  a5 := Tryz.isAgg5
  z5 := Tryz.sizeOf5
  v5 := Tryz.zeroValue5
  t9 := Tryz.underlying9
  a9 := Tryz.isAgg9
  z9 := Tryz.sizeOf9
  v9 := Tryz.zeroValue9
  t21 := Tryz.underlying21
  a21 := Tryz.isAgg21
  z21 := Tryz.sizeOf21
  v21 := Tryz.zeroValue21
  t46 := Tryz.underlying120
  a46 := Tryz.isAgg120
  z46 := Tryz.sizeOf120
  v46 := Tryz.zeroValue120
  t105 := Tryz.underlying116
  a105 := Tryz.isAgg116
  z105 := Tryz.sizeOf116
  v105 := Tryz.zeroValue116
  t119 := Tryz.underlying197
  a119 := Tryz.isAgg197
  z119 := Tryz.sizeOf197
  t138 := Tryz.underlying199
  a138 := Tryz.isAgg199
  z138 := Tryz.sizeOf199
  v138 := Tryz.zeroValue199
  t139 := Tryz.underlying200
  a139 := Tryz.isAgg200
  z139 := Tryz.sizeOf200
  v139 := Tryz.zeroValue200
  g3 := by kernel_rfl
  g4 := by kernel_rfl }
end Go.Proofs
end

section
/-
  What lies in a world, as a heap that may not be written; the tables of runes; a text handed in.
-/
namespace Go.Mu
/-- All that the world's rows hold, none to be written. -/
def H.of (W : World) : H := fun b => match W.heap[b]? with
  | some (.cells c e _) => some (.row ⟨c.toList, c.size, e, false, false⟩)
  | _ => none
theorem H.of_sat (W : World) : Sat (H.of W) W := by
  intro b x hx
  unfold H.of at hx
  split at hx
  · rename_i c e fz hb
    cases hx
    exact ⟨c, fz, hb, rfl, List.prefix_rfl, fun h => (by cases h), fun h => (by cases h)⟩
  · cases hx
theorem H.of_own (W : World) (b : Nat) : Blk.own (H.of W b) = false := by
  unfold H.of
  split <;> rfl
theorem H.of_rd {W : World} {a : Addr} {v : Value} (e : W.cell? a = some v) : (H.of W).rd a = some v := by
  unfold World.cell? at e
  unfold H.rd H.of
  split at e
  · rename_i c t fz hb
    split at e
    · cases e
    · rename_i hs
      have : a.spot = none := by simpa using hs
      rw [this, hb]
      simpa using e
  · cases e
theorem Fr.below {W W' : World} {h' : H} (f : Fr (H.of W) W h' W') : Go.RowKit.Below W.heap.size W W' :=
  ⟨f.os, f.tape, f.output, f.size, fun k hk => (f.keep k hk (H.of_own W k)).1⟩
/-- A call, told of the world in which it begins. -/
theorem ACall.world {P : Program} {f : FuncId} {args : Array Value} {W : World} {K : Value → H → Prop} (a : ACall P f args (H.of W) K) : Calls P f args W fun e W' => ∃ r h', e = .returned r ∧ Go.RowKit.Below W.heap.size W W' ∧ K r h' :=
  (a W (H.of_sat W)).mono fun _ _ ⟨r, h', e, _, fr, k⟩ => ⟨r, h', e, fr.below, k⟩
end Go.Mu
namespace Go.Proofs.YtimadnngfhbfiaaGreatDoor
open Go Go.Mu
theorem tabsH_of {W : World} (t : Lib.Utf8Tabs 1 2 W) : TabsH (H.of W) := fun _ s =>
  ⟨fun c hc => s.rd (H.of_rd (t.1 c hc)), fun i hi => ⟨s.rd (H.of_rd (t.2 i hi).1), s.rd (H.of_rd (t.2 i hi).2)⟩⟩
theorem tabsH_reads {W : World} (h3 : Lib.VarReads Tryz.prog W "unicode/utf8.first" Go.Pinned.utf8First) (h4 : Lib.VarReads Tryz.prog W "unicode/utf8.acceptRanges" Lib.acceptData) : TabsH (H.of W) :=
  tabsH_of (utf8Tabs_of_readsT (ρ := Tryz.lays271_ren) { Tryz.lays271 with } ⟨by kernel_rfl, by kernel_rfl, by kernel_rfl, by kernel_rfl, by kernel_rfl, by kernel_rfl, by kernel_rfl⟩ (Pinned.utf8First_eq ▸ h3) h4)
end Go.Proofs.YtimadnngfhbfiaaGreatDoor
end

section
/-
  What is parsed, in plain words: it may be written, and its text is the text.
-/
namespace Go.Text
open Go Go.Mu Go.Shape
def joinC (c : UInt8) : List Bs → Bs
  | [] => []
  | [x] => x
  | x :: y :: l => x ++ c :: joinC c (y :: l)
theorem split_join (c : UInt8) : ∀ s : Bs, joinC c (splitC c s) = s
  | [] => rfl
  | b :: t => by
    have ih := split_join c t
    obtain ⟨x, l, e⟩ := splitC_cons c t
    rw [e] at ih
    unfold splitC
    rw [e]
    by_cases hb : b = c
    · rw [if_pos hb]; subst hb
      show [] ++ b :: joinC b (x :: l) = _
      rw [ih]; rfl
    · rw [if_neg hb]
      cases l with
      | nil =>
        have : x = t := ih
        subst this; rfl
      | cons y l =>
        have : x ++ c :: joinC c (y :: l) = t := ih
        show (b :: x) ++ c :: joinC c (y :: l) = _
        rw [← this]; rfl
theorem words_join {s : Bs} {w : List Bs} (h : wordsP s = some w) : s = joinC 32 w := by
  unfold wordsP at h
  split at h
  · cases h
  · cases h; exact (split_join 32 s).symm
theorem lines_join {s : Bs} {l : List Bs} (h : linesP s = some l) : s = l.flatMap (· ++ [10]) := by
  unfold linesP at h
  split at h
  · rename_i hl
    have h : (splitC 10 s).dropLast = l := by simpa using h
    obtain ⟨ys, hy⟩ := List.getLast?_eq_some_iff.1 hl
    rw [hy, List.dropLast_concat] at h
    subst h
    have e := split_join 10 s
    rw [hy] at e
    rw [← e]
    have key : ∀ l : List Bs, joinC 10 (l ++ [[]]) = l.flatMap (· ++ [10]) := by
      intro l
      induction l with
      | nil => rfl
      | cons x l ih =>
        rw [List.flatMap_cons, ← ih]
        cases l with
        | nil => simp [joinC]
        | cons y l => simp [joinC]
    exact key ys
  · cases h
theorem digit_ge {b : UInt8} (h : digit b = true) : 48 ≤ b.toNat ∧ b.toNat ≤ 57 := by
  unfold digit at h
  simpa using h
theorem numP_snoc (u : Bs) (b : UInt8) : numP (u ++ [b]) = 10 * numP u + (b.toNat - 48) := by
  unfold numP
  rw [List.foldl_append]; rfl
theorem numP_pos : ∀ (w : Bs) (a : Nat), 0 < a → 0 < w.foldl (fun a b => 10 * a + (b.toNat - 48)) a
  | [], a, h => h
  | b :: w, a, h => numP_pos w _ (by show 0 < 10 * a + (b.toNat - 48); omega)
theorem digit_chr {b : UInt8} (h : digit b = true) : UInt8.ofNat (48 + (b.toNat - 48)) = b := by
  have := digit_ge h
  have e : 48 + (b.toNat - 48) = b.toNat := by omega
  rw [e]; simp
theorem dec_num : ∀ (n : Nat) (w : Bs), w.length = n → w ≠ [] → w.all digit = true → (1 < w.length → w[0]? ≠ some 48) → Lib.decDigits (numP w) = w := by
  intro n
  induction n with
  | zero => intro w h hn; exact absurd (List.eq_nil_of_length_eq_zero h) hn
  | succ n ih =>
    intro w h hn hd hz
    obtain ⟨u, b, rfl⟩ : ∃ u b, w = u ++ [b] := ⟨w.dropLast, w.getLast hn, (List.dropLast_concat_getLast hn).symm⟩
    have hb : digit b = true := List.all_eq_true.1 hd b (by simp)
    have hu : u.all digit = true := List.all_eq_true.2 fun x hx => List.all_eq_true.1 hd x (by simp [hx])
    have hg := digit_ge hb
    rw [numP_snoc]
    by_cases h0 : u = []
    · subst h0
      unfold Lib.decDigits
      rw [dif_pos (by show 10 * 0 + _ < 10; omega)]
      show [UInt8.ofNat (48 + (0 + (b.toNat - 48)))] = _
      rw [Nat.zero_add, digit_chr hb]; rfl
    · have hl : 0 < u.length := List.length_pos_iff.2 h0
      have hz' : (u ++ [b])[0]? ≠ some 48 := hz (by simp; omega)
      rw [List.getElem?_append_left hl] at hz'
      have hp : 0 < numP u := by
        cases u with
        | nil => exact absurd rfl h0
        | cons x u =>
          have hx := digit_ge (List.all_eq_true.1 hu x List.mem_cons_self)
          have hx0 : x ≠ 48 := fun q => hz' (by simp [q])
          have : x.toNat ≠ 48 := fun q => hx0 (UInt8.toNat_inj.1 (by rw [q]; rfl))
          exact numP_pos u _ (by show 0 < 10 * 0 + (x.toNat - 48); omega)
      unfold Lib.decDigits
      rw [dif_neg (by omega)]
      have e1 : (10 * numP u + (b.toNat - 48)) / 10 = numP u := by omega
      have e2 : (10 * numP u + (b.toNat - 48)) % 10 = b.toNat - 48 := by omega
      rw [e1, e2, digit_chr hb, ih u (by simpa using h) h0 hu fun _ => hz']
theorem number_dec {w : Bs} {v : Nat} (h : numberP w = some v) : w = Lib.decDigits v := by
  unfold numberP at h
  split at h
  · cases h
  · rename_i hc
    have h : numP w = v := by simpa using h
    subst h
    simp only [not_or, Bool.not_eq_false] at hc
    obtain ⟨h1, h2, h3, h4⟩ := hc
    refine (dec_num w.length w rfl (fun q => h1 (by rw [q]; decide)) h4 fun q e => h3 ⟨q, e⟩).symm
theorem vertP_ok {w : Bs} {n v : Nat} (h : vertP w n = .ok v) : v < n ∧ w = Lib.decDigits v := by
  unfold vertP at h
  cases e : numberP w with
  | none => rw [e] at h; cases h
  | some u =>
    rw [e] at h
    simp only at h
    split at h
    · cases h
    · cases h
      exact ⟨by omega, number_dec e⟩
def dl : Nat → UInt8
  | 0 => 69
  | 1 => 78
  | 2 => 87
  | _ => 83
theorem dirP_ok {w : Bs} {d : Nat} (h : dirP w = some d) : d < 4 ∧ w = [dl d] := by
  unfold dirP at h
  repeat' split at h
  all_goals first | (cases h; done) | (cases h; exact ⟨by decide, by assumption⟩)
def lineT (e : Ed) : Bs := Lib.decDigits e.f ++ [32, dl e.d, 32] ++ Lib.decDigits e.t ++ (if e.b = [] then [] else 32 :: e.b.map letter)
def vx (x : Bool) : UInt8 := if x then 98 else 112
def headT (bx : List Bool) : Bs := shapeB ++ [32] ++ (if bx = [] then [45] else bx.map vx)
theorem words_ne {s : Bs} {w : List Bs} (h : wordsP s = some w) : [] ∉ w := by
  unfold wordsP at h
  split at h
  · cases h
  · cases h; assumption
theorem lr_letter {w : Bs} (h : w.all isLR = true) : (w.map (· == 76)).map letter = w := by
  rw [List.map_map]
  conv => rhs; rw [← List.map_id w]
  refine List.map_congr_left fun x hx => ?_
  have := List.all_eq_true.1 h x hx
  unfold isLR at this
  simp only [Bool.or_eq_true, beq_iff_eq] at this
  rcases this with rfl | rfl <;> rfl
theorem pb_vx {w : Bs} (h : w.all isPB = true) : (w.map (· == 98)).map vx = w := by
  rw [List.map_map]
  conv => rhs; rw [← List.map_id w]
  refine List.map_congr_left fun x hx => ?_
  have := List.all_eq_true.1 h x hx
  unfold isPB at this
  simp only [Bool.or_eq_true, beq_iff_eq] at this
  rcases this with rfl | rfl <;> rfl
theorem edgeP_ok {l : Bs} {n : Nat} {x : Ed} (h : edgeP l n = .ok x) : x.f < n ∧ x.t < n ∧ x.d < 4 ∧ l = lineT x ∧ x.b.length ≤ l.length := by
  unfold edgeP at h
  cases ew : wordsP l with
  | none => rw [ew] at h; cases h
  | some w =>
    have hj := words_join ew
    have hne := words_ne ew
    rw [ew] at h
    simp only at h
    split at h
    · cases h
    · rename_i hlen
      cases e0 : vertP (w.getD 0 []) n with
      | error e => rw [e0] at h; cases h
      | ok f =>
        rw [e0] at h
        simp only at h
        cases e1 : dirP (w.getD 1 []) with
        | none => rw [e1] at h; cases h
        | some d =>
          rw [e1] at h
          simp only at h
          cases e2 : vertP (w.getD 2 []) n with
          | error e => rw [e2] at h; cases h
          | ok t =>
            rw [e2] at h
            simp only at h
            split at h
            · cases h
            · rename_i hlr
              have hlr : (w.getD 3 []).all isLR = true := by simpa using hlr
              cases h
              have a0 := vertP_ok e0
              have a1 := dirP_ok e1
              have a2 := vertP_ok e2
              refine ⟨a0.1, a2.1, a1.1, ?_⟩
              match w, hlen with
              | [x0, x1, x2], _ =>
                simp only [List.getD_cons_zero, List.getD_cons_succ, List.getD_nil] at a0 a1 a2 ⊢
                rw [hj, a0.2, a1.2, a2.2]
                simp [joinC, lineT]
              | [x0, x1, x2, x3], _ =>
                simp only [List.getD_cons_zero, List.getD_cons_succ, List.getD_nil] at a0 a1 a2 hlr ⊢
                have h3 : x3 ≠ [] := fun q => hne (by simp [q])
                rw [hj, a0.2, a1.2, a2.2]
                refine ⟨?_, by simp [joinC]; omega⟩
                simp only [lineT, List.map_eq_nil_iff]
                rw [if_neg h3, lr_letter hlr]
                simp [joinC]
              | [], h => simp at h
              | [_], h => simp at h
              | [_, _], h => simp at h
              | _ :: _ :: _ :: _ :: _ :: _, h => simp at h
theorem headP_ok {l : Bs} {bx : List Bool} (h : headP l = .ok bx) : bx.length ≤ 4096 ∧ l = headT bx := by
  unfold headP at h
  cases ew : wordsP l with
  | none => rw [ew] at h; cases h
  | some w =>
    have hj := words_join ew
    have hne := words_ne ew
    rw [ew] at h
    simp only at h
    split at h
    · cases h
    · rename_i hc
      simp only [not_or, Decidable.not_not] at hc
      match w, hc.1 with
      | [x0, x1], _ =>
        have h0 : x0 = shapeB := by simpa using hc.2
        subst h0
        simp only [List.getElem?_cons_succ, List.getElem?_cons_zero, List.getD_cons_succ, List.getD_cons_zero, Option.some.injEq] at h
        have hx1 : x1 ≠ [] := fun q => hne (by simp [q])
        split at h
        · rename_i e; cases h
          subst e
          exact ⟨by simp, by rw [hj]; rfl⟩
        · split at h
          · cases h
          · rename_i hpb
            have hpb : x1.all isPB = true := by simpa using hpb
            split at h
            · cases h
            · cases h
              refine ⟨by simp; omega, ?_⟩
              rw [hj, headT, if_neg (by simpa using hx1), pb_vx hpb]
              simp [joinC]
theorem vertP_err {w : Bs} {n e : Nat} (h : vertP w n = .error e) : e ≠ 0 := by
  unfold vertP at h
  split at h
  · cases h; decide
  · split at h
    · cases h; decide
    · cases h
theorem edgeP_err {l : Bs} {n e : Nat} (h : edgeP l n = .error e) : e ≠ 0 := by
  unfold edgeP at h
  repeat' split at h
  all_goals first | (cases h; decide) | (cases h; done) | (rename_i q _; cases h; exact vertP_err q) | (rename_i q; cases h; exact vertP_err q)
theorem headP_err {l : Bs} {e : Nat} (h : headP l = .error e) : e ≠ 0 := by
  unfold headP at h
  repeat' split at h
  all_goals first | (cases h; decide) | (cases h; done)
theorem bodyP_ok {n : Nat} : ∀ {ls : List Bs} {i b : Nat} {acc es : List Ed} {m : Nat}, bodyP n i acc b ls = (es, m, 0) →
    acc.length ≤ 4096 → b ≤ 4096 → m = 0 ∧ ∃ new, es = acc ++ new ∧ (∀ x ∈ new, x.f < n ∧ x.t < n ∧ x.d < 4) ∧ es.length ≤ 4096 ∧ b + (new.map (·.b.length)).sum ≤ 4096 ∧ ls = new.map lineT ++ [endB] ∧ new.length + 1 = ls.length
  | [], i, b, acc, es, m, h, _, _ => by simp [bodyP] at h
  | l :: ls, i, b, acc, es, m, h, h1, h2 => by
    unfold bodyP at h
    split at h
    · rename_i hl
      split at h
      · rename_i hls
        simp only [Prod.mk.injEq] at h
        obtain ⟨rfl, rfl, _⟩ := h
        exact ⟨rfl, [], by simp, by simp, h1, by simpa using h2, by rw [hl, hls]; rfl, by rw [hls]; rfl⟩
      · simp at h
    · cases he : edgeP l n with
      | error e =>
        rw [he] at h
        simp only [Prod.mk.injEq] at h
        obtain ⟨_, _, rfl⟩ := h
        exact absurd rfl (edgeP_err he)
      | ok x =>
        rw [he] at h
        simp only at h
        split at h
        · simp at h
        · rename_i hc
          obtain ⟨q0, new, q1, q2, q3, q4, q5, q6⟩ := bodyP_ok h (by simp; omega) (by omega)
          have hx := edgeP_ok he
          refine ⟨q0, x :: new, by rw [q1]; simp, ?_, q3, by simp; omega, by rw [q5, hx.2.2.2.1]; rfl, by simp; omega⟩
          intro y hy
          rcases List.mem_cons.1 hy with rfl | hy
          · exact ⟨hx.1, hx.2.1, hx.2.2.1⟩
          · exact q2 y hy
end Go.Text
end

section
/- PRINTED by wip/gen.py: what muntin/muntinref07.Lines does, in the words of Mu. -/
namespace Go.Proofs.YtimadnngfhbfiaaGreatDoor
open Go Go.Mu
/- muntin/muntinref07.Lines -/
def S40_j1 (p0 : ByteArray) (K : Sl → Int → H → Prop) (v4 : Sl) (v5 : Int) (h_1 : H) : Prop :=
  (if (decide (v5 < (ByteArray.size p0 : Int))) = true then K Sl.nil 4 h_1 else K v4 0 h_1)
def S40_j2 (v6 : Int) (X : (Sl × Int × Int) → H → Prop) (v4_2 : Sl) (v5_2 : Int) (h_3 : H) : Prop :=
  X (v4_2, v5_2, (IntKind.wrap .i64 (v6 + 1))) h_3
def S40_l3 (p0 : ByteArray) (K : Sl → Int → H → Prop) (X : (Sl × Int × Int) → H → Prop) (v4_1 : Sl) (v5_1 : Int) (v6 : Int) (h_2 : H) : Prop :=
  (if (decide (v6 < (ByteArray.size p0 : Int))) = true then (0 ≤ v6 ∧ v6 < (ByteArray.size p0 : Int) ∧ (if ((byteAt p0 v6) == 10) = true then ((0 : Int) ≤ v5_1 ∧ v5_1 ≤ v6 ∧ v6 ≤ (ByteArray.size p0 : Int) ∧ app 9 1 16 v4_1 1 [(.string (ByteArray.extract p0 (Int.toNat v5_1) (Int.toNat v6)))] h_2 (fun (v26 : Sl) (h_4 : H) => S40_j2 v6 X v26 (IntKind.wrap .i64 (v6 + 1)) h_4)) else S40_j2 v6 X v4_1 v5_1 h_2)) else S40_j1 p0 K v4_1 v5_1 h_2)
def S40 (p0 : ByteArray) (h : H) (K : Sl → Int → H → Prop) : Prop :=
  (if (decide ((ByteArray.size p0 : Int) > 1048576)) = true then K Sl.nil 16 h else lfp (fun X s h_2 => S40_l3 p0 K X s.1 s.2.1 s.2.2 h_2) (Sl.nil, 0, 0) h)
end Go.Proofs.YtimadnngfhbfiaaGreatDoor
end

section
/- PRINTED by wip/gen.py: what muntin/muntinref07.Words does, in the words of Mu. -/
namespace Go.Proofs.YtimadnngfhbfiaaGreatDoor
open Go Go.Mu
/- muntin/muntinref07.Words -/
def S91_j1 (K : Sl → Bool → H → Prop) (v4 : Sl) (h_1 : H) : Prop :=
  K v4 true h_1
def S91_j2 (v6 : Int) (X : (Sl × Int × Int) → H → Prop) (v4_2 : Sl) (v5_1 : Int) (h_3 : H) : Prop :=
  X (v4_2, v5_1, (IntKind.wrap .i64 (v6 + 1))) h_3
def S91_j3 (p0 : ByteArray) (K : Sl → Bool → H → Prop) (v4_1 : Sl) (v5 : Int) (v6 : Int) (X : (Sl × Int × Int) → H → Prop) (v22 : Bool) (h_4 : H) : Prop :=
  (if v22 = true then S91_j2 v6 X v4_1 v5 h_4 else (if (v6 == v5) = true then K Sl.nil false h_4 else ((0 : Int) ≤ v5 ∧ v5 ≤ v6 ∧ v6 ≤ (ByteArray.size p0 : Int) ∧ app 9 1 16 v4_1 1 [(.string (ByteArray.extract p0 (Int.toNat v5) (Int.toNat v6)))] h_4 (fun (v32 : Sl) (h_5 : H) => S91_j2 v6 X v32 (IntKind.wrap .i64 (v6 + 1)) h_5))))
def S91_l4 (p0 : ByteArray) (K : Sl → Bool → H → Prop) (X : (Sl × Int × Int) → H → Prop) (v4_1 : Sl) (v5 : Int) (v6 : Int) (h_2 : H) : Prop :=
  (if (decide (v6 ≤ (ByteArray.size p0 : Int))) = true then (if (decide (v6 < (ByteArray.size p0 : Int))) = true then (0 ≤ v6 ∧ v6 < (ByteArray.size p0 : Int) ∧ S91_j3 p0 K v4_1 v5 v6 X ((byteAt p0 v6) != 32) h_2) else S91_j3 p0 K v4_1 v5 v6 X false h_2) else S91_j1 K v4_1 h_2)
def S91 (p0 : ByteArray) (h : H) (K : Sl → Bool → H → Prop) : Prop :=
  lfp (fun X s h_2 => S91_l4 p0 K X s.1 s.2.1 s.2.2 h_2) (Sl.nil, 0, 0) h
end Go.Proofs.YtimadnngfhbfiaaGreatDoor
end

section
/- PRINTED by wip/gen.py: what muntin/muntinref08.first does, in the words of Mu. -/
namespace Go.Proofs.YtimadnngfhbfiaaGreatDoor
open Go Go.Mu
/- muntin/muntinref08.first -/
def S41_j1 (K : Sl → Int → H → Prop) (v6 : Sl) (h_3 : H) : Prop :=
  (if (decide ((v6.l : Int) > 4096)) = true then K Sl.nil 6 h_3 else K v6 0 h_3)
def S41_j2 (K : Sl → Int → H → Prop) (v10_0 : Sl) (v6_1 : Sl) (v7 : Int) (X : (Sl × Int) → H → Prop) (v51 : Bool) (h_5 : H) : Prop :=
  (if v51 = true then K Sl.nil 4 h_5 else (∃ a54 : Addr, v10_0.a = some a54 ∧ 0 ≤ (1 : Int) ∧ 1 < (v10_0.l : Int) ∧ (∃ (v55 : ByteArray), H.rd h_5 (Addr.add a54 (Int.toNat 1 * 1)) = some (.string v55) ∧ (0 ≤ v7 ∧ v7 < (ByteArray.size v55 : Int) ∧ app 4 1 1 v6_1 1 [(.bool ((byteAt v55 v7) == 98))] h_5 (fun (v60 : Sl) (h_6 : H) => X (v60, (IntKind.wrap .i64 (v7 + 1))) h_6)))))
def S41_l3 (K : Sl → Int → H → Prop) (v10_0 : Sl) (X : (Sl × Int) → H → Prop) (v6_1 : Sl) (v7 : Int) (h_4 : H) : Prop :=
  (∃ a32 : Addr, v10_0.a = some a32 ∧ 0 ≤ (1 : Int) ∧ 1 < (v10_0.l : Int) ∧ (∃ (v33 : ByteArray), H.rd h_4 (Addr.add a32 (Int.toNat 1 * 1)) = some (.string v33) ∧ (if (decide (v7 < (ByteArray.size v33 : Int))) = true then (∃ a39 : Addr, v10_0.a = some a39 ∧ 0 ≤ (1 : Int) ∧ 1 < (v10_0.l : Int) ∧ (∃ (v40 : ByteArray), H.rd h_4 (Addr.add a39 (Int.toNat 1 * 1)) = some (.string v40) ∧ (0 ≤ v7 ∧ v7 < (ByteArray.size v40 : Int) ∧ (if ((byteAt v40 v7) != 112) = true then (∃ a46 : Addr, v10_0.a = some a46 ∧ 0 ≤ (1 : Int) ∧ 1 < (v10_0.l : Int) ∧ (∃ (v47 : ByteArray), H.rd h_4 (Addr.add a46 (Int.toNat 1 * 1)) = some (.string v47) ∧ (0 ≤ v7 ∧ v7 < (ByteArray.size v47 : Int) ∧ S41_j2 K v10_0 v6_1 v7 X ((byteAt v47 v7) != 98) h_4))) else S41_j2 K v10_0 v6_1 v7 X false h_4)))) else S41_j1 K v6_1 h_4)))
def S41_j4 (K : Sl → Int → H → Prop) (v10_0 : Sl) (v25 : Bool) (h_2 : H) : Prop :=
  (if v25 = true then K Sl.nil 4 h_2 else (∃ a27 : Addr, v10_0.a = some a27 ∧ 0 ≤ (1 : Int) ∧ 1 < (v10_0.l : Int) ∧ (∃ (v28 : ByteArray), H.rd h_2 (Addr.add a27 (Int.toNat 1 * 1)) = some (.string v28) ∧ (if (ByteArray.toList v28 == ByteArray.toList ⟨#[45]⟩) = true then K Sl.nil 0 h_2 else lfp (fun X s h_4 => S41_l3 K v10_0 X s.1 s.2 h_4) (Sl.nil, 0) h_2))))
def S41 (p0 : ByteArray) (h : H) (K : Sl → Int → H → Prop) : Prop :=
  S91 p0 h (fun (v10_0 : Sl) (v10_1 : Bool) (h_1 : H) => (if (!v10_1) = true then S41_j4 K v10_0 true h_1 else (if ((v10_0.l : Int) != 2) = true then S41_j4 K v10_0 true h_1 else (∃ a22 : Addr, v10_0.a = some a22 ∧ 0 ≤ (0 : Int) ∧ 0 < (v10_0.l : Int) ∧ (∃ (v23 : ByteArray), H.rd h_1 (Addr.add a22 (Int.toNat 0 * 1)) = some (.string v23) ∧ S41_j4 K v10_0 (!(ByteArray.toList v23 == ByteArray.toList ⟨#[115, 104, 97, 112, 101]⟩)) h_1)))))
end Go.Proofs.YtimadnngfhbfiaaGreatDoor
end

section
/- PRINTED by wip/gen.py: what muntin/muntinref07.Number does, in the words of Mu. -/
namespace Go.Proofs.YtimadnngfhbfiaaGreatDoor
open Go Go.Mu
/- muntin/muntinref07.Number -/
def S92_j1 (p1 : Int) (K : Int → Bool → H → Prop) (v6 : Int) (h_2 : H) : Prop :=
  (if (decide (v6 > p1)) = true then K 0 false h_2 else K v6 true h_2)
def S92_j2 (p0 : ByteArray) (K : Int → Bool → H → Prop) (v6_1 : Int) (v7 : Int) (X : (Int × Int) → H → Prop) (v41 : Bool) (h_4 : H) : Prop :=
  (if v41 = true then K 0 false h_4 else (0 ≤ v7 ∧ v7 < (ByteArray.size p0 : Int) ∧ X ((IntKind.wrap .i64 ((IntKind.wrap .i64 ((IntKind.wrap .i64 (10 * v6_1)) + (IntKind.wrap .i64 (byteAt p0 v7)))) - 48)), (IntKind.wrap .i64 (v7 + 1))) h_4))
def S92_l3 (p0 : ByteArray) (p1 : Int) (K : Int → Bool → H → Prop) (X : (Int × Int) → H → Prop) (v6_1 : Int) (v7 : Int) (h_3 : H) : Prop :=
  (if (decide (v7 < (ByteArray.size p0 : Int))) = true then (0 ≤ v7 ∧ v7 < (ByteArray.size p0 : Int) ∧ (if (decide ((byteAt p0 v7) < 48)) = true then S92_j2 p0 K v6_1 v7 X true h_3 else (0 ≤ v7 ∧ v7 < (ByteArray.size p0 : Int) ∧ S92_j2 p0 K v6_1 v7 X (decide ((byteAt p0 v7) > 57)) h_3))) else S92_j1 p1 K v6_1 h_3)
def S92_j4 (p0 : ByteArray) (p1 : Int) (K : Int → Bool → H → Prop) (v25 : Bool) (h_1 : H) : Prop :=
  (if v25 = true then K 0 false h_1 else lfp (fun X s h_3 => S92_l3 p0 p1 K X s.1 s.2 h_3) (0, 0) h_1)
def S92 (p0 : ByteArray) (p1 : Int) (h : H) (K : Int → Bool → H → Prop) : Prop :=
  (if (decide ((ByteArray.size p0 : Int) < 1)) = true then S92_j4 p0 p1 K true h else (if (decide ((ByteArray.size p0 : Int) > 7)) = true then S92_j4 p0 p1 K true h else (if (decide ((ByteArray.size p0 : Int) > 1)) = true then (0 ≤ (0 : Int) ∧ 0 < (ByteArray.size p0 : Int) ∧ S92_j4 p0 p1 K ((byteAt p0 0) == 48) h) else S92_j4 p0 p1 K false h)))
end Go.Proofs.YtimadnngfhbfiaaGreatDoor
end

section
/- PRINTED by wip/gen.py: what muntin/muntinref01.Good does, in the words of Mu. -/
namespace Go.Proofs.YtimadnngfhbfiaaGreatDoor
open Go Go.Mu
/- muntin/muntinref01.Good -/
def S98_j1 (K : Bool → H → Prop) (v2 : Bool) (h_1 : H) : Prop :=
  K v2 h_1
def S98 (p0 : Int) (h : H) (K : Bool → H → Prop) : Prop :=
  S98_j1 K ((decide (p0 ≥ 0)) && (decide (p0 ≤ 3))) h
end Go.Proofs.YtimadnngfhbfiaaGreatDoor
end

section
/- PRINTED by wip/gen.py: what muntin/muntinref01.Letter does, in the words of Mu. -/
namespace Go.Proofs.YtimadnngfhbfiaaGreatDoor
open Go Go.Mu
/- muntin/muntinref01.Letter -/
def S51 (p0 : Int) (h : H) (K : ByteArray → H → Prop) : Prop :=
  S98 p0 h (fun (v5 : Bool) (h_1 : H) => (if (!v5) = true then K ⟨#[]⟩ h_1 else (∀ (b8 : Nat) (h_2 : H), h_1 b8 = none → h_2 = H.set h_1 b8 (.row ⟨[(.string ⟨#[69]⟩), (.string ⟨#[78]⟩), (.string ⟨#[87]⟩), (.string ⟨#[83]⟩)], 4, 9, true, true⟩) → (∃ a10 : Addr, some ⟨b8, 0, none⟩ = some a10 ∧ 0 ≤ p0 ∧ p0 < (4 : Int) ∧ (∃ (v11 : ByteArray), H.rd h_2 (Addr.add a10 (Int.toNat p0 * 1)) = some (.string v11) ∧ K v11 h_2)))))
end Go.Proofs.YtimadnngfhbfiaaGreatDoor
end

section
/- PRINTED by wip/gen.py: what muntin/muntinref08.direction does, in the words of Mu. -/
namespace Go.Proofs.YtimadnngfhbfiaaGreatDoor
open Go Go.Mu
/- muntin/muntinref08.direction -/
def S93_j1 (K : Int → H → Prop) (h_1 : H) : Prop :=
  K (-1) h_1
def S93_l2 (p0 : ByteArray) (K : Int → H → Prop) (X : Int → H → Prop) (v3 : Int) (h_2 : H) : Prop :=
  (if (decide (v3 < 4)) = true then S51 v3 h_2 (fun (v10 : ByteArray) (h_3 : H) => (if (ByteArray.toList v10 == ByteArray.toList p0) = true then K v3 h_3 else X (IntKind.wrap .i64 (v3 + 1)) h_3)) else S93_j1 K h_2)
def S93 (p0 : ByteArray) (h : H) (K : Int → H → Prop) : Prop :=
  lfp (fun X s h_2 => S93_l2 p0 K X s h_2) 0 h
end Go.Proofs.YtimadnngfhbfiaaGreatDoor
end

section
/- PRINTED by wip/gen.py: what muntin/muntinref08.turns does, in the words of Mu. -/
namespace Go.Proofs.YtimadnngfhbfiaaGreatDoor
open Go Go.Mu
/- muntin/muntinref08.turns -/
def S94_j1 (K : Bool → H → Prop) (h_1 : H) : Prop :=
  K true h_1
def S94_j2 (K : Bool → H → Prop) (v3 : Int) (X : Int → H → Prop) (v19 : Bool) (h_3 : H) : Prop :=
  (if v19 = true then K false h_3 else X (IntKind.wrap .i64 (v3 + 1)) h_3)
def S94_l3 (p0 : ByteArray) (K : Bool → H → Prop) (X : Int → H → Prop) (v3 : Int) (h_2 : H) : Prop :=
  (if (decide (v3 < (ByteArray.size p0 : Int))) = true then (0 ≤ v3 ∧ v3 < (ByteArray.size p0 : Int) ∧ (if ((byteAt p0 v3) != 76) = true then (0 ≤ v3 ∧ v3 < (ByteArray.size p0 : Int) ∧ S94_j2 K v3 X ((byteAt p0 v3) != 82) h_2) else S94_j2 K v3 X false h_2)) else S94_j1 K h_2)
def S94 (p0 : ByteArray) (h : H) (K : Bool → H → Prop) : Prop :=
  lfp (fun X s h_2 => S94_l3 p0 K X s h_2) 0 h
end Go.Proofs.YtimadnngfhbfiaaGreatDoor
end

section
/- PRINTED by wip/gen.py: what muntin/muntinref08.edge does, in the words of Mu. -/
namespace Go.Proofs.YtimadnngfhbfiaaGreatDoor
open Go Go.Mu
/- muntin/muntinref08.edge -/
def S42_j1 (K : Int → Int → Int → ByteArray → Int → H → Prop) (c9_0 : Int) (c9_1 : Int) (c9_2 : Int) (c9_3 : ByteArray) (c4_0 : Int) (c4_1 : Int) (c4_2 : Int) (c4_3 : ByteArray) (h_3 : H) : Prop :=
  K c9_0 c9_1 c9_2 c9_3 0 h_3
def S42_j2 (v10 : Int) (X : (Int × Int × Int × Int × ByteArray × Int × Int × Int × ByteArray) → H → Prop) (c9_0_2 : Int) (c9_1_2 : Int) (c9_2_2 : Int) (c9_3_2 : ByteArray) (c4_0_2 : Int) (c4_1_2 : Int) (c4_2_2 : Int) (c4_3_2 : ByteArray) (h_5 : H) : Prop :=
  X ((IntKind.wrap .i64 (v10 + 1)), c9_0_2, c9_1_2, c9_2_2, c9_3_2, c4_0_2, c4_1_2, c4_2_2, c4_3_2) h_5
def S42_j3 (K : Int → Int → Int → ByteArray → Int → H → Prop) (v17_0 : Sl) (v10 : Int) (X : (Int × Int × Int × Int × ByteArray × Int × Int × Int × ByteArray) → H → Prop) (c9_0_4 : Int) (c9_1_4 : Int) (c9_2_4 : Int) (c9_3_4 : ByteArray) (c4_0_4 : Int) (c4_1_4 : Int) (c4_2_4 : Int) (c4_3_4 : ByteArray) (h_7 : H) : Prop :=
  (if (v10 == 3) = true then (∃ a81 : Addr, v17_0.a = some a81 ∧ 0 ≤ (3 : Int) ∧ 3 < (v17_0.l : Int) ∧ (∃ (v82 : ByteArray), H.rd h_7 (Addr.add a81 (Int.toNat 3 * 1)) = some (.string v82) ∧ S94 v82 h_7 (fun (v83 : Bool) (h_8 : H) => (if (!v83) = true then K 0 0 0 ⟨#[]⟩ 4 h_8 else (∃ a88 : Addr, v17_0.a = some a88 ∧ 0 ≤ (3 : Int) ∧ 3 < (v17_0.l : Int) ∧ (∃ (v89 : ByteArray), H.rd h_8 (Addr.add a88 (Int.toNat 3 * 1)) = some (.string v89) ∧ S42_j2 v10 X c9_0_4 c9_1_4 c9_2_4 v89 c4_0_4 c4_1_4 c4_2_4 c4_3_4 h_8)))))) else S42_j2 v10 X c9_0_4 c9_1_4 c9_2_4 c9_3_4 c4_0_4 c4_1_4 c4_2_4 c4_3_4 h_7)
def S42_j4 (K : Int → Int → Int → ByteArray → Int → H → Prop) (v17_0 : Sl) (v10 : Int) (X : (Int × Int × Int × Int × ByteArray × Int × Int × Int × ByteArray) → H → Prop) (c9_0_3 : Int) (c9_1_3 : Int) (c9_2_3 : Int) (c9_3_3 : ByteArray) (c4_0_3 : Int) (c4_1_3 : Int) (c4_2_3 : Int) (c4_3_3 : ByteArray) (h_6 : H) : Prop :=
  (if (v10 == 1) = true then (∃ a70 : Addr, v17_0.a = some a70 ∧ 0 ≤ (1 : Int) ∧ 1 < (v17_0.l : Int) ∧ (∃ (v71 : ByteArray), H.rd h_6 (Addr.add a70 (Int.toNat 1 * 1)) = some (.string v71) ∧ S93 v71 h_6 (fun (v72 : Int) (h_9 : H) => (if (decide (v72 < 0)) = true then K 0 0 0 ⟨#[]⟩ 4 h_9 else S42_j3 K v17_0 v10 X c9_0_3 c9_1_3 v72 c9_3_3 c4_0_3 c4_1_3 c4_2_3 c4_3_3 h_9)))) else S42_j3 K v17_0 v10 X c9_0_3 c9_1_3 c9_2_3 c9_3_3 c4_0_3 c4_1_3 c4_2_3 c4_3_3 h_6)
def S42_j5 (p1 : Int) (K : Int → Int → Int → ByteArray → Int → H → Prop) (v17_0 : Sl) (v10 : Int) (c9_0_1 : Int) (c9_1_1 : Int) (c9_2_1 : Int) (c9_3_1 : ByteArray) (c4_0_1 : Int) (c4_1_1 : Int) (c4_2_1 : Int) (c4_3_1 : ByteArray) (X : (Int × Int × Int × Int × ByteArray × Int × Int × Int × ByteArray) → H → Prop) (v45 : Bool) (h_10 : H) : Prop :=
  (if v45 = true then (∃ a49 : Addr, v17_0.a = some a49 ∧ 0 ≤ v10 ∧ v10 < (v17_0.l : Int) ∧ (∃ (v50 : ByteArray), H.rd h_10 (Addr.add a49 (Int.toNat v10 * 1)) = some (.string v50) ∧ S92 v50 9999999 h_10 (fun (v51_0 : Int) (v51_1 : Bool) (h_11 : H) => (if (!v51_1) = true then K 0 0 0 ⟨#[]⟩ 5 h_11 else (if (decide (v51_0 ≥ p1)) = true then K 0 0 0 ⟨#[]⟩ 3 h_11 else (if (v10 == 0) = true then S42_j4 K v17_0 v10 X v51_0 c9_1_1 c9_2_1 c9_3_1 c4_0_1 c4_1_1 c4_2_1 c4_3_1 h_11 else S42_j4 K v17_0 v10 X c9_0_1 v51_0 c9_2_1 c9_3_1 c4_0_1 c4_1_1 c4_2_1 c4_3_1 h_11)))))) else S42_j4 K v17_0 v10 X c9_0_1 c9_1_1 c9_2_1 c9_3_1 c4_0_1 c4_1_1 c4_2_1 c4_3_1 h_10)
def S42_l6 (p1 : Int) (K : Int → Int → Int → ByteArray → Int → H → Prop) (v17_0 : Sl) (X : (Int × Int × Int × Int × ByteArray × Int × Int × Int × ByteArray) → H → Prop) (v10 : Int) (c9_0_1 : Int) (c9_1_1 : Int) (c9_2_1 : Int) (c9_3_1 : ByteArray) (c4_0_1 : Int) (c4_1_1 : Int) (c4_2_1 : Int) (c4_3_1 : ByteArray) (h_4 : H) : Prop :=
  (if (decide (v10 < (v17_0.l : Int))) = true then S42_j5 p1 K v17_0 v10 c9_0_1 c9_1_1 c9_2_1 c9_3_1 c4_0_1 c4_1_1 c4_2_1 c4_3_1 X ((v10 == 0) || (v10 == 2)) h_4 else S42_j1 K c9_0_1 c9_1_1 c9_2_1 c9_3_1 c4_0_1 c4_1_1 c4_2_1 c4_3_1 h_4)
def S42_j7 (p1 : Int) (K : Int → Int → Int → ByteArray → Int → H → Prop) (v17_0 : Sl) (v31 : Bool) (h_2 : H) : Prop :=
  (if v31 = true then K 0 0 0 ⟨#[]⟩ 4 h_2 else lfp (fun X s h_4 => S42_l6 p1 K v17_0 X s.1 s.2.1 s.2.2.1 s.2.2.2.1 s.2.2.2.2.1 s.2.2.2.2.2.1 s.2.2.2.2.2.2.1 s.2.2.2.2.2.2.2.1 s.2.2.2.2.2.2.2.2 h_4) (0, 0, 0, 0, ⟨#[]⟩, 0, 0, 0, ⟨#[]⟩) h_2)
def S42 (p0 : ByteArray) (p1 : Int) (h : H) (K : Int → Int → Int → ByteArray → Int → H → Prop) : Prop :=
  S91 p0 h (fun (v17_0 : Sl) (v17_1 : Bool) (h_1 : H) => S42_j7 p1 K v17_0 (((!v17_1) || (decide ((v17_0.l : Int) < 3))) || (decide ((v17_0.l : Int) > 4))) h_1)
end Go.Proofs.YtimadnngfhbfiaaGreatDoor
end

section
/- PRINTED by wip/gen.py: what muntin/muntinref08.Parse does, in the words of Mu. -/
namespace Go.Proofs.YtimadnngfhbfiaaGreatDoor
open Go Go.Mu
/- muntin/muntinref08.Parse -/
def S13_j1 (K : Sl → Sl → Int → Int → H → Prop) (v15_0 : Sl) (c2_0 : Sl) (c2_1 : Sl) (h_3 : H) : Prop :=
  K Sl.nil Sl.nil (IntKind.wrap .i64 ((v15_0.l : Int) + 1)) 4 h_3
def S13_j2 (K : Sl → Sl → Int → Int → H → Prop) (v9 : Int) (v10 : Int) (c8_0 : Sl) (c2_0_1 : Sl) (c2_1_1 : Sl) (X : (Int × Int × Sl × Sl × Sl × Sl) → H → Prop) (v67_0_3 : ByteArray) (v85 : Sl) (v94 : Bool) (h_7 : H) : Prop :=
  (if v94 = true then K Sl.nil Sl.nil (IntKind.wrap .i64 (v10 + 1)) 6 h_7 else X ((IntKind.wrap .i64 (v9 + (ByteArray.size v67_0_3 : Int))), (IntKind.wrap .i64 (v10 + 1)), c8_0, v85, c2_0_1, c2_1_1) h_7)
def S13_l3 (K : Sl → Sl → Int → Int → H → Prop) (v15_0 : Sl) (X : (Int × Int × Sl × Sl × Sl × Sl) → H → Prop) (v9 : Int) (v10 : Int) (c8_0 : Sl) (c8_1 : Sl) (c2_0_1 : Sl) (c2_1_1 : Sl) (h_4 : H) : Prop :=
  (if (decide (v10 < (v15_0.l : Int))) = true then (∃ a47 : Addr, v15_0.a = some a47 ∧ 0 ≤ v10 ∧ v10 < (v15_0.l : Int) ∧ (∃ (v48 : ByteArray), H.rd h_4 (Addr.add a47 (Int.toNat v10 * 1)) = some (.string v48) ∧ (if (ByteArray.toList v48 == ByteArray.toList ⟨#[101, 110, 100]⟩) = true then (if (decide ((IntKind.wrap .i64 (v10 + 1)) < (v15_0.l : Int))) = true then K Sl.nil Sl.nil (IntKind.wrap .i64 (v10 + 2)) 4 h_4 else K c8_0 c8_1 0 0 h_4) else (∃ a62 : Addr, v15_0.a = some a62 ∧ 0 ≤ v10 ∧ v10 < (v15_0.l : Int) ∧ (∃ (v63 : ByteArray), H.rd h_4 (Addr.add a62 (Int.toNat v10 * 1)) = some (.string v63) ∧ S42 v63 (c8_0.l : Int) h_4 (fun (v67_0_0 : Int) (v67_0_1 : Int) (v67_0_2 : Int) (v67_0_3 : ByteArray) (v67_1 : Int) (h_5 : H) => (if (v67_1 != 0) = true then K Sl.nil Sl.nil (IntKind.wrap .i64 (v10 + 1)) v67_1 h_5 else app 61 4 40 c8_1 1 [(.int .i64 v67_0_0), (.int .i64 v67_0_1), (.int .i64 v67_0_2), (.string v67_0_3)] h_5 (fun (v85 : Sl) (h_6 : H) => S13_j2 K v9 v10 c8_0 c2_0_1 c2_1_1 X v67_0_3 v85 ((decide ((v85.l : Int) > 4096)) || (decide ((IntKind.wrap .i64 (v9 + (ByteArray.size v67_0_3 : Int))) > 4096))) h_6)))))))) else S13_j1 K v15_0 c2_0_1 c2_1_1 h_4)
def S13 (p0 : ByteArray) (h : H) (K : Sl → Sl → Int → Int → H → Prop) : Prop :=
  S40 p0 h (fun (v15_0 : Sl) (v15_1 : Int) (h_1 : H) => (if (v15_1 != 0) = true then K Sl.nil Sl.nil 0 v15_1 h_1 else (if ((v15_0.l : Int) == 0) = true then K Sl.nil Sl.nil 1 4 h_1 else (∃ a29 : Addr, v15_0.a = some a29 ∧ 0 ≤ (0 : Int) ∧ 0 < (v15_0.l : Int) ∧ (∃ (v30 : ByteArray), H.rd h_1 (Addr.add a29 (Int.toNat 0 * 1)) = some (.string v30) ∧ S41 v30 h_1 (fun (v31_0 : Sl) (v31_1 : Int) (h_2 : H) => (if (v31_1 != 0) = true then K Sl.nil Sl.nil 1 v31_1 h_2 else lfp (fun X s h_4 => S13_l3 K v15_0 X s.1 s.2.1 s.2.2.1 s.2.2.2.1 s.2.2.2.2.1 s.2.2.2.2.2 h_4) (0, 1, v31_0, Sl.nil, Sl.nil, Sl.nil) h_2)))))))
end Go.Proofs.YtimadnngfhbfiaaGreatDoor
end

section
/-
  The reference's parser: lines, words, numbers, its first line, its edges, a whole text.
-/
namespace Go.Text
open Go Go.Mu Go.Shape
abbrev encS (b : Bs) : List Value := [.string (B b)]
theorem beqB (a b : Bs) : (ByteArray.toList (B a) == ByteArray.toList (B b)) = decide (a = b) := by
  rw [Go.Lib.toList_data, Go.Lib.toList_data]
  simp only [Bool.beq_eq_decide_eq, List.toList_toArray]
section
variable {h h0 h1 : H}
theorem rdS {s : Sl} {l : List Bs} (r : Rd h s 1 encS l) {i : Nat} {x : Bs} (hx : l[i]? = some x) {P : ByteArray → Prop} (hp : P (B x)) :
    ∃ a : Addr, s.a = some a ∧ 0 ≤ (i : Int) ∧ (i : Int) < (s.l : Int) ∧ ∃ v : ByteArray, h.rd (a.add (Int.toNat (i : Int) * 1)) = some (.string v) ∧ P v := by
  obtain ⟨a, ha, hrd⟩ := r.ix hx
  have hl := (List.getElem?_eq_some_iff.1 hx).1
  have := r.len
  exact ⟨a, ha, by omega, by omega, B x, hrd.at0, hp⟩
theorem appB {s : Sl} {e size bytes : Nat} {α : Type} {enc : α → List Value} {l : List α} (y : α) (st : St h0 h (fun _ : Unit => .arr s e size (l.flatMap enc))) (hsz : ∀ x, (enc x).length = size) (hp : 0 < size) (hl : l.length < 4000000) (hb : bytes ≤ 1000) {K : Sl → H → Prop}
    (k : ∀ s' h', St h0 h' (fun _ : Unit => .arr s' e size ((l ++ [y]).flatMap enc)) → K s' h') : app e size bytes s 1 (enc y) h K := by
  have hlen := (st.arr () rfl (fun x _ => hsz x) hp).1
  refine ⟨_, _, st.own () rfl, by simp only [maxLen]; omega, ?_, fun s' h' ap => ?_⟩
  · have : (s.l + 1) * bytes ≤ 4000001 * 1000 := Nat.mul_le_mul (by omega) hb
    omega
  · obtain ⟨st1, _⟩ := st.app () rfl rfl (by rw [hsz, Nat.one_mul]) ap (fun _ => .arr s' e size ((l ++ [y]).flatMap enc)) (by rw [List.flatMap_append]; simp) (fun i hi => (hi rfl).elim)
    exact k _ _ st1
theorem St.rd1 {s : Sl} {e size : Nat} {α : Type} {enc : α → List Value} {l : List α} (st : St h0 h (fun _ : Unit => .arr s e size (l.flatMap enc))) (hsz : ∀ x, (enc x).length = size) (hp : 0 < size) : Rd h s size enc l := st.arr () rfl (fun x _ => hsz x) hp
theorem Rd.nil {size : Nat} {α : Type} {enc : α → List Value} : Rd h Sl.nil size enc ([] : List α) := ⟨rfl, fun _ hx => (by cases hx), fun hp => absurd hp (Nat.lt_irrefl 0)⟩
end
theorem byteAt_z {l : Bs} {x : UInt8} (e : l[0]? = some x) : byteAt (B l) 0 = x.toNat := byteAt_B (i := 0) e
theorem u8_ne {x y : UInt8} : (((x.toNat : Int) == (y.toNat : Int)) = decide (x = y)) := by
  by_cases h : x = y
  · subst h; simp
  · rw [decide_eq_false h]
    exact beq_eq_false_iff_ne.2 fun q => h (UInt8.toNat_inj.1 (by omega))
theorem piece (s : Bs) (f i : Nat) : ByteArray.extract (B s) (Int.toNat (f : Int)) (Int.toNat (i : Int)) = B ((s.drop f).take (i - f)) := by
  rw [Int.toNat_natCast, Int.toNat_natCast, B_ext, List.drop_take]
end Go.Text
namespace Go.Proofs.YtimadnngfhbfiaaGreatDoor
open Go Go.Mu Go.Shape Go.Text
variable {h h0 : H}
set_option maxHeartbeats 1000000

theorem c91 {s : Bs} (hs : s.length ≤ 1048576) {K : Sl → Bool → H → Prop} (k0 : wordsP s = none → ∀ h', h.Le h' → K Sl.nil false h') (k1 : ∀ w, wordsP s = some w → ∀ sl h', h.Le h' → Rd h' sl 1 encS w → K sl true h') : S91 (B s) h K := by
  unfold S91
  refine lfp.count (s.length + 1) (fun i (u : Sl × Int × Int) h' => ∃ (d : List Bs) (f : Nat), u.2.1 = (f : Int) ∧ u.2.2 = (i : Int) ∧ St h h' (fun _ : Unit => .arr u.1 9 1 (d.flatMap encS)) ∧ [] ∉ d ∧ (Pc 32 s d f i ∨ (i = s.length + 1 ∧ splitC 32 s = d))) (fun X i u h' hi ⟨d, f, q1, q2, st, hd, hp⟩ next => ?_)
    ⟨[], 0, rfl, rfl, St.nil1 h, by simp, .inl (Pc.init 32 s)⟩
  obtain ⟨u0, u1, u2⟩ := u
  simp only at q1 q2 st
  subst q1 q2
  simp only
  unfold S91_l4
  simp only [B_size, decide_eq_true_eq]
  by_cases hle : i ≤ s.length
  · have p : Pc 32 s d f i := hp.resolve_right fun q => by omega
    have hfl := p.le
    have room := p.room
    rw [if_pos (by omega)]
    have step : ∀ (piece : Bs) (q : splitC 32 (s.drop f) = piece :: (splitC 32 (s.drop f)).tail) (hpc : piece = (s.drop f).take (i - f)) (hn : i = f → piece = []) (fin : ∀ d', d' = d ++ [piece] → Pc 32 s d' (i + 1) (i + 1) ∨ (i + 1 = s.length + 1 ∧ splitC 32 s = d')), S91_j3 (B s) K u0 f i X false h' := by
      intro pc q hpc hn fin
      unfold S91_j3 S91_j2
      rw [if_neg (by decide)]
      by_cases hif : i = f
      · rw [if_pos (by simp; omega)]
        refine k0 ?_ _ st.le
        unfold wordsP
        rw [if_pos]
        rw [p.eq, q, hn hif]
        simp
      · rw [if_neg (by simp; omega), piece, ← hpc, B_size]
        refine ⟨by omega, by omega, by omega, ?_⟩
        refine appB pc st (fun _ => rfl) (by decide) (by omega) (by decide) fun s' h2 st2 => ?_
        rw [wsucc (by omega)]
        refine next (by omega) _ _ ⟨d ++ [pc], i + 1, rfl, rfl, st2, ?_, fin _ rfl⟩
        simp only [List.mem_append, List.mem_singleton, not_or]
        refine ⟨hd, fun q => ?_⟩
        have := congrArg List.length q
        rw [hpc, List.length_take, List.length_drop] at this
        simp at this
        omega
    by_cases hlt : i < s.length
    · rw [if_pos (by omega)]
      obtain ⟨x, hx⟩ : ∃ x, s[i]? = some x := ⟨_, List.getElem?_eq_getElem hlt⟩
      refine ⟨by omega, by omega, ?_⟩
      rw [byteAt_B hx, bne, show (32 : Int) = ((32 : UInt8).toNat : Int) from rfl, u8_ne]
      by_cases hc : x = 32
      · subst hc
        rw [decide_eq_true rfl]
        refine step _ (by rw [p.split hx]; rfl) rfl (fun e => by rw [e, Nat.sub_self]; rfl) fun d' e => .inl (e ▸ p.hit hx)
      · rw [decide_eq_false hc]
        unfold S91_j3 S91_j2
        rw [if_pos (by decide), wsucc (by omega)]
        exact next (by omega) _ _ ⟨d, f, rfl, rfl, st, hd, .inl (p.go hx hc)⟩
    · rw [if_neg (by omega)]
      have hil : i = s.length := by omega
      subst hil
      have e1 : splitC 32 (s.drop f) = [s.drop f] := by
        refine splitC_miss fun hm => p.no ?_
        rwa [List.take_of_length_le (by rw [List.length_drop]; omega)]
      refine step (s.drop f) (by rw [e1]; rfl) (by rw [List.take_of_length_le (by rw [List.length_drop]; omega)]) (fun e => by rw [← e]; simp) fun d' e => .inr ⟨rfl, by rw [e]; exact p.fin⟩
  · have q := hp.resolve_left fun p => hle p.top
    rw [if_neg (by omega)]
    unfold S91_j1
    refine k1 d ?_ _ _ st.le (St.rd1 st (fun _ => rfl) (by decide))
    unfold wordsP
    rw [q.2, if_neg hd]
theorem c40 {s : Bs} (hs : s.length ≤ 1048576) {K : Sl → Int → H → Prop} (k0 : linesP s = none → ∀ h', h.Le h' → K Sl.nil 4 h') (k1 : ∀ w, linesP s = some w → ∀ sl h', h.Le h' → Rd h' sl 1 encS w → K sl 0 h') : S40 (B s) h K := by
  unfold S40
  rw [B_size, if_neg (by simp; omega)]
  refine lfp.count s.length (fun i (u : Sl × Int × Int) h' => ∃ (d : List Bs) (f : Nat), u.2.1 = (f : Int) ∧ u.2.2 = (i : Int) ∧ St h h' (fun _ : Unit => .arr u.1 9 1 (d.flatMap encS)) ∧ Pc 10 s d f i) (fun X i u h' hi ⟨d, f, q1, q2, st, p⟩ next => ?_)
    ⟨[], 0, rfl, rfl, St.nil1 h, Pc.init 10 s⟩
  obtain ⟨u0, u1, u2⟩ := u
  simp only at q1 q2 st
  subst q1 q2
  simp only
  unfold S40_l3
  simp only [B_size, decide_eq_true_eq]
  have hfl := p.le
  have room := p.room
  by_cases hlt : i < s.length
  · rw [if_pos (by omega)]
    obtain ⟨x, hx⟩ : ∃ x, s[i]? = some x := ⟨_, List.getElem?_eq_getElem hlt⟩
    refine ⟨by omega, by omega, ?_⟩
    rw [byteAt_B hx, show (10 : Int) = ((10 : UInt8).toNat : Int) from rfl, u8_ne]
    unfold S40_j2
    by_cases hc : x = 10
    · subst hc
      rw [if_pos (by simp), piece]
      refine ⟨by omega, by omega, by omega, ?_⟩
      refine appB ((s.drop f).take (i - f)) st (fun _ => rfl) (by decide) (by omega) (by decide) fun s' h2 st2 => ?_
      rw [wsucc (by omega)]
      exact next hlt _ _ ⟨_, i + 1, rfl, rfl, st2, p.hit hx⟩
    · rw [if_neg (by simpa using hc), wsucc (by omega)]
      exact next hlt _ _ ⟨d, f, rfl, rfl, st, p.go hx hc⟩
  · rw [if_neg (by omega)]
    have hil : i = s.length := by omega
    subst hil
    unfold S40_j1
    rw [B_size]
    have e := p.fin
    by_cases hf : f < s.length
    · rw [if_pos (by simp; omega)]
      refine k0 ?_ _ st.le
      unfold linesP
      rw [e, if_neg]
      intro q
      have := congrArg (fun o : Option Bs => o.map List.length) q
      simp at this
      omega
    · rw [if_neg (by simp; omega)]
      refine k1 d ?_ _ _ st.le (St.rd1 st (fun _ => rfl) (by decide))
      have : s.drop f = [] := List.drop_eq_nil_of_le (by omega)
      unfold linesP
      rw [e, this]
      simp
theorem c94 {w : Bs} (hw : w.length ≤ 1048576) {K : Bool → H → Prop} (k : K (w.all isLR) h) : S94 (B w) h K := by
  unfold S94
  refine lfp.count w.length (fun i (u : Int) h' => u = (i : Int) ∧ h' = h ∧ (w.take i).all isLR = true) (fun X i u h' hi ⟨q1, q2, q3⟩ next => ?_) ⟨rfl, rfl, by simp⟩
  subst q1 q2
  unfold S94_l3 S94_j1 S94_j2
  simp only [B_size, decide_eq_true_eq]
  by_cases hlt : i < w.length
  · rw [if_pos (by omega)]
    obtain ⟨x, hx⟩ : ∃ x, w[i]? = some x := ⟨_, List.getElem?_eq_getElem hlt⟩
    have hmem : x ∈ w := List.mem_of_getElem? hx
    have bad : isLR x = false → w.all isLR = false := fun q => List.all_eq_false.2 ⟨x, hmem, by simp [q]⟩
    have good : isLR x = true → (w.take (i + 1)).all isLR = true := fun q => by rw [List.take_add_one, hx, List.all_append, q3]; simp [q]
    refine ⟨by omega, by omega, ?_⟩
    rw [byteAt_B hx, bne, show (76 : Int) = ((76 : UInt8).toNat : Int) from rfl, u8_ne, bne, show (82 : Int) = ((82 : UInt8).toNat : Int) from rfl, u8_ne, wsucc (by omega)]
    by_cases h1 : x = 76
    · subst h1
      rw [if_neg (by decide), if_neg (by decide)]
      exact next hlt _ _ ⟨rfl, rfl, good rfl⟩
    · rw [if_pos (by simpa using h1)]
      refine ⟨by omega, by omega, ?_⟩
      by_cases h2 : x = 82
      · subst h2
        rw [if_neg (by decide)]
        exact next hlt _ _ ⟨rfl, rfl, good rfl⟩
      · rw [if_pos (by simpa using h2)]
        rw [bad (by simp [isLR, h1, h2])] at k
        exact k
  · rw [if_neg (by omega)]
    rw [List.take_of_length_le (by omega)] at q3
    rw [q3] at k
    exact k
theorem numP_take {w : Bs} {i : Nat} {x : UInt8} (hx : w[i]? = some x) : numP (w.take (i + 1)) = 10 * numP (w.take i) + (x.toNat - 48) := by
  rw [List.take_add_one, hx]; exact numP_snoc _ _
theorem c92 {w : Bs} (hw : w.length ≤ 1048576) {K : Int → Bool → H → Prop} (k0 : numberP w = none → K 0 false h) (k1 : ∀ v : Nat, numberP w = some v → K v true h) : S92 (B w) 9999999 h K := by
  unfold S92
  simp only [B_size, decide_eq_true_eq]
  have none_ : (w.length < 1 ∨ 7 < w.length ∨ (1 < w.length ∧ w[0]? = some 48) ∨ w.all digit = false) → numberP w = none := fun q => by unfold numberP; rw [if_pos q]
  by_cases h1 : w.length < 1
  · rw [if_pos (by omega)]
    unfold S92_j4; rw [if_pos rfl]
    exact k0 (none_ (.inl h1))
  · rw [if_neg (by omega)]
    by_cases h2 : 7 < w.length
    · rw [if_pos (by omega)]
      unfold S92_j4; rw [if_pos rfl]
      exact k0 (none_ (.inr (.inl h2)))
    · rw [if_neg (by omega)]
      have main : ¬ (1 < w.length ∧ w[0]? = some 48) → S92_j4 (B w) 9999999 K false h := by
        intro h3
        unfold S92_j4
        rw [if_neg (by decide)]
        refine lfp.count w.length (fun i (u : Int × Int) h' => u.1 = (numP (w.take i) : Int) ∧ u.2 = (i : Int) ∧ h' = h ∧ (w.take i).all digit = true) (fun X i u h' hi ⟨q1, q2, q3, q4⟩ next => ?_) ⟨rfl, rfl, rfl, by simp⟩
        obtain ⟨u1, u2⟩ := u
        simp only at q1 q2; subst q1 q2 q3
        simp only
        unfold S92_l3 S92_j2
        simp only [B_size, decide_eq_true_eq]
        by_cases hlt : i < w.length
        · rw [if_pos (by omega)]
          obtain ⟨x, hx⟩ : ∃ x, w[i]? = some x := ⟨_, List.getElem?_eq_getElem hlt⟩
          have hmem : x ∈ w := List.mem_of_getElem? hx
          have bad : digit x = false → numberP w = none := fun q => none_ (.inr (.inr (.inr (List.all_eq_false.2 ⟨x, hmem, by simp [q]⟩))))
          have hb := numP_lt q4 (by rw [List.length_take]; omega)
          rw [byteAt_B hx]
          refine ⟨by omega, by omega, ?_⟩
          by_cases h4 : x.toNat < 48
          · rw [if_pos (by omega), if_pos trivial]
            exact k0 (bad (by unfold digit; rw [decide_eq_false (by omega)]; rfl))
          · rw [if_neg (by omega)]
            refine ⟨by omega, by omega, ?_⟩
            by_cases h5 : 57 < x.toNat
            · rw [if_pos (by omega)]
              exact k0 (bad (by unfold digit; rw [decide_eq_false (p := x.toNat ≤ 57) (by omega), Bool.and_false]))
            · rw [if_neg (by omega)]
              refine ⟨by omega, by omega, ?_⟩
              rw [wsucc (by omega), wrapN (x := (x.toNat : Int)) rfl (by omega), wrapN (x := 10 * (numP (w.take i) : Int)) (n := 10 * numP (w.take i)) (by omega) (by omega), wrapN (x := ((10 * numP (w.take i) : Nat) : Int) + (x.toNat : Int)) (n := 10 * numP (w.take i) + x.toNat) (by omega) (by omega), wrapN (x := ((10 * numP (w.take i) + x.toNat : Nat) : Int) - 48) (n := 10 * numP (w.take i) + (x.toNat - 48)) (by omega) (by omega), ← numP_take hx]
              refine next hlt _ _ ⟨rfl, rfl, rfl, ?_⟩
              rw [List.take_add_one, hx, List.all_append, q4]
              simp [digit, h4, h5]
              omega
        · rw [if_neg (by omega)]
          rw [List.take_of_length_le (by omega)] at q4 ⊢
          have hb := numP_lt q4 (by omega)
          unfold S92_j1
          rw [if_neg (by simp; omega)]
          refine k1 _ ?_
          unfold numberP
          rw [if_neg]
          simp only [not_or, Bool.not_eq_false]
          exact ⟨h1, h2, h3, q4⟩
      by_cases h3 : 1 < w.length
      · rw [if_pos (by omega)]
        refine ⟨by omega, by omega, ?_⟩
        obtain ⟨x, hx⟩ : ∃ x, w[0]? = some x := ⟨_, List.getElem?_eq_getElem (by omega)⟩
        rw [byteAt_z hx, show (48 : Int) = ((48 : UInt8).toNat : Int) from rfl, u8_ne]
        by_cases h4 : x = 48
        · subst h4
          unfold S92_j4; rw [if_pos (by simp)]
          exact k0 (none_ (.inr (.inr (.inl ⟨h3, hx⟩))))
        · rw [decide_eq_false h4]
          exact main fun q => h4 (by rw [hx] at q; exact Option.some.inj q.2)
      · rw [if_neg (by omega)]
        exact main fun q => h3 q.1
end Go.Proofs.YtimadnngfhbfiaaGreatDoor
end

section
/-
  The reference's parser: the first line, an edge, a whole text.
-/
namespace Go.Proofs.YtimadnngfhbfiaaGreatDoor
open Go Go.Mu Go.Shape Go.Text
variable {h h0 : H}
set_option maxHeartbeats 1000000

theorem cases4 {d : Nat} (hd : d < 4) : d = 0 ∨ d = 1 ∨ d = 2 ∨ d = 3 := by omega
theorem c51 {d : Nat} (hd : d < 4) {K : ByteArray → H → Prop} (k : ∀ h', h.Le h' → K (B [dl d]) h') : S51 d h K := by
  unfold S51 S98 S98_j1
  have h1 : decide ((d : Int) ≥ 0) = true := decide_eq_true (by omega)
  have h2 : decide ((d : Int) ≤ 3) = true := decide_eq_true (by omega)
  rw [h1, h2]
  simp only [Bool.and_self, Bool.not_true, Bool.false_eq_true, if_false]
  intro b h3 hn e
  refine ⟨_, rfl, by omega, by omega, B [dl d], ?_, k _ (e ▸ H.Le.put _ hn)⟩
  subst e
  rcases cases4 hd with rfl | rfl | rfl | rfl <;> simp [H.rd, Addr.add, H.set_eq, dl]
theorem c93 {w : Bs} {K : Int → H → Prop} (k0 : dirP w = none → ∀ h', h.Le h' → K (-1) h') (k1 : ∀ d, dirP w = some d → ∀ h', h.Le h' → K (d : Int) h') : S93 (B w) h K := by
  unfold S93
  refine lfp.count 4 (fun i (u : Int) h' => u = (i : Int) ∧ h.Le h' ∧ ∀ j, j < i → w ≠ [dl j]) (fun X i u h' hi ⟨q1, q2, q3⟩ next => ?_) ⟨rfl, H.Le.refl h, fun j hj => absurd hj (Nat.not_lt_zero j)⟩
  subst q1
  unfold S93_l2 S93_j1
  by_cases hlt : i < 4
  · rw [if_pos (by simp; omega)]
    refine c51 hlt fun h2 le2 => ?_
    rw [beqB, wsucc (by omega)]
    by_cases hw : [dl i] = w
    · rw [if_pos (by simpa using hw)]
      refine k1 i ?_ _ (q2.trans le2)
      subst hw
      rcases cases4 hlt with rfl | rfl | rfl | rfl <;> rfl
    · rw [if_neg (by simpa using hw)]
      refine next hlt _ _ ⟨rfl, q2.trans le2, fun j hj => ?_⟩
      by_cases hji : j = i
      · subst hji; exact fun e => hw e.symm
      · exact q3 j (by omega)
  · rw [if_neg (by simp; omega)]
    have e4 : i = 4 := by omega
    subst e4
    refine k0 ?_ _ q2
    have a0 : w ≠ [69] := q3 0 (by decide)
    have a1 : w ≠ [78] := q3 1 (by decide)
    have a2 : w ≠ [87] := q3 2 (by decide)
    have a3 : w ≠ [83] := q3 3 (by decide)
    unfold dirP
    rw [if_neg a0, if_neg a1, if_neg a2, if_neg a3]
theorem two_of {w : List Bs} (h : w.length = 2) : w = [w.getD 0 [], w.getD 1 []] := by
  match w, h with
  | [a, b], _ => rfl
theorem c41 {s : Bs} (hs : s.length ≤ 1048576) {K : Sl → Int → H → Prop} (k0 : ∀ e : Nat, headP s = .error e → ∀ h', h.Le h' → K Sl.nil e h') (k1 : ∀ bx, headP s = .ok bx → ∀ sl h', h.Le h' → Rd h' sl 1 encB bx → K sl 0 h') : S41 (B s) h K := by
  unfold S41
  refine c91 hs (fun hw h1 le1 => ?_) fun w hw sl h1 le1 rd => ?_
  · rw [if_pos (by decide)]
    unfold S41_j4
    rw [if_pos rfl]
    exact k0 4 (by unfold headP; rw [hw]) _ le1
  · rw [if_neg (by decide)]
    have hl := rd.len
    have err4 : w.length ≠ 2 ∨ w[0]? ≠ some shapeB → S41_j4 K sl true h1 := fun q => by
      unfold S41_j4
      rw [if_pos rfl]
      exact k0 4 (by unfold headP; rw [hw]; simp only; rw [if_pos q]) _ le1
    by_cases h2 : w.length = 2
    · rw [if_neg (by simp; omega)]
      have ew := two_of h2
      generalize w.getD 0 [] = x0, w.getD 1 [] = x1 at ew
      subst ew
      refine rdS rd (i := 0) rfl ?_
      have m1 : x1.length ≤ s.length := by
        unfold wordsP at hw
        split at hw
        · cases hw
        · have e := Option.some.inj hw
          exact (splitC_mem (c := 32) (s := s) (x := x1) (by rw [e]; simp)).2.1
      rw [show (⟨#[115, 104, 97, 112, 101]⟩ : ByteArray) = B shapeB from rfl, beqB]
      by_cases h3 : x0 = shapeB
      · subst h3
        rw [decide_eq_true rfl]
        unfold S41_j4
        rw [if_neg (by decide)]
        refine rdS rd (i := 1) rfl ?_
        rw [show (⟨#[45]⟩ : ByteArray) = B [45] from rfl, beqB]
        have eh : headP s = if x1 = [45] then .ok [] else if x1.all isPB = false then .error 4 else if 4096 < x1.length then .error 6 else .ok (x1.map (· == 98)) := by
          unfold headP; rw [hw]; simp
        by_cases h4 : x1 = [45]
        · rw [if_pos (by simpa using h4)]
          rw [if_pos h4] at eh
          exact k1 [] eh _ _ le1 Rd.nil
        · rw [if_neg (by simpa using h4)]
          rw [if_neg h4] at eh
          refine lfp.count x1.length (fun i (u : Sl × Int) h' => u.2 = (i : Int) ∧ St h1 h' (fun _ : Unit => .arr u.1 4 1 (((x1.take i).map (· == 98)).flatMap encB)) ∧ (x1.take i).all isPB = true) (fun X i u h' hi ⟨q2, st, q4⟩ next => ?_) ⟨rfl, St.nil1 h1, by simp⟩
          obtain ⟨u1, u2⟩ := u
          simp only at q2 st; subst q2
          simp only
          unfold S41_l3
          have rd' := rd.le st.le
          refine rdS rd' (i := 1) rfl ?_
          rw [B_size]
          by_cases hlt : i < x1.length
          · rw [if_pos (by simp; omega)]
            obtain ⟨x, hx⟩ : ∃ x, x1[i]? = some x := ⟨_, List.getElem?_eq_getElem hlt⟩
            have hmem : x ∈ x1 := List.mem_of_getElem? hx
            refine rdS rd' (i := 1) rfl ⟨by omega, by rw [B_size]; omega, ?_⟩
            rw [byteAt_B hx, bne, show (112 : Int) = ((112 : UInt8).toNat : Int) from rfl, u8_ne]
            have good : isPB x = true → S41_j2 K sl u1 i X false h' := fun q => by
              unfold S41_j2
              rw [if_neg (by decide)]
              refine rdS rd' (i := 1) rfl ⟨by omega, by rw [B_size]; omega, ?_⟩
              rw [byteAt_B hx, show (98 : Int) = ((98 : UInt8).toNat : Int) from rfl, u8_ne]
              refine appB (enc := encB) (decide (x = 98)) st (fun _ => rfl) (by decide) (by rw [List.length_map, List.length_take]; omega) (by decide) fun s' h3 st3 => ?_
              rw [wsucc (by omega)]
              refine next hlt _ _ ⟨rfl, ?_, ?_⟩
              · rw [List.take_add_one, hx, List.map_append]; exact st3
              · rw [List.take_add_one, hx, List.all_append, q4]; simp [q]
            by_cases h5 : x = 112
            · rw [decide_eq_true h5, if_neg (by decide)]
              exact good (by rw [h5]; rfl)
            · rw [decide_eq_false h5, if_pos (by decide)]
              refine rdS rd' (i := 1) rfl ⟨by omega, by rw [B_size]; omega, ?_⟩
              rw [byteAt_B hx, bne, show (98 : Int) = ((98 : UInt8).toNat : Int) from rfl, u8_ne]
              by_cases h6 : x = 98
              · rw [decide_eq_true h6]
                exact good (by rw [h6]; rfl)
              · rw [decide_eq_false h6]
                unfold S41_j2
                rw [if_pos (by decide)]
                refine k0 4 ?_ _ (le1.trans st.le)
                rw [eh, if_pos (List.all_eq_false.2 ⟨x, hmem, by simp [isPB, h5, h6]⟩)]
          · rw [if_neg (by simp; omega)]
            rw [List.take_of_length_le (by omega)] at q4 st
            rw [if_neg (by rw [q4]; decide)] at eh
            unfold S41_j1
            have rdl := St.rd1 st (fun _ => rfl) (by decide)
            have hl := rdl.len
            rw [List.length_map] at hl
            by_cases h7 : 4096 < x1.length
            · rw [if_pos (by simp; omega)]
              rw [if_pos h7] at eh
              exact k0 6 eh _ (le1.trans st.le)
            · rw [if_neg (by simp; omega)]
              rw [if_neg h7] at eh
              exact k1 _ eh _ _ (le1.trans st.le) rdl
      · rw [decide_eq_false h3]
        exact err4 (.inr (by simpa using h3))
    · rw [if_pos (by simp; omega)]
      exact err4 (.inl h2)
/-- What of an edge has been read. -/
def EdI (w : List Bs) (n : Nat) : Nat → Nat → Nat → Nat → Bs → Prop
  | 0, f, t, d, b => f = 0 ∧ t = 0 ∧ d = 0 ∧ b = []
  | 1, f, t, d, b => vertP (w.getD 0 []) n = .ok f ∧ t = 0 ∧ d = 0 ∧ b = []
  | 2, f, t, d, b => vertP (w.getD 0 []) n = .ok f ∧ t = 0 ∧ dirP (w.getD 1 []) = some d ∧ b = []
  | 3, f, t, d, b => vertP (w.getD 0 []) n = .ok f ∧ vertP (w.getD 2 []) n = .ok t ∧ dirP (w.getD 1 []) = some d ∧ b = []
  | _, f, t, d, b => vertP (w.getD 0 []) n = .ok f ∧ vertP (w.getD 2 []) n = .ok t ∧ dirP (w.getD 1 []) = some d ∧ (w.getD 3 []).all isLR = true ∧ b = w.getD 3 []
theorem words_le {s : Bs} {w : List Bs} (hw : wordsP s = some w) {x : Bs} (hx : x ∈ w) : x.length ≤ s.length := by
  unfold wordsP at hw
  split at hw
  · cases hw
  · have e := Option.some.inj hw
    exact (splitC_mem (c := 32) (s := s) (x := x) (by rw [e]; exact hx)).2.1
theorem getD_some {w : List Bs} {i : Nat} (hi : i < w.length) : w[i]? = some (w.getD i []) := by
  rw [List.getD_eq_getElem?_getD, List.getElem?_eq_getElem hi]; rfl
theorem c42 {s : Bs} {n : Nat} (hs : s.length ≤ 1048576) {K : Int → Int → Int → ByteArray → Int → H → Prop} (k0 : ∀ e : Nat, edgeP s n = .error e → ∀ h', h.Le h' → K 0 0 0 (B []) e h')
    (k1 : ∀ x, edgeP s n = .ok x → ∀ h', h.Le h' → K x.f x.t x.d (bs x.b) 0 h') : S42 (B s) n h K := by
  unfold S42
  refine c91 hs (fun hw h1 le1 => ?_) fun w hw sl h1 le1 rd => ?_
  · unfold S42_j7
    rw [if_pos (by simp)]
    exact k0 4 (by unfold edgeP; rw [hw]) _ le1
  · have hl := rd.len
    by_cases hlen : w.length < 3 ∨ 4 < w.length
    · unfold S42_j7
      rw [if_pos (by simp; omega)]
      exact k0 4 (by unfold edgeP; rw [hw]; simp only; rw [if_pos hlen]) _ le1
    · unfold S42_j7
      rw [if_neg (by simp; omega)]
      have eg : edgeP s n = match vertP (w.getD 0 []) n with
          | .error e => .error e
          | .ok f => match dirP (w.getD 1 []) with
            | none => .error 4
            | some d => match vertP (w.getD 2 []) n with
              | .error e => .error e
              | .ok t => if (w.getD 3 []).all isLR = false then .error 4 else .ok ⟨f, t, d, (w.getD 3 []).map (· == 76)⟩ := by
        unfold edgeP; rw [hw]; simp only; rw [if_neg hlen]; all_goals rfl
      have hmem : ∀ i, i < w.length → (w.getD i []).length ≤ s.length := fun i hi => words_le hw (List.mem_of_getElem? (getD_some hi))
      refine lfp.count 4 (fun i (u : Int × Int × Int × Int × ByteArray × Int × Int × Int × ByteArray) h' => h.Le h' ∧ h1.Le h' ∧ i ≤ w.length ∧ ∃ (f t d : Nat) (b : Bs), u = ((i : Int), (f : Int), (t : Int), (d : Int), B b, 0, 0, 0, B []) ∧ EdI w n i f t d b) (fun X i u h' hi ⟨q1, q2, q3, f, t, d, b, q4, q5⟩ next => ?_)
        ⟨le1, H.Le.refl h1, Nat.zero_le _, 0, 0, 0, [], rfl, rfl, rfl, rfl, rfl⟩
      subst q4
      simp only
      have rd' := rd.le q2
      unfold S42_l6
      have nx : ∀ f' t' d' b' h2, h'.Le h2 → i < w.length → EdI w n (i + 1) f' t' d' b' → S42_j2 i X f' t' d' (B b') 0 0 0 (B []) h2 := by
        intro f' t' d' b' h2 le2 hlt ok
        unfold S42_j2
        rw [wsucc (by omega)]
        exact next (by omega) _ _ ⟨q1.trans le2, q2.trans le2, by omega, f', t', d', b', rfl, ok⟩
      have done : ∀ b', i = w.length → vertP (w.getD 0 []) n = .ok f → vertP (w.getD 2 []) n = .ok t → dirP (w.getD 1 []) = some d → b' = w.getD 3 [] → (w.getD 3 []).all isLR = true → K f t d (B b') 0 h' := by
        intro b' hil a1 a2 a3 a4 a5
        have : edgeP s n = .ok ⟨f, t, d, (w.getD 3 []).map (· == 76)⟩ := by
          rw [eg, a1]; simp only; rw [a3]; simp only; rw [a2]; simp only; rw [if_neg (by rw [a5]; decide)]
        have r := k1 _ this _ q1
        rw [lr_bs a5] at r
        rw [a4]; exact r
      have hi5 : i = 0 ∨ i = 1 ∨ i = 2 ∨ i = 3 ∨ i = 4 := by omega
      rcases hi5 with rfl | rfl | rfl | rfl | rfl
      · obtain ⟨rfl, rfl, rfl, rfl⟩ := q5
        rw [if_pos (by simp; omega)]
        unfold S42_j5
        rw [if_pos (by decide)]
        refine rdS rd' (getD_some (by omega)) ?_
        refine c92 (by have := hmem 0 (by omega); omega) (fun e0 => ?_) fun v e0 => ?_
        · rw [if_pos (by decide)]
          exact k0 5 (by rw [eg]; unfold vertP; rw [e0]) _ q1
        · rw [if_neg (by decide)]
          by_cases hv : n ≤ v
          · rw [if_pos (by simp; omega)]
            exact k0 3 (by rw [eg]; unfold vertP; rw [e0]; simp only; rw [if_pos hv]) _ q1
          · rw [if_neg (by simp; omega), if_pos (by decide)]
            unfold S42_j4
            rw [if_neg (by decide)]
            unfold S42_j3
            rw [if_neg (by decide)]
            exact nx v 0 0 [] h' (H.Le.refl _) (by omega) ⟨by unfold vertP; rw [e0]; simp only; rw [if_neg hv], rfl, rfl, rfl⟩
      · obtain ⟨a1, rfl, rfl, rfl⟩ := q5
        rw [if_pos (by simp; omega)]
        unfold S42_j5
        rw [if_neg (by decide)]
        unfold S42_j4
        rw [if_pos (by decide)]
        refine rdS rd' (i := 1) (getD_some (by omega)) ?_
        refine c93 (fun e0 h2 le2 => ?_) fun v e0 h2 le2 => ?_
        · rw [if_pos (by decide)]
          exact k0 4 (by rw [eg, a1]; simp only; rw [e0]) _ (q1.trans le2)
        · rw [if_neg (by simp)]
          unfold S42_j3
          rw [if_neg (by decide)]
          exact nx f 0 v [] h2 le2 (by omega) ⟨a1, rfl, e0, rfl⟩
      · obtain ⟨a1, rfl, a3, rfl⟩ := q5
        rw [if_pos (by simp; omega)]
        unfold S42_j5
        rw [if_pos (by decide)]
        refine rdS rd' (getD_some (by omega)) ?_
        refine c92 (by have := hmem 2 (by omega); omega) (fun e0 => ?_) fun v e0 => ?_
        · rw [if_pos (by decide)]
          exact k0 5 (by rw [eg, a1]; simp only; rw [a3]; simp only; unfold vertP; rw [e0]) _ q1
        · rw [if_neg (by decide)]
          by_cases hv : n ≤ v
          · rw [if_pos (by simp; omega)]
            exact k0 3 (by rw [eg, a1]; simp only; rw [a3]; simp only; unfold vertP; rw [e0]; simp only; rw [if_pos hv]) _ q1
          · rw [if_neg (by simp; omega), if_neg (by decide)]
            unfold S42_j4
            rw [if_neg (by decide)]
            unfold S42_j3
            rw [if_neg (by decide)]
            exact nx f v d [] h' (H.Le.refl _) (by omega) ⟨a1, by unfold vertP; rw [e0]; simp only; rw [if_neg hv], a3, rfl⟩
      · obtain ⟨a1, a2, a3, rfl⟩ := q5
        by_cases h3 : w.length = 3
        · rw [if_neg (by simp; omega)]
          unfold S42_j1
          have e3 : w.getD 3 [] = [] := by rw [List.getD_eq_getElem?_getD, List.getElem?_eq_none (by omega)]; rfl
          exact done [] h3.symm a1 a2 a3 e3.symm (by rw [e3]; rfl)
        · rw [if_pos (by simp; omega)]
          unfold S42_j5
          rw [if_neg (by decide)]
          unfold S42_j4
          rw [if_neg (by decide)]
          unfold S42_j3
          rw [if_pos (by decide)]
          refine rdS rd' (i := 3) (getD_some (by omega)) ?_
          refine c94 (by have := hmem 3 (by omega); omega) ?_
          by_cases hlr : (w.getD 3 []).all isLR = true
          · rw [hlr, if_neg (by decide)]
            refine rdS rd' (i := 3) (getD_some (by omega)) ?_
            exact nx f t d _ h' (H.Le.refl _) (by omega) ⟨a1, a2, a3, hlr, rfl⟩
          · rw [Bool.not_eq_true] at hlr
            rw [hlr, if_pos (by decide)]
            exact k0 4 (by rw [eg, a1]; simp only; rw [a3]; simp only; rw [a2]; simp only; rw [if_pos hlr]) _ q1
      · obtain ⟨a1, a2, a3, a4, rfl⟩ := q5
        rw [if_neg (by simp; omega)]
        unfold S42_j1
        exact done _ (by omega) a1 a2 a3 rfl a4
theorem lines_le {s : Bs} {w : List Bs} (hw : linesP s = some w) {x : Bs} (hx : x ∈ w) : x.length ≤ s.length := by
  unfold linesP at hw
  split at hw
  · have e := Option.some.inj hw
    exact (splitC_mem (c := 10) (s := s) (x := x) (List.dropLast_subset _ (by rw [e]; exact hx))).2.1
  · cases hw
theorem lines_len {s : Bs} {w : List Bs} (hw : linesP s = some w) : w.length ≤ s.length := by
  unfold linesP at hw
  split at hw
  · have e := Option.some.inj hw
    have := splitC_len 10 s
    rw [← e, List.length_dropLast]; omega
  · cases hw
theorem bodyP_cons (n i : Nat) (acc : List Ed) (b : Nat) (l : Bs) (ls : List Bs) : bodyP n i acc b (l :: ls) = if l = endB then (if ls = [] then (acc, 0, 0) else ([], i + 2, 4)) else
    match edgeP l n with
    | .error e => ([], i + 1, e)
    | .ok x => if 4096 < acc.length + 1 ∨ 4096 < b + x.b.length then ([], i + 1, 6) else bodyP n (i + 1) (acc ++ [x]) (b + x.b.length) ls := rfl
/-- How a parser ends. -/
theorem fin_err {s l : Bs} {ls : List Bs} {bx : List Bool} {es : List Ed} {m e : Nat} (hl : linesP s = some (l :: ls)) (hh : headP l = .ok bx) (hb : bodyP bx.length 1 [] 0 ls = ([], m, e)) (he : e ≠ 0) : parseP s = ⟨[], [], m, e⟩ := by
  unfold parseP; rw [hl]; simp only; rw [hh]; simp only; rw [hb]; unfold finP; rw [if_neg he]
theorem fin_ok {s l : Bs} {ls : List Bs} {bx : List Bool} {es : List Ed} {m : Nat} (hl : linesP s = some (l :: ls)) (hh : headP l = .ok bx) (hb : bodyP bx.length 1 [] 0 ls = (es, m, 0)) : parseP s = ⟨bx, es, 0, 0⟩ := by
  unfold parseP; rw [hl]; simp only; rw [hh]; simp only; rw [hb]; unfold finP; rw [if_pos rfl]
theorem drop_cons {α : Type} {l : List α} {i : Nat} {x : α} (e : l[i]? = some x) : l.drop i = x :: l.drop (i + 1) := by
  obtain ⟨hi, he⟩ := List.getElem?_eq_some_iff.1 e
  rw [← he]; exact List.drop_eq_getElem_cons hi
theorem c13 {s : Bs} (hs : s.length ≤ 1048576) {K : Sl → Sl → Int → Int → H → Prop} (k : ∀ s0 s1 h', h.Le h' → Rd h' s0 1 encB (parseP s).bx → Rd h' s1 4 Ed.enc (parseP s).es → K s0 s1 (parseP s).n (parseP s).e h') : S13 (B s) h K := by
  have bad : ∀ (m e : Nat) h', h.Le h' → parseP s = ⟨[], [], m, e⟩ → K Sl.nil Sl.nil m e h' := fun m e h' le q => by
    have := k Sl.nil Sl.nil h' le
    rw [q] at this
    exact this Rd.nil Rd.nil
  unfold S13
  refine c40 hs (fun hl h1 le1 => ?_) fun L hl sl h1 le1 rd => ?_
  · rw [if_pos (by decide)]
    exact bad 0 4 _ le1 (by unfold parseP; rw [hl])
  · rw [if_neg (by decide)]
    have hll := rd.len
    have hLs := lines_len hl
    cases L with
    | nil =>
      rw [if_pos (by simp at hll ⊢; omega)]
      exact bad 1 4 _ le1 (by unfold parseP; rw [hl])
    | cons l ls =>
      rw [if_neg (by simp at hll ⊢; omega)]
      refine rdS rd (i := 0) rfl ?_
      refine c41 (by have := lines_le hl (x := l) List.mem_cons_self; omega) (fun e he h2 le2 => ?_) fun bx hh s0 h2 le2 rd0 => ?_
      · have := headP_err he
        rw [if_pos (by simp; omega)]
        exact bad 1 e _ (le1.trans le2) (by unfold parseP; rw [hl]; simp only; rw [he])
      · rw [if_neg (by decide)]
        have hn := rd0.len
        rw [List.length_cons] at hll hLs
        refine lfp.count ls.length (fun i (u : Int × Int × Sl × Sl × Sl × Sl) h' => u.2.2.1 = s0 ∧ u.2.1 = ((i + 1 : Nat) : Int) ∧ ∃ (acc : List Ed) (b : Nat), u.1 = (b : Int) ∧ b ≤ 4096 ∧ acc.length ≤ 4096 ∧ St h2 h' (fun _ : Unit => .arr u.2.2.2.1 61 4 (acc.flatMap Ed.enc)) ∧ bodyP bx.length 1 [] 0 ls = bodyP bx.length (i + 1) acc b (ls.drop i)) (fun X i u h' hi ⟨q1, q2, acc, b, q3, hb, ha, st, q4⟩ next => ?_)
          ⟨rfl, rfl, [], 0, rfl, by decide, by decide, St.nil1 h2, rfl⟩
        obtain ⟨u0, u1, u2, u3, u4, u5⟩ := u
        simp only at q1 q2 q3 st
        subst q1 q2 q3
        simp only
        have le' := (le1.trans le2).trans st.le
        have rd' := rd.le (le2.trans st.le)
        unfold S13_l3
        by_cases hlt : i < ls.length
        · rw [if_pos (by simp; omega)]
          obtain ⟨x, hx⟩ : ∃ x, ls[i]? = some x := ⟨_, List.getElem?_eq_getElem hlt⟩
          have hx' : (l :: ls)[i + 1]? = some x := by simpa using hx
          have hxl := lines_le hl (List.mem_of_getElem? hx')
          rw [drop_cons hx, bodyP_cons] at q4
          refine rdS rd' hx' ?_
          rw [show (⟨#[101, 110, 100]⟩ : ByteArray) = B endB from rfl, beqB]
          by_cases hend : x = endB
          · rw [if_pos (by simpa using hend), wsucc (by omega)]
            rw [if_pos hend] at q4
            by_cases hlast : i + 1 = ls.length
            · rw [if_neg (by simp; omega)]
              rw [if_pos (List.drop_eq_nil_of_le (by omega))] at q4
              have := k u2 u3 h' le'
              rw [fin_ok hl hh q4] at this
              exact this (rd0.le st.le) (St.rd1 st Ed.enc_len (by decide))
            · rw [if_pos (by simp; omega)]
              rw [if_neg (fun q => by have := congrArg List.length q; simp at this; omega)] at q4
              rw [wrapN (x := ((i + 1 : Nat) : Int) + 2) (n := i + 1 + 2) (by omega) (by omega)]
              exact bad _ _ _ le' (fin_err (es := []) hl hh q4 (by decide))
          · rw [if_neg (by simpa using hend)]
            rw [if_neg hend] at q4
            refine rdS rd' hx' ?_
            rw [hn]
            refine c42 (by omega) (fun e he h3 le3 => ?_) fun y he h3 le3 => ?_
            · have h0 := edgeP_err he
              rw [he] at q4
              rw [if_pos (by simp; omega), wsucc (by omega)]
              exact bad _ _ _ (le'.trans le3) (fin_err (es := []) hl hh q4 h0)
            · rw [he] at q4
              simp only at q4
              have hy := edgeP_ok he
              rw [if_neg (by decide)]
              refine appB (enc := Ed.enc) y (st.le' le3) Ed.enc_len (by decide) (by omega) (by decide) fun s' h4 st4 => ?_
              have hl4 := (St.rd1 st4 Ed.enc_len (by decide)).len
              rw [List.length_append, List.length_singleton] at hl4
              unfold S13_j2
              rw [bs_size, wsucc (by omega), wrapN (x := (b : Int) + (y.b.length : Int)) (n := b + y.b.length) (by omega) (by omega)]
              by_cases hm : 4096 < acc.length + 1 ∨ 4096 < b + y.b.length
              · rw [if_pos (by simp; omega)]
                rw [if_pos hm] at q4
                exact bad _ _ _ ((le1.trans le2).trans st4.le) (fin_err (es := []) hl hh q4 (by decide))
              · rw [if_neg (by simp; omega)]
                rw [if_neg hm] at q4
                exact next hlt _ _ ⟨rfl, rfl, acc ++ [y], b + y.b.length, rfl, by omega, by simp; omega, st4, q4⟩
        · rw [if_neg (by simp; omega)]
          rw [List.drop_eq_nil_of_le (by omega)] at q4
          unfold S13_j1
          have q4' : bodyP bx.length 1 [] 0 ls = ([], i + 1 + 1, 4) := q4
          have e : IntKind.i64.wrap ((sl.l : Int) + 1) = ((i + 1 + 1 : Nat) : Int) := wrapN (by omega) (by omega)
          rw [e]
          exact bad _ _ _ le' (fin_err (es := []) hl hh q4' (by decide))
end Go.Proofs.YtimadnngfhbfiaaGreatDoor
end

section
/- PRINTED by wip/gen.py: what internal/stringslite.HasSuffix does, in the words of Mu. -/
namespace Go.Proofs.YtimadnngfhbfiaaGreatDoor
open Go Go.Mu
/- internal/stringslite.HasSuffix -/
def S100_j1 (K : Bool → H → Prop) (v4 : Bool) (h_1 : H) : Prop :=
  K v4 h_1
def S100 (p0 : ByteArray) (p1 : ByteArray) (h : H) (K : Bool → H → Prop) : Prop :=
  (if (decide ((ByteArray.size p0 : Int) ≥ (ByteArray.size p1 : Int))) = true then ((0 : Int) ≤ (IntKind.wrap .i64 ((ByteArray.size p0 : Int) - (ByteArray.size p1 : Int))) ∧ (IntKind.wrap .i64 ((ByteArray.size p0 : Int) - (ByteArray.size p1 : Int))) ≤ (ByteArray.size p0 : Int) ∧ S100_j1 K (ByteArray.toList (ByteArray.extract p0 (Int.toNat (IntKind.wrap .i64 ((ByteArray.size p0 : Int) - (ByteArray.size p1 : Int)))) (ByteArray.size p0)) == ByteArray.toList p1) h) else S100_j1 K false h)
end Go.Proofs.YtimadnngfhbfiaaGreatDoor
end

section
/- PRINTED by wip/gen.py: what internal/stringslite.TrimSuffix does, in the words of Mu. -/
namespace Go.Proofs.YtimadnngfhbfiaaGreatDoor
open Go Go.Mu
/- internal/stringslite.TrimSuffix -/
def S53 (p0 : ByteArray) (p1 : ByteArray) (h : H) (K : ByteArray → H → Prop) : Prop :=
  S100 p0 p1 h (fun (v7 : Bool) (h_1 : H) => (if v7 = true then ((0 : Int) ≤ (IntKind.wrap .i64 ((ByteArray.size p0 : Int) - (ByteArray.size p1 : Int))) ∧ (IntKind.wrap .i64 ((ByteArray.size p0 : Int) - (ByteArray.size p1 : Int))) ≤ (ByteArray.size p0 : Int) ∧ K (ByteArray.extract p0 0 (Int.toNat (IntKind.wrap .i64 ((ByteArray.size p0 : Int) - (ByteArray.size p1 : Int))))) h_1) else K p0 h_1))
end Go.Proofs.YtimadnngfhbfiaaGreatDoor
end

section
/- PRINTED by wip/gen.py: what strings.TrimSuffix does, in the words of Mu. -/
namespace Go.Proofs.YtimadnngfhbfiaaGreatDoor
open Go Go.Mu
/- strings.TrimSuffix -/
def S22 (p0 : ByteArray) (p1 : ByteArray) (h : H) (K : ByteArray → H → Prop) : Prop :=
  S53 p0 p1 h (fun (v7 : ByteArray) (h_1 : H) => K v7 h_1)
end Go.Proofs.YtimadnngfhbfiaaGreatDoor
end

section
/- PRINTED by wip/gen.py: what strings.HasSuffix does, in the words of Mu. -/
namespace Go.Proofs.YtimadnngfhbfiaaGreatDoor
open Go Go.Mu
/- strings.HasSuffix -/
def S85 (p0 : ByteArray) (p1 : ByteArray) (h : H) (K : Bool → H → Prop) : Prop :=
  S100 p0 p1 h (fun (v7 : Bool) (h_1 : H) => K v7 h_1)
end Go.Proofs.YtimadnngfhbfiaaGreatDoor
end

section
/- BY HAND: what strings.genSplit does at a separator of one byte. -/
namespace Go.Proofs.YtimadnngfhbfiaaGreatDoor
open Go Go.Mu
def S52 (p0 p1 : ByteArray) (p2 p3 : Int) (h : H) (K : Sl → H → Prop) : Prop :=
  ∃ (c : UInt8) (sv : Nat), p1 = ⟨#[c]⟩ ∧ p2 = (sv : Int) ∧ sv ≤ 1 ∧ p3 = -1 ∧ p0.size ≤ 1048576 ∧ ∀ (g n : Nat) (h1 : H), h g = none → n = (Lib.splitB ⟨#[c]⟩ sv (Lib.countB p0 ⟨#[c]⟩) p0).length →
    h1 = h.set g (.row ⟨(Lib.splitB ⟨#[c]⟩ sv (Lib.countB p0 ⟨#[c]⟩) p0).map Value.string, n, 9, true, true⟩) → K ⟨some ⟨g, 0, none⟩, n, n⟩ h1
end Go.Proofs.YtimadnngfhbfiaaGreatDoor
end

section
/- PRINTED by wip/gen.py: what strings.Split does, in the words of Mu. -/
namespace Go.Proofs.YtimadnngfhbfiaaGreatDoor
open Go Go.Mu
/- strings.Split -/
def S86 (p0 : ByteArray) (p1 : ByteArray) (h : H) (K : Sl → H → Prop) : Prop :=
  S52 p0 p1 0 (-1) h (fun (v7 : Sl) (h_1 : H) => K v7 h_1)
end Go.Proofs.YtimadnngfhbfiaaGreatDoor
end

section
/- PRINTED by wip/gen.py: what muntin/lex.Lines does, in the words of Mu. -/
namespace Go.Proofs.YtimadnngfhbfiaaGreatDoor
open Go Go.Mu
/- muntin/lex.Lines -/
def S37 (p0 : ByteArray) (h : H) (K : Sl → Int → H → Prop) : Prop :=
  (if (decide ((ByteArray.size p0 : Int) > 1048576)) = true then K Sl.nil 16 h else (if (ByteArray.toList p0 == ByteArray.toList ⟨#[]⟩) = true then K Sl.nil 0 h else S85 p0 ⟨#[10]⟩ h (fun (v13 : Bool) (h_1 : H) => (if (!v13) = true then K Sl.nil 4 h_1 else S22 p0 ⟨#[10]⟩ h_1 (fun (v16 : ByteArray) (h_2 : H) => S86 v16 ⟨#[10]⟩ h_2 (fun (v17 : Sl) (h_3 : H) => K v17 0 h_3))))))
end Go.Proofs.YtimadnngfhbfiaaGreatDoor
end

section
/- BY HAND: what utf8.DecodeLastRuneInString does: a byte below 128 as it is, or a rune above. -/
namespace Go.Proofs.YtimadnngfhbfiaaGreatDoor
open Go Go.Mu
def S139 (p0 : ByteArray) (h : H) (K : Int → Int → H → Prop) : Prop :=
  0 < p0.size ∧ p0.size ≤ 9223372036854775807 ∧ TabsH h ∧ ((p0.get! (p0.size - 1)).toNat < 128 → K ((p0.get! (p0.size - 1)).toNat : Int) 1 h) ∧ (128 ≤ (p0.get! (p0.size - 1)).toNat → ∀ r n : Nat, 128 ≤ r → K r n h)
end Go.Proofs.YtimadnngfhbfiaaGreatDoor
end

section
/- PRINTED by wip/gen.py: what muntin/parse.cutRight does, in the words of Mu. -/
namespace Go.Proofs.YtimadnngfhbfiaaGreatDoor
open Go Go.Mu
/- muntin/parse.cutRight -/
def S96_j1 (K : ByteArray → H → Prop) (v0 : ByteArray) (h_1 : H) : Prop :=
  K v0 h_1
def S96_j2 (K : ByteArray → H → Prop) (v0_1 : ByteArray) (X : ByteArray → H → Prop) (v15_1 : Int) (v7 : Bool) (h_4 : H) : Prop :=
  (if (!v7) = true then K v0_1 h_4 else ((0 : Int) ≤ (IntKind.wrap .i64 ((ByteArray.size v0_1 : Int) - v15_1)) ∧ (IntKind.wrap .i64 ((ByteArray.size v0_1 : Int) - v15_1)) ≤ (ByteArray.size v0_1 : Int) ∧ X (ByteArray.extract v0_1 0 (Int.toNat (IntKind.wrap .i64 ((ByteArray.size v0_1 : Int) - v15_1)))) h_4))
def S96_l3 (p1 : ByteArray) (K : ByteArray → H → Prop) (v0_1 : ByteArray) (X : ByteArray → H → Prop) (v15_0 : Int) (v15_1 : Int) (X_1 : (Bool × Nat) → H → Prop) (v7_1 : Bool) (c19_1 : Nat) (h_5 : H) : Prop :=
  (if c19_1 < ByteArray.size p1 then X_1 ((v7_1 || (v15_0 == ((Utf8.decode p1 c19_1).1 : Int))), (c19_1 + (Utf8.decode p1 c19_1).2)) h_5 else S96_j2 K v0_1 X v15_1 v7_1 h_5)
def S96_l4 (p1 : ByteArray) (K : ByteArray → H → Prop) (X : ByteArray → H → Prop) (v0_1 : ByteArray) (h_2 : H) : Prop :=
  (if (decide ((ByteArray.size v0_1 : Int) > 0)) = true then S139 v0_1 h_2 (fun (v15_0 : Int) (v15_1 : Int) (h_3 : H) => lfp (fun X_1 s h_5 => S96_l3 p1 K v0_1 X v15_0 v15_1 X_1 s.1 s.2 h_5) (false, 0) h_3) else S96_j1 K v0_1 h_2)
def S96 (p0 : ByteArray) (p1 : ByteArray) (h : H) (K : ByteArray → H → Prop) : Prop :=
  lfp (fun X s h_2 => S96_l4 p1 K X s h_2) p0 h
end Go.Proofs.YtimadnngfhbfiaaGreatDoor
end

section
/- PRINTED by wip/gen.py: what muntin/parse.cutLeft does, in the words of Mu. -/
namespace Go.Proofs.YtimadnngfhbfiaaGreatDoor
open Go Go.Mu
/- muntin/parse.cutLeft -/
def S97_j1 (K : ByteArray → H → Prop) (h_1 : H) : Prop :=
  K ⟨#[]⟩ h_1
def S97_j2 (p0 : ByteArray) (K : ByteArray → H → Prop) (c11_1 : Nat) (X : Nat → H → Prop) (v7 : Bool) (h_3 : H) : Prop :=
  (if (!v7) = true then ((0 : Int) ≤ (c11_1 : Int) ∧ (c11_1 : Int) ≤ (ByteArray.size p0 : Int) ∧ K (ByteArray.extract p0 (Int.toNat (c11_1 : Int)) (ByteArray.size p0)) h_3) else X (c11_1 + (Utf8.decode p0 c11_1).2) h_3)
def S97_l3 (p0 : ByteArray) (p1 : ByteArray) (K : ByteArray → H → Prop) (c11_1 : Nat) (X : Nat → H → Prop) (X_1 : (Bool × Nat) → H → Prop) (v7_1 : Bool) (c17_1 : Nat) (h_4 : H) : Prop :=
  (if c17_1 < ByteArray.size p1 then X_1 ((v7_1 || (((Utf8.decode p0 c11_1).1 : Int) == ((Utf8.decode p1 c17_1).1 : Int))), (c17_1 + (Utf8.decode p1 c17_1).2)) h_4 else S97_j2 p0 K c11_1 X v7_1 h_4)
def S97_l4 (p0 : ByteArray) (p1 : ByteArray) (K : ByteArray → H → Prop) (X : Nat → H → Prop) (c11_1 : Nat) (h_2 : H) : Prop :=
  (if c11_1 < ByteArray.size p0 then lfp (fun X_1 s h_4 => S97_l3 p0 p1 K c11_1 X X_1 s.1 s.2 h_4) (false, 0) h_2 else S97_j1 K h_2)
def S97 (p0 : ByteArray) (p1 : ByteArray) (h : H) (K : ByteArray → H → Prop) : Prop :=
  lfp (fun X s h_2 => S97_l4 p0 p1 K X s h_2) 0 h
end Go.Proofs.YtimadnngfhbfiaaGreatDoor
end

section
/- PRINTED by wip/gen.py: what muntin/parse.letters does, in the words of Mu. -/
namespace Go.Proofs.YtimadnngfhbfiaaGreatDoor
open Go Go.Mu
/- muntin/parse.letters -/
def S49 (p0 : ByteArray) (p1 : ByteArray) (h : H) (K : Bool → H → Prop) : Prop :=
  S97 p0 p1 h (fun (v7 : ByteArray) (h_1 : H) => S96 v7 p1 h_1 (fun (v9 : ByteArray) (h_2 : H) => K (ByteArray.toList v9 == ByteArray.toList ⟨#[]⟩) h_2))
end Go.Proofs.YtimadnngfhbfiaaGreatDoor
end

section
/- PRINTED by wip/gen.py: what slices.Index[[]string,string] does, in the words of Mu. -/
namespace Go.Proofs.YtimadnngfhbfiaaGreatDoor
open Go Go.Mu
/- slices.Index[[]string,string] -/
def S160_j1 (K : Int → H → Prop) (h_1 : H) : Prop :=
  K (-1) h_1
def S160_l2 (p0 : Sl) (p1 : ByteArray) (K : Int → H → Prop) (X : Int → H → Prop) (v8 : Int) (h_2 : H) : Prop :=
  (if (decide (v8 < (p0.l : Int))) = true then (∃ a14 : Addr, p0.a = some a14 ∧ 0 ≤ v8 ∧ v8 < (p0.l : Int) ∧ (∃ (v15 : ByteArray), H.rd h_2 (Addr.add a14 (Int.toNat v8 * 1)) = some (.string v15) ∧ (if (ByteArray.toList p1 == ByteArray.toList v15) = true then K v8 h_2 else X (IntKind.wrap .i64 (v8 + 1)) h_2))) else S160_j1 K h_2)
def S160 (p0 : Sl) (p1 : ByteArray) (h : H) (K : Int → H → Prop) : Prop :=
  lfp (fun X s h_2 => S160_l2 p0 p1 K X s h_2) 0 h
end Go.Proofs.YtimadnngfhbfiaaGreatDoor
end

section
/- PRINTED by wip/gen.py: what slices.Contains[[]string,string] does, in the words of Mu. -/
namespace Go.Proofs.YtimadnngfhbfiaaGreatDoor
open Go Go.Mu
/- slices.Contains[[]string,string] -/
def S125 (p0 : Sl) (p1 : ByteArray) (h : H) (K : Bool → H → Prop) : Prop :=
  S160 p0 p1 h (fun (v7 : Int) (h_1 : H) => K (decide (v7 ≥ 0)) h_1)
end Go.Proofs.YtimadnngfhbfiaaGreatDoor
end

section
/- PRINTED by wip/gen.py: what muntin/lex.Words does, in the words of Mu. -/
namespace Go.Proofs.YtimadnngfhbfiaaGreatDoor
open Go Go.Mu
/- muntin/lex.Words -/
def S87 (p0 : ByteArray) (h : H) (K : Sl → Bool → H → Prop) : Prop :=
  S86 p0 ⟨#[32]⟩ h (fun (v6 : Sl) (h_1 : H) => S125 v6 ⟨#[]⟩ h_1 (fun (v8 : Bool) (h_2 : H) => (if v8 = true then K Sl.nil false h_2 else K v6 true h_2)))
end Go.Proofs.YtimadnngfhbfiaaGreatDoor
end

section
/- BY HAND: what strings.Trim does at a cutset of one byte, and at "LR". -/
namespace Go.Proofs.YtimadnngfhbfiaaGreatDoor
open Go Go.Mu
def S88 (p0 p1 : ByteArray) (h : H) (K : ByteArray → H → Prop) : Prop :=
  (∃ c : UInt8, c.toNat < 128 ∧ p0.size ≤ 9223372036854775807 ∧ p1 = ⟨#[c]⟩ ∧ K ⟨(Lib.trimB p0.data.toList c).toArray⟩ h) ∨
    (p0.size ≤ 9223372036854775807 ∧ p1 = ⟨#[76, 82]⟩ ∧ K ⟨(Lib.trimS p0.data.toList [76, 82]).toArray⟩ h)
end Go.Proofs.YtimadnngfhbfiaaGreatDoor
end

section
/- PRINTED by wip/gen.py: what muntin/parse.vertices does, in the words of Mu. -/
namespace Go.Proofs.YtimadnngfhbfiaaGreatDoor
open Go Go.Mu
/- muntin/parse.vertices -/
def S38_j1 (K : Sl → Int → H → Prop) (v6 : Sl) (h_3 : H) : Prop :=
  K v6 0 h_3
def S38_l2 (K : Sl → Int → H → Prop) (v50 : ByteArray) (X : (Sl × Nat) → H → Prop) (v6_1 : Sl) (c51_1 : Nat) (h_5 : H) : Prop :=
  (if c51_1 < ByteArray.size v50 then app 4 1 1 v6_1 1 [(.bool (((Utf8.decode v50 c51_1).1 : Int) == 98))] h_5 (fun (v59 : Sl) (h_6 : H) => X (v59, (c51_1 + (Utf8.decode v50 c51_1).2)) h_6) else S38_j1 K v6_1 h_5)
def S38_j3 (K : Sl → Int → H → Prop) (v11_0 : Sl) (v14 : Bool) (h_2 : H) : Prop :=
  (if v14 = true then K Sl.nil 4 h_2 else (∃ a43 : Addr, v11_0.a = some a43 ∧ 0 ≤ (1 : Int) ∧ 1 < (v11_0.l : Int) ∧ (∃ (v44 : ByteArray), H.rd h_2 (Addr.add a43 (Int.toNat 1 * 1)) = some (.string v44) ∧ (if (decide ((ByteArray.size v44 : Int) > 4096)) = true then K Sl.nil 6 h_2 else (∃ a48 : Addr, v11_0.a = some a48 ∧ 0 ≤ (1 : Int) ∧ 1 < (v11_0.l : Int) ∧ (∃ (v49 : ByteArray), H.rd h_2 (Addr.add a48 (Int.toNat 1 * 1)) = some (.string v49) ∧ S88 v49 ⟨#[45]⟩ h_2 (fun (v50 : ByteArray) (h_4 : H) => lfp (fun X s h_5 => S38_l2 K v50 X s.1 s.2 h_5) (Sl.nil, 0) h_4)))))))
def S38 (p0 : ByteArray) (h : H) (K : Sl → Int → H → Prop) : Prop :=
  S87 p0 h (fun (v11_0 : Sl) (v11_1 : Bool) (h_1 : H) => (if (!v11_1) = true then S38_j3 K v11_0 true h_1 else (if ((v11_0.l : Int) != 2) = true then S38_j3 K v11_0 true h_1 else (∃ a24 : Addr, v11_0.a = some a24 ∧ 0 ≤ (0 : Int) ∧ 0 < (v11_0.l : Int) ∧ (∃ (v25 : ByteArray), H.rd h_1 (Addr.add a24 (Int.toNat 0 * 1)) = some (.string v25) ∧ (if (!(ByteArray.toList v25 == ByteArray.toList ⟨#[115, 104, 97, 112, 101]⟩)) = true then S38_j3 K v11_0 true h_1 else (∃ a30 : Addr, v11_0.a = some a30 ∧ 0 ≤ (1 : Int) ∧ 1 < (v11_0.l : Int) ∧ (∃ (v31 : ByteArray), H.rd h_1 (Addr.add a30 (Int.toNat 1 * 1)) = some (.string v31) ∧ (if (!(ByteArray.toList v31 == ByteArray.toList ⟨#[45]⟩)) = true then (∃ a35 : Addr, v11_0.a = some a35 ∧ 0 ≤ (1 : Int) ∧ 1 < (v11_0.l : Int) ∧ (∃ (v36 : ByteArray), H.rd h_1 (Addr.add a35 (Int.toNat 1 * 1)) = some (.string v36) ∧ S49 v36 ⟨#[112, 98]⟩ h_1 (fun (v37 : Bool) (h_7 : H) => S38_j3 K v11_0 (!v37) h_7))) else S38_j3 K v11_0 false h_1)))))))))
end Go.Proofs.YtimadnngfhbfiaaGreatDoor
end

section
/- BY HAND: what strings.Join does. -/
namespace Go.Proofs.YtimadnngfhbfiaaGreatDoor
open Go Go.Mu
def S23 (p0 : Sl) (p1 : ByteArray) (h : H) (K : ByteArray → H → Prop) : Prop :=
  (p0.l = 0 ∧ K ⟨#[]⟩ h) ∨ ∃ (g o : Nat) (xs : List ByteArray), p0.a = some ⟨g, o, none⟩ ∧ p0.l = xs.length ∧ 0 < xs.length ∧ xs.length ≤ p0.c ∧ xs.length ≤ 140737488355328 ∧ (Lib.join (xs.map (·.data.toList)) p1.data.toList).length ≤ 140737488355328 ∧
    h.rdn ⟨g, o, none⟩ xs.length (xs.map Value.string) ∧ K ⟨(Lib.join (xs.map (·.data.toList)) p1.data.toList).toArray⟩ h
end Go.Proofs.YtimadnngfhbfiaaGreatDoor
end

section
/- PRINTED by wip/gen.py: what muntin/lex.digit does, in the words of Mu. -/
namespace Go.Proofs.YtimadnngfhbfiaaGreatDoor
open Go Go.Mu
/- muntin/lex.digit -/
def S165_j1 (K : Bool → H → Prop) (v2 : Bool) (h_1 : H) : Prop :=
  K v2 h_1
def S165 (p0 : Int) (h : H) (K : Bool → H → Prop) : Prop :=
  S165_j1 K ((decide (p0 ≥ 48)) && (decide (p0 ≤ 57))) h
end Go.Proofs.YtimadnngfhbfiaaGreatDoor
end

section
/- PRINTED by wip/gen.py: what muntin/lex.Number$1 does, in the words of Mu. -/
namespace Go.Proofs.YtimadnngfhbfiaaGreatDoor
open Go Go.Mu
/- muntin/lex.Number$1 -/
def S164 (p0 : Int) (h : H) (K : Bool → H → Prop) : Prop :=
  S165 p0 h (fun (v4 : Bool) (h_1 : H) => K (!v4) h_1)
end Go.Proofs.YtimadnngfhbfiaaGreatDoor
end

section
/- PRINTED by wip/gen.py: what strings.indexFunc does, in the words of Mu. -/
namespace Go.Proofs.YtimadnngfhbfiaaGreatDoor
open Go Go.Mu
/- strings.indexFunc -/
def S199_j1 (K : Int → H → Prop) (h_1 : H) : Prop :=
  K (-1) h_1
def S199_l2 (p0 : ByteArray) (p2 : Bool) (K : Int → H → Prop) (X : Nat → H → Prop) (c10_1 : Nat) (h_2 : H) : Prop :=
  (if c10_1 < ByteArray.size p0 then S164 ((Utf8.decode p0 c10_1).1 : Int) h_2 (fun (v17 : Bool) (h_3 : H) => (if (v17 == p2) = true then K (c10_1 : Int) h_3 else X (c10_1 + (Utf8.decode p0 c10_1).2) h_3)) else S199_j1 K h_2)
def S199 (p0 : ByteArray) (p2 : Bool) (h : H) (K : Int → H → Prop) : Prop :=
  lfp (fun X s h_2 => S199_l2 p0 p2 K X s h_2) 0 h
end Go.Proofs.YtimadnngfhbfiaaGreatDoor
end

section
/- PRINTED by wip/gen.py: what strings.IndexFunc does, in the words of Mu. -/
namespace Go.Proofs.YtimadnngfhbfiaaGreatDoor
open Go Go.Mu
/- strings.IndexFunc -/
def S184 (p0 : ByteArray) (h : H) (K : Int → H → Prop) : Prop :=
  S199 p0 true h (fun (v7 : Int) (h_1 : H) => K v7 h_1)
end Go.Proofs.YtimadnngfhbfiaaGreatDoor
end

section
/- PRINTED by wip/gen.py: what strings.ContainsFunc does, in the words of Mu. -/
namespace Go.Proofs.YtimadnngfhbfiaaGreatDoor
open Go Go.Mu
/- strings.ContainsFunc -/
def S163 (p0 : ByteArray) (h : H) (K : Bool → H → Prop) : Prop :=
  S184 p0 h (fun (v7 : Int) (h_1 : H) => K (decide (v7 ≥ 0)) h_1)
end Go.Proofs.YtimadnngfhbfiaaGreatDoor
end

section
/- BY HAND: what strconv.Atoi does at a short numeral. -/
namespace Go.Proofs.YtimadnngfhbfiaaGreatDoor
open Go Go.Mu
def S166 (p0 : ByteArray) (h : H) (K : Int → Value → H → Prop) : Prop :=
  ∃ n : Int, p0.size ≤ 18 ∧ Lib.atoi p0.data.toList = some n ∧ K n Value.nilIface h
end Go.Proofs.YtimadnngfhbfiaaGreatDoor
end

section
/- PRINTED by wip/gen.py: what muntin/lex.Number does, in the words of Mu. -/
namespace Go.Proofs.YtimadnngfhbfiaaGreatDoor
open Go Go.Mu
/- muntin/lex.Number -/
def S133_j1 (p0 : ByteArray) (p1 : Int) (K : Int → Bool → H → Prop) (v32 : Bool) (h_2 : H) : Prop :=
  (if v32 = true then K 0 false h_2 else S166 p0 h_2 (fun (v35_0 : Int) (v35_1 : Value) (h_3 : H) => (if (decide (v35_0 > p1)) = true then K 0 false h_3 else K v35_0 true h_3)))
def S133 (p0 : ByteArray) (p1 : Int) (h : H) (K : Int → Bool → H → Prop) : Prop :=
  S163 p0 h (fun (v10 : Bool) (h_1 : H) => (if (!(!v10)) = true then S133_j1 p0 p1 K true h_1 else (if (ByteArray.toList p0 == ByteArray.toList ⟨#[]⟩) = true then S133_j1 p0 p1 K true h_1 else (if (decide ((ByteArray.size p0 : Int) > 7)) = true then S133_j1 p0 p1 K true h_1 else (if (decide ((ByteArray.size p0 : Int) > 1)) = true then (0 ≤ (0 : Int) ∧ 0 < (ByteArray.size p0 : Int) ∧ S133_j1 p0 p1 K ((byteAt p0 0) == 48) h_1) else S133_j1 p0 p1 K false h_1)))))
end Go.Proofs.YtimadnngfhbfiaaGreatDoor
end

section
/- PRINTED by wip/gen.py: what muntin/parse.vertex does, in the words of Mu. -/
namespace Go.Proofs.YtimadnngfhbfiaaGreatDoor
open Go Go.Mu
/- muntin/parse.vertex -/
def S89 (p0 : ByteArray) (p1 : Int) (h : H) (K : Int → Int → H → Prop) : Prop :=
  S133 p0 9999999 h (fun (v10_0 : Int) (v10_1 : Bool) (h_1 : H) => (if (!v10_1) = true then K 0 5 h_1 else (if (decide (v10_0 ≥ p1)) = true then K 0 3 h_1 else K v10_0 0 h_1)))
end Go.Proofs.YtimadnngfhbfiaaGreatDoor
end

section
/- BY HAND: what strings.Index does at one byte. -/
namespace Go.Proofs.YtimadnngfhbfiaaGreatDoor
open Go Go.Mu
def S47 (p0 p1 : ByteArray) (h : H) (K : Int → H → Prop) : Prop :=
  ∃ c : UInt8, p1 = ⟨#[c]⟩ ∧ K (Lib.indexByte p0.data.toList c) h
end Go.Proofs.YtimadnngfhbfiaaGreatDoor
end

section
/- BY HAND: what strings.Contains does at one byte. -/
namespace Go.Proofs.YtimadnngfhbfiaaGreatDoor
open Go Go.Mu
def S134 (p0 p1 : ByteArray) (h : H) (K : Bool → H → Prop) : Prop :=
  ∃ c : UInt8, p1 = ⟨#[c]⟩ ∧ K (decide (0 ≤ Lib.indexByte p0.data.toList c)) h
end Go.Proofs.YtimadnngfhbfiaaGreatDoor
end

section
/- PRINTED by wip/gen.py: what muntin/compass.Of does, in the words of Mu. -/
namespace Go.Proofs.YtimadnngfhbfiaaGreatDoor
open Go Go.Mu
/- muntin/compass.Of -/
def S90_j1 (p0 : ByteArray) (K : Int → Bool → H → Prop) (v11 : Bool) (h_1 : H) : Prop :=
  (if v11 = true then K 0 false h_1 else S47 ⟨#[69, 78, 87, 83]⟩ p0 h_1 (fun (v13 : Int) (h_2 : H) => K v13 true h_2))
def S90 (p0 : ByteArray) (h : H) (K : Int → Bool → H → Prop) : Prop :=
  (if ((ByteArray.size p0 : Int) != 1) = true then S90_j1 p0 K true h else S134 ⟨#[69, 78, 87, 83]⟩ p0 h (fun (v9 : Bool) (h_3 : H) => S90_j1 p0 K (!v9) h_3))
end Go.Proofs.YtimadnngfhbfiaaGreatDoor
end

section
/- PRINTED by wip/gen.py: what muntin/parse.edge does, in the words of Mu. -/
namespace Go.Proofs.YtimadnngfhbfiaaGreatDoor
open Go Go.Mu
/- muntin/parse.edge -/
def S39_j1 (p1 : Int) (K : Int → Int → Int → ByteArray → Int → H → Prop) (v15_0 : Sl) (v29 : Bool) (h_2 : H) : Prop :=
  (if v29 = true then K 0 0 0 ⟨#[]⟩ 4 h_2 else (∃ a33 : Addr, v15_0.a = some a33 ∧ 0 ≤ (0 : Int) ∧ 0 < (v15_0.l : Int) ∧ (∃ (v34 : ByteArray), H.rd h_2 (Addr.add a33 (Int.toNat 0 * 1)) = some (.string v34) ∧ S89 v34 p1 h_2 (fun (v36_0 : Int) (v36_1 : Int) (h_3 : H) => (if (v36_1 != 0) = true then K 0 0 0 ⟨#[]⟩ v36_1 h_3 else (∃ a45 : Addr, v15_0.a = some a45 ∧ 0 ≤ (1 : Int) ∧ 1 < (v15_0.l : Int) ∧ (∃ (v46 : ByteArray), H.rd h_3 (Addr.add a45 (Int.toNat 1 * 1)) = some (.string v46) ∧ S90 v46 h_3 (fun (v47_0 : Int) (v47_1 : Bool) (h_4 : H) => (if (!v47_1) = true then K 0 0 0 ⟨#[]⟩ 4 h_4 else (∃ a55 : Addr, v15_0.a = some a55 ∧ 0 ≤ (2 : Int) ∧ 2 < (v15_0.l : Int) ∧ (∃ (v56 : ByteArray), H.rd h_4 (Addr.add a55 (Int.toNat 2 * 1)) = some (.string v56) ∧ S89 v56 p1 h_4 (fun (v58_0 : Int) (v58_1 : Int) (h_5 : H) => (if (v58_1 != 0) = true then K 0 0 0 ⟨#[]⟩ v58_1 h_5 else ((0 : Int) ≤ 3 ∧ 3 ≤ (v15_0.l : Int) ∧ (v15_0.l : Int) ≤ (v15_0.l : Int) ∧ v15_0.l ≤ v15_0.c ∧ S23 ⟨(if v15_0.c = Int.toNat 3 then v15_0.a else Option.map (fun x => Addr.add x (Int.toNat 3 * 1)) v15_0.a), (Nat.sub (Int.toNat (v15_0.l : Int)) (Int.toNat 3)), (v15_0.c - Int.toNat 3)⟩ ⟨#[]⟩ h_5 (fun (v67 : ByteArray) (h_6 : H) => S49 v67 ⟨#[76, 82]⟩ h_6 (fun (v69 : Bool) (h_7 : H) => (if (!v69) = true then K 0 0 0 ⟨#[]⟩ 4 h_7 else K v36_0 v58_0 v47_0 v67 0 h_7)))))))))))))))))
def S39 (p0 : ByteArray) (p1 : Int) (h : H) (K : Int → Int → Int → ByteArray → Int → H → Prop) : Prop :=
  S87 p0 h (fun (v15_0 : Sl) (v15_1 : Bool) (h_1 : H) => S39_j1 p1 K v15_0 (((!v15_1) || (decide ((v15_0.l : Int) < 3))) || (decide ((v15_0.l : Int) > 4))) h_1)
end Go.Proofs.YtimadnngfhbfiaaGreatDoor
end

section
/- PRINTED by wip/gen.py: what muntin/parse.Parse does, in the words of Mu. -/
namespace Go.Proofs.YtimadnngfhbfiaaGreatDoor
open Go Go.Mu
/- muntin/parse.Parse -/
def S12_j1 (K : Sl → Sl → Int → Int → H → Prop) (v15_0 : Sl) (c2_0 : Sl) (c2_1 : Sl) (h_3 : H) : Prop :=
  K Sl.nil Sl.nil (IntKind.wrap .i64 ((v15_0.l : Int) + 1)) 4 h_3
def S12_l2 (K : Sl → Sl → Int → Int → H → Prop) (v15_0 : Sl) (X : (Int × Int × Sl × Sl × Sl × Sl) → H → Prop) (v8 : Int) (v43 : Int) (c7_0 : Sl) (c7_1 : Sl) (c2_0_1 : Sl) (c2_1_1 : Sl) (h_4 : H) : Prop :=
  (if (decide (v43 < ((Nat.sub (Int.toNat (v15_0.l : Int)) (Int.toNat 1)) : Int))) = true then (∃ a46 : Addr, (if v15_0.c = Int.toNat 1 then v15_0.a else Option.map (fun x => Addr.add x (Int.toNat 1 * 1)) v15_0.a) = some a46 ∧ 0 ≤ v43 ∧ v43 < ((Nat.sub (Int.toNat (v15_0.l : Int)) (Int.toNat 1)) : Int) ∧ (∃ (v47 : ByteArray), H.rd h_4 (Addr.add a46 (Int.toNat v43 * 1)) = some (.string v47) ∧ (if (ByteArray.toList v47 == ByteArray.toList ⟨#[101, 110, 100]⟩) = true then (if (decide ((IntKind.wrap .i64 (v43 + 2)) < (v15_0.l : Int))) = true then K Sl.nil Sl.nil (IntKind.wrap .i64 (v43 + 3)) 4 h_4 else K c7_0 c7_1 0 0 h_4) else S39 v47 (c7_0.l : Int) h_4 (fun (v64_0_0 : Int) (v64_0_1 : Int) (v64_0_2 : Int) (v64_0_3 : ByteArray) (v64_1 : Int) (h_5 : H) => (if (v64_1 != 0) = true then K Sl.nil Sl.nil (IntKind.wrap .i64 (v43 + 2)) v64_1 h_5 else app 61 4 40 c7_1 1 [(.int .i64 v64_0_0), (.int .i64 v64_0_1), (.int .i64 v64_0_2), (.string v64_0_3)] h_5 (fun (v82 : Sl) (h_6 : H) => (if (decide ((if (IntKind.wrap .i64 (v8 + (ByteArray.size v64_0_3 : Int))) > (v82.l : Int) then (IntKind.wrap .i64 (v8 + (ByteArray.size v64_0_3 : Int))) else (v82.l : Int)) > 4096)) = true then K Sl.nil Sl.nil (IntKind.wrap .i64 (v43 + 2)) 6 h_6 else X ((IntKind.wrap .i64 (v8 + (ByteArray.size v64_0_3 : Int))), (IntKind.wrap .i64 (v43 + 1)), c7_0, v82, c2_0_1, c2_1_1) h_6))))))) else S12_j1 K v15_0 c2_0_1 c2_1_1 h_4)
def S12 (p0 : ByteArray) (h : H) (K : Sl → Sl → Int → Int → H → Prop) : Prop :=
  S37 p0 h (fun (v15_0 : Sl) (v15_1 : Int) (h_1 : H) => (if (v15_1 != 0) = true then K Sl.nil Sl.nil 0 v15_1 h_1 else (if ((v15_0.l : Int) == 0) = true then K Sl.nil Sl.nil 1 4 h_1 else (∃ a30 : Addr, v15_0.a = some a30 ∧ 0 ≤ (0 : Int) ∧ 0 < (v15_0.l : Int) ∧ (∃ (v31 : ByteArray), H.rd h_1 (Addr.add a30 (Int.toNat 0 * 1)) = some (.string v31) ∧ S38 v31 h_1 (fun (v32_0 : Sl) (v32_1 : Int) (h_2 : H) => (if (v32_1 != 0) = true then K Sl.nil Sl.nil 1 v32_1 h_2 else ((0 : Int) ≤ 1 ∧ 1 ≤ (v15_0.l : Int) ∧ (v15_0.l : Int) ≤ (v15_0.l : Int) ∧ v15_0.l ≤ v15_0.c ∧ lfp (fun X s h_4 => S12_l2 K v15_0 X s.1 s.2.1 s.2.2.1 s.2.2.2.1 s.2.2.2.2.1 s.2.2.2.2.2 h_4) (0, 0, v32_0, Sl.nil, Sl.nil, Sl.nil) h_2))))))))
end Go.Proofs.YtimadnngfhbfiaaGreatDoor
end

section
/-
  The program's lexer: lines, words, numbers, letters, directions.
-/
namespace Go.Text
open Go Go.Mu Go.Shape
theorem splitC_snoc_ne {c b : UInt8} (hb : b ≠ c) : ∀ u : Bs, ∃ l x, splitC c (u ++ [b]) = l ++ [x ++ [b]]
  | [] => ⟨[], [], by simp [splitC, hb]⟩
  | d :: u => by
    obtain ⟨l, x, e⟩ := splitC_snoc_ne hb u
    rw [List.cons_append, splitC, e]
    by_cases hd : d = c
    · rw [if_pos hd]; exact ⟨[] :: l, x, rfl⟩
    · rw [if_neg hd]
      cases l with
      | nil => exact ⟨[], d :: x, rfl⟩
      | cons y l => exact ⟨(d :: y) :: l, x, by simp⟩
theorem lines_nil : linesP [] = some [] := rfl
theorem lines_snoc (u : Bs) : linesP (u ++ [10]) = some (splitC 10 u) := by
  unfold linesP
  rw [splitC_snoc]; simp
theorem lines_bad {u : Bs} {b : UInt8} (hb : b ≠ 10) : linesP (u ++ [b]) = none := by
  unfold linesP
  obtain ⟨l, x, e⟩ := splitC_snoc_ne hb u
  rw [e, if_neg]
  simp
theorem get_B {l : Bs} {i : Nat} {x : UInt8} (e : l[i]? = some x) : (B l).get! i = x := by
  have hl : i < l.length := (List.getElem?_eq_some_iff.1 e).1
  have := B_get e (by rw [B_size]; exact hl)
  rw [← this]
  show (B l).data[i]! = (B l).data[i]
  rw [getElem!_pos (B l).data i (by simpa using hl)]
theorem dec_low {l : Bs} {i : Nat} {x : UInt8} (e : l[i]? = some x) (hx : x.toNat < 128) : Utf8.decode (B l) i = (x.toNat, 1) := by
  have hl : i < (B l).size := by rw [B_size]; exact (List.getElem?_eq_some_iff.1 e).1
  have := B_get e hl
  rw [decode_ascii (B l) i hl (by rw [this]; exact hx), this]
theorem dec_high {l : Bs} {i : Nat} {x : UInt8} (e : l[i]? = some x) (hx : 128 ≤ x.toNat) : 128 ≤ (Utf8.decode (B l) i).1 := by
  have hl : i < (B l).size := by rw [B_size]; exact (List.getElem?_eq_some_iff.1 e).1
  exact (decode_high (B l) i hl (by rw [B_get e hl]; exact hx)).1
theorem dec_is {l : Bs} {i : Nat} {x a : UInt8} (e : l[i]? = some x) (ha : a.toNat < 128) : (((Utf8.decode (B l) i).1 : Int) == (a.toNat : Int)) = (x == a) := by
  by_cases hx : x.toNat < 128
  · rw [dec_low e hx, u8_ne]
    by_cases h : x = a <;> simp [h]
  · have := dec_high e (by omega)
    have h1 : x ≠ a := fun q => by rw [q] at hx; omega
    rw [beq_eq_false_iff_ne.2 h1]
    exact beq_eq_false_iff_ne.2 fun q => by omega
def isIn (a b x : UInt8) : Bool := x == a || x == b
theorem trimB_none {l : Bs} {c : UInt8} (h : c ∉ l) : Lib.trimB l c = l := by
  have k : ∀ m : Bs, c ∉ m → m.dropWhile (· == c) = m := by
    intro m hm
    cases m with
    | nil => rfl
    | cons x m =>
      have : (x == c) = false := beq_eq_false_iff_ne.2 fun q => hm (q ▸ List.mem_cons_self)
      rw [List.dropWhile_cons, this]; rfl
  unfold Lib.trimB Lib.trimLeftB Lib.trimRightB
  rw [k l.reverse (by simpa using h), List.reverse_reverse, k l h]
theorem decFrom_num : ∀ (w : Bs) (a : Nat), w.all digit = true → Lib.decFrom a w = some (w.foldl (fun a b => 10 * a + (b.toNat - 48)) a)
  | [], a, _ => rfl
  | b :: w, a, h => by
    have hb := digit_ge (List.all_eq_true.1 h b List.mem_cons_self)
    have hw : w.all digit = true := List.all_eq_true.2 fun x hx => List.all_eq_true.1 h x (List.mem_cons_of_mem _ hx)
    unfold Lib.decFrom Lib.digitVal
    rw [if_pos hb]
    simp only
    rw [decFrom_num w _ hw, List.foldl_cons, Nat.mul_comm a 10]
theorem atoi_num {w : Bs} (h0 : w ≠ []) (h : w.all digit = true) : Lib.atoi w = some (numP w : Int) := by
  cases w with
  | nil => exact absurd rfl h0
  | cons b w =>
    have hb := digit_ge (List.all_eq_true.1 h b List.mem_cons_self)
    have h1 : (b == 45) = false := beq_eq_false_iff_ne.2 fun q => by rw [q] at hb; exact absurd hb.1 (by decide)
    have h2 : (b == 43) = false := beq_eq_false_iff_ne.2 fun q => by rw [q] at hb; exact absurd hb.1 (by decide)
    simp only [Lib.atoi, h1, h2, Bool.false_eq_true, if_false, Lib.decNat, List.isEmpty_cons]
    rw [decFrom_num _ _ h]; rfl
theorem last_of {w : Bs} (h : w ≠ []) : ∃ u x, w = u ++ [x] := ⟨w.dropLast, w.getLast h, (List.dropLast_concat_getLast h).symm⟩
end Go.Text
namespace Go.Proofs.YtimadnngfhbfiaaGreatDoor
open Go Go.Mu Go.Shape Go.Text
variable {h h0 : H}
set_option maxHeartbeats 1000000

abbrev row1 (g n : Nat) : Sl := ⟨some ⟨g, 0, none⟩, n, n⟩
theorem Rd.row {g n e : Nat} {wr cl : Bool} {l : List Bs} (hn : n = l.length) : Rd (h.set g (.row ⟨l.map fun b => Value.string (B b), n, e, wr, cl⟩)) (row1 g n) 1 encS l := by
  refine ⟨hn, fun _ _ => rfl, fun _ => ⟨_, rfl, fun i x hi => ⟨rfl, fun j v hj => ?_⟩⟩⟩
  have hj0 : j = 0 := by have := (List.getElem?_eq_some_iff.1 hj).1; simp at this; exact this
  subst hj0
  have hv : v = .string (B x) := by simpa using hj.symm
  rw [Addr.add_n, Addr.add_n]
  simp [H.rd, H.set_eq, hi, hv]
theorem c86 {s : Bs} {c : UInt8} (hs : s.length ≤ 1048576) {K : Sl → H → Prop} (k : ∀ g h', h.Le h' → Rd h' (row1 g (splitC c s).length) 1 encS (splitC c s) → K (row1 g (splitC c s).length) h') : S86 (B s) ⟨#[c]⟩ h K := by
  unfold S86 S52
  refine ⟨c, 0, rfl, rfl, by decide, rfl, by rw [B_size]; exact hs, fun g n h1 hg hn e => ?_⟩
  have es := splitB_C c s
  rw [show (⟨#[c]⟩ : ByteArray) = B [c] from rfl, es] at hn e
  rw [List.length_map] at hn
  rw [List.map_map] at e
  subst hn
  refine k g h1 (e ▸ H.Le.put _ hg) ?_
  rw [e]
  exact Rd.row rfl
theorem c125 {l : List Bs} {sl : Sl} (rd : Rd h sl 1 encS l) (hl : l.length ≤ 4000000) {K : Bool → H → Prop} (k : K (decide ([] ∈ l)) h) : S125 sl ⟨#[]⟩ h K := by
  unfold S125 S160
  have hn := rd.len
  refine lfp.count l.length (fun i (u : Int) h' => u = (i : Int) ∧ h' = h ∧ [] ∉ l.take i) (fun X i u h' hi ⟨q1, q2, q3⟩ next => ?_) ⟨rfl, rfl, by simp⟩
  subst q1 q2
  unfold S160_l2 S160_j1
  by_cases hlt : i < l.length
  · rw [if_pos (by simp; omega)]
    obtain ⟨x, hx⟩ : ∃ x, l[i]? = some x := ⟨_, List.getElem?_eq_getElem hlt⟩
    refine rdS rd hx ?_
    rw [show (⟨#[]⟩ : ByteArray) = B [] from rfl, beqB, wsucc (by omega)]
    by_cases h1 : ([] : Bs) = x
    · rw [if_pos (by simpa using h1)]
      rw [decide_eq_true (show [] ∈ l from by rw [h1]; exact List.mem_of_getElem? hx)] at k
      rw [decide_eq_true (by omega)]; exact k
    · rw [if_neg (by simpa using h1)]
      refine next hlt _ _ ⟨rfl, rfl, ?_⟩
      rw [List.take_add_one, hx]
      simp only [List.mem_append, Option.toList_some, List.mem_singleton, not_or]
      exact ⟨q3, h1⟩
  · rw [if_neg (by simp; omega)]
    rw [List.take_of_length_le (by omega)] at q3
    rw [decide_eq_false q3] at k
    exact k
theorem c87 {s : Bs} (hs : s.length ≤ 1048576) {K : Sl → Bool → H → Prop} (k0 : wordsP s = none → ∀ h', h.Le h' → K Sl.nil false h') (k1 : ∀ w, wordsP s = some w → ∀ g h', h.Le h' → Rd h' (row1 g w.length) 1 encS w → K (row1 g w.length) true h') : S87 (B s) h K := by
  unfold S87
  refine c86 hs fun g h1 le rd => c125 rd (by have := splitC_len 32 s; omega) ?_
  by_cases hm : [] ∈ splitC 32 s
  · rw [decide_eq_true hm, if_pos rfl]
    exact k0 (by unfold wordsP; rw [if_pos hm]) _ le
  · rw [decide_eq_false hm, if_neg (by decide)]
    exact k1 _ (by unfold wordsP; rw [if_neg hm]) g _ le rd
theorem c100 {u : Bs} {b : UInt8} (hs : u.length < 1048576) {K : Bool → H → Prop} (k : K (decide (b = 10)) h) : S100 (B (u ++ [b])) ⟨#[10]⟩ h K := by
  unfold S100 S100_j1
  have e1 : ByteArray.size ⟨#[10]⟩ = 1 := rfl
  rw [e1, B_size, List.length_append, List.length_singleton, if_pos (by simp only [decide_eq_true_eq]; omega), wrapN (x := ((u.length + 1 : Nat) : Int) - ((1 : Nat) : Int)) (n := u.length) (by omega) (by omega)]
  refine ⟨by omega, by omega, ?_⟩
  rw [Int.toNat_natCast, B_ext, List.take_of_length_le (by simp), List.drop_left, show (⟨#[10]⟩ : ByteArray) = B [10] from rfl, beqB]
  simpa using k
theorem c37 {s : Bs} (hs : s.length ≤ 1048576) {K : Sl → Int → H → Prop} (k0 : linesP s = none → ∀ h', h.Le h' → K Sl.nil 4 h') (k1 : ∀ w, linesP s = some w → ∀ sl h', h.Le h' → (w ≠ [] → ∃ g, sl = row1 g w.length) → Rd h' sl 1 encS w → K sl 0 h') : S37 (B s) h K := by
  unfold S37
  rw [B_size, if_neg (by simp; omega), show (⟨#[]⟩ : ByteArray) = B [] from rfl, beqB]
  by_cases h0 : s = []
  · subst h0
    rw [if_pos (by simp)]
    exact k1 [] lines_nil _ _ (H.Le.refl h) (fun q => absurd rfl q) Rd.nil
  · rw [if_neg (by simpa using h0)]
    obtain ⟨u, b, rfl⟩ := last_of h0
    rw [List.length_append, List.length_singleton] at hs
    unfold S85
    refine c100 (by omega) ?_
    by_cases hb : b = 10
    · subst hb
      rw [decide_eq_true rfl, if_neg (by decide)]
      unfold S22 S53
      refine c100 (by omega) ?_
      rw [decide_eq_true rfl, if_pos rfl]
      have e1 : ByteArray.size ⟨#[10]⟩ = 1 := rfl
      rw [e1, B_size, List.length_append, List.length_singleton, wrapN (x := ((u.length + 1 : Nat) : Int) - ((1 : Nat) : Int)) (n := u.length) (by omega) (by omega)]
      refine ⟨by omega, by omega, ?_⟩
      rw [Int.toNat_natCast, B_ext, List.take_left, List.drop_zero]
      refine c86 (by omega) fun g h1 le rd => ?_
      exact k1 _ (lines_snoc u) _ _ le (fun _ => ⟨g, rfl⟩) rd
    · rw [decide_eq_false hb]
      dsimp only
      rw [if_pos (by decide)]
      exact k0 (lines_bad hb) _ (H.Le.refl h)
/-- The inner loop over a set of two letters. -/
theorem in2 {a b : UInt8} (ha : a.toNat < 128) (hb : b.toNat < 128) (r : Int) (q : Bool) (hq : q = ((r == (a.toNat : Int)) || (r == (b.toNat : Int)))) {F : ((Bool × Nat) → H → Prop) → (Bool × Nat) → H → Prop} {J : Bool → H → Prop}
    (hF : ∀ X s h', F X s h' = if s.2 < ByteArray.size ⟨#[a, b]⟩ then X ((s.1 || (r == ((Utf8.decode ⟨#[a, b]⟩ s.2).1 : Int))), s.2 + (Utf8.decode ⟨#[a, b]⟩ s.2).2) h' else J s.1 h') (k : J q h) : lfp F (false, 0) h := by
  have e0 : Utf8.decode ⟨#[a, b]⟩ 0 = (a.toNat, 1) := dec_low (l := [a, b]) (i := 0) rfl ha
  have e1 : Utf8.decode ⟨#[a, b]⟩ 1 = (b.toNat, 1) := dec_low (l := [a, b]) (i := 1) rfl hb
  have e2 : ByteArray.size ⟨#[a, b]⟩ = 2 := rfl
  intro X hX
  refine hX _ _ ?_
  rw [hF, if_pos (by rw [e2]; decide)]
  simp only [e0, Nat.zero_add]
  refine hX _ _ ?_
  rw [hF, if_pos (by rw [e2]; show 1 < 2; decide)]
  simp only [e1]
  refine hX _ _ ?_
  rw [hF, if_neg (by rw [e2]; show ¬ 2 < 2; decide)]
  simp only [Bool.false_or]
  rw [← hq]; exact k
theorem c97 {w : Bs} {a b : UInt8} (ha : a.toNat < 128) (hb : b.toNat < 128) {K : ByteArray → H → Prop} (k : K (B (w.dropWhile (isIn a b))) h) : S97 (B w) ⟨#[a, b]⟩ h K := by
  unfold S97
  refine lfp.count w.length (fun i (u : Nat) h' => u = i ∧ h' = h ∧ w.dropWhile (isIn a b) = (w.drop i).dropWhile (isIn a b)) (fun X i u h' hi ⟨q1, q2, q3⟩ next => ?_) ⟨rfl, rfl, rfl⟩
  subst q1 q2
  unfold S97_l4
  rw [B_size]
  by_cases hlt : u < w.length
  · rw [if_pos hlt]
    obtain ⟨x, hx⟩ : ∃ x, w[u]? = some x := ⟨_, List.getElem?_eq_getElem hlt⟩
    rw [drop_cons hx, List.dropWhile_cons] at q3
    refine in2 (J := S97_j2 (B w) K u X) ha hb ((Utf8.decode (B w) u).1 : Int) (isIn a b x) (by rw [dec_is hx ha, dec_is hx hb]; rfl) (fun X' s h2 => rfl) ?_
    unfold S97_j2
    by_cases hin : isIn a b x = true
    · rw [hin, if_neg (by decide)]
      rw [hin, if_pos rfl] at q3
      have hx8 : x.toNat < 128 := by
        unfold isIn at hin
        simp only [Bool.or_eq_true, beq_iff_eq] at hin
        rcases hin with rfl | rfl <;> assumption
      rw [dec_low hx hx8]
      exact next hlt _ _ ⟨rfl, rfl, q3⟩
    · rw [Bool.not_eq_true] at hin
      rw [hin, if_pos (by decide)]
      rw [hin, if_neg (by decide), ← drop_cons hx] at q3
      refine ⟨by omega, by rw [B_size]; omega, ?_⟩
      rw [Int.toNat_natCast, B_size, B_ext, List.take_length, ← q3]
      exact k
  · rw [if_neg hlt]
    unfold S97_j1
    rw [List.drop_eq_nil_of_le (by omega)] at q3
    rw [q3] at k
    exact k
theorem c96 {w : Bs} {a b : UInt8} (tb : TabsH h) (hw : w.length ≤ 1048576) (ha : a.toNat < 128) (hb : b.toNat < 128) {K : ByteArray → H → Prop} (k : ∀ u, (u = [] ↔ w.all (isIn a b) = true) → K (B u) h) : S96 (B w) ⟨#[a, b]⟩ h K := by
  unfold S96
  refine lfp.count w.length (fun i (v : ByteArray) h' => h' = h ∧ ∃ u, v = B u ∧ u.length + i = w.length ∧ (w.all (isIn a b) = true ↔ u.all (isIn a b) = true)) (fun X i v h' hi ⟨q1, u, q2, q3, q4⟩ next => ?_) ⟨rfl, w, rfl, rfl, Iff.rfl⟩
  subst q1 q2
  unfold S96_l4
  rw [B_size]
  by_cases h0 : u = []
  · subst h0
    rw [if_neg (by simp)]
    unfold S96_j1
    exact k [] ⟨fun _ => q4.2 rfl, fun _ => rfl⟩
  · obtain ⟨y, x, rfl⟩ := last_of h0
    rw [List.length_append, List.length_singleton] at q3
    rw [if_pos (by simp)]
    have hlast : (y ++ [x])[y.length]? = some x := by simp
    have hg : (B (y ++ [x])).get! ((B (y ++ [x])).size - 1) = x := by
      rw [B_size, List.length_append, List.length_singleton, Nat.add_sub_cancel]; exact get_B hlast
    have step : ∀ (r n : Int), (((r == (a.toNat : Int)) || (r == (b.toNat : Int))) = isIn a b x) → (isIn a b x = true → n = 1) → lfp (fun X_1 s h_5 => S96_l3 ⟨#[a, b]⟩ K (B (y ++ [x])) X r n X_1 s.1 s.2 h_5) (false, 0) h' := by
      intro r n e1 e2
      refine in2 (J := S96_j2 K (B (y ++ [x])) X n) ha hb r (isIn a b x) e1.symm (fun X' s h2 => rfl) ?_
      unfold S96_j2
      by_cases hin : isIn a b x = true
      · rw [hin, if_neg (by decide), e2 hin, B_size, List.length_append, List.length_singleton, wrapN (x := ((y.length + 1 : Nat) : Int) - 1) (n := y.length) (by omega) (by omega)]
        refine ⟨by omega, by omega, ?_⟩
        rw [Int.toNat_natCast, B_ext, List.take_left, List.drop_zero]
        refine next (by omega) _ _ ⟨rfl, y, rfl, by omega, ?_⟩
        rw [q4, List.all_append]; simp [hin]
      · rw [Bool.not_eq_true] at hin
        rw [hin, if_pos (by decide)]
        refine k _ ⟨fun q => by simp at q, fun q => ?_⟩
        have := q4.1 q
        rw [List.all_append] at this
        simp [hin] at this
    refine ⟨by rw [B_size]; simp, by rw [B_size, List.length_append, List.length_singleton]; omega, tb, fun hx => ?_, fun hx r n hr => ?_⟩
    · rw [hg] at hx ⊢
      exact step _ _ (by rw [u8_ne, u8_ne]; by_cases h1 : x = a <;> by_cases h2 : x = b <;> simp [isIn, h1, h2]) fun _ => rfl
    · rw [hg] at hx
      refine step _ _ ?_ fun q => ?_
      · have h1 : ((r : Int) == (a.toNat : Int)) = false := beq_eq_false_iff_ne.2 fun q => by omega
        have h2 : ((r : Int) == (b.toNat : Int)) = false := beq_eq_false_iff_ne.2 fun q => by omega
        have h3 : x ≠ a := fun q => by rw [q] at hx; omega
        have h4 : x ≠ b := fun q => by rw [q] at hx; omega
        rw [h1, h2]; simp [isIn, h3, h4]
      · unfold isIn at q
        simp only [Bool.or_eq_true, beq_iff_eq] at q
        rcases q with rfl | rfl <;> omega
theorem all_drop {p : UInt8 → Bool} : ∀ w : Bs, (w.dropWhile p).all p = w.all p
  | [] => rfl
  | x :: w => by
    rw [List.dropWhile_cons]
    by_cases h : p x = true
    · rw [if_pos h, all_drop w, List.all_cons, h, Bool.true_and]
    · rw [if_neg h]
theorem c49 {w : Bs} {a b : UInt8} (tb : TabsH h) (hw : w.length ≤ 1048576) (ha : a.toNat < 128) (hb : b.toNat < 128) {K : Bool → H → Prop} (k : K (w.all (isIn a b)) h) : S49 (B w) ⟨#[a, b]⟩ h K := by
  unfold S49
  refine c97 ha hb (c96 tb ?_ ha hb fun u hu => ?_)
  · exact Nat.le_trans (List.Sublist.length_le (List.dropWhile_sublist _)) hw
  · rw [show (⟨#[]⟩ : ByteArray) = B [] from rfl, beqB]
    rw [all_drop] at hu
    by_cases h0 : u = []
    · rw [decide_eq_true h0, ← hu.1 h0]; exact k
    · rw [decide_eq_false h0]
      have : w.all (isIn a b) = false := by
        rw [← Bool.not_eq_true]; exact fun q => h0 (hu.2 q)
      rw [← this]; exact k
theorem c163 {w : Bs} {K : Bool → H → Prop} (k : K (!(w.all digit)) h) : S163 (B w) h K := by
  unfold S163 S184 S199
  refine lfp.count w.length (fun i (u : Nat) h' => u = i ∧ h' = h ∧ (w.take i).all digit = true) (fun X i u h' hi ⟨q1, q2, q3⟩ next => ?_) ⟨rfl, rfl, by simp⟩
  subst q1 q2
  unfold S199_l2 S199_j1 S164 S165 S165_j1
  rw [B_size]
  by_cases hlt : u < w.length
  · rw [if_pos hlt]
    obtain ⟨x, hx⟩ : ∃ x, w[u]? = some x := ⟨_, List.getElem?_eq_getElem hlt⟩
    have e : (decide (((Utf8.decode (B w) u).1 : Int) ≥ 48) && decide (((Utf8.decode (B w) u).1 : Int) ≤ 57)) = digit x := by
      by_cases hx8 : x.toNat < 128
      · rw [dec_low hx hx8]
        unfold digit
        congr 1 <;> exact decide_eq_decide.2 (by simp only; omega)
      · have := dec_high hx (by omega)
        unfold digit
        rw [decide_eq_false (p := ((Utf8.decode (B w) u).1 : Int) ≤ 57) (by omega), decide_eq_false (p := x.toNat ≤ 57) (by omega), Bool.and_false, Bool.and_false]
    rw [e]
    by_cases hd : digit x = true
    · rw [hd, if_neg (by decide), dec_low hx (by have := digit_ge hd; omega)]
      refine next hlt _ _ ⟨rfl, rfl, ?_⟩
      rw [List.take_add_one, hx, List.all_append, q3]; simp [hd]
    · rw [Bool.not_eq_true] at hd
      rw [hd, if_pos (by decide)]
      show K (decide ((u : Int) ≥ 0)) h'
      rw [decide_eq_true (by omega)]
      rw [List.all_eq_false.2 ⟨x, List.mem_of_getElem? hx, by simp [hd]⟩] at k
      exact k
  · rw [if_neg hlt]
    rw [List.take_of_length_le (by omega)] at q3
    rw [q3] at k
    exact k
theorem c133 {w : Bs} (hw : w.length ≤ 1048576) {K : Int → Bool → H → Prop} (k0 : numberP w = none → K 0 false h) (k1 : ∀ v : Nat, numberP w = some v → K v true h) : S133 (B w) 9999999 h K := by
  unfold S133
  refine c163 ?_
  rw [Bool.not_not]
  have none_ : (w.length < 1 ∨ 7 < w.length ∨ (1 < w.length ∧ w[0]? = some 48) ∨ w.all digit = false) → S133_j1 (B w) 9999999 K true h := fun q => by
    unfold S133_j1; rw [if_pos rfl]
    exact k0 (by unfold numberP; rw [if_pos q])
  by_cases h4 : w.all digit = true
  · rw [h4, if_neg (by decide), show (⟨#[]⟩ : ByteArray) = B [] from rfl, beqB]
    by_cases h1 : w = []
    · rw [if_pos (by simpa using h1)]
      exact none_ (.inl (by rw [h1]; decide))
    · have hl : 0 < w.length := List.length_pos_iff.2 h1
      rw [if_neg (by simpa using h1), B_size]
      by_cases h2 : 7 < w.length
      · rw [if_pos (by simp; omega)]
        exact none_ (.inr (.inl h2))
      · rw [if_neg (by simp; omega)]
        have main : ¬ (1 < w.length ∧ w[0]? = some 48) → S133_j1 (B w) 9999999 K false h := fun h3 => by
          unfold S133_j1
          rw [if_neg (by decide)]
          refine ⟨numP w, by rw [B_size]; omega, by rw [B_list]; exact atoi_num h1 h4, ?_⟩
          have := numP_lt h4 (by omega)
          dsimp only
          rw [if_neg (by simp; omega)]
          refine k1 _ ?_
          unfold numberP
          rw [if_neg]
          simp only [not_or, Bool.not_eq_false]
          exact ⟨by omega, h2, h3, h4⟩
        by_cases h3 : 1 < w.length
        · rw [if_pos (by simp; omega)]
          refine ⟨by omega, by omega, ?_⟩
          obtain ⟨x, hx⟩ : ∃ x, w[0]? = some x := ⟨_, List.getElem?_eq_getElem (by omega)⟩
          rw [byteAt_z hx, show (48 : Int) = ((48 : UInt8).toNat : Int) from rfl, u8_ne]
          by_cases h5 : x = 48
          · subst h5
            rw [decide_eq_true rfl]
            exact none_ (.inr (.inr (.inl ⟨h3, hx⟩)))
          · rw [decide_eq_false h5]
            exact main fun q => h5 (by rw [hx] at q; exact Option.some.inj q.2)
        · rw [if_neg (by simp; omega)]
          exact main fun q => h3 q.1
  · rw [Bool.not_eq_true] at h4
    rw [h4, if_pos (by decide)]
    exact none_ (.inr (.inr (.inr h4)))
theorem c89 {w : Bs} {n : Nat} (hw : w.length ≤ 1048576) {K : Int → Int → H → Prop} (k0 : ∀ e : Nat, vertP w n = .error e → K 0 e h) (k1 : ∀ v : Nat, vertP w n = .ok v → K v 0 h) : S89 (B w) n h K := by
  unfold S89
  refine c133 hw (fun e0 => ?_) fun v e0 => ?_
  · rw [if_pos (by decide)]
    exact k0 5 (by unfold vertP; rw [e0])
  · rw [if_neg (by decide)]
    by_cases hv : n ≤ v
    · rw [if_pos (by simp; omega)]
      exact k0 3 (by unfold vertP; rw [e0]; simp only; rw [if_pos hv])
    · rw [if_neg (by simp; omega)]
      exact k1 v (by unfold vertP; rw [e0]; simp only; rw [if_neg hv])
theorem c90 {w : Bs} {K : Int → Bool → H → Prop} (k0 : dirP w = none → K 0 false h) (k1 : ∀ d : Nat, dirP w = some d → K d true h) : S90 (B w) h K := by
  unfold S90
  rw [B_size]
  by_cases h1 : w.length = 1
  · rw [if_neg (by simp; omega)]
    obtain ⟨c, rfl⟩ : ∃ c, w = [c] := by
      match w, h1 with
      | [c], _ => exact ⟨c, rfl⟩
    refine ⟨c, rfl, ?_⟩
    rw [B_list (l := [69, 78, 87, 83])]
    unfold S90_j1
    have h45 : c = 69 ∨ c = 78 ∨ c = 87 ∨ c = 83 ∨ (c ≠ 69 ∧ c ≠ 78 ∧ c ≠ 87 ∧ c ≠ 83) := by
      by_cases a0 : c = 69
      · exact .inl a0
      · by_cases a1 : c = 78
        · exact .inr (.inl a1)
        · by_cases a2 : c = 87
          · exact .inr (.inr (.inl a2))
          · by_cases a3 : c = 83
            · exact .inr (.inr (.inr (.inl a3)))
            · exact .inr (.inr (.inr (.inr ⟨a0, a1, a2, a3⟩)))
    rcases h45 with rfl | rfl | rfl | rfl | ⟨a0, a1, a2, a3⟩
    · dsimp only; rw [show decide (0 ≤ Lib.indexByte [69, 78, 87, 83] 69) = true from rfl, if_neg (by decide)]; exact ⟨69, rfl, k1 0 rfl⟩
    · dsimp only; rw [show decide (0 ≤ Lib.indexByte [69, 78, 87, 83] 78) = true from rfl, if_neg (by decide)]; exact ⟨78, rfl, k1 1 rfl⟩
    · dsimp only; rw [show decide (0 ≤ Lib.indexByte [69, 78, 87, 83] 87) = true from rfl, if_neg (by decide)]; exact ⟨87, rfl, k1 2 rfl⟩
    · dsimp only; rw [show decide (0 ≤ Lib.indexByte [69, 78, 87, 83] 83) = true from rfl, if_neg (by decide)]; exact ⟨83, rfl, k1 3 rfl⟩
    · have e : Lib.indexByte [69, 78, 87, 83] c = -1 := by
        simp [Lib.indexByte, Ne.symm a0, Ne.symm a1, Ne.symm a2, Ne.symm a3]
      rw [e]
      dsimp only
      rw [if_pos (by decide)]
      exact k0 (by simp [dirP, a0, a1, a2, a3])
  · rw [if_pos (by simp; omega)]
    unfold S90_j1
    rw [if_pos rfl]
    refine k0 ?_
    unfold dirP
    rw [if_neg (fun q => h1 (by rw [q]; rfl)), if_neg (fun q => h1 (by rw [q]; rfl)), if_neg (fun q => h1 (by rw [q]; rfl)), if_neg (fun q => h1 (by rw [q]; rfl))]
end Go.Proofs.YtimadnngfhbfiaaGreatDoor
end

section
/-
  The program's parser: the first line, an edge, a whole text.
-/
namespace Go.Proofs.YtimadnngfhbfiaaGreatDoor
open Go Go.Mu Go.Shape Go.Text
variable {h h0 : H}
set_option maxHeartbeats 1000000

theorem c38l {u : Bs} (hu : u.length ≤ 1048576) {K : Sl → Int → H → Prop} (k : ∀ sl h', h.Le h' → Rd h' sl 1 encB (u.map (· == 98)) → K sl 0 h') (hlow : ∀ x ∈ u, x.toNat < 128) : lfp (fun X s h_5 => S38_l2 K (B u) X s.1 s.2 h_5) (Sl.nil, 0) h := by
  refine lfp.count u.length (fun i (v : Sl × Nat) h' => v.2 = i ∧ St h h' (fun _ : Unit => .arr v.1 4 1 (((u.take i).map (· == 98)).flatMap encB))) (fun X i v h' hi ⟨q2, st⟩ next => ?_) ⟨rfl, St.nil1 h⟩
  obtain ⟨v1, v2⟩ := v
  simp only at q2 st; subst q2
  simp only
  unfold S38_l2 S38_j1
  rw [B_size]
  by_cases hlt : v2 < u.length
  · rw [if_pos hlt]
    obtain ⟨x, hx⟩ : ∃ x, u[v2]? = some x := ⟨_, List.getElem?_eq_getElem hlt⟩
    rw [show (98 : Int) = ((98 : UInt8).toNat : Int) from rfl, dec_is hx (by decide), dec_low hx (hlow x (List.mem_of_getElem? hx))]
    refine appB (enc := encB) (x == 98) st (fun _ => rfl) (by decide) (by rw [List.length_map, List.length_take]; omega) (by decide) fun s' h3 st3 => ?_
    refine next hlt _ _ ⟨rfl, ?_⟩
    rw [List.take_add_one, hx, List.map_append]; exact st3
  · rw [if_neg hlt]
    rw [List.take_of_length_le (by omega)] at st
    exact k _ _ st.le (St.rd1 st (fun _ => rfl) (by decide))
theorem c38 {s : Bs} (tb : TabsH h) (hs : s.length ≤ 1048576) {K : Sl → Int → H → Prop} (k0 : ∀ e : Nat, headP s = .error e → ∀ h', h.Le h' → K Sl.nil e h') (k1 : ∀ bx, headP s = .ok bx → ∀ sl h', h.Le h' → Rd h' sl 1 encB bx → K sl 0 h') : S38 (B s) h K := by
  unfold S38
  refine c87 hs (fun hw h1 le1 => ?_) fun w hw g h1 le1 rd => ?_
  · rw [if_pos (by decide)]
    unfold S38_j3
    rw [if_pos rfl]
    exact k0 4 (by unfold headP; rw [hw]) _ le1
  · rw [if_neg (by decide)]
    have hl : (row1 g w.length).l = w.length := rfl
    have err4 : w.length ≠ 2 ∨ w[0]? ≠ some shapeB → S38_j3 K (row1 g w.length) true h1 := fun q => by
      unfold S38_j3
      rw [if_pos rfl]
      exact k0 4 (by unfold headP; rw [hw]; simp only; rw [if_pos q]) _ le1
    by_cases h2 : w.length = 2
    · rw [if_neg (by simp; omega)]
      have ew := two_of h2
      generalize w.getD 0 [] = x0, w.getD 1 [] = x1 at ew
      subst ew
      refine rdS rd (i := 0) rfl ?_
      have m1 : x1.length ≤ s.length := words_le hw (by simp)
      rw [show (⟨#[115, 104, 97, 112, 101]⟩ : ByteArray) = B shapeB from rfl, beqB]
      by_cases h3 : x0 = shapeB
      · subst h3
        rw [decide_eq_true rfl, if_neg (by decide)]
        refine rdS rd (i := 1) rfl ?_
        rw [show (⟨#[45]⟩ : ByteArray) = B [45] from rfl, beqB]
        have eh : headP s = if x1 = [45] then .ok [] else if x1.all isPB = false then .error 4 else if 4096 < x1.length then .error 6 else .ok (x1.map (· == 98)) := by
          unfold headP; rw [hw]; simp
        by_cases h4 : x1 = [45]
        · rw [decide_eq_true h4, if_neg (by decide)]
          rw [if_pos h4] at eh
          unfold S38_j3
          rw [if_neg (by decide)]
          refine rdS rd (i := 1) rfl ?_
          rw [B_size, if_neg (by rw [h4]; decide)]
          refine rdS rd (i := 1) rfl ?_
          refine .inl ⟨45, by decide, by rw [B_size]; omega, rfl, ?_⟩
          rw [B_list, h4, show Lib.trimB [45] 45 = [] from rfl]
          exact c38l (u := []) (by decide) (fun sl h' le r => k1 [] eh sl h' (le1.trans le) r) (by simp)
        · rw [decide_eq_false h4, if_pos (by decide)]
          rw [if_neg h4] at eh
          refine rdS rd (i := 1) rfl ?_
          refine c49 (a := 112) (b := 98) (tb.le le1) (by omega) (by decide) (by decide) ?_
          unfold S38_j3
          by_cases h5 : x1.all isPB = true
          · rw [show x1.all (isIn 112 98) = true from h5, if_neg (by decide)]
            rw [if_neg (by rw [h5]; decide)] at eh
            refine rdS rd (i := 1) rfl ?_
            rw [B_size]
            by_cases h7 : 4096 < x1.length
            · rw [if_pos (by simp; omega)]
              rw [if_pos h7] at eh
              exact k0 6 eh _ le1
            · rw [if_neg (by simp; omega)]
              rw [if_neg h7] at eh
              refine rdS rd (i := 1) rfl ?_
              have pb : ∀ x ∈ x1, x = 112 ∨ x = 98 := fun x hx => by
                have := List.all_eq_true.1 h5 x hx
                unfold isPB at this
                simpa using this
              refine .inl ⟨45, by decide, by rw [B_size]; omega, rfl, ?_⟩
              rw [B_list, trimB_none fun hm => by
                rcases pb 45 hm with q | q
                · exact absurd q (by decide)
                · exact absurd q (by decide)]
              refine c38l (by omega) (fun sl h' le r => k1 _ eh sl h' (le1.trans le) r) fun x hx => ?_
              rcases pb x hx with rfl | rfl <;> decide
          · rw [Bool.not_eq_true] at h5
            rw [show x1.all (isIn 112 98) = false from h5, if_pos (by decide)]
            rw [if_pos h5] at eh
            exact k0 4 eh _ le1
      · rw [decide_eq_false h3, if_pos (by decide)]
        exact err4 (.inr (by simpa using h3))
    · rw [if_pos (by simp; omega)]
      exact err4 (.inl h2)
theorem vertP_lt {w : Bs} {n e : Nat} (h : vertP w n = .error e) : e = 5 ∨ e = 3 := by
  unfold vertP at h
  split at h
  · cases h; exact .inl rfl
  · split at h
    · cases h; exact .inr rfl
    · cases h
theorem c39 {s : Bs} {n : Nat} (tb : TabsH h) (hs : s.length ≤ 1048576) {K : Int → Int → Int → ByteArray → Int → H → Prop} (k0 : ∀ e : Nat, edgeP s n = .error e → ∀ h', h.Le h' → K 0 0 0 (B []) e h')
    (k1 : ∀ x, edgeP s n = .ok x → ∀ h', h.Le h' → K x.f x.t x.d (bs x.b) 0 h') : S39 (B s) n h K := by
  unfold S39
  refine c87 hs (fun hw h1 le1 => ?_) fun w hw g h1 le1 rd => ?_
  · unfold S39_j1
    rw [if_pos (by simp)]
    exact k0 4 (by unfold edgeP; rw [hw]) _ le1
  · have hl : (row1 g w.length).l = w.length := rfl
    by_cases hlen : w.length < 3 ∨ 4 < w.length
    · unfold S39_j1
      rw [if_pos (by simp; omega)]
      exact k0 4 (by unfold edgeP; rw [hw]; simp only; rw [if_pos hlen]) _ le1
    · unfold S39_j1
      rw [if_neg (by simp; omega)]
      have eg : edgeP s n = match vertP (w.getD 0 []) n with
          | .error e => .error e
          | .ok f => match dirP (w.getD 1 []) with
            | none => .error 4
            | some d => match vertP (w.getD 2 []) n with
              | .error e => .error e
              | .ok t => if (w.getD 3 []).all isLR = false then .error 4 else .ok ⟨f, t, d, (w.getD 3 []).map (· == 76)⟩ := by
        unfold edgeP; rw [hw]; simp only; rw [if_neg hlen]; all_goals rfl
      have hmem : ∀ i, i < w.length → (w.getD i []).length ≤ s.length := fun i hi => words_le hw (List.mem_of_getElem? (getD_some hi))
      refine rdS rd (i := 0) (getD_some (by omega)) ?_
      refine c89 (by have := hmem 0 (by omega); omega) (fun e he => ?_) fun f hf => ?_
      · have := vertP_err he
        rw [if_pos (by simp; omega)]
        exact k0 e (by rw [eg, he]) _ le1
      · rw [if_neg (by decide)]
        refine rdS rd (i := 1) (getD_some (by omega)) ?_
        refine c90 (fun hd => ?_) fun d hd => ?_
        · rw [if_pos (by decide)]
          exact k0 4 (by rw [eg, hf]; simp only; rw [hd]) _ le1
        · rw [if_neg (by decide)]
          refine rdS rd (i := 2) (getD_some (by omega)) ?_
          refine c89 (by have := hmem 2 (by omega); omega) (fun e he => ?_) fun t ht => ?_
          · have := vertP_err he
            rw [if_pos (by simp; omega)]
            exact k0 e (by rw [eg, hf]; simp only; rw [hd]; simp only; rw [he]) _ le1
          · rw [if_neg (by decide)]
            refine ⟨by omega, by omega, by omega, Nat.le_refl _, ?_⟩
            have fin : S49 (B (w.getD 3 [])) ⟨#[76, 82]⟩ h1 (fun (v69 : Bool) (h_7 : H) => (if (!v69) = true then K 0 0 0 ⟨#[]⟩ 4 h_7 else K f t d (B (w.getD 3 [])) 0 h_7)) := by
              have hle3 : (w.getD 3 []).length ≤ 1048576 := by
                by_cases h3 : 3 < w.length
                · have := hmem 3 h3; omega
                · rw [List.getD_eq_getElem?_getD, List.getElem?_eq_none (by omega)]; decide
              refine c49 (a := 76) (b := 82) (tb.le le1) hle3 (by decide) (by decide) ?_
              by_cases hlr : (w.getD 3 []).all isLR = true
              · rw [show (w.getD 3 []).all (isIn 76 82) = true from hlr, if_neg (by decide)]
                have := k1 _ (by rw [eg, hf]; simp only; rw [hd]; simp only; rw [ht]; simp only; rw [if_neg (by rw [hlr]; decide)]) _ le1
                rw [lr_bs hlr] at this
                exact this
              · rw [Bool.not_eq_true] at hlr
                rw [show (w.getD 3 []).all (isIn 76 82) = false from hlr, if_pos (by decide)]
                exact k0 4 (by rw [eg, hf]; simp only; rw [hd]; simp only; rw [ht]; simp only; rw [if_pos hlr]) _ le1
            match w, hlen, rd, fin with
            | [x0, x1, x2], _, rd, fin => exact .inl ⟨rfl, fin⟩
            | [x0, x1, x2, x3], _, rd, fin =>
              refine .inr ⟨g, 3, [B x3], rfl, rfl, Nat.one_pos, Nat.le_refl _, by simp, ?_, ?_, ?_⟩
              · rw [List.map_cons, List.map_nil, Lib.join_one, B_list]
                have := hmem 3 (by simp)
                simp only [List.getD_cons_succ, List.getD_cons_zero] at this
                omega
              · obtain ⟨a, ha, hrd⟩ := rd.ix (i := 3) rfl
                cases ha
                rw [Addr.add_n] at hrd
                exact hrd
              · rw [List.map_cons, List.map_nil, Lib.join_one, B_list]
                exact fin
            | [], hq, _, _ => simp at hq
            | [_], hq, _, _ => simp at hq
            | [_, _], hq, _, _ => simp at hq
            | _ :: _ :: _ :: _ :: _ :: _, hq, _, _ => simp at hq
theorem rdShift {g : Nat} {l : Bs} {ls : List Bs} (rd : Rd h (row1 g (l :: ls).length) 1 encS (l :: ls)) {i : Nat} {x : Bs} (hx : ls[i]? = some x) {P : ByteArray → Prop} (hp : P (B x)) :
    ∃ a : Addr, (if (row1 g (l :: ls).length).c = Int.toNat 1 then (row1 g (l :: ls).length).a else Option.map (fun x => Addr.add x (Int.toNat 1 * 1)) (row1 g (l :: ls).length).a) = some a ∧ 0 ≤ (i : Int) ∧ (i : Int) < ((Nat.sub (Int.toNat ((row1 g (l :: ls).length).l : Int)) (Int.toNat 1) : Nat) : Int) ∧ ∃ v : ByteArray, h.rd (a.add (Int.toNat (i : Int) * 1)) = some (.string v) ∧ P v := by
  have hl := (List.getElem?_eq_some_iff.1 hx).1
  obtain ⟨a, ha, hrd⟩ := rd.ix (i := i + 1) (y := x) (by simpa using hx)
  cases ha
  have e1 : ¬ (row1 g (l :: ls).length).c = Int.toNat 1 := by
    show ¬ ls.length + 1 = 1
    omega
  refine ⟨⟨g, 1, none⟩, by rw [if_neg e1]; rfl, by omega, ?_, B x, ?_, hp⟩
  · show (i : Int) < ((ls.length + 1 - 1 : Nat) : Int)
    omega
  · rw [Int.toNat_natCast, Addr.add_n, Nat.mul_one, Nat.add_comm]
    have := hrd.at0
    rwa [Addr.add_n, Nat.zero_add, Nat.mul_one] at this
theorem c12 {s : Bs} (tb : TabsH h) (hs : s.length ≤ 1048576) {K : Sl → Sl → Int → Int → H → Prop} (k : ∀ s0 s1 h', h.Le h' → Rd h' s0 1 encB (parseP s).bx → Rd h' s1 4 Ed.enc (parseP s).es → K s0 s1 (parseP s).n (parseP s).e h') : S12 (B s) h K := by
  have bad : ∀ (m e : Nat) h', h.Le h' → parseP s = ⟨[], [], m, e⟩ → K Sl.nil Sl.nil m e h' := fun m e h' le q => by
    have := k Sl.nil Sl.nil h' le
    rw [q] at this
    exact this Rd.nil Rd.nil
  unfold S12
  refine c37 hs (fun hl h1 le1 => ?_) fun L hl sl h1 le1 hsl rd => ?_
  · rw [if_pos (by decide)]
    exact bad 0 4 _ le1 (by unfold parseP; rw [hl])
  · rw [if_neg (by decide)]
    have hLs := lines_len hl
    cases L with
    | nil =>
      have hll := rd.len
      rw [if_pos (by simp at hll ⊢; omega)]
      exact bad 1 4 _ le1 (by unfold parseP; rw [hl])
    | cons l ls =>
      obtain ⟨g, rfl⟩ := hsl (by simp)
      have hll : (row1 g (l :: ls).length).l = ls.length + 1 := rfl
      rw [if_neg (by simp only [beq_iff_eq, List.length_cons]; omega)]
      refine rdS rd (i := 0) rfl ?_
      refine c38 (tb.le le1) (by have := lines_le hl (x := l) List.mem_cons_self; omega) (fun e he h2 le2 => ?_) fun bx hh s0 h2 le2 rd0 => ?_
      · have := headP_err he
        rw [if_pos (by simp; omega)]
        exact bad 1 e _ (le1.trans le2) (by unfold parseP; rw [hl]; simp only; rw [he])
      · rw [if_neg (by decide)]
        have hn := rd0.len
        rw [List.length_cons] at hLs
        refine ⟨by omega, by omega, by omega, Nat.le_refl _, ?_⟩
        refine lfp.count ls.length (fun i (u : Int × Int × Sl × Sl × Sl × Sl) h' => u.2.2.1 = s0 ∧ u.2.1 = (i : Int) ∧ ∃ (acc : List Ed) (b : Nat), u.1 = (b : Int) ∧ b ≤ 4096 ∧ acc.length ≤ 4096 ∧ St h2 h' (fun _ : Unit => .arr u.2.2.2.1 61 4 (acc.flatMap Ed.enc)) ∧ bodyP bx.length 1 [] 0 ls = bodyP bx.length (i + 1) acc b (ls.drop i)) (fun X i u h' hi ⟨q1, q2, acc, b, q3, hb, ha, st, q4⟩ next => ?_)
          ⟨rfl, rfl, [], 0, rfl, by decide, by decide, St.nil1 h2, rfl⟩
        obtain ⟨u0, u1, u2, u3, u4, u5⟩ := u
        simp only at q1 q2 q3 st
        subst q1 q2 q3
        simp only
        have le' := (le1.trans le2).trans st.le
        have rd' := rd.le (le2.trans st.le)
        unfold S12_l2
        have ehl : ((Nat.sub (Int.toNat ((row1 g (l :: ls).length).l : Int)) (Int.toNat 1) : Nat) : Int) = (ls.length : Int) := by
          show ((ls.length + 1 - 1 : Nat) : Int) = _
          omega
        by_cases hlt : i < ls.length
        · rw [if_pos (by rw [ehl]; simp; omega)]
          obtain ⟨x, hx⟩ : ∃ x, ls[i]? = some x := ⟨_, List.getElem?_eq_getElem hlt⟩
          have hxl := lines_le hl (List.mem_cons_of_mem l (List.mem_of_getElem? hx))
          rw [drop_cons hx, bodyP_cons] at q4
          refine rdShift rd' hx ?_
          rw [show (⟨#[101, 110, 100]⟩ : ByteArray) = B endB from rfl, beqB]
          have w2 : IntKind.i64.wrap ((i : Int) + 2) = ((i + 1 + 1 : Nat) : Int) := wrapN (by omega) (by omega)
          have w3 : IntKind.i64.wrap ((i : Int) + 3) = ((i + 1 + 2 : Nat) : Int) := wrapN (by omega) (by omega)
          rw [w2, w3]
          by_cases hend : x = endB
          · rw [if_pos (by simpa using hend)]
            rw [if_pos hend] at q4
            by_cases hlast : i + 1 = ls.length
            · rw [if_neg (by rw [hll]; simp; omega)]
              rw [if_pos (List.drop_eq_nil_of_le (by omega))] at q4
              have := k u2 u3 h' le'
              rw [fin_ok hl hh q4] at this
              exact this (rd0.le st.le) (St.rd1 st Ed.enc_len (by decide))
            · rw [if_pos (by rw [hll]; simp; omega)]
              rw [if_neg (fun q => by have := congrArg List.length q; simp at this; omega)] at q4
              exact bad _ _ _ le' (fin_err (es := []) hl hh q4 (by decide))
          · rw [if_neg (by simpa using hend)]
            rw [if_neg hend] at q4
            rw [hn]
            refine c39 (tb.le le') (by omega) (fun e he h3 le3 => ?_) fun y he h3 le3 => ?_
            · have h0 := edgeP_err he
              rw [he] at q4
              rw [if_pos (by simp; omega)]
              exact bad _ _ _ (le'.trans le3) (fin_err (es := []) hl hh q4 h0)
            · rw [he] at q4
              simp only at q4
              have hy := edgeP_ok he
              rw [if_neg (by decide)]
              refine appB (enc := Ed.enc) y (st.le' le3) Ed.enc_len (by decide) (by omega) (by decide) fun s' h4 st4 => ?_
              have hl4 := (St.rd1 st4 Ed.enc_len (by decide)).len
              rw [List.length_append, List.length_singleton] at hl4
              rw [bs_size, wsucc (by omega), wrapN (x := (b : Int) + (y.b.length : Int)) (n := b + y.b.length) (by omega) (by omega)]
              by_cases hm : 4096 < acc.length + 1 ∨ 4096 < b + y.b.length
              · rw [if_pos (by simp only [decide_eq_true_eq]; split <;> omega)]
                rw [if_pos hm] at q4
                exact bad _ _ _ ((le1.trans le2).trans st4.le) (fin_err (es := []) hl hh q4 (by decide))
              · rw [if_neg (by simp only [decide_eq_true_eq]; split <;> omega)]
                rw [if_neg hm] at q4
                exact next hlt _ _ ⟨rfl, rfl, acc ++ [y], b + y.b.length, rfl, by omega, by simp; omega, st4, q4⟩
        · rw [if_neg (by rw [ehl]; simp; omega)]
          rw [List.drop_eq_nil_of_le (by omega)] at q4
          unfold S12_j1
          have q4' : bodyP bx.length 1 [] 0 ls = ([], i + 1 + 1, 4) := q4
          have e : IntKind.i64.wrap (((row1 g (l :: ls).length).l : Int) + 1) = ((i + 1 + 1 : Nat) : Int) := wrapN (by rw [hll]; omega) (by omega)
          rw [e]
          exact bad _ _ _ le' (fin_err (es := []) hl hh q4' (by decide))
end Go.Proofs.YtimadnngfhbfiaaGreatDoor
end

section
/- PRINTED by wip/gen.py: what muntin/muntinlaw08.wakes does, in the words of Mu. -/
namespace Go.Proofs.YtimadnngfhbfiaaGreatDoor
open Go Go.Mu
/- muntin/muntinlaw08.wakes -/
def S14_j1 (K : Bool → H → Prop) (v0 : Bool) (h_3 : H) : Prop :=
  K v0 h_3
def S14  (h : H) (K : Bool → H → Prop) : Prop :=
  S12 ⟨#[115, 104, 97, 112, 101, 32, 112, 98, 10, 48, 32, 69, 32, 49, 32, 76, 82, 10, 101, 110, 100, 10]⟩ h (fun (v8_0_0 : Sl) (v8_0_1 : Sl) (v8_1 : Int) (v8_2 : Int) (h_1 : H) => S12 ⟨#[115, 104, 97, 112, 101, 32, 112, 112, 10, 48, 32, 69, 32, 50, 10, 101, 110, 100, 10]⟩ h_1 (fun (v13_0_0 : Sl) (v13_0_1 : Sl) (v13_1 : Int) (v13_2 : Int) (h_2 : H) => (if (v8_2 == 0) = true then (if (v8_1 == 0) = true then (if ((v8_0_0.l : Int) == 2) = true then (∃ a32 : Addr, v8_0_0.a = some a32 ∧ 0 ≤ (1 : Int) ∧ 1 < (v8_0_0.l : Int) ∧ (∃ (v33 : Bool), H.rd h_2 (Addr.add a32 (Int.toNat 1 * 1)) = some (.bool v33) ∧ (if v33 = true then (if ((v8_0_1.l : Int) == 1) = true then (∃ a44 : Addr, v8_0_1.a = some a44 ∧ 0 ≤ (0 : Int) ∧ 0 < (v8_0_1.l : Int) ∧ (∃ (v45_0 : Int) (v45_1 : Int) (v45_2 : Int) (v45_3 : ByteArray), H.rdn h_2 (Addr.add a44 (Int.toNat 0 * 4)) 4 [(.int .i64 v45_0), (.int .i64 v45_1), (.int .i64 v45_2), (.string v45_3)] ∧ (if ((v45_0 == 0) && ((v45_1 == 1) && ((v45_2 == 0) && ((ByteArray.toList v45_3 == ByteArray.toList ⟨#[76, 82]⟩) && true)))) = true then (if (v13_1 == 2) = true then S14_j1 K (v13_2 == 3) h_2 else S14_j1 K false h_2) else S14_j1 K false h_2))) else S14_j1 K false h_2) else S14_j1 K false h_2))) else S14_j1 K false h_2) else S14_j1 K false h_2) else S14_j1 K false h_2)))
end Go.Proofs.YtimadnngfhbfiaaGreatDoor
end

section
/- PRINTED by wip/gen.py: what muntin/muntinref08.Same does, in the words of Mu. -/
namespace Go.Proofs.YtimadnngfhbfiaaGreatDoor
open Go Go.Mu
/- muntin/muntinref08.Same -/
def S15_j1 (K : Bool → H → Prop) (h_3 : H) : Prop :=
  K true h_3
def S15_l2 (p0_1 : Sl) (p1_1 : Sl) (K : Bool → H → Prop) (X : Int → H → Prop) (v6 : Int) (h_4 : H) : Prop :=
  (if (decide (v6 < (p0_1.l : Int))) = true then (∃ a51 : Addr, p0_1.a = some a51 ∧ 0 ≤ v6 ∧ v6 < (p0_1.l : Int) ∧ (∃ (v52_0 : Int) (v52_1 : Int) (v52_2 : Int) (v52_3 : ByteArray), H.rdn h_4 (Addr.add a51 (Int.toNat v6 * 4)) 4 [(.int .i64 v52_0), (.int .i64 v52_1), (.int .i64 v52_2), (.string v52_3)] ∧ (∃ a56 : Addr, p1_1.a = some a56 ∧ 0 ≤ v6 ∧ v6 < (p1_1.l : Int) ∧ (∃ (v57_0 : Int) (v57_1 : Int) (v57_2 : Int) (v57_3 : ByteArray), H.rdn h_4 (Addr.add a56 (Int.toNat v6 * 4)) 4 [(.int .i64 v57_0), (.int .i64 v57_1), (.int .i64 v57_2), (.string v57_3)] ∧ (if (!((v52_0 == v57_0) && ((v52_1 == v57_1) && ((v52_2 == v57_2) && ((ByteArray.toList v52_3 == ByteArray.toList v57_3) && true))))) = true then K false h_4 else X (IntKind.wrap .i64 (v6 + 1)) h_4))))) else S15_j1 K h_4)
def S15_j3 (p0_1 : Sl) (p1_1 : Sl) (K : Bool → H → Prop) (h_2 : H) : Prop :=
  lfp (fun X s h_4 => S15_l2 p0_1 p1_1 K X s h_4) 0 h_2
def S15_l4 (p0_0 : Sl) (p0_1 : Sl) (p1_0 : Sl) (p1_1 : Sl) (K : Bool → H → Prop) (X_1 : Int → H → Prop) (v5 : Int) (h_5 : H) : Prop :=
  (if (decide (v5 < (p0_0.l : Int))) = true then (∃ a33 : Addr, p0_0.a = some a33 ∧ 0 ≤ v5 ∧ v5 < (p0_0.l : Int) ∧ (∃ (v34 : Bool), H.rd h_5 (Addr.add a33 (Int.toNat v5 * 1)) = some (.bool v34) ∧ (∃ a38 : Addr, p1_0.a = some a38 ∧ 0 ≤ v5 ∧ v5 < (p1_0.l : Int) ∧ (∃ (v39 : Bool), H.rd h_5 (Addr.add a38 (Int.toNat v5 * 1)) = some (.bool v39) ∧ (if (!(v34 == v39)) = true then K false h_5 else X_1 (IntKind.wrap .i64 (v5 + 1)) h_5))))) else S15_j3 p0_1 p1_1 K h_5)
def S15_j5 (p0_0 : Sl) (p0_1 : Sl) (p1_0 : Sl) (p1_1 : Sl) (K : Bool → H → Prop) (v22 : Bool) (h_1 : H) : Prop :=
  (if v22 = true then K false h_1 else lfp (fun X_1 s h_5 => S15_l4 p0_0 p0_1 p1_0 p1_1 K X_1 s h_5) 0 h_1)
def S15 (p0_0 : Sl) (p0_1 : Sl) (p1_0 : Sl) (p1_1 : Sl) (h : H) (K : Bool → H → Prop) : Prop :=
  S15_j5 p0_0 p0_1 p1_0 p1_1 K (((p0_0.l : Int) != (p1_0.l : Int)) || ((p0_1.l : Int) != (p1_1.l : Int))) h
end Go.Proofs.YtimadnngfhbfiaaGreatDoor
end

section
/- PRINTED by wip/gen.py: what muntin/muntinlaw08.ParseTells does, in the words of Mu. -/
namespace Go.Proofs.YtimadnngfhbfiaaGreatDoor
open Go Go.Mu
/- muntin/muntinlaw08.ParseTells -/
def S4_j1 (K : Bool → H → Prop) (v2 : Bool) (h_3 : H) : Prop :=
  K v2 h_3
def S4 (p0 : ByteArray) (h : H) (K : Bool → H → Prop) : Prop :=
  ((0 : Int) ≤ (if 1000 < (ByteArray.size p0 : Int) then 1000 else (ByteArray.size p0 : Int)) ∧ (if 1000 < (ByteArray.size p0 : Int) then 1000 else (ByteArray.size p0 : Int)) ≤ (ByteArray.size p0 : Int) ∧ S12 (ByteArray.extract p0 0 (Int.toNat (if 1000 < (ByteArray.size p0 : Int) then 1000 else (ByteArray.size p0 : Int)))) h (fun (v16_0_0 : Sl) (v16_0_1 : Sl) (v16_1 : Int) (v16_2 : Int) (h_1 : H) => S13 (ByteArray.extract p0 0 (Int.toNat (if 1000 < (ByteArray.size p0 : Int) then 1000 else (ByteArray.size p0 : Int)))) h_1 (fun (v22_0_0 : Sl) (v22_0_1 : Sl) (v22_1 : Int) (v22_2 : Int) (h_2 : H) => S14  h_2 (fun (v26 : Bool) (h_4 : H) => (if v26 = true then S15 v16_0_0 v16_0_1 v22_0_0 v22_0_1 h_4 (fun (v30 : Bool) (h_5 : H) => (if v30 = true then (if (v16_1 == v22_1) = true then S4_j1 K (v16_2 == v22_2) h_5 else S4_j1 K false h_5) else S4_j1 K false h_5)) else S4_j1 K false h_4)))))
end Go.Proofs.YtimadnngfhbfiaaGreatDoor
end

section
/- PRINTED by wip/gen.py: what slices.Equal[[]bool,bool] does, in the words of Mu. -/
namespace Go.Proofs.YtimadnngfhbfiaaGreatDoor
open Go Go.Mu
/- slices.Equal[[]bool,bool] -/
def S43_j1 (K : Bool → H → Prop) (h_1 : H) : Prop :=
  K true h_1
def S43_l2 (p0 : Sl) (p1 : Sl) (K : Bool → H → Prop) (X : Int → H → Prop) (v13 : Int) (h_2 : H) : Prop :=
  (if (decide (v13 < (p0.l : Int))) = true then (∃ a18 : Addr, p0.a = some a18 ∧ 0 ≤ v13 ∧ v13 < (p0.l : Int) ∧ (∃ (v19 : Bool), H.rd h_2 (Addr.add a18 (Int.toNat v13 * 1)) = some (.bool v19) ∧ (∃ a22 : Addr, p1.a = some a22 ∧ 0 ≤ v13 ∧ v13 < (p1.l : Int) ∧ (∃ (v23 : Bool), H.rd h_2 (Addr.add a22 (Int.toNat v13 * 1)) = some (.bool v23) ∧ (if (!(v19 == v23)) = true then K false h_2 else X (IntKind.wrap .i64 (v13 + 1)) h_2))))) else S43_j1 K h_2)
def S43 (p0 : Sl) (p1 : Sl) (h : H) (K : Bool → H → Prop) : Prop :=
  (if ((p0.l : Int) != (p1.l : Int)) = true then K false h else lfp (fun X s h_2 => S43_l2 p0 p1 K X s h_2) 0 h)
end Go.Proofs.YtimadnngfhbfiaaGreatDoor
end

section
/- PRINTED by wip/gen.py: what slices.Equal[[]muntin/api.Edge,muntin/api.Edge] does, in the words of Mu. -/
namespace Go.Proofs.YtimadnngfhbfiaaGreatDoor
open Go Go.Mu
/- slices.Equal[[]muntin/api.Edge,muntin/api.Edge] -/
def S44_j1 (K : Bool → H → Prop) (h_1 : H) : Prop :=
  K true h_1
def S44_l2 (p0 : Sl) (p1 : Sl) (K : Bool → H → Prop) (X : Int → H → Prop) (v13 : Int) (h_2 : H) : Prop :=
  (if (decide (v13 < (p0.l : Int))) = true then (∃ a18 : Addr, p0.a = some a18 ∧ 0 ≤ v13 ∧ v13 < (p0.l : Int) ∧ (∃ (v19_0 : Int) (v19_1 : Int) (v19_2 : Int) (v19_3 : ByteArray), H.rdn h_2 (Addr.add a18 (Int.toNat v13 * 4)) 4 [(.int .i64 v19_0), (.int .i64 v19_1), (.int .i64 v19_2), (.string v19_3)] ∧ (∃ a22 : Addr, p1.a = some a22 ∧ 0 ≤ v13 ∧ v13 < (p1.l : Int) ∧ (∃ (v23_0 : Int) (v23_1 : Int) (v23_2 : Int) (v23_3 : ByteArray), H.rdn h_2 (Addr.add a22 (Int.toNat v13 * 4)) 4 [(.int .i64 v23_0), (.int .i64 v23_1), (.int .i64 v23_2), (.string v23_3)] ∧ (if (!((v19_0 == v23_0) && ((v19_1 == v23_1) && ((v19_2 == v23_2) && ((ByteArray.toList v19_3 == ByteArray.toList v23_3) && true))))) = true then K false h_2 else X (IntKind.wrap .i64 (v13 + 1)) h_2))))) else S44_j1 K h_2)
def S44 (p0 : Sl) (p1 : Sl) (h : H) (K : Bool → H → Prop) : Prop :=
  (if ((p0.l : Int) != (p1.l : Int)) = true then K false h else lfp (fun X s h_2 => S44_l2 p0 p1 K X s h_2) 0 h)
end Go.Proofs.YtimadnngfhbfiaaGreatDoor
end

section
/- PRINTED by wip/gen.py: what muntin/parse.Equal does, in the words of Mu. -/
namespace Go.Proofs.YtimadnngfhbfiaaGreatDoor
open Go Go.Mu
/- muntin/parse.Equal -/
def S16_j1 (K : Bool → H → Prop) (v4 : Bool) (h_1 : H) : Prop :=
  K v4 h_1
def S16 (p0_0 : Sl) (p0_1 : Sl) (p1_0 : Sl) (p1_1 : Sl) (h : H) (K : Bool → H → Prop) : Prop :=
  S43 p0_0 p1_0 h (fun (v9 : Bool) (h_2 : H) => (if v9 = true then S44 p0_1 p1_1 h_2 (fun (v15 : Bool) (h_3 : H) => S16_j1 K v15 h_3) else S16_j1 K false h_2))
end Go.Proofs.YtimadnngfhbfiaaGreatDoor
end

section
/-
  Parsing: two shapes that are the same; what wakes; the law ParseTells.
-/
namespace Go.Proofs.YtimadnngfhbfiaaGreatDoor
open Go Go.Mu Go.Shape Go.Text
variable {h h0 : H}
set_option maxHeartbeats 1000000

theorem c15 {p0 p1 q0 q1 : Sl} {bx : List Bool} {es : List Ed} (r0 : Rd h p0 1 encB bx) (r1 : Rd h p1 4 Ed.enc es) (s0 : Rd h q0 1 encB bx) (s1 : Rd h q1 4 Ed.enc es) (hb : bx.length ≤ 4000000) (he : es.length ≤ 4000000) {K : Bool → H → Prop} (k : K true h) : S15 p0 p1 q0 q1 h K := by
  have a0 := r0.len
  have a1 := r1.len
  have b0 := s0.len
  have b1 := s1.len
  unfold S15 S15_j5
  rw [if_neg (by simp; omega)]
  refine lfp.count bx.length (fun i (u : Int) h' => u = (i : Int) ∧ h' = h) (fun X i u h' hi ⟨q1, q2⟩ next => ?_) ⟨rfl, rfl⟩
  subst q1 q2
  unfold S15_l4
  by_cases hlt : i < bx.length
  · rw [if_pos (by simp; omega)]
    obtain ⟨x, hx⟩ : ∃ x, bx[i]? = some x := ⟨_, List.getElem?_eq_getElem hlt⟩
    obtain ⟨a, ha, hrd⟩ := r0.ix hx
    obtain ⟨a', ha', hrd'⟩ := s0.ix hx
    refine ⟨a, ha, by omega, by omega, x, by rw [Int.toNat_natCast]; exact hrd.at0, a', ha', by omega, by omega, x, by rw [Int.toNat_natCast]; exact hrd'.at0, ?_⟩
    rw [if_neg (by simp), wsucc (by omega)]
    exact next hlt _ _ ⟨rfl, rfl⟩
  · rw [if_neg (by simp; omega)]
    unfold S15_j3
    refine lfp.count es.length (fun i (u : Int) h2 => u = (i : Int) ∧ h2 = h') (fun X i u h2 hi ⟨q1, q2⟩ next => ?_) ⟨rfl, rfl⟩
    subst q1 q2
    unfold S15_l2 S15_j1
    by_cases hlt : i < es.length
    · rw [if_pos (by simp; omega)]
      obtain ⟨x, hx⟩ : ∃ x, es[i]? = some x := ⟨_, List.getElem?_eq_getElem hlt⟩
      obtain ⟨a, ha, hrd⟩ := r1.ix hx
      obtain ⟨a', ha', hrd'⟩ := s1.ix hx
      refine ⟨a, ha, by omega, by omega, x.f, x.t, x.d, bs x.b, by rw [Int.toNat_natCast]; exact hrd, a', ha', by omega, by omega, x.f, x.t, x.d, bs x.b, by rw [Int.toNat_natCast]; exact hrd', ?_⟩
      rw [if_neg (by simp), wsucc (by omega)]
      exact next hlt _ _ ⟨rfl, rfl⟩
    · rw [if_neg (by simp; omega)]; exact k
theorem c16 {p0 p1 q0 q1 : Sl} {bx : List Bool} {es : List Ed} (r0 : Rd h p0 1 encB bx) (r1 : Rd h p1 4 Ed.enc es) (s0 : Rd h q0 1 encB bx) (s1 : Rd h q1 4 Ed.enc es) (hb : bx.length ≤ 4000000) (he : es.length ≤ 4000000) {K : Bool → H → Prop} (k : K true h) : S16 p0 p1 q0 q1 h K := by
  have a0 := r0.len
  have a1 := r1.len
  have b0 := s0.len
  have b1 := s1.len
  unfold S16 S43
  rw [if_neg (by simp; omega)]
  refine lfp.count bx.length (fun i (u : Int) h' => u = (i : Int) ∧ h' = h) (fun X i u h' hi ⟨q1, q2⟩ next => ?_) ⟨rfl, rfl⟩
  subst q1 q2
  unfold S43_l2
  by_cases hlt : i < bx.length
  · rw [if_pos (by simp; omega)]
    obtain ⟨x, hx⟩ : ∃ x, bx[i]? = some x := ⟨_, List.getElem?_eq_getElem hlt⟩
    obtain ⟨a, ha, hrd⟩ := r0.ix hx
    obtain ⟨a', ha', hrd'⟩ := s0.ix hx
    refine ⟨a, ha, by omega, by omega, x, by rw [Int.toNat_natCast]; exact hrd.at0, a', ha', by omega, by omega, x, by rw [Int.toNat_natCast]; exact hrd'.at0, ?_⟩
    rw [if_neg (by simp), wsucc (by omega)]
    exact next hlt _ _ ⟨rfl, rfl⟩
  · rw [if_neg (by simp; omega)]
    unfold S43_j1
    dsimp only
    rw [if_pos rfl]
    unfold S44
    rw [if_neg (by simp; omega)]
    refine lfp.count es.length (fun i (u : Int) h2 => u = (i : Int) ∧ h2 = h') (fun X i u h2 hi ⟨q1, q2⟩ next => ?_) ⟨rfl, rfl⟩
    subst q1 q2
    unfold S44_l2 S44_j1
    by_cases hlt : i < es.length
    · rw [if_pos (by simp; omega)]
      obtain ⟨x, hx⟩ : ∃ x, es[i]? = some x := ⟨_, List.getElem?_eq_getElem hlt⟩
      obtain ⟨a, ha, hrd⟩ := r1.ix hx
      obtain ⟨a', ha', hrd'⟩ := s1.ix hx
      refine ⟨a, ha, by omega, by omega, x.f, x.t, x.d, bs x.b, by rw [Int.toNat_natCast]; exact hrd, a', ha', by omega, by omega, x.f, x.t, x.d, bs x.b, by rw [Int.toNat_natCast]; exact hrd', ?_⟩
      rw [if_neg (by simp), wsucc (by omega)]
      exact next hlt _ _ ⟨rfl, rfl⟩
    · rw [if_neg (by simp; omega)]
      unfold S16_j1
      exact k
theorem wake1 : parseP [115, 104, 97, 112, 101, 32, 112, 98, 10, 48, 32, 69, 32, 49, 32, 76, 82, 10, 101, 110, 100, 10] = ⟨[false, true], [⟨0, 1, 0, [true, false]⟩], 0, 0⟩ := by rfl
theorem wake2 : parseP [115, 104, 97, 112, 101, 32, 112, 112, 10, 48, 32, 69, 32, 50, 10, 101, 110, 100, 10] = ⟨[], [], 2, 3⟩ := by rfl
theorem c14 (tb : TabsH h) {K : Bool → H → Prop} (k : ∀ h', h.Le h' → K true h') : S14 h K := by
  unfold S14
  refine c12 (s := [115, 104, 97, 112, 101, 32, 112, 98, 10, 48, 32, 69, 32, 49, 32, 76, 82, 10, 101, 110, 100, 10]) tb (by decide) fun s0 s1 h1 le1 r0 r1 => ?_
  rw [wake1] at r0 r1 ⊢
  refine c12 (s := [115, 104, 97, 112, 101, 32, 112, 112, 10, 48, 32, 69, 32, 50, 10, 101, 110, 100, 10]) (tb.le le1) (by decide) fun t0 t1 h2 le2 _ _ => ?_
  rw [wake2]
  have a0 := r0.len
  have a1 := r1.len
  obtain ⟨a, ha, hrd⟩ := (r0.le le2).ix (i := 1) (y := true) rfl
  obtain ⟨a', ha', hrd'⟩ := (r1.le le2).ix (i := 0) (y := ⟨0, 1, 0, [true, false]⟩) rfl
  rw [if_pos (by decide), if_pos (by decide), if_pos (by rw [a0]; decide)]
  refine ⟨a, ha, by omega, by rw [a0]; decide, true, hrd.at0, ?_⟩
  rw [if_pos rfl, if_pos (by rw [a1]; decide)]
  refine ⟨a', ha', by omega, by rw [a1]; decide, 0, 1, 0, bs [true, false], hrd', ?_⟩
  rw [if_pos (by rw [show (⟨#[76, 82]⟩ : ByteArray) = bs [true, false] from rfl]; simp), if_pos (by decide)]
  unfold S14_j1
  exact k _ (le1.trans le2)
theorem cut_text (p : ByteArray) : ByteArray.extract p 0 (Int.toNat (if 1000 < (ByteArray.size p : Int) then 1000 else (ByteArray.size p : Int))) = B (p.data.toList.take 1000) := by
  conv => lhs; rw [B_eta p]
  have hs : (B p.data.toList).size = p.data.toList.length := B_size _
  have e : p.data.toList.take (Int.toNat (if 1000 < (p.data.toList.length : Int) then 1000 else (p.data.toList.length : Int))) = p.data.toList.take 1000 := by
    by_cases h1 : 1000 < p.data.toList.length
    · rw [if_pos (by omega)]; rfl
    · rw [if_neg (by omega), Int.toNat_natCast, List.take_of_length_le (Nat.le_refl _), List.take_of_length_le (by omega)]
  rw [hs, B_ext, List.drop_zero, e]
theorem parse_small {s : Bs} {bx : List Bool} {es : List Ed} {n e : Nat} (h : parseP s = ⟨bx, es, n, e⟩) : bx.length ≤ 4096 ∧ es.length ≤ 4096 := by
  unfold parseP at h
  split at h
  · cases h; exact ⟨Nat.zero_le _, Nat.zero_le _⟩
  · cases h; exact ⟨Nat.zero_le _, Nat.zero_le _⟩
  · split at h
    · cases h; exact ⟨Nat.zero_le _, Nat.zero_le _⟩
    · rename_i hh
      unfold finP at h
      split at h
      · rename_i he
        cases h
        refine ⟨(headP_ok hh).1, ?_⟩
        generalize hr : bodyP _ 1 [] 0 _ = r at he ⊢
        obtain ⟨r1, r2, r3⟩ := r
        simp only at he; subst he
        obtain ⟨_, new, _, _, q, _⟩ := bodyP_ok hr (by decide) (by decide)
        exact q
      · cases h; exact ⟨Nat.zero_le _, Nat.zero_le _⟩
theorem c4 {p : ByteArray} (tb : TabsH h) {K : Bool → H → Prop} (k : ∀ h', h.Le h' → K true h') : S4 p h K := by
  unfold S4
  rw [cut_text]
  have hl : (p.data.toList.take 1000).length ≤ 1048576 := by rw [List.length_take]; omega
  refine ⟨by split <;> omega, by split <;> omega, ?_⟩
  refine c12 tb hl fun s0 s1 h1 le1 r0 r1 => ?_
  refine c13 hl fun t0 t1 h2 le2 q0 q1 => ?_
  refine c14 (tb.le (le1.trans le2)) fun h3 le3 => ?_
  rw [if_pos rfl]
  have hb := parse_small (s := p.data.toList.take 1000) (bx := (parseP (p.data.toList.take 1000)).bx) (es := (parseP (p.data.toList.take 1000)).es) (n := (parseP (p.data.toList.take 1000)).n) (e := (parseP (p.data.toList.take 1000)).e) rfl
  refine c15 ((r0.le le2).le le3) ((r1.le le2).le le3) (q0.le le3) (q1.le le3) (by omega) (by omega) ?_
  rw [if_pos rfl, if_pos (by simp)]
  unfold S4_j1
  rw [beq_self_eq_true]
  exact k _ ((le1.trans le2).trans le3)
end Go.Proofs.YtimadnngfhbfiaaGreatDoor
end

section
/- BY HAND: what strings.Count does at one byte. -/
namespace Go.Proofs.YtimadnngfhbfiaaGreatDoor
open Go Go.Mu
def S17 (p0 p1 : ByteArray) (h : H) (K : Int → H → Prop) : Prop :=
  ∃ c : UInt8, p1 = ⟨#[c]⟩ ∧ K (p0.data.toList.count c : Nat) h
end Go.Proofs.YtimadnngfhbfiaaGreatDoor
end

section
/- PRINTED by wip/gen.py: what muntin/compass.Good does, in the words of Mu. -/
namespace Go.Proofs.YtimadnngfhbfiaaGreatDoor
open Go Go.Mu
/- muntin/compass.Good -/
def S48_j1 (K : Bool → H → Prop) (v2 : Bool) (h_1 : H) : Prop :=
  K v2 h_1
def S48 (p0 : Int) (h : H) (K : Bool → H → Prop) : Prop :=
  S48_j1 K ((decide (p0 ≥ 0)) && (decide (p0 ≤ 3))) h
end Go.Proofs.YtimadnngfhbfiaaGreatDoor
end

section
/- PRINTED by wip/gen.py: what muntin/parse.Check does, in the words of Mu. -/
namespace Go.Proofs.YtimadnngfhbfiaaGreatDoor
open Go Go.Mu
/- muntin/parse.Check -/
def S18_j1 (K : Int → H → Prop) (h_2 : H) : Prop :=
  K 0 h_2
def S18_j2 (K : Int → H → Prop) (v34 : Int) (X : Int → H → Prop) (v64 : Bool) (h_5 : H) : Prop :=
  (if v64 = true then K 2 h_5 else X (IntKind.wrap .i64 (v34 + 1)) h_5)
def S18_j3 (K : Int → H → Prop) (v34 : Int) (X : Int → H → Prop) (v37_2 : Int) (v37_3 : ByteArray) (v54 : Bool) (h_4 : H) : Prop :=
  (if v54 = true then K 3 h_4 else S48 v37_2 h_4 (fun (v57 : Bool) (h_6 : H) => (if (!v57) = true then S18_j2 K v34 X true h_6 else S49 v37_3 ⟨#[76, 82]⟩ h_6 (fun (v62 : Bool) (h_7 : H) => S18_j2 K v34 X (!v62) h_7))))
def S18_l4 (p0_0 : Sl) (p0_1 : Sl) (K : Int → H → Prop) (X : Int → H → Prop) (v34 : Int) (h_3 : H) : Prop :=
  (if (decide (v34 < (p0_1.l : Int))) = true then (∃ a36 : Addr, p0_1.a = some a36 ∧ 0 ≤ v34 ∧ v34 < (p0_1.l : Int) ∧ (∃ (v37_0 : Int) (v37_1 : Int) (v37_2 : Int) (v37_3 : ByteArray), H.rdn h_3 (Addr.add a36 (Int.toNat v34 * 4)) 4 [(.int .i64 v37_0), (.int .i64 v37_1), (.int .i64 v37_2), (.string v37_3)] ∧ S18_j3 K v34 X v37_2 v37_3 ((decide ((if v37_1 < v37_0 then v37_1 else v37_0) < 0)) || (decide ((if v37_1 > v37_0 then v37_1 else v37_0) ≥ (p0_0.l : Int)))) h_3)) else S18_j1 K h_3)
def S18_j5 (p0_0 : Sl) (p0_1 : Sl) (K : Int → H → Prop) (v3 : Int) (h_1 : H) : Prop :=
  (if (decide ((if v3 > (if (p0_1.l : Int) > (p0_0.l : Int) then (p0_1.l : Int) else (p0_0.l : Int)) then v3 else (if (p0_1.l : Int) > (p0_0.l : Int) then (p0_1.l : Int) else (p0_0.l : Int))) > 4096)) = true then K 6 h_1 else lfp (fun X s h_3 => S18_l4 p0_0 p0_1 K X s h_3) 0 h_1)
def S18_l6 (p0_0 : Sl) (p0_1 : Sl) (K : Int → H → Prop) (X_1 : (Int × Int) → H → Prop) (v3_1 : Int) (v11 : Int) (h_8 : H) : Prop :=
  (if (decide (v11 < (p0_1.l : Int))) = true then (∃ a13 : Addr, p0_1.a = some a13 ∧ 0 ≤ v11 ∧ v11 < (p0_1.l : Int) ∧ (∃ (v14_0 : Int) (v14_1 : Int) (v14_2 : Int) (v14_3 : ByteArray), H.rdn h_8 (Addr.add a13 (Int.toNat v11 * 4)) 4 [(.int .i64 v14_0), (.int .i64 v14_1), (.int .i64 v14_2), (.string v14_3)] ∧ X_1 ((IntKind.wrap .i64 (v3_1 + (if 4097 < (ByteArray.size v14_3 : Int) then 4097 else (ByteArray.size v14_3 : Int)))), (IntKind.wrap .i64 (v11 + 1))) h_8)) else S18_j5 p0_0 p0_1 K v3_1 h_8)
def S18 (p0_0 : Sl) (p0_1 : Sl) (h : H) (K : Int → H → Prop) : Prop :=
  lfp (fun X_1 s h_8 => S18_l6 p0_0 p0_1 K X_1 s.1 s.2 h_8) (0, 0) h
end Go.Proofs.YtimadnngfhbfiaaGreatDoor
end

section
/- PRINTED by wip/gen.py: what muntin/muntinlaw08.ParseRight does, in the words of Mu. -/
namespace Go.Proofs.YtimadnngfhbfiaaGreatDoor
open Go Go.Mu
/- muntin/muntinlaw08.ParseRight -/
def S5_j1 (K : Bool → H → Prop) (v2 : Bool) (h_2 : H) : Prop :=
  K v2 h_2
def S5_j2 (K : Bool → H → Prop) (v2_1 : Bool) (h_6 : H) : Prop :=
  K v2_1 h_6
def S5 (p0 : ByteArray) (h : H) (K : Bool → H → Prop) : Prop :=
  ((0 : Int) ≤ (if 1000 < (ByteArray.size p0 : Int) then 1000 else (ByteArray.size p0 : Int)) ∧ (if 1000 < (ByteArray.size p0 : Int) then 1000 else (ByteArray.size p0 : Int)) ≤ (ByteArray.size p0 : Int) ∧ S12 (ByteArray.extract p0 0 (Int.toNat (if 1000 < (ByteArray.size p0 : Int) then 1000 else (ByteArray.size p0 : Int)))) h (fun (v13_0_0 : Sl) (v13_0_1 : Sl) (v13_1 : Int) (v13_2 : Int) (h_1 : H) => (if (v13_2 != 0) = true then S14  h_1 (fun (v19 : Bool) (h_3 : H) => (if v19 = true then S16 v13_0_0 v13_0_1 Sl.nil Sl.nil h_3 (fun (v23 : Bool) (h_4 : H) => (if v23 = true then (if (decide (v13_1 ≥ 0)) = true then S17 (ByteArray.extract p0 0 (Int.toNat (if 1000 < (ByteArray.size p0 : Int) then 1000 else (ByteArray.size p0 : Int)))) ⟨#[10]⟩ h_4 (fun (v32 : Int) (h_5 : H) => S5_j1 K (decide (v13_1 ≤ (IntKind.wrap .i64 (v32 + 1)))) h_5) else S5_j1 K false h_4) else S5_j1 K false h_4)) else S5_j1 K false h_3)) else S14  h_1 (fun (v36 : Bool) (h_7 : H) => (if v36 = true then (if (v13_1 == 0) = true then S18 v13_0_0 v13_0_1 h_7 (fun (v43 : Int) (h_8 : H) => S5_j2 K (v43 == 0) h_8) else S5_j2 K false h_7) else S5_j2 K false h_7)))))
end Go.Proofs.YtimadnngfhbfiaaGreatDoor
end

section
/-
  What is parsed may be written; a line that is told; the law ParseRight.
-/
namespace Go.Text
open Go Go.Mu Go.Shape
def tot (es : List Ed) : Nat := (es.map (·.b.length)).sum
theorem tot_snoc (es : List Ed) (e : Ed) : tot (es ++ [e]) = tot es + e.b.length := by simp [tot]
theorem tot_take {es : List Ed} {i : Nat} {e : Ed} (he : es[i]? = some e) : tot (es.take (i + 1)) = tot (es.take i) + e.b.length := by
  rw [List.take_add_one, he]; exact tot_snoc _ _
theorem tot_le (es : List Ed) (i : Nat) : tot (es.take i) ≤ tot es := by
  have : tot es = tot (es.take i) + tot (es.drop i) := by
    conv => lhs; rw [← List.take_append_drop i es]
    simp only [tot, List.map_append, List.sum_append]
  omega
theorem splitC_count (c : UInt8) : ∀ t : Bs, (splitC c t).length = t.count c + 1
  | [] => rfl
  | b :: t => by
    have ih := splitC_count c t
    obtain ⟨x, l, e⟩ := splitC_cons c t
    unfold splitC
    rw [e] at ih ⊢
    by_cases hb : b = c
    · subst hb; simp at ih ⊢; omega
    · rw [if_neg hb, List.count_cons_of_ne hb]; simpa using ih
theorem lines_count {s : Bs} {w : List Bs} (hw : linesP s = some w) : w.length = s.count 10 := by
  unfold linesP at hw
  split at hw
  · have e := Option.some.inj hw
    rw [← e, List.length_dropLast, splitC_count]; omega
  · cases hw
theorem bodyP_line {n : Nat} : ∀ {ls : List Bs} {i b : Nat} {acc es : List Ed} {m e : Nat}, bodyP n i acc b ls = (es, m, e) → m ≤ i + ls.length + 1
  | [], i, b, acc, es, m, e, h => by simp [bodyP] at h; omega
  | l :: ls, i, b, acc, es, m, e, h => by
    unfold bodyP at h
    split at h
    · split at h
      · simp at h; simp; omega
      · rename_i hn
        have := List.length_pos_iff.2 hn
        simp at h; simp; omega
    · split at h
      · simp at h; simp; omega
      · split at h
        · simp at h; simp; omega
        · have := bodyP_line h
          simp; omega
theorem parse_bad {s : Bs} (h : (parseP s).e ≠ 0) : (parseP s).bx = [] ∧ (parseP s).es = [] ∧ (parseP s).n ≤ s.count 10 + 1 := by
  revert h
  unfold parseP
  split
  · intro _; exact ⟨rfl, rfl, Nat.zero_le _⟩
  · intro _; exact ⟨rfl, rfl, by simp⟩
  · rename_i l ls hl
    have hc := lines_count hl
    split
    · intro _; exact ⟨rfl, rfl, by simp⟩
    · rename_i bx _
      unfold finP
      split
      · intro h; exact absurd rfl h
      · intro _
        refine ⟨rfl, rfl, ?_⟩
        generalize hr : bodyP bx.length 1 [] 0 ls = r
        obtain ⟨r1, r2, r3⟩ := r
        have := bodyP_line hr
        simp at hc ⊢; omega
def textT (bx : List Bool) (es : List Ed) : Bs := headT bx ++ [10] ++ es.flatMap (fun e => lineT e ++ [10]) ++ [101, 110, 100, 10]
theorem parse_ok {s : Bs} (h : (parseP s).e = 0) : (parseP s).n = 0 ∧ (parseP s).bx.length ≤ 4096 ∧ (parseP s).es.length ≤ 4096 ∧ tot (parseP s).es ≤ 4096 ∧ (∀ x ∈ (parseP s).es, x.f < (parseP s).bx.length ∧ x.t < (parseP s).bx.length ∧ x.d < 4) ∧ s = textT (parseP s).bx (parseP s).es := by
  revert h
  unfold parseP
  split
  · intro h; cases h
  · intro h; cases h
  · rename_i l ls hl
    split
    · rename_i e he
      intro h; exact absurd h (headP_err he)
    · rename_i bx hh
      have hb := headP_ok hh
      unfold finP
      split
      · rename_i he
        intro _
        generalize hr : bodyP bx.length 1 [] 0 ls = r at he ⊢
        obtain ⟨r1, r2, r3⟩ := r
        simp only at he; subst he
        obtain ⟨q0, new, q1, q2, q3, q4, q5, q6⟩ := bodyP_ok hr (by decide) (by decide)
        rw [List.nil_append] at q1
        subst q1
        refine ⟨rfl, hb.1, q3, by simpa [tot] using q4, q2, ?_⟩
        have hj := lines_join hl
        rw [hj, List.flatMap_cons, q5, hb.2, List.flatMap_append, List.flatMap_map, textT]
        simp [endB]
      · rename_i he
        intro h; exact absurd h he
end Go.Text
namespace Go.Proofs.YtimadnngfhbfiaaGreatDoor
open Go Go.Mu Go.Shape Go.Text
variable {h h0 : H}
set_option maxHeartbeats 1000000

theorem c48 {d : Nat} (hd : d < 4) {K : Bool → H → Prop} (k : K true h) : S48 d h K := by
  unfold S48 S48_j1
  have h1 : decide ((d : Int) ≥ 0) = true := decide_eq_true (by omega)
  have h2 : decide ((d : Int) ≤ 3) = true := decide_eq_true (by omega)
  rw [h1, h2]; exact k
/-- A shape that may be written, as it lies in the heap. -/
structure Sh (h : H) (p0 p1 : Sl) (bx : List Bool) (es : List Ed) : Prop where
  b : Rd h p0 1 encB bx
  e : Rd h p1 4 Ed.enc es
  lb : bx.length ≤ 4096
  le : es.length ≤ 4096
  lt : tot es ≤ 4096
  ok : ∀ x ∈ es, x.f < bx.length ∧ x.t < bx.length ∧ x.d < 4
theorem Sh.mono {h' : H} {p0 p1 : Sl} {bx : List Bool} {es : List Ed} (s : Sh h p0 p1 bx es) (le : h.Le h') : Sh h' p0 p1 bx es := ⟨s.b.le le, s.e.le le, s.lb, s.le, s.lt, s.ok⟩
theorem bs_lr (b : List Bool) : (b.map letter).all (isIn 76 82) = true := by
  rw [List.all_eq_true]
  intro x hx
  obtain ⟨y, _, rfl⟩ := List.mem_map.1 hx
  cases y <;> rfl
theorem c18 {p0 p1 : Sl} {bx : List Bool} {es : List Ed} (tb : TabsH h) (s : Sh h p0 p1 bx es) {K : Int → H → Prop} (k : K 0 h) : S18 p0 p1 h K := by
  have h1 := s.le
  have h2 := s.lb
  have h3 := s.lt
  have e1 := s.e.len
  have e0 := s.b.len
  unfold S18
  refine lfp.count es.length (fun i (u : Int × Int) h' => h' = h ∧ u.2 = (i : Int) ∧ u.1 = (tot (es.take i) : Int)) (fun X i u h' hi ⟨q1, q2, q3⟩ next => ?_) ⟨rfl, rfl, rfl⟩
  obtain ⟨u1, u2⟩ := u
  simp only at q2 q3; subst q1 q2 q3
  simp only
  unfold S18_l6
  by_cases hlt : i < es.length
  · obtain ⟨e, he⟩ : ∃ x, es[i]? = some x := ⟨_, List.getElem?_eq_getElem hlt⟩
    have t1 := tot_take he
    have t2 := tot_le es (i + 1)
    rw [if_pos (by simp; omega)]
    obtain ⟨a, ha, hrd⟩ := s.e.ix he
    refine ⟨a, ha, by omega, by omega, e.f, e.t, e.d, bs e.b, by rw [Int.toNat_natCast]; exact hrd, next hlt _ _ ⟨rfl, wsucc (by omega), ?_⟩⟩
    rw [bs_size, if_neg (by omega), t1]
    exact wrapN (by omega) (by omega)
  · rw [if_neg (by simp; omega)]
    rw [List.take_of_length_le (by omega)]
    unfold S18_j5
    rw [if_neg (by simp only [decide_eq_true_eq]; split <;> split <;> omega)]
    refine lfp.count es.length (fun i (u : Int) h2 => h2 = h' ∧ u = (i : Int)) (fun Y i u h2 hi2 ⟨q1, q2⟩ next => ?_) ⟨rfl, rfl⟩
    subst q1 q2
    unfold S18_l4 S18_j1
    by_cases hlt : i < es.length
    · obtain ⟨e, he⟩ : ∃ x, es[i]? = some x := ⟨_, List.getElem?_eq_getElem hlt⟩
      have ek := s.ok e (List.mem_of_getElem? he)
      have t1 := tot_take he
      have t2 := tot_le es (i + 1)
      rw [if_pos (by simp; omega)]
      obtain ⟨a, ha, hrd⟩ := s.e.ix he
      refine ⟨a, ha, by omega, by omega, e.f, e.t, e.d, bs e.b, by rw [Int.toNat_natCast]; exact hrd, ?_⟩
      unfold S18_j3
      rw [if_neg (by simp only [Bool.or_eq_true, decide_eq_true_eq]; split <;> split <;> omega)]
      refine c48 ek.2.2 ?_
      rw [if_neg (by decide)]
      refine c49 (w := e.b.map letter) (a := 76) (b := 82) tb (by rw [List.length_map]; omega) (by decide) (by decide) ?_
      rw [bs_lr]
      unfold S18_j2
      rw [if_neg (by decide), wsucc (by omega)]
      exact next hlt _ _ ⟨rfl, rfl⟩
    · rw [if_neg (by simp; omega)]; exact k
theorem sh_ok {s : Bs} {p0 p1 : Sl} (r0 : Rd h p0 1 encB (parseP s).bx) (r1 : Rd h p1 4 Ed.enc (parseP s).es) (h0 : (parseP s).e = 0) : Sh h p0 p1 (parseP s).bx (parseP s).es :=
  let q := parse_ok h0
  ⟨r0, r1, q.2.1, q.2.2.1, q.2.2.2.1, q.2.2.2.2.1⟩
theorem c5 {p : ByteArray} (tb : TabsH h) {K : Bool → H → Prop} (k : ∀ h', h.Le h' → K true h') : S5 p h K := by
  unfold S5
  rw [cut_text]
  generalize hs : p.data.toList.take 1000 = s
  have hl : s.length ≤ 1000 := by rw [← hs, List.length_take]; omega
  refine ⟨by split <;> omega, by split <;> omega, ?_⟩
  refine c12 tb (by omega) fun s0 s1 h1 le1 r0 r1 => ?_
  by_cases he : (parseP s).e = 0
  · rw [if_neg (by simp; omega)]
    refine c14 (tb.le le1) fun h3 le3 => ?_
    rw [if_pos rfl, (parse_ok he).1, if_pos (by decide)]
    refine c18 (tb.le (le1.trans le3)) ((sh_ok r0 r1 he).mono le3) ?_
    unfold S5_j2
    exact k _ (le1.trans le3)
  · rw [if_pos (by simp; omega)]
    obtain ⟨q1, q2, q3⟩ := parse_bad he
    rw [q1] at r0
    rw [q2] at r1
    refine c14 (tb.le le1) fun h3 le3 => ?_
    rw [if_pos rfl]
    refine c16 (r0.le le3) (r1.le le3) Rd.nil Rd.nil (by decide) (by decide) ?_
    rw [if_pos rfl, if_pos (by simp)]
    refine ⟨10, rfl, ?_⟩
    rw [B_list]
    have hc : s.count 10 ≤ s.length := List.count_le_length
    dsimp only
    rw [wsucc (by omega)]
    unfold S5_j1
    rw [decide_eq_true (by omega)]
    exact k _ (le1.trans le3)
end Go.Proofs.YtimadnngfhbfiaaGreatDoor
end

section
/-
  A printed shape is parsed to itself, in plain words; what is too much.
-/
namespace Go.Text
open Go Go.Mu Go.Shape
theorem dec_step (v : Nat) : Lib.decDigits v = if v < 10 then [UInt8.ofNat (48 + v)] else Lib.decDigits (v / 10) ++ [UInt8.ofNat (48 + v % 10)] := by
  conv => lhs; unfold Lib.decDigits
  split <;> rfl
theorem chr_digit {k : Nat} (hk : k < 10) : digit (UInt8.ofNat (48 + k)) = true ∧ (UInt8.ofNat (48 + k)).toNat - 48 = k := by
  have : (UInt8.ofNat (48 + k)).toNat = 48 + k := by
    rw [UInt8.toNat_ofNat']; omega
  unfold digit
  rw [this]
  refine ⟨by simp; omega, by omega⟩
theorem dec_all (v : Nat) : (Lib.decDigits v).all digit = true ∧ numP (Lib.decDigits v) = v ∧ Lib.decDigits v ≠ [] ∧ (1 ≤ v → (Lib.decDigits v)[0]? ≠ some 48) := by
  induction v using Nat.strongRecOn with
  | ind v ih =>
    rw [dec_step]
    by_cases h : v < 10
    · rw [if_pos h]
      have hc := chr_digit h
      refine ⟨by rw [List.all_cons, hc.1]; rfl, ?_, by simp, fun h1 => ?_⟩
      · show 10 * 0 + _ = v
        rw [hc.2]; omega
      · intro e
        have e2 : UInt8.ofNat (48 + v) = 48 := by simpa using e
        have := hc.2
        rw [e2] at this
        have h48 : (48 : UInt8).toNat - 48 = 0 := rfl
        omega
    · rw [if_neg h]
      obtain ⟨a, b, c, d⟩ := ih (v / 10) (by omega)
      have hc := chr_digit (k := v % 10) (Nat.mod_lt _ (by decide))
      refine ⟨by rw [List.all_append, a, List.all_cons, hc.1]; rfl, ?_, by simp, fun _ => ?_⟩
      · rw [numP_snoc, b, hc.2]; omega
      · rw [List.getElem?_append_left (List.length_pos_iff.2 c)]
        exact d (by omega)
theorem dec_len7 : ∀ (k n : Nat), n < 10 ^ k → 0 < k → (Lib.decDigits n).length ≤ k := by
  intro k
  induction k with
  | zero => intro n _ h; exact absurd h (Nat.lt_irrefl 0)
  | succ k ih =>
    intro n hn _
    rw [dec_step]
    by_cases h1 : n < 10
    · rw [if_pos h1]; simp
    · rw [if_neg h1, List.length_append, List.length_singleton]
      have hk : 0 < k := by
        rcases Nat.eq_zero_or_pos k with e | e
        · subst e; simp at hn; omega
        · exact e
      have : n / 10 < 10 ^ k := by rw [Nat.pow_succ] at hn; omega
      have := ih _ this hk
      omega
theorem number_of {v : Nat} (hv : v < 10000000) : numberP (Lib.decDigits v) = some v := by
  obtain ⟨a, b, c, d⟩ := dec_all v
  have hl := List.length_pos_iff.2 c
  have h7 := dec_len7 7 v (by omega) (by decide)
  unfold numberP
  rw [if_neg, b]
  simp only [not_or, Bool.not_eq_false]
  refine ⟨by omega, by omega, fun q => ?_, a⟩
  by_cases h0 : 1 ≤ v
  · exact d h0 q.2
  · have : v = 0 := by omega
    subst this
    rw [dec_step, if_pos (by decide)] at q
    exact absurd q.1 (by simp)
theorem vert_of {v n : Nat} (hv : v < n) (hn : n ≤ 10000000) : vertP (Lib.decDigits v) n = .ok v := by
  unfold vertP
  rw [number_of (by omega)]
  simp only
  rw [if_neg (by omega)]
theorem dir_of {d : Nat} (hd : d < 4) : dirP [dl d] = some d := by
  have : d = 0 ∨ d = 1 ∨ d = 2 ∨ d = 3 := by omega
  rcases this with rfl | rfl | rfl | rfl <;> rfl
theorem dec_no {c : UInt8} (hc : digit c = false) (v : Nat) : c ∉ Lib.decDigits v := fun hm => by
  have := List.all_eq_true.1 (dec_all v).1 c hm
  rw [hc] at this; cases this
theorem lr_no {c : UInt8} (hc : isLR c = false) (b : List Bool) : c ∉ b.map letter := fun hm => by
  obtain ⟨x, _, rfl⟩ := List.mem_map.1 hm
  cases x <;> cases hc
theorem dl_no {d : Nat} (hd : d < 4) {c : UInt8} (hc : c = 32 ∨ c = 10) : c ∉ [dl d] := by
  have : d = 0 ∨ d = 1 ∨ d = 2 ∨ d = 3 := by omega
  rcases hc with rfl | rfl <;> rcases this with rfl | rfl | rfl | rfl <;> decide
theorem lineT_words {x : Ed} (hd : x.d < 4) : wordsP (lineT x) = some ([Lib.decDigits x.f, [dl x.d], Lib.decDigits x.t] ++ (if x.b = [] then [] else [x.b.map letter])) := by
  have n1 := dec_no (c := 32) (by decide) x.f
  have n2 := dec_no (c := 32) (by decide) x.t
  have n3 := dl_no hd (c := 32) (.inl rfl)
  have n4 := lr_no (c := 32) (by decide) x.b
  have e1 := (dec_all x.f).2.2.1
  have e2 := (dec_all x.t).2.2.1
  have key : splitC 32 (lineT x) = [Lib.decDigits x.f, [dl x.d], Lib.decDigits x.t] ++ (if x.b = [] then [] else [x.b.map letter]) := by
    by_cases hb : x.b = []
    · have e : lineT x = Lib.decDigits x.f ++ 32 :: ([dl x.d] ++ 32 :: Lib.decDigits x.t) := by unfold lineT; rw [if_pos hb]; simp
      rw [e, splitC_hit n1, splitC_hit n3, splitC_miss n2, if_pos hb]; rfl
    · have e : lineT x = Lib.decDigits x.f ++ 32 :: ([dl x.d] ++ 32 :: (Lib.decDigits x.t ++ 32 :: x.b.map letter)) := by unfold lineT; rw [if_neg hb]; simp
      rw [e, splitC_hit n1, splitC_hit n3, splitC_hit n2, splitC_miss n4, if_neg hb]; rfl
  unfold wordsP
  rw [key, if_neg]
  by_cases hb : x.b = []
  · rw [if_pos hb]; simp [Ne.symm e1, Ne.symm e2]
  · rw [if_neg hb]; simp [Ne.symm e1, Ne.symm e2, hb]
theorem letter_76 (b : List Bool) : (b.map letter).map (· == 76) = b := by
  rw [List.map_map]
  conv => rhs; rw [← List.map_id b]
  exact List.map_congr_left fun x _ => by cases x <;> rfl
theorem lr_all (b : List Bool) : (b.map letter).all isLR = true := by
  rw [List.all_eq_true]
  intro x hx
  obtain ⟨y, _, rfl⟩ := List.mem_map.1 hx
  cases y <;> rfl
theorem edge_of {x : Ed} {n : Nat} (hf : x.f < n) (ht : x.t < n) (hd : x.d < 4) (hn : n ≤ 10000000) : edgeP (lineT x) n = .ok x := by
  unfold edgeP
  rw [lineT_words hd]
  by_cases hb : x.b = []
  · rw [if_pos hb]
    simp only [List.append_nil, List.length_cons, List.length_nil, List.getD_cons_zero, List.getD_cons_succ]
    rw [if_neg (by decide), vert_of hf hn]
    simp only
    rw [dir_of hd]
    simp only
    rw [vert_of ht hn]
    simp only
    rw [if_neg (by simp)]
    show Except.ok (⟨x.f, x.t, x.d, []⟩ : Ed) = _
    rw [← hb]
  · rw [if_neg hb]
    simp only [List.cons_append, List.nil_append, List.length_cons, List.length_nil, List.getD_cons_zero, List.getD_cons_succ]
    rw [if_neg (by decide), vert_of hf hn]
    simp only
    rw [dir_of hd]
    simp only
    rw [vert_of ht hn]
    simp only
    rw [if_neg (by rw [lr_all]; decide), letter_76]
theorem line_ne_end {x : Ed} (hd : x.d < 4) : lineT x ≠ endB := fun e => by
  have h := lineT_words hd
  rw [e] at h
  have h2 : wordsP endB = some [endB] := rfl
  rw [h2] at h
  have := congrArg List.length (Option.some.inj h)
  simp at this
theorem bodyP_print {n : Nat} (hn : n ≤ 10000000) : ∀ {es : List Ed} {i b : Nat} {acc : List Ed} {rest : List Bs}, (∀ x ∈ es, x.f < n ∧ x.t < n ∧ x.d < 4) → acc.length + es.length ≤ 4096 → b + tot es ≤ 4096 →
    bodyP n i acc b (es.map lineT ++ rest) = bodyP n (i + es.length) (acc ++ es) (b + tot es) rest
  | [], i, b, acc, rest, _, _, _ => by simp [tot]
  | x :: es, i, b, acc, rest, ok, h1, h2 => by
    have hx := ok x List.mem_cons_self
    have et : tot (x :: es) = x.b.length + tot es := by simp [tot]
    rw [List.length_cons] at h1
    rw [List.map_cons, List.cons_append, bodyP, if_neg (line_ne_end hx.2.2), edge_of hx.1 hx.2.1 hx.2.2 hn]
    simp only
    rw [if_neg (by omega), bodyP_print hn (fun y hy => ok y (List.mem_cons_of_mem _ hy)) (by simp; omega) (by omega), et, List.length_cons, List.append_assoc]
    congr 1 <;> first | omega | rfl
theorem pb_no {c : UInt8} (hc : isPB c = false) (b : List Bool) : c ∉ b.map vx := fun hm => by
  obtain ⟨x, _, rfl⟩ := List.mem_map.1 hm
  cases x <;> cases hc
theorem head_no {bx : List Bool} : (10 : UInt8) ∉ headT bx := by
  unfold headT
  intro hm
  rcases List.mem_append.1 hm with hm | hm
  · exact absurd hm (by decide)
  · split at hm
    · exact absurd hm (by decide)
    · exact pb_no (by decide) bx hm
theorem line_no {x : Ed} (hd : x.d < 4) : (10 : UInt8) ∉ lineT x := by
  unfold lineT
  intro hm
  rcases List.mem_append.1 hm with hm | hm
  · rcases List.mem_append.1 hm with hm | hm
    · rcases List.mem_append.1 hm with hm | hm
      · exact dec_no (by decide) _ hm
      · have := dl_no hd (c := 10) (.inr rfl)
        simp at hm this
        exact this hm
    · exact dec_no (by decide) _ hm
  · split at hm
    · simp at hm
    · rcases List.mem_cons.1 hm with hm | hm
      · exact absurd hm (by decide)
      · exact lr_no (by decide) _ hm
/-- The lines of a text that is made of lines. -/
theorem splitC_lines {c : UInt8} : ∀ {l : List Bs}, (∀ x ∈ l, c ∉ x) → splitC c (l.flatMap (· ++ [c])) = l ++ [[]]
  | [], _ => rfl
  | x :: l, h => by
    rw [List.flatMap_cons, List.append_assoc, List.singleton_append, splitC_hit (h x List.mem_cons_self), splitC_lines fun y hy => h y (List.mem_cons_of_mem _ hy)]; rfl
theorem linesP_of {l : List Bs} (h : ∀ x ∈ l, (10 : UInt8) ∉ x) : linesP (l.flatMap (· ++ [10])) = some l := by
  unfold linesP
  rw [splitC_lines h]
  simp
/-- A shape's lines. -/
def linesT (bx : List Bool) (es : List Ed) : List Bs := headT bx :: es.map lineT
theorem textT_lines (bx : List Bool) (es : List Ed) : textT bx es = (linesT bx es ++ [endB]).flatMap (· ++ [10]) := by
  unfold textT linesT
  rw [List.flatMap_append, List.flatMap_cons, List.flatMap_map]
  simp [endB]
theorem lines_no {bx : List Bool} {es : List Ed} (ok : ∀ x ∈ es, x.d < 4) : ∀ x ∈ linesT bx es, (10 : UInt8) ∉ x := by
  intro x hx
  rcases List.mem_cons.1 hx with rfl | hx
  · exact head_no
  · obtain ⟨y, hy, rfl⟩ := List.mem_map.1 hx
    exact line_no (ok y hy)
theorem end_no : (10 : UInt8) ∉ endB := by decide
theorem vx_98 (b : List Bool) : (b.map vx).map (· == 98) = b := by
  rw [List.map_map]
  conv => rhs; rw [← List.map_id b]
  exact List.map_congr_left fun x _ => by cases x <;> rfl
theorem pb_all (b : List Bool) : (b.map vx).all isPB = true := by
  rw [List.all_eq_true]
  intro x hx
  obtain ⟨y, _, rfl⟩ := List.mem_map.1 hx
  cases y <;> rfl
theorem head_words (bx : List Bool) : wordsP (headT bx) = some [shapeB, if bx = [] then [45] else bx.map vx] := by
  have e : headT bx = shapeB ++ 32 :: (if bx = [] then [45] else bx.map vx) := by unfold headT; simp
  have n1 : (32 : UInt8) ∉ shapeB := by decide
  have n2 : (32 : UInt8) ∉ (if bx = [] then [45] else bx.map vx) := by
    split
    · decide
    · exact pb_no (by decide) bx
  unfold wordsP
  rw [e, splitC_hit n1, splitC_miss n2, if_neg]
  by_cases hb : bx = []
  · rw [if_pos hb]; decide
  · rw [if_neg hb]; simp [shapeB, hb]
theorem head_of (bx : List Bool) : headP (headT bx) = if 4096 < bx.length then .error 6 else .ok bx := by
  unfold headP
  rw [head_words]
  simp only
  by_cases hb : bx = []
  · subst hb; rfl
  · rw [if_neg hb]
    simp only [List.length_cons, List.length_nil, List.getElem?_cons_zero, List.getElem?_cons_succ, List.getD_cons_succ, List.getD_cons_zero]
    rw [if_neg (by simp)]
    have h45 : bx.map vx ≠ [45] := fun q => by
      have := pb_no (c := 45) (by decide) bx
      rw [q] at this; simp at this
    rw [if_neg (by simpa using h45), if_neg (by rw [pb_all]; decide), List.length_map, vx_98]
/-- What a text of lines is parsed to, ahead of the edges' loop. -/
theorem parse_lines {bx : List Bool} {ls : List Bs} (hb : bx.length ≤ 4096) (h : ∀ x ∈ ls, (10 : UInt8) ∉ x) : parseP ((headT bx :: ls).flatMap (· ++ [10])) = finP bx (bodyP bx.length 1 [] 0 ls) := by
  have hl : linesP ((headT bx :: ls).flatMap (· ++ [10])) = some (headT bx :: ls) := linesP_of fun x hx => by
    rcases List.mem_cons.1 hx with rfl | hx
    · exact head_no
    · exact h x hx
  unfold parseP
  rw [hl]
  simp only
  rw [head_of, if_neg (by omega)]
theorem parse_many {bx : List Bool} {ls : List Bs} (hb : 4096 < bx.length) (h : ∀ x ∈ ls, (10 : UInt8) ∉ x) : parseP ((headT bx :: ls).flatMap (· ++ [10])) = ⟨[], [], 1, 6⟩ := by
  have hl : linesP ((headT bx :: ls).flatMap (· ++ [10])) = some (headT bx :: ls) := linesP_of fun x hx => by
    rcases List.mem_cons.1 hx with rfl | hx
    · exact head_no
    · exact h x hx
  unfold parseP
  rw [hl]
  simp only
  rw [head_of, if_pos hb]
/-- A printed shape is parsed to itself. -/
theorem parse_print {bx : List Bool} {es : List Ed} (hb : bx.length ≤ 4096) (he : es.length ≤ 4096) (ht : tot es ≤ 4096) (ok : ∀ x ∈ es, x.f < bx.length ∧ x.t < bx.length ∧ x.d < 4) : parseP (textT bx es) = ⟨bx, es, 0, 0⟩ := by
  rw [textT_lines]
  unfold linesT
  rw [List.cons_append, parse_lines hb fun x hx => by
    rcases List.mem_append.1 hx with hx | hx
    · obtain ⟨y, hy, rfl⟩ := List.mem_map.1 hx
      exact line_no (ok y hy).2.2
    · rw [List.mem_singleton.1 hx]; exact end_no]
  rw [bodyP_print (by omega) ok (by simpa using he) (by simpa using ht)]
  simp [bodyP, finP]
end Go.Text
end

section
/-
  Roles put anew; literals in the heap.
-/
namespace Go.Mu
open Classical in
/-- One role's row is another. -/
noncomputable def put {ρ : Type} (M : ρ → Res) (r : ρ) (x : Res) : ρ → Res := fun i => if i = r then x else M i
theorem put_eq {ρ : Type} (M : ρ → Res) (r : ρ) (x : Res) : put M r x r = x := by simp [put]
theorem put_ne {ρ : Type} (M : ρ → Res) {r i : ρ} (x : Res) (hi : i ≠ r) : put M r x i = M i := by simp [put, hi]
theorem put_or {ρ : Type} (M : ρ → Res) (r : ρ) (x : Res) : ∀ i, i ≠ r → put M r x i = M i ∨ put M r x i = .no := fun _ hi => .inl (put_ne M x hi)
theorem put_put {ρ : Type} (M : ρ → Res) (r : ρ) (x y : Res) : put (put M r x) r y = put M r y := by
  funext i
  by_cases hi : i = r
  · subst hi; rw [put_eq, put_eq]
  · rw [put_ne _ _ hi, put_ne _ _ hi, put_ne _ _ hi]
theorem put_self {ρ : Type} (M : ρ → Res) (r : ρ) (x : Res) (e : M r = x) : put M r x = M := by
  funext i
  by_cases hi : i = r
  · subst hi; rw [put_eq, e]
  · rw [put_ne _ _ hi]
end Go.Mu
namespace Go.Proofs.YtimadnngfhbfiaaGreatDoor
open Go Go.Mu
variable {h h0 : H}
theorem le_new {h' : H} {b : Nat} {x : Blk} (hb : h b = none) (e : h' = h.set b x) : h.Le h' := by rw [e]; exact H.Le.put x hb
theorem lit_Rd {h' : H} {b e n size : Nat} {α : Type} {enc : α → List Value} {l : List α} (eh : h' = h.set b (.row ⟨l.flatMap enc, n, e, true, true⟩)) (hsz : ∀ x ∈ l, (enc x).length = size) : Rd h' ⟨some ⟨b, 0, none⟩, l.length, l.length⟩ size enc l := by
  refine ⟨rfl, hsz, fun _ => ⟨_, rfl, fun i x hi => ⟨hsz x (List.mem_of_getElem? hi), fun j v hj => ?_⟩⟩⟩
  rw [eh, Addr.add_n, Addr.add_n]
  simp only [H.rd, H.set_eq, Nat.zero_add]
  exact flatMap_at hsz hi hj
end Go.Proofs.YtimadnngfhbfiaaGreatDoor
end

section
/- PRINTED by wip/gen.py: what muntin/muntinref08.Make does, in the words of Mu. -/
namespace Go.Proofs.YtimadnngfhbfiaaGreatDoor
open Go Go.Mu
/- muntin/muntinref08.Make -/
def S19_j1 (K : Sl → Sl → H → Prop) (c5_0_1 : Sl) (c5_1_1 : Sl) (h_2 : H) : Prop :=
  K c5_0_1 c5_1_1 h_2
def S19_j2 (v7 : Int) (c5_0_2 : Sl) (c5_1_2 : Sl) (X : (Int × Sl × Sl) → H → Prop) (c8_0 : Int) (c8_1 : Int) (c8_2 : Int) (c8_3 : ByteArray) (h_5 : H) : Prop :=
  app 61 4 40 c5_1_2 1 [(.int .i64 c8_0), (.int .i64 c8_1), (.int .i64 c8_2), (.string c8_3)] h_5 (fun (v121 : Sl) (h_6 : H) => X ((IntKind.wrap .i64 (v7 + 1)), c5_0_2, v121) h_6)
def S19_j3 (v9 : Int) (X_1 : (Int × Int × Int × Int × ByteArray) → H → Prop) (c8_0_2 : Int) (c8_1_2 : Int) (c8_2_2 : Int) (c8_3_2 : ByteArray) (h_8 : H) : Prop :=
  X_1 ((IntKind.wrap .i64 (v9 + 1)), c8_0_2, c8_1_2, c8_2_2, c8_3_2) h_8
def S19_l4 (p0_2 : Sl) (v7 : Int) (c5_0_2 : Sl) (c5_1_2 : Sl) (X : (Int × Sl × Sl) → H → Prop) (X_1 : (Int × Int × Int × Int × ByteArray) → H → Prop) (v9 : Int) (c8_0_1 : Int) (c8_1_1 : Int) (c8_2_1 : Int) (c8_3_1 : ByteArray) (h_7 : H) : Prop :=
  (∃ a92 : Addr, p0_2.a = some a92 ∧ 0 ≤ v7 ∧ v7 < (p0_2.l : Int) ∧ (∃ (v93 : Int), H.rd h_7 (Addr.add a92 (Int.toNat v7 * 1)) = some (.int .u8 v93) ∧ (if (decide (v9 < (Int.tmod (IntKind.wrap .i64 v93) 4))) = true then (∃ a102 : Addr, p0_2.a = some a102 ∧ 0 ≤ v7 ∧ v7 < (p0_2.l : Int) ∧ (∃ (v103 : Int), H.rd h_7 (Addr.add a102 (Int.toNat v7 * 1)) = some (.int .u8 v103) ∧ (0 ≤ (IntKind.wrap .i64 (2 + v9)) ∧ (if ((IntKind.wrap .u8 (((BitVec.ofInt (IntKind.bits .u8) (Int.fdiv v103 (2 ^ (min (Int.toNat (IntKind.wrap .i64 (2 + v9))) (IntKind.bits .u8)))) &&& BitVec.ofInt (IntKind.bits .u8) 1).toNat : Nat) : Int)) == 1) = true then (ByteArray.size c8_3_1 + ByteArray.size ⟨#[76]⟩ ≤ 9223372036854775807 ∧ S19_j3 v9 X_1 c8_0_1 c8_1_1 c8_2_1 (c8_3_1 ++ ⟨#[76]⟩) h_7) else (ByteArray.size c8_3_1 + ByteArray.size ⟨#[82]⟩ ≤ 9223372036854775807 ∧ S19_j3 v9 X_1 c8_0_1 c8_1_1 c8_2_1 (c8_3_1 ++ ⟨#[82]⟩) h_7))))) else S19_j2 v7 c5_0_2 c5_1_2 X c8_0_1 c8_1_1 c8_2_1 c8_3_1 h_7)))
def S19_j5 (p0_1 : Sl) (p0_2 : Sl) (K : Sl → Sl → H → Prop) (v7 : Int) (c5_0_2 : Sl) (c5_1_2 : Sl) (X : (Int × Sl × Sl) → H → Prop) (v49 : Bool) (h_4 : H) : Prop :=
  (if v49 = true then (∃ a55 : Addr, p0_1.a = some a55 ∧ 0 ≤ v7 ∧ v7 < (p0_1.l : Int) ∧ (∃ (v57 : Int), H.rd h_4 (Addr.add a55 (Int.toNat v7 * 3)) = some (.int .u8 v57) ∧ ((c5_0_2.l : Int) ≠ 0 ∧ (∃ a66 : Addr, p0_1.a = some a66 ∧ 0 ≤ v7 ∧ v7 < (p0_1.l : Int) ∧ (∃ (v68 : Int), H.rd h_4 (Addr.add (Addr.add a66 (Int.toNat v7 * 3)) 1) = some (.int .u8 v68) ∧ ((c5_0_2.l : Int) ≠ 0 ∧ (∃ a77 : Addr, p0_1.a = some a77 ∧ 0 ≤ v7 ∧ v7 < (p0_1.l : Int) ∧ (∃ (v79 : Int), H.rd h_4 (Addr.add (Addr.add a77 (Int.toNat v7 * 3)) 2) = some (.int .u8 v79) ∧ (if (decide (v7 < (p0_2.l : Int))) = true then lfp (fun X_1 s h_7 => S19_l4 p0_2 v7 c5_0_2 c5_1_2 X X_1 s.1 s.2.1 s.2.2.1 s.2.2.2.1 s.2.2.2.2 h_7) (0, (Int.tmod (IntKind.wrap .i64 v57) (c5_0_2.l : Int)), (Int.tmod (IntKind.wrap .i64 v68) (c5_0_2.l : Int)), (Int.tmod (IntKind.wrap .i64 v79) 4), ⟨#[]⟩) h_4 else S19_j2 v7 c5_0_2 c5_1_2 X (Int.tmod (IntKind.wrap .i64 v57) (c5_0_2.l : Int)) (Int.tmod (IntKind.wrap .i64 v68) (c5_0_2.l : Int)) (Int.tmod (IntKind.wrap .i64 v79) 4) ⟨#[]⟩ h_4))))))))) else S19_j1 K c5_0_2 c5_1_2 h_4)
def S19_l6 (p0_1 : Sl) (p0_2 : Sl) (p1 : Int) (K : Sl → Sl → H → Prop) (X : (Int × Sl × Sl) → H → Prop) (v7 : Int) (c5_0_2 : Sl) (c5_1_2 : Sl) (h_3 : H) : Prop :=
  S19_j5 p0_1 p0_2 K v7 c5_0_2 c5_1_2 X (((decide (v7 < (p0_1.l : Int))) && (decide (v7 < (IntKind.wrap .i64 (2 * p1))))) && (decide ((c5_0_2.l : Int) > 0))) h_3
def S19_j7 (p0_1 : Sl) (p0_2 : Sl) (p1 : Int) (K : Sl → Sl → H → Prop) (c5_0 : Sl) (c5_1 : Sl) (h_1 : H) : Prop :=
  lfp (fun X s h_3 => S19_l6 p0_1 p0_2 p1 K X s.1 s.2.1 s.2.2 h_3) (0, c5_0, c5_1) h_1
def S19_j8 (p0_0 : Sl) (p0_1 : Sl) (p0_2 : Sl) (p1 : Int) (K : Sl → Sl → H → Prop) (v6 : Int) (c5_0_3 : Sl) (c5_1_3 : Sl) (X_2 : (Int × Sl × Sl) → H → Prop) (v20 : Bool) (h_10 : H) : Prop :=
  (if v20 = true then (∃ a28 : Addr, p0_0.a = some a28 ∧ 0 ≤ v6 ∧ v6 < (p0_0.l : Int) ∧ (∃ (v29 : Bool), H.rd h_10 (Addr.add a28 (Int.toNat v6 * 1)) = some (.bool v29) ∧ app 4 1 1 c5_0_3 1 [(.bool v29)] h_10 (fun (v31 : Sl) (h_11 : H) => X_2 ((IntKind.wrap .i64 (v6 + 1)), v31, c5_1_3) h_11))) else S19_j7 p0_1 p0_2 p1 K c5_0_3 c5_1_3 h_10)
def S19_l9 (p0_0 : Sl) (p0_1 : Sl) (p0_2 : Sl) (p1 : Int) (K : Sl → Sl → H → Prop) (X_2 : (Int × Sl × Sl) → H → Prop) (v6 : Int) (c5_0_3 : Sl) (c5_1_3 : Sl) (h_9 : H) : Prop :=
  S19_j8 p0_0 p0_1 p0_2 p1 K v6 c5_0_3 c5_1_3 X_2 ((decide (v6 < (p0_0.l : Int))) && (decide (v6 < p1))) h_9
def S19 (p0_0 : Sl) (p0_1 : Sl) (p0_2 : Sl) (p1 : Int) (h : H) (K : Sl → Sl → H → Prop) : Prop :=
  lfp (fun X_2 s h_9 => S19_l9 p0_0 p0_1 p0_2 p1 K X_2 s.1 s.2.1 s.2.2 h_9) (0, Sl.nil, Sl.nil) h
end Go.Proofs.YtimadnngfhbfiaaGreatDoor
end

section
/- Printed by a program, the call of itself struck: what muntin/muntinref06.Digits does, in the words of Mu. -/
namespace Go.Proofs.YtimadnngfhbfiaaGreatDoor
open Go Go.Mu
/- muntin/muntinref06.Digits -/
def S50_j1 (K : ByteArray → H → Prop) (v4 : ByteArray) (h_3 : H) : Prop :=
  K v4 h_3
def S50_l2 (K : ByteArray → H → Prop) (X : (Int × ByteArray) → H → Prop) (v0 : Int) (v4_1 : ByteArray) (h_4 : H) : Prop :=
  (if (decide (v0 > 0)) = true then (∀ (b30 : Nat) (h_5 : H), h_4 b30 = none → h_5 = H.set h_4 b30 (.row ⟨[(.int .u8 (IntKind.wrap .u8 (IntKind.wrap .i64 (48 + (Int.tmod v0 10)))))], 1, 5, true, true⟩) → (∃ v31 : ByteArray, isBytes h_5 ⟨some ⟨b30, 0, none⟩, 1, 1⟩ v31 ∧ (ByteArray.size v31 + ByteArray.size v4_1 ≤ 9223372036854775807 ∧ X ((IntKind.wrap .i64 (Int.tdiv v0 10)), (v31 ++ v4_1)) h_5))) else S50_j1 K v4_1 h_4)
def S50 (p0 : Int) (h : H) (K : ByteArray → H → Prop) : Prop :=
  (if (p0 == (-9223372036854775808)) = true then K ⟨#[45, 57, 50, 50, 51, 51, 55, 50, 48, 51, 54, 56, 53, 52, 55, 55, 53, 56, 48, 56]⟩ h else (if (decide (p0 < 0)) = true then False else (∀ (b18 : Nat) (h_2 : H), h b18 = none → h_2 = H.set h b18 (.row ⟨[(.int .u8 (IntKind.wrap .u8 (IntKind.wrap .i64 (48 + (Int.tmod p0 10)))))], 1, 5, true, true⟩) → (∃ v19 : ByteArray, isBytes h_2 ⟨some ⟨b18, 0, none⟩, 1, 1⟩ v19 ∧ lfp (fun X s h_4 => S50_l2 K X s.1 s.2 h_4) ((IntKind.wrap .i64 (Int.tdiv p0 10)), v19) h_2))))
end Go.Proofs.YtimadnngfhbfiaaGreatDoor
end

section
/- PRINTED by wip/gen.py: what muntin/muntinref08.Print does, in the words of Mu. -/
namespace Go.Proofs.YtimadnngfhbfiaaGreatDoor
open Go Go.Mu
/- muntin/muntinref08.Print -/
def S20_j1 (K : ByteArray → H → Prop) (v3_2 : ByteArray) (h_3 : H) : Prop :=
  (ByteArray.size v3_2 + ByteArray.size ⟨#[101, 110, 100, 10]⟩ ≤ 9223372036854775807 ∧ K (v3_2 ++ ⟨#[101, 110, 100, 10]⟩) h_3)
def S20_j2 (v5 : Int) (X : (ByteArray × Int) → H → Prop) (v3_4 : ByteArray) (h_8 : H) : Prop :=
  (ByteArray.size v3_4 + ByteArray.size ⟨#[10]⟩ ≤ 9223372036854775807 ∧ X ((v3_4 ++ ⟨#[10]⟩), (IntKind.wrap .i64 (v5 + 1))) h_8)
def S20_l3 (p0_1 : Sl) (K : ByteArray → H → Prop) (X : (ByteArray × Int) → H → Prop) (v3_3 : ByteArray) (v5 : Int) (h_4 : H) : Prop :=
  (if (decide (v5 < (p0_1.l : Int))) = true then (∃ a44 : Addr, p0_1.a = some a44 ∧ 0 ≤ v5 ∧ v5 < (p0_1.l : Int) ∧ (∃ (v45_0 : Int) (v45_1 : Int) (v45_2 : Int) (v45_3 : ByteArray), H.rdn h_4 (Addr.add a44 (Int.toNat v5 * 4)) 4 [(.int .i64 v45_0), (.int .i64 v45_1), (.int .i64 v45_2), (.string v45_3)] ∧ S50 v45_0 h_4 (fun (v48 : ByteArray) (h_5 : H) => S50 v45_1 h_5 (fun (v51 : ByteArray) (h_6 : H) => S51 v45_2 h_6 (fun (v54 : ByteArray) (h_7 : H) => (ByteArray.size v3_3 + ByteArray.size v48 ≤ 9223372036854775807 ∧ (ByteArray.size (v3_3 ++ v48) + ByteArray.size ⟨#[32]⟩ ≤ 9223372036854775807 ∧ (ByteArray.size ((v3_3 ++ v48) ++ ⟨#[32]⟩) + ByteArray.size v54 ≤ 9223372036854775807 ∧ (ByteArray.size (((v3_3 ++ v48) ++ ⟨#[32]⟩) ++ v54) + ByteArray.size ⟨#[32]⟩ ≤ 9223372036854775807 ∧ (ByteArray.size ((((v3_3 ++ v48) ++ ⟨#[32]⟩) ++ v54) ++ ⟨#[32]⟩) + ByteArray.size v51 ≤ 9223372036854775807 ∧ (if (!(ByteArray.toList v45_3 == ByteArray.toList ⟨#[]⟩)) = true then (ByteArray.size (((((v3_3 ++ v48) ++ ⟨#[32]⟩) ++ v54) ++ ⟨#[32]⟩) ++ v51) + ByteArray.size ⟨#[32]⟩ ≤ 9223372036854775807 ∧ (ByteArray.size ((((((v3_3 ++ v48) ++ ⟨#[32]⟩) ++ v54) ++ ⟨#[32]⟩) ++ v51) ++ ⟨#[32]⟩) + ByteArray.size v45_3 ≤ 9223372036854775807 ∧ S20_j2 v5 X (((((((v3_3 ++ v48) ++ ⟨#[32]⟩) ++ v54) ++ ⟨#[32]⟩) ++ v51) ++ ⟨#[32]⟩) ++ v45_3) h_7)) else S20_j2 v5 X (((((v3_3 ++ v48) ++ ⟨#[32]⟩) ++ v54) ++ ⟨#[32]⟩) ++ v51) h_7))))))))))) else S20_j1 K v3_3 h_4)
def S20_j4 (p0_1 : Sl) (K : ByteArray → H → Prop) (v3_1 : ByteArray) (h_2 : H) : Prop :=
  (ByteArray.size v3_1 + ByteArray.size ⟨#[10]⟩ ≤ 9223372036854775807 ∧ lfp (fun X s h_4 => S20_l3 p0_1 K X s.1 s.2 h_4) ((v3_1 ++ ⟨#[10]⟩), 0) h_2)
def S20_j5 (p0_0 : Sl) (p0_1 : Sl) (K : ByteArray → H → Prop) (v3 : ByteArray) (h_1 : H) : Prop :=
  (if ((p0_0.l : Int) == 0) = true then (ByteArray.size v3 + ByteArray.size ⟨#[45]⟩ ≤ 9223372036854775807 ∧ S20_j4 p0_1 K (v3 ++ ⟨#[45]⟩) h_1) else S20_j4 p0_1 K v3 h_1)
def S20_j6 (v4 : Int) (X_1 : (ByteArray × Int) → H → Prop) (v3_6 : ByteArray) (h_10 : H) : Prop :=
  X_1 (v3_6, (IntKind.wrap .i64 (v4 + 1))) h_10
def S20_l7 (p0_0 : Sl) (p0_1 : Sl) (K : ByteArray → H → Prop) (X_1 : (ByteArray × Int) → H → Prop) (v3_5 : ByteArray) (v4 : Int) (h_9 : H) : Prop :=
  (if (decide (v4 < (p0_0.l : Int))) = true then (∃ a20 : Addr, p0_0.a = some a20 ∧ 0 ≤ v4 ∧ v4 < (p0_0.l : Int) ∧ (∃ (v21 : Bool), H.rd h_9 (Addr.add a20 (Int.toNat v4 * 1)) = some (.bool v21) ∧ (if v21 = true then (ByteArray.size v3_5 + ByteArray.size ⟨#[98]⟩ ≤ 9223372036854775807 ∧ S20_j6 v4 X_1 (v3_5 ++ ⟨#[98]⟩) h_9) else (ByteArray.size v3_5 + ByteArray.size ⟨#[112]⟩ ≤ 9223372036854775807 ∧ S20_j6 v4 X_1 (v3_5 ++ ⟨#[112]⟩) h_9)))) else S20_j5 p0_0 p0_1 K v3_5 h_9)
def S20 (p0_0 : Sl) (p0_1 : Sl) (h : H) (K : ByteArray → H → Prop) : Prop :=
  lfp (fun X_1 s h_9 => S20_l7 p0_0 p0_1 K X_1 s.1 s.2 h_9) (⟨#[115, 104, 97, 112, 101, 32]⟩, 0) h
end Go.Proofs.YtimadnngfhbfiaaGreatDoor
end

section
/-
  Shapes that are made; the reference's Print.
-/
namespace Go.Proofs.YtimadnngfhbfiaaGreatDoor
open Go Go.Mu Go.Shape Go.Text
variable {h h0 : H}
set_option maxHeartbeats 1000000

/- ---------------------------------------------------------------- Make -/
def enc3 (x : Nat × Nat × Nat) : List Value := [.int .u8 x.1, .int .u8 x.2.1, .int .u8 x.2.2]
def encU (x : Nat) : List Value := [.int .u8 x]
theorem tmodN {x : Int} {n m : Nat} (e : x = n) : Int.tmod x (m : Int) = ((n % m : Nat) : Int) := by subst e; rfl
abbrev two (s0 s1 : Sl) (bx : List Bool) (es : List Ed) : Bool → Res
  | false => .arr s0 4 1 (bx.flatMap encB)
  | true => .arr s1 61 4 (es.flatMap Ed.enc)
theorem bs_snoc (b : List Bool) (x : Bool) : bs b ++ ⟨#[letter x]⟩ = bs (b ++ [x]) := by
  apply ByteArray.ext
  rw [ByteArray.data_append]
  simp [bs]
theorem c19m {m : Nat} (hm : m ≤ 8) {z0 z1 z2 : Sl} {zb : List Bool} {ze : List (Nat × Nat × Nat)} {zc : List Nat} (hb : Rd h z0 1 encB zb) (he : Rd h z1 3 enc3 ze) (hc : Rd h z2 1 encU zc)
    (u1 : ∀ x ∈ ze, x.1 < 256 ∧ x.2.1 < 256 ∧ x.2.2 < 256) (u2 : ∀ x ∈ zc, x < 256) {K : Sl → Sl → H → Prop}
    (k : ∀ bx es s0 s1 h', St h h' (two s0 s1 bx es) → s0.l = bx.length → s1.l = es.length → bx.length ≤ m → es.length ≤ 2 * m → (∀ e ∈ es, e.Ok bx.length) → K s0 s1 h') : S19 z0 z1 z2 m h K := by
  have lb := hb.len
  have le := he.len
  have lc := hc.len
  unfold S19
  refine lfp.count m (fun i (u : Int × Sl × Sl) h' => u.1 = (i : Int) ∧ u.2.2 = Sl.nil ∧ ∃ bx : List Bool, bx.length = i ∧ u.2.1.l = i ∧ St h h' (two u.2.1 Sl.nil bx [])) (fun X i u h' hi ⟨q1, q2, bx, q3, q4, st⟩ next => ?_)
    ⟨rfl, rfl, [], rfl, rfl, ((St.init (ρ := Bool) h).nilArr false (fun b => match b with | false => .arr Sl.nil 4 1 [] | true => .no) rfl (fun i hi => by cases i <;> simp_all)).nilArr true _ rfl (fun i hi => by cases i <;> simp_all)⟩
  obtain ⟨v6, c0, c1⟩ := u
  simp only at q1 q2 q4 st; subst q1 q2
  unfold S19_l9 S19_j8
  by_cases hlt : i < zb.length ∧ i < m
  · rw [if_pos (by simp only [Bool.and_eq_true, decide_eq_true_eq]; omega)]
    obtain ⟨x, hx⟩ : ∃ x, zb[i]? = some x := ⟨_, List.getElem?_eq_getElem hlt.1⟩
    obtain ⟨a, ha, hrd⟩ := hb.ix hx
    refine ⟨a, ha, by omega, by omega, x, (st.le.rdn hrd).at0, _, _, st.own false rfl, by simp only [maxLen]; omega, by omega, fun s' h2 ap => ?_⟩
    have := st.app false rfl rfl rfl ap (two s' Sl.nil (bx ++ [x]) []) (by simp [two, encB]) (fun i hi => by cases i <;> simp_all)
    exact next hlt.2 _ _ ⟨wsucc (by omega), rfl, bx ++ [x], by simp [q3], by rw [this.2, q4], this.1⟩
  · rw [if_neg (by simp only [Bool.and_eq_true, decide_eq_true_eq]; omega)]
    clear next
    unfold S19_j7
    have hbx : bx.length ≤ m := by omega
    have w2 : IntKind.i64.wrap (2 * (m : Int)) = ((2 * m : Nat) : Int) := wrapN (by omega) (by omega)
    refine lfp.count (2 * m) (fun i (u : Int × Sl × Sl) h2 => u.1 = (i : Int) ∧ u.2.1 = c0 ∧ ∃ es : List Ed, es.length = i ∧ u.2.2.l = i ∧ (∀ e ∈ es, e.Ok bx.length) ∧ St h h2 (two c0 u.2.2 bx es)) (fun Y j u h2 hj ⟨q1, q2, es, q5, q6, ok, st⟩ next => ?_)
      ⟨rfl, rfl, [], rfl, rfl, by simp, st⟩
    obtain ⟨v7, c0', c1⟩ := u
    simp only at q1 q2 q6 st; subst q1 q2
    unfold S19_l6 S19_j5
    by_cases hlt : j < ze.length ∧ j < 2 * m ∧ 0 < bx.length
    · rw [if_pos (by
        simp only [Bool.and_eq_true, decide_eq_true_eq, w2]; omega)]
      obtain ⟨x, hx⟩ : ∃ x, ze[j]? = some x := ⟨_, List.getElem?_eq_getElem hlt.1⟩
      obtain ⟨a, ha, hrd⟩ := he.ix hx
      have hrd := st.le.rdn hrd
      have ux := u1 x (List.mem_of_getElem? hx)
      have hl0 : c0'.l = bx.length := by omega
      have hne : (c0'.l : Int) ≠ 0 := by rw [hl0]; omega
      refine ⟨a, ha, by omega, by omega, x.1, hrd.at0, hne, a, ha, by omega, by omega, x.2.1, hrd.at 1 rfl, hne, a, ha, by omega, by omega, x.2.2, hrd.at 2 rfl, ?_⟩
      rw [wrapN (x := (x.1 : Int)) rfl (by omega), wrapN (x := (x.2.1 : Int)) rfl (by omega), wrapN (x := (x.2.2 : Int)) rfl (by omega), tmodN rfl, tmodN rfl]
      have e3 : Int.tmod (x.2.2 : Int) 4 = ((x.2.2 % 4 : Nat) : Int) := rfl
      rw [e3]
      have m1 : x.1 % c0'.l < bx.length := by rw [hl0]; exact Nat.mod_lt _ hlt.2.2
      have m2 : x.2.1 % c0'.l < bx.length := by rw [hl0]; exact Nat.mod_lt _ hlt.2.2
      have m3 : x.2.2 % 4 < 4 := Nat.mod_lt _ (by decide)
      -- what is appended
      have fin : ∀ b : List Bool, b.length < 4 → S19_j2 j c0' c1 Y ((x.1 % c0'.l : Nat) : Int) ((x.2.1 % c0'.l : Nat) : Int) ((x.2.2 % 4 : Nat) : Int) (bs b) h2 := by
        intro b hb4
        unfold S19_j2
        refine ⟨_, _, st.own true rfl, by simp only [maxLen]; omega, by omega, fun s' h3 ap => ?_⟩
        have := st.app true rfl rfl rfl ap (two c0' s' bx (es ++ [⟨x.1 % c0'.l, x.2.1 % c0'.l, x.2.2 % 4, b⟩])) (by simp [two, Ed.enc]) (fun i hi => by cases i <;> simp_all)
        refine next hlt.2.1 _ _ ⟨wsucc (by omega), rfl, _, by simp [q5], by rw [this.2, q6], ?_, this.1⟩
        intro e hm
        rcases List.mem_append.1 hm with hm | hm
        · exact ok e hm
        · simp only [List.mem_singleton] at hm; subst hm
          exact ⟨m1, m2, m3, hb4⟩
      by_cases hc2 : j < zc.length
      · rw [if_pos (by simp only [decide_eq_true_eq]; omega)]
        obtain ⟨y, hy⟩ : ∃ x, zc[j]? = some x := ⟨_, List.getElem?_eq_getElem hc2⟩
        obtain ⟨a2, ha2, hrd2⟩ := hc.ix hy
        have hrd2 := st.le.rdn hrd2
        have uy := u2 y (List.mem_of_getElem? hy)
        refine lfp.count 3 (fun i (u : Int × Int × Int × Int × ByteArray) h3 => h3 = h2 ∧ ∃ b : List Bool, b.length = i ∧ u = ((i : Int), ((x.1 % c0'.l : Nat) : Int), ((x.2.1 % c0'.l : Nat) : Int), ((x.2.2 % 4 : Nat) : Int), bs b)) (fun Z n u h3 hn ⟨q7, b, q8, q9⟩ nxt => ?_)
          ⟨rfl, [], rfl, rfl⟩
        subst q7 q9
        unfold S19_l4
        refine ⟨a2, ha2, by omega, by omega, y, hrd2.at0, ?_⟩
        rw [wrapN (x := (y : Int)) rfl (by omega)]
        have e4 : Int.tmod (y : Int) 4 = ((y % 4 : Nat) : Int) := rfl
        rw [e4]
        by_cases hn2 : n < y % 4
        · have : y % 4 < 4 := Nat.mod_lt _ (by decide)
          rw [if_pos (by simp only [decide_eq_true_eq]; omega)]
          refine ⟨a2, ha2, by omega, by omega, y, hrd2.at0, by rw [wrapN (x := 2 + (n : Int)) (n := 2 + n) (by omega) (by omega)]; omega, ?_⟩
          have step : ∀ c : Bool, S19_j3 n Z ((x.1 % c0'.l : Nat) : Int) ((x.2.1 % c0'.l : Nat) : Int) ((x.2.2 % 4 : Nat) : Int) (bs b ++ ⟨#[letter c]⟩) h3 := by
            intro c
            unfold S19_j3
            rw [wsucc (by omega), bs_snoc]
            exact nxt (by omega) _ _ ⟨rfl, b ++ [c], by simp [q8], rfl⟩
          have sz : ∀ c : UInt8, (bs b).size + ByteArray.size ⟨#[c]⟩ ≤ 9223372036854775807 := fun c => by
            have : ByteArray.size ⟨#[c]⟩ = 1 := rfl
            rw [bs_size, this]; omega
          split
          · exact ⟨sz _, step true⟩
          · exact ⟨sz _, step false⟩
        · rw [if_neg (by simp only [decide_eq_true_eq]; omega)]
          exact fin b (by omega)
      · rw [if_neg (by simp only [decide_eq_true_eq]; omega)]
        exact fin [] (by decide)
    · rw [if_neg (by
        simp only [Bool.and_eq_true, decide_eq_true_eq, w2]; omega)]
      unfold S19_j1
      exact k bx es c0' c1 h2 st (by omega) (by omega) hbx (by omega) ok
end Go.Proofs.YtimadnngfhbfiaaGreatDoor
end

section
/-
  Slices of bools, of bytes, of threes, as they are handed in; a row that lists variables, the world's shape kept.
-/
namespace Go.Proofs.YtimadnngfhbfiaaGreatDoor
open Go Go.Mu Go.Shape
open Go.ChangeShapes Go.WideShapes Go.ChangeAt Go.RowKit Go.Joins Go.Deep
section
variable {H' : Type} {enc : TypeId × Value → H'} {P : Program} {W : World} {held : Bool} {fuel : Nat} {base : Nat}
theorem Rd_nil {h : H} {size : Nat} {α : Type} {en : α → List Value} : Rd h Sl.nil size en [] := ⟨rfl, fun _ hx => (by cases hx), fun hp => absurd hp (Nat.lt_irrefl 0)⟩
/-- A slice of bools, of bytes, of arrays of three bytes, as it is read. -/
theorem rd_bools {t e : TypeId} {v : Value} {x : DataW H' × List MemPlace} (ht : P.underlying t = some (.slice e)) (he : P.underlying e = some .bool) (hc : P.cellsOf e = 1)
    (h : DataW.trod enc P W base (fun _ => true) held fuel t [v] = some x) : ∃ s : Sl, v = .slice s.a s.l s.c ∧ ∃ l : List Bool, Rd (H.of W) s 1 encB l := by
  rcases open_bools ht he hc h with ⟨hv, _⟩ | ⟨a, len, cap, B, hv, _, hl, _, _, hcell⟩
  · exact ⟨Sl.nil, by simpa using hv, [], Rd_nil⟩
  · refine ⟨⟨some a, len, cap⟩, by simpa using hv, (List.range len).map B, by simp, fun _ _ => rfl, fun _ => ⟨a, rfl, fun i y hi => ⟨rfl, fun j u hj => ?_⟩⟩⟩
    have hil : i < len := by have := (List.getElem?_eq_some_iff.1 hi).1; simpa using this
    have hy : B i = y := by simpa [hil] using hi
    match j, hj with
    | 0, hj =>
      have : u = .bool (B i) := by rw [hy]; simpa [encB] using hj.symm
      rw [this, Addr.add_add, Nat.mul_one, Nat.add_zero]
      exact H.of_rd (hcell i (by omega))
    | j + 1, hj => simp [encB] at hj
theorem u8_nat {n : Int} (hw : (Lit.int .u8 n).wf = true) : ∃ k : Nat, n = k ∧ k < 256 := by
  simp only [Lit.wf, Bool.and_eq_true] at hw
  have h1 : (0 : Int) ≤ n := of_decide_eq_true hw.1
  have h2 : n ≤ 255 := of_decide_eq_true hw.2
  exact ⟨n.toNat, by omega, by omega⟩
theorem rd_bytes {t e : TypeId} {v : Value} {x : DataW H' × List MemPlace} (ht : P.underlying t = some (.slice e)) (he : P.underlying e = some (.int .u8)) (hc : P.cellsOf e = 1)
    (h : DataW.trod enc P W base (fun _ => true) held fuel t [v] = some x) : ∃ s : Sl, v = .slice s.a s.l s.c ∧ ∃ l : List Nat, Rd (H.of W) s 1 encU l ∧ ∀ x ∈ l, x < 256 := by
  rcases open_ints ht he hc h with ⟨hv, _⟩ | ⟨a, len, cap, zs, hv, _, hl, _, hz, _, hcell, hwf⟩
  · exact ⟨Sl.nil, by simpa using hv, [], Rd_nil, fun _ hx => (by cases hx)⟩
  · simp only [if_true] at hz
    refine ⟨⟨some a, len, cap⟩, by simpa using hv, (zs.take len).map Int.toNat, ⟨by simp; omega, fun _ _ => rfl, fun _ => ⟨a, rfl, fun i y hi => ⟨rfl, fun j u hj => ?_⟩⟩⟩, fun x hx => ?_⟩
    · have hil : i < len := by have := (List.getElem?_eq_some_iff.1 hi).1; simp at this; omega
      have hzi : zs[i]? = some (zs.getD i 0) := by rw [List.getD_eq_getElem?_getD, List.getElem?_eq_getElem (by omega)]; rfl
      obtain ⟨k, hk, _⟩ := u8_nat (hwf (zs.getD i 0) (List.mem_of_getElem? hzi))
      have hy : y = (zs.getD i 0).toNat := by
        rw [List.getElem?_map, List.getElem?_take_of_lt hil, hzi] at hi
        simpa using hi.symm
      match j, hj with
      | 0, hj =>
        have : u = .int .u8 (zs.getD i 0) := by
          have h1 : u = .int .u8 (y : Int) := by simpa [encU] using hj.symm
          rw [h1, hy, hk]; rfl
        rw [this, Addr.add_add, Nat.mul_one, Nat.add_zero]
        exact H.of_rd (hcell i (by omega))
      | j + 1, hj => simp [encU] at hj
    · obtain ⟨z, hz2, rfl⟩ := List.mem_map.1 hx
      obtain ⟨k, rfl, hk⟩ := u8_nat (hwf z (List.mem_of_mem_take hz2))
      simpa using hk
theorem rd_threes {t e b : TypeId} {v : Value} {x : DataW H' × List MemPlace} (ht : P.underlying t = some (.slice e)) (he : P.underlying e = some (.array 3 b)) (hb : P.underlying b = some (.int .u8)) (hc : P.cellsOf e = 3) (hcb : P.cellsOf b = 1)
    (h : DataW.trod enc P W base (fun _ => true) held fuel t [v] = some x) : ∃ s : Sl, v = .slice s.a s.l s.c ∧ ∃ l : List (Nat × Nat × Nat), Rd (H.of W) s 3 enc3 l ∧ ∀ x ∈ l, x.1 < 256 ∧ x.2.1 < 256 ∧ x.2.2 < 256 := by
  rcases open_slice ht h with ⟨hv, _⟩ | ⟨a, len, cap, m, n, D, Pl, hv, _, hl, _, hm, _, hel⟩
  · exact ⟨Sl.nil, by simpa using hv, [], Rd_nil, fun _ hx => (by cases hx)⟩
  · simp only [if_true] at hm
    subst hm
    have one : ∀ i, i < m → ∃ y : Nat × Nat × Nat, (y.1 < 256 ∧ y.2.1 < 256 ∧ y.2.2 < 256) ∧ (H.of W).rdn (a.add (i * 3)) 3 (enc3 y) := fun i hi => by
      obtain ⟨cs, hcs, htr⟩ := hel i hi
      rw [hc] at hcs
      obtain ⟨_, hcl, hat⟩ := World.cells?_some hcs
      match cs, hcl with
      | [c0, c1, c2], _ =>
        obtain ⟨y0, y1, y2, n', _, t0, t1, t2⟩ := trod_array3 he hcb htr
        obtain ⟨z0, e0, _, w0⟩ := DataW.trod_int hb t0
        obtain ⟨z1, e1, _, w1⟩ := DataW.trod_int hb t1
        obtain ⟨z2, e2, _, w2⟩ := DataW.trod_int hb t2
        obtain ⟨k0, rfl, l0⟩ := u8_nat w0
        obtain ⟨k1, rfl, l1⟩ := u8_nat w1
        obtain ⟨k2, rfl, l2⟩ := u8_nat w2
        simp only [List.cons.injEq, and_true] at e0 e1 e2
        subst e0 e1 e2
        refine ⟨(k0, k1, k2), ⟨l0, l1, l2⟩, rfl, fun j u hj => ?_⟩
        refine H.of_rd ?_
        match j, hj with
        | 0, hj => rw [hat 0 (by decide)]; exact hj
        | 1, hj => rw [hat 1 (by decide)]; exact hj
        | 2, hj => rw [hat 2 (by decide)]; exact hj
        | j + 3, hj => simp [enc3] at hj
    -- gathered
    have all : ∀ k, k ≤ m → ∃ l : List (Nat × Nat × Nat), l.length = k ∧ (∀ x ∈ l, x.1 < 256 ∧ x.2.1 < 256 ∧ x.2.2 < 256) ∧ ∀ i y, l[i]? = some y → (H.of W).rdn (a.add (i * 3)) 3 (enc3 y) := by
      intro k
      induction k with
      | zero => intro _; exact ⟨[], rfl, fun _ hx => (by cases hx), fun i y hi => (by simp at hi)⟩
      | succ k ih =>
        intro hk
        obtain ⟨l, h1, h2, h3⟩ := ih (by omega)
        obtain ⟨y, hy, hr⟩ := one k (by omega)
        refine ⟨l ++ [y], by simp [h1], fun x hx => ?_, fun i z hi => ?_⟩
        · rcases List.mem_append.1 hx with hx | hx
          · exact h2 x hx
          · simp only [List.mem_singleton] at hx; subst hx; exact hy
        · by_cases hik : i < k
          · rw [List.getElem?_append_left (by omega)] at hi; exact h3 i z hi
          · have : i = k := by
              have := (List.getElem?_eq_some_iff.1 hi).1
              simp [h1] at this; omega
            subst this
            rw [List.getElem?_append_right (by omega), h1] at hi
            simp at hi; subst hi; exact hr
    obtain ⟨l, h1, h2, h3⟩ := all len hl
    exact ⟨⟨some a, len, m⟩, by simpa using hv, l, ⟨h1.symm, fun _ _ => rfl, fun _ => ⟨a, rfl, h3⟩⟩, h2⟩
end
end Go.Proofs.YtimadnngfhbfiaaGreatDoor
namespace Go
variable {H : Type} {enc : TypeId × Value → H}
theorem handed_shaped {a : Assume} {C : Checked} {os : Os} {f : FuncId} {fn : Func} {s : ChangeSpec} {conds : List PathCond} {apart fresh handsOn again : Bool} {X : World → Array Value → Prop}
    (hX : ∀ (w w' : World) (args : Array Value), w.heap = w'.heap → X w args → X w' args)
    (own : ownKnob C.prog.godebug = none) (started : os.Started) (noInit : C.prog.inits.idxOf? f = none) (hfn : C.prog.funcs[f]? = some fn)
    (witness : ∃ (w : World) (tape : Tape) (i : Input), w.os = os ∧ (w.forCall tape i).Shaped C.prog ∧ i.vars = [] ∧ Input.okWide C.prog (w.forCall tape i) .any w.heap.size f i ∧
      ((s.pre enc C.prog fn conds apart (w.forCall tape i).memory i.args ∧ X (w.forCall tape i).memory i.args) ∧ sizedMet enc C.prog fn (OpenSpec.ofChange s) apart (w.forCall tape i).memory i.args) ∧ a.holds C.prog (lone (Frame.enter C.prog f i.args .normal) [] (w.forCall tape i)))
    (contract : ∀ (W : World) (base : Nat) (args : Array Value) (ds gs : List (DataW H)) (before : List MemPlace),
      (∀ (j : Nat) t v, fn.params[j]? = some t → args[j]? = some v → Value.okWide C.prog W .any base t v) →
      DataW.Whole enc C.prog fn.params.toList s.vars apart W args.toList ds gs before → X W args → W.ShapedOpen C.prog →
      Calls C.prog f args W fun e W' => ∃ v, e = .returned v ∧ s.post enc C.prog fn apart fresh handsOn again W args v W') :
    ReturnsInHanded a C os f .any (fun w args => (s.pre enc C.prog fn conds apart w args ∧ X w args) ∧ sizedMet enc C.prog fn (OpenSpec.ofChange s) apart w args) (s.post enc C.prog fn apart fresh handsOn again) := by
  refine returnsInHanded_of_calls own started noInit witness ?_
  intro w tape i _ hsh _ hok hpre _
  obtain ⟨_, _, _, fn', hfn', _, _, _, _, hval⟩ := hok
  have e : fn' = fn := Option.some.inj (hfn'.symm.trans hfn)
  subst e
  obtain ⟨⟨⟨ds, gs, before, hw, _⟩, hx⟩, _⟩ := hpre
  have hw' := DataW.Whole.of_heap (w' := w.forCall tape i) (by rfl) hw
  refine (contract (w.forCall tape i) w.heap.size i.args ds gs before hval hw' (hX _ _ _ (by rfl) hx) hsh).mono fun e W' ⟨v, he, hp⟩ => ?_
  subst he
  exact ChangeSpec.post_blind hp
end Go
end

section
/-
  Lines struck, doubled, joined, turned: what a text so changed is parsed to, in plain words.
-/
namespace Go.Text
open Go Go.Mu Go.Shape
/-- Pieces that keep the byte they are cut behind. -/
def keepC (c : UInt8) : List Bs → List Bs
  | [] => []
  | [x] => [x]
  | x :: y :: l => (x ++ [c]) :: keepC c (y :: l)
theorem keepC_cons {c : UInt8} {x : Bs} {l : List Bs} (h : l ≠ []) : keepC c (x :: l) = (x ++ [c]) :: keepC c l := by
  cases l with
  | nil => exact absurd rfl h
  | cons y l => rfl
theorem splitK_keep (c : UInt8) : ∀ (n : Nat) (s : Bs), s.length ≤ n → Lib.splitK [c] 1 (Lib.count s [c]) s = keepC c (splitC c s) := by
  intro n
  induction n with
  | zero =>
    intro s h
    have : s = [] := List.eq_nil_of_length_eq_zero (by omega)
    subst this
    rfl
  | succ n ih =>
    intro s h
    rcases Lib.index_spec s [c] with ⟨h1, h2⟩ | ⟨i, h1, h2, h3, h4⟩
    · rw [Lib.count_miss h1]
      have : splitC c s = [s] := splitC_miss (not_mem_of fun j hj => by
        have := h2 j (Nat.le_of_lt (List.getElem?_eq_some_iff.1 hj).1)
        rw [occ1, hj] at this
        simp at this)
      rw [this]; rfl
    · rw [Lib.count_hit (by simp) h1, Nat.add_comm, Lib.splitK, if_neg (by rw [h1]; simp), h1]
      rw [occ1] at h3
      have h3 : s[i]? = some c := by simpa using h3
      have hl := (List.getElem?_eq_some_iff.1 h3).1
      have hg : s[i] = c := (List.getElem?_eq_some_iff.1 h3).2
      have e : s = s.take i ++ c :: s.drop (i + 1) := by
        rw [← hg, ← List.drop_eq_getElem_cons hl, List.take_append_drop]
      have hni : c ∉ s.take i := not_mem_of fun j hj => by
        rw [List.getElem?_take] at hj
        split at hj
        · rename_i hlt
          have := h4 j hlt
          rw [occ1, hj] at this
          simp at this
        · cases hj
      simp only [Int.toNat_natCast, List.length_singleton]
      rw [ih _ (by rw [List.length_drop]; omega)]
      obtain ⟨x, l, el⟩ := splitC_cons c (s.drop (i + 1))
      conv => rhs; rw [e, splitC_hit hni]
      rw [keepC_cons (by rw [el]; simp), List.take_add_one, h3]; rfl
theorem splitB_keep (c : UInt8) (l : Bs) : Lib.splitB (B [c]) 1 (Lib.countB (B l) (B [c])) (B l) = (keepC c (splitC c l)).map B := by
  have h := Lib.splitB_data (B [c]) 1 (Lib.countB (B l) (B [c])) (B l)
  have e : Lib.countB (B l) (B [c]) = Lib.count l [c] := by
    show Lib.count (B l).data.toList (B [c]).data.toList = _
    rw [B_list, B_list]
  rw [e, B_list, B_list, splitK_keep c l.length l (Nat.le_refl _)] at h
  rw [e, ← h, List.map_map]
  conv => lhs; rw [← List.map_id (Lib.splitB _ _ _ _)]
  exact List.map_congr_left fun x _ => B_eta x
theorem splitC_last {c : UInt8} : ∀ {l : List Bs} {z : Bs}, (∀ x ∈ l, c ∉ x) → c ∉ z → splitC c (l.flatMap (· ++ [c]) ++ z) = l ++ [z]
  | [], z, _, hz => by simpa using splitC_miss hz
  | x :: l, z, h, hz => by
    rw [List.flatMap_cons, List.append_assoc, List.append_assoc, List.singleton_append, splitC_hit (h x List.mem_cons_self), splitC_last (fun y hy => h y (List.mem_cons_of_mem _ hy)) hz]; rfl
theorem keepC_last {c : UInt8} : ∀ {l : List Bs} {z : Bs}, keepC c (l ++ [z]) = l.map (· ++ [c]) ++ [z]
  | [], z => rfl
  | x :: l, z => by
    rw [List.cons_append, keepC_cons (by simp), keepC_last]; rfl
theorem join_nil : ∀ l : List Bs, Lib.join l [] = l.flatMap id
  | [] => rfl
  | [x] => by simp [Lib.join]
  | x :: y :: l => by
    have := join_nil (y :: l)
    simp only [Lib.join] at this ⊢
    rw [List.flatMap_cons, ← this]
    simp
/-- The first line's end is a space. -/
theorem replace1 {a t : Bs} (ha : (10 : UInt8) ∉ a) : Lib.replace (a ++ 10 :: t) [10] [32] 1 = a ++ 32 :: t := by
  have hi : Lib.index (a ++ 10 :: t) [10] = (a.length : Nat) := by
    refine Lib.index_first (by simp) (by rw [occ1]; simp) fun j hj => ?_
    rw [occ1, List.getElem?_append_left hj]
    have : a[j]? ≠ some 10 := fun q => ha (List.mem_of_getElem? q)
    simpa using this
  have hc : 1 ≤ Lib.count (a ++ 10 :: t) [10] := by rw [Lib.count_hit (by simp) hi]; omega
  unfold Lib.replace
  have hne : ([10] == ([32] : Bs)) = false := by decide
  rw [hne]
  simp only [Bool.false_eq_true, if_false]
  have hr : Lib.replaceNum (a ++ 10 :: t) [10] 1 = 1 := by
    unfold Lib.replaceNum
    rw [if_neg (by omega)]; rfl
  rw [hr, Lib.replaceK_hit _ _ _ _ _ hi]
  simp [Lib.replaceK]
theorem finP_bad {bx : List Bool} {m e : Nat} (he : e ≠ 0) : finP bx ([], m, e) = ⟨[], [], m, e⟩ := by unfold finP; rw [if_neg he]
section
variable {bx : List Bool} {es : List Ed} (hb : bx.length ≤ 4096) (he : es.length ≤ 4096) (ht : tot es ≤ 4096) (ok : ∀ x ∈ es, x.f < bx.length ∧ x.t < bx.length ∧ x.d < 4)
theorem body_all {rest : List Bs} (hb : bx.length ≤ 4096) (he : es.length ≤ 4096) (ht : tot es ≤ 4096) (ok : ∀ x ∈ es, x.f < bx.length ∧ x.t < bx.length ∧ x.d < 4) (hr : ∀ x ∈ rest, (10 : UInt8) ∉ x) :
    parseP ((linesT bx es ++ rest).flatMap (· ++ [10])) = finP bx (bodyP bx.length (1 + es.length) es (tot es) rest) := by
  unfold linesT
  rw [List.cons_append, parse_lines hb fun x hx => by
    rcases List.mem_append.1 hx with hx | hx
    · obtain ⟨y, hy, rfl⟩ := List.mem_map.1 hx
      exact line_no (ok y hy).2.2
    · exact hr x hx]
  rw [bodyP_print (by omega) ok (by simpa using he) (by simpa using ht), List.nil_append, Nat.zero_add]
/-- Without the last line. -/
theorem parse_short (hb : bx.length ≤ 4096) (he : es.length ≤ 4096) (ht : tot es ≤ 4096) (ok : ∀ x ∈ es, x.f < bx.length ∧ x.t < bx.length ∧ x.d < 4) : parseP ((linesT bx es).flatMap (· ++ [10])) = ⟨[], [], es.length + 2, 4⟩ := by
  have := body_all (rest := []) hb he ht ok (by simp)
  rw [List.append_nil] at this
  rw [this, bodyP, finP_bad (by decide)]
  congr 1; omega
/-- With one more. -/
theorem parse_long (hb : bx.length ≤ 4096) (he : es.length ≤ 4096) (ht : tot es ≤ 4096) (ok : ∀ x ∈ es, x.f < bx.length ∧ x.t < bx.length ∧ x.d < 4) : parseP (textT bx es ++ [101, 110, 100, 10]) = ⟨[], [], es.length + 3, 4⟩ := by
  have := body_all (rest := [endB, endB]) hb he ht ok (by intro x hx; simp at hx; rw [hx]; exact end_no)
  have e : textT bx es ++ [101, 110, 100, 10] = (linesT bx es ++ [endB, endB]).flatMap (· ++ [10]) := by
    rw [textT_lines, List.flatMap_append, List.flatMap_append]; simp [endB]
  rw [e, this, bodyP, if_pos rfl, if_neg (by simp), finP_bad (by decide)]
  congr 1; omega
/-- With two lines turned into one. -/
theorem parse_one {l2 : Bs} {ls : List Bs} (h2 : (10 : UInt8) ∉ l2) (hl : ∀ x ∈ ls, (10 : UInt8) ∉ x) : (parseP (((headT bx ++ 32 :: l2) :: ls).flatMap (· ++ [10]))).e = 4 := by
  have hn : (10 : UInt8) ∉ headT bx ++ 32 :: l2 := fun hm => by
    rcases List.mem_append.1 hm with hm | hm
    · exact head_no hm
    · rcases List.mem_cons.1 hm with hm | hm
      · exact absurd hm (by decide)
      · exact h2 hm
  have hL : linesP (((headT bx ++ 32 :: l2) :: ls).flatMap (· ++ [10])) = some ((headT bx ++ 32 :: l2) :: ls) := linesP_of fun x hx => by
    rcases List.mem_cons.1 hx with rfl | hx
    · exact hn
    · exact hl x hx
  have hh : headP (headT bx ++ 32 :: l2) = .error 4 := by
    have e : headT bx ++ 32 :: l2 = shapeB ++ 32 :: ((if bx = [] then [45] else bx.map vx) ++ 32 :: l2) := by unfold headT; simp
    have n1 : (32 : UInt8) ∉ shapeB := by decide
    have n2 : (32 : UInt8) ∉ (if bx = [] then [45] else bx.map vx) := by
      split
      · decide
      · exact pb_no (by decide) bx
    obtain ⟨x, l, el⟩ := splitC_cons 32 l2
    unfold headP wordsP
    rw [e, splitC_hit n1, splitC_hit n2, el]
    by_cases hm : [] ∈ shapeB :: (if bx = [] then [45] else bx.map vx) :: x :: l
    · rw [if_pos hm]
    · rw [if_neg hm]
      simp only
      rw [if_pos (.inl (by simp))]
  unfold parseP
  rw [hL]
  simp only
  rw [hh]
end
end Go.Text
end
