import PyProof.Rows.All
import Wide.All
import OpenK.AllK
import Wide.FinOn
import HandS.ForMost
import HandS.ForExc
import HandS.IsInst
import HandS.Style
import HandS.Flow
import HandS.TupLe
import HandS.TupLen
import HandS.EndBits
import PySem.Challenge.RW_rowends_k04_whole_plays
set_option Elab.async false
set_option linter.all false
set_option maxRecDepth 100000
set_option maxHeartbeats 4000000
/-! the mathematics of rows: plain Lean -/
namespace RE
/-- the worth of the stretch of n coins from low on -/
def wv (row : List Int) : Nat → Nat → Int
  | 0, _ => 0
  | n + 1, low => if row.getD (low + n) 0 - wv row n low > row.getD low 0 - wv row n (low + 1) then row.getD (low + n) 0 - wv row n low else row.getD low 0 - wv row n (low + 1)
theorem wv_zero (row : List Int) (low : Nat) : wv row 0 low = 0 := by unfold wv; rfl
theorem wv_succ (row : List Int) (n low : Nat) : wv row (n + 1) low = if row.getD (low + n) 0 - wv row n low > row.getD low 0 - wv row n (low + 1) then row.getD (low + n) 0 - wv row n low else row.getD low 0 - wv row n (low + 1) := by
  rw [wv]
theorem wv_ge1 (row : List Int) (n low : Nat) : row.getD low 0 - wv row n (low + 1) ≤ wv row (n + 1) low := by
  rw [wv_succ]
  split <;> omega
theorem wv_ge2 (row : List Int) (n low : Nat) : row.getD (low + n) 0 - wv row n low ≤ wv row (n + 1) low := by
  rw [wv_succ]
  split <;> omega
theorem wv_one_of (row : List Int) (n low : Nat) : wv row (n + 1) low = row.getD low 0 - wv row n (low + 1) ∨ wv row (n + 1) low = row.getD (low + n) 0 - wv row n low := by
  rw [wv_succ]
  split
  · exact .inr rfl
  · exact .inl rfl
/-- the sum of a stretch -/
def seg (row : List Int) : Nat → Nat → Int
  | 0, _ => 0
  | n + 1, low => row.getD low 0 + seg row n (low + 1)
theorem seg_succ (row : List Int) (n low : Nat) : seg row (n + 1) low = row.getD low 0 + seg row n (low + 1) := by rw [seg]
theorem seg_last (row : List Int) : ∀ (n low : Nat), seg row (n + 1) low = seg row n low + row.getD (low + n) 0
  | 0, low => by simp [seg]
  | n + 1, low => by
    rw [seg_succ, seg_last row n (low + 1), seg_succ]
    have e : low + 1 + n = low + (n + 1) := by omega
    rw [e]
    omega
theorem wv_parity (row : List Int) : ∀ (n low : Nat), (wv row n low - seg row n low) % 2 = 0
  | 0, low => by simp [wv, seg]
  | n + 1, low => by
    have h1 := wv_parity row n (low + 1)
    have h2 := wv_parity row n low
    have h3 := seg_succ row n low
    have h4 := seg_last row n low
    rcases wv_one_of row n low with h | h <;> omega
theorem seg_all : ∀ (row : List Int), seg row row.length 0 = row.sum := by
  have shift : ∀ (a : Int) (r : List Int) (n low : Nat), seg (a :: r) n (low + 1) = seg r n low := by
    intro a r n
    induction n with
    | zero => intro low; simp [seg]
    | succ n ih =>
      intro low
      rw [seg_succ, seg_succ, ih]
      simp
  intro row
  induction row with
  | nil => rfl
  | cons a r ih =>
    rw [List.length_cons, seg_succ, shift, ih, List.sum_cons]
    simp
/-- turned about -/
theorem getD_rev (row : List Int) (i : Nat) (h : i < row.length) : row.reverse.getD i 0 = row.getD (row.length - 1 - i) 0 := by
  rw [List.getD_eq_getElem?_getD, List.getD_eq_getElem?_getD, List.getElem?_reverse h]
theorem wv_rev (row : List Int) : ∀ (n low : Nat), low + n ≤ row.length → wv row.reverse n low = wv row n (row.length - low - n)
  | 0, low, _ => by simp [wv]
  | n + 1, low, h => by
    have h1 := wv_rev row n (low + 1) (by omega)
    have h2 := wv_rev row n low (by omega)
    have e1 : row.length - (low + 1) - n = row.length - low - (n + 1) := by omega
    have e2 : row.length - low - n = row.length - low - (n + 1) + 1 := by omega
    rw [e1] at h1
    rw [e2] at h2
    have g1 := getD_rev row low (by omega)
    have g2 := getD_rev row (low + n) (by omega)
    have e3 : row.length - 1 - low = row.length - low - (n + 1) + n := by omega
    have e4 : row.length - 1 - (low + n) = row.length - low - (n + 1) := by omega
    rw [e3] at g1
    rw [e4] at g2
    rw [wv_succ, wv_succ, h1, h2, g1, g2]
    generalize row.getD (row.length - low - (n + 1) + n) 0 = a
    generalize row.getD (row.length - low - (n + 1)) 0 = b
    generalize wv row n (row.length - low - (n + 1)) = c
    generalize wv row n (row.length - low - (n + 1) + 1) = d
    split <;> split <;> omega
theorem worth_rev (row : List Int) : wv row.reverse row.length 0 = wv row row.length 0 := by
  have h := wv_rev row row.length 0 (by omega)
  simpa using h
/-- the alternating sum of a stretch -/
def alt (row : List Int) : Nat → Nat → Int
  | 0, _ => 0
  | n + 1, low => row.getD low 0 - alt row n (low + 1)
theorem alt_succ (row : List Int) (n low : Nat) : alt row (n + 1) low = row.getD low 0 - alt row n (low + 1) := by rw [alt]
theorem alt_last (row : List Int) : ∀ (n low : Nat), alt row (n + 1) low = if n % 2 = 0 then alt row n low + row.getD (low + n) 0 else alt row n low - row.getD (low + n) 0
  | 0, low => by simp [alt]
  | n + 1, low => by
    have h := alt_last row n (low + 1)
    have e : low + 1 + n = low + (n + 1) := by omega
    rw [e] at h
    rw [alt_succ, h, alt_succ]
    by_cases c : n % 2 = 0
    · rw [if_pos c, if_neg (by omega)]
      omega
    · rw [if_neg c, if_pos (by omega)]
      omega
theorem wv_alt (row : List Int) : ∀ (n low : Nat), (n % 2 = 0 → alt row n low ≤ wv row n low ∧ - alt row n low ≤ wv row n low) ∧ (n % 2 = 1 → wv row n low ≤ alt row n low)
  | 0, low => by simp [wv, alt]
  | n + 1, low => by
    have h1 := wv_alt row n (low + 1)
    have h2 := wv_alt row n low
    have g1 := wv_ge1 row n low
    have g2 := wv_ge2 row n low
    have a1 := alt_succ row n low
    have a2 := alt_last row n low
    constructor
    · intro c
      rw [if_neg (by omega)] at a2
      have q1 := h1.2 (by omega)
      have q2 := h2.2 (by omega)
      omega
    · intro c
      rw [if_pos (by omega)] at a2
      have q1 := h1.1 (by omega)
      have q2 := h2.1 (by omega)
      rcases wv_one_of row n low with h | h <;> omega
/-- the coins of places 0, 2, 4 .. -/
def evens {α : Type} : List α → List α
  | [] => []
  | [a] => [a]
  | a :: _ :: r => a :: evens r
theorem evens_map {α β : Type} (f : α → β) : ∀ l : List α, evens (l.map f) = (evens l).map f
  | [] => rfl
  | [_] => rfl
  | a :: b :: r => by
    show f a :: evens (r.map f) = f a :: (evens r).map f
    rw [evens_map f r]
theorem evens_le {α : Type} : ∀ l : List α, (evens l).length ≤ l.length
  | [] => Nat.le_refl _
  | [_] => Nat.le_refl _
  | a :: b :: r => by
    have := evens_le r
    show (evens r).length + 1 ≤ r.length + 1 + 1
    omega
theorem alt_shift (a : Int) (r : List Int) : ∀ (n low : Nat), alt (a :: r) n (low + 1) = alt r n low
  | 0, low => by simp [alt]
  | n + 1, low => by
    rw [alt_succ, alt_succ, alt_shift a r n (low + 1)]
    simp
theorem alt_evens : ∀ row : List Int, alt row row.length 0 = (evens row).sum - (evens (row.drop 1)).sum
  | [] => rfl
  | [a] => by simp [alt, evens]
  | a :: b :: r => by
    have ih := alt_evens r
    have e1 : alt (a :: b :: r) (a :: b :: r).length 0 = a - (b - alt r r.length 0) := by
      show alt (a :: b :: r) (r.length + 1 + 1) 0 = _
      rw [alt_succ, alt_shift, alt_succ, alt_shift]
      simp
    rw [e1, ih]
    have e2 : evens (a :: b :: r) = a :: evens r := rfl
    have e3 : (a :: b :: r).drop 1 = b :: r := rfl
    rw [e2, e3]
    cases r with
    | nil => simp [evens]
    | cons c s =>
      have e4 : evens (b :: c :: s) = b :: evens s := rfl
      have e5 : (c :: s).drop 1 = s := rfl
      rw [e4, e5, List.sum_cons, List.sum_cons]
      omega
theorem sure_le (row : List Int) (h : row.length % 2 = 0) : (if (evens row).sum - (evens (row.drop 1)).sum < 0 then -((evens row).sum - (evens (row.drop 1)).sum) else (evens row).sum - (evens (row.drop 1)).sum) ≤ wv row row.length 0 := by
  have h1 := (wv_alt row row.length 0).1 h
  rw [alt_evens] at h1
  split <;> omega
theorem wv_bound (row : List Int) : ∀ (n low : Nat), (∀ i, 0 ≤ row.getD i 0 ∧ row.getD i 0 ≤ 1000000) → -(1000000 * (n : Int)) ≤ wv row n low ∧ wv row n low ≤ 1000000 * (n : Int)
  | 0, low, _ => by simp [wv]
  | n + 1, low, h => by
    have h1 := wv_bound row n (low + 1) h
    have h2 := wv_bound row n low h
    have h3 := h low
    have h4 := h (low + n)
    rcases wv_one_of row n low with e | e <;> omega
/-- the best ends of a stretch -/
def ends (row : List Int) : Nat → Nat → List Bool
  | 0, _ => []
  | n + 1, low => (if row.getD low 0 - wv row n (low + 1) = wv row (n + 1) low then [true] else []) ++ (if row.getD (low + n) 0 - wv row n low = wv row (n + 1) low then [false] else [])
theorem ends_succ (row : List Int) (n low : Nat) : ends row (n + 1) low = (if row.getD low 0 - wv row n (low + 1) = wv row (n + 1) low then [true] else []) ++ (if row.getD (low + n) 0 - wv row n low = wv row (n + 1) low then [false] else []) := by
  first
    | rfl
    | (rw [ends])
theorem ends_ne (row : List Int) (n low : Nat) : ends row (n + 1) low ≠ [] := by
  rw [ends_succ]
  rcases wv_one_of row n low with h | h
  · rw [if_pos h.symm]
    simp
  · rw [if_pos (c := row.getD (low + n) 0 - wv row n low = wv row (n + 1) low) h.symm]
    simp
end RE
/-! rules of our own over the layer -/
namespace RE
open PySem PySem.Spec PyProof.Rows L2
/-! ### great numbers -/
def CMulB (i j : Int) : Prop := ∃ a b : Nat, i.natAbs < 2 ^ a ∧ j.natAbs < 2 ^ b ∧ a + b ≤ 100000000
theorem bits_le {x : Int} {a : Nat} (h : x.natAbs < 2 ^ a) : Builtin.Int.intBits x ≤ a := by
  unfold Builtin.Int.intBits
  split
  · exact Nat.zero_le _
  · rename_i h0
    have hx : x.natAbs ≠ 0 := fun e => h0 (by
      have : x = 0 := Int.natAbs_eq_zero.mp e
      rw [this]
      rfl)
    exact (Nat.log2_lt hx).mpr h
theorem CMulB.ok {i j : Int} (h : CMulB i j) : IntMulOk i j := by
  obtain ⟨a, b, h1, h2, h3⟩ := h
  have e1 := bits_le h1
  have e2 := bits_le h2
  have e : bitsLine = 134217728 := by decide
  unfold IntMulOk
  intro z
  rw [Bool.and_eq_true] at z
  have z2 := z.2
  unfold Builtin.Int.intTooBig at z2
  have z3 := of_decide_eq_true z2
  rw [e] at z3
  omega
theorem lt_of_bits {x : Int} {a : Nat} (h : Builtin.Int.intBits x ≤ a) : x.natAbs < 2 ^ a := by
  unfold Builtin.Int.intBits at h
  by_cases h0 : x = 0
  · subst h0
    exact Nat.pow_pos (by decide)
  · have hb : ¬ ((x == 0) = true) := by simpa using h0
    rw [if_neg hb] at h
    have hx : x.natAbs ≠ 0 := fun e => h0 (Int.natAbs_eq_zero.mp e)
    have h1 : x.natAbs.log2 < a := by omega
    exact (Nat.log2_lt hx).mp h1
theorem pw_add {x y : Int} {a b : Nat} (h1 : x.natAbs < 2 ^ a) (h2 : y.natAbs < 2 ^ b) (h : b ≤ a) : (x + y).natAbs < 2 ^ (a + 1) := by
  have e : 2 ^ (a + 1) = 2 ^ a + 2 ^ a := by rw [Nat.pow_succ]; omega
  have l : 2 ^ b ≤ 2 ^ a := Nat.pow_le_pow_right (by decide) h
  have q := Int.natAbs_add_le x y
  omega
theorem pw_mul {x y : Int} {a b : Nat} (h1 : x.natAbs < 2 ^ a) (h2 : y.natAbs < 2 ^ b) : (x * y).natAbs < 2 ^ (a + b) := by
  rw [Int.natAbs_mul, Nat.pow_add]
  exact Nat.mul_lt_mul'' h1 h2
theorem pw_mono {x : Int} {a b : Nat} (h1 : x.natAbs < 2 ^ a) (h : a ≤ b) : x.natAbs < 2 ^ b := Nat.lt_of_lt_of_le h1 (Nat.pow_le_pow_right (by decide) h)
section
variable {X : Cx}
theorem op_mulB : OpR X (binaryOp .Mult) (rI CMulB fun i j => .int (i * j)) := opI fun _ _ _ _ _ _ _ hc q => mul_int q hc.ok
/-! ### xs[i] op= e -/
theorem get_list : PGet X (rIxL X.K) := by
  intro pins s σ H o i ov iv Q I ro ri h
  obtain ⟨p, xs, k, z, rfl, rfl, hq, he, q⟩ := h
  cases ro
  obtain ⟨t, rfl⟩ := ri
  obtain ⟨its, r, pl, hz⟩ := I.list hq
  obtain ⟨j, h1, h2, h3, h4, h5⟩ := atI_get he
  obtain ⟨w, ew, rw'⟩ := r.get h2
  have hl := r.length
  have hn := line63
  have fin : EP X pins σ Q w s := ⟨z, H, I, rw', q⟩
  by_cases h0 : 0 ≤ k
  · have hj : k.toNat = j := by
      rw [seqIndex_of h0 h5] at h1
      exact Option.some.inj h1
    exact wpAny_getItem_list pl.isList h0 (by omega) (by rw [hj]; simpa using ew) fin
  · have hj : (k + (its.toArray.size : Int)).toNat = j := by
      rw [seqIndex_neg (by omega) h4] at h1
      rw [List.size_toArray, ← hl]
      exact Option.some.inj h1
    exact wpAny_getItem_list_neg pl.isList (by omega) (by rw [List.size_toArray] <;> omega) (by omega) (by rw [hj]; simpa using ew) fin
/-! ### d[k] = e as one of several targets -/
def rSetD : V → V → V → Hp → (Hp → Prop) → Prop := fun o i v H Q => ∃ a H', o = .ref a ∧ DPut H a i v H' ∧ Q H'
theorem set_dT (hu : X.A.units + 1 < cLine) : PSet X rSetD := by
  intro pins s σ H o i v ov iv u Q I ro ri rv h
  obtain ⟨a, H', rfl, g, q⟩ := h
  cases ro
  exact d_setItem hu I g ri rv fun s' I' => ⟨H', I', q⟩
/-! ### xs[a::2] -/
theorem evens_pick {α : Type} : ∀ l : List α, ((List.range ((l.length + 1) / 2)).map (fun k => 2 * k)).filterMap (l[·]?) = evens l
  | [] => by simp [evens]
  | [a] => by
    have e : ([a].length + 1) / 2 = 1 := by
      show (0 + 1 + 1) / 2 = 1
      decide
    rw [e]
    simp [List.range_succ, evens]
  | a :: b :: r => by
    have ih := evens_pick r
    have e : ((a :: b :: r).length + 1) / 2 = (r.length + 1) / 2 + 1 := by
      rw [List.length_cons, List.length_cons]
      omega
    rw [e, List.range_succ_eq_map, List.map_cons, List.filterMap_cons]
    show a :: _ = a :: evens r
    rw [← ih, List.map_map, List.filterMap_map, List.filterMap_map]
    congr 1
theorem evens_from {α : Type} (xs : List α) (a : Nat) : ((List.range ((xs.length - a + 1) / 2)).map (fun k => a + 2 * k)).filterMap (xs[·]?) = evens (xs.drop a) := by
  rw [← evens_pick, List.length_drop, List.filterMap_map, List.filterMap_map]
  congr 1
  funext k
  simp [List.getElem?_drop]
theorem stepRange (a n : Nat) (h : a ≤ n) : sliceRange (a : Int) (n : Int) 2 = (List.range ((n - a + 1) / 2)).map (fun k => a + 2 * k) := by
  unfold sliceRange
  have e : (if (2 : Int) > 0 then (if (a : Int) < n then ((n : Int) - a + 2 - 1) / 2 else 0) else (if (a : Int) > n then ((a : Int) - n - 2 - 1) / (-2) else 0)).toNat = (n - a + 1) / 2 := by
    rw [if_pos (by decide)]
    by_cases c : (a : Int) < n
    · rw [if_pos c]
      omega
    · rw [if_neg c]
      omega
  show (List.range (if (2 : Int) > 0 then (if (a : Int) < n then ((n : Int) - a + 2 - 1) / 2 else 0) else (if (a : Int) > n then ((a : Int) - n - 2 - 1) / (-2) else 0)).toNat).map _ = _
  rw [e]
  refine List.map_congr_left fun k _ => ?_
  omega
def stepLo : Option Int → Nat
  | none => 0
  | some i => i.toNat
theorem step_pick (its : List Value) (lo : Option Int) (h : lo = none ∨ ∃ i, lo = some i ∧ 0 ≤ i) : slicePick its.toArray lo none (some 2) = (evens (its.drop (stepLo lo))).toArray := by
  have key : ∀ a : Nat, sliceBounds lo none (some 2) its.toArray.size = (((min a its.length : Nat) : Int), (its.length : Int), 2) → a = stepLo lo → slicePick its.toArray lo none (some 2) = (evens (its.drop (stepLo lo))).toArray := by
    intro a e ea
    unfold slicePick
    rw [e]
    show ((sliceRange ((min a its.length : Nat) : Int) (its.length : Int) 2).filterMap (its.toArray[·]?)).toArray = _
    rw [stepRange _ _ (Nat.min_le_right _ _)]
    have z : (fun k : Nat => its.toArray[k]?) = (fun k : Nat => its[k]?) := funext fun k => by simp
    rw [z, evens_from, ← ea]
    congr 1
    by_cases c : a ≤ its.length
    · rw [Nat.min_eq_left c]
    · rw [Nat.min_eq_right (by omega), List.drop_length, List.drop_eq_nil_of_le (by omega)]
  rcases h with rfl | ⟨i, rfl, hi⟩
  · exact key 0 (by simp [sliceBounds]) rfl
  · refine key i.toNat ?_ rfl
    have h1 : ¬ i < 0 := by omega
    simp only [sliceBounds, Option.getD_some, List.size_toArray, h1, if_false, show (2 : Int) > 0 by decide, if_true]
    congr 1
    omega
theorem Vals_evens : ∀ {xs : List V} {us : List Value}, Vals xs us → Vals (evens xs) (evens us)
  | _, _, .nil => .nil
  | _, _, .cons r .nil => .cons r .nil
  | _, _, .cons r (.cons _ t) => .cons r (Vals_evens t)
def tStepL (K : PySem.W.Frag) (te : TE) (tl : TO) : TE := fun σ H Q => te σ H fun x H1 => tl σ H1 fun lo H2 => (lo = none ∨ ∃ i, lo = some i ∧ 0 ≤ i) ∧ ∃ a xs, x = .ref a ∧ SqL K H2 a xs ∧ ∀ p, H2 p = none → Q (.ref p) (upd H2 p (.lst (evens (xs.drop (stepLo lo)))))
theorem pe_stepL {e : Expr} {lo : Option Expr} {te : TE} {tl : TO} {k : Nat} {p1 p3 pos : Pos} (he : PE X e te) (hl : PO X lo tl)
    (hsb : ∀ ov iv, subscripted (.Slice lo none (some (.Constant (.int 2) k p1)) p3) false ov iv = operate [ov, iv] (getItem ov iv) := by intro _ _; with_unfolding_all rfl) :
    PE X (.Subscript e (.Slice lo none (some (.Constant (.int 2) k p1)) p3) pos) (tStepL X.K te tl) := by
  refine ⟨fun pins s σ H Q I h => ?_⟩
  refine Subscript_ (thn (he.run pins s σ H _ I h) fun v s1 ⟨x, H1, I1, r1, q1⟩ => ?_)
  have hst : PO X (some (.Constant (.int 2) k p1)) (tPart (tC (.int 2))) := po_some pe_int
  refine wpAny_Slice (thn (hl.run pins s1 σ H1 _ I1 q1) fun vl s2 ⟨l, H2, I2, pl, q2⟩ => ?_)
  obtain ⟨hlo, a, xs, ex, hx, q⟩ := q2
  subst ex
  cases r1
  refine thn (po_none.run pins s2 σ H2 (fun o H3 => o = none ∧ H3 = H2) I2 ⟨rfl, rfl⟩) fun vu s3 ⟨u, H3, I3, pu, eu, e3⟩ => ?_
  subst eu e3
  refine thn (hst.run pins s3 σ H3 (fun o H4 => o = some 2 ∧ H4 = H3) I3 ⟨2, rfl, rfl, rfl⟩) fun vs s4 ⟨o, H4, I4, ps, eo, e4⟩ => ?_
  subst eo e4
  have I5 : Inv X pins σ H4 { s4 with heap := s4.heap.push { cls := .type "slice", data := .fields #[vl, vu, vs] } } := I4.kept (t' := s4.toks) fun b ob q => Heap.get?_push_of_some _ q
  obtain ⟨its, r, ht, hz⟩ := I5.list hx
  have hlen := r.length
  show wpAny (model X.prog X.w) X.A (subscriptTail e (.Slice lo none (some (.Constant (.int 2) k p1)) p3) (.ref a) (.ref s4.heap.objs.size)) (EP X pins σ Q) X.xe { s4 with heap := s4.heap.push { cls := .type "slice", data := .fields #[vl, vu, vs] } }
  refine tail_any (ops := [.ref a, .ref s4.heap.objs.size]) ht.isList.typeIs (PySem.slot_list_getitem.lookup) ?_ (hsb _ _)
  refine wpAny_getItem_list_slice ht.isList (Heap.IsSliceOf.new _ vl vu vs) pl pu ps (by decide) ?_ (by rw [List.size_toArray]; omega)
  rw [step_pick its l hlo]
  refine ⟨.ref _, _, I5.laid (t' := s4.toks) (o := .lst (evens (xs.drop (stepLo l)))) (fun b ob q => Heap.get?_push_of_some _ q) (Nat.le_refl _) ?_, rfl, q _ (I5.hok.fresh (Nat.le_refl _))⟩
  refine ⟨?_, _, 0, Vals_evens (r.drop (stepLo l)), Heap.get?_push_size _ rfl⟩
  have e1 := evens_le (xs.drop (stepLo l))
  rw [List.length_drop] at e1
  omega
/-! ### ways joined behind a statement -/
def tMid (t u : TS) : TS := fun D σ H => ∃ Mid : L2.St → Hp → Prop, t { D with nx := Mid } σ H ∧ ∀ σ' H', Mid σ' H' → u D σ' H'
theorem pss_mid {st : Stmt} {rest : List Stmt} {t u : TS} (h1 : PS X st t) (h2 : PSs X rest u) : PSs X (st :: rest) (tMid t u) := by
  refine ⟨fun pins s σ H D I h => ?_⟩
  obtain ⟨Mid, h, hm⟩ := h
  refine wpAny_execs_cons (thn (h1.run pins s σ H { D with nx := Mid } I h) fun f s1 q => ?_)
  cases f with
  | next =>
    obtain ⟨σ', H', I', q⟩ := q
    exact h2.run pins s1 σ' H' D I' (hm σ' H' q)
  | ret v => exact q
  | brk => exact q
  | cont => exact q
end
end RE
/-! heaps, known worths, kinds of values -/
namespace RE
open PySem PySem.Spec PyProof.Rows L2
theorem iteFb {b : Bool} {A B : Prop} (hb : b = false) (h : B) : if b = true then A else B := by
  subst hb
  exact iteF h
theorem iteTb {b : Bool} {A B : Prop} (hb : b = true) (h : A) : if b = true then A else B := by
  subst hb
  exact iteT h
theorem same_new {H : Hp} {p : Addr} (h : H p = none) (o : HO) : Same H (upd H p o) := fun b u q => by rw [upd_ne (ne_of_none q h)]; exact q
/-- all but the object at d is as it was -/
def SameBut (d : Addr) (H H' : Hp) : Prop := ∀ b o, b ≠ d → H b = some o → H' b = some o
theorem SameBut.refl (d : Addr) (H : Hp) : SameBut d H H := fun _ _ _ h => h
theorem SameBut.trans {d : Addr} {H H1 H2 : Hp} (a : SameBut d H H1) (b : SameBut d H1 H2) : SameBut d H H2 := fun c o n h => b c o n (a c o n h)
theorem SameBut.of {d : Addr} {H H' : Hp} (h : Same H H') : SameBut d H H' := fun b o _ e => h b o e
theorem SameBut.put {d : Addr} {H : Hp} (o : HO) : SameBut d H (upd H d o) := fun b u n e => by rw [upd_ne n]; exact e
theorem SameBut.free {d : Addr} {H H' : Hp} (s : SameBut d H H') (hd : H d = none) : Same H H' := fun b o e => s b o (ne_of_none e hd) e
theorem SameBut.seq {K : PySem.W.Frag} {d : Addr} {H H' : Hp} {a : Addr} {xs : List V} {kvs : List (List Key × V)} (e : SameBut d H H') (hd : H d = some (.dT kvs)) (h : SqL K H a xs) : SqL K H' a xs := by
  rcases h with (h | ⟨o, h⟩) | h
  · exact .inl (.inl (e _ _ (ne_of h hd (by intro z; cases z)) h))
  · exact .inl (.inr ⟨o, e _ _ (ne_of h hd (by intro z; cases z)) h⟩)
  · exact .inr h
theorem SameBut.seqL {K : PySem.W.Frag} {d : Addr} {H H' : Hp} {a : Addr} {xs : List V} (e : SameBut d H H') (hd : a ≠ d) (h : SqL K H a xs) : SqL K H' a xs := by
  rcases h with (h | ⟨o, h⟩) | h
  · exact .inl (.inl (e _ _ hd h))
  · exact .inl (.inr ⟨o, e _ _ hd h⟩)
  · exact .inr h
theorem size_le {n : Nat} (h : n ≤ 100000) : n ≤ sizeLine := Nat.le_trans h (by decide)
theorem size_lt {n : Nat} (h : n < 100000) : n < sizeLine := Nat.lt_of_lt_of_le h (by decide)
/-! ### kinds -/
def kinds : List String := ["NoneType", "bool", "int", "str", "list", "tuple", "dict"]
structure PV (K : PySem.W.Frag) (H : Hp) (x : V) (T : String) : Prop where
  ty : TyX K H x (.type T)
  mem : T ∈ kinds
theorem kinds_all {p : String → Prop} (h1 : p "NoneType") (h2 : p "bool") (h3 : p "int") (h4 : p "str") (h5 : p "list") (h6 : p "tuple") (h7 : p "dict") : ∀ T ∈ kinds, p T := by
  intro T h
  simp only [kinds, List.mem_cons, List.not_mem_nil, or_false] at h
  rcases h with rfl | rfl | rfl | rfl | rfl | rfl | rfl <;> assumption
theorem kit_int {K : PySem.W.Frag} {T : String} (m : T ∈ kinds) : PySem.W.kitOne K (.type T) (.type "int") = some (T == "int" || T == "bool") :=
  kinds_all (p := fun T => PySem.W.kitOne K (.type T) (.type "int") = some (T == "int" || T == "bool")) (kit_ty (by decide +kernel)) (kit_ty (by decide +kernel)) (kit_ty (by decide +kernel)) (kit_ty (by decide +kernel)) (kit_ty (by decide +kernel)) (kit_ty (by decide +kernel)) (kit_ty (by decide +kernel)) T m
theorem kit_bool {K : PySem.W.Frag} {T : String} (m : T ∈ kinds) : PySem.W.kitOne K (.type T) (.type "bool") = some (T == "bool") :=
  kinds_all (p := fun T => PySem.W.kitOne K (.type T) (.type "bool") = some (T == "bool")) (kit_ty (by decide +kernel)) (kit_ty (by decide +kernel)) (kit_ty (by decide +kernel)) (kit_ty (by decide +kernel)) (kit_ty (by decide +kernel)) (kit_ty (by decide +kernel)) (kit_ty (by decide +kernel)) T m
theorem kit_list {K : PySem.W.Frag} {T : String} (m : T ∈ kinds) : PySem.W.kitOne K (.type T) (.type "list") = some (T == "list") :=
  kinds_all (p := fun T => PySem.W.kitOne K (.type T) (.type "list") = some (T == "list")) (kit_ty (by decide +kernel)) (kit_ty (by decide +kernel)) (kit_ty (by decide +kernel)) (kit_ty (by decide +kernel)) (kit_ty (by decide +kernel)) (kit_ty (by decide +kernel)) (kit_ty (by decide +kernel)) T m
theorem kit_tuple {K : PySem.W.Frag} {T : String} (m : T ∈ kinds) : PySem.W.kitOne K (.type T) (.type "tuple") = some (T == "tuple") :=
  kinds_all (p := fun T => PySem.W.kitOne K (.type T) (.type "tuple") = some (T == "tuple")) (kit_ty (by decide +kernel)) (kit_ty (by decide +kernel)) (kit_ty (by decide +kernel)) (kit_ty (by decide +kernel)) (kit_ty (by decide +kernel)) (kit_ty (by decide +kernel)) (kit_ty (by decide +kernel)) T m
theorem kit_str {K : PySem.W.Frag} {T : String} (m : T ∈ kinds) : PySem.W.kitOne K (.type T) (.type "str") = some (T == "str") :=
  kinds_all (p := fun T => PySem.W.kitOne K (.type T) (.type "str") = some (T == "str")) (kit_ty (by decide +kernel)) (kit_ty (by decide +kernel)) (kit_ty (by decide +kernel)) (kit_ty (by decide +kernel)) (kit_ty (by decide +kernel)) (kit_ty (by decide +kernel)) (kit_ty (by decide +kernel)) T m
section
variable {K : PySem.W.Frag} {H H' : Hp}
theorem pv_non : PV K H .non "NoneType" := ⟨.base .non, by decide⟩
theorem pv_bl (b : Bool) : PV K H (.bl b) "bool" := ⟨.base (.bl b), by decide⟩
theorem pv_int (i : Int) : PV K H (.int i) "int" := ⟨.base (.int i), by decide⟩
theorem pv_str (x : Str) : PV K H (.str x) "str" := ⟨.base (.str x), by decide⟩
theorem pv_tup {a : Addr} {xs : List V} (e : H a = some (.tup xs)) : PV K H (.ref a) "tuple" := ⟨.base (.tup e), by decide⟩
theorem pv_dT {a : Addr} {kvs : List (List Key × V)} (e : H a = some (.dT kvs)) : PV K H (.ref a) "dict" := ⟨.base (.dT e), by decide⟩
theorem pv_dK {a : Addr} {kvs : List (Key × V)} (e : H a = some (.dK kvs)) : PV K H (.ref a) "dict" := ⟨.base (.dK e), by decide⟩
theorem pv_sq {a : Addr} {xs : List V} (h : SqL K H a xs) : PV K H (.ref a) "list" := by
  refine ⟨?_, by decide⟩
  rcases h with (h | ⟨o, h⟩) | ⟨o, its, n, h, hc, _⟩
  · exact .base (.lst h)
  · exact .base (.frz h)
  · exact .kList h hc
theorem tyx_mono {x : V} {t : Value} (s : Same H H') (h : TyX K H x t) : TyX K H' x t := by
  cases h with
  | base b =>
    cases b with
    | non => exact .base .non
    | bl y => exact .base (.bl y)
    | int i => exact .base (.int i)
    | str y => exact .base (.str y)
    | flt y => exact .base (.flt y)
    | lst e => exact .base (.lst (s _ _ e))
    | frz e => exact .base (.frz (s _ _ e))
    | tup e => exact .base (.tup (s _ _ e))
    | dK e => exact .base (.dK (s _ _ e))
    | dT e => exact .base (.dT (s _ _ e))
    | ins e cl ha hn htk hm => exact .base (.ins (s _ _ e) cl ha hn htk hm)
  | byt b => exact .byt b
  | set e => exact .set (s _ _ e)
  | kList e c => exact .kList e c
  | kTuple e c => exact .kTuple e c
  | kDict e c => exact .kDict e c
  | fTuple e => exact .fTuple (s _ _ e)
  | fDict e => exact .fDict (s _ _ e)
theorem PV.mono {x : V} {T : String} (s : Same H H') (h : PV K H x T) : PV K H' x T := ⟨tyx_mono s h.ty, h.mem⟩
theorem PV.int_of {x : V} {T : String} (h : PV K H x T) (e : T = "int") : ∃ i, x = .int i := by
  obtain ⟨ty, m⟩ := h
  subst e
  generalize ht : (Value.type "int") = t at ty
  cases ty with
  | base b => cases b <;> first | exact ⟨_, rfl⟩ | exact absurd (Value.type.inj ht) (by decide) | cases ht
  | byt b => exact absurd (Value.type.inj ht) (by decide)
  | set e => exact absurd (Value.type.inj ht) (by decide)
  | kList e c => exact absurd (Value.type.inj ht) (by decide)
  | kTuple e c => exact absurd (Value.type.inj ht) (by decide)
  | kDict e c => exact absurd (Value.type.inj ht) (by decide)
  | fTuple e => exact absurd (Value.type.inj ht) (by decide)
  | fDict e => exact absurd (Value.type.inj ht) (by decide)
theorem PV.str_of {x : V} {T : String} (h : PV K H x T) (e : T = "str") : ∃ i, x = .str i := by
  obtain ⟨ty, m⟩ := h
  subst e
  generalize ht : (Value.type "str") = t at ty
  cases ty with
  | base b => cases b <;> first | exact ⟨_, rfl⟩ | exact absurd (Value.type.inj ht) (by decide) | cases ht
  | byt b => exact absurd (Value.type.inj ht) (by decide)
  | set e => exact absurd (Value.type.inj ht) (by decide)
  | kList e c => exact absurd (Value.type.inj ht) (by decide)
  | kTuple e c => exact absurd (Value.type.inj ht) (by decide)
  | kDict e c => exact absurd (Value.type.inj ht) (by decide)
  | fTuple e => exact absurd (Value.type.inj ht) (by decide)
  | fDict e => exact absurd (Value.type.inj ht) (by decide)
theorem PV.of_int {i : Int} {T : String} (h : PV K H (.int i) T) : T = "int" := by
  obtain ⟨ty, m⟩ := h
  generalize ht : (Value.type T) = t at ty
  cases ty with
  | base b => cases b; exact Value.type.inj ht
theorem PV.of_str {i : Str} {T : String} (h : PV K H (.str i) T) : T = "str" := by
  obtain ⟨ty, m⟩ := h
  generalize ht : (Value.type T) = t at ty
  cases ty with
  | base b => cases b; exact Value.type.inj ht
end
/-! ### rows -/
def coinB : V → Bool
  | .int i => decide (0 ≤ i) && decide (i ≤ 1000000)
  | _ => false
def RowOk (ns : List Int) : Prop := ns.length ≤ 12 ∧ ∀ z ∈ ns, 0 ≤ z ∧ z ≤ 1000000
theorem RowOk.all {ns : List Int} (h : RowOk ns) : (ns.map V.int).all coinB = true := by
  rw [List.all_eq_true]
  intro x hx
  obtain ⟨z, hz, rfl⟩ := List.mem_map.mp hx
  have q := h.2 z hz
  simp [coinB, q.1, q.2]
theorem RowOk.rev {ns : List Int} (h : RowOk ns) : RowOk ns.reverse := ⟨by rw [List.length_reverse]; exact h.1, fun z hz => h.2 z (List.mem_reverse.mp hz)⟩
theorem RowOk.getD {ns : List Int} (h : RowOk ns) (i : Nat) : 0 ≤ ns.getD i 0 ∧ ns.getD i 0 ≤ 1000000 := by
  rw [List.getD_eq_getElem?_getD]
  cases e : ns[i]? with
  | none => simp
  | some z => exact h.2 z (List.mem_of_getElem? e)
theorem at_get {ns : List Int} {i : Int} {j : Nat} (e : i = (j : Int)) (h : j < ns.length) : atI (ns.map V.int) i = some (.int (ns.getD j 0)) := by
  subst e
  refine atI_nat ?_
  rw [List.getElem?_map, List.getElem?_eq_getElem h, List.getD_eq_getElem?_getD, List.getElem?_eq_getElem h]
  rfl
/-! ### the worths that are known -/
def keyOf (low n : Nat) : List Key := [Sum.inl (low : Int), Sum.inl ((low + n : Nat) : Int)]
theorem keyOf_inj {a b c d : Nat} (h : keyOf a b = keyOf c d) : a = c ∧ b = d := by
  have h1 : ((a : Int) = (c : Int)) := Sum.inl.inj (List.cons.inj h).1
  have h2 : (((a + b : Nat) : Int) = ((c + d : Nat) : Int)) := Sum.inl.inj (List.cons.inj (List.cons.inj h).2).1
  omega
structure Known (row : List Int) (kvs : List (List Key × V)) : Prop where
  val : ∀ p ∈ kvs, ∃ low n, low + n ≤ row.length ∧ p = (keyOf low n, V.int (wv row n low))
  nd : (kvs.map (·.1)).Nodup
theorem Known.nil (row : List Int) : Known row [] := ⟨fun _ h => (nomatch h), List.nodup_nil⟩
theorem valV_mem {kvs : List (List Key × V)} {k : List Key} {v : V} (h : valV kvs k = some v) : (k, v) ∈ kvs := by
  unfold valV at h
  obtain ⟨p, hp, rfl⟩ := Option.map_eq_some_iff.mp h
  have h1 := List.find?_some hp
  have h2 := List.mem_of_find?_eq_some hp
  have h3 : p.1 = k := of_decide_eq_true h1
  subst h3
  exact h2
theorem Known.get {row : List Int} {kvs : List (List Key × V)} (h : Known row kvs) {low n : Nat} {v : V} (e : valV kvs (keyOf low n) = some v) : v = .int (wv row n low) := by
  obtain ⟨a, b, _, q⟩ := h.val _ (valV_mem e)
  have q1 := congrArg Prod.fst q
  have q2 := congrArg Prod.snd q
  obtain ⟨rfl, rfl⟩ := keyOf_inj q1
  exact q2
theorem Known.put {row : List Int} {kvs : List (List Key × V)} (h : Known row kvs) {low n : Nat} (hl : low + n ≤ row.length) : Known row (putK kvs (keyOf low n) (.int (wv row n low))) := by
  unfold putK
  split
  · rename_i c
    refine ⟨fun p hp => ?_, ?_⟩
    · obtain ⟨q, hq, rfl⟩ := List.mem_map.mp hp
      obtain ⟨a, b, l, e⟩ := h.val q hq
      refine ⟨a, b, l, ?_⟩
      split
      · rename_i ek
        rw [e] at ek ⊢
        obtain ⟨rfl, rfl⟩ := keyOf_inj ek
        rfl
      · exact e
    · have e : (kvs.map fun kv => if kv.1 = keyOf low n then (kv.1, V.int (wv row n low)) else kv).map (·.1) = kvs.map (·.1) := by
        rw [List.map_map]
        refine List.map_congr_left fun q _ => ?_
        show (if q.1 = keyOf low n then (q.1, V.int (wv row n low)) else q).1 = q.1
        split <;> rfl
      rw [e]
      exact h.nd
  · rename_i c
    refine ⟨fun p hp => ?_, ?_⟩
    · rcases List.mem_append.mp hp with hp | hp
      · exact h.val p hp
      · rw [List.mem_singleton] at hp
        exact ⟨low, n, hl, hp⟩
    · rw [List.map_append, List.nodup_append]
      refine ⟨h.nd, by simp, fun x hx y hy => ?_⟩
      obtain ⟨q, hq, rfl⟩ := List.mem_map.mp hx
      have e : y = keyOf low n := by simpa using hy
      subst e
      intro z
      exact c (List.any_eq_true.mpr ⟨q, hq, decide_eq_true z⟩)
theorem nodup_le {α : Type} [DecidableEq α] : ∀ (l u : List α), l.Nodup → (∀ x ∈ l, x ∈ u) → l.length ≤ u.length
  | [], u, _, _ => Nat.zero_le _
  | a :: l, u, hn, hs => by
    have ha : a ∈ u := hs a List.mem_cons_self
    have hn' := List.nodup_cons.mp hn
    have ih := nodup_le l (u.erase a) hn'.2 fun x hx => by
      have hx' : x ∈ u := hs x (List.mem_cons_of_mem _ hx)
      have ne : x ≠ a := fun e => hn'.1 (e ▸ hx)
      exact (List.mem_erase_of_ne ne).mpr hx'
    rw [List.length_erase_of_mem ha] at ih
    have : 0 < u.length := List.length_pos_of_mem ha
    rw [List.length_cons]
    omega
theorem Known.len {row : List Int} {kvs : List (List Key × V)} (h : Known row kvs) (hr : row.length ≤ 12) : kvs.length ≤ 1000 := by
  have q := nodup_le (kvs.map (·.1)) ((List.range 13).flatMap fun a => (List.range 13).map fun b => keyOf a b) h.nd fun x hx => by
    obtain ⟨p, hp, rfl⟩ := List.mem_map.mp hx
    obtain ⟨a, b, l, e⟩ := h.val p hp
    rw [e]
    exact List.mem_flatMap.mpr ⟨a, List.mem_range.mpr (by omega), List.mem_map.mpr ⟨b, List.mem_range.mpr (by omega), rfl⟩⟩
  rw [List.length_map] at q
  have z : ((List.range 13).flatMap fun a => (List.range 13).map fun b => keyOf a b).length = 169 := by
    rw [List.length_flatMap]
    simp [List.range_succ]
  omega
def sideS : Bool → Str
  | true => "left"
  | false => "right"
end RE
/-! data in the heap, for == -/
namespace RE
open PySem PySem.Spec PyProof.Rows L2
def vD : V → PyData
  | .bl b => .bool b
  | .int i => .int i
  | .str s => .str s
  | _ => .none
def okF : V → Bool
  | .non => true
  | .bl _ => true
  | .int _ => true
  | .str s => PyData.strOk s
  | _ => false
/-- data of a bounded depth -/
structure Sh (d : PyData) (n : Nat) : Prop where
  can : d.canLay0 = true
  dep : d.depth ≤ n
structure ShA (ds : List PyData) (n : Nat) : Prop where
  can : PyData.canLayAll0 ds = true
  dep : PyData.depthAll ds ≤ n
theorem Sh.shaped {d : PyData} {n : Nat} (h : Sh d n) (hn : n ≤ 64) : SeqAt.shaped d = true := by
  unfold SeqAt.shaped
  rw [h.can, decide_eq_true (Nat.le_trans h.dep hn)]
  rfl
theorem ShA.nil (n : Nat) : ShA [] n := ⟨rfl, by simp [PyData.depthAll]⟩
theorem ShA.cons {d : PyData} {ds : List PyData} {n : Nat} (h : Sh d n) (t : ShA ds n) : ShA (d :: ds) n :=
  ⟨by simp only [PyData.canLayAll0, h.can, t.can, Bool.and_self], by have := h.dep; have := t.dep; simp only [PyData.depthAll]; omega⟩
theorem Sh.list {ds : List PyData} {n : Nat} (h : ShA ds n) : Sh (.list ds) (n + 1) := ⟨by simp only [PyData.canLay0]; exact h.can, by have := h.dep; simp only [PyData.depth]; omega⟩
theorem Sh.tuple {ds : List PyData} {n : Nat} (h : ShA ds n) : Sh (.tuple ds) (n + 1) := ⟨by simp only [PyData.canLay0]; exact h.can, by have := h.dep; simp only [PyData.depth]; omega⟩
theorem Sh.mono {d : PyData} {n m : Nat} (h : Sh d n) (l : n ≤ m) : Sh d m := ⟨h.can, Nat.le_trans h.dep l⟩
theorem sh_flat {x : V} (h : okF x = true) (n : Nat) : Sh (vD x) n := by
  cases x with
  | str s => exact ⟨by simp only [vD, PyData.canLay0]; exact h, by simp [vD, PyData.depth]⟩
  | non => exact ⟨by simp [vD, PyData.canLay0], by simp [vD, PyData.depth]⟩
  | bl b => exact ⟨by simp [vD, PyData.canLay0], by simp [vD, PyData.depth]⟩
  | int b => exact ⟨by simp [vD, PyData.canLay0], by simp [vD, PyData.depth]⟩
  | byt b => cases h
  | flt b => cases h
  | ref b => cases h
  | ty b => cases h
theorem sha_flat : ∀ {xs : List V}, xs.all okF = true → ∀ n, ShA (xs.map vD) n
  | [], _, n => .nil n
  | x :: xs, h, n => by
    have h' := Bool.and_eq_true_iff.mp (show (okF x && xs.all okF) = true from h)
    exact .cons (sh_flat h'.1 n) (sha_flat h'.2 n)
section
variable {K : PySem.W.Frag} {H H' : Hp}
theorem dp_flat {x : V} (h : okF x = true) : Dp K H x (vD x) := by
  cases x with
  | str s => exact .str s
  | non => exact .non
  | bl b => exact .bl b
  | int b => exact .int b
  | byt b => cases h
  | flt b => cases h
  | ref b => cases h
  | ty b => cases h
theorem dps_flat : ∀ {xs : List V}, xs.all okF = true → DpAll K H xs (xs.map vD)
  | [], _ => .nil
  | x :: xs, h => by
    have h' := Bool.and_eq_true_iff.mp (show (okF x && xs.all okF) = true from h)
    exact .cons (dp_flat h'.1) (dps_flat h'.2)
theorem dp_lst {a : Addr} {xs : List V} (h : SqL K H a xs) (hf : xs.all okF = true) : Dp K H (.ref a) (.list (xs.map vD)) := .lst h (dps_flat hf)
theorem dp_tup {a : Addr} {xs : List V} (h : SqT K H a xs) (hf : xs.all okF = true) : Dp K H (.ref a) (.tuple (xs.map vD)) := .tup h (dps_flat hf)
end
theorem ok_ints (ns : List Int) : (ns.map V.int).all okF = true := by
  rw [List.all_map]
  exact List.all_eq_true.mpr fun _ _ => rfl
theorem ok_strs (bs : List Bool) : (bs.map fun b => V.str (sideS b)).all okF = true := by
  rw [List.all_map]
  refine List.all_eq_true.mpr fun b _ => ?_
  cases b <;> decide +kernel
theorem shl_flat {xs : List V} (h : xs.all okF = true) : SeqAt.shaped (.list (xs.map vD)) = true := (Sh.list (sha_flat h 0)).shaped (by decide)
theorem sht_flat {xs : List V} (h : xs.all okF = true) : SeqAt.shaped (.tuple (xs.map vD)) = true := (Sh.tuple (sha_flat h 0)).shaped (by decide)
theorem eqv_same {d : PyData} (h : SeqAt.shaped d = true) : PyData.eqv d d = true := SeqAt.eqv_refl d (SeqAt.canLay_of_shaped h)
theorem eqvAll_ints : ∀ ns ms : List Int, PyData.eqvAll ((ns.map V.int).map vD) ((ms.map V.int).map vD) = decide (ns = ms)
  | [], [] => by simp [PyData.eqvAll]
  | [], _ :: _ => by simp [PyData.eqvAll]
  | _ :: _, [] => by simp [PyData.eqvAll]
  | n :: ns, m :: ms => by
    have ih := eqvAll_ints ns ms
    simp only [List.map_cons, PyData.eqvAll, vD, PyData.eqv, ih]
    by_cases c : n = m <;> by_cases c2 : ns = ms <;> simp [c, c2]
theorem eqv_ints (ns ms : List Int) : PyData.eqv (.list ((ns.map V.int).map vD)) (.list ((ms.map V.int).map vD)) = decide (ns = ms) := by
  rw [PyData.eqv]
  exact eqvAll_ints ns ms
theorem eqv_nil_r (x : V) (xs : List V) : PyData.eqv (.list ((x :: xs).map vD)) (.list []) = false := by
  rw [PyData.eqv]
  rfl
end RE
/-! the promises of the program's defs -/
namespace RE
open PySem PySem.Spec PyProof.Rows L2
def spWhole (K : PySem.W.Frag) : Sp := fun vs H Q _ => ∃ x T, vs = [x] ∧ PV K H x T ∧ Q (.bl (T == "int")) H
/-- what is no row -/
def NoRow (K : PySem.W.Frag) (H : Hp) (x : V) : Prop := (∃ T, PV K H x T ∧ (T == "list") = false) ∨
  ∃ a xs, x = .ref a ∧ SqL K H a xs ∧ (12 < xs.length ∨ (xs.length ≤ 12 ∧ (∀ y ∈ xs, ∃ T, PV K H y T) ∧ xs.all coinB = false))
def IsRow (K : PySem.W.Frag) (H : Hp) (x : V) (ns : List Int) : Prop := ∃ a, x = .ref a ∧ SqL K H a (ns.map V.int) ∧ RowOk ns
/-- a row: go on; none: the refusal -/
def spCheck (K : PySem.W.Frag) (C : Addr) : Sp := fun vs H Q E => ∃ x, vs = [x] ∧
  ((∃ ns, IsRow K H x ns ∧ ∀ H', Same H H' → Q .non H') ∨ (NoRow K H x ∧ ∀ H', Same H H' → E (.ref C) none H'))
/-- a def of a row alone -/
def spRow (K : PySem.W.Frag) (C : Addr) (R : List Int → Hp → VK → XK → Prop) : Sp := fun vs H Q E => ∃ x, vs = [x] ∧
  ((∃ ns, IsRow K H x ns ∧ R ns H Q E) ∨ (NoRow K H x ∧ ∀ H', Same H H' → E (.ref C) none H'))
def spWorthOf (K : PySem.W.Frag) (n : Nat) : Sp := fun vs H Q _ => ∃ (a d : Addr) (ns : List Int) (low m : Nat) (i j : Int) (kvs : List (List Key × V)), vs = [.ref a, .int i, .int j, .ref d] ∧ i = (low : Int) ∧ j = ((low + m : Nat) : Int) ∧
  SqL K H a (ns.map V.int) ∧ H d = some (.dT kvs) ∧ Known ns kvs ∧ ns.length ≤ 12 ∧ low + m ≤ ns.length ∧ m < n ∧
  ∀ H' kvs', SameBut d H H' → H' d = some (.dT kvs') → Known ns kvs' → Q (.int (wv ns m low)) H'
def coinOf (ns : List Int) (b : Bool) (low m : Nat) : Int := if b then ns.getD low 0 else ns.getD (low + m) 0
def lowOf (b : Bool) (low : Nat) : Nat := if b then low + 1 else low
theorem lowOf_le (b : Bool) (low m : Nat) : lowOf b low + m ≤ low + (m + 1) := by cases b <;> simp [lowOf] <;> omega
def spAfter (K : PySem.W.Frag) : Sp := fun vs H Q _ => ∃ (a : Addr) (ns : List Int) (low m : Nat) (i j : Int) (b : Bool), vs = [.ref a, .int i, .int j, .str (sideS b)] ∧ i = (low : Int) ∧ j = ((low + (m + 1) : Nat) : Int) ∧
  SqL K H a (ns.map V.int) ∧ low + (m + 1) ≤ ns.length ∧
  ∀ p, H p = none → Q (.ref p) (upd H p (.tup [.int (coinOf ns b low m), .int (lowOf b low : Nat), .int ((lowOf b low + m : Nat) : Int)]))
/-- an end is best -/
def bestB (ns : List Int) (low m : Nat) (b : Bool) : Bool := decide (coinOf ns b low m - wv ns m (lowOf b low) = wv ns (m + 1) low)
theorem ends_filter (ns : List Int) (low m : Nat) : ends ns (m + 1) low = [true, false].filter (bestB ns low m) := by
  rw [ends_succ]
  have h1 : bestB ns low m true = decide (ns.getD low 0 - wv ns m (low + 1) = wv ns (m + 1) low) := rfl
  have h2 : bestB ns low m false = decide (ns.getD (low + m) 0 - wv ns m low = wv ns (m + 1) low) := rfl
  rw [List.filter_cons, List.filter_cons, List.filter_nil, h1, h2]
  by_cases c1 : ns.getD low 0 - wv ns m (low + 1) = wv ns (m + 1) low
  · rw [if_pos c1, decide_eq_true c1, if_pos rfl]
    by_cases c2 : ns.getD (low + m) 0 - wv ns m low = wv ns (m + 1) low
    · rw [if_pos c2, decide_eq_true c2, if_pos rfl]
      rfl
    · rw [if_neg c2, decide_eq_false c2, if_neg Bool.false_ne_true]
      rfl
  · rw [if_neg c1, decide_eq_false c1, if_neg Bool.false_ne_true]
    by_cases c2 : ns.getD (low + m) 0 - wv ns m low = wv ns (m + 1) low
    · rw [if_pos c2, decide_eq_true c2, if_pos rfl]
      rfl
    · rw [if_neg c2, decide_eq_false c2, if_neg Bool.false_ne_true]
      rfl
theorem ends_le (ns : List Int) (n low : Nat) : (ends ns n low).length ≤ 2 := by
  cases n with
  | zero => exact Nat.zero_le _
  | succ m =>
    rw [ends_filter]
    exact List.length_filter_le _ _
def spBestOf (K : PySem.W.Frag) : Sp := fun vs H Q _ => ∃ (a d : Addr) (ns : List Int) (low m : Nat) (i j : Int) (kvs : List (List Key × V)), vs = [.ref a, .int i, .int j, .ref d] ∧ i = (low : Int) ∧ j = ((low + (m + 1) : Nat) : Int) ∧
  SqL K H a (ns.map V.int) ∧ H d = some (.dT kvs) ∧ Known ns kvs ∧ ns.length ≤ 12 ∧ low + (m + 1) ≤ ns.length ∧
  ∀ H' kvs' p, SameBut d H H' → H' d = some (.dT kvs') → Known ns kvs' → H p = none → H' p = some (.lst ((ends ns (m + 1) low).map fun b => V.str (sideS b))) → Q (.ref p) H'
def spWorth (K : PySem.W.Frag) (C : Addr) : Sp := spRow K C fun ns H Q _ => ∀ H', Same H H' → Q (.int (wv ns ns.length 0)) H'
def spBest (K : PySem.W.Frag) (C : Addr) : Sp := spRow K C fun ns H Q _ => ∀ H' p, Same H H' → H p = none → H' p = some (.lst ((ends ns ns.length 0).map fun b => V.str (sideS b))) → Q (.ref p) H'
def absI (i : Int) : Int := if i < 0 then -i else i
def sureV (ns : List Int) : Int := absI ((evens ns).sum - (evens (ns.drop 1)).sum)
def spSure (K : PySem.W.Frag) (C D : Addr) : Sp := spRow K C fun ns H Q E => (ns.length % 2 = 1 → ∀ H', Same H H' → E (.ref D) none H') ∧ (ns.length % 2 = 0 → ∀ H', Same H H' → Q (.int (sureV ns)) H')
end RE
/-! the promises of the laws' own defs -/
namespace RE
open PySem PySem.Spec PyProof.Rows L2
/-- some number comes -/
def spNumber : Sp := fun vs H Q _ => ∃ c a z : Int, vs = [.int c, .int a, .int z] ∧ c.natAbs < 2 ^ 2000000 ∧ a.natAbs < 2 ^ 30 ∧ ∀ r : Int, Q (.int r) H
/-- a row comes -/
def spLRow (K : PySem.W.Frag) : Sp := fun vs H Q _ => ∃ (a : Addr) (cs : List Int) (by' most : Int), vs = [.ref a, .int by', .int most] ∧ SqL K H a (cs.map V.int) ∧ cs.length ≤ 63 ∧ (∀ z ∈ cs, z.natAbs < 2 ^ 1048576) ∧ 0 ≤ by' ∧ by' ≤ 100 ∧ 0 ≤ most ∧ most ≤ 12 ∧
  ∀ (ns : List Int) (p : Addr) (H' : Hp), RowOk ns → (ns.length : Int) ≤ most → Same H H' → H p = none → H' p = some (.lst (ns.map V.int)) → Q (.ref p) H'
/-- all worths of a row -/
structure Worths (ns : List Int) (kvs : List (List Key × V)) : Prop where
  val : ∀ low n, low + n ≤ ns.length → valV kvs (keyOf low n) = some (.int (wv ns n low))
/-- the worths of stretches shorter than i, and of those of i coins that begin ahead of j -/
def Done (ns : List Int) (kvs : List (List Key × V)) (i j : Nat) : Prop := ∀ m low, low + m ≤ ns.length → (m < i ∨ (m = i ∧ low < j)) → valV kvs (keyOf low m) = some (.int (wv ns m low))
theorem Done.nil (ns : List Int) : Done ns [] 0 0 := fun m low _ h => by omega
theorem keyEq {i j : Int} {low n : Nat} (h1 : i = (low : Int)) (h2 : j = ((low + n : Nat) : Int)) : [V.int i, V.int j] = (keyOf low n).map kV := by
  show [V.int i, V.int j] = [V.int (low : Int), V.int ((low + n : Nat) : Int)]
  rw [h1, h2]
def spWorths (K : PySem.W.Frag) : Sp := fun vs H Q _ => ∃ (a : Addr) (ns : List Int), vs = [.ref a] ∧ SqL K H a (ns.map V.int) ∧ ns.length ≤ 12 ∧
  ∀ (kvs : List (List Key × V)) (d : Addr) (H' : Hp), Worths ns kvs → Same H H' → H d = none → H' d = some (.dT kvs) → Q (.ref d) H'
def spEnds (K : PySem.W.Frag) : Sp := fun vs H Q _ => ∃ (a d : Addr) (ns : List Int) (low m : Nat) (i j : Int) (kvs : List (List Key × V)), vs = [.ref a, .int i, .int j, .ref d] ∧ i = (low : Int) ∧ j = ((low + m : Nat) : Int) ∧ SqL K H a (ns.map V.int) ∧ H d = some (.dT kvs) ∧ Worths ns kvs ∧ low + m ≤ ns.length ∧
  ∀ H' p, Same H H' → H p = none → H' p = some (.lst ((ends ns m low).map fun b => V.str (sideS b))) → Q (.ref p) H'
def spLaw (K : PySem.W.Frag) : Sp := fun vs H Q _ => ∃ (a : Addr) (ns : List Int), vs = [.ref a] ∧ SqL K H a (ns.map V.int) ∧ ns.length ≤ 63 ∧ (∀ z ∈ ns, z.natAbs < 2 ^ 1048576) ∧ ∀ H', Q (.bl true) H'
/-- a sum of few great numbers -/
theorem sum_bits : ∀ (l : List Int) (k : Nat), (∀ z ∈ l, z.natAbs < 2 ^ k) → l.sum.natAbs < 2 ^ (k + l.length)
  | [], k, _ => by
    rw [List.sum_nil]
    exact Nat.pow_pos (by decide)
  | a :: l, k, h => by
    have ih := sum_bits l k fun z hz => h z (List.mem_cons_of_mem _ hz)
    have ha := pw_mono (h a List.mem_cons_self) (Nat.le_add_right k l.length)
    rw [List.sum_cons, List.length_cons, ← Nat.add_assoc]
    exact pw_add ha ih (Nat.le_refl _)
/-- the first 63 of a list that is not longer -/
theorem cut63 {xs : List V} (h : xs.length ≤ 63) : cutV xs none (some 63) = xs := by
  unfold cutV
  rw [show HT.sIx xs.length xs.length (some 63) = min 63 xs.length from HT.sIx_nat xs.length xs.length 63, HT.sIx_none, Nat.min_eq_right h, List.drop_zero, Nat.sub_zero, List.take_length]
end RE
/-! takes, greedy hands, best plays -/
namespace RE
open PySem PySem.Spec PyProof.Rows L2
/-- the coins of a stretch -/
def stretch (ns : List Int) (low n : Nat) : List Int := (ns.drop low).take n
/-- what takes give the hand that takes next, and the other one -/
def ledR (ns : List Int) : Nat → Nat → List Bool → Int × Int
  | m + 1, low, b :: bs => (coinOf ns b low m + (ledR ns m (lowOf b low) bs).2, (ledR ns m (lowOf b low) bs).1)
  | _, _, _ => (0, 0)
theorem ledR_nil (ns : List Int) (n low : Nat) : ledR ns n low [] = (0, 0) := by cases n <;> rfl
theorem ledR_cons (ns : List Int) (m low : Nat) (b : Bool) (bs : List Bool) : ledR ns (m + 1) low (b :: bs) = (coinOf ns b low m + (ledR ns m (lowOf b low) bs).2, (ledR ns m (lowOf b low) bs).1) := rfl
/-- where the stretch begins that takes leave -/
def ledLow : Nat → List Bool → Nat
  | low, [] => low
  | low, b :: bs => ledLow (lowOf b low) bs
def sidesV (bs : List Bool) : List V := bs.map fun b => V.str (sideS b)
theorem sidesV_len (bs : List Bool) : (sidesV bs).length = bs.length := List.length_map _
theorem sidesV_ok (bs : List Bool) : (sidesV bs).all okF = true := ok_strs bs
/-- greedy takes -/
def greedyV (ns : List Int) : Nat → Nat → List Bool
  | 0, _ => []
  | m + 1, low => decide (ns.getD (low + m) 0 ≤ ns.getD low 0) :: greedyV ns m (lowOf (decide (ns.getD (low + m) 0 ≤ ns.getD low 0)) low)
theorem greedyV_succ (ns : List Int) (m low : Nat) : greedyV ns (m + 1) low = decide (ns.getD (low + m) 0 ≤ ns.getD low 0) :: greedyV ns m (lowOf (decide (ns.getD (low + m) 0 ≤ ns.getD low 0)) low) := rfl
/-- all best plays of a stretch, in order -/
def plays (ns : List Int) : Nat → Nat → List (List Bool)
  | 0, _ => [[]]
  | m + 1, low => (ends ns (m + 1) low).flatMap fun b => (plays ns m (lowOf b low)).map fun p => b :: p
theorem plays_zero (ns : List Int) (low : Nat) : plays ns 0 low = [[]] := rfl
theorem plays_succ (ns : List Int) (m low : Nat) : plays ns (m + 1) low = (ends ns (m + 1) low).flatMap fun b => (plays ns m (lowOf b low)).map fun p => b :: p := rfl
def many (ns : List Int) (n low : Nat) : Int := ((plays ns n low).length : Nat)
theorem flat_len (f : Bool → List (List Bool)) : ∀ l : List Bool, (l.flatMap f).length = (l.map fun b => (f b).length).sum
  | [] => rfl
  | a :: l => by
    rw [List.flatMap_cons, List.length_append, flat_len f l, List.map_cons, List.sum_cons]
theorem plays_le (ns : List Int) : ∀ n low, (plays ns n low).length ≤ 2 ^ n
  | 0, low => by rw [plays_zero]; exact Nat.le_refl _
  | m + 1, low => by
    rw [plays_succ, flat_len]
    have h1 : ∀ l : List Bool, (l.map fun b => ((plays ns m (lowOf b low)).map fun p => b :: p).length).sum ≤ l.length * 2 ^ m := by
      intro l
      induction l with
      | nil => simp
      | cons b l ih =>
        rw [List.map_cons, List.sum_cons, List.length_map, List.length_cons, Nat.succ_mul]
        have := plays_le ns m (lowOf b low)
        omega
    have h2 := h1 (ends ns (m + 1) low)
    have h3 := ends_le ns (m + 1) low
    have h4 : (ends ns (m + 1) low).length * 2 ^ m ≤ 2 * 2 ^ m := Nat.mul_le_mul_right _ h3
    rw [Nat.pow_succ]
    omega
theorem plays_pos (ns : List Int) : ∀ n low, 0 < (plays ns n low).length
  | 0, low => by rw [plays_zero]; exact Nat.succ_pos _
  | m + 1, low => by
    rw [plays_succ]
    cases e : ends ns (m + 1) low with
    | nil => exact absurd e (ends_ne ns m low)
    | cons b l =>
      rw [List.flatMap_cons, List.length_append, List.length_map]
      have := plays_pos ns m (lowOf b low)
      omega
theorem plays_length (ns : List Int) : ∀ n low, ∀ p ∈ plays ns n low, p.length = n
  | 0, low, p, h => by
    rw [plays_zero, List.mem_singleton] at h
    rw [h]
    rfl
  | m + 1, low, p, h => by
    rw [plays_succ] at h
    obtain ⟨b, _, h⟩ := List.mem_flatMap.mp h
    obtain ⟨q, hq, rfl⟩ := List.mem_map.mp h
    rw [List.length_cons, plays_length ns m _ q hq]
theorem ends_best {ns : List Int} {m low : Nat} {b : Bool} (h : b ∈ ends ns (m + 1) low) : coinOf ns b low m - wv ns m (lowOf b low) = wv ns (m + 1) low := by
  rw [ends_filter] at h
  exact of_decide_eq_true (List.mem_filter.mp h).2
theorem plays_worth (ns : List Int) : ∀ n low, ∀ p ∈ plays ns n low, (ledR ns n low p).1 - (ledR ns n low p).2 = wv ns n low
  | 0, low, p, h => by
    rw [plays_zero, List.mem_singleton] at h
    rw [h, ledR_nil, wv_zero]
    rfl
  | m + 1, low, p, h => by
    rw [plays_succ] at h
    obtain ⟨b, hb, h⟩ := List.mem_flatMap.mp h
    obtain ⟨q, hq, rfl⟩ := List.mem_map.mp h
    have ih := plays_worth ns m _ q hq
    have e := ends_best hb
    rw [ledR_cons]
    show coinOf ns b low m + (ledR ns m (lowOf b low) q).2 - (ledR ns m (lowOf b low) q).1 = _
    omega
theorem sum_take1 {l : List Bool} {t : Nat} {b : Bool} (f : Bool → Int) (h : l[t]? = some b) : ((l.take (t + 1)).map f).sum = ((l.take t).map f).sum + f b := by
  rw [List.take_add_one, h, List.map_append, List.sum_append]
  simp
theorem many_succ (ns : List Int) (m low : Nat) : many ns (m + 1) low = ((ends ns (m + 1) low).map fun b => many ns m (lowOf b low)).sum := by
  unfold many
  rw [plays_succ, flat_len]
  generalize ends ns (m + 1) low = l
  induction l with
  | nil => rfl
  | cons b l ih =>
    rw [List.map_cons, List.sum_cons, List.map_cons, List.sum_cons, List.length_map, ← ih]
    omega
/-! ### stretches as lists -/
theorem stretch_len {ns : List Int} {low n : Nat} (h : low + n ≤ ns.length) : (stretch ns low n).length = n := by
  unfold stretch
  rw [List.length_take, List.length_drop]
  omega
theorem stretch_get {ns : List Int} {low n i : Nat} (h : i < n) : (stretch ns low n)[i]? = ns[low + i]? := by
  unfold stretch
  rw [List.getElem?_take, if_pos h, List.getElem?_drop]
theorem stretch_first {ns : List Int} {low m : Nat} (h : low + (m + 1) ≤ ns.length) : stretch ns low (m + 1) = ns.getD low 0 :: stretch ns (low + 1) m := by
  unfold stretch
  have hl : low < ns.length := by omega
  rw [List.drop_eq_getElem_cons hl, List.take_succ_cons, List.getD_eq_getElem?_getD, List.getElem?_eq_getElem hl]
  rfl
theorem stretch_last {ns : List Int} {low m : Nat} (h : low + (m + 1) ≤ ns.length) : stretch ns low (m + 1) = stretch ns low m ++ [ns.getD (low + m) 0] := by
  unfold stretch
  have hl : low + m < ns.length := by omega
  rw [List.take_add_one, List.getElem?_drop, List.getElem?_eq_getElem hl, List.getD_eq_getElem?_getD, List.getElem?_eq_getElem hl]
  rfl
theorem stretch_all (ns : List Int) : stretch ns 0 ns.length = ns := by
  unfold stretch
  rw [List.drop_zero, List.take_length]
theorem stretch_zero (ns : List Int) (low : Nat) : stretch ns low 0 = [] := by
  unfold stretch
  rw [List.take_zero]
theorem stretch_cut {ns : List Int} {low n : Nat} (h : low + n ≤ ns.length) {i j : Int} (ei : i = (low : Int)) (ej : j = ((low + n : Nat) : Int)) : cutV (ns.map V.int) (some i) (some j) = (stretch ns low n).map V.int := by
  subst ei ej
  unfold cutV stretch
  rw [show HT.sIx (ns.map V.int).length 0 (some ((low : Nat) : Int)) = min low (ns.map V.int).length from HT.sIx_nat _ 0 low, show HT.sIx (ns.map V.int).length (ns.map V.int).length (some ((low + n : Nat) : Int)) = min (low + n) (ns.map V.int).length from HT.sIx_nat _ _ (low + n), List.length_map, Nat.min_eq_left h, Nat.min_eq_left (show low ≤ ns.length by omega), ← List.map_drop, ← List.map_take]
  congr 2
  omega
end RE
/-! promises about takes and plays -/
namespace RE
open PySem PySem.Spec PyProof.Rows L2
def isSideB : V → Bool
  | .str s => decide (s = "left") || decide (s = "right")
  | _ => false
theorem isSide_side (b : Bool) : isSideB (.str (sideS b)) = true := by cases b <;> decide +kernel
def spSide (K : PySem.W.Frag) : Sp := fun vs H Q _ => ∃ x T, vs = [x] ∧ PV K H x T ∧ ∀ H', Same H H' → Q (.bl (isSideB x)) H'
def NoTakes (K : PySem.W.Frag) (H : Hp) (x : V) (n : Nat) : Prop := (∃ T, PV K H x T ∧ (T == "list") = false) ∨
  ∃ a xs, x = .ref a ∧ SqL K H a xs ∧ (n < xs.length ∨ (xs.length ≤ n ∧ (∀ y ∈ xs, ∃ T, PV K H y T) ∧ xs.all isSideB = false))
theorem all_sides (bs : List Bool) : (sidesV bs).all isSideB = true := by
  unfold sidesV
  rw [List.all_map]
  exact List.all_eq_true.mpr fun b _ => isSide_side b
def spLed (K : PySem.W.Frag) (C D : Addr) : Sp := fun vs H Q E => ∃ x t, vs = [x, t] ∧ ((NoRow K H x ∧ ∀ H', Same H H' → E (.ref C) none H') ∨ ∃ ns, IsRow K H x ns ∧
  ((NoTakes K H t ns.length ∧ ∀ H', Same H H' → E (.ref D) none H') ∨ ∃ a bs, t = .ref a ∧ SqL K H a (sidesV bs) ∧ bs.length ≤ ns.length ∧
    ∀ H' p l, Same H H' → H p = none → H l = none → H' p = some (.tup [.int (ledR ns ns.length 0 bs).1, .int (ledR ns ns.length 0 bs).2, .ref l]) → H' l = some (.lst ((stretch ns (ledLow 0 bs) (ns.length - bs.length)).map V.int)) → Q (.ref p) H'))
def spGreedy (K : PySem.W.Frag) (C : Addr) : Sp := spRow K C fun ns H Q _ => ∀ H' p, Same H H' → H p = none → H' p = some (.lst (sidesV (greedyV ns ns.length 0))) → Q (.ref p) H'
def spPlaysOf (K : PySem.W.Frag) (n : Nat) : Sp := fun vs H Q _ => ∃ (a d : Addr) (ns : List Int) (low m : Nat) (i j : Int) (kvs : List (List Key × V)), vs = [.ref a, .int i, .int j, .ref d] ∧ i = (low : Int) ∧ j = ((low + m : Nat) : Int) ∧
  SqL K H a (ns.map V.int) ∧ H d = some (.dT kvs) ∧ Known ns kvs ∧ ns.length ≤ 12 ∧ low + m ≤ ns.length ∧ m < n ∧
  ∀ H' kvs', SameBut d H H' → H' d = some (.dT kvs') → Known ns kvs' → Q (.int (many ns m low)) H'
def spHowMany (K : PySem.W.Frag) (C : Addr) : Sp := spRow K C fun ns H Q _ => ∀ H', Same H H' → Q (.int (many ns ns.length 0)) H'
/-- what is no number of a best play -/
def NoNum (K : PySem.W.Frag) (H : Hp) (x : V) (n : Int) : Prop := (∃ T, PV K H x T ∧ (T == "int") = false) ∨ ∃ k, x = .int k ∧ ¬ (0 ≤ k ∧ k < n)
def spPlayBy (K : PySem.W.Frag) (C D : Addr) : Sp := fun vs H Q E => ∃ x t, vs = [x, t] ∧ ((NoRow K H x ∧ ∀ H', Same H H' → E (.ref C) none H') ∨ ∃ ns, IsRow K H x ns ∧
  ((NoNum K H t (many ns ns.length 0) ∧ ∀ H', Same H H' → E (.ref D) none H') ∨ ∃ (k : Nat) (pl : List Bool), t = .int (k : Int) ∧ (plays ns ns.length 0)[k]? = some pl ∧
    ∀ H' p, Same H H' → H p = none → H' p = some (.lst (sidesV pl)) → Q (.ref p) H'))
/-- enumerate over a list that stays -/
theorem for_enum {K : PySem.W.Frag} {a : Addr} {xs : List V} {g : TG} {tb : TS} {D : Ends} {σ : L2.St} {H : Hp} (Pv : Nat → L2.St → Hp → Prop) (h0 : Pv 0 σ H) (hq : ∀ i σ H, Pv i σ H → SqL K H a xs)
    (hs : ∀ (i : Nat) (x : V) (T : Addr) (σ : L2.St) (H : Hp), xs[i]? = some x → Pv i σ H → H T = none → g (.ref T) σ (upd H T (.tup [.int (i : Nat), x])) fun σ2 H2 => tb { D with nx := Pv (i + 1), ct := Pv (i + 1), bk := D.nx } σ2 H2) (hd : ∀ σ H, Pv xs.length σ H → D.nx σ H) :
    ∃ W : Nat → Nat → L2.St → Hp → Prop, (∃ m, W 0 m σ H) ∧ ∀ i m σ H, W i m σ H →
      ((Ite K a).stop i H ∧ D.nx σ H) ∨ ((Ite K a).go i H ∧ ∃ N : L2.St → Hp → Prop, (∀ σ' H', N σ' H' → ∃ m', m' < m ∧ W (i + 1) m' σ' H') ∧ ∀ v H', (Ite K a).yld i H v H' → g v σ H' fun σ2 H2 => tb { D with nx := N, ct := N, bk := D.nx } σ2 H2) := by
  refine ⟨fun i m σ H => m = xs.length - i ∧ i ≤ xs.length ∧ Pv i σ H, ⟨xs.length, rfl, Nat.zero_le _, h0⟩, ?_⟩
  rintro i m σ H ⟨rfl, hi, p⟩
  have qx := hq i σ H p
  by_cases hlt : i < xs.length
  · have hx : xs[i]? = some xs[i] := List.getElem?_eq_getElem hlt
    refine .inr ⟨⟨xs, _, qx, hx⟩, Pv (i + 1), fun σ' H' p' => ⟨xs.length - (i + 1), by omega, rfl, hlt, p'⟩, fun v H' y => ?_⟩
    obtain ⟨T, x', rfl, hT, rfl, f1⟩ := y
    exact hs i x' T σ H (f1 xs qx) p hT
  · have e : i = xs.length := by omega
    subst e
    exact .inl ⟨⟨xs, qx, Nat.le_refl _⟩, hd σ H p⟩
end RE
/-! lists of takes; promises of the law's own defs about plays -/
namespace RE
open PySem PySem.Spec PyProof.Rows L2
/-- a list of lists of ends -/
inductive Lsts (H : Hp) : List V → List (List Bool) → Prop
  | nil : Lsts H [] []
  | cons {q : Addr} {pl : List Bool} {xs : List V} {pls : List (List Bool)} (h : H q = some (.lst (sidesV pl))) (t : Lsts H xs pls) : Lsts H (.ref q :: xs) (pl :: pls)
theorem Lsts.mono {H H' : Hp} (s : Same H H') : ∀ {xs : List V} {pls : List (List Bool)}, Lsts H xs pls → Lsts H' xs pls
  | _, _, .nil => .nil
  | _, _, .cons h t => .cons (s _ _ h) (t.mono s)
theorem Lsts.app {H : Hp} {ys : List V} {qls : List (List Bool)} (b : Lsts H ys qls) : ∀ {xs : List V} {pls : List (List Bool)}, Lsts H xs pls → Lsts H (xs ++ ys) (pls ++ qls)
  | _, _, .nil => b
  | _, _, .cons h t => .cons h (b.app t)
theorem Lsts.len {H : Hp} : ∀ {xs : List V} {pls : List (List Bool)}, Lsts H xs pls → xs.length = pls.length
  | _, _, .nil => rfl
  | _, _, .cons _ t => by rw [List.length_cons, List.length_cons, t.len]
theorem Lsts.get {H : Hp} : ∀ {xs : List V} {pls : List (List Bool)} {i : Nat} {pl : List Bool}, Lsts H xs pls → pls[i]? = some pl → ∃ q, xs[i]? = some (.ref q) ∧ H q = some (.lst (sidesV pl))
  | _, _, i, pl, .nil, e => by simp at e
  | _, _, 0, pl, .cons h t, e => by
    have e' := Option.some.inj e
    subst e'
    exact ⟨_, rfl, h⟩
  | _, _, i + 1, pl, .cons h t, e => by
    obtain ⟨q, h1, h2⟩ := t.get (i := i) (pl := pl) (by simpa using e)
    exact ⟨q, by simpa using h1, h2⟩
theorem Lsts.getX {H : Hp} : ∀ {xs : List V} {pls : List (List Bool)} {i : Nat} {x : V}, Lsts H xs pls → xs[i]? = some x → ∃ q pl, x = .ref q ∧ pls[i]? = some pl ∧ H q = some (.lst (sidesV pl))
  | _, _, i, x, .nil, e => by simp at e
  | _, _, 0, x, .cons h t, e => by
    have e' := Option.some.inj e
    subst e'
    exact ⟨_, _, rfl, rfl, h⟩
  | _, _, i + 1, x, .cons h t, e => by
    obtain ⟨q, pl, h1, h2, h3⟩ := t.getX (i := i) (x := x) (by simpa using e)
    exact ⟨q, pl, h1, by simpa using h2, h3⟩
/-- all but the object at D -/
def hide (D : Addr) (H : Hp) : Hp := fun a => if a = D then none else H a
theorem hide_ne {D a : Addr} {H : Hp} (h : a ≠ D) : hide D H a = H a := if_neg h
theorem hide_of (D : Addr) (H : Hp) : Same (hide D H) H := fun b o e => by
  by_cases c : b = D
  · rw [c, show hide D H D = none from if_pos rfl] at e
    cases e
  · rw [hide_ne c] at e
    exact e
theorem hide_same {D : Addr} {H H' : Hp} (s : SameBut D H H') : Same (hide D H) (hide D H') := fun b o e => by
  by_cases c : b = D
  · rw [c, show hide D H D = none from if_pos rfl] at e
    cases e
  · rw [hide_ne c] at e ⊢
    exact s b o c e
def spLPlays (K : PySem.W.Frag) (n : Nat) : Sp := fun vs H Q _ => ∃ (a d : Addr) (ns : List Int) (low m : Nat) (i j : Int) (kvs : List (List Key × V)), vs = [.ref a, .int i, .int j, .ref d] ∧ i = (low : Int) ∧ j = ((low + m : Nat) : Int) ∧
  SqL K H a (ns.map V.int) ∧ H d = some (.dT kvs) ∧ Worths ns kvs ∧ ns.length ≤ 12 ∧ low + m ≤ ns.length ∧ m < n ∧
  ∀ H' p xs, Same H H' → H p = none → H' p = some (.lst xs) → Lsts H' xs (plays ns m low) → Q (.ref p) H'
def spLLed (K : PySem.W.Frag) : Sp := fun vs H Q _ => ∃ (r a : Addr) (ns : List Int) (bs : List Bool), vs = [.ref r, .ref a] ∧ SqL K H r (ns.map V.int) ∧ SqL K H a (sidesV bs) ∧ bs.length ≤ ns.length ∧
  ∀ H' p l, Same H H' → H p = none → H l = none → H' p = some (.tup [.int (ledR ns ns.length 0 bs).1, .int (ledR ns ns.length 0 bs).2, .ref l]) → H' l = some (.lst ((stretch ns (ledLow 0 bs) (ns.length - bs.length)).map V.int)) → Q (.ref p) H'
def spLGreedy (K : PySem.W.Frag) : Sp := fun vs H Q _ => ∃ (r : Addr) (ns : List Int), vs = [.ref r] ∧ SqL K H r (ns.map V.int) ∧ ns.length ≤ 12 ∧
  ∀ H' p, Same H H' → H p = none → H' p = some (.lst (sidesV (greedyV ns ns.length 0))) → Q (.ref p) H'
theorem pop_first {ns : List Int} {low m : Nat} (h : low + (m + 1) ≤ ns.length) : ((stretch ns low (m + 1)).map V.int).eraseIdx 0 = (stretch ns (low + 1) m).map V.int ∧ ((stretch ns low (m + 1)).map V.int)[0]? = some (.int (ns.getD low 0)) := by
  rw [stretch_first h]
  exact ⟨rfl, rfl⟩
theorem pop_last {ns : List Int} {low m : Nat} (h : low + (m + 1) ≤ ns.length) : ((stretch ns low (m + 1)).map V.int).eraseIdx m = (stretch ns low m).map V.int ∧ ((stretch ns low (m + 1)).map V.int)[m]? = some (.int (ns.getD (low + m) 0)) := by
  have hl : (stretch ns low m).length = m := stretch_len (by omega)
  rw [stretch_last h, List.map_append]
  constructor
  · rw [List.eraseIdx_append_of_length_le (by rw [List.length_map]; omega), List.length_map, hl, Nat.sub_self]
    simp
  · rw [List.getElem?_append_right (by rw [List.length_map]; omega), List.length_map, hl, Nat.sub_self]
    rfl
theorem cut_tail (x : V) (xs : List V) : cutV (x :: xs) (some 1) none = xs := by
  unfold cutV
  rw [show HT.sIx (x :: xs).length 0 (some 1) = min 1 (x :: xs).length from HT.sIx_nat _ 0 1, HT.sIx_none, List.length_cons, Nat.min_eq_left (by omega)]
  simp
theorem cut_init (xs : List V) (x : V) : cutV (xs ++ [x]) none (some (-1)) = xs := by
  have e : HT.sIx (xs ++ [x]).length (xs ++ [x]).length (some (-1)) = xs.length := by
    unfold HT.sIx
    simp
    try omega
  unfold cutV
  rw [e, HT.sIx_none]
  simp
/-- the walk over a range with a step -/
theorem rgc_of {j c : Int} (h0 : 0 ≤ j) (h1 : j < 1000000) (c0 : 1 ≤ c) (c1 : c < 1000000) : ∃ n : Nat, RgC 0 j c n ∧ ∀ i : Nat, i < n → 0 ≤ (i : Int) * c ∧ (i : Int) * c < j := by
  have e : Builtin.Range.rangeSize 0 j c = (j + c - 1) / c := rangeSize_pos c0 h0
  have q0 : 0 ≤ (j + c - 1) / c := Int.ediv_nonneg (by omega) (by omega)
  have q1 : (j + c - 1) / c ≤ j + c - 1 := Int.ediv_le_self _ (by omega)
  refine ⟨((j + c - 1) / c).toNat, ⟨by omega, by omega, ?_, ?_⟩, fun i hi => ?_⟩
  · unfold Builtin.Range.small
    rw [e]
    generalize (j + c - 1) / c = q at q0 q1
    rw [if_pos (show c > 0 by omega)]
    simp only [Builtin.Range.rangeFitsLong, Bool.and_eq_true, Bool.or_eq_true, decide_eq_true_eq, beq_iff_eq]
    omega
  · rw [e, Int.toNat_of_nonneg q0]
  · exact start_inside c0 h0 (by omega) (by rw [e]; omega)
end RE
/-! heaps as letters: for printed readings -/
namespace RE
open PySem PySem.Spec PyProof.Rows L2
/-- a new object: the heap behind it is a letter -/
@[elab_as_elim] theorem gen_heap {H : Hp} {p : Addr} {o : HO} {G : Hp → Prop} (np : H p = none) (h : ∀ H', Same H H' → H' p = some o → G H') : G (upd H p o) := h _ (same_new np o) upd_same
/-- an object that is changed -/
@[elab_as_elim] theorem gen_put {H : Hp} {p : Addr} {o u : HO} {G : Hp → Prop} (hp : H p = some u) (h : ∀ H', SameBut p H H' → H' p = some o → G H') : G (upd H p o) := h _ (SameBut.put o) upd_same
theorem seqT_same {K : PySem.W.Frag} {H H' : Hp} {a : Addr} {xs : List V} (e : Same H H') (h : SqT K H a xs) : SqT K H' a xs := by
  rcases h with h | h
  · rcases h with h | ⟨o, h⟩
    · exact .inl (.inl (e _ _ h))
    · exact .inl (.inr ⟨o, e _ _ h⟩)
  · exact .inr h
theorem eqv_eq {d e : PyData} (h : SeqAt.shaped d = true) (q : d = e) : PyData.eqv d e = true := by
  subst q
  exact eqv_same h
end RE
namespace K04
open PySem PySem.Spec PyProof.Rows L2 RE
/-! the text by places -/
def top (i : Nat) : Stmt := PySem.Challenge.pw_rowends_k04_whole_plays.main.body.getD i (.Pass ⟨0, 0, 0, 0⟩)
abbrev s_is_whole : Stmt := top 10
abbrev N_is_whole : List Str := ["thing"]
theorem sc_is_whole : FnScope N_is_whole ["thing"] (defScope s_is_whole) := ⟨rfl, rfl, rfl, by decide +kernel, rfl, by decide +kernel, by decide +kernel⟩
abbrev s_check_row : Stmt := top 11
abbrev N_check_row : List Str := ["row", "coin"]
theorem sc_check_row : FnScope N_check_row ["row"] (defScope s_check_row) := ⟨rfl, rfl, rfl, by decide +kernel, rfl, by decide +kernel, by decide +kernel⟩
abbrev s_is_side : Stmt := top 12
abbrev N_is_side : List Str := ["thing"]
theorem sc_is_side : FnScope N_is_side ["thing"] (defScope s_is_side) := ⟨rfl, rfl, rfl, by decide +kernel, rfl, by decide +kernel, by decide +kernel⟩
abbrev s_worth_of : Stmt := top 13
abbrev N_worth_of : List Str := ["row", "low", "behind", "known", "first"]
theorem sc_worth_of : FnScope N_worth_of ["row", "low", "behind", "known"] (defScope s_worth_of) := ⟨rfl, rfl, rfl, by decide +kernel, rfl, by decide +kernel, by decide +kernel⟩
abbrev s_after : Stmt := top 14
abbrev N_after : List Str := ["row", "low", "behind", "side"]
theorem sc_after : FnScope N_after ["row", "low", "behind", "side"] (defScope s_after) := ⟨rfl, rfl, rfl, by decide +kernel, rfl, by decide +kernel, by decide +kernel⟩
abbrev s_best_of : Stmt := top 15
abbrev N_best_of : List Str := ["row", "low", "behind", "known", "due", "found", "side", "coin", "left", "right"]
theorem sc_best_of : FnScope N_best_of ["row", "low", "behind", "known"] (defScope s_best_of) := ⟨rfl, rfl, rfl, by decide +kernel, rfl, by decide +kernel, by decide +kernel⟩
abbrev s_led : Stmt := top 16
abbrev N_led : List Str := ["row", "takes", "side", "low", "behind", "sums", "at", "coin"]
theorem sc_led : FnScope N_led ["row", "takes"] (defScope s_led) := ⟨rfl, rfl, rfl, by decide +kernel, rfl, by decide +kernel, by decide +kernel⟩
abbrev s_greedy : Stmt := top 17
abbrev N_greedy : List Str := ["row", "low", "behind", "found", "side", "coin"]
theorem sc_greedy : FnScope N_greedy ["row"] (defScope s_greedy) := ⟨rfl, rfl, rfl, by decide +kernel, rfl, by decide +kernel, by decide +kernel⟩
abbrev s_plays_of : Stmt := top 19
abbrev N_plays_of : List Str := ["row", "low", "behind", "known", "found", "side", "coin", "left", "right"]
theorem sc_plays_of : FnScope N_plays_of ["row", "low", "behind", "known"] (defScope s_plays_of) := ⟨rfl, rfl, rfl, by decide +kernel, rfl, by decide +kernel, by decide +kernel⟩
abbrev s_how_many : Stmt := top 20
abbrev N_how_many : List Str := ["row"]
theorem sc_how_many : FnScope N_how_many ["row"] (defScope s_how_many) := ⟨rfl, rfl, rfl, by decide +kernel, rfl, by decide +kernel, by decide +kernel⟩
abbrev s_play_by : Stmt := top 21
abbrev N_play_by : List Str := ["row", "number", "known", "low", "behind", "found", "side", "coin", "left", "right", "many"]
theorem sc_play_by : FnScope N_play_by ["row", "number"] (defScope s_play_by) := ⟨rfl, rfl, rfl, by decide +kernel, rfl, by decide +kernel, by decide +kernel⟩
abbrev s__law_number : Stmt := top 23
abbrev N__law_number : List Str := ["_law_cell", "_law_at", "_law_whole_here", "_law_mixed", "_law_more"]
theorem sc__law_number : FnScope N__law_number ["_law_cell", "_law_at", "_law_whole_here"] (defScope s__law_number) := ⟨rfl, rfl, rfl, by decide +kernel, rfl, by decide +kernel, by decide +kernel⟩
abbrev s__law_whole : Stmt := top 24
abbrev N__law_whole : List Str := ["_law_found"]
theorem sc__law_whole : FnScope N__law_whole ["_law_found"] (defScope s__law_whole) := ⟨rfl, rfl, rfl, by decide +kernel, rfl, by decide +kernel, by decide +kernel⟩
abbrev s__law_row : Stmt := top 25
abbrev N__law_row : List Str := ["_law_script", "_law_by", "_law_most", "_law_cells", "_law_whole_here", "_law_found", "_law_kind", "_law_at", "_law_number_here"]
theorem sc__law_row : FnScope N__law_row ["_law_script", "_law_by", "_law_most"] (defScope s__law_row) := ⟨rfl, rfl, rfl, by decide +kernel, rfl, by decide +kernel, by decide +kernel⟩
abbrev s__law_worths : Stmt := top 26
abbrev N__law_worths : List Str := ["_law_row_here", "_law_found", "_law_many", "_law_low", "_law_behind", "_law_one"]
theorem sc__law_worths : FnScope N__law_worths ["_law_row_here"] (defScope s__law_worths) := ⟨rfl, rfl, rfl, by decide +kernel, rfl, by decide +kernel, by decide +kernel⟩
abbrev s__law_ends : Stmt := top 27
abbrev N__law_ends : List Str := ["_law_row_here", "_law_low", "_law_behind", "_law_worths_here", "_law_found", "_law_due"]
theorem sc__law_ends : FnScope N__law_ends ["_law_row_here", "_law_low", "_law_behind", "_law_worths_here"] (defScope s__law_ends) := ⟨rfl, rfl, rfl, by decide +kernel, rfl, by decide +kernel, by decide +kernel⟩
abbrev s__law_led : Stmt := top 28
abbrev N__law_led : List Str := ["_law_row_here", "_law_takes", "_law_left", "_law_sums", "_law_at", "_law_side"]
theorem sc__law_led : FnScope N__law_led ["_law_row_here", "_law_takes"] (defScope s__law_led) := ⟨rfl, rfl, rfl, by decide +kernel, rfl, by decide +kernel, by decide +kernel⟩
abbrev s__law_plays : Stmt := top 29
abbrev N__law_plays : List Str := ["_law_row_here", "_law_low", "_law_behind", "_law_worths_here", "_law_found", "_law_side", "_law_left", "_law_right", "_law_play"]
theorem sc__law_plays : FnScope N__law_plays ["_law_row_here", "_law_low", "_law_behind", "_law_worths_here"] (defScope s__law_plays) := ⟨rfl, rfl, rfl, by decide +kernel, rfl, by decide +kernel, by decide +kernel⟩
abbrev s__law_greedy : Stmt := top 30
abbrev N__law_greedy : List Str := ["_law_row_here", "_law_left", "_law_found"]
theorem sc__law_greedy : FnScope N__law_greedy ["_law_row_here"] (defScope s__law_greedy) := ⟨rfl, rfl, rfl, by decide +kernel, rfl, by decide +kernel, by decide +kernel⟩
abbrev s_law : Stmt := top 31
abbrev N_law : List Str := ["_law_script", "_law_whole_here", "_law_by", "_law_row_here", "_law_handed", "_law_worths_here", "_law_every", "_law_many", "_law_number_here", "_law_again", "_law_play", "_law_told", "_law_takes", "_law_size", "_law_mine", "_law_found", "_law_greed", "_law_long", "_law_at"]
theorem sc_law : FnScope N_law ["_law_script"] (defScope s_law) := ⟨rfl, rfl, rfl, by decide +kernel, rfl, by decide +kernel, by decide +kernel⟩
structure Ad where
  f_is_whole : Addr
  d_is_whole : FuncData
  f_check_row : Addr
  d_check_row : FuncData
  f_is_side : Addr
  d_is_side : FuncData
  f_worth_of : Addr
  d_worth_of : FuncData
  f_after : Addr
  d_after : FuncData
  f_best_of : Addr
  d_best_of : FuncData
  f_led : Addr
  d_led : FuncData
  f_greedy : Addr
  d_greedy : FuncData
  f_plays_of : Addr
  d_plays_of : FuncData
  f_how_many : Addr
  d_how_many : FuncData
  f_play_by : Addr
  d_play_by : FuncData
  f__law_number : Addr
  d__law_number : FuncData
  f__law_whole : Addr
  d__law_whole : FuncData
  f__law_row : Addr
  d__law_row : FuncData
  f__law_worths : Addr
  d__law_worths : FuncData
  f__law_ends : Addr
  d__law_ends : FuncData
  f__law_led : Addr
  d__law_led : FuncData
  f__law_plays : Addr
  d__law_plays : FuncData
  f__law_greedy : Addr
  d__law_greedy : FuncData
  f_law : Addr
  d_law : FuncData
  C_EndError : Addr
  C_BadRow : Addr
  C_BadTakes : Addr
  C_BadNumber : Addr
  t_MOST : Tok
  t_GREATEST : Tok
  t_LEFT : Tok
  t_RIGHT : Tok
structure Tx (K : PySem.W.Frag) (mg : Str → Option Value) (A : Ad) : Prop where
  ball : mg "all" = none
  bbool : mg "bool" = none
  benumerate : mg "enumerate" = none
  bint : mg "int" = none
  bisinstance : mg "isinstance" = none
  blen : mg "len" = none
  blist : mg "list" = none
  bmax : mg "max" = none
  brange : mg "range" = none
  bstr : mg "str" = none
  bsum : mg "sum" = none
  btuple : mg "tuple" = none
  gMOST : mg "MOST" = some (.int 12 A.t_MOST)
  gGREATEST : mg "GREATEST" = some (.int 1000000 A.t_GREATEST)
  gLEFT : mg "LEFT" = some (.str "left" A.t_LEFT)
  gRIGHT : mg "RIGHT" = some (.str "right" A.t_RIGHT)
  gis_whole : mg "is_whole" = some (.ref A.f_is_whole)
  Fis_whole : Fun K "is_whole" "is_whole" s_is_whole A.f_is_whole A.d_is_whole
  bis_whole : Binds K A.d_is_whole ["thing"] []
  gcheck_row : mg "check_row" = some (.ref A.f_check_row)
  Fcheck_row : Fun K "check_row" "check_row" s_check_row A.f_check_row A.d_check_row
  bcheck_row : Binds K A.d_check_row ["row"] []
  gis_side : mg "is_side" = some (.ref A.f_is_side)
  Fis_side : Fun K "is_side" "is_side" s_is_side A.f_is_side A.d_is_side
  bis_side : Binds K A.d_is_side ["thing"] []
  gworth_of : mg "worth_of" = some (.ref A.f_worth_of)
  Fworth_of : Fun K "worth_of" "worth_of" s_worth_of A.f_worth_of A.d_worth_of
  bworth_of : Binds K A.d_worth_of ["row", "low", "behind", "known"] []
  gafter : mg "after" = some (.ref A.f_after)
  Fafter : Fun K "after" "after" s_after A.f_after A.d_after
  bafter : Binds K A.d_after ["row", "low", "behind", "side"] []
  gbest_of : mg "best_of" = some (.ref A.f_best_of)
  Fbest_of : Fun K "best_of" "best_of" s_best_of A.f_best_of A.d_best_of
  bbest_of : Binds K A.d_best_of ["row", "low", "behind", "known"] []
  gled : mg "led" = some (.ref A.f_led)
  Fled : Fun K "led" "led" s_led A.f_led A.d_led
  bled : Binds K A.d_led ["row", "takes"] []
  ggreedy : mg "greedy" = some (.ref A.f_greedy)
  Fgreedy : Fun K "greedy" "greedy" s_greedy A.f_greedy A.d_greedy
  bgreedy : Binds K A.d_greedy ["row"] []
  gplays_of : mg "plays_of" = some (.ref A.f_plays_of)
  Fplays_of : Fun K "plays_of" "plays_of" s_plays_of A.f_plays_of A.d_plays_of
  bplays_of : Binds K A.d_plays_of ["row", "low", "behind", "known"] []
  ghow_many : mg "how_many" = some (.ref A.f_how_many)
  Fhow_many : Fun K "how_many" "how_many" s_how_many A.f_how_many A.d_how_many
  bhow_many : Binds K A.d_how_many ["row"] []
  gplay_by : mg "play_by" = some (.ref A.f_play_by)
  Fplay_by : Fun K "play_by" "play_by" s_play_by A.f_play_by A.d_play_by
  bplay_by : Binds K A.d_play_by ["row", "number"] []
  g_law_number : mg "_law_number" = some (.ref A.f__law_number)
  F_law_number : Fun K "_law_number" "_law_number" s__law_number A.f__law_number A.d__law_number
  b_law_number : Binds K A.d__law_number ["_law_cell", "_law_at", "_law_whole_here"] []
  g_law_whole : mg "_law_whole" = some (.ref A.f__law_whole)
  F_law_whole : Fun K "_law_whole" "_law_whole" s__law_whole A.f__law_whole A.d__law_whole
  b_law_whole : Binds K A.d__law_whole ["_law_found"] []
  g_law_row : mg "_law_row" = some (.ref A.f__law_row)
  F_law_row : Fun K "_law_row" "_law_row" s__law_row A.f__law_row A.d__law_row
  b_law_row : Binds K A.d__law_row ["_law_script", "_law_by", "_law_most"] []
  g_law_worths : mg "_law_worths" = some (.ref A.f__law_worths)
  F_law_worths : Fun K "_law_worths" "_law_worths" s__law_worths A.f__law_worths A.d__law_worths
  b_law_worths : Binds K A.d__law_worths ["_law_row_here"] []
  g_law_ends : mg "_law_ends" = some (.ref A.f__law_ends)
  F_law_ends : Fun K "_law_ends" "_law_ends" s__law_ends A.f__law_ends A.d__law_ends
  b_law_ends : Binds K A.d__law_ends ["_law_row_here", "_law_low", "_law_behind", "_law_worths_here"] []
  g_law_led : mg "_law_led" = some (.ref A.f__law_led)
  F_law_led : Fun K "_law_led" "_law_led" s__law_led A.f__law_led A.d__law_led
  b_law_led : Binds K A.d__law_led ["_law_row_here", "_law_takes"] []
  g_law_plays : mg "_law_plays" = some (.ref A.f__law_plays)
  F_law_plays : Fun K "_law_plays" "_law_plays" s__law_plays A.f__law_plays A.d__law_plays
  b_law_plays : Binds K A.d__law_plays ["_law_row_here", "_law_low", "_law_behind", "_law_worths_here"] []
  g_law_greedy : mg "_law_greedy" = some (.ref A.f__law_greedy)
  F_law_greedy : Fun K "_law_greedy" "_law_greedy" s__law_greedy A.f__law_greedy A.d__law_greedy
  b_law_greedy : Binds K A.d__law_greedy ["_law_row_here"] []
  glaw : mg "law" = some (.ref A.f_law)
  Flaw : Fun K "law" "law" s_law A.f_law A.d_law
  blaw : Binds K A.d_law ["_law_script"] []
  gEndError : mg "EndError" = some (.ref A.C_EndError)
  kEndError : PySem.W.keepIn K (.ref A.C_EndError) = true
  xEndError : PySem.W.excIn K A.C_EndError [.type "ValueError", .type "Exception", .type "BaseException", .type "object"] "ValueError.__new__" = true
  BEndError : PySem.W.subIn K (.ref A.C_EndError) (.type "BaseException") = some true
  tEndError : PySem.W.typeIn K (.ref A.C_EndError) = some (.type "type")
  gBadRow : mg "BadRow" = some (.ref A.C_BadRow)
  kBadRow : PySem.W.keepIn K (.ref A.C_BadRow) = true
  xBadRow : PySem.W.excIn K A.C_BadRow [.type "ValueError", .type "Exception", .type "BaseException", .type "object"] "ValueError.__new__" = true
  BBadRow : PySem.W.subIn K (.ref A.C_BadRow) (.type "BaseException") = some true
  tBadRow : PySem.W.typeIn K (.ref A.C_BadRow) = some (.type "type")
  gBadTakes : mg "BadTakes" = some (.ref A.C_BadTakes)
  kBadTakes : PySem.W.keepIn K (.ref A.C_BadTakes) = true
  xBadTakes : PySem.W.excIn K A.C_BadTakes [.type "ValueError", .type "Exception", .type "BaseException", .type "object"] "ValueError.__new__" = true
  BBadTakes : PySem.W.subIn K (.ref A.C_BadTakes) (.type "BaseException") = some true
  tBadTakes : PySem.W.typeIn K (.ref A.C_BadTakes) = some (.type "type")
  gBadNumber : mg "BadNumber" = some (.ref A.C_BadNumber)
  kBadNumber : PySem.W.keepIn K (.ref A.C_BadNumber) = true
  xBadNumber : PySem.W.excIn K A.C_BadNumber [.type "ValueError", .type "Exception", .type "BaseException", .type "object"] "ValueError.__new__" = true
  BBadNumber : PySem.W.subIn K (.ref A.C_BadNumber) (.type "BaseException") = some true
  tBadNumber : PySem.W.typeIn K (.ref A.C_BadNumber) = some (.type "type")
end K04
namespace K04
open PySem PySem.Spec PyProof.Rows L2 RE
section
variable {P : Program} {w : World} {K : PySem.W.Frag} {mg : Str → Option Value} {base : Heap} {A : Ad}
theorem ok_is_whole (T : Tx K mg A) : FnOk P w K mg base CX0 1 A.f_is_whole A.d_is_whole ["thing"] (spWhole K) := by
  refine T.Fis_whole.ok sc_is_whole (fun vs H Q E h => ?_) (fun cdv A' outer s H vs Q E hr h => ?_)
  · obtain ⟨x, T, rfl, _⟩ := h
    rfl
  · obtain ⟨x, ty, rfl, hx, q⟩ := h
    refine ⟨_, (pss_one (ps_ret (pe_and (pe_callB call_isi (by rfl) T.bisinstance (by decide +kernel) (pa_cons (pv 0) (pa_cons (pe_bltn (v := .ty "int") (by rfl) T.bint (by decide +kernel) rfl) pa_nil))) (pe_one (pe_not (pe_callB call_isi (by rfl) T.bisinstance (by decide +kernel) (pa_cons (pv 0) (pa_cons (pe_bltn (v := .ty "bool") (by rfl) T.bbool (by decide +kernel) rfl) pa_nil)))))))), ?_⟩
    refine ⟨_, rfl, _, _, _, _, _, rfl, .ty _, hx.ty, kit_int hx.mem, _, rfl, ?_⟩
    revert q
    cases e : (ty == "int" || ty == "bool") with
    | false =>
      intro q
      refine iteF ?_
      have e1 : (ty == "int") = false := (Bool.or_eq_false_iff.mp e).1
      rw [e1] at q
      exact q
    | true =>
      intro q
      refine iteT ?_
      refine ⟨_, rfl, _, _, _, _, _, rfl, .ty _, hx.ty, kit_bool hx.mem, _, rfl, ?_⟩
      have e2 : (!(ty == "bool")) = (ty == "int") := by
        rcases Bool.or_eq_true_iff.mp e with z | z
        · have := eq_of_beq z
          subst this
          decide
        · have := eq_of_beq z
          subst this
          decide
      rw [e2]
      exact q
theorem ok_check_row (T : Tx K mg A) : FnOk P w K mg base (L2.CX P w) 2 A.f_check_row A.d_check_row ["row"] (spCheck K A.C_BadRow) := by
  have Gis_whole : FnOk P w K mg base CX0 1 A.f_is_whole A.d_is_whole ["thing"] (spWhole K) := ok_is_whole T
  refine T.Fcheck_row.okX sc_check_row (fun vs H Q E h => ?_) (fun cdv A' outer s H vs Q E hr h => ?_)
  · obtain ⟨x, rfl, _⟩ := h
    rfl
  · obtain ⟨x, rfl, h⟩ := h
    have h' : (∃ ty, PV K H x ty ∧ (ty == "list") = false ∧ ∀ H', Same H H' → E (.ref A.C_BadRow) none H') ∨
        ∃ (a : Addr) (xs : List V), x = .ref a ∧ SqL K H a xs ∧ (12 < xs.length → ∀ H', Same H H' → E (.ref A.C_BadRow) none H') ∧
        (xs.length ≤ 12 → (∀ y ∈ xs, ∃ T, PV K H y T)) ∧ (xs.length ≤ 12 → xs.all coinB = false → ∀ H', Same H H' → E (.ref A.C_BadRow) none H') ∧ (xs.length ≤ 12 → xs.all coinB = true → ∀ H', Same H H' → Q .non H') := by
      rcases h with ⟨ns, ⟨a, ex, hs, hok⟩, q⟩ | ⟨hn, q⟩
      · refine .inr ⟨a, _, ex, hs, (fun h => ?_), (fun _ y hy => ?_), (fun _ h => ?_), (fun _ _ => q)⟩
        · rw [List.length_map] at h
          have := hok.1
          omega
        · obtain ⟨z, _, rfl⟩ := List.mem_map.mp hy
          exact ⟨_, pv_int z⟩
        · rw [hok.all] at h
          cases h
      · rcases hn with ⟨ty, hp, e⟩ | ⟨a, xs, ex, hs, hb⟩
        · exact .inl ⟨ty, hp, e, q⟩
        · rcases hb with hb | ⟨hb, hty, ha⟩
          · exact .inr ⟨a, xs, ex, hs, (fun _ => q), (fun h => by omega), (fun h => by omega), (fun h => by omega)⟩
          · exact .inr ⟨a, xs, ex, hs, (fun h => by omega), (fun _ => hty), (fun _ _ => q), (fun _ h => by rw [ha] at h; cases h)⟩
    refine ⟨_, (pss_cons (ps_if (PW.pt (pw_or (pt_not (pt_val (pe_callB call_isi (by rfl) T.bisinstance (by decide +kernel) (pa_cons (pv 0) (pa_cons (pe_bltn (v := .ty "list") (by rfl) T.blist (by decide +kernel) rfl) pa_nil))))) (pw_or1 (pt_cmpR op_gt (pe_callB call_len_seq (by rfl) T.blen PySem.boot_len (pa_cons (pv 0) pa_nil)) (pe_glob (v := .int 12) (by rfl) T.gMOST ⟨_, rfl⟩) (nomark _))))) (pss_one (ps_raise rfl (takes_of rfl rfl rfl rfl) (pmk_own PySem.F.excBase_ValueError T.xBadRow T.gBadRow T.kBadRow (raises_own T.BBadRow T.tBadRow) rfl))) pss_nil)
      (pss_one (ps_if (pt_not (pt_val (pe_callB (cr_all rfl) (by rfl) T.ball (by decide +kernel) (pa_cons (pe_lc (own := [("coin", 1)]) (by rfl) sc_check_row.nd (pi_list (pv 0)) (blkOk_by (own := [("coin", 1)]) (N := N_check_row) (sc := defScope s_check_row) (by decide +kernel)) (fun _ _ _ _ _ => (pg_name (i := 1) sc_check_row.nd rfl (Or.inl rfl))) (fun _ _ _ _ _ => pts_nil) (fun _ _ _ _ _ => (pe_and (pe_call Gis_whole (hr.mono (by first | decide | omega)) (by rfl) T.gis_whole T.Fis_whole.kp T.bis_whole .nil pass0 (pa_cons (pv 1) pa_nil)) (pe_one (pe_chain op_le op_le pe_int (pv 1) (pe_glob (v := .int 1000000) (by rfl) T.gGREATEST ⟨_, rfl⟩)))))) pa_nil)))) (pss_one (ps_raise rfl (takes_of rfl rfl rfl rfl) (pmk_own PySem.F.excBase_ValueError T.xBadRow T.gBadRow T.kBadRow (raises_own T.BBadRow T.tBadRow) rfl))) pss_nil))), ?_⟩
    rcases h' with ⟨ty, hp, e, q⟩ | ⟨a, xs, ex, hs, h12, hty, hbad, hgood⟩
    · refine ⟨_, rfl, _, _, _, _, _, rfl, .ty _, hp.ty, kit_list hp.mem, _, rfl, ?_⟩
      rw [e]
      exact iteT (iteT (q H (Same.refl H)))
    · subst ex
      have hp := pv_sq hs
      refine ⟨_, rfl, _, _, _, _, _, rfl, .ty _, hp.ty, kit_list hp.mem, _, rfl, ?_⟩
      refine iteF ?_
      refine ⟨_, rfl, a, xs, rfl, .inl hs, _, _, rfl, rfl, _, rfl, ?_⟩
      refine ite2 (fun c => ?_) (fun c => ?_)
      · have c' : (12 : Int) < (xs.length : Int) := of_decide_eq_true c
        exact h12 (by omega) H (Same.refl H)
      · have c' : ¬ (12 : Int) < (xs.length : Int) := of_decide_eq_false (Bool.eq_false_iff.mpr c)
        have hl : xs.length ≤ 12 := by omega
        refine ⟨_, rfl, a, rfl, ⟨_, hs⟩, fun D nD => lc_list (K := K) (a := a) (xs := xs) (fun i H2 => Same H H2 ∧ H2 D = some (.lst ((xs.take i).map fun y => V.bl (coinB y)))) ⟨same_new nD _, upd_same⟩ (fun i H2 _ h2 => h2.1.seq hs) ?_ ?_⟩
        · rintro i y H2 hi ⟨s2, e2⟩
          obtain ⟨ty, hy⟩ := hty hl y (List.mem_of_getElem? hi)
          refine ⟨rfl, ?_⟩
          have hlt : i < xs.length := (List.getElem?_eq_some_iff.mp hi).1
          have fin : ∀ b, b = coinB y → ∃ acc, H2 D = some (.lst acc) ∧ acc.length < sizeLine ∧ Same H (upd H2 D (.lst (acc ++ [V.bl b]))) ∧ (upd H2 D (.lst (acc ++ [V.bl b]))) D = some (.lst ((xs.take (i + 1)).map fun y => V.bl (coinB y))) := by
            rintro b rfl
            refine ⟨_, e2, ?_, fun c o e => ?_, ?_⟩
            · rw [List.length_map, List.length_take]
              exact size_lt (by omega)
            · rw [upd_ne (ne_of_none e nD)]
              exact s2 c o e
            · rw [upd_same, List.take_add_one, hi, List.map_append]
              rfl
          refine ⟨_, rfl, y, ty, rfl, hy.mono s2, _, rfl, ?_⟩
          cases e : (ty == "int") with
          | false =>
            refine iteF ?_
            refine fin _ ?_
            cases y <;> first | rfl | (have := hy.of_int; subst this; cases e)
          | true =>
            refine iteT ?_
            obtain ⟨z, rfl⟩ := hy.int_of (eq_of_beq e)
            refine ⟨_, rfl, 0, z, rfl, rfl, _, rfl, ?_⟩
            by_cases c0 : (0 : Int) ≤ z
            · rw [decide_eq_true c0]
              refine iteT ?_
              refine ⟨z, 1000000, rfl, rfl, ?_⟩
              exact fin _ (by simp [coinB, c0])
            · rw [decide_eq_false c0]
              refine iteF ?_
              exact fin _ (by simp [coinB, c0])
        · rintro H2 ⟨s2, e2⟩
          rw [List.take_length] at e2
          have e3 : (xs.map fun y => V.bl (coinB y)) = (xs.map coinB).map V.bl := by rw [List.map_map]; rfl
          rw [e3] at e2
          refine ⟨D, _, rfl, SqL.of e2, _, rfl, ?_⟩
          have e4 : (xs.map coinB).all id = xs.all coinB := by rw [List.all_map]; rfl
          rw [e4]
          cases e : xs.all coinB with
          | true => exact iteF (hgood hl e H2 s2)
          | false => exact iteT (hbad hl e H2 s2)
end
end K04
namespace K04
open PySem PySem.Spec PyProof.Rows L2 RE
section
variable {P : Program} {w : World} {K : PySem.W.Frag} {mg : Str → Option Value} {base : Heap} {A : Ad}
theorem step_worth_of (T : Tx K mg A) {n : Nat} (Gworth_of : FnOk P w K mg base CX0 n A.f_worth_of A.d_worth_of ["row", "low", "behind", "known"] (spWorthOf K n)) :
    FnOk P w K mg base CX0 (n + 1) A.f_worth_of A.d_worth_of ["row", "low", "behind", "known"] (spWorthOf K (n + 1)) := by
  refine T.Fworth_of.ok sc_worth_of (fun vs H Q E h => ?_) (fun cdv A' outer s H vs Q E hr h => ?_)
  · obtain ⟨a, d, ns, low, m, i, j, kvs, rfl, _⟩ := h
    rfl
  · obtain ⟨a, d, ns, low, m, i, j, kvs, rfl, ei, ej, hS, hd, hk, h12, hm, hn, q⟩ := h
    refine ⟨_, (pss_cons (ps_if (pt_cmpR op_eq (pv 1) (pv 2) (nomark _)) (pss_one (ps_ret pe_int)) pss_nil)
      (pss_cons (ps_if (pt_cmp (pc_dnotin (hu_of hr) (pe_tup (pa_cons (pv 1) (pa_cons (pv 2) pa_nil))) (pv 3))) (pss_cons (ps_set (i := 4) sc_worth_of.nd rfl (Or.inl rfl) (pe_op op_sub (pe_ix ix_list (pv 0) (pv 1) (fun _ _ => rfl)) (pe_call Gworth_of (hr.mono (by first | decide | omega)) (by rfl) T.gworth_of T.Fworth_of.kp T.bworth_of .nil pass0 (pa_cons (pv 0) (pa_cons (pe_op op_add (pv 1) pe_int) (pa_cons (pv 2) (pa_cons (pv 3) pa_nil)))))))
      (pss_one (ps_dput (hu_of hr) (pv 3) (pe_tup (pa_cons (pv 1) (pa_cons (pv 2) pa_nil))) (pe_callB (call_max2 rfl) (by rfl) T.bmax (by decide +kernel) (pa_cons (pv 4) (pa_cons (pe_op op_sub (pe_ix ix_list (pv 0) (pe_op op_sub (pv 2) pe_int) (fun _ _ => rfl)) (pe_call Gworth_of (hr.mono (by first | decide | omega)) (by rfl) T.gworth_of T.Fworth_of.kp T.bworth_of .nil pass0 (pa_cons (pv 0) (pa_cons (pv 1) (pa_cons (pe_op op_sub (pv 2) pe_int) (pa_cons (pv 3) pa_nil)))))) pa_nil))) rfl))) pss_nil)
      (pss_one (ps_ret (pe_dget (hu_of hr) (pv 3) (pe_tup (pa_cons (pv 1) (pa_cons (pv 2) pa_nil))) (fun _ _ => rfl)))))), ?_⟩
    -- low == behind
    refine ⟨_, rfl, _, rfl, rfl, _, rfl, ?_⟩
    refine ite2 (fun c => ?_) (fun c => ?_)
    · have c' : i = j := V.int.inj (of_decide_eq_true c)
      have m0 : m = 0 := by omega
      subst m0
      have q' := q H kvs (SameBut.refl d H) hd hk
      rw [wv_zero] at q'
      exact q'
    · have c' : ¬ V.int i = V.int j := of_decide_eq_false (Bool.eq_false_iff.mpr c)
      have m0 : m ≠ 0 := fun e => c' (congrArg V.int (by omega))
      obtain ⟨m, rfl⟩ : ∃ m', m = m' + 1 := ⟨m - 1, by omega⟩
      have key : [V.int i, V.int j] = (keyOf low (m + 1)).map kV := by
        show [V.int i, V.int j] = [V.int (low : Int), V.int ((low + (m + 1) : Nat) : Int)]
        rw [ei, ej]
      -- (low, behind) not in known
      refine ⟨_, rfl, _, rfl, (by show 2 ≤ sizeLine; decide), fun p hp => ?_⟩
      have npd : p ≠ d := (ne_of_none hd hp).symm
      have hd1 : (upd H p (.tup [V.int i, V.int j])) d = some (.dT kvs) := by rw [upd_ne npd.symm]; exact hd
      have s1 : Same H (upd H p (.tup [V.int i, V.int j])) := same_new hp _
      refine ⟨_, rfl, d, _, rfl, DGet.t (k := keyOf low (m + 1)) hd1 (by rw [upd_same, key]), _, rfl, ?_⟩
      generalize hH1 : upd H p (.tup [V.int i, V.int j]) = H1 at hd1 s1 ⊢
      -- the last row: known[(low, behind)]
      have last : ∀ (H2 : Hp) (kvs2 : List (List Key × V)), SameBut d H H2 → H2 d = some (.dT kvs2) → Known ns kvs2 → valV kvs2 (keyOf low (m + 1)) = some (.int (wv ns (m + 1) low)) →
          ∀ p2, H2 p2 = none → DGet (upd H2 p2 (.tup [V.int i, V.int j])) d (.ref p2) (some (.int (wv ns (m + 1) low))) ∧ Q (.int (wv ns (m + 1) low)) (upd H2 p2 (.tup [V.int i, V.int j])) := fun H2 kvs2 s2 hd2 hk2 hv p2 np2 => by
        have ne2 : p2 ≠ d := (ne_of_none hd2 np2).symm
        have hd3 : (upd H2 p2 (.tup [V.int i, V.int j])) d = some (.dT kvs2) := by rw [upd_ne ne2.symm]; exact hd2
        refine ⟨?_, q _ kvs2 (s2.trans (.of (same_new np2 _))) hd3 hk2⟩
        have g := DGet.t (k := keyOf low (m + 1)) (b := p2) hd3 (by rw [upd_same, key])
        rw [hv] at g
        exact g
      cases e : valV kvs (keyOf low (m + 1)) with
      | some v =>
        refine iteF ?_
        have ev := hk.get e
        subst ev
        refine ⟨_, rfl, _, rfl, _, rfl, (by show 2 ≤ sizeLine; decide), fun p2 np2 => ?_⟩
        obtain ⟨g, q2⟩ := last H1 kvs (.of s1) hd1 hk e p2 np2
        exact ⟨d, _, rfl, g, q2⟩
      | none =>
        refine iteT ?_
        -- first = row[low] - worth_of(row, low + 1, behind, known)
        have hS1 := s1.seq hS
        refine ⟨_, rfl, _, rfl, a, _, _, _, rfl, rfl, hS1, at_get ei (by omega), _, rfl, _, rfl, _, _, rfl, rfl, _, rfl, _, rfl, ?_⟩
        refine ⟨a, d, ns, low + 1, m, _, _, kvs, rfl, by omega, by omega, hS1, hd1, hk, h12, by omega, by omega, fun H2 kvs2 s2 hd2 hk2 => ?_⟩
        have hS2 := s2.seq hd1 hS1
        refine ⟨_, _, rfl, rfl, ?_⟩
        -- known[(low, behind)] = max(first, ..)
        refine ⟨_, rfl, _, rfl, _, rfl, _, _, rfl, rfl, a, _, _, _, rfl, rfl, hS2, at_get (j := low + m) (by omega) (by omega), _, rfl, _, rfl, _, rfl, _, _, rfl, rfl, _, rfl, ?_⟩
        refine ⟨a, d, ns, low, m, _, _, kvs2, rfl, by omega, by omega, hS2, hd2, hk2, h12, by omega, by omega, fun H3 kvs3 s3 hd3 hk3 => ?_⟩
        refine ⟨_, _, rfl, rfl, _, _, rfl, ?_⟩
        have ew : (if ns.getD (low + m) 0 - wv ns m low > ns.getD low 0 - wv ns m (low + 1) then ns.getD (low + m) 0 - wv ns m low else ns.getD low 0 - wv ns m (low + 1)) = wv ns (m + 1) low := (wv_succ ns m low).symm
        rw [ew]
        refine ⟨_, rfl, _, rfl, _, rfl, (by show 2 ≤ sizeLine; decide), fun p3 np3 => ?_⟩
        have ne3 : p3 ≠ d := (ne_of_none hd3 np3).symm
        have hd4 : (upd H3 p3 (.tup [V.int i, V.int j])) d = some (.dT kvs3) := by rw [upd_ne ne3.symm]; exact hd3
        have hl : kvs3.length < sizeLine := size_lt (by have := hk3.len h12; omega)
        refine ⟨d, _, rfl, DPut.t (k := keyOf low (m + 1)) hd4 (by rw [upd_same, key]) hl, ?_⟩
        have s4 : SameBut d H (upd (upd H3 p3 (.tup [V.int i, V.int j])) d (.dT (putK kvs3 (keyOf low (m + 1)) (.int (wv ns (m + 1) low))))) := ((((SameBut.of s1).trans s2).trans s3).trans (.of (same_new np3 _))).trans (.put _)
        refine ⟨_, rfl, _, rfl, _, rfl, (by show 2 ≤ sizeLine; decide), fun p5 np5 => ?_⟩
        obtain ⟨g, q2⟩ := last _ _ s4 upd_same (hk3.put hm) (by rw [valV_put, if_pos rfl]) p5 np5
        exact ⟨d, _, rfl, g, q2⟩
theorem worth_of_all (T : Tx K mg A) : ∀ n : Nat, FnOk P w K mg base CX0 n A.f_worth_of A.d_worth_of ["row", "low", "behind", "known"] (spWorthOf K n)
  | 0 => by
    have no : ∀ vs H Q E, ¬ spWorthOf K 0 vs H Q E := fun vs H Q E h => by
      obtain ⟨a, d, ns, low, m, i, j, kvs, _, _, _, _, _, _, _, _, h0, _⟩ := h
      omega
    exact ⟨fun vs H Q E h => absurd h (no vs H Q E), fun A outer s H args us vs Q E _ _ _ _ h => absurd h (no vs H Q E)⟩
  | n + 1 => step_worth_of T (worth_of_all T n)
theorem ok_worth_of (T : Tx K mg A) : FnOk P w K mg base CX0 13 A.f_worth_of A.d_worth_of ["row", "low", "behind", "known"] (spWorthOf K 13) := worth_of_all T 13
theorem ok_after (T : Tx K mg A) : FnOk P w K mg base CX0 1 A.f_after A.d_after ["row", "low", "behind", "side"] (spAfter K) := by
  refine T.Fafter.ok sc_after (fun vs H Q E h => ?_) (fun cdv A' outer s H vs Q E hr h => ?_)
  · obtain ⟨a, ns, low, m, i, j, b, rfl, _⟩ := h
    rfl
  · obtain ⟨a, ns, low, m, i, j, b, rfl, ei, ej, hS, hm, q⟩ := h
    refine ⟨_, (pss_cons (ps_if (pt_cmpR op_eq (pv 3) (pe_glob (v := .str "left") (by rfl) T.gLEFT ⟨_, rfl⟩) (nomark _)) (pss_one (ps_ret (pe_tup (pa_cons (pe_ix ix_list (pv 0) (pv 1) (fun _ _ => rfl)) (pa_cons (pe_op op_add (pv 1) pe_int) (pa_cons (pv 2) pa_nil)))))) pss_nil)
      (pss_one (ps_ret (pe_tup (pa_cons (pe_ix ix_list (pv 0) (pe_op op_sub (pv 2) pe_int) (fun _ _ => rfl)) (pa_cons (pv 1) (pa_cons (pe_op op_sub (pv 2) pe_int) pa_nil))))))), ?_⟩
    refine ⟨_, rfl, rfl, _, rfl, ?_⟩
    cases b with
    | true =>
      have e : decide (V.str (sideS true) = V.str "left") = true := decide_eq_true rfl
      rw [e]
      refine iteT ?_
      refine ⟨_, rfl, _, rfl, a, _, _, _, rfl, rfl, hS, at_get ei (by omega), _, rfl, _, _, rfl, rfl, _, rfl, (by show 3 ≤ sizeLine; decide), fun p hp => ?_⟩
      have q' := q p hp
      have e1 : i + 1 = ((low + 1 : Nat) : Int) := by omega
      have e2 : j = ((low + 1 + m : Nat) : Int) := by omega
      show Q (.ref p) (upd H p (.tup [V.int (ns.getD low 0), V.int (i + 1), V.int j]))
      rw [e1, e2]
      exact q'
    | false =>
      have e : decide (V.str (sideS false) = V.str "left") = false := decide_eq_false (fun z => absurd (V.str.inj z) (by decide +kernel))
      rw [e]
      refine iteF ?_
      refine ⟨_, rfl, _, rfl, _, _, rfl, rfl, a, _, _, _, rfl, rfl, hS, at_get (j := low + m) (by omega) (by omega), _, rfl, _, rfl, _, _, rfl, rfl, (by show 3 ≤ sizeLine; decide), fun p hp => ?_⟩
      have q' := q p hp
      have e2 : j - 1 = ((low + m : Nat) : Int) := by omega
      show Q (.ref p) (upd H p (.tup [V.int (ns.getD (low + m) 0), V.int i, V.int (j - 1)]))
      rw [ei, e2]
      exact q'
end
end K04
namespace K04
open PySem PySem.Spec PyProof.Rows L2 RE
section
variable {P : Program} {w : World} {K : PySem.W.Frag} {mg : Str → Option Value} {base : Heap} {A : Ad}
theorem ok_best_of (T : Tx K mg A) : FnOk P w K mg base CX0 14 A.f_best_of A.d_best_of ["row", "low", "behind", "known"] (spBestOf K) := by
  have Gworth_of : FnOk P w K mg base CX0 13 A.f_worth_of A.d_worth_of ["row", "low", "behind", "known"] (spWorthOf K 13) := ok_worth_of T
  have Gafter : FnOk P w K mg base CX0 1 A.f_after A.d_after ["row", "low", "behind", "side"] (spAfter K) := ok_after T
  refine T.Fbest_of.ok sc_best_of (fun vs H Q E h => ?_) (fun cdv A' outer s H vs Q E hr h => ?_)
  · obtain ⟨a, d, ns, low, m, i, j, kvs, rfl, _⟩ := h
    rfl
  · obtain ⟨a, d, ns, low, m, i, j, kvs, rfl, ei, ej, hS, hd, hk, h12, hm, q⟩ := h
    refine ⟨_, (pss_cons (ps_par (i := 4) (j := 5) rfl sc_best_of.nd rfl rfl (by decide) rfl rfl (pa_cons (pe_call Gworth_of (hr.mono (by first | decide | omega)) (by rfl) T.gworth_of T.Fworth_of.kp T.bworth_of .nil pass0 (pa_cons (pv 0) (pa_cons (pv 1) (pa_cons (pv 2) (pa_cons (pv 3) pa_nil))))) (pa_cons (pe_lst pa_nil) pa_nil)) (by rfl))
      (pss_cons (ps_for PassesOwn.never rfl (pi_tup (pe_tup (pa_cons (pe_glob (v := .str "left") (by rfl) T.gLEFT ⟨_, rfl⟩) (pa_cons (pe_glob (v := .str "right") (by rfl) T.gRIGHT ⟨_, rfl⟩) pa_nil)))) (pg_name (i := 6) sc_best_of.nd rfl (Or.inl rfl))
      (pss_cons (ps_asg (pe_call Gafter (hr.mono (by first | decide | omega)) (by rfl) T.gafter T.Fafter.kp T.bafter .nil pass0 (pa_cons (pv 0) (pa_cons (pv 1) (pa_cons (pv 2) (pa_cons (pv 6) pa_nil))))) (pg_tup rfl (pgs_cons (pg_name (i := 7) sc_best_of.nd rfl (Or.inl rfl)) (pgs_cons (pg_name (i := 8) sc_best_of.nd rfl (Or.inl rfl)) (pgs_cons (pg_name (i := 9) sc_best_of.nd rfl (Or.inl rfl)) pgs_nil)))))
      (pss_one (ps_if (pt_cmpR op_eq (pe_op op_sub (pv 7) (pe_call Gworth_of (hr.mono (by first | decide | omega)) (by rfl) T.gworth_of T.Fworth_of.kp T.bworth_of .nil pass0 (pa_cons (pv 0) (pa_cons (pv 8) (pa_cons (pv 9) (pa_cons (pv 3) pa_nil)))))) (pv 4) (nomark _)) (pss_one (ps_expr (pe_bm PySem.F.plainAttrs_list PySem.F.slot_list_append PySem.F.type_list_append mt_append (pv 5) (pa_cons (pv 6) pa_nil)))) pss_nil))))
      (pss_one (ps_ret (pv 5))))), ?_⟩
    -- due, found = worth_of(row, low, behind, known), []
    refine ⟨_, rfl, _, rfl, _, rfl, _, rfl, ?_⟩
    refine ⟨a, d, ns, low, m + 1, _, _, kvs, rfl, ei, ej, hS, hd, hk, h12, hm, by omega, fun H1 kvs1 s1 hd1 hk1 => ?_⟩
    refine ⟨Nat.zero_le _, fun f nf => ⟨_, _, rfl, ?_⟩⟩
    have nfd : f ≠ d := (ne_of_none hd1 nf).symm
    have nfH : H f = none := by
      cases z : H f with
      | none => rfl
      | some o =>
        have := s1 f o nfd z
        rw [nf] at this
        cases this
    -- for side in (LEFT, RIGHT)
    refine ⟨(by show 2 ≤ sizeLine; decide), fun t nt => ⟨t, rfl, ⟨_, SqT.of upd_same⟩, ?_⟩⟩
    have ntf : f ≠ t := ne_of_none upd_same nt
    have hd1' : (upd H1 f (.lst [])) d = some (.dT kvs1) := by rw [upd_ne nfd.symm]; exact hd1
    have ntd : d ≠ t := ne_of_none hd1' nt
    refine for_tup (K := K) (a := t) (xs := [V.str "left", V.str "right"]) (fun k σ H2 => ∃ kvs2 x6 x7 x8 x9, σ = [some (.ref a), some (.int i), some (.int j), some (.ref d), some (.int (wv ns (m + 1) low)), some (.ref f), x6, x7, x8, x9] ∧
      SameBut d H H2 ∧ H2 d = some (.dT kvs2) ∧ Known ns kvs2 ∧ H2 f = some (.lst ((([true, false].take k).filter (bestB ns low m)).map fun b => V.str (sideS b))) ∧ H2 t = some (.tup [V.str "left", V.str "right"])) ?_ (fun k σ H2 _ ⟨_, _, _, _, _, _, _, _, _, _, ht⟩ => SqT.of ht) ?_ ?_
    · refine ⟨kvs1, none, none, none, none, rfl, fun b o nb e => ?_, ?_, hk1, ?_, upd_same⟩
      · have e1 := s1 b o nb e
        have n1 : b ≠ f := ne_of_none e nfH
        have e2 : (upd H1 f (.lst [])) b = some o := by rw [upd_ne n1]; exact e1
        rw [upd_ne (ne_of_none e2 nt)]
        exact e2
      · rw [upd_ne ntd]
        exact hd1'
      · rw [upd_ne ntf, upd_same]
        rfl
    · rintro k y σ H2 hi ⟨kvs2, x6, x7, x8, x9, rfl, s2, hd2, hk2, hf2, ht2⟩
      obtain ⟨b, rfl, hb⟩ : ∃ b, y = V.str (sideS b) ∧ [true, false][k]? = some b := by
        match k, hi with
        | 0, hi => exact ⟨true, (Option.some.inj hi).symm, rfl⟩
        | 1, hi => exact ⟨false, (Option.some.inj hi).symm, rfl⟩
        | k + 2, hi => simp at hi
      have hS2 := s2.seq hd hS
      -- coin, left, right = after(row, low, behind, side)
      refine ⟨_, rfl, _, rfl, _, rfl, _, rfl, ?_⟩
      refine ⟨a, ns, low, m, _, _, b, rfl, ei, ej, hS2, hm, fun p np => ?_⟩
      refine ⟨p, _, rfl, SqT.of upd_same, rfl, _, _, rfl, _, _, rfl, _, _, rfl, rfl, ?_⟩
      have npd : d ≠ p := ne_of_none hd2 np
      have hd3 : (upd H2 p (.tup [.int (coinOf ns b low m), .int (lowOf b low : Nat), .int ((lowOf b low + m : Nat) : Int)])) d = some (.dT kvs2) := by rw [upd_ne npd]; exact hd2
      have s3 : Same H2 (upd H2 p (.tup [.int (coinOf ns b low m), .int (lowOf b low : Nat), .int ((lowOf b low + m : Nat) : Int)])) := same_new np _
      -- if coin - worth_of(row, left, right, known) == due
      refine ⟨_, rfl, _, rfl, _, rfl, _, rfl, _, rfl, ?_⟩
      refine ⟨a, d, ns, lowOf b low, m, _, _, kvs2, rfl, rfl, rfl, s3.seq hS2, hd3, hk2, h12, by have := lowOf_le b low m; omega, by omega, fun H4 kvs4 s4 hd4 hk4 => ?_⟩
      refine ⟨_, _, rfl, rfl, _, rfl, rfl, _, rfl, ?_⟩
      have s24 : SameBut d H2 H4 := (SameBut.of s3).trans s4
      have hf4 := s24 f _ nfd hf2
      have ht4 := s24 t _ ntd.symm ht2
      have cond : decide (V.int (coinOf ns b low m - wv ns m (lowOf b low)) = V.int (wv ns (m + 1) low)) = bestB ns low m b := by
        unfold bestB
        by_cases c : coinOf ns b low m - wv ns m (lowOf b low) = wv ns (m + 1) low
        · rw [decide_eq_true c, decide_eq_true (congrArg V.int c)]
        · rw [decide_eq_false c, decide_eq_false (fun z => c (V.int.inj z))]
      have tk : ([true, false].take (k + 1)).filter (bestB ns low m) = ([true, false].take k).filter (bestB ns low m) ++ (if bestB ns low m b = true then [b] else []) := by
        rw [List.take_add_one, hb, List.filter_append]
        congr 1
        by_cases c : bestB ns low m b = true
        · rw [if_pos c]
          simp [c]
        · rw [if_neg c]
          simp [c]
      rw [cond]
      cases c : bestB ns low m b with
      | true =>
        refine iteT ?_
        refine ⟨_, rfl, .inl ⟨rfl, _, SqL.of hf4⟩, _, rfl, f, _, _, rfl, rfl, hf4, ?_, ?_⟩
        · rw [List.length_map]
          have z := List.length_filter_le (bestB ns low m) ([true, false].take k)
          rw [List.length_take] at z
          exact size_lt (by have : [true, false].length = 2 := rfl; omega)
        · refine ⟨kvs4, _, _, _, _, rfl, fun b' o nb e => ?_, ?_, hk4, ?_, ?_⟩
          · rw [upd_ne (ne_of_none e nfH)]
            exact s24 b' o nb (s2 b' o nb e)
          · rw [upd_ne nfd.symm]
            exact hd4
          · rw [upd_same, tk, c, if_pos rfl, List.map_append]
            rfl
          · rw [upd_ne ntf.symm]
            exact ht4
      | false =>
        refine iteF ?_
        refine ⟨kvs4, _, _, _, _, rfl, s2.trans s24, hd4, hk4, ?_, ht4⟩
        rw [tk, c, if_neg Bool.false_ne_true, List.append_nil]
        exact hf4
    · rintro σ H2 ⟨kvs2, x6, x7, x8, x9, rfl, s2, hd2, hk2, hf2, ht2⟩
      refine ⟨_, rfl, ?_⟩
      refine q H2 kvs2 f s2 hd2 hk2 nfH ?_
      rw [ends_filter]
      exact hf2
end
end K04
namespace K04
open PySem PySem.Spec PyProof.Rows L2 RE
section
variable {P : Program} {w : World} {K : PySem.W.Frag} {mg : Str → Option Value} {base : Heap} {A : Ad}
theorem ok_is_side (T : Tx K mg A) : FnOk P w K mg base CX0 1 A.f_is_side A.d_is_side ["thing"] (spSide K) := by
  refine T.Fis_side.ok sc_is_side (fun vs H Q E h => ?_) (fun cdv A' outer s H vs Q E hr h => ?_)
  · obtain ⟨x, T, rfl, _⟩ := h
    rfl
  · obtain ⟨x, ty, rfl, hx, q⟩ := h
    refine ⟨_, (pss_one (ps_ret (pe_and (pe_callB call_isi (by rfl) T.bisinstance (by decide +kernel) (pa_cons (pv 0) (pa_cons (pe_bltn (v := .ty "str") (by rfl) T.bstr (by decide +kernel) rfl) pa_nil))) (pe_one (pe_cmpR op_in_seq (pv 0) (pe_tup (pa_cons (pe_glob (v := .str "left") (by rfl) T.gLEFT ⟨_, rfl⟩) (pa_cons (pe_glob (v := .str "right") (by rfl) T.gRIGHT ⟨_, rfl⟩) pa_nil))) (by rfl)))))), ?_⟩
    refine ⟨_, rfl, _, _, _, _, _, rfl, .ty _, hx.ty, kit_str hx.mem, _, rfl, ?_⟩
    cases e : (ty == "str") with
    | false =>
      refine iteF ?_
      have z : isSideB x = false := by
        cases x <;> first | rfl | (have := hx.of_str; subst this; cases e)
      have q' := q H (Same.refl H)
      rw [z] at q'
      exact q'
    | true =>
      refine iteT ?_
      obtain ⟨z, rfl⟩ := hx.str_of (eq_of_beq e)
      refine ⟨_, rfl, (by show 2 ≤ sizeLine; decide), fun t nt => ?_⟩
      refine ⟨t, _, rfl, .inr (SqT.of upd_same), rfl, rfl, ?_⟩
      have e2 : (if false = true then !inV (V.str z) [V.str "left", V.str "right"] else inV (V.str z) [V.str "left", V.str "right"]) = isSideB (.str z) := by
        rw [if_neg Bool.false_ne_true]
        show ((("left" : Str) == z) || ((("right" : Str) == z) || false)) = (decide (z = "left") || decide (z = "right"))
        rw [Bool.or_false]
        congr 1
        · by_cases c : z = "left"
          · subst c
            simp
          · rw [decide_eq_false c]
            exact beq_eq_false_iff_ne.mpr (fun y => c y.symm)
        · by_cases c : z = "right"
          · subst c
            simp
          · rw [decide_eq_false c]
            exact beq_eq_false_iff_ne.mpr (fun y => c y.symm)
      have q' := q _ (same_new nt (.tup [V.str "left", V.str "right"]))
      rw [← e2] at q'
      exact q'
theorem ok_led (T : Tx K mg A) : FnOk P w K mg base (L2.CX P w) 3 A.f_led A.d_led ["row", "takes"] (spLed K A.C_BadRow A.C_BadTakes) := by
  have Gcheck_row : FnOk P w K mg base (L2.CX P w) 2 A.f_check_row A.d_check_row ["row"] (spCheck K A.C_BadRow) := ok_check_row T
  have Gis_side : FnOk P w K mg base CX0 1 A.f_is_side A.d_is_side ["thing"] (spSide K) := ok_is_side T
  have Gafter : FnOk P w K mg base CX0 1 A.f_after A.d_after ["row", "low", "behind", "side"] (spAfter K) := ok_after T
  refine T.Fled.okX sc_led (fun vs H Q E h => ?_) (fun cdv A' outer s H vs Q E hr h => ?_)
  · obtain ⟨x, t, rfl, _⟩ := h
    rfl
  · obtain ⟨x, t, rfl, h⟩ := h
    refine ⟨_, (pss_cons (ps_expr (pe_call Gcheck_row (hr.mono (by first | decide | omega)) (by rfl) T.gcheck_row T.Fcheck_row.kp T.bcheck_row .nil (passes_call (takes_of rfl rfl rfl rfl) (fun _ _ _ _ h => h)) (pa_cons (pv 0) pa_nil)))
      (pss_cons (ps_if (PW.pt (pw_or (pt_not (pt_val (pe_callB call_isi (by rfl) T.bisinstance (by decide +kernel) (pa_cons (pv 1) (pa_cons (pe_bltn (v := .ty "list") (by rfl) T.blist (by decide +kernel) rfl) pa_nil))))) (pw_or (pt_cmpR op_gt (pe_callB call_len_seq (by rfl) T.blen PySem.boot_len (pa_cons (pv 1) pa_nil)) (pe_callB call_len_seq (by rfl) T.blen PySem.boot_len (pa_cons (pv 0) pa_nil)) (nomark _)) (pw_or1 (pt_not (pt_val (pe_callB (cr_all rfl) (by rfl) T.ball (by decide +kernel) (pa_cons (pe_lc (own := [("side", 2)]) (by rfl) sc_led.nd (pi_list (pv 1)) (blkOk_by (own := [("side", 2)]) (N := N_led) (sc := defScope s_led) (by decide +kernel)) (fun _ _ _ _ _ => (pg_name (i := 2) sc_led.nd rfl (Or.inl rfl))) (fun _ _ _ _ _ => pts_nil) (fun _ _ _ _ _ => (pe_call Gis_side (hr.mono (by first | decide | omega)) (by rfl) T.gis_side T.Fis_side.kp T.bis_side .nil pass0 (pa_cons (pv 2) pa_nil)))) pa_nil)))))))) (pss_one (ps_raise rfl (takes_of rfl rfl rfl rfl) (pmk_own PySem.F.excBase_ValueError T.xBadTakes T.gBadTakes T.kBadTakes (raises_own T.BBadTakes T.tBadTakes) rfl))) pss_nil)
      (pss_cons (ps_par3 (i := 3) (j := 4) (l := 5) rfl sc_led.nd rfl rfl rfl (by decide) (by decide) (by decide) rfl rfl rfl (pa_cons pe_int (pa_cons (pe_callB call_len_seq (by rfl) T.blen PySem.boot_len (pa_cons (pv 0) pa_nil)) (pa_cons (pe_lst (pa_cons pe_int (pa_cons pe_int pa_nil))) pa_nil))) (by rfl))
      (pss_cons (ps_for (passes_of rfl) rfl (pi_enum (by rfl) T.benumerate (pa_cons (pv 1) pa_nil)) (pg_tup rfl (pgs_cons (pg_name (i := 6) sc_led.nd rfl (Or.inl rfl)) (pgs_cons (pg_name (i := 2) sc_led.nd rfl (Or.inl rfl)) pgs_nil)))
      (pss_cons (ps_asg (pe_call Gafter (hr.mono (by first | decide | omega)) (by rfl) T.gafter T.Fafter.kp T.bafter .nil pass0 (pa_cons (pv 0) (pa_cons (pv 3) (pa_cons (pv 4) (pa_cons (pv 2) pa_nil))))) (pg_tup rfl (pgs_cons (pg_name (i := 7) sc_led.nd rfl (Or.inl rfl)) (pgs_cons (pg_name (i := 3) sc_led.nd rfl (Or.inl rfl)) (pgs_cons (pg_name (i := 4) sc_led.nd rfl (Or.inl rfl)) pgs_nil)))))
      (pss_one (ps_augS (pv 5) (pe_op op_mod (pv 6) pe_int) get_list (pv 7) ip_add set_list))))
      (pss_one (ps_ret (pe_tup (pa_cons (pe_ix ix_list (pv 5) pe_int (fun _ _ => rfl)) (pa_cons (pe_ix ix_list (pv 5) pe_int (fun _ _ => rfl)) (pa_cons (pe_slice sl_list (pv 0) (po_some (pv 3)) (po_some (pv 4))) pa_nil)))))))))), ?_⟩
    refine ⟨_, rfl, ?_⟩
    rcases h with ⟨hn, q⟩ | ⟨ns, hrow, h⟩
    · exact ⟨x, rfl, .inr ⟨hn, q⟩⟩
    refine ⟨x, rfl, .inl ⟨ns, hrow, fun H1 s1 => ?_⟩⟩
    obtain ⟨r, rfl, hS, hok⟩ := hrow
    have hS1 := s1.seq hS
    have el : (ns.map V.int).length = ns.length := List.length_map _
    -- what is handed in as takes
    have h' : (∃ ty, PV K H t ty ∧ (ty == "list") = false ∧ ∀ H', Same H H' → E (.ref A.C_BadTakes) none H') ∨
        ∃ (a : Addr) (xs : List V), t = .ref a ∧ SqL K H a xs ∧ (ns.length < xs.length → ∀ H', Same H H' → E (.ref A.C_BadTakes) none H') ∧
        (xs.length ≤ ns.length → (∀ y ∈ xs, ∃ T, PV K H y T)) ∧ (xs.length ≤ ns.length → xs.all isSideB = false → ∀ H', Same H H' → E (.ref A.C_BadTakes) none H') ∧ (xs.length ≤ ns.length → xs.all isSideB = true → ∃ bs, xs = sidesV bs ∧
          ∀ H' p l, Same H H' → H p = none → H l = none → H' p = some (.tup [.int (ledR ns ns.length 0 bs).1, .int (ledR ns ns.length 0 bs).2, .ref l]) → H' l = some (.lst ((stretch ns (ledLow 0 bs) (ns.length - bs.length)).map V.int)) → Q (.ref p) H') := by
      rcases h with ⟨hn, q⟩ | ⟨a, bs, ex, hs, hl, q⟩
      · rcases hn with ⟨ty, hp, e⟩ | ⟨a, xs, ex, hs, hb⟩
        · exact .inl ⟨ty, hp, e, q⟩
        · rcases hb with hb | ⟨hb, hty, ha⟩
          · exact .inr ⟨a, xs, ex, hs, (fun _ => q), (fun h => by omega), (fun h => by omega), (fun h => by omega)⟩
          · exact .inr ⟨a, xs, ex, hs, (fun h => by omega), (fun _ => hty), (fun _ _ => q), (fun _ h => by rw [ha] at h; cases h)⟩
      · refine .inr ⟨a, _, ex, hs, (fun h => ?_), (fun _ y hy => ?_), (fun _ h => ?_), (fun _ _ => ⟨bs, rfl, q⟩)⟩
        · rw [sidesV_len] at h
          omega
        · obtain ⟨b, _, rfl⟩ := List.mem_map.mp hy
          exact ⟨_, pv_str _⟩
        · rw [all_sides] at h
          cases h
    rcases h' with ⟨ty, hp, e, q⟩ | ⟨a, xs, ex, hs, hlong, hty, hbad, hgood⟩
    · have hp1 := hp.mono s1
      refine ⟨_, rfl, _, _, _, _, _, rfl, .ty _, hp1.ty, kit_list hp1.mem, _, rfl, ?_⟩
      rw [e]
      exact iteT (iteT (q H1 s1))
    subst ex
    have hs1 := s1.seq hs
    have hp := pv_sq hs1
    refine ⟨_, rfl, _, _, _, _, _, rfl, .ty _, hp.ty, kit_list hp.mem, _, rfl, ?_⟩
    refine iteF ?_
    refine ⟨_, rfl, a, xs, rfl, .inl hs1, _, rfl, r, _, rfl, .inl hS1, _, _, rfl, rfl, _, rfl, ?_⟩
    by_cases c : ns.length < xs.length
    · refine iteTb (decide_eq_true (by rw [el]; omega)) ?_
      exact iteT (hlong c H1 s1)
    refine iteFb (decide_eq_false (by rw [el]; omega)) ?_
    have hl : xs.length ≤ ns.length := by omega
    have hn12 := hok.1
    refine ⟨_, rfl, a, rfl, ⟨_, hs1⟩, fun D nD => lc_list (K := K) (a := a) (xs := xs) (fun i H2 => Same H1 H2 ∧ H2 D = some (.lst ((xs.take i).map fun y => V.bl (isSideB y)))) ⟨same_new nD _, upd_same⟩ (fun i H2 _ h2 => h2.1.seq hs1) ?_ ?_⟩
    · rintro i y H2 hi ⟨s2, e2⟩
      obtain ⟨ty, hy⟩ := hty hl y (List.mem_of_getElem? hi)
      refine ⟨rfl, ?_⟩
      have hlt : i < xs.length := (List.getElem?_eq_some_iff.mp hi).1
      refine ⟨_, rfl, y, ty, rfl, hy.mono (s1.trans s2), fun H3 s3 => ?_⟩
      refine ⟨_, s3 _ _ e2, ?_, fun c o e => ?_, ?_⟩
      · rw [List.length_map, List.length_take]
        exact size_lt (by omega)
      · rw [upd_ne (ne_of_none e nD)]
        exact s3 c o (s2 c o e)
      · rw [upd_same, List.take_add_one, hi, List.map_append]
        rfl
    · rintro H2 ⟨s2, e2⟩
      rw [List.take_length] at e2
      have e3 : (xs.map fun y => V.bl (isSideB y)) = (xs.map isSideB).map V.bl := by rw [List.map_map]; rfl
      rw [e3] at e2
      refine ⟨D, _, rfl, SqL.of e2, _, rfl, ?_⟩
      have e4 : (xs.map isSideB).all id = xs.all isSideB := by rw [List.all_map]; rfl
      rw [e4]
      cases e : xs.all isSideB with
      | false => exact iteT (hbad hl e H2 (s1.trans s2))
      | true =>
        refine iteF ?_
        obtain ⟨bs, rfl, q⟩ := hgood hl e
        rw [sidesV_len] at hl
        have s12 := s1.trans s2
        -- low, behind, sums = 0, len(row), [0, 0]
        refine ⟨_, rfl, r, _, rfl, .inl (s12.seq hS), (by show 2 ≤ sizeLine; decide), fun u nu => ⟨_, _, _, rfl, ?_⟩⟩
        have s3 := same_new nu (.lst [V.int 0, V.int 0])
        have hs3 := s3.seq (s2.seq hs1)
        refine ⟨_, rfl, a, _, rfl, hs3, ?_⟩
        refine for_enum (K := K) (a := a) (xs := sidesV bs) (fun i σ H4 => ∃ (x2 : Option V) (low n : Nat) (x6 x7 : Option V) (x y : Int), σ = [some (.ref r), some (.ref a), x2, some (.int (low : Int)), some (.int ((low + n : Nat) : Int)), some (.ref u), x6, x7] ∧
          Same H2 H4 ∧ H4 u = some (.lst [V.int x, V.int y]) ∧ low + n ≤ ns.length ∧ n + i = ns.length ∧ ledLow low (bs.drop i) = ledLow 0 bs ∧
          (i % 2 = 0 → x + (ledR ns n low (bs.drop i)).1 = (ledR ns ns.length 0 bs).1 ∧ y + (ledR ns n low (bs.drop i)).2 = (ledR ns ns.length 0 bs).2) ∧
          (i % 2 = 1 → y + (ledR ns n low (bs.drop i)).1 = (ledR ns ns.length 0 bs).2 ∧ x + (ledR ns n low (bs.drop i)).2 = (ledR ns ns.length 0 bs).1)) ?_ ?_ ?_ ?_
        · refine ⟨none, 0, ns.length, none, none, 0, 0, ?_, s3, upd_same, by omega, rfl, rfl, fun _ => ⟨by rw [List.drop_zero]; omega, by rw [List.drop_zero]; omega⟩, fun h => by omega⟩
          rw [el, Nat.zero_add]
          rfl
        · rintro i σ H4 ⟨x2, low, n, x6, x7, x, y, rfl, s4, _⟩
          exact s4.seq (s2.seq hs1)
        · rintro i y T σ H4 hi ⟨x2, low, n, x6, x7, x, yy, rfl, s4, hu4, hn, hni, hlow, hev, hod⟩ nT
          have hlt : i < bs.length := by
            have := (List.getElem?_eq_some_iff.mp hi).1
            rw [sidesV_len] at this
            exact this
          have hy : y = V.str (sideS bs[i]) := by
            unfold sidesV at hi
            rw [List.getElem?_map, List.getElem?_eq_getElem hlt] at hi
            exact (Option.some.inj hi).symm
          subst hy
          have hdrop : bs.drop i = bs[i] :: bs.drop (i + 1) := List.drop_eq_getElem_cons hlt
          obtain ⟨m, rfl⟩ : ∃ m, n = m + 1 := ⟨n - 1, by omega⟩
          generalize hb : bs[i] = b at *
          have s5 := same_new nT (.tup [.int (i : Nat), V.str (sideS b)])
          -- at, side
          refine ⟨T, _, rfl, SqT.of upd_same, rfl, _, _, rfl, _, _, rfl, rfl, ?_⟩
          -- coin, low, behind = after(row, low, behind, side)
          have hS5 := (s12.trans (s4.trans s5)).seq hS
          refine ⟨_, rfl, _, rfl, _, rfl, _, rfl, ?_⟩
          refine ⟨r, ns, low, m, _, _, b, rfl, rfl, rfl, hS5, hn, fun p np => ?_⟩
          have s6 := same_new np (.tup [.int (coinOf ns b low m), .int (lowOf b low : Nat), .int ((lowOf b low + m : Nat) : Int)])
          refine ⟨p, _, rfl, SqT.of upd_same, rfl, _, _, rfl, _, _, rfl, _, _, rfl, rfl, ?_⟩
          have hu6 := s6 _ _ (s5 _ _ hu4)
          rw [hdrop] at hlow hev hod
          rw [ledR_cons] at hev hod
          -- sums[at % 2] += coin
          rcases Nat.mod_two_eq_zero_or_one i with par | par
          · have ei : ((i : Nat) : Int) % 2 = ((0 : Nat) : Int) := by omega
            obtain ⟨h1, h2⟩ := hev par
            refine ⟨_, rfl, _, rfl, _, _, rfl, rfl, (by show (0 : Int) < 2; decide), u, _, _, .int x, rfl, rfl, SqL.of hu6, (by rw [ei]; exact atI_nat rfl), _, rfl, _, _, rfl, rfl, u, _, _, 0, rfl, rfl, hu6, (by rw [ei]; rfl), ?_⟩
            refine ⟨_, lowOf b low, m, _, _, _, yy, rfl, fun c o e => ?_, upd_same, by have := lowOf_le b low m; omega, by omega, hlow, fun h => by omega, fun _ => ⟨?_, ?_⟩⟩
            · rw [upd_ne (ne_of_none e nu)]
              exact s6 c o (s5 c o (s4 c o e))
            · show yy + (ledR ns m (lowOf b low) (bs.drop (i + 1))).1 = _
              exact h2
            · show (x + coinOf ns b low m) + (ledR ns m (lowOf b low) (bs.drop (i + 1))).2 = _
              have h1' : x + (coinOf ns b low m + (ledR ns m (lowOf b low) (bs.drop (i + 1))).2) = (ledR ns ns.length 0 bs).1 := h1
              omega
          · have ei : ((i : Nat) : Int) % 2 = ((1 : Nat) : Int) := by omega
            obtain ⟨h1, h2⟩ := hod par
            refine ⟨_, rfl, _, rfl, _, _, rfl, rfl, (by show (0 : Int) < 2; decide), u, _, _, .int yy, rfl, rfl, SqL.of hu6, (by rw [ei]; exact atI_nat rfl), _, rfl, _, _, rfl, rfl, u, _, _, 1, rfl, rfl, hu6, (by rw [ei]; rfl), ?_⟩
            refine ⟨_, lowOf b low, m, _, _, x, _, rfl, fun c o e => ?_, upd_same, by have := lowOf_le b low m; omega, by omega, hlow, fun _ => ⟨?_, ?_⟩, fun h => by omega⟩
            · rw [upd_ne (ne_of_none e nu)]
              exact s6 c o (s5 c o (s4 c o e))
            · show x + (ledR ns m (lowOf b low) (bs.drop (i + 1))).1 = _
              exact h2
            · show (yy + coinOf ns b low m) + (ledR ns m (lowOf b low) (bs.drop (i + 1))).2 = _
              have h1' : yy + (coinOf ns b low m + (ledR ns m (lowOf b low) (bs.drop (i + 1))).2) = (ledR ns ns.length 0 bs).2 := h1
              omega
        · rintro σ H4 ⟨x2, low, n, x6, x7, x, y, rfl, s4, hu4, hn, hni, hlow, hev, hod⟩
          rw [sidesV_len] at hni hlow hev hod
          rw [List.drop_length] at hlow hev hod
          rw [ledR_nil] at hev hod
          have hx : x = (ledR ns ns.length 0 bs).1 ∧ y = (ledR ns ns.length 0 bs).2 := by
            rcases Nat.mod_two_eq_zero_or_one bs.length with par | par
            · obtain ⟨h1, h2⟩ := hev par
              exact ⟨by have : x + 0 = _ := h1; omega, by have : y + 0 = _ := h2; omega⟩
            · obtain ⟨h1, h2⟩ := hod par
              exact ⟨by have : x + 0 = _ := h2; omega, by have : y + 0 = _ := h1; omega⟩
          have hlow' : low = ledLow 0 bs := hlow
          have hn' : n = ns.length - bs.length := by omega
          have sH4 := s12.trans s4
          -- return (sums[0], sums[1], row[low:behind])
          refine ⟨_, rfl, u, _, _, _, rfl, rfl, SqL.of hu4, atI_nat (j := 0) rfl, _, rfl, u, _, _, _, rfl, rfl, SqL.of hu4, atI_nat (j := 1) rfl, _, rfl, _, rfl, _, rfl, _, rfl, _, rfl, r, _, rfl, sH4.seq hS, fun l nl => ⟨(by show 3 ≤ sizeLine; decide), fun p np => ?_⟩⟩
          have s7 := same_new nl (.lst (cutV (ns.map V.int) (some (low : Int)) (some ((low + n : Nat) : Int))))
          have s8 := same_new np (.tup [V.int x, V.int y, V.ref l])
          refine q _ p l (sH4.trans (s7.trans s8)) ((sH4.trans s7).free np) (sH4.free nl) ?_ ?_
          · rw [upd_same, hx.1, hx.2]
          · refine s8 _ _ ?_
            rw [upd_same, stretch_cut hn rfl rfl, hlow', hn']
theorem ok_greedy (T : Tx K mg A) : FnOk P w K mg base (L2.CX P w) 3 A.f_greedy A.d_greedy ["row"] (spGreedy K A.C_BadRow) := by
  have Gcheck_row : FnOk P w K mg base (L2.CX P w) 2 A.f_check_row A.d_check_row ["row"] (spCheck K A.C_BadRow) := ok_check_row T
  have Gafter : FnOk P w K mg base CX0 1 A.f_after A.d_after ["row", "low", "behind", "side"] (spAfter K) := ok_after T
  refine T.Fgreedy.okX sc_greedy (fun vs H Q E h => ?_) (fun cdv A' outer s H vs Q E hr h => ?_)
  · obtain ⟨x, rfl, _⟩ := h
    rfl
  · obtain ⟨x, rfl, h⟩ := h
    refine ⟨_, (pss_cons (ps_expr (pe_call Gcheck_row (hr.mono (by first | decide | omega)) (by rfl) T.gcheck_row T.Fcheck_row.kp T.bcheck_row .nil (passes_call (takes_of rfl rfl rfl rfl) (fun _ _ _ _ h => h)) (pa_cons (pv 0) pa_nil)))
      (pss_cons (ps_par3 (i := 1) (j := 2) (l := 3) rfl sc_greedy.nd rfl rfl rfl (by decide) (by decide) (by decide) rfl rfl rfl (pa_cons pe_int (pa_cons (pe_callB call_len_seq (by rfl) T.blen PySem.boot_len (pa_cons (pv 0) pa_nil)) (pa_cons (pe_lst pa_nil) pa_nil))) (by rfl))
      (pss_cons (ps_while (passes_of rfl) (pt_cmpR op_lt (pv 1) (pv 2) (nomark _))
      (pss_mid (ps_set (i := 4) sc_greedy.nd rfl (Or.inl rfl) (pe_ifExp (pt_cmpR op_ge (pe_ix ix_list (pv 0) (pv 1) (fun _ _ => rfl)) (pe_ix ix_list (pv 0) (pe_op op_sub (pv 2) pe_int) (fun _ _ => rfl)) (nomark _)) (pe_glob (v := .str "left") (by rfl) T.gLEFT ⟨_, rfl⟩) (pe_glob (v := .str "right") (by rfl) T.gRIGHT ⟨_, rfl⟩)))
      (pss_cons (ps_expr (pe_bm PySem.F.plainAttrs_list PySem.F.slot_list_append PySem.F.type_list_append mt_append (pv 3) (pa_cons (pv 4) pa_nil)))
      (pss_one (ps_asg (pe_call Gafter (hr.mono (by first | decide | omega)) (by rfl) T.gafter T.Fafter.kp T.bafter .nil pass0 (pa_cons (pv 0) (pa_cons (pv 1) (pa_cons (pv 2) (pa_cons (pv 4) pa_nil))))) (pg_tup rfl (pgs_cons (pg_name (i := 5) sc_greedy.nd rfl (Or.inl rfl)) (pgs_cons (pg_name (i := 1) sc_greedy.nd rfl (Or.inl rfl)) (pgs_cons (pg_name (i := 2) sc_greedy.nd rfl (Or.inl rfl)) pgs_nil)))))))))
      (pss_one (ps_ret (pv 3)))))), ?_⟩
    refine ⟨_, rfl, ?_⟩
    rcases h with ⟨ns, hrow, q⟩ | ⟨hn, q⟩
    · refine ⟨x, rfl, .inl ⟨ns, hrow, fun H1 s1 => ?_⟩⟩
      obtain ⟨r, rfl, hS, hok⟩ := hrow
      have hS1 := s1.seq hS
      have el : (ns.map V.int).length = ns.length := List.length_map _
      refine ⟨_, rfl, r, _, rfl, .inl hS1, Nat.zero_le _, fun f nf => ⟨_, _, _, rfl, ?_⟩⟩
      -- while low < behind
      refine ⟨fun n σ H2 => ∃ (low : Nat) (acc : List Bool) (x4 x5 : Option V), σ = [some (.ref r), some (.int (low : Int)), some (.int ((low + n : Nat) : Int)), some (.ref f), x4, x5] ∧ Same H1 H2 ∧ H2 f = some (.lst (sidesV acc)) ∧ low + n ≤ ns.length ∧ acc.length + n = ns.length ∧ acc ++ greedyV ns n low = greedyV ns ns.length 0, ?_, ?_⟩
      · refine ⟨ns.length, 0, [], none, none, ?_, same_new nf _, upd_same, by omega, by simp, rfl⟩
        rw [el, Nat.zero_add]
        rfl
      · rintro n σ H2 ⟨low, acc, x4, x5, rfl, s2, hf2, hn, hl, hg⟩
        have hS2 := s2.seq hS1
        refine ⟨_, rfl, _, rfl, _, _, rfl, rfl, _, rfl, ?_⟩
        cases n with
        | zero =>
          refine iteFb (decide_eq_false (by omega)) ?_
          refine ⟨_, rfl, ?_⟩
          have e : greedyV ns 0 low = [] := rfl
          rw [e, List.append_nil] at hg
          subst hg
          exact q H2 f (s1.trans s2) (s1.free nf) hf2
        | succ m =>
          refine iteTb (decide_eq_true (by omega)) ?_
          refine ⟨fun σ' H' => ∃ (low : Nat) (acc : List Bool) (x4 x5 : Option V), σ' = [some (.ref r), some (.int (low : Int)), some (.int ((low + m : Nat) : Int)), some (.ref f), x4, x5] ∧ Same H1 H' ∧ H' f = some (.lst (sidesV acc)) ∧ low + m ≤ ns.length ∧ acc.length + m = ns.length ∧ acc ++ greedyV ns m low = greedyV ns ns.length 0, fun σ' H' h => ⟨m, Nat.lt_succ_self m, h⟩, ?_⟩
          -- side = LEFT if row[low] >= row[behind - 1] else RIGHT
          refine ⟨fun σ' H' => σ' = [some (.ref r), some (.int (low : Int)), some (.int ((low + (m + 1) : Nat) : Int)), some (.ref f), some (.str (sideS (decide (ns.getD (low + m) 0 ≤ ns.getD low 0)))), x5] ∧ H' = H2, ?_, ?_⟩
          · refine ⟨_, rfl, _, rfl, r, _, _, _, rfl, rfl, hS2, at_get (j := low) rfl (by omega), _, rfl, _, rfl, _, _, rfl, rfl, r, _, _, _, rfl, rfl, hS2, at_get (j := low + m) (by omega) (by omega), _, _, rfl, rfl, _, rfl, ?_⟩
            by_cases c : ns.getD (low + m) 0 ≤ ns.getD low 0
            · refine iteTb (decide_eq_true c) ?_
              refine ⟨?_, rfl⟩
              rw [decide_eq_true c]
              rfl
            · refine iteFb (decide_eq_false c) ?_
              refine ⟨?_, rfl⟩
              rw [decide_eq_false c]
              rfl
          · rintro σ' H' ⟨rfl, rfl⟩
            rw [greedyV_succ] at hg
            generalize decide (ns.getD (low + m) 0 ≤ ns.getD low 0) = b at hg ⊢
            -- found.append(side)
            refine ⟨_, rfl, .inl ⟨rfl, _, SqL.of hf2⟩, _, rfl, f, _, _, rfl, rfl, hf2, by rw [sidesV_len]; have := hok.1; exact size_lt (by omega), ?_⟩
            have s3 : Same H1 (upd H' f (.lst (sidesV acc ++ [V.str (sideS b)]))) := fun c o e => by
              rw [upd_ne (ne_of_none e nf)]
              exact s2 c o e
            have hS3 := s3.seq hS1
            -- coin, low, behind = after(row, low, behind, side)
            refine ⟨_, rfl, _, rfl, _, rfl, _, rfl, ?_⟩
            refine ⟨r, ns, low, m, _, _, b, rfl, rfl, rfl, hS3, hn, fun p np => ?_⟩
            have s6 := same_new np (.tup [.int (coinOf ns b low m), .int (lowOf b low : Nat), .int ((lowOf b low + m : Nat) : Int)])
            refine ⟨p, _, rfl, SqT.of upd_same, rfl, _, _, rfl, _, _, rfl, _, _, rfl, rfl, ?_⟩
            refine ⟨lowOf b low, acc ++ [b], _, _, rfl, s3.trans s6, ?_, by have := lowOf_le b low m; omega, by rw [List.length_append]; show acc.length + 1 + m = _; omega, ?_⟩
            · refine s6 _ _ ?_
              rw [upd_same]
              unfold sidesV
              rw [List.map_append]
              rfl
            · rw [List.append_assoc]
              exact hg
    · exact ⟨x, rfl, .inr ⟨hn, q⟩⟩
end
end K04
namespace K04
open PySem PySem.Spec PyProof.Rows L2 RE
section
variable {P : Program} {w : World} {K : PySem.W.Frag} {mg : Str → Option Value} {base : Heap} {A : Ad}
theorem step_plays_of (T : Tx K mg A) {n : Nat} (Gplays_of : FnOk P w K mg base CX0 (n + 14) A.f_plays_of A.d_plays_of ["row", "low", "behind", "known"] (spPlaysOf K n)) :
    FnOk P w K mg base CX0 (n + 1 + 14) A.f_plays_of A.d_plays_of ["row", "low", "behind", "known"] (spPlaysOf K (n + 1)) := by
  have Gbest_of : FnOk P w K mg base CX0 14 A.f_best_of A.d_best_of ["row", "low", "behind", "known"] (spBestOf K) := ok_best_of T
  have Gafter : FnOk P w K mg base CX0 1 A.f_after A.d_after ["row", "low", "behind", "side"] (spAfter K) := ok_after T
  rw [show n + 1 + 14 = n + 14 + 1 by omega]
  refine T.Fplays_of.ok sc_plays_of (fun vs H Q E h => ?_) (fun cdv A' outer s H vs Q E hr h => ?_)
  · obtain ⟨a, d, ns, low, m, i, j, kvs, rfl, _⟩ := h
    rfl
  · obtain ⟨a, d, ns, low, m, i, j, kvs, rfl, ei, ej, hS, hd, hk, h12, hm, hn, q⟩ := h
    refine ⟨_, (pss_cons (ps_if (pt_cmpR op_eq (pv 1) (pv 2) (nomark _)) (pss_one (ps_ret pe_int)) pss_nil)
      (pss_cons (ps_set (i := 4) sc_plays_of.nd rfl (Or.inl rfl) pe_int)
      (pss_cons (ps_for PassesOwn.never rfl (pi_list (pe_call Gbest_of (hr.mono (by first | decide | omega)) (by rfl) T.gbest_of T.Fbest_of.kp T.bbest_of .nil pass0 (pa_cons (pv 0) (pa_cons (pv 1) (pa_cons (pv 2) (pa_cons (pv 3) pa_nil)))))) (pg_name (i := 5) sc_plays_of.nd rfl (Or.inl rfl))
      (pss_cons (ps_asg (pe_call Gafter (hr.mono (by first | decide | omega)) (by rfl) T.gafter T.Fafter.kp T.bafter .nil pass0 (pa_cons (pv 0) (pa_cons (pv 1) (pa_cons (pv 2) (pa_cons (pv 5) pa_nil))))) (pg_tup rfl (pgs_cons (pg_name (i := 6) sc_plays_of.nd rfl (Or.inl rfl)) (pgs_cons (pg_name (i := 7) sc_plays_of.nd rfl (Or.inl rfl)) (pgs_cons (pg_name (i := 8) sc_plays_of.nd rfl (Or.inl rfl)) pgs_nil)))))
      (pss_one (ps_aug (i := 4) sc_plays_of.nd rfl (Or.inl rfl) (pe_call Gplays_of (hr.mono (by first | decide | omega)) (by rfl) T.gplays_of T.Fplays_of.kp T.bplays_of .nil pass0 (pa_cons (pv 0) (pa_cons (pv 7) (pa_cons (pv 8) (pa_cons (pv 3) pa_nil))))) ip_add))))
      (pss_one (ps_ret (pv 4)))))), ?_⟩
    refine ⟨_, rfl, _, rfl, rfl, _, rfl, ?_⟩
    cases m with
    | zero =>
      refine iteTb (decide_eq_true (congrArg V.int (by omega))) ?_
      exact q H kvs (SameBut.refl d H) hd hk
    | succ m =>
      refine iteFb (decide_eq_false (fun z => by have z' : i = j := V.int.inj z; omega)) ?_
      -- for side in best_of(..)
      refine ⟨_, rfl, _, rfl, _, rfl, _, rfl, ?_⟩
      refine ⟨a, d, ns, low, m, _, _, kvs, rfl, ei, ej, hS, hd, hk, h12, hm, fun H1 kvs1 p s1 hd1 hk1 np hp => ?_⟩
      have hpd : p ≠ d := ne_of hp hd1 (by intro z; cases z)
      refine ⟨p, rfl, ⟨_, SqL.of hp⟩, ?_⟩
      refine for_list (K := K) (a := p) (xs := sidesV (ends ns (m + 1) low)) (fun t σ H2 => ∃ (kvs2 : List (List Key × V)) (x5 x6 x7 x8 : Option V), σ = [some (.ref a), some (.int i), some (.int j), some (.ref d), some (.int (((ends ns (m + 1) low).take t).map fun b => many ns m (lowOf b low)).sum), x5, x6, x7, x8] ∧
        SameBut d H1 H2 ∧ H2 d = some (.dT kvs2) ∧ Known ns kvs2) ⟨kvs1, none, none, none, none, rfl, SameBut.refl _ _, hd1, hk1⟩ ?_ ?_ ?_
      · rintro t σ H2 _ ⟨kvs2, x5, x6, x7, x8, rfl, s2, hd2, hk2⟩
        exact SqL.of (s2 _ _ hpd hp)
      · rintro t y σ H2 hi ⟨kvs2, x5, x6, x7, x8, rfl, s2, hd2, hk2⟩
        have hlt : t < (ends ns (m + 1) low).length := by
          have := (List.getElem?_eq_some_iff.mp hi).1
          rw [sidesV_len] at this
          exact this
        have hy : y = V.str (sideS (ends ns (m + 1) low)[t]) := by
          unfold sidesV at hi
          rw [List.getElem?_map, List.getElem?_eq_getElem hlt] at hi
          exact (Option.some.inj hi).symm
        subst hy
        have hget : (ends ns (m + 1) low)[t]? = some (ends ns (m + 1) low)[t] := List.getElem?_eq_getElem hlt
        generalize (ends ns (m + 1) low)[t] = b at hget
        have hS2 := (s1.trans s2).seq hd hS
        refine ⟨_, rfl, _, rfl, _, rfl, _, rfl, ?_⟩
        refine ⟨a, ns, low, m, _, _, b, rfl, ei, ej, hS2, hm, fun p2 np2 => ?_⟩
        have s3 := same_new np2 (.tup [.int (coinOf ns b low m), .int (lowOf b low : Nat), .int ((lowOf b low + m : Nat) : Int)])
        refine ⟨p2, _, rfl, SqT.of upd_same, rfl, _, _, rfl, _, _, rfl, _, _, rfl, rfl, ?_⟩
        have hd3 := s3 _ _ hd2
        -- found += plays_of(row, left, right, known)
        refine ⟨_, rfl, _, rfl, _, rfl, _, rfl, _, rfl, ?_⟩
        refine ⟨a, d, ns, lowOf b low, m, _, _, kvs2, rfl, rfl, rfl, s3.seq hS2, hd3, hk2, h12, by have := lowOf_le b low m; omega, by omega, fun H4 kvs4 s4 hd4 hk4 => ?_⟩
        refine ⟨_, _, rfl, rfl, ?_⟩
        refine ⟨kvs4, some (.str (sideS b)), some (.int (coinOf ns b low m)), some (.int (lowOf b low : Nat)), some (.int ((lowOf b low + m : Nat) : Int)), ?_, s2.trans ((SameBut.of s3).trans s4), hd4, hk4⟩
        rw [sum_take1 _ hget]
        rfl
      · rintro σ H2 ⟨kvs2, x5, x6, x7, x8, rfl, s2, hd2, hk2⟩
        refine ⟨_, rfl, ?_⟩
        have q' := q H2 kvs2 (s1.trans s2) hd2 hk2
        rw [many_succ] at q'
        rw [sidesV_len, List.take_length]
        exact q'
theorem plays_of_all (T : Tx K mg A) : ∀ n : Nat, FnOk P w K mg base CX0 (n + 14) A.f_plays_of A.d_plays_of ["row", "low", "behind", "known"] (spPlaysOf K n)
  | 0 => by
    have no : ∀ vs H Q E, ¬ spPlaysOf K 0 vs H Q E := fun vs H Q E h => by
      obtain ⟨a, d, ns, low, m, i, j, kvs, _, _, _, _, _, _, _, _, h0, _⟩ := h
      omega
    exact ⟨fun vs H Q E h => absurd h (no vs H Q E), fun A outer s H args us vs Q E _ _ _ _ h => absurd h (no vs H Q E)⟩
  | n + 1 => step_plays_of T (plays_of_all T n)
theorem ok_plays_of (T : Tx K mg A) : FnOk P w K mg base CX0 27 A.f_plays_of A.d_plays_of ["row", "low", "behind", "known"] (spPlaysOf K 13) := plays_of_all T 13
theorem ok_how_many (T : Tx K mg A) : FnOk P w K mg base (L2.CX P w) 28 A.f_how_many A.d_how_many ["row"] (spHowMany K A.C_BadRow) := by
  have Gplays_of : FnOk P w K mg base CX0 27 A.f_plays_of A.d_plays_of ["row", "low", "behind", "known"] (spPlaysOf K 13) := ok_plays_of T
  have Gcheck_row : FnOk P w K mg base (L2.CX P w) 2 A.f_check_row A.d_check_row ["row"] (spCheck K A.C_BadRow) := ok_check_row T
  refine T.Fhow_many.okX sc_how_many (fun vs H Q E h => ?_) (fun cdv A' outer s H vs Q E hr h => ?_)
  · obtain ⟨x, rfl, _⟩ := h
    rfl
  · obtain ⟨x, rfl, h⟩ := h
    refine ⟨_, (pss_cons (ps_expr (pe_call Gcheck_row (hr.mono (by first | decide | omega)) (by rfl) T.gcheck_row T.Fcheck_row.kp T.bcheck_row .nil (passes_call (takes_of rfl rfl rfl rfl) (fun _ _ _ _ h => h)) (pa_cons (pv 0) pa_nil)))
      (pss_one (ps_ret (pe_call Gplays_of (hr.mono (by first | decide | omega)) (by rfl) T.gplays_of T.Fplays_of.kp T.bplays_of .nil pass0 (pa_cons (pv 0) (pa_cons pe_int (pa_cons (pe_callB call_len_seq (by rfl) T.blen PySem.boot_len (pa_cons (pv 0) pa_nil)) (pa_cons pe_dnewT pa_nil)))))))), ?_⟩
    refine ⟨_, rfl, ?_⟩
    rcases h with ⟨ns, hrow, q⟩ | ⟨hn, q⟩
    · refine ⟨x, rfl, .inl ⟨ns, hrow, fun H1 s1 => ?_⟩⟩
      obtain ⟨a, rfl, hS, hok⟩ := hrow
      have hS1 := s1.seq hS
      refine ⟨_, rfl, _, rfl, a, _, rfl, .inl hS1, fun d nd => ?_⟩
      refine ⟨a, d, ns, 0, ns.length, _, _, [], rfl, rfl, ?_, (same_new nd _).seq hS1, upd_same, Known.nil _, hok.1, by omega, by have := hok.1; omega, fun H2 kvs2 s2 hd2 hk2 => ?_⟩
      · rw [List.length_map]
        omega
      · exact q H2 (s1.trans (SameBut.free (fun b o nb e => s2 b o nb (by rw [upd_ne nb]; exact e)) nd))
    · exact ⟨x, rfl, .inr ⟨hn, q⟩⟩
theorem ok_play_by (T : Tx K mg A) : FnOk P w K mg base (L2.CX P w) 28 A.f_play_by A.d_play_by ["row", "number"] (spPlayBy K A.C_BadRow A.C_BadNumber) := by
  have Gplays_of : FnOk P w K mg base CX0 27 A.f_plays_of A.d_plays_of ["row", "low", "behind", "known"] (spPlaysOf K 13) := ok_plays_of T
  have Gcheck_row : FnOk P w K mg base (L2.CX P w) 2 A.f_check_row A.d_check_row ["row"] (spCheck K A.C_BadRow) := ok_check_row T
  have Gbest_of : FnOk P w K mg base CX0 14 A.f_best_of A.d_best_of ["row", "low", "behind", "known"] (spBestOf K) := ok_best_of T
  have Gafter : FnOk P w K mg base CX0 1 A.f_after A.d_after ["row", "low", "behind", "side"] (spAfter K) := ok_after T
  have Gis_whole : FnOk P w K mg base CX0 1 A.f_is_whole A.d_is_whole ["thing"] (spWhole K) := ok_is_whole T
  refine T.Fplay_by.okX sc_play_by (fun vs H Q E h => ?_) (fun cdv A' outer s H vs Q E hr h => ?_)
  · obtain ⟨x, t, rfl, _⟩ := h
    rfl
  · obtain ⟨x, t, rfl, h⟩ := h
    refine ⟨_, (pss_cons (ps_expr (pe_call Gcheck_row (hr.mono (by first | decide | omega)) (by rfl) T.gcheck_row T.Fcheck_row.kp T.bcheck_row .nil (passes_call (takes_of rfl rfl rfl rfl) (fun _ _ _ _ h => h)) (pa_cons (pv 0) pa_nil)))
      (pss_cons (ps_asg (pe_tup (pa_cons pe_dnewT (pa_cons pe_int (pa_cons (pe_callB call_len_seq (by rfl) T.blen PySem.boot_len (pa_cons (pv 0) pa_nil)) (pa_cons (pe_lst pa_nil) pa_nil))))) (pg_tup rfl (pgs_cons (pg_name (i := 2) sc_play_by.nd rfl (Or.inl rfl)) (pgs_cons (pg_name (i := 3) sc_play_by.nd rfl (Or.inl rfl)) (pgs_cons (pg_name (i := 4) sc_play_by.nd rfl (Or.inl rfl)) (pgs_cons (pg_name (i := 5) sc_play_by.nd rfl (Or.inl rfl)) pgs_nil))))))
      (pss_cons (ps_if (PW.pt (pw_or (pt_not (pt_val (pe_call Gis_whole (hr.mono (by first | decide | omega)) (by rfl) T.gis_whole T.Fis_whole.kp T.bis_whole .nil pass0 (pa_cons (pv 1) pa_nil)))) (pw_or1 (pt_not (pt_chain op_le op_lt pe_int (pv 1) (pe_call Gplays_of (hr.mono (by first | decide | omega)) (by rfl) T.gplays_of T.Fplays_of.kp T.bplays_of .nil pass0 (pa_cons (pv 0) (pa_cons (pv 3) (pa_cons (pv 4) (pa_cons (pv 2) pa_nil)))))))))) (pss_one (ps_raise rfl (takes_of rfl rfl rfl rfl) (pmk_own PySem.F.excBase_ValueError T.xBadNumber T.gBadNumber T.kBadNumber (raises_own T.BBadNumber T.tBadNumber) rfl))) pss_nil)
      (pss_cons (ps_while (passes_of rfl) (pt_cmpR op_lt (pv 3) (pv 4) (nomark _))
      (pss_one (ps_for (passes_of rfl) rfl (pi_list (pe_call Gbest_of (hr.mono (by first | decide | omega)) (by rfl) T.gbest_of T.Fbest_of.kp T.bbest_of .nil pass0 (pa_cons (pv 0) (pa_cons (pv 3) (pa_cons (pv 4) (pa_cons (pv 2) pa_nil)))))) (pg_name (i := 6) sc_play_by.nd rfl (Or.inl rfl))
      (pss_cons (ps_asg (pe_call Gafter (hr.mono (by first | decide | omega)) (by rfl) T.gafter T.Fafter.kp T.bafter .nil pass0 (pa_cons (pv 0) (pa_cons (pv 3) (pa_cons (pv 4) (pa_cons (pv 6) pa_nil))))) (pg_tup rfl (pgs_cons (pg_name (i := 7) sc_play_by.nd rfl (Or.inl rfl)) (pgs_cons (pg_name (i := 8) sc_play_by.nd rfl (Or.inl rfl)) (pgs_cons (pg_name (i := 9) sc_play_by.nd rfl (Or.inl rfl)) pgs_nil)))))
      (pss_cons (ps_set (i := 10) sc_play_by.nd rfl (Or.inl rfl) (pe_call Gplays_of (hr.mono (by first | decide | omega)) (by rfl) T.gplays_of T.Fplays_of.kp T.bplays_of .nil pass0 (pa_cons (pv 0) (pa_cons (pv 8) (pa_cons (pv 9) (pa_cons (pv 2) pa_nil))))))
      (pss_cons (ps_if (pt_chain op_le op_lt pe_int (pv 1) (pv 10)) (pss_cons (ps_expr (pe_bm PySem.F.plainAttrs_list PySem.F.slot_list_append PySem.F.type_list_append mt_append (pv 5) (pa_cons (pv 6) pa_nil)))
      (pss_cons (ps_par (i := 3) (j := 4) rfl sc_play_by.nd rfl rfl (by decide) rfl rfl (pa_cons (pv 8) (pa_cons (pv 9) pa_nil)) (by rfl))
      (pss_one ps_break))) pss_nil)
      (pss_one (ps_aug (i := 1) sc_play_by.nd rfl (Or.inl rfl) (pv 10) ip_sub))))))))
      (pss_one (ps_ret (pv 5))))))), ?_⟩
    refine ⟨_, rfl, ?_⟩
    rcases h with ⟨hn, q⟩ | ⟨ns, hrow, h⟩
    · exact ⟨x, rfl, .inr ⟨hn, q⟩⟩
    refine ⟨x, rfl, .inl ⟨ns, hrow, fun H1 s1 => ?_⟩⟩
    obtain ⟨r, rfl, hS, hok⟩ := hrow
    have hS1 := s1.seq hS
    have h12 := hok.1
    have el : (ns.map V.int).length = ns.length := List.length_map _
    -- known, low, behind, found = {}, 0, len(row), []
    refine fun d nd => ?_
    have s2 := same_new nd (.dT [])
    refine ⟨_, rfl, r, _, rfl, .inl (s2.seq hS1), Nat.zero_le _, fun f nf => ?_⟩
    have s3 := s2.trans (same_new nf (.lst []))
    have hd3 := same_new nf (.lst []) _ _ (upd_same (H := H1) (a := d) (o := .dT []))
    have hf3 : (upd (upd H1 d (.dT [])) f (.lst [])) f = some (.lst []) := upd_same
    generalize hH3 : upd (upd H1 d (.dT [])) f (.lst []) = H3 at s3 hd3 hf3
    have nfH : H1 f = none := s2.free nf
    refine ⟨(by show 4 ≤ sizeLine; decide), fun p4 np4 => ?_⟩
    have s4 := same_new np4 (.tup [.ref d, .int 0, .int ((ns.map V.int).length : Int), .ref f])
    refine ⟨p4, _, rfl, SqT.of upd_same, rfl, _, _, rfl, _, _, rfl, _, _, rfl, _, _, rfl, rfl, ?_⟩
    have hd4 := s4 _ _ hd3
    have hf4 := s4 _ _ hf3
    have s14 := s3.trans s4
    generalize hH4 : upd H3 p4 (.tup [.ref d, .int 0, .int ((ns.map V.int).length : Int), .ref f]) = H4 at s4 hd4 hf4 s14
    have nfd : f ≠ d := ne_of hf4 hd4 (by intro z; cases z)
    -- the number
    have h' : (∃ ty, PV K H t ty ∧ (ty == "int") = false ∧ ∀ H', Same H H' → E (.ref A.C_BadNumber) none H') ∨ ∃ k : Int, t = .int k ∧
        (¬ (0 ≤ k ∧ k < many ns ns.length 0) → ∀ H', Same H H' → E (.ref A.C_BadNumber) none H') ∧ (0 ≤ k → k < many ns ns.length 0 → ∃ pl, (plays ns ns.length 0)[k.toNat]? = some pl ∧ ∀ H' p, Same H H' → H p = none → H' p = some (.lst (sidesV pl)) → Q (.ref p) H') := by
      rcases h with ⟨hn, q⟩ | ⟨k, pl, ex, hp, q⟩
      · rcases hn with ⟨ty, hp, e⟩ | ⟨k, ex, hb⟩
        · exact .inl ⟨ty, hp, e, q⟩
        · exact .inr ⟨k, ex, fun _ => q, fun h1 h2 => absurd ⟨h1, h2⟩ hb⟩
      · have hlt := (List.getElem?_eq_some_iff.mp hp).1
        refine .inr ⟨(k : Int), ex, fun h => absurd ⟨by omega, by unfold many; omega⟩ h, fun _ _ => ⟨pl, ?_, q⟩⟩
        rw [Int.toNat_natCast]
        exact hp
    rcases h' with ⟨ty, hp, e, q⟩ | ⟨k, rfl, hbad, hgood⟩
    · refine ⟨_, rfl, ?_⟩
      refine ⟨_, ty, rfl, hp.mono (s1.trans s14), _, rfl, ?_⟩
      rw [e]
      exact iteT (iteT (q H4 (s1.trans s14)))
    refine ⟨_, rfl, ?_⟩
    refine ⟨_, _, rfl, pv_int k, _, rfl, ?_⟩
    refine iteF ?_
    refine ⟨_, rfl, _, _, rfl, rfl, _, rfl, ?_⟩
    by_cases c0 : 0 ≤ k
    rotate_left
    · refine iteFb (decide_eq_false c0) ?_
      exact ⟨_, rfl, iteT (hbad (fun z => c0 z.1) H4 (s1.trans s14))⟩
    refine iteTb (decide_eq_true c0) ?_
    refine ⟨_, rfl, _, rfl, _, rfl, _, rfl, ?_⟩
    refine ⟨r, d, ns, 0, ns.length, _, _, [], rfl, rfl, by rw [el]; omega, s14.seq hS1, hd4, Known.nil _, h12, by omega, by omega, fun H5 kvs5 s5 hd5 hk5 => ?_⟩
    have hf5 := s5 _ _ nfd hf4
    have s15 : Same H1 H5 := fun b o e => s5 b o (ne_of_none e nd) (s14 b o e)
    refine ⟨_, _, rfl, rfl, _, rfl, ?_⟩
    by_cases c1 : k < many ns ns.length 0
    rotate_left
    · rw [decide_eq_false c1]
      exact iteT (hbad (fun z => c1 z.2) H5 (s1.trans s15))
    rw [decide_eq_true c1]
    refine iteF ?_
    obtain ⟨pl, hpl, q⟩ := hgood c0 c1
    -- while low < behind
    refine ⟨fun n σ H6 => ∃ (low k : Nat) (acc rest : List Bool) (kvs6 : List (List Key × V)) (x6 x7 x8 x9 x10 : Option V), σ = [some (.ref r), some (.int (k : Int)), some (.ref d), some (.int (low : Int)), some (.int ((low + n : Nat) : Int)), some (.ref f), x6, x7, x8, x9, x10] ∧
      Same H1 H6 ∧ H6 d = some (.dT kvs6) ∧ Known ns kvs6 ∧ H6 f = some (.lst (sidesV acc)) ∧ low + n ≤ ns.length ∧ acc.length + n = ns.length ∧ (plays ns n low)[k]? = some rest ∧ acc ++ rest = pl, ?_, ?_⟩
    · refine ⟨ns.length, 0, k.toNat, [], pl, kvs5, none, none, none, none, none, ?_, s15, hd5, hk5, hf5, by omega, by simp, hpl, rfl⟩
      rw [Int.toNat_of_nonneg c0, el, Nat.zero_add]
      rfl
    · rintro n σ H6 ⟨low, k, acc, rest, kvs6, x6, x7, x8, x9, x10, rfl, s6, hd6, hk6, hf6, hn, hl, hrest, hacc⟩
      refine ⟨_, rfl, _, rfl, _, _, rfl, rfl, _, rfl, ?_⟩
      cases n with
      | zero =>
        refine iteFb (decide_eq_false (by omega)) ?_
        refine ⟨_, rfl, ?_⟩
        rw [plays_zero] at hrest
        have e : rest = [] := by
          cases k with
          | zero => exact (Option.some.inj hrest).symm
          | succ k => simp at hrest
        subst e
        rw [List.append_nil] at hacc
        subst hacc
        exact q H6 f (s1.trans s6) (s1.free nfH) hf6
      | succ m =>
        refine iteTb (decide_eq_true (by omega)) ?_
        refine ⟨fun σ' H' => ∃ (low k : Nat) (acc rest : List Bool) (kvs6 : List (List Key × V)) (x6 x7 x8 x9 x10 : Option V), σ' = [some (.ref r), some (.int (k : Int)), some (.ref d), some (.int (low : Int)), some (.int ((low + m : Nat) : Int)), some (.ref f), x6, x7, x8, x9, x10] ∧
          Same H1 H' ∧ H' d = some (.dT kvs6) ∧ Known ns kvs6 ∧ H' f = some (.lst (sidesV acc)) ∧ low + m ≤ ns.length ∧ acc.length + m = ns.length ∧ (plays ns m low)[k]? = some rest ∧ acc ++ rest = pl, fun σ' H' h => ⟨m, Nat.lt_succ_self m, h⟩, ?_⟩
        -- for side in best_of(row, low, behind, known)
        refine ⟨_, rfl, _, rfl, _, rfl, _, rfl, ?_⟩
        refine ⟨r, d, ns, low, m, _, _, kvs6, rfl, rfl, rfl, s6.seq hS1, hd6, hk6, h12, hn, fun H7 kvs7 p s7 hd7 hk7 np hp => ?_⟩
        have hpd : p ≠ d := ne_of hp hd7 (by intro z; cases z)
        have hpf : p ≠ f := (ne_of_none hf6 np).symm
        have hf7 := s7 _ _ nfd hf6
        have s17 : Same H1 H7 := fun b o e => s7 b o (ne_of_none e nd) (s6 b o e)
        rw [plays_succ] at hrest
        refine ⟨p, rfl, ⟨_, SqL.of hp⟩, ?_⟩
        refine for_list (K := K) (a := p) (xs := sidesV (ends ns (m + 1) low)) (fun t σ H8 => ∃ (k : Nat) (kvs8 : List (List Key × V)) (x6 x7 x8 x9 x10 : Option V), σ = [some (.ref r), some (.int (k : Int)), some (.ref d), some (.int (low : Int)), some (.int ((low + (m + 1) : Nat) : Int)), some (.ref f), x6, x7, x8, x9, x10] ∧
          Same H1 H8 ∧ H8 d = some (.dT kvs8) ∧ Known ns kvs8 ∧ H8 f = some (.lst (sidesV acc)) ∧ H8 p = some (.lst (sidesV (ends ns (m + 1) low))) ∧ (((ends ns (m + 1) low).drop t).flatMap fun b => (plays ns m (lowOf b low)).map fun p => b :: p)[k]? = some rest) ⟨k, kvs7, x6, x7, x8, x9, x10, rfl, s17, hd7, hk7, hf7, hp, hrest⟩ ?_ ?_ ?_
        · rintro t σ H8 _ ⟨k, kvs8, x6, x7, x8, x9, x10, rfl, s8, hd8, hk8, hf8, hp8, hr8⟩
          exact SqL.of hp8
        · rintro t y σ H8 hi ⟨k, kvs8, x6, x7, x8, x9, x10, rfl, s8, hd8, hk8, hf8, hp8, hr8⟩
          have hlt : t < (ends ns (m + 1) low).length := by
            have := (List.getElem?_eq_some_iff.mp hi).1
            rw [sidesV_len] at this
            exact this
          have hy : y = V.str (sideS (ends ns (m + 1) low)[t]) := by
            unfold sidesV at hi
            rw [List.getElem?_map, List.getElem?_eq_getElem hlt] at hi
            exact (Option.some.inj hi).symm
          subst hy
          rw [List.drop_eq_getElem_cons hlt, List.flatMap_cons] at hr8
          generalize (ends ns (m + 1) low)[t] = b at hr8
          have hS8 := s8.seq hS1
          refine ⟨_, rfl, _, rfl, _, rfl, _, rfl, ?_⟩
          refine ⟨r, ns, low, m, _, _, b, rfl, rfl, rfl, hS8, hn, fun p2 np2 => ?_⟩
          have s9 := same_new np2 (.tup [.int (coinOf ns b low m), .int (lowOf b low : Nat), .int ((lowOf b low + m : Nat) : Int)])
          refine ⟨p2, _, rfl, SqT.of upd_same, rfl, _, _, rfl, _, _, rfl, _, _, rfl, rfl, ?_⟩
          have hd9 := s9 _ _ hd8
          -- many = plays_of(row, left, right, known)
          refine ⟨_, rfl, _, rfl, _, rfl, _, rfl, ?_⟩
          refine ⟨r, d, ns, lowOf b low, m, _, _, kvs8, rfl, rfl, rfl, s9.seq hS8, hd9, hk8, h12, by have := lowOf_le b low m; omega, by omega, fun H10 kvs10 s10 hd10 hk10 => ?_⟩
          have hf10 := s10 _ _ nfd (s9 _ _ hf8)
          have hp10 := s10 _ _ hpd (s9 _ _ hp8)
          have s1a : Same H1 H10 := fun b o e => s10 b o (ne_of_none e nd) (s9 b o (s8 b o e))
          -- if 0 <= number < many
          refine ⟨_, rfl, _, _, rfl, rfl, _, rfl, ?_⟩
          refine iteTb (decide_eq_true (by omega)) ?_
          refine ⟨_, rfl, _, _, rfl, rfl, _, rfl, ?_⟩
          by_cases c : k < (plays ns m (lowOf b low)).length
          · refine iteTb (decide_eq_true (by unfold many; omega)) ?_
            rw [List.getElem?_append_left (by rw [List.length_map]; exact c), List.getElem?_map] at hr8
            obtain ⟨rest', hr', rfl⟩ := Option.map_eq_some_iff.mp hr8
            -- found.append(side)
            refine ⟨_, rfl, .inl ⟨rfl, _, SqL.of hf10⟩, _, rfl, f, _, _, rfl, rfl, hf10, by rw [sidesV_len]; exact size_lt (by omega), ?_⟩
            -- low, behind = left, right
            refine ⟨_, rfl, _, rfl, _, _, rfl, ?_⟩
            refine ⟨lowOf b low, k, acc ++ [b], rest', kvs10, _, _, _, _, _, rfl, fun b o e => ?_, ?_, hk10, ?_, by have := lowOf_le b low m; omega, by rw [List.length_append]; show acc.length + 1 + m = _; omega, hr', by rw [List.append_assoc]; exact hacc⟩
            · rw [upd_ne (ne_of_none e nfH)]
              exact s1a b o e
            · rw [upd_ne nfd.symm]
              exact hd10
            · rw [upd_same]
              unfold sidesV
              rw [List.map_append]
              rfl
          · refine iteFb (decide_eq_false (by unfold many; omega)) ?_
            rw [List.getElem?_append_right (by rw [List.length_map]; omega), List.length_map] at hr8
            -- number -= many
            refine ⟨_, rfl, _, rfl, _, _, rfl, rfl, ?_⟩
            refine ⟨k - (plays ns m (lowOf b low)).length, kvs10, some (.str (sideS b)), some (.int (coinOf ns b low m)), some (.int (lowOf b low : Nat)), some (.int ((lowOf b low + m : Nat) : Int)), some (.int (many ns m (lowOf b low))), ?_, s1a, hd10, hk10, hf10, hp10, hr8⟩
            have ek : ((k - (plays ns m (lowOf b low)).length : Nat) : Int) = (k : Int) - many ns m (lowOf b low) := by
              unfold many
              omega
            rw [ek]
            rfl
        · rintro σ H8 ⟨k, kvs8, x6, x7, x8, x9, x10, rfl, s8, hd8, hk8, hf8, hp8, hr8⟩
          rw [sidesV_len, List.drop_length] at hr8
          simp at hr8
end
end K04
namespace K04
open PySem PySem.Spec PyProof.Rows L2 RE
section
variable {P : Program} {w : World} {K : PySem.W.Frag} {mg : Str → Option Value} {base : Heap} {A : Ad}
theorem ok__law_number (T : Tx K mg A) : FnOk P w K mg base CX0 1 A.f__law_number A.d__law_number ["_law_cell", "_law_at", "_law_whole_here"] spNumber := by
  refine T.F_law_number.ok sc__law_number (fun vs H Q E h => ?_) (fun cdv A' outer s H vs Q E hr h => ?_)
  · obtain ⟨c, a, z, rfl, _⟩ := h
    rfl
  · obtain ⟨c, a, z, rfl, hc, ha, q⟩ := h
    refine ⟨_, (pss_cons (ps_if (pt_cmpR op_ge (pv 0) (pe_op op_pow pe_int pe_int) (nomark _)) (pss_one (ps_ret (pv 0))) pss_nil)
      (pss_cons (ps_set (i := 3) sc__law_number.nd rfl (Or.inl rfl) (pe_op op_mod (pe_op op_add (pe_op op_mulB (pe_op op_add (pv 0) (pe_op op_mulB pe_int (pv 1))) pe_int) (pv 2)) pe_int))
      (pss_cons (ps_set (i := 4) sc__law_number.nd rfl (Or.inl rfl) (pe_op op_mulB (pe_op op_mulB (pv 3) (pe_op op_add (pe_op op_add (pv 3) (pe_op op_mulB pe_int (pv 1))) pe_int)) (pe_op op_add (pe_op op_add (pv 3) (pv 0)) pe_int)))
      (pss_one (ps_ret (pe_op op_fdiv (pe_op op_mulB (pv 4) (pe_op op_add (pv 4) pe_int)) pe_int)))))), ?_⟩
    refine ⟨_, rfl, _, _, rfl, rfl, ⟨by decide, by decide, by decide⟩, _, _, rfl, rfl, _, rfl, ?_⟩
    refine ite2 (fun _ => ?_) (fun _ => ?_)
    · exact ⟨_, rfl, q c⟩
    · have b0 : (977 : Int).natAbs < 2 ^ 10 := by decide
      have b1 : (977 * a).natAbs < 2 ^ (10 + 30) := pw_mul b0 ha
      have b2 : (c + 977 * a).natAbs < 2 ^ (2000000 + 1) := pw_add hc b1 (by decide)
      have b3 : (48271 : Int).natAbs < 2 ^ 16 := by decide
      have b5 : (((c + 977 * a) * 48271 + z) % 2147483647).natAbs < 2 ^ 31 := by
        have h1 := Int.emod_nonneg ((c + 977 * a) * 48271 + z) (show (2147483647 : Int) ≠ 0 by decide)
        have h2 := Int.emod_lt_of_pos ((c + 977 * a) * 48271 + z) (show (0 : Int) < 2147483647 by decide)
        omega
      refine ⟨_, rfl, _, rfl, _, _, rfl, rfl, ⟨10, 30, b0, ha, by decide⟩, _, _, rfl, rfl, _, _, rfl, rfl, ⟨2000000 + 1, 16, b2, b3, by decide⟩, _, rfl, _, _, rfl, rfl, _, _, rfl, rfl, (by show (0 : Int) < 2147483647; decide), ?_⟩
      -- more
      have b6 : (31 : Int).natAbs < 2 ^ 5 := by decide
      have b7 : (31 * a).natAbs < 2 ^ (5 + 30) := pw_mul b6 ha
      generalize hm : (((c + 977 * a) * 48271 + z) % 2147483647) = m at b5
      have b8 : (m + 31 * a + 7).natAbs < 2 ^ (36 + 1) := pw_add (show (m + 31 * a).natAbs < 2 ^ 36 by omega) (show (7 : Int).natAbs < 2 ^ 3 by decide) (by decide)
      have b9 : (m * (m + 31 * a + 7)).natAbs < 2 ^ (31 + (36 + 1)) := pw_mul b5 b8
      have b10 : (m + c).natAbs < 2 ^ (2000000 + 1) := by
        have := pw_add hc b5 (by decide)
        rw [Int.add_comm] at this
        exact this
      have b11 : (m + c + 5).natAbs < 2 ^ (2000000 + 1 + 1) := pw_add b10 (show (5 : Int).natAbs < 2 ^ 3 by decide) (by decide)
      have b12 : (m * (m + 31 * a + 7) * (m + c + 5)).natAbs < 2 ^ (31 + (36 + 1) + (2000000 + 1 + 1)) := pw_mul b9 b11
      have b13 : (m * (m + 31 * a + 7) * (m + c + 5) + 48271).natAbs < 2 ^ (31 + (36 + 1) + (2000000 + 1 + 1) + 1) := pw_add b12 b3 (by decide)
      rw [← hm] at b5 b8 b9 b10 b11 b12 b13
      refine ⟨_, rfl, _, rfl, _, rfl, _, _, rfl, rfl, ⟨5, 30, b6, ha, by decide⟩, _, _, rfl, rfl, _, _, rfl, rfl, _, _, rfl, rfl, ⟨31, 36 + 1, b5, b8, by decide⟩, _, rfl, _, rfl, _, _, rfl, rfl, _, _, rfl, rfl, _, _, rfl, rfl, ⟨_, _, b9, b11, by decide⟩, ?_⟩
      refine ⟨_, rfl, _, rfl, _, _, rfl, rfl, _, _, rfl, rfl, ⟨_, _, b12, b13, by decide⟩, _, _, rfl, rfl, ⟨by decide, by decide⟩, ?_⟩
      exact q _
theorem ok__law_row (T : Tx K mg A) : FnOk P w K mg base CX0 2 A.f__law_row A.d__law_row ["_law_script", "_law_by", "_law_most"] (spLRow K) := by
  have G_law_number : FnOk P w K mg base CX0 1 A.f__law_number A.d__law_number ["_law_cell", "_law_at", "_law_whole_here"] spNumber := ok__law_number T
  refine T.F_law_row.ok sc__law_row (fun vs H Q E h => ?_) (fun cdv A' outer s H vs Q E hr h => ?_)
  · obtain ⟨a, cs, b, most, rfl, _⟩ := h
    rfl
  · obtain ⟨a, cs, b, most, rfl, hS, h63, hbits, b0, b1, m0, m1, q⟩ := h
    refine ⟨_, (pss_mid (ps_set (i := 3) sc__law_row.nd rfl (Or.inl rfl) (pe_ifExp (pt_cmpR (op_neD hr.units) (pv 0) (pe_lst pa_nil) (nomark _)) (pe_slice sl_list (pv 0) po_none (po_some pe_int)) (pe_lst (pa_cons pe_int pa_nil))))
      (pss_cons (ps_par (i := 4) (j := 5) rfl sc__law_row.nd rfl rfl (by decide) rfl rfl (pa_cons (pe_op op_add (pe_callB (cr_sum rfl) (by rfl) T.bsum (by decide +kernel) (pa_cons (pv 3) pa_nil)) (pv 1)) (pa_cons (pe_lst pa_nil) pa_nil)) (by rfl))
      (pss_cons (ps_set (i := 6) sc__law_row.nd rfl (Or.inl rfl) (pe_op op_mod (pe_op op_fdiv (pe_call G_law_number (hr.mono (by first | decide | omega)) (by rfl) T.g_law_number T.F_law_number.kp T.b_law_number .nil pass0 (pa_cons (pv 4) (pa_cons (pe_op op_add (pv 1) pe_int) (pa_cons pe_int pa_nil)))) pe_int) pe_int))
      (pss_cons (ps_for PassesOwn.never rfl (pi_range1 (by rfl) T.brange (pa_cons (pe_op op_mod (pe_op op_fdiv (pe_call G_law_number (hr.mono (by first | decide | omega)) (by rfl) T.g_law_number T.F_law_number.kp T.b_law_number .nil pass0 (pa_cons (pv 4) (pa_cons (pe_op op_add (pv 1) pe_int) (pa_cons pe_int pa_nil)))) pe_int) (pe_op op_add (pv 2) pe_int)) pa_nil)) (pg_name (i := 7) sc__law_row.nd rfl (Or.inl rfl))
      (pss_cons (ps_set (i := 8) sc__law_row.nd rfl (Or.inl rfl) (pe_op op_fdiv (pe_call G_law_number (hr.mono (by first | decide | omega)) (by rfl) T.g_law_number T.F_law_number.kp T.b_law_number .nil pass0 (pa_cons (pe_ix ix_list (pv 3) (pe_op op_mod (pe_op op_add (pv 7) (pv 1)) (pe_callB call_len_seq (by rfl) T.blen PySem.boot_len (pa_cons (pv 3) pa_nil))) (fun _ _ => rfl)) (pa_cons (pe_op op_add (pv 7) (pv 1)) (pa_cons (pv 4) pa_nil)))) pe_int))
      (pss_one (ps_expr (pe_bm PySem.F.plainAttrs_list PySem.F.slot_list_append PySem.F.type_list_append mt_append (pv 5) (pa_cons (pe_ix ix_tup (pe_tup (pa_cons (pe_op op_mod (pv 8) pe_int) (pa_cons (pe_op op_mul (pe_op op_mod (pv 8) pe_int) pe_int) (pa_cons (pe_op op_mod (pv 8) pe_int) (pa_cons (pe_op op_mul (pv 7) (pv 7)) (pa_cons pe_int pa_nil)))))) (pv 6) (fun _ _ => rfl)) pa_nil))))))
      (pss_one (ps_ret (pv 5))))))), ?_⟩
    -- _law_cells = _law_script[:63] if _law_script != [] else [5]
    refine ⟨fun σ' H2 => ∃ (c : Addr) (ds : List Int), σ' = [some (.ref a), some (.int b), some (.int most), some (.ref c), none, none, none, none, none] ∧ Same H H2 ∧ SqL K H2 c (ds.map V.int) ∧ 0 < ds.length ∧ ds.length ≤ 63 ∧ (∀ z ∈ ds, z.natAbs < 2 ^ 1048576), ?_, ?_⟩
    · refine ⟨_, rfl, Nat.zero_le _, fun l nl => ?_⟩
      have s1 : Same H (upd H l (.lst [])) := same_new nl _
      have hS1 := s1.seq hS
      refine ⟨_, _, dp_lst hS1 (ok_ints cs), dp_lst (xs := []) (SqL.of upd_same) rfl, shl_flat (ok_ints cs), shl_flat (xs := []) rfl, _, rfl, ?_⟩
      cases cs with
      | nil =>
        refine iteF ?_
        refine ⟨(by show 1 ≤ sizeLine; decide), fun c nc => ?_⟩
        refine ⟨c, [5], rfl, s1.trans (same_new nc _), SqL.of upd_same, by decide, by decide, fun z hz => ?_⟩
        have e : z = 5 := by simpa using hz
        subst e
        exact pw_mono (a := 3) (by decide) (by decide)
      | cons z r =>
        refine iteT ?_
        refine ⟨_, rfl, 63, rfl, a, _, rfl, hS1, fun c nc => ?_⟩
        refine ⟨c, z :: r, rfl, s1.trans (same_new nc _), SqL.of ?_, by simp, h63, hbits⟩
        rw [upd_same, cut63 (by rw [List.length_map]; exact h63)]
    · rintro σ' H2 ⟨c, ds, rfl, s2, hS2, hpos, h63', hb⟩
      -- _law_whole_here, _law_found = sum(_law_cells) + _law_by, []
      refine ⟨_, rfl, c, ds, rfl, hS2, _, rfl, _, _, rfl, rfl, Nat.zero_le _, fun f nf => ⟨_, _, rfl, ?_⟩⟩
      have bw : (ds.sum + b).natAbs < 2 ^ 2000000 := by
        have h1 := sum_bits ds 1048576 hb
        have h2 := pw_mono h1 (show 1048576 + ds.length ≤ 1048639 by omega)
        have h3 : (ds.sum + b).natAbs < 2 ^ (1048639 + 1) := pw_add h2 (show b.natAbs < 2 ^ 10 by omega) (by decide)
        exact pw_mono h3 (by decide)
      -- _law_kind = _law_number(_law_whole, _law_by + 1, 3) // 3 % 5
      refine ⟨_, rfl, _, rfl, _, _, rfl, rfl, ?_⟩
      refine ⟨ds.sum + b, b + 1, 3, rfl, bw, by omega, fun r1 => ?_⟩
      refine ⟨_, _, rfl, rfl, ⟨by decide, by decide⟩, _, _, rfl, rfl, (by show (0 : Int) < 5; decide), ?_⟩
      have k0 := Int.emod_nonneg (r1 / 3) (show (5 : Int) ≠ 0 by decide)
      have k1 := Int.emod_lt_of_pos (r1 / 3) (show (0 : Int) < 5 by decide)
      -- the loop
      refine ⟨_, rfl, _, rfl, _, _, rfl, rfl, ?_⟩
      refine ⟨ds.sum + b, b + 2, 3, rfl, bw, by omega, fun r2 => ?_⟩
      have mp : (0 : Int) < most + 1 := by omega
      have n0 := Int.emod_nonneg (r2 / 5) (show most + 1 ≠ 0 by omega)
      have n1 := Int.emod_lt_of_pos (r2 / 5) mp
      refine ⟨_, _, rfl, rfl, ⟨by decide, by decide⟩, _, rfl, _, _, rfl, rfl, _, _, rfl, rfl, mp, (r2 / 5) % (most + 1), rfl, by omega, by omega, ?_⟩
      generalize hkk : (r1 / 3) % 5 = kind at k0 k1
      generalize hnn : (r2 / 5) % (most + 1) = size at n0 n1
      have nfH : H f = none := s2.free nf
      refine for_range (lo := 0) (n := size.toNat) (fun i σ H3 => ∃ (ns : List Int) (x7 x8 : Option V), σ = [some (.ref a), some (.int b), some (.int most), some (.ref c), some (.int (ds.sum + b)), some (.ref f), some (.int kind), x7, x8] ∧ Same H2 H3 ∧ H3 f = some (.lst (ns.map V.int)) ∧ ns.length = i ∧ RowOk ns) ?_ ?_ ?_
      · refine ⟨[], none, none, ?_, same_new nf _, upd_same, rfl, ⟨Nat.zero_le _, fun z hz => (nomatch hz)⟩⟩
        rw [← hkk]
        rfl
      · rintro i σ H3 hi ⟨ns, x7, x8, rfl, s3, hf, hl, hok⟩
        have hS3 := s3.seq hS2
        -- _law_number_here = ..
        have dl : 0 < ((ds.map V.int).length : Int) := by rw [List.length_map]; omega
        have j0 := Int.emod_nonneg (0 + (i : Int) + b) (show ((ds.map V.int).length : Int) ≠ 0 by omega)
        have j1 := Int.emod_lt_of_pos (0 + (i : Int) + b) dl
        have el : (ds.map V.int).length = ds.length := List.length_map _
        refine ⟨_, rfl, _, rfl, _, rfl, _, _, rfl, rfl, _, rfl, c, _, rfl, .inl hS3, _, _, rfl, rfl, dl, c, _, _, _, rfl, rfl, hS3, at_get (j := ((0 + (i : Int) + b) % ((ds.map V.int).length : Int)).toNat) (by omega) (by rw [el] at j1 ⊢; omega), _, rfl, _, rfl, _, _, rfl, rfl, _, rfl, ?_⟩
        have bc : (ds.getD ((0 + (i : Int) + b) % ((ds.map V.int).length : Int)).toNat 0).natAbs < 2 ^ 2000000 := by
          rw [List.getD_eq_getElem?_getD]
          cases e : ds[((0 + (i : Int) + b) % ((ds.map V.int).length : Int)).toNat]? with
          | none => exact Nat.pow_pos (by decide)
          | some z => exact pw_mono (hb z (List.mem_of_getElem? e)) (by decide)
        refine ⟨_, _, _, rfl, bc, by omega, fun r3 => ?_⟩
        refine ⟨_, _, rfl, rfl, ⟨by decide, by decide⟩, ?_⟩
        -- _law_found.append((..)[_law_kind])
        have p1 := Int.emod_nonneg (r3 / 3) (show (10 : Int) ≠ 0 by decide)
        have p2 := Int.emod_lt_of_pos (r3 / 3) (show (0 : Int) < 10 by decide)
        have p3 := Int.emod_nonneg (r3 / 3) (show (2 : Int) ≠ 0 by decide)
        have p4 := Int.emod_lt_of_pos (r3 / 3) (show (0 : Int) < 2 by decide)
        have p5 := Int.emod_nonneg (r3 / 3) (show (1000001 : Int) ≠ 0 by decide)
        have p6 := Int.emod_lt_of_pos (r3 / 3) (show (0 : Int) < 1000001 by decide)
        have i12 : i < 12 := by omega
        refine ⟨_, rfl, .inl ⟨rfl, _, SqL.of hf⟩, ?_⟩
        refine ⟨_, rfl, _, _, rfl, rfl, (by show (0 : Int) < 10; decide), _, rfl, _, _, rfl, rfl, (by show (0 : Int) < 2; decide), _, _, rfl, rfl, .inl ⟨by omega, by omega⟩, _, rfl, _, _, rfl, rfl, (by show (0 : Int) < 1000001; decide), _, rfl, _, rfl, _, _, rfl, rfl, .inl ⟨by omega, by omega⟩, (by show 5 ≤ sizeLine; decide), fun t nt => ?_⟩
        have nft : f ≠ t := ne_of_none hf nt
        have pick : ∃ v : Int, atI [V.int ((r3 / 3) % 10), V.int ((r3 / 3) % 2 * 5), V.int ((r3 / 3) % 1000001), V.int ((0 + (i : Int)) * (0 + (i : Int))), V.int 7] kind = some (.int v) ∧ 0 ≤ v ∧ v ≤ 1000000 := by
          have hk : kind = 0 ∨ kind = 1 ∨ kind = 2 ∨ kind = 3 ∨ kind = 4 := by omega
          rcases hk with e | e | e | e | e <;> subst e
          · exact ⟨_, atI_nat (j := 0) rfl, by omega, by omega⟩
          · exact ⟨_, atI_nat (j := 1) rfl, by omega, by omega⟩
          · exact ⟨_, atI_nat (j := 2) rfl, by omega, by omega⟩
          · refine ⟨_, atI_nat (j := 3) rfl, ?_, ?_⟩
            · exact Int.mul_nonneg (by omega) (by omega)
            · have : (0 + (i : Int)) * (0 + (i : Int)) ≤ 12 * 12 := Int.mul_le_mul (by omega) (by omega) (by omega) (by omega)
              omega
          · exact ⟨_, atI_nat (j := 4) rfl, by omega, by omega⟩
        obtain ⟨v, hv, v0, v1⟩ := pick
        refine ⟨_, rfl, t, _, _, _, rfl, rfl, SqT.of upd_same, hv, ?_⟩
        have hf2 : (upd H3 t (.tup [V.int ((r3 / 3) % 10), V.int ((r3 / 3) % 2 * 5), V.int ((r3 / 3) % 1000001), V.int ((0 + (i : Int)) * (0 + (i : Int))), V.int 7])) f = some (.lst (ns.map V.int)) := by rw [upd_ne nft]; exact hf
        refine ⟨f, _, _, rfl, rfl, hf2, by rw [List.length_map]; exact size_lt (by omega), ?_⟩
        refine ⟨ns ++ [v], _, _, rfl, fun x o e => ?_, ?_, by rw [List.length_append, hl]; rfl, ?_⟩
        · rw [upd_ne (ne_of_none e nf)]
          exact same_new nt _ x o (s3 x o e)
        · rw [upd_same, List.map_append]
          rfl
        · refine ⟨by rw [List.length_append, hl]; show i + 1 ≤ 12; omega, fun z hz => ?_⟩
          rcases List.mem_append.mp hz with hz | hz
          · exact hok.2 z hz
          · have e : z = v := by simpa using hz
            subst e
            exact ⟨v0, v1⟩
      · rintro σ H3 ⟨ns, x7, x8, rfl, s3, hf, hl, hok⟩
        refine ⟨_, rfl, ?_⟩
        exact q ns f H3 hok (by rw [hl]; omega) (s2.trans s3) nfH hf
end
end K04
namespace K04
open PySem PySem.Spec PyProof.Rows L2 RE
section
variable {P : Program} {w : World} {K : PySem.W.Frag} {mg : Str → Option Value} {base : Heap} {A : Ad}
theorem ok__law_worths (T : Tx K mg A) : FnOk P w K mg base CX0 1 A.f__law_worths A.d__law_worths ["_law_row_here"] (spWorths K) := by
  refine T.F_law_worths.ok sc__law_worths (fun vs H Q E h => ?_) (fun cdv A' outer s H vs Q E hr h => ?_)
  · obtain ⟨a, ns, rfl, _⟩ := h
    rfl
  · obtain ⟨a, ns, rfl, hS, h12, q⟩ := h
    refine ⟨_, (pss_cons (ps_set (i := 1) sc__law_worths.nd rfl (Or.inl rfl) pe_dnewT)
      (pss_cons (ps_for PassesOwn.never rfl (pi_range1 (by rfl) T.brange (pa_cons (pe_op op_add (pe_callB call_len_seq (by rfl) T.blen PySem.boot_len (pa_cons (pv 0) pa_nil)) pe_int) pa_nil)) (pg_name (i := 2) sc__law_worths.nd rfl (Or.inl rfl))
      (pss_one (ps_for PassesOwn.never rfl (pi_range1 (by rfl) T.brange (pa_cons (pe_op op_add (pe_op op_sub (pe_callB call_len_seq (by rfl) T.blen PySem.boot_len (pa_cons (pv 0) pa_nil)) (pv 2)) pe_int) pa_nil)) (pg_name (i := 3) sc__law_worths.nd rfl (Or.inl rfl))
      (pss_cons (ps_set (i := 4) sc__law_worths.nd rfl (Or.inl rfl) (pe_op op_add (pv 3) (pv 2)))
      (pss_cons (ps_dput (hu_of hr) (pv 1) (pe_tup (pa_cons (pv 3) (pa_cons (pv 4) pa_nil))) pe_int rfl)
      (pss_one (ps_if (pt_cmpR op_gt (pv 2) pe_int (nomark _)) (pss_cons (ps_set (i := 5) sc__law_worths.nd rfl (Or.inl rfl) (pe_op op_sub (pe_ix ix_list (pv 0) (pv 3) (fun _ _ => rfl)) (pe_dget (hu_of hr) (pv 1) (pe_tup (pa_cons (pe_op op_add (pv 3) pe_int) (pa_cons (pv 4) pa_nil))) (fun _ _ => rfl))))
      (pss_one (ps_dput (hu_of hr) (pv 1) (pe_tup (pa_cons (pv 3) (pa_cons (pv 4) pa_nil))) (pe_callB (call_max2 rfl) (by rfl) T.bmax (by decide +kernel) (pa_cons (pv 5) (pa_cons (pe_op op_sub (pe_ix ix_list (pv 0) (pe_op op_sub (pv 4) pe_int) (fun _ _ => rfl)) (pe_dget (hu_of hr) (pv 1) (pe_tup (pa_cons (pv 3) (pa_cons (pe_op op_sub (pv 4) pe_int) pa_nil))) (fun _ _ => rfl))) pa_nil))) rfl))) pss_nil)))))))
      (pss_one (ps_ret (pv 1))))), ?_⟩
    refine fun d nd => ?_
    have el : (ns.map V.int).length = ns.length := List.length_map _
    have s1 := same_new nd (.dT [])
    refine ⟨_, rfl, a, _, rfl, .inl (s1.seq hS), _, _, rfl, rfl, ((ns.map V.int).length : Int) + 1, rfl, by rw [el]; omega, by rw [el]; omega, ?_⟩
    refine for_range (lo := 0) (n := (((ns.map V.int).length : Int) + 1).toNat) (fun i σ H2 => ∃ (kvs : List (List Key × V)) (x2 x3 x4 x5 : Option V), σ = [some (.ref a), some (.ref d), x2, x3, x4, x5] ∧ Same H H2 ∧ H2 d = some (.dT kvs) ∧ Done ns kvs i 0 ∧ kvs.length ≤ 30 * i) ?_ ?_ ?_
    · exact ⟨[], none, none, none, none, rfl, s1, upd_same, Done.nil ns, Nat.zero_le _⟩
    · rintro i σ H2 hi ⟨kvs, x2, x3, x4, x5, rfl, s2, hd2, hk2, hl2⟩
      rw [el] at hi
      have hi' : i ≤ ns.length := by omega
      -- for _law_low in range(len(row) - many + 1)
      refine ⟨_, rfl, a, _, rfl, .inl (s2.seq hS), _, rfl, _, _, rfl, rfl, _, _, rfl, rfl, ((ns.map V.int).length : Int) - (0 + (i : Int)) + 1, rfl, by rw [el]; omega, by rw [el]; omega, ?_⟩
      refine for_range (lo := 0) (n := (((ns.map V.int).length : Int) - (0 + (i : Int)) + 1).toNat) (fun j σ H3 => ∃ (kvs : List (List Key × V)) (x3 x4 x5 : Option V), σ = [some (.ref a), some (.ref d), some (.int (0 + (i : Int))), x3, x4, x5] ∧ Same H H3 ∧ H3 d = some (.dT kvs) ∧ Done ns kvs i j ∧ kvs.length ≤ 30 * i + 2 * j) ?_ ?_ ?_
      · exact ⟨kvs, x3, x4, x5, rfl, s2, hd2, hk2, hl2⟩
      · rintro j σ H3 hj ⟨kvs, x3, x4, x5, rfl, s3, hd3, hk3, hl3⟩
        rw [el] at hj
        -- _law_behind = _law_low + _law_many
        refine ⟨_, rfl, _, rfl, _, _, rfl, rfl, ?_⟩
        -- _law_found[(_law_low, _law_behind)] = 0
        refine ⟨_, rfl, _, rfl, _, rfl, (by show 2 ≤ sizeLine; decide), fun p np => ?_⟩
        have s4 := same_new np (.tup [V.int (0 + (j : Int)), V.int (0 + (j : Int) + (0 + (i : Int)))])
        have hd4 := s4 _ _ hd3
        have hl4 : kvs.length < sizeLine := size_lt (by omega)
        refine ⟨d, _, rfl, DPut.t (k := keyOf j i) hd4 (by rw [upd_same]; exact congrArg (fun z => some (HO.tup z)) (keyEq (by omega) (by omega))) hl4, ?_⟩
        generalize hH4 : upd H3 p (.tup [V.int (0 + (j : Int)), V.int (0 + (j : Int) + (0 + (i : Int)))]) = H4 at s4 hd4
        have hlp := length_putK kvs (keyOf j i) (.int 0)
        have s5 : Same H (upd H4 d (.dT (putK kvs (keyOf j i) (.int 0)))) := fun b o e => by
          rw [upd_ne (ne_of_none e nd)]
          exact s4 b o (s3 b o e)
        -- if _law_many > 0
        refine ⟨_, rfl, _, _, rfl, rfl, _, rfl, ?_⟩
        refine ite2 (fun c => ?_) (fun c => ?_)
        · have c' : (0 : Int) < 0 + (i : Int) := of_decide_eq_true c
          obtain ⟨k, rfl⟩ : ∃ k, i = k + 1 := ⟨i - 1, by omega⟩
          have hS5 := s5.seq hS
          -- one = row[low] - found[(low + 1, behind)]
          refine ⟨_, rfl, _, rfl, a, _, _, _, rfl, rfl, hS5, at_get (j := j) (by omega) (by omega), _, rfl, _, rfl, _, _, rfl, rfl, _, rfl, (by show 2 ≤ sizeLine; decide), fun p6 np6 => ?_⟩
          have s6 := same_new np6 (.tup [V.int (0 + (j : Int) + 1), V.int (0 + (j : Int) + (0 + ((k + 1 : Nat) : Int)))])
          have hd6 := s6 _ _ upd_same
          refine ⟨d, .int (wv ns k (j + 1)), rfl, ?_, ?_⟩
          · have g := DGet.t (k := keyOf (j + 1) k) (b := p6) hd6 (by rw [upd_same]; exact congrArg (fun z => some (HO.tup z)) (keyEq (by omega) (by omega)))
            rw [valV_put, if_neg (fun z => by have := keyOf_inj z; omega), hk3 k (j + 1) (by omega) (.inl (by omega))] at g
            exact g
          refine ⟨_, _, rfl, rfl, ?_⟩
          generalize hH6 : upd (upd H4 d (.dT (putK kvs (keyOf j (k + 1)) (.int 0)))) p6 (.tup [V.int (0 + (j : Int) + 1), V.int (0 + (j : Int) + (0 + ((k + 1 : Nat) : Int)))]) = H6 at s6 hd6
          have hS6 := s6.seq hS5
          -- found[(low, behind)] = max(one, row[behind - 1] - found[(low, behind - 1)])
          refine ⟨_, rfl, _, rfl, _, rfl, _, _, rfl, rfl, a, _, _, _, rfl, rfl, hS6, at_get (j := j + k) (by omega) (by omega), _, rfl, _, rfl, _, rfl, _, _, rfl, rfl, (by show 2 ≤ sizeLine; decide), fun p7 np7 => ?_⟩
          have s7 := same_new np7 (.tup [V.int (0 + (j : Int)), V.int (0 + (j : Int) + (0 + ((k + 1 : Nat) : Int)) - 1)])
          have hd7 := s7 _ _ hd6
          refine ⟨d, .int (wv ns k j), rfl, ?_, ?_⟩
          · have g := DGet.t (k := keyOf j k) (b := p7) hd7 (by rw [upd_same]; exact congrArg (fun z => some (HO.tup z)) (keyEq (by omega) (by omega)))
            rw [valV_put, if_neg (fun z => by have := keyOf_inj z; omega), hk3 k j (by omega) (.inl (by omega))] at g
            exact g
          refine ⟨_, _, rfl, rfl, _, _, rfl, ?_⟩
          have ew : (if ns.getD (j + k) 0 - wv ns k j > ns.getD j 0 - wv ns k (j + 1) then ns.getD (j + k) 0 - wv ns k j else ns.getD j 0 - wv ns k (j + 1)) = wv ns (k + 1) j := (wv_succ ns k j).symm
          rw [ew]
          generalize hH7 : upd H6 p7 (.tup [V.int (0 + (j : Int)), V.int (0 + (j : Int) + (0 + ((k + 1 : Nat) : Int)) - 1)]) = H7 at s7 hd7
          refine ⟨_, rfl, _, rfl, _, rfl, (by show 2 ≤ sizeLine; decide), fun p8 np8 => ?_⟩
          have s8 := same_new np8 (.tup [V.int (0 + (j : Int)), V.int (0 + (j : Int) + (0 + ((k + 1 : Nat) : Int)))])
          have hd8 := s8 _ _ hd7
          have hl8 : (putK kvs (keyOf j (k + 1)) (.int 0)).length < sizeLine := size_lt (by omega)
          refine ⟨d, _, rfl, DPut.t (k := keyOf j (k + 1)) hd8 (by rw [upd_same]; exact congrArg (fun z => some (HO.tup z)) (keyEq (by omega) (by omega))) hl8, ?_⟩
          refine ⟨_, _, _, _, rfl, fun b o e => ?_, upd_same, ?_, ?_⟩
          · rw [upd_ne (ne_of_none e nd)]
            exact s8 b o (s7 b o (s6 b o (s5 b o e)))
          · intro m low h1 h2
            rw [valV_put]
            by_cases e : keyOf low m = keyOf j (k + 1)
            · obtain ⟨rfl, rfl⟩ := keyOf_inj e
              rw [if_pos rfl]
            · rw [if_neg e, valV_put, if_neg e]
              refine hk3 m low h1 ?_
              rcases h2 with h2 | ⟨h2, h3⟩
              · exact .inl h2
              · refine .inr ⟨h2, ?_⟩
                have : low ≠ j := fun z => e (by rw [z, h2])
                omega
          · have := length_putK (putK kvs (keyOf j (k + 1)) (.int 0)) (keyOf j (k + 1)) (.int (wv ns (k + 1) j))
            omega
        · have c' : ¬ (0 : Int) < 0 + (i : Int) := fun z => c (decide_eq_true z)
          have i0 : i = 0 := by omega
          subst i0
          refine ⟨_, _, _, _, rfl, s5, upd_same, ?_, by omega⟩
          intro m low h1 h2
          rw [valV_put]
          by_cases e : keyOf low m = keyOf j 0
          · obtain ⟨rfl, rfl⟩ := keyOf_inj e
            rw [if_pos rfl, wv_zero]
          · rw [if_neg e]
            refine hk3 m low h1 ?_
            rcases h2 with h2 | ⟨h2, h3⟩
            · exact .inl h2
            · refine .inr ⟨h2, ?_⟩
              have : low ≠ j := fun z => e (by rw [z, h2])
              omega
      · rintro σ H3 ⟨kvs, x3, x4, x5, rfl, s3, hd3, hk3, hl3⟩
        rw [el] at hk3 hl3
        refine ⟨kvs, _, _, _, _, rfl, s3, hd3, ?_, by omega⟩
        intro m low h1 h2
        refine hk3 m low h1 ?_
        rcases h2 with h2 | ⟨h2, h3⟩
        · by_cases e : m = i
          · exact .inr ⟨e, by omega⟩
          · exact .inl (by omega)
        · omega
    · rintro σ H3 ⟨kvs, x2, x3, x4, x5, rfl, s3, hd3, hk3, hl3⟩
      rw [el] at hk3
      exact ⟨_, rfl, q kvs d H3 ⟨fun low n h => hk3 n low h (.inl (by omega))⟩ s3 nd hd3⟩
end
end K04
namespace K04
open PySem PySem.Spec PyProof.Rows L2 RE
section
variable {P : Program} {w : World} {K : PySem.W.Frag} {mg : Str → Option Value} {base : Heap} {A : Ad}
theorem ok__law_ends (T : Tx K mg A) : FnOk P w K mg base CX0 1 A.f__law_ends A.d__law_ends ["_law_row_here", "_law_low", "_law_behind", "_law_worths_here"] (spEnds K) := by
  refine T.F_law_ends.ok sc__law_ends (fun vs H Q E h => ?_) (fun cdv A' outer s H vs Q E hr h => ?_)
  · obtain ⟨a, d, ns, low, m, i, j, kvs, rfl, _⟩ := h
    rfl
  · obtain ⟨a, d, ns, low, m, i, j, kvs, rfl, ei, ej, hS, hd, hk, hm, q⟩ := h
    refine ⟨_, (pss_cons (ps_par (i := 4) (j := 5) rfl sc__law_ends.nd rfl rfl (by decide) rfl rfl (pa_cons (pe_lst pa_nil) (pa_cons (pe_dget (hu_of hr) (pv 3) (pe_tup (pa_cons (pv 1) (pa_cons (pv 2) pa_nil))) (fun _ _ => rfl)) pa_nil)) (by rfl))
      (pss_mid (ps_if (PW.pt (pw_and (pt_cmpR op_lt (pv 1) (pv 2) (nomark _)) (pw_and1 (pt_cmpR op_eq (pe_op op_sub (pe_ix ix_list (pv 0) (pv 1) (fun _ _ => rfl)) (pe_dget (hu_of hr) (pv 3) (pe_tup (pa_cons (pe_op op_add (pv 1) pe_int) (pa_cons (pv 2) pa_nil))) (fun _ _ => rfl))) (pv 5) (nomark _))))) (pss_one (ps_expr (pe_bm PySem.F.plainAttrs_list PySem.F.slot_list_append PySem.F.type_list_append mt_append (pv 4) (pa_cons pe_str pa_nil)))) pss_nil)
      (pss_cons (ps_if (PW.pt (pw_and (pt_cmpR op_lt (pv 1) (pv 2) (nomark _)) (pw_and1 (pt_cmpR op_eq (pe_op op_sub (pe_ix ix_list (pv 0) (pe_op op_sub (pv 2) pe_int) (fun _ _ => rfl)) (pe_dget (hu_of hr) (pv 3) (pe_tup (pa_cons (pv 1) (pa_cons (pe_op op_sub (pv 2) pe_int) pa_nil))) (fun _ _ => rfl))) (pv 5) (nomark _))))) (pss_one (ps_expr (pe_bm PySem.F.plainAttrs_list PySem.F.slot_list_append PySem.F.type_list_append mt_append (pv 4) (pa_cons pe_str pa_nil)))) pss_nil)
      (pss_one (ps_ret (pv 4)))))), ?_⟩
    -- _law_found, _law_due = [], _law_worths_here[(_law_low, _law_behind)]
    refine ⟨Nat.zero_le _, fun f nf => ?_⟩
    have s1 := same_new nf (.lst [])
    refine ⟨_, rfl, _, rfl, _, rfl, (by show 2 ≤ sizeLine; decide), fun p np => ?_⟩
    have s2 := same_new np (.tup [V.int i, V.int j])
    have hd2 := s2 _ _ (s1 _ _ hd)
    have hf2 := s2 _ _ (upd_same (H := H) (a := f) (o := .lst []))
    refine ⟨d, .int (wv ns m low), rfl, ?_, ?_⟩
    · have g := DGet.t (k := keyOf low m) (b := p) hd2 (by rw [upd_same]; exact congrArg (fun z => some (HO.tup z)) (keyEq ei ej))
      rw [hk.val low m hm] at g
      exact g
    generalize hH2 : upd (upd H f (.lst [])) p (.tup [V.int i, V.int j]) = H2 at s2 hd2 hf2
    have s12 : Same H H2 := s1.trans s2
    refine ⟨_, _, rfl, ?_⟩
    cases m with
    | zero =>
      -- no coins
      have no : decide (i < j) = false := decide_eq_false (by omega)
      refine ⟨fun σ' H3 => σ' = [some (.ref a), some (.int i), some (.int j), some (.ref d), some (.ref f), some (.int (wv ns 0 low))] ∧ H3 = H2, ?_, ?_⟩
      · refine ⟨_, rfl, _, rfl, _, _, rfl, rfl, _, rfl, ?_⟩
        rw [no]
        exact iteF (iteF ⟨rfl, rfl⟩)
      · rintro σ' H3 ⟨rfl, rfl⟩
        refine ⟨_, rfl, _, rfl, _, _, rfl, rfl, _, rfl, ?_⟩
        rw [no]
        refine iteF (iteF ?_)
        exact ⟨_, rfl, q H3 f s12 nf hf2⟩
    | succ m =>
      have yes : decide (i < j) = true := decide_eq_true (by omega)
      have bt : bestB ns low m true = decide (ns.getD low 0 - wv ns m (low + 1) = wv ns (m + 1) low) := rfl
      have bf : bestB ns low m false = decide (ns.getD (low + m) 0 - wv ns m low = wv ns (m + 1) low) := rfl
      have dv : ∀ x y : Int, decide (V.int x = V.int y) = decide (x = y) := fun x y => by
        by_cases c : x = y
        · rw [decide_eq_true c, decide_eq_true (congrArg V.int c)]
        · rw [decide_eq_false c, decide_eq_false (fun z => c (V.int.inj z))]
      refine ⟨fun σ' H3 => σ' = [some (.ref a), some (.int i), some (.int j), some (.ref d), some (.ref f), some (.int (wv ns (m + 1) low))] ∧ Same H H3 ∧ H3 d = some (.dT kvs) ∧ H3 f = some (.lst (([true].filter (bestB ns low m)).map fun b => V.str (sideS b))), ?_, ?_⟩
      · refine ⟨_, rfl, _, rfl, _, _, rfl, rfl, _, rfl, ?_⟩
        rw [yes]
        refine iteT ?_
        refine ⟨_, rfl, _, rfl, a, _, _, _, rfl, rfl, s12.seq hS, at_get ei (by omega), _, rfl, _, rfl, _, _, rfl, rfl, _, rfl, (by show 2 ≤ sizeLine; decide), fun p3 np3 => ?_⟩
        have s3 := same_new np3 (.tup [V.int (i + 1), V.int j])
        have hd3 := s3 _ _ hd2
        have hf3 := s3 _ _ hf2
        refine ⟨d, .int (wv ns m (low + 1)), rfl, ?_, ?_⟩
        · have g := DGet.t (k := keyOf (low + 1) m) (b := p3) hd3 (by rw [upd_same]; exact congrArg (fun z => some (HO.tup z)) (keyEq (by omega) (by omega)))
          rw [hk.val (low + 1) m (by omega)] at g
          exact g
        refine ⟨_, _, rfl, rfl, _, rfl, rfl, _, rfl, ?_⟩
        rw [dv, ← bt]
        generalize hH3 : upd H2 p3 (.tup [V.int (i + 1), V.int j]) = H3 at s3 hd3 hf3
        cases c : bestB ns low m true with
        | true =>
          refine iteT ?_
          refine ⟨_, rfl, .inl ⟨rfl, _, SqL.of hf3⟩, f, _, _, rfl, rfl, hf3, by show 0 < sizeLine; decide, ?_⟩
          refine ⟨rfl, fun b o e => ?_, ?_, ?_⟩
          · rw [upd_ne (ne_of_none e nf)]
            exact s3 b o (s12 b o e)
          · rw [upd_ne (ne_of hd3 hf3 (by intro z; cases z))]
            exact hd3
          · rw [upd_same, List.filter_cons, if_pos c]
            rfl
        | false =>
          refine iteF ?_
          refine ⟨rfl, s12.trans s3, hd3, ?_⟩
          rw [List.filter_cons, c, if_neg Bool.false_ne_true]
          exact hf3
      · rintro σ' H3 ⟨rfl, s3, hd3, hf3⟩
        refine ⟨_, rfl, _, rfl, _, _, rfl, rfl, _, rfl, ?_⟩
        rw [yes]
        refine iteT ?_
        refine ⟨_, rfl, _, rfl, _, _, rfl, rfl, a, _, _, _, rfl, rfl, s3.seq hS, at_get (j := low + m) (by omega) (by omega), _, rfl, _, rfl, _, rfl, _, _, rfl, rfl, (by show 2 ≤ sizeLine; decide), fun p4 np4 => ?_⟩
        have s4 := same_new np4 (.tup [V.int i, V.int (j - 1)])
        have hd4 := s4 _ _ hd3
        have hf4 := s4 _ _ hf3
        refine ⟨d, .int (wv ns m low), rfl, ?_, ?_⟩
        · have g := DGet.t (k := keyOf low m) (b := p4) hd4 (by rw [upd_same]; exact congrArg (fun z => some (HO.tup z)) (keyEq (by omega) (by omega)))
          rw [hk.val low m (by omega)] at g
          exact g
        refine ⟨_, _, rfl, rfl, _, rfl, rfl, _, rfl, ?_⟩
        rw [dv, ← bf]
        generalize hH4 : upd H3 p4 (.tup [V.int i, V.int (j - 1)]) = H4 at s4 hd4 hf4
        have ef : ends ns (m + 1) low = [true].filter (bestB ns low m) ++ [false].filter (bestB ns low m) := by
          rw [ends_filter, ← List.filter_append]
          rfl
        rw [ef] at q
        cases c : bestB ns low m false with
        | true =>
          refine iteT ?_
          refine ⟨_, rfl, .inl ⟨rfl, _, SqL.of hf4⟩, f, _, _, rfl, rfl, hf4, ?_, ?_⟩
          · rw [List.length_map]
            have z := List.length_filter_le (bestB ns low m) [true]
            exact size_lt (Nat.lt_of_le_of_lt z (by decide))
          · refine ⟨_, rfl, q _ f (fun b o e => ?_) nf ?_⟩
            · rw [upd_ne (ne_of_none e nf)]
              exact s4 b o (s3 b o e)
            · rw [upd_same, List.map_append]
              congr 3
              rw [List.filter_cons, if_pos c]
              rfl
        | false =>
          refine iteF ?_
          refine ⟨_, rfl, q _ f (s3.trans s4) nf ?_⟩
          rw [List.filter_cons (x := false), c, if_neg Bool.false_ne_true, List.filter_nil, List.append_nil]
          exact hf4
end
end K04
namespace K04
open PySem PySem.Spec PyProof.Rows L2 RE
section
variable {P : Program} {w : World} {K : PySem.W.Frag} {mg : Str → Option Value} {base : Heap} {A : Ad}
theorem ok__law_whole (T : Tx K mg A) : FnOk P w K mg base CX0 1 A.f__law_whole A.d__law_whole ["_law_found"] (spWhole K) := by
  refine T.F_law_whole.ok sc__law_whole (fun vs H Q E h => ?_) (fun cdv A' outer s H vs Q E hr h => ?_)
  · obtain ⟨x, T, rfl, _⟩ := h
    rfl
  · obtain ⟨x, ty, rfl, hx, q⟩ := h
    refine ⟨_, (pss_one (ps_ret (pe_and (pe_callB call_isi (by rfl) T.bisinstance (by decide +kernel) (pa_cons (pv 0) (pa_cons (pe_bltn (v := .ty "int") (by rfl) T.bint (by decide +kernel) rfl) pa_nil))) (pe_one (pe_not (pe_callB call_isi (by rfl) T.bisinstance (by decide +kernel) (pa_cons (pv 0) (pa_cons (pe_bltn (v := .ty "bool") (by rfl) T.bbool (by decide +kernel) rfl) pa_nil)))))))), ?_⟩
    refine ⟨_, rfl, _, _, _, _, _, rfl, .ty _, hx.ty, kit_int hx.mem, _, rfl, ?_⟩
    revert q
    cases e : (ty == "int" || ty == "bool") with
    | false =>
      intro q
      refine iteF ?_
      have e1 : (ty == "int") = false := (Bool.or_eq_false_iff.mp e).1
      rw [e1] at q
      exact q
    | true =>
      intro q
      refine iteT ?_
      refine ⟨_, rfl, _, _, _, _, _, rfl, .ty _, hx.ty, kit_bool hx.mem, _, rfl, ?_⟩
      have e2 : (!(ty == "bool")) = (ty == "int") := by
        rcases Bool.or_eq_true_iff.mp e with z | z
        · have := eq_of_beq z
          subst this
          decide
        · have := eq_of_beq z
          subst this
          decide
      rw [e2]
      exact q
end
end K04
namespace K04
open PySem PySem.Spec PyProof.Rows L2 RE
section
variable {P : Program} {w : World} {K : PySem.W.Frag} {mg : Str → Option Value} {base : Heap} {A : Ad}
theorem ok__law_led (T : Tx K mg A) : FnOk P w K mg base CX0 1 A.f__law_led A.d__law_led ["_law_row_here", "_law_takes"] (spLLed K) := by
  refine T.F_law_led.ok sc__law_led (fun vs H Q E h => ?_) (fun cdv A' outer s H vs Q E hr h => ?_)
  · obtain ⟨r, a, ns, bs, rfl, _⟩ := h
    rfl
  · obtain ⟨r, a, ns, bs, rfl, hS, hs, hl, q⟩ := h
    refine ⟨_, (pss_cons (ps_par (i := 2) (j := 3) rfl sc__law_led.nd rfl rfl (by decide) rfl rfl (pa_cons (pe_callTy call_list_of (by rfl) T.blist (by decide +kernel) (pa_cons (pv 0) pa_nil)) (pa_cons (pe_lst (pa_cons pe_int (pa_cons pe_int pa_nil))) pa_nil)) (by rfl))
      (pss_cons (ps_for PassesOwn.never rfl (pi_enum (by rfl) T.benumerate (pa_cons (pv 1) pa_nil)) (pg_tup rfl (pgs_cons (pg_name (i := 4) sc__law_led.nd rfl (Or.inl rfl)) (pgs_cons (pg_name (i := 5) sc__law_led.nd rfl (Or.inl rfl)) pgs_nil)))
      (pss_one (ps_asg (pe_op op_add (pe_ix ix_list (pv 3) (pe_op op_mod (pv 4) pe_int) (fun _ _ => rfl)) (pe_bm PySem.F.plainAttrs_list PySem.F.slot_list_pop PySem.F.type_list_pop mt_popAt (pv 2) (pa_cons (pe_ifExp (pt_cmpR op_eq (pv 5) pe_str (nomark _)) pe_int (pe_un un_neg pe_int)) pa_nil))) (pg_sub (pv 3) (pe_op op_mod (pv 4) pe_int) set_list))))
      (pss_one (ps_ret (pe_tup (pa_cons (pe_ix ix_list (pv 3) pe_int (fun _ _ => rfl)) (pa_cons (pe_ix ix_list (pv 3) pe_int (fun _ _ => rfl)) (pa_cons (pv 2) pa_nil)))))))), ?_⟩
    -- _law_left, _law_sums = list(_law_row_here), [0, 0]
    refine ⟨_, rfl, r, _, rfl, .inl hS, fun l nl => ⟨(by show 2 ≤ sizeLine; decide), fun u nu => ⟨_, _, rfl, ?_⟩⟩⟩
    have s1 := same_new nl (.lst (ns.map V.int))
    have hl1 := same_new nu (.lst [V.int 0, V.int 0]) _ _ (upd_same (H := H) (a := l) (o := .lst (ns.map V.int)))
    have s2 := s1.trans (same_new nu (.lst [V.int 0, V.int 0]))
    have nul : u ≠ l := fun e => by rw [e, upd_same] at nu; cases nu
    have nuH : H u = none := by rw [upd_ne nul] at nu; exact nu
    refine ⟨_, rfl, a, _, rfl, s2.seq hs, ?_⟩
    refine for_enum (K := K) (a := a) (xs := sidesV bs) (fun i σ H4 => ∃ (low n : Nat) (x4 x5 : Option V) (x y : Int), σ = [some (.ref r), some (.ref a), some (.ref l), some (.ref u), x4, x5] ∧
      Same H H4 ∧ H4 u = some (.lst [V.int x, V.int y]) ∧ H4 l = some (.lst ((stretch ns low n).map V.int)) ∧ low + n ≤ ns.length ∧ n + i = ns.length ∧ ledLow low (bs.drop i) = ledLow 0 bs ∧
      (i % 2 = 0 → x + (ledR ns n low (bs.drop i)).1 = (ledR ns ns.length 0 bs).1 ∧ y + (ledR ns n low (bs.drop i)).2 = (ledR ns ns.length 0 bs).2) ∧
      (i % 2 = 1 → y + (ledR ns n low (bs.drop i)).1 = (ledR ns ns.length 0 bs).2 ∧ x + (ledR ns n low (bs.drop i)).2 = (ledR ns ns.length 0 bs).1)) ?_ ?_ ?_ ?_
    · refine ⟨0, ns.length, none, none, 0, 0, rfl, s2, upd_same, ?_, by omega, rfl, rfl, fun _ => ⟨by rw [List.drop_zero]; omega, by rw [List.drop_zero]; omega⟩, fun h => by omega⟩
      rw [stretch_all]
      exact hl1
    · rintro i σ H4 ⟨low, n, x4, x5, x, y, rfl, s4, _⟩
      exact s4.seq hs
    · rintro i y T σ H4 hi ⟨low, n, x4, x5, x, yy, rfl, s4, hu4, hl4, hn, hni, hlow, hev, hod⟩ nT
      have hlt : i < bs.length := by
        have := (List.getElem?_eq_some_iff.mp hi).1
        rw [sidesV_len] at this
        exact this
      have hy : y = V.str (sideS bs[i]) := by
        unfold sidesV at hi
        rw [List.getElem?_map, List.getElem?_eq_getElem hlt] at hi
        exact (Option.some.inj hi).symm
      subst hy
      have hdrop : bs.drop i = bs[i] :: bs.drop (i + 1) := List.drop_eq_getElem_cons hlt
      obtain ⟨m, rfl⟩ : ∃ m, n = m + 1 := ⟨n - 1, by omega⟩
      generalize hb : bs[i] = b at *
      have s5 := same_new nT (.tup [.int (i : Nat), V.str (sideS b)])
      refine ⟨T, _, rfl, SqT.of upd_same, rfl, _, _, rfl, _, _, rfl, rfl, ?_⟩
      have hu6 := s5 _ _ hu4
      have hl6 := s5 _ _ hl4
      have s46 := s4.trans s5
      generalize hH6 : upd H4 T (.tup [.int (i : Nat), V.str (sideS b)]) = H6 at hu6 hl6 s46
      rw [hdrop] at hlow hev hod
      rw [ledR_cons] at hev hod
      have hlen : ((stretch ns low (m + 1)).map V.int).length = m + 1 := by rw [List.length_map, stretch_len hn]
      have ty : tyV K "list" (.ref l) H6 := .inl ⟨rfl, _, SqL.of hl6⟩
      -- the sums
      obtain ⟨z, hz, hset, x', y', he', hev', hod'⟩ : ∃ z : Int, atI [V.int x, V.int yy] (((i : Nat) : Int) % 2) = some (.int z) ∧ ixN [V.int x, V.int yy].length (((i : Nat) : Int) % 2) = some (i % 2) ∧ ∃ x' y' : Int, [V.int x, V.int yy].set (i % 2) (.int (z + coinOf ns b low m)) = [V.int x', V.int y'] ∧
          ((i + 1) % 2 = 0 → x' + (ledR ns m (lowOf b low) (bs.drop (i + 1))).1 = (ledR ns ns.length 0 bs).1 ∧ y' + (ledR ns m (lowOf b low) (bs.drop (i + 1))).2 = (ledR ns ns.length 0 bs).2) ∧
          ((i + 1) % 2 = 1 → y' + (ledR ns m (lowOf b low) (bs.drop (i + 1))).1 = (ledR ns ns.length 0 bs).2 ∧ x' + (ledR ns m (lowOf b low) (bs.drop (i + 1))).2 = (ledR ns ns.length 0 bs).1) := by
        rcases Nat.mod_two_eq_zero_or_one i with par | par
        · have ei : ((i : Nat) : Int) % 2 = ((0 : Nat) : Int) := by omega
          obtain ⟨h1, h2⟩ := hev par
          have h1' : x + (coinOf ns b low m + (ledR ns m (lowOf b low) (bs.drop (i + 1))).2) = (ledR ns ns.length 0 bs).1 := h1
          have h2' : yy + (ledR ns m (lowOf b low) (bs.drop (i + 1))).1 = (ledR ns ns.length 0 bs).2 := h2
          rw [ei, par]
          exact ⟨x, rfl, rfl, x + coinOf ns b low m, yy, rfl, fun h => by omega, fun _ => ⟨by omega, by omega⟩⟩
        · have ei : ((i : Nat) : Int) % 2 = ((1 : Nat) : Int) := by omega
          obtain ⟨h1, h2⟩ := hod par
          have h1' : yy + (coinOf ns b low m + (ledR ns m (lowOf b low) (bs.drop (i + 1))).2) = (ledR ns ns.length 0 bs).2 := h1
          have h2' : x + (ledR ns m (lowOf b low) (bs.drop (i + 1))).1 = (ledR ns ns.length 0 bs).1 := h2
          rw [ei, par]
          exact ⟨yy, rfl, rfl, x, yy + coinOf ns b low m, rfl, fun _ => ⟨by omega, by omega⟩, fun h => by omega⟩
      refine ⟨_, rfl, _, rfl, _, _, rfl, rfl, (by show (0 : Int) < 2; decide), u, _, _, .int z, rfl, rfl, SqL.of hu6, hz, _, rfl, ty, _, rfl, rfl, _, rfl, ?_⟩
      cases b with
      | true =>
        obtain ⟨h1, h2⟩ := pop_first hn
        refine iteTb (decide_eq_true rfl) ?_
        refine ⟨l, _, 0, 0, _, rfl, rfl, hl6, by decide, by decide, by rw [hlen]; exact seqIndex_of (by decide) (by omega), h2, ?_⟩
        rw [h1]
        refine ⟨_, _, rfl, rfl, ?_⟩
        have hu7 : (upd H6 l (.lst ((stretch ns (low + 1) m).map V.int))) u = some (.lst [V.int x, V.int yy]) := by rw [upd_ne nul]; exact hu6
        refine ⟨_, rfl, _, rfl, _, _, rfl, rfl, (by show (0 : Int) < 2; decide), u, _, _, i % 2, rfl, rfl, hu7, hset, ?_⟩
        refine ⟨low + 1, m, _, _, x', y', rfl, fun c o e => ?_, ?_, ?_, by omega, by omega, hlow, hev', hod'⟩
        · rw [upd_ne (ne_of_none e nuH), upd_ne (ne_of_none e nl)]
          exact s46 c o e
        · rw [upd_same]
          exact congrArg (fun z => some (HO.lst z)) he'
        · rw [upd_ne nul.symm, upd_same]
      | false =>
        obtain ⟨h1, h2⟩ := pop_last hn
        refine iteFb (decide_eq_false (fun z => absurd (V.str.inj z) (by decide +kernel))) ?_
        refine ⟨1, rfl, l, _, -1, m, _, rfl, rfl, hl6, by decide, by decide, ?_, h2, ?_⟩
        · rw [hlen, seqIndex_neg (by decide) (by omega)]
          congr 1
          omega
        rw [h1]
        refine ⟨_, _, rfl, rfl, ?_⟩
        have hu7 : (upd H6 l (.lst ((stretch ns low m).map V.int))) u = some (.lst [V.int x, V.int yy]) := by rw [upd_ne nul]; exact hu6
        refine ⟨_, rfl, _, rfl, _, _, rfl, rfl, (by show (0 : Int) < 2; decide), u, _, _, i % 2, rfl, rfl, hu7, hset, ?_⟩
        refine ⟨low, m, _, _, x', y', rfl, fun c o e => ?_, ?_, ?_, by omega, by omega, hlow, hev', hod'⟩
        · rw [upd_ne (ne_of_none e nuH), upd_ne (ne_of_none e nl)]
          exact s46 c o e
        · rw [upd_same]
          exact congrArg (fun z => some (HO.lst z)) he'
        · rw [upd_ne nul.symm, upd_same]
    · rintro σ H4 ⟨low, n, x4, x5, x, y, rfl, s4, hu4, hl4, hn, hni, hlow, hev, hod⟩
      rw [sidesV_len] at hni hlow hev hod
      rw [List.drop_length] at hlow hev hod
      rw [ledR_nil] at hev hod
      have hx : x = (ledR ns ns.length 0 bs).1 ∧ y = (ledR ns ns.length 0 bs).2 := by
        rcases Nat.mod_two_eq_zero_or_one bs.length with par | par
        · obtain ⟨h1, h2⟩ := hev par
          exact ⟨by have : x + 0 = _ := h1; omega, by have : y + 0 = _ := h2; omega⟩
        · obtain ⟨h1, h2⟩ := hod par
          exact ⟨by have : x + 0 = _ := h2; omega, by have : y + 0 = _ := h1; omega⟩
      have hlow' : low = ledLow 0 bs := hlow
      have hn' : n = ns.length - bs.length := by omega
      refine ⟨_, rfl, u, _, _, _, rfl, rfl, SqL.of hu4, atI_nat (j := 0) rfl, _, rfl, u, _, _, _, rfl, rfl, SqL.of hu4, atI_nat (j := 1) rfl, _, rfl, (by show 3 ≤ sizeLine; decide), fun p np => ?_⟩
      have s8 := same_new np (.tup [V.int x, V.int y, V.ref l])
      refine q _ p l (s4.trans s8) (s4.free np) nl ?_ ?_
      · rw [upd_same, hx.1, hx.2]
      · refine s8 _ _ ?_
        rw [← hlow', ← hn']
        exact hl4
theorem step__law_plays (T : Tx K mg A) {n : Nat} (G_law_plays : FnOk P w K mg base CX0 (n + 1) A.f__law_plays A.d__law_plays ["_law_row_here", "_law_low", "_law_behind", "_law_worths_here"] (spLPlays K n)) :
    FnOk P w K mg base CX0 (n + 1 + 1) A.f__law_plays A.d__law_plays ["_law_row_here", "_law_low", "_law_behind", "_law_worths_here"] (spLPlays K (n + 1)) := by
  have G_law_ends : FnOk P w K mg base CX0 1 A.f__law_ends A.d__law_ends ["_law_row_here", "_law_low", "_law_behind", "_law_worths_here"] (spEnds K) := ok__law_ends T
  refine T.F_law_plays.ok sc__law_plays (fun vs H Q E h => ?_) (fun cdv A' outer s H vs Q E hr h => ?_)
  · obtain ⟨a, d, ns, low, m, i, j, kvs, rfl, _⟩ := h
    rfl
  · obtain ⟨a, d, ns, low, m, i, j, kvs, rfl, ei, ej, hS, hd, hk, h12, hm, hn, q⟩ := h
    refine ⟨_, (pss_cons (ps_if (pt_cmpR op_eq (pv 1) (pv 2) (nomark _)) (pss_one (ps_ret (pe_lst (pa_cons (pe_lst pa_nil) pa_nil)))) pss_nil)
      (pss_cons (ps_set (i := 4) sc__law_plays.nd rfl (Or.inl rfl) (pe_lst pa_nil))
      (pss_cons (ps_for PassesOwn.never rfl (pi_list (pe_call G_law_ends (hr.mono (by first | decide | omega)) (by rfl) T.g_law_ends T.F_law_ends.kp T.b_law_ends .nil pass0 (pa_cons (pv 0) (pa_cons (pv 1) (pa_cons (pv 2) (pa_cons (pv 3) pa_nil)))))) (pg_name (i := 5) sc__law_plays.nd rfl (Or.inr rfl))
      (pss_mid (ps_asg (pe_ifExp (pt_cmpR op_eq (pv 5) pe_str (nomark _)) (pe_tup (pa_cons (pe_op op_add (pv 1) pe_int) (pa_cons (pv 2) pa_nil))) (pe_tup (pa_cons (pv 1) (pa_cons (pe_op op_sub (pv 2) pe_int) pa_nil)))) (pg_tup rfl (pgs_cons (pg_name (i := 6) sc__law_plays.nd rfl (Or.inl rfl)) (pgs_cons (pg_name (i := 7) sc__law_plays.nd rfl (Or.inl rfl)) pgs_nil))))
      (pss_one (ps_set (i := 4) sc__law_plays.nd rfl (Or.inl rfl) (pe_op op_cat (pv 4) (pe_lc (own := [("_law_play", 8)]) (by rfl) sc__law_plays.nd (pi_list (pe_call G_law_plays (hr.mono (by first | decide | omega)) (by rfl) T.g_law_plays T.F_law_plays.kp T.b_law_plays .nil pass0 (pa_cons (pv 0) (pa_cons (pv 6) (pa_cons (pv 7) (pa_cons (pv 3) pa_nil)))))) (blkOk_by (own := [("_law_play", 8)]) (N := N__law_plays) (sc := defScope s__law_plays) (by decide +kernel)) (fun _ _ _ _ _ => (pg_name (i := 8) sc__law_plays.nd rfl (Or.inl rfl))) (fun _ _ _ _ _ => pts_nil) (fun _ _ _ _ _ => (pe_op op_cat (pe_lst (pa_cons (pv 5) pa_nil)) (pv 8)))))))))
      (pss_one (ps_ret (pv 4)))))), ?_⟩
    refine ⟨_, rfl, _, rfl, rfl, _, rfl, ?_⟩
    cases m with
    | zero =>
      refine iteTb (decide_eq_true (congrArg V.int (by omega))) ?_
      refine ⟨Nat.zero_le _, fun p np => ⟨(by show 1 ≤ sizeLine; decide), fun p2 np2 => ?_⟩⟩
      have s1 := same_new np (.lst [])
      have s2 := same_new np2 (.lst [.ref p])
      exact q _ p2 _ (s1.trans s2) (s1.free np2) upd_same (.cons (s2 _ _ upd_same) .nil)
    | succ m =>
      refine iteFb (decide_eq_false (fun z => by have z' : i = j := V.int.inj z; omega)) ?_
      -- _law_found = []
      refine ⟨Nat.zero_le _, fun f0 nf0 => ?_⟩
      have s0 := same_new nf0 (.lst [])
      -- for _law_side in _law_ends(..)
      refine ⟨_, rfl, _, rfl, _, rfl, _, rfl, ?_⟩
      refine ⟨a, d, ns, low, m + 1, _, _, kvs, rfl, ei, ej, s0.seq hS, s0 _ _ hd, hk, hm, fun H1 p s1 np hp => ?_⟩
      have s01 := s0.trans s1
      refine ⟨p, rfl, ⟨_, SqL.of hp⟩, ?_⟩
      refine for_list (K := K) (a := p) (xs := sidesV (ends ns (m + 1) low)) (fun t σ H2 => ∃ (f : Addr) (xs : List V) (x5 x6 x7 x8 : Option V), σ = [some (.ref a), some (.int i), some (.int j), some (.ref d), some (.ref f), x5, x6, x7, x8] ∧
        Same H1 H2 ∧ H f = none ∧ H2 f = some (.lst xs) ∧ Lsts H2 xs (((ends ns (m + 1) low).take t).flatMap fun b => (plays ns m (lowOf b low)).map fun p => b :: p)) ⟨f0, [], none, none, none, none, rfl, Same.refl _, nf0, s1 _ _ upd_same, .nil⟩ ?_ ?_ ?_
      · rintro t σ H2 _ ⟨f, xs, x5, x6, x7, x8, rfl, s2, _⟩
        exact SqL.of (s2 _ _ hp)
      · rintro t y σ H2 hi ⟨f, xs, x5, x6, x7, x8, rfl, s2, nf, hf2, hL2⟩
        have hlt : t < (ends ns (m + 1) low).length := by
          have := (List.getElem?_eq_some_iff.mp hi).1
          rw [sidesV_len] at this
          exact this
        have hy : y = V.str (sideS (ends ns (m + 1) low)[t]) := by
          unfold sidesV at hi
          rw [List.getElem?_map, List.getElem?_eq_getElem hlt] at hi
          exact (Option.some.inj hi).symm
        subst hy
        have hget : (ends ns (m + 1) low)[t]? = some (ends ns (m + 1) low)[t] := List.getElem?_eq_getElem hlt
        generalize (ends ns (m + 1) low)[t] = b at hget
        -- _law_left, _law_right
        refine ⟨fun σ' H3 => σ' = [some (.ref a), some (.int i), some (.int j), some (.ref d), some (.ref f), some (.str (sideS b)), some (.int (lowOf b low : Nat)), some (.int ((lowOf b low + m : Nat) : Int)), x8] ∧ Same H2 H3, ?_, ?_⟩
        · refine ⟨_, rfl, rfl, _, rfl, ?_⟩
          cases b with
          | true =>
            refine iteTb (decide_eq_true rfl) ?_
            refine ⟨_, rfl, _, _, rfl, rfl, _, rfl, (by show 2 ≤ sizeLine; decide), fun t2 nt2 => ?_⟩
            refine ⟨t2, _, rfl, SqT.of upd_same, rfl, _, _, rfl, _, _, rfl, rfl, ?_, same_new nt2 _⟩
            have e1 : i + 1 = ((low + 1 : Nat) : Int) := by omega
            have e2 : j = ((low + 1 + m : Nat) : Int) := by omega
            show [some (.ref a), some (.int i), some (.int j), some (.ref d), some (.ref f), some (.str (sideS true)), some (V.int (i + 1)), some (V.int j), x8] = _
            rw [e1, e2]
            rfl
          | false =>
            refine iteFb (decide_eq_false (fun z => absurd (V.str.inj z) (by decide +kernel))) ?_
            refine ⟨_, rfl, _, rfl, _, _, rfl, rfl, (by show 2 ≤ sizeLine; decide), fun t2 nt2 => ?_⟩
            refine ⟨t2, _, rfl, SqT.of upd_same, rfl, _, _, rfl, _, _, rfl, rfl, ?_, same_new nt2 _⟩
            have e2 : j - 1 = ((low + m : Nat) : Int) := by omega
            show [some (.ref a), some (.int i), some (.int j), some (.ref d), some (.ref f), some (.str (sideS false)), some (V.int i), some (V.int (j - 1)), x8] = _
            rw [e2]
            subst ei
            rfl
        · rintro σ' H3 ⟨rfl, s3⟩
          have s03 := s01.trans (s2.trans s3)
          have s13 := s2.trans s3
          -- _law_found + [[_law_side] + _law_play for ..]
          refine ⟨_, rfl, _, rfl, _, rfl, _, rfl, _, rfl, ?_⟩
          refine ⟨a, d, ns, lowOf b low, m, _, _, kvs, rfl, rfl, rfl, s03.seq hS, s03 _ _ hd, hk, h12, by have := lowOf_le b low m; omega, by omega, fun H4 g ys s4 ng hg hL4 => ?_⟩
          refine ⟨g, rfl, ⟨_, SqL.of hg⟩, fun D nD => lc_list (K := K) (a := g) (xs := ys) (fun t H5 => Same H4 H5 ∧ ∃ zs, H5 D = some (.lst zs) ∧ Lsts (hide D H5) zs (((plays ns m (lowOf b low)).take t).map fun p => b :: p)) ⟨same_new nD _, [], upd_same, .nil⟩ (fun t H5 _ h5 => SqL.of (h5.1 _ _ hg)) ?_ ?_⟩
          · rintro t x H5 hx ⟨s5, zs, hD5, hL5⟩
            obtain ⟨qa, pl, rfl, hpl, hqa⟩ := hL4.getX hx
            refine ⟨rfl, ?_⟩
            -- [_law_side] + _law_play
            refine ⟨_, rfl, (by show 1 ≤ sizeLine; decide), fun o1 no1 => ?_⟩
            have s6 := same_new no1 (.lst [V.str (sideS b)])
            have hqa6 := s6 _ _ (s5 _ _ hqa)
            have plen : pl.length = m := plays_length ns m _ pl (List.mem_of_getElem? hpl)
            refine ⟨_, rfl, o1, qa, _, _, rfl, rfl, upd_same, hqa6, by rw [sidesV_len]; exact size_le (by show 1 + pl.length ≤ 100000; omega), fun o2 no2 => ?_⟩
            have s7 := same_new no2 (.lst ([V.str (sideS b)] ++ sidesV pl))
            have hD7 := s7 _ _ (s6 _ _ hD5)
            have hzl := hL5.len
            have h2m := plays_le ns m (lowOf b low)
            have h212 : 2 ^ m ≤ 2 ^ 12 := Nat.pow_le_pow_right (by decide) (by omega)
            have nDo : o2 ≠ D := (ne_of_none (s6 _ _ hD5) no2).symm
            refine ⟨zs, hD7, ?_, fun c o e => ?_, zs ++ [.ref o2], upd_same, ?_⟩
            · rw [hzl, List.length_map, List.length_take]
              exact size_lt (by omega)
            · rw [upd_ne (ne_of_none e nD)]
              exact s7 c o (s6 c o (s5 c o e))
            · rw [List.take_add_one, hpl, List.map_append]
              have sx : SameBut D H5 (upd (upd (upd H5 o1 (.lst [V.str (sideS b)])) o2 (.lst ([V.str (sideS b)] ++ sidesV pl))) D (.lst (zs ++ [V.ref o2]))) := fun c o nc e => by
                rw [upd_ne nc]
                exact s7 _ _ (s6 _ _ e)
              refine Lsts.app (.cons ?_ .nil) (hL5.mono (hide_same sx))
              rw [hide_ne nDo, upd_ne nDo, upd_same]
              rfl
          · rintro H5 ⟨s5, zs, hD5, hL5⟩
            rw [hL4.len, List.take_length] at hL5
            have hL5' := hL5.mono (hide_of D H5)
            have s15 := s13.trans (s4.trans s5)
            have hL15 := hL2.mono (s3.trans (s4.trans s5))
            have hf5 := s5 _ _ (s4 _ _ (s3 _ _ hf2))
            have h2m := plays_le ns m (lowOf b low)
            have h212 : 2 ^ m ≤ 2 ^ 12 := Nat.pow_le_pow_right (by decide) (by omega)
            have hxl : xs.length ≤ 2 ^ 13 := by
              rw [hL2.len, flat_len]
              have h1 : ∀ l : List Bool, (l.map fun b => ((plays ns m (lowOf b low)).map fun p => b :: p).length).sum ≤ l.length * 2 ^ m := by
                intro l
                induction l with
                | nil => simp
                | cons b l ih =>
                  rw [List.map_cons, List.sum_cons, List.length_map, List.length_cons, Nat.succ_mul]
                  have := plays_le ns m (lowOf b low)
                  omega
              have h3 := h1 ((ends ns (m + 1) low).take t)
              have h4 := ends_le ns (m + 1) low
              have h5 : ((ends ns (m + 1) low).take t).length ≤ 2 := by rw [List.length_take]; omega
              have h6 : ((ends ns (m + 1) low).take t).length * 2 ^ m ≤ 2 * 2 ^ 12 := Nat.mul_le_mul h5 h212
              omega
            refine ⟨f, D, xs, zs, rfl, rfl, hf5, hD5, ?_, fun o3 no3 => ?_⟩
            · rw [hL5.len, List.length_map]
              exact size_le (by omega)
            have s6 := same_new no3 (.lst (xs ++ zs))
            have s06 : Same H H5 := s01.trans s15
            refine ⟨o3, xs ++ zs, _, _, _, _, rfl, s15.trans s6, s06.free no3, upd_same, ?_⟩
            rw [List.take_add_one, hget, List.flatMap_append]
            refine Lsts.mono s6 (Lsts.app ?_ hL15)
            simpa using hL5'
      · rintro σ H2 ⟨f, xs, x5, x6, x7, x8, rfl, s2, nf, hf2, hL2⟩
        rw [sidesV_len, List.take_length] at hL2
        exact ⟨_, rfl, q H2 f xs (s01.trans s2) nf hf2 hL2⟩
theorem _law_plays_all (T : Tx K mg A) : ∀ n : Nat, FnOk P w K mg base CX0 (n + 1) A.f__law_plays A.d__law_plays ["_law_row_here", "_law_low", "_law_behind", "_law_worths_here"] (spLPlays K n)
  | 0 => by
    have no : ∀ vs H Q E, ¬ spLPlays K 0 vs H Q E := fun vs H Q E h => by
      obtain ⟨a, d, ns, low, m, i, j, kvs, _, _, _, _, _, _, _, _, h0, _⟩ := h
      omega
    exact ⟨fun vs H Q E h => absurd h (no vs H Q E), fun A outer s H args us vs Q E _ _ _ _ h => absurd h (no vs H Q E)⟩
  | n + 1 => step__law_plays T (_law_plays_all T n)
theorem ok__law_plays (T : Tx K mg A) : FnOk P w K mg base CX0 14 A.f__law_plays A.d__law_plays ["_law_row_here", "_law_low", "_law_behind", "_law_worths_here"] (spLPlays K 13) := _law_plays_all T 13
theorem ok__law_greedy (T : Tx K mg A) : FnOk P w K mg base CX0 1 A.f__law_greedy A.d__law_greedy ["_law_row_here"] (spLGreedy K) := by
  refine T.F_law_greedy.ok sc__law_greedy (fun vs H Q E h => ?_) (fun cdv A' outer s H vs Q E hr h => ?_)
  · obtain ⟨r, ns, rfl, _⟩ := h
    rfl
  · obtain ⟨r, ns, rfl, hS, h12, q⟩ := h
    refine ⟨_, (pss_cons (ps_par (i := 1) (j := 2) rfl sc__law_greedy.nd rfl rfl (by decide) rfl rfl (pa_cons (pe_callTy call_list_of (by rfl) T.blist (by decide +kernel) (pa_cons (pv 0) pa_nil)) (pa_cons (pe_lst pa_nil) pa_nil)) (by rfl))
      (pss_cons (ps_while PassesOwn.never (pt_cmpR (op_neD hr.units) (pv 1) (pe_lst pa_nil) (nomark _))
      (pss_mid (ps_expr (pe_bm PySem.F.plainAttrs_list PySem.F.slot_list_append PySem.F.type_list_append mt_append (pv 2) (pa_cons (pe_ifExp (pt_cmpR op_gt (pe_ix ix_list (pv 1) (pe_un un_neg pe_int) (fun _ _ => rfl)) (pe_ix ix_list (pv 1) pe_int (fun _ _ => rfl)) (nomark _)) pe_str pe_str) pa_nil)))
      (pss_one (ps_set (i := 1) sc__law_greedy.nd rfl (Or.inl rfl) (pe_ifExp (pt_cmpR op_eq (pe_ix ix_list (pv 2) (pe_un un_neg pe_int) (fun _ _ => rfl)) pe_str (nomark _)) (pe_slice sl_list (pv 1) po_none (po_some (pe_un un_neg pe_int))) (pe_slice sl_list (pv 1) (po_some pe_int) po_none))))))
      (pss_one (ps_ret (pv 2))))), ?_⟩
    refine ⟨_, rfl, r, _, rfl, .inl hS, fun l nl => ⟨Nat.zero_le _, fun f nf => ⟨_, _, rfl, ?_⟩⟩⟩
    have s1 := same_new nl (.lst (ns.map V.int))
    have s2 := s1.trans (same_new nf (.lst []))
    have nfH : H f = none := s1.free nf
    -- while _law_left != []
    refine ⟨fun n σ H2 => ∃ (low : Nat) (acc : List Bool) (l : Addr), σ = [some (.ref r), some (.ref l), some (.ref f)] ∧ Same H H2 ∧ H2 f = some (.lst (sidesV acc)) ∧ H2 l = some (.lst ((stretch ns low n).map V.int)) ∧ l ≠ f ∧ low + n ≤ ns.length ∧ acc.length + n = ns.length ∧ acc ++ greedyV ns n low = greedyV ns ns.length 0, ?_, ?_⟩
    · refine ⟨ns.length, 0, [], l, rfl, s2, upd_same, ?_, ne_of_none upd_same nf, by omega, by simp, rfl⟩
      rw [stretch_all]
      exact same_new nf _ _ _ upd_same
    · rintro n σ H2 ⟨low, acc, l, rfl, s2, hf2, hl2, nlf, hn, hl, hg⟩
      refine ⟨_, rfl, Nat.zero_le _, fun e ne => ?_⟩
      have s3 := same_new ne (.lst [])
      refine ⟨_, _, dp_lst (SqL.of (s3 _ _ hl2)) (ok_ints _), dp_lst (xs := []) (SqL.of upd_same) rfl, shl_flat (ok_ints _), shl_flat (xs := []) rfl, _, rfl, ?_⟩
      have hf3 := s3 _ _ hf2
      have hl3 := s3 _ _ hl2
      have s23 := s2.trans s3
      generalize upd H2 e (.lst []) = H3 at hf3 hl3 s23
      cases n with
      | zero =>
        rw [stretch_zero]
        refine iteF ?_
        refine ⟨_, rfl, ?_⟩
        have e : greedyV ns 0 low = [] := rfl
        rw [e, List.append_nil] at hg
        subst hg
        exact q H3 f s23 nfH hf3
      | succ m =>
        rw [show PyData.eqv (.list (((stretch ns low (m + 1)).map V.int).map vD)) (.list (([] : List V).map vD)) = false by rw [stretch_first hn]; exact eqv_nil_r _ _]
        refine iteT ?_
        refine ⟨fun σ' H' => ∃ (low : Nat) (acc : List Bool) (l : Addr), σ' = [some (.ref r), some (.ref l), some (.ref f)] ∧ Same H H' ∧ H' f = some (.lst (sidesV acc)) ∧ H' l = some (.lst ((stretch ns low m).map V.int)) ∧ l ≠ f ∧ low + m ≤ ns.length ∧ acc.length + m = ns.length ∧ acc ++ greedyV ns m low = greedyV ns ns.length 0, fun σ' H' h => ⟨m, Nat.lt_succ_self m, h⟩, ?_⟩
        -- _law_found.append(..)
        refine ⟨fun σ' H' => σ' = [some (.ref r), some (.ref l), some (.ref f)] ∧ Same H H' ∧ H' l = some (.lst ((stretch ns low (m + 1)).map V.int)) ∧ H' f = some (.lst (sidesV (acc ++ [decide (ns.getD (low + m) 0 ≤ ns.getD low 0)]))), ?_, ?_⟩
        · have hlast : atI ((stretch ns low (m + 1)).map V.int) (-1) = some (.int (ns.getD (low + m) 0)) := by
            rw [stretch_last hn, List.map_append]
            exact atI_last _ _
          have hfirst : atI ((stretch ns low (m + 1)).map V.int) ((0 : Nat) : Int) = some (.int (ns.getD low 0)) := atI_nat (pop_first hn).2
          refine ⟨_, rfl, .inl ⟨rfl, _, SqL.of hf3⟩, _, rfl, 1, rfl, l, _, _, _, rfl, rfl, SqL.of hl3, hlast, _, rfl, l, _, _, _, rfl, rfl, SqL.of hl3, hfirst, _, _, rfl, rfl, _, rfl, ?_⟩
          have fin : ∀ b : Bool, b = decide (ns.getD (low + m) 0 ≤ ns.getD low 0) → Same H (upd H3 f (.lst (sidesV acc ++ [V.str (sideS b)]))) ∧ (upd H3 f (.lst (sidesV acc ++ [V.str (sideS b)]))) l = some (.lst ((stretch ns low (m + 1)).map V.int)) ∧ (upd H3 f (.lst (sidesV acc ++ [V.str (sideS b)]))) f = some (.lst (sidesV (acc ++ [decide (ns.getD (low + m) 0 ≤ ns.getD low 0)]))) := by
            rintro b rfl
            refine ⟨fun c o e => ?_, ?_, ?_⟩
            · rw [upd_ne (ne_of_none e nfH)]
              exact s23 c o e
            · rw [upd_ne nlf]
              exact hl3
            · rw [upd_same]
              unfold sidesV
              rw [List.map_append]
              rfl
          by_cases c : ns.getD (low + m) 0 ≤ ns.getD low 0
          · refine iteFb (decide_eq_false (by omega)) ?_
            exact ⟨f, _, _, rfl, rfl, hf3, by rw [sidesV_len]; exact size_lt (by omega), rfl, fin true (decide_eq_true c).symm⟩
          · refine iteTb (decide_eq_true (by omega)) ?_
            exact ⟨f, _, _, rfl, rfl, hf3, by rw [sidesV_len]; exact size_lt (by omega), rfl, fin false (decide_eq_false c).symm⟩
        · rintro σ' H4 ⟨rfl, s4, hl4, hf4⟩
          rw [greedyV_succ] at hg
          generalize decide (ns.getD (low + m) 0 ≤ ns.getD low 0) = b at hg hf4
          have hlast : atI (sidesV (acc ++ [b])) (-1) = some (.str (sideS b)) := by
            unfold sidesV
            rw [List.map_append]
            exact atI_last _ _
          refine ⟨_, rfl, 1, rfl, f, _, _, _, rfl, rfl, SqL.of hf4, hlast, rfl, _, rfl, ?_⟩
          have fin : ∀ l2, H4 l2 = none → ∃ (low_1 : Nat) (acc_1 : List Bool) (l_1 : Addr), [some (V.ref r), some (V.ref l2), some (V.ref f)] = [some (V.ref r), some (V.ref l_1), some (V.ref f)] ∧ Same H (upd H4 l2 (.lst ((stretch ns (lowOf b low) m).map V.int))) ∧ (upd H4 l2 (.lst ((stretch ns (lowOf b low) m).map V.int))) f = some (.lst (sidesV acc_1)) ∧ (upd H4 l2 (.lst ((stretch ns (lowOf b low) m).map V.int))) l_1 = some (.lst ((stretch ns low_1 m).map V.int)) ∧ l_1 ≠ f ∧ low_1 + m ≤ ns.length ∧ acc_1.length + m = ns.length ∧ acc_1 ++ greedyV ns m low_1 = greedyV ns ns.length 0 := fun l2 nl2 => by
            have s5 := same_new nl2 (.lst ((stretch ns (lowOf b low) m).map V.int))
            exact ⟨lowOf b low, acc ++ [b], l2, rfl, s4.trans s5, s5 _ _ hf4, upd_same, (ne_of_none hf4 nl2).symm, by have := lowOf_le b low m; omega, by rw [List.length_append]; show acc.length + 1 + m = _; omega, by rw [List.append_assoc]; exact hg⟩
          cases b with
          | true =>
            refine iteFb (decide_eq_false (fun z => absurd (V.str.inj z) (by decide +kernel))) ?_
            refine ⟨_, rfl, 1, rfl, l, _, rfl, SqL.of hl4, fun l2 nl2 => ?_⟩
            have e : cutV ((stretch ns low (m + 1)).map V.int) (some 1) none = (stretch ns (low + 1) m).map V.int := by
              rw [stretch_first hn]
              exact cut_tail _ _
            rw [e]
            exact fin l2 nl2
          | false =>
            refine iteTb (decide_eq_true rfl) ?_
            refine ⟨_, rfl, 1, rfl, _, rfl, l, _, rfl, SqL.of hl4, fun l2 nl2 => ?_⟩
            have e : cutV ((stretch ns low (m + 1)).map V.int) none (some (-1)) = (stretch ns low m).map V.int := by
              rw [stretch_last hn, List.map_append]
              exact cut_init _ _
            rw [e]
            exact fin l2 nl2
end
end K04
namespace K04
open PySem PySem.Spec PyProof.Rows L2 RE
section
variable {P : Program} {w : World} {K : PySem.W.Frag} {mg : Str → Option Value} {base : Heap} {A : Ad}
theorem long_row : ((List.range 12).map fun (i : Nat) => V.int (((i : Int) * (i : Int) * 7) % 30)) = ([0, 7, 28, 3, 22, 25, 12, 13, 28, 27, 10, 7] : List Int).map V.int := by decide +kernel
theorem longOk : RowOk [0, 7, 28, 3, 22, 25, 12, 13, 28, 27, 10, 7] := ⟨by decide, by decide⟩
theorem side_at (i : Int) : ∃ b : Bool, atI [V.str "left", V.str "right"] (i % 2) = some (.str (sideS b)) := by
  have q : i % 2 = 0 ∨ i % 2 = 1 := by omega
  rcases q with h | h
  · exact ⟨true, by rw [h]; rfl⟩
  · exact ⟨false, by rw [h]; rfl⟩
theorem cut_sides (bs : List Bool) (k : Nat) : cutV (sidesV bs) none (some (k : Int)) = sidesV (bs.take k) := by
  unfold cutV sidesV
  rw [show HT.sIx (bs.map fun b => V.str (sideS b)).length (bs.map fun b => V.str (sideS b)).length (some (k : Int)) = min k (bs.map fun b => V.str (sideS b)).length from HT.sIx_nat _ _ k, HT.sIx_none, List.drop_zero, Nat.sub_zero, List.length_map, List.map_take]
  by_cases h : k ≤ bs.length
  · rw [Nat.min_eq_left h]
  · rw [Nat.min_eq_right (by omega), List.take_of_length_le (by rw [List.length_map]; omega), List.take_of_length_le (by rw [List.length_map]; omega)]
theorem ok_law (T : Tx K mg A) : FnOk P w K mg base CX0 29 A.f_law A.d_law ["_law_script"] (spLaw K) := by
  have G_law_number : FnOk P w K mg base CX0 1 A.f__law_number A.d__law_number ["_law_cell", "_law_at", "_law_whole_here"] spNumber := ok__law_number T
  have G_law_row : FnOk P w K mg base CX0 2 A.f__law_row A.d__law_row ["_law_script", "_law_by", "_law_most"] (spLRow K) := ok__law_row T
  have G_law_worths : FnOk P w K mg base CX0 1 A.f__law_worths A.d__law_worths ["_law_row_here"] (spWorths K) := ok__law_worths T
  have G_law_whole : FnOk P w K mg base CX0 1 A.f__law_whole A.d__law_whole ["_law_found"] (spWhole K) := ok__law_whole T
  have G_law_led : FnOk P w K mg base CX0 1 A.f__law_led A.d__law_led ["_law_row_here", "_law_takes"] (spLLed K) := ok__law_led T
  have G_law_plays : FnOk P w K mg base CX0 14 A.f__law_plays A.d__law_plays ["_law_row_here", "_law_low", "_law_behind", "_law_worths_here"] (spLPlays K 13) := ok__law_plays T
  have G_law_greedy : FnOk P w K mg base CX0 1 A.f__law_greedy A.d__law_greedy ["_law_row_here"] (spLGreedy K) := ok__law_greedy T
  have Gled : FnOk P w K mg base (L2.CX P w) 3 A.f_led A.d_led ["row", "takes"] (spLed K A.C_BadRow A.C_BadTakes) := ok_led T
  have Ggreedy : FnOk P w K mg base (L2.CX P w) 3 A.f_greedy A.d_greedy ["row"] (spGreedy K A.C_BadRow) := ok_greedy T
  have Ghow_many : FnOk P w K mg base (L2.CX P w) 28 A.f_how_many A.d_how_many ["row"] (spHowMany K A.C_BadRow) := ok_how_many T
  have Gplay_by : FnOk P w K mg base (L2.CX P w) 28 A.f_play_by A.d_play_by ["row", "number"] (spPlayBy K A.C_BadRow A.C_BadNumber) := ok_play_by T
  refine T.Flaw.ok sc_law (fun vs H Q E h => ?_) (fun cdv A' outer s H vs Q E hr h => ?_)
  · obtain ⟨a, cs, rfl, _⟩ := h
    rfl
  · obtain ⟨a, cs, rfl, hS, h63, hbits, q⟩ := h
    refine ⟨_, (pss_cons (ps_set (i := 1) sc_law.nd rfl (Or.inr rfl) (pe_callB (cr_sum rfl) (by rfl) T.bsum (by decide +kernel) (pa_cons (pe_slice sl_list (pv 0) po_none (po_some pe_int)) pa_nil)))
      (pss_cons (ps_for PassesOwn.never rfl (pi_range1 (by rfl) T.brange (pa_cons pe_int pa_nil)) (pg_name (i := 2) sc_law.nd rfl (Or.inr rfl))
      (pss_cons (ps_set (i := 3) sc_law.nd rfl (Or.inl rfl) (pe_call G_law_row (hr.mono (by first | decide | omega)) (by rfl) T.g_law_row T.F_law_row.kp T.b_law_row .nil pass0 (pa_cons (pv 0) (pa_cons (pv 2) (pa_cons pe_int pa_nil)))))
      (pss_cons (ps_par (i := 4) (j := 5) rfl sc_law.nd rfl rfl (by decide) rfl rfl (pa_cons (pe_callTy call_list_of (by rfl) T.blist (by decide +kernel) (pa_cons (pv 3) pa_nil)) (pa_cons (pe_call G_law_worths (hr.mono (by first | decide | omega)) (by rfl) T.g_law_worths T.F_law_worths.kp T.b_law_worths .nil pass0 (pa_cons (pv 3) pa_nil)) pa_nil)) (by rfl))
      (pss_cons (ps_set (i := 6) sc_law.nd rfl (Or.inl rfl) (pe_call G_law_plays (hr.mono (by first | decide | omega)) (by rfl) T.g_law_plays T.F_law_plays.kp T.b_law_plays .nil pass0 (pa_cons (pv 3) (pa_cons pe_int (pa_cons (pe_callB call_len_seq (by rfl) T.blen PySem.boot_len (pa_cons (pv 3) pa_nil)) (pa_cons (pv 5) pa_nil))))))
      (pss_cons (ps_set (i := 7) sc_law.nd rfl (Or.inl rfl) (pe_call Ghow_many (hr.mono (by first | decide | omega)) (by rfl) T.ghow_many T.Fhow_many.kp T.bhow_many .nil passL (pa_cons (pv 4) pa_nil)))
      (pss_cons (ps_if (PW.pt (pw_or (pt_not (pt_val (pe_call G_law_whole (hr.mono (by first | decide | omega)) (by rfl) T.g_law_whole T.F_law_whole.kp T.b_law_whole .nil pass0 (pa_cons (pv 7) pa_nil)))) (pw_or1 (pt_cmpR op_ne (pv 7) (pe_callB call_len_seq (by rfl) T.blen PySem.boot_len (pa_cons (pv 6) pa_nil)) (nomark _))))) (pss_one (ps_ret pe_bl)) pss_nil)
      (pss_cons (ps_for PassesOwn.never rfl (pi_range3 (by rfl) T.brange (pa_cons pe_int (pa_cons (pv 7) (pa_cons (pe_op op_add pe_int (pe_op op_fdiv (pv 7) pe_int)) pa_nil)))) (pg_name (i := 8) sc_law.nd rfl (Or.inl rfl))
      (pss_one (ps_for PassesOwn.never rfl (pi_range1 (by rfl) T.brange (pa_cons pe_int pa_nil)) (pg_name (i := 9) sc_law.nd rfl (Or.inl rfl))
      (pss_cons (ps_set (i := 10) sc_law.nd rfl (Or.inl rfl) (pe_call Gplay_by (hr.mono (by first | decide | omega)) (by rfl) T.gplay_by T.Fplay_by.kp T.bplay_by .nil passL (pa_cons (pv 4) (pa_cons (pv 8) pa_nil))))
      (pss_cons (ps_if (PW.pt (pw_or (pt_not (pt_val (pe_callB call_isi (by rfl) T.bisinstance (by decide +kernel) (pa_cons (pv 10) (pa_cons (pe_bltn (v := .ty "list") (by rfl) T.blist (by decide +kernel) rfl) pa_nil))))) (pw_or (pt_cmpR (op_neD hr.units) (pv 10) (pe_ix ix_list (pv 6) (pv 8) (fun _ _ => rfl)) (nomark _)) (pw_or1 (pt_cmpR (op_neD hr.units) (pv 4) (pv 3) (nomark _)))))) (pss_one (ps_ret pe_bl)) pss_nil)
      (pss_cons (ps_set (i := 11) sc_law.nd rfl (Or.inl rfl) (pe_call Gled (hr.mono (by first | decide | omega)) (by rfl) T.gled T.Fled.kp T.bled .nil passL (pa_cons (pv 4) (pa_cons (pe_callTy call_list_of (by rfl) T.blist (by decide +kernel) (pa_cons (pv 10) pa_nil)) pa_nil))))
      (pss_cons (ps_if (PW.pt (pw_or (pt_not (pt_val (pe_callB call_isi (by rfl) T.bisinstance (by decide +kernel) (pa_cons (pv 11) (pa_cons (pe_bltn (v := .ty "tuple") (by rfl) T.btuple (by decide +kernel) rfl) pa_nil))))) (pw_or (pt_cmpR op_ne (pe_op op_sub (pe_ix ix_tup (pv 11) pe_int (fun _ _ => rfl)) (pe_ix ix_tup (pv 11) pe_int (fun _ _ => rfl))) (pe_dget (hu_of hr) (pv 5) (pe_tup (pa_cons pe_int (pa_cons (pe_callB call_len_seq (by rfl) T.blen PySem.boot_len (pa_cons (pv 3) pa_nil)) pa_nil))) (fun _ _ => rfl)) (nomark _)) (pw_or1 (pt_cmpR (op_neD hr.units) (pe_ix ix_tup (pv 11) pe_int (fun _ _ => rfl)) (pe_lst pa_nil) (nomark _)))))) (pss_one (ps_ret pe_bl)) pss_nil)
      (pss_one (ps_expr (pe_bm PySem.F.plainAttrs_list PySem.F.slot_list_append PySem.F.type_list_append mt_append (pv 10) (pa_cons pe_str pa_nil)))))))))))
      (pss_cons (ps_setLc (i := 12) (own := [("_law_at", 18)]) (by rfl) sc_law.nd rfl rfl (sw_true rfl rfl rfl (by decide +kernel)) (pi_range1 (by rfl) T.brange (pa_cons (pe_callB call_len_seq (by rfl) T.blen PySem.boot_len (pa_cons (pv 3) pa_nil)) pa_nil)) (blkOk_by (own := [("_law_at", 18)]) (N := N_law) (sc := defScope s_law) (by decide +kernel)) (fun _ _ _ _ _ => (pg_name (i := 18) sc_law.nd rfl (Or.inl rfl))) (fun _ _ _ _ _ => pts_nil) (fun _ _ _ _ _ => (pe_ix (ix_tup : IxR _ (rIxT K)) (pe_tup (pa_cons pe_str (pa_cons pe_str pa_nil))) (pe_op op_mod (pe_op op_fdiv (pe_call G_law_number (hr.mono (by first | decide | omega)) (by rfl) T.g_law_number T.F_law_number.kp T.b_law_number .nil pass0 (pa_cons (pe_op op_add (pv 1) (pv 18)) (pa_cons (pv 2) (pa_cons pe_int pa_nil)))) pe_int) pe_int) (fun _ _ => rfl))))
      (pss_cons (ps_for PassesOwn.never rfl (pi_range1 (by rfl) T.brange (pa_cons (pe_op op_add (pe_callB call_len_seq (by rfl) T.blen PySem.boot_len (pa_cons (pv 3) pa_nil)) pe_int) pa_nil)) (pg_name (i := 13) sc_law.nd rfl (Or.inl rfl))
      (pss_cons (ps_set (i := 14) sc_law.nd rfl (Or.inl rfl) (pe_slice sl_list (pv 12) po_none (po_some (pv 13))))
      (pss_cons (ps_set (i := 15) sc_law.nd rfl (Or.inl rfl) (pe_call Gled (hr.mono (by first | decide | omega)) (by rfl) T.gled T.Fled.kp T.bled .nil passL (pa_cons (pv 4) (pa_cons (pv 14) pa_nil))))
      (pss_cons (ps_if (PW.pt (pw_or (pt_not (pt_val (pe_callB call_isi (by rfl) T.bisinstance (by decide +kernel) (pa_cons (pv 15) (pa_cons (pe_bltn (v := .ty "tuple") (by rfl) T.btuple (by decide +kernel) rfl) pa_nil))))) (pw_or (pt_cmpR (op_neD hr.units) (pv 15) (pe_call G_law_led (hr.mono (by first | decide | omega)) (by rfl) T.g_law_led T.F_law_led.kp T.b_law_led .nil pass0 (pa_cons (pv 3) (pa_cons (pe_slice sl_list (pv 12) po_none (po_some (pv 13))) pa_nil))) (nomark _)) (pw_or1 (pt_cmpR (op_neD hr.units) (pv 14) (pe_slice sl_list (pv 12) po_none (po_some (pv 13))) (nomark _)))))) (pss_one (ps_ret pe_bl)) pss_nil)
      (pss_one (ps_expr (pe_bm PySem.F.plainAttrs_list PySem.F.slot_list_append PySem.F.type_list_append mt_append (pe_ix ix_tup (pv 15) pe_int (fun _ _ => rfl)) (pa_cons pe_int pa_nil))))))))
      (pss_cons (ps_set (i := 16) sc_law.nd rfl (Or.inl rfl) (pe_call Ggreedy (hr.mono (by first | decide | omega)) (by rfl) T.ggreedy T.Fgreedy.kp T.bgreedy .nil passL (pa_cons (pv 4) pa_nil)))
      (pss_one (ps_if (PW.pt (pw_or (pt_not (pt_val (pe_callB call_isi (by rfl) T.bisinstance (by decide +kernel) (pa_cons (pv 16) (pa_cons (pe_bltn (v := .ty "list") (by rfl) T.blist (by decide +kernel) rfl) pa_nil))))) (pw_or (pt_cmpR (op_neD hr.units) (pv 16) (pe_call G_law_greedy (hr.mono (by first | decide | omega)) (by rfl) T.g_law_greedy T.F_law_greedy.kp T.b_law_greedy .nil pass0 (pa_cons (pv 3) pa_nil)) (nomark _)) (pw_or1 (pt_cmpR (op_neD hr.units) (pv 4) (pv 3) (nomark _)))))) (pss_one (ps_ret pe_bl)) pss_nil))))))))))))
      (pss_cons (ps_setLc (i := 17) (own := [("_law_at", 18)]) (by rfl) sc_law.nd rfl rfl (sw_true rfl rfl rfl (by decide +kernel)) (pi_range1 (by rfl) T.brange (pa_cons pe_int pa_nil)) (blkOk_by (own := [("_law_at", 18)]) (N := N_law) (sc := defScope s_law) (by decide +kernel)) (fun _ _ _ _ _ => (pg_name (i := 18) sc_law.nd rfl (Or.inl rfl))) (fun _ _ _ _ _ => pts_nil) (fun _ _ _ _ _ => (pe_op op_mod (pe_op op_mul (pe_op op_mul (pv 18) (pv 18)) pe_int) pe_int)))
      (pss_mid (ps_if (PW.pt (pw_and (pt_cmpR op_eq (pe_op op_mod (pv 1) pe_int) pe_int (nomark _)) (pw_and1 (pt_cmpR op_ne (pe_call Ghow_many (hr.mono (by first | decide | omega)) (by rfl) T.ghow_many T.Fhow_many.kp T.bhow_many .nil passL (pa_cons (pv 17) pa_nil)) (pe_callB call_len_seq (by rfl) T.blen PySem.boot_len (pa_cons (pe_call G_law_plays (hr.mono (by first | decide | omega)) (by rfl) T.g_law_plays T.F_law_plays.kp T.b_law_plays .nil pass0 (pa_cons (pv 17) (pa_cons pe_int (pa_cons pe_int (pa_cons (pe_call G_law_worths (hr.mono (by first | decide | omega)) (by rfl) T.g_law_worths T.F_law_worths.kp T.b_law_worths .nil pass0 (pa_cons (pv 17) pa_nil)) pa_nil))))) pa_nil)) (nomark _))))) (pss_one (ps_ret pe_bl)) pss_nil)
      (pss_cons (ps_if (pt_cmpR (op_neD hr.units) (pe_call Ggreedy (hr.mono (by first | decide | omega)) (by rfl) T.ggreedy T.Fgreedy.kp T.bgreedy .nil passL (pa_cons (pe_lst (pa_cons pe_int (pa_cons pe_int (pa_cons pe_int pa_nil)))) pa_nil)) (pe_lst (pa_cons pe_str (pa_cons pe_str (pa_cons pe_str pa_nil)))) (nomark _)) (pss_one (ps_ret pe_bl)) pss_nil)
      (pss_one (ps_ret (pe_and (pe_cmpR (op_eqD hr.units) (pe_call Gled (hr.mono (by first | decide | omega)) (by rfl) T.gled T.Fled.kp T.bled .nil passL (pa_cons (pe_lst (pa_cons pe_int (pa_cons pe_int (pa_cons pe_int pa_nil)))) (pa_cons (pe_lst (pa_cons pe_str (pa_cons pe_str pa_nil))) pa_nil))) (pe_tup (pa_cons pe_int (pa_cons pe_int (pa_cons (pe_lst (pa_cons pe_int pa_nil)) pa_nil)))) (nomark _)) (pe_one (pe_cmpR op_eq (pe_call Ghow_many (hr.mono (by first | decide | omega)) (by rfl) T.ghow_many T.Fhow_many.kp T.bhow_many .nil passL (pa_cons (pe_lst (pa_cons pe_int pa_nil)) pa_nil)) pe_int (nomark _))))))))))), ?_⟩
    refine ⟨_, rfl, 63, rfl, a, _, rfl, hS, fun c nc => gen_heap nc fun H1 sH1 hc => ?_⟩
    rw [cut63 (by rw [List.length_map]; exact h63)] at hc
    refine ⟨c, cs, rfl, SqL.of hc, ?_⟩
    have bwh : cs.sum.natAbs < 2 ^ (1048576 + cs.length) := sum_bits cs 1048576 hbits
    refine ⟨3, rfl, by decide, by decide, ?_⟩
    refine for_range (lo := 0) (n := 3) (fun k σ Hx => ∃ (x2 x3 x4 x5 x6 x7 x8 x9 x10 x11 x12 x13 x14 x15 x16 x17 x18 : Option V), σ = [some (V.ref a), some (V.int cs.sum), x2, x3, x4, x5, x6, x7, x8, x9, x10, x11, x12, x13, x14, x15, x16, x17, x18] ∧ Same H1 Hx) ⟨none, none, none, none, none, none, none, none, none, none, none, none, none, none, none, none, none, rfl, Same.refl _⟩ ?_ ?_
    · rintro k σ Ha hk ⟨x2, x3, x4, x5, x6, x7, x8, x9, x10, x11, x12, x13, x14, x15, x16, x17, x18, rfl, sa⟩
      have h2 := (sa.seq (sH1.seq hS))
      refine ⟨_, rfl, _, rfl, a, cs, _, _, rfl, h2, h63, hbits, by omega, by omega, by decide, by decide, fun ns3 r4 H5 okns3 lenns3 sH5 nr4 hr4 => ?_⟩
      refine ⟨_, rfl, r4, _, rfl, .inl (SqL.of hr4), fun p6 np6 => gen_heap np6 fun H7 sH7 hp6 => ?_⟩
      have h8 := (sH7 _ _ hr4)
      refine ⟨_, rfl, r4, ns3, rfl, (SqL.of h8), okns3.1, fun kvs9 d10 H11 wkvs9 sH11 nd10 hd10 => ?_⟩
      refine ⟨_, _, rfl, ?_⟩
      have el : (ns3.map V.int).length = ns3.length := List.length_map _
      have h12 := (sH11 _ _ h8)
      refine ⟨_, rfl, _, rfl, r4, _, rfl, .inl (SqL.of h12), _, rfl, r4, d10, ns3, 0, ns3.length, _, _, _, rfl, rfl, by rw [List.length_map]; omega, (SqL.of h12), hd10, wkvs9, okns3.1, by omega, by have := okns3.1; omega, fun H13 p14 xs15 sH13 np14 hp14 Lp14 => ?_⟩
      have h16 := (sH13 _ _ (sH11 _ _ hp6))
      refine ⟨_, rfl, _, rfl, .inl ⟨ns3, ⟨p6, rfl, (SqL.of h16), okns3⟩, fun H17 sH17 => ?_⟩⟩
      have many_le : many ns3 ns3.length 0 ≤ 2 ^ 12 := by
        have h1 := plays_le ns3 ns3.length 0
        have h2 : 2 ^ ns3.length ≤ 2 ^ 12 := Nat.pow_le_pow_right (by decide) okns3.1
        unfold many
        omega
      have many_pos : 0 < many ns3 ns3.length 0 := by
        have h1 := plays_pos ns3 ns3.length 0
        unfold many
        omega
      refine ⟨_, rfl, _, _, rfl, pv_int _, _, rfl, ?_⟩
      refine iteF ?_
      have h18 := (sH17 _ _ hp14)
      refine ⟨_, rfl, _, rfl, p14, _, rfl, .inl (SqL.of h18), rfl, _, rfl, ?_⟩
      refine iteFb (congrArg Bool.not (decide_eq_true (congrArg V.int (by unfold many; rw [Lp14.len])))) ?_
      obtain ⟨n, hn, hin⟩ := rgc_of (j := many ns3 ns3.length 0) (c := 1 + many ns3 ns3.length 0 / 5) (by omega) (by omega) (by omega) (by omega)
      refine ⟨_, rfl, _, rfl, _, _, rfl, rfl, ⟨by decide, by decide⟩, _, _, rfl, rfl, _, _, _, n, rfl, hn, ?_⟩
      refine for_rangeC (lo := 0) (n := n) (fun i σ Hx => ∃ (x8 x9 x10 x11 x12 x13 x14 x15 x16 x17 x18 : Option V), σ = [some (V.ref a), some (V.int cs.sum), some (V.int (0 + (k : Int))), some (V.ref r4), some (V.ref p6), some (V.ref d10), some (V.ref p14), some (V.int (many ns3 ns3.length 0)), x8, x9, x10, x11, x12, x13, x14, x15, x16, x17, x18] ∧ Same H17 Hx) ⟨_, _, _, _, _, _, _, _, _, _, _, rfl, Same.refl _⟩ ?_ ?_
      · rintro i σ Hb hi ⟨x8, x9, x10, x11, x12, x13, x14, x15, x16, x17, x18, rfl, sb⟩
        obtain ⟨hi0, hi1⟩ := hin i hi
        obtain ⟨κ, hκ⟩ : ∃ κ : Nat, (0 : Int) + (i : Int) * (1 + many ns3 ns3.length 0 / 5) = (κ : Int) := ⟨((i : Int) * (1 + many ns3 ns3.length 0 / 5)).toNat, by omega⟩
        have hκl : κ < (plays ns3 ns3.length 0).length := by
          have h1 : (κ : Int) < many ns3 ns3.length 0 := by omega
          unfold many at h1
          omega
        obtain ⟨pl, hpl⟩ : ∃ pl, (plays ns3 ns3.length 0)[κ]? = some pl := ⟨_, List.getElem?_eq_getElem hκl⟩
        have plen : pl.length = ns3.length := plays_length ns3 _ _ pl (List.mem_of_getElem? hpl)
        have pwor := plays_worth ns3 _ _ pl (List.mem_of_getElem? hpl)
        refine ⟨2, rfl, by decide, by decide, ?_⟩
        refine for_range (lo := 0) (n := 2) (fun i2 σ Hx => ∃ (x9 x10 x11 x12 x13 x14 x15 x16 x17 x18 : Option V), σ = [some (V.ref a), some (V.int cs.sum), some (V.int (0 + (k : Int))), some (V.ref r4), some (V.ref p6), some (V.ref d10), some (V.ref p14), some (V.int (many ns3 ns3.length 0)), some (V.int (0 + (i : Int) * (1 + many ns3 ns3.length 0 / 5))), x9, x10, x11, x12, x13, x14, x15, x16, x17, x18] ∧ Same Hb Hx) ⟨_, _, _, _, _, _, _, _, _, _, rfl, Same.refl _⟩ ?_ ?_
        · rintro i2 σ Hc hi2 ⟨x9, x10, x11, x12, x13, x14, x15, x16, x17, x18, rfl, sc⟩
          have h19 := (sc _ _ (sb _ _ (sH17 _ _ h16)))
          refine ⟨_, rfl, _, rfl, _, _, rfl, .inr ⟨ns3, ⟨p6, rfl, (SqL.of h19), okns3⟩, .inr ⟨κ, pl, congrArg V.int hκ, hpl, fun H20 p21 sH20 np21 hp21 => ?_⟩⟩⟩
          obtain ⟨qe, hqe, hql⟩ := ((((Lp14.mono sH17).mono sb).mono sc).mono sH20).get hpl
          refine ⟨_, rfl, _, _, _, _, _, rfl, .ty _, (pv_sq (SqL.of hp21)).ty, kit_list (T := "list") (by decide), _, rfl, ?_⟩
          refine iteF ?_
          have h22 := (sH20 _ _ (sc _ _ (sb _ _ h18)))
          refine ⟨_, rfl, _, rfl, _, rfl, p14, _, _, _, rfl, rfl, (SqL.of h22), by rw [hκ]; exact atI_nat hqe, (PyData.list ((sidesV pl).map vD)), (PyData.list ((sidesV pl).map vD)), (dp_lst (SqL.of hp21) (sidesV_ok pl)), (dp_lst (SqL.of hql) (sidesV_ok pl)), (Sh.list (sha_flat (sidesV_ok pl) 0)).shaped (by decide), (Sh.list (sha_flat (sidesV_ok pl) 0)).shaped (by decide), _, rfl, ?_⟩
          refine iteFb (congrArg Bool.not (eqv_same ((Sh.list (sha_flat (sidesV_ok pl) 0)).shaped (by decide)))) ?_
          have h23 := (sH20 _ _ h19)
          have h24 := (sH20 _ _ (sc _ _ (sb _ _ (sH17 _ _ (sH13 _ _ h12)))))
          refine ⟨_, rfl, _, rfl, (PyData.list ((ns3.map V.int).map vD)), (PyData.list ((ns3.map V.int).map vD)), (dp_lst (SqL.of h23) (ok_ints ns3)), (dp_lst (SqL.of h24) (ok_ints ns3)), (Sh.list (sha_flat (ok_ints ns3) 0)).shaped (by decide), (Sh.list (sha_flat (ok_ints ns3) 0)).shaped (by decide), _, rfl, ?_⟩
          refine iteFb (congrArg Bool.not (eqv_same ((Sh.list (sha_flat (ok_ints ns3) 0)).shaped (by decide)))) ?_
          refine ⟨_, rfl, _, rfl, p21, _, rfl, .inl (SqL.of hp21), fun p25 np25 => gen_heap np25 fun H26 sH26 hp25 => ?_⟩
          have h27 := (sH26 _ _ h23)
          refine ⟨_, _, rfl, .inr ⟨ns3, ⟨p6, rfl, (SqL.of h27), okns3⟩, .inr ⟨p25, pl, rfl, (SqL.of hp25), (by omega), fun H28 p29 l30 sH28 np29 nl30 hp29 hl30 => ?_⟩⟩⟩
          refine ⟨_, rfl, _, _, _, _, _, rfl, .ty _, (pv_tup hp29).ty, kit_tuple (T := "tuple") (by decide), _, rfl, ?_⟩
          refine iteF ?_
          have h31 := (sH28 _ _ (sH26 _ _ h24))
          refine ⟨_, rfl, p29, _, _, _, rfl, rfl, (SqT.of hp29), atI_nat (j := 0) rfl, _, rfl, p29, _, _, _, rfl, rfl, (SqT.of hp29), atI_nat (j := 1) rfl, _, _, rfl, rfl, _, rfl, _, rfl, r4, _, rfl, .inl (SqL.of h31), (by show 2 ≤ sizeLine; decide), fun p32 np32 => gen_heap np32 fun H33 sH33 hp32 => ?_⟩
          have h34 := (sH33 _ _ (sH28 _ _ (sH26 _ _ (sH20 _ _ (sc _ _ (sb _ _ (sH17 _ _ (sH13 _ _ hd10))))))))
          have g35 : DGet H33 d10 (.ref p32) (some (.int (wv ns3 ns3.length 0))) := by
            have z := DGet.t (k := keyOf 0 ns3.length) (b := p32) h34 (by rw [hp32]; exact congrArg (fun z => some (HO.tup z)) (keyEq rfl (by rw [el]; omega)))
            rw [wkvs9.val 0 ns3.length (by omega)] at z
            exact z
          refine ⟨d10, (V.int (wv ns3 ns3.length 0)), rfl, g35, rfl, _, rfl, ?_⟩
          refine iteFb (congrArg Bool.not (decide_eq_true (congrArg V.int pwor))) ?_
          have h36 := (sH33 _ _ hp29)
          refine ⟨_, rfl, p29, _, _, _, rfl, rfl, (SqT.of h36), atI_nat (j := 2) rfl, Nat.zero_le _, fun p37 np37 => gen_heap np37 fun H38 sH38 hp37 => ?_⟩
          have h39 := (sH38 _ _ (sH33 _ _ hl30))
          refine ⟨(PyData.list (((stretch ns3 (ledLow 0 pl) (ns3.length - pl.length)).map V.int).map vD)), (PyData.list []), (dp_lst (SqL.of h39) (ok_ints (stretch ns3 (ledLow 0 pl) (ns3.length - pl.length)))), (.lst (SqL.of hp37) .nil), (Sh.list (sha_flat (ok_ints (stretch ns3 (ledLow 0 pl) (ns3.length - pl.length))) 0)).shaped (by decide), (Sh.list (.nil 0)).shaped (by decide), _, rfl, ?_⟩
          refine iteFb (congrArg Bool.not (eqv_eq ((Sh.list (sha_flat (ok_ints (stretch ns3 (ledLow 0 pl) (ns3.length - pl.length))) 0)).shaped (by decide)) (by rw [plen, Nat.sub_self, stretch_zero]; rfl))) ?_
          have h40 := (sH38 _ _ (sH33 _ _ (sH28 _ _ (sH26 _ _ hp21))))
          refine ⟨_, rfl, .inl ⟨rfl, _, SqL.of h40⟩, p21, _, _, rfl, rfl, h40, by rw [sidesV_len]; exact size_lt (by have := okns3.1; omega), gen_put h40 fun H41 sH41 h42 => ?_⟩
          exact ⟨_, _, _, _, _, _, _, _, _, _, rfl, (fun b o e => (sH41 _ _ (ne_of_none e (sc.free np21)) (sH38 _ _ (sH33 _ _ (sH28 _ _ (sH26 _ _ (sH20 _ _ (sc _ _ e))))))))⟩
        · rintro σ Hc ⟨x9, x10, x11, x12, x13, x14, x15, x16, x17, x18, rfl, sc⟩
          exact ⟨_, _, _, _, _, _, _, _, _, _, _, rfl, fun b o e => sc b o (sb b o e)⟩
      · rintro σ Hb ⟨x8, x9, x10, x11, x12, x13, x14, x15, x16, x17, x18, rfl, sb⟩
        have h43 := (sb _ _ (sH17 _ _ (sH13 _ _ h12)))
        refine ⟨_, rfl, r4, _, rfl, .inl (SqL.of h43), _, rfl, by rw [el]; have := okns3.1; omega, by rw [el]; have := okns3.1; omega, fun D nD => ?_⟩
        rw [show (((ns3.map V.int).length : Nat) : Int).toNat = ns3.length by rw [el]; omega]
        refine lc_range (lo := 0) (n := ns3.length) (fun i H2 => Same Hb H2 ∧ ∃ bs : List Bool, bs.length = i ∧ H2 D = some (.lst (sidesV bs))) ⟨same_new nD _, [], rfl, upd_same⟩ ?_ ?_
        · rintro i H2 hi ⟨s2, bs, hbs, hD⟩
          refine ⟨rfl, ?_⟩
          refine ⟨(by show 2 ≤ sizeLine; decide), fun t nt => gen_heap nt fun H3 s3 ht => ?_⟩
          refine ⟨_, rfl, _, rfl, _, _, rfl, rfl, _, rfl, ?_⟩
          refine ⟨_, _, _, rfl, ?_, ?_, fun rr => ?_⟩
          · have h1 : (0 + (i : Int)).natAbs < 2 ^ 30 := by have := okns3.1; omega
            have h2 := pw_add bwh h1 (by omega)
            exact pw_mono h2 (by omega)
          · omega
          refine ⟨_, _, rfl, rfl, ⟨by decide, by decide⟩, _, _, rfl, rfl, (by show (0 : Int) < 2; decide), ?_⟩
          obtain ⟨b, hb⟩ := side_at (rr / 3)
          refine ⟨t, _, _, _, rfl, rfl, SqT.of ht, hb, sidesV bs, s3 _ _ hD, by rw [sidesV_len]; have := okns3.1; exact size_lt (by omega), fun c o e => ?_, bs ++ [b], by rw [List.length_append, hbs]; rfl, ?_⟩
          · rw [upd_ne (ne_of_none e nD)]
            exact s3 _ _ (s2 _ _ e)
          · rw [upd_same]
            unfold sidesV
            rw [List.map_append]
            rfl
        · rintro H2 ⟨s2, bs, hbs, hD⟩
          have h44 := (s2 _ _ h43)
          refine ⟨_, rfl, r4, _, rfl, .inl (SqL.of h44), _, _, rfl, rfl, _, rfl, by rw [el]; have := okns3.1; omega, by rw [el]; have := okns3.1; omega, ?_⟩
          refine for_range (lo := 0) (n := (((ns3.map V.int).length : Int) + 1).toNat) (fun i σ Hx => ∃ (x13 x14 x15 x16 x17 x18 : Option V), σ = [some (V.ref a), some (V.int cs.sum), some (V.int (0 + (k : Int))), some (V.ref r4), some (V.ref p6), some (V.ref d10), some (V.ref p14), some (V.int (many ns3 ns3.length 0)), x8, x9, x10, x11, some (V.ref D), x13, x14, x15, x16, x17, x18] ∧ Same H2 Hx) ⟨_, _, _, _, _, _, rfl, Same.refl _⟩ ?_ ?_
          · rintro i σ Hd hi ⟨x13, x14, x15, x16, x17, x18, rfl, sd⟩
            have ei : (0 : Int) + (i : Int) = (i : Int) := by omega
            have hbl : (bs.take i).length ≤ ns3.length := by rw [List.length_take]; omega
            have h45 := (sd _ _ hD)
            refine ⟨_, rfl, _, rfl, _, rfl, D, _, rfl, (SqL.of h45), fun p46 np46 => gen_heap np46 fun H47 sH47 hp46 => ?_⟩
            rw [ei, cut_sides] at hp46
            have h48 := (sH47 _ _ (sd _ _ (s2 _ _ (sb _ _ (sH17 _ _ h16)))))
            refine ⟨_, rfl, _, rfl, _, _, rfl, .inr ⟨ns3, ⟨p6, rfl, (SqL.of h48), okns3⟩, .inr ⟨p46, (bs.take i), rfl, (SqL.of hp46), hbl, fun H49 p50 l51 sH49 np50 nl51 hp50 hl51 => ?_⟩⟩⟩
            refine ⟨_, rfl, _, _, _, _, _, rfl, .ty _, (pv_tup hp50).ty, kit_tuple (T := "tuple") (by decide), _, rfl, ?_⟩
            refine iteF ?_
            have h52 := (sH49 _ _ (sH47 _ _ h45))
            refine ⟨_, rfl, _, rfl, _, rfl, _, rfl, _, rfl, D, _, rfl, (SqL.of h52), fun p53 np53 => gen_heap np53 fun H54 sH54 hp53 => ?_⟩
            rw [ei, cut_sides] at hp53
            have h58 := (sH54 _ _ (sH49 _ _ (sH47 _ _ (sd _ _ h44))))
            refine ⟨r4, p53, ns3, (bs.take i), rfl, (SqL.of h58), (SqL.of hp53), hbl, fun H55 p56 l57 sH55 np56 nl57 hp56 hl57 => ?_⟩
            have h59 := (sH55 _ _ (sH54 _ _ hl51))
            have h60 := (sH55 _ _ (sH54 _ _ hp50))
            refine ⟨(PyData.tuple [PyData.int ((ledR ns3 ns3.length 0 (bs.take i)).1), PyData.int ((ledR ns3 ns3.length 0 (bs.take i)).2), PyData.list (((stretch ns3 (ledLow 0 (bs.take i)) (ns3.length - (bs.take i).length)).map V.int).map vD)]), (PyData.tuple [PyData.int ((ledR ns3 ns3.length 0 (bs.take i)).1), PyData.int ((ledR ns3 ns3.length 0 (bs.take i)).2), PyData.list (((stretch ns3 (ledLow 0 (bs.take i)) (ns3.length - (bs.take i).length)).map V.int).map vD)]), (.tup (SqT.of h60) (.cons (.int _) (.cons (.int _) (.cons (dp_lst (SqL.of h59) (ok_ints (stretch ns3 (ledLow 0 (bs.take i)) (ns3.length - (bs.take i).length)))) .nil)))), (.tup (SqT.of hp56) (.cons (.int _) (.cons (.int _) (.cons (dp_lst (SqL.of hl57) (ok_ints (stretch ns3 (ledLow 0 (bs.take i)) (ns3.length - (bs.take i).length)))) .nil)))), (Sh.tuple (.cons (sh_flat (x := V.int ((ledR ns3 ns3.length 0 (bs.take i)).1)) rfl 1) (.cons (sh_flat (x := V.int ((ledR ns3 ns3.length 0 (bs.take i)).2)) rfl 1) (.cons (Sh.list (sha_flat (ok_ints (stretch ns3 (ledLow 0 (bs.take i)) (ns3.length - (bs.take i).length))) 0)) (.nil 1))))).shaped (by decide), (Sh.tuple (.cons (sh_flat (x := V.int ((ledR ns3 ns3.length 0 (bs.take i)).1)) rfl 1) (.cons (sh_flat (x := V.int ((ledR ns3 ns3.length 0 (bs.take i)).2)) rfl 1) (.cons (Sh.list (sha_flat (ok_ints (stretch ns3 (ledLow 0 (bs.take i)) (ns3.length - (bs.take i).length))) 0)) (.nil 1))))).shaped (by decide), _, rfl, ?_⟩
            refine iteFb (congrArg Bool.not (eqv_same ((Sh.tuple (.cons (sh_flat (x := V.int ((ledR ns3 ns3.length 0 (bs.take i)).1)) rfl 1) (.cons (sh_flat (x := V.int ((ledR ns3 ns3.length 0 (bs.take i)).2)) rfl 1) (.cons (Sh.list (sha_flat (ok_ints (stretch ns3 (ledLow 0 (bs.take i)) (ns3.length - (bs.take i).length))) 0)) (.nil 1))))).shaped (by decide)))) ?_
            have h61 := (sH55 _ _ (sH54 _ _ h52))
            refine ⟨_, rfl, _, rfl, _, rfl, _, rfl, D, _, rfl, (SqL.of h61), fun p62 np62 => gen_heap np62 fun H63 sH63 hp62 => ?_⟩
            rw [ei, cut_sides] at hp62
            have h64 := (sH63 _ _ (sH55 _ _ (sH54 _ _ (sH49 _ _ hp46))))
            refine ⟨(PyData.list ((sidesV (bs.take i)).map vD)), (PyData.list ((sidesV (bs.take i)).map vD)), (dp_lst (SqL.of h64) (sidesV_ok (bs.take i))), (dp_lst (SqL.of hp62) (sidesV_ok (bs.take i))), (Sh.list (sha_flat (sidesV_ok (bs.take i)) 0)).shaped (by decide), (Sh.list (sha_flat (sidesV_ok (bs.take i)) 0)).shaped (by decide), _, rfl, ?_⟩
            refine iteFb (congrArg Bool.not (eqv_same ((Sh.list (sha_flat (sidesV_ok (bs.take i)) 0)).shaped (by decide)))) ?_
            have h65 := (sH63 _ _ h60)
            have h66 := (sH63 _ _ h59)
            refine ⟨_, rfl, p50, _, _, _, rfl, rfl, (SqT.of h65), atI_nat (j := 2) rfl, .inl ⟨rfl, _, SqL.of h66⟩, l51, _, _, rfl, rfl, h66, by rw [List.length_map]; unfold stretch; rw [List.length_take]; exact size_lt (by have := okns3.1; omega), gen_put h66 fun H67 sH67 h68 => ?_⟩
            exact ⟨_, _, _, _, _, _, rfl, (fun b o e => (sH67 _ _ (ne_of_none e (sd.free (sH47.free nl51))) (sH63 _ _ (sH55 _ _ (sH54 _ _ (sH49 _ _ (sH47 _ _ (sd _ _ e))))))))⟩
          · rintro σ Hd ⟨x13, x14, x15, x16, x17, x18, rfl, sd⟩
            have h69 := (sd _ _ (s2 _ _ (sb _ _ (sH17 _ _ h16))))
            refine ⟨_, rfl, _, rfl, .inl ⟨ns3, ⟨p6, rfl, (SqL.of h69), okns3⟩, fun H70 p71 sH70 np71 hp71 => ?_⟩⟩
            refine ⟨_, rfl, _, _, _, _, _, rfl, .ty _, (pv_sq (SqL.of hp71)).ty, kit_list (T := "list") (by decide), _, rfl, ?_⟩
            refine iteF ?_
            have h74 := (sH70 _ _ (sd _ _ h44))
            refine ⟨_, rfl, _, rfl, r4, ns3, rfl, (SqL.of h74), okns3.1, fun H72 p73 sH72 np73 hp73 => ?_⟩
            have h75 := (sH72 _ _ hp71)
            refine ⟨(PyData.list ((sidesV (greedyV ns3 ns3.length 0)).map vD)), (PyData.list ((sidesV (greedyV ns3 ns3.length 0)).map vD)), (dp_lst (SqL.of h75) (sidesV_ok (greedyV ns3 ns3.length 0))), (dp_lst (SqL.of hp73) (sidesV_ok (greedyV ns3 ns3.length 0))), (Sh.list (sha_flat (sidesV_ok (greedyV ns3 ns3.length 0)) 0)).shaped (by decide), (Sh.list (sha_flat (sidesV_ok (greedyV ns3 ns3.length 0)) 0)).shaped (by decide), _, rfl, ?_⟩
            refine iteFb (congrArg Bool.not (eqv_same ((Sh.list (sha_flat (sidesV_ok (greedyV ns3 ns3.length 0)) 0)).shaped (by decide)))) ?_
            have h76 := (sH72 _ _ (sH70 _ _ h69))
            have h77 := (sH72 _ _ h74)
            refine ⟨_, rfl, _, rfl, (PyData.list ((ns3.map V.int).map vD)), (PyData.list ((ns3.map V.int).map vD)), (dp_lst (SqL.of h76) (ok_ints ns3)), (dp_lst (SqL.of h77) (ok_ints ns3)), (Sh.list (sha_flat (ok_ints ns3) 0)).shaped (by decide), (Sh.list (sha_flat (ok_ints ns3) 0)).shaped (by decide), _, rfl, ?_⟩
            refine iteFb (congrArg Bool.not (eqv_same ((Sh.list (sha_flat (ok_ints ns3) 0)).shaped (by decide)))) ?_
            exact ⟨_, _, _, _, _, _, _, _, _, _, _, _, _, _, _, _, _, rfl, (fun b o e => (sH72 _ _ (sH70 _ _ (sd _ _ (s2 _ _ (sb _ _ (sH17 _ _ (sH13 _ _ (sH11 _ _ (sH7 _ _ (sH5 _ _ (sa _ _ e))))))))))))⟩
    · rintro σ Ha ⟨x2, x3, x4, x5, x6, x7, x8, x9, x10, x11, x12, x13, x14, x15, x16, x17, x18, rfl, sa⟩
      refine ⟨12, rfl, by decide, by decide, fun D nD => ?_⟩
      refine lc_range (lo := 0) (n := 12) (fun i H2 => Same Ha H2 ∧ H2 D = some (.lst ((List.range i).map fun (i : Nat) => V.int (((i : Int) * (i : Int) * 7) % 30)))) ⟨same_new nD _, upd_same⟩ ?_ ?_
      · rintro i H2 hi ⟨s2, hD⟩
        refine ⟨rfl, ?_⟩
        refine ⟨_, rfl, _, rfl, _, _, rfl, rfl, .inl ⟨by omega, by omega⟩, _, _, rfl, rfl, .inr ⟨by decide, by decide⟩, _, _, rfl, rfl, (by show (0 : Int) < 30; decide), ?_⟩
        refine ⟨_, hD, by rw [List.length_map, List.length_range]; exact size_lt (by omega), fun c o e => ?_, ?_⟩
        · rw [upd_ne (ne_of_none e nD)]
          exact s2 _ _ e
        · rw [upd_same, List.range_succ, List.map_append]
          have e0 : (0 : Int) + (i : Int) = (i : Int) := by omega
          rw [e0]
          rfl
      · rintro H2 ⟨s2, hD⟩
        rw [long_row] at hD
        refine ⟨fun σ' H3 => σ' = [some (V.ref a), some (V.int cs.sum), x2, x3, x4, x5, x6, x7, x8, x9, x10, x11, x12, x13, x14, x15, x16, some (V.ref D), x18] ∧ Same H2 H3, ?_, ?_⟩
        · refine ⟨_, rfl, _, _, rfl, rfl, (by show (0 : Int) < 16; decide), rfl, _, rfl, ?_⟩
          refine ite2 (fun c => ?_) (fun c => iteF ⟨rfl, Same.refl _⟩)
          refine ⟨_, rfl, _, rfl, .inl ⟨[0, 7, 28, 3, 22, 25, 12, 13, 28, 27, 10, 7], ⟨D, rfl, (SqL.of hD), longOk⟩, fun H78 sH78 => ?_⟩⟩
          have h79 := (sH78 _ _ hD)
          refine ⟨_, rfl, _, rfl, D, [0, 7, 28, 3, 22, 25, 12, 13, 28, 27, 10, 7], rfl, (SqL.of h79), longOk.1, fun kvs80 d81 H82 wkvs80 sH82 nd81 hd81 => ?_⟩
          have h86 := (sH82 _ _ h79)
          refine ⟨D, d81, [0, 7, 28, 3, 22, 25, 12, 13, 28, 27, 10, 7], 0, ([0, 7, 28, 3, 22, 25, 12, 13, 28, 27, 10, 7] : List Int).length, _, _, _, rfl, rfl, rfl, (SqL.of h86), hd81, wkvs80, longOk.1, by omega, by have := longOk.1; omega, fun H83 p84 xs85 sH83 np84 hp84 Lp84 => ?_⟩
          refine ⟨p84, _, rfl, .inl (SqL.of hp84), rfl, _, rfl, ?_⟩
          refine iteFb (congrArg Bool.not (decide_eq_true (congrArg V.int (by unfold many; rw [Lp84.len])))) ?_
          exact ⟨rfl, (fun b o e => (sH83 _ _ (sH82 _ _ (sH78 _ _ e))))⟩
        · rintro σ' H3 ⟨rfl, s3⟩
          refine ⟨(by show 3 ≤ sizeLine; decide), fun p87 np87 => gen_heap np87 fun H88 sH88 hp87 => ?_⟩
          refine ⟨_, rfl, .inl ⟨[1, 5, 5], ⟨p87, rfl, (SqL.of hp87), ⟨by decide, by decide⟩⟩, fun H89 p90 sH89 np90 hp90 => ?_⟩⟩
          refine ⟨(by show 3 ≤ sizeLine; decide), fun p91 np91 => gen_heap np91 fun H92 sH92 hp91 => ?_⟩
          have h93 := (sH92 _ _ hp90)
          refine ⟨(PyData.list ((sidesV (greedyV ([1, 5, 5]) ([1, 5, 5] : List Int).length 0)).map vD)), (PyData.list [PyData.str "right", PyData.str "right", PyData.str "left"]), (dp_lst (SqL.of h93) (sidesV_ok (greedyV ([1, 5, 5]) ([1, 5, 5] : List Int).length 0))), (.lst (SqL.of hp91) (.cons (.str _) (.cons (.str _) (.cons (.str _) .nil)))), (Sh.list (sha_flat (sidesV_ok (greedyV ([1, 5, 5]) ([1, 5, 5] : List Int).length 0)) 0)).shaped (by decide), (Sh.list (.cons (sh_flat (x := V.str "right") (by decide +kernel) 0) (.cons (sh_flat (x := V.str "right") (by decide +kernel) 0) (.cons (sh_flat (x := V.str "left") (by decide +kernel) 0) (.nil 0))))).shaped (by decide), _, rfl, ?_⟩
          refine iteFb (congrArg Bool.not (eqv_eq ((Sh.list (sha_flat (sidesV_ok (greedyV ([1, 5, 5]) ([1, 5, 5] : List Int).length 0)) 0)).shaped (by decide)) (by rfl))) ?_
          refine ⟨(by show 3 ≤ sizeLine; decide), fun p94 np94 => gen_heap np94 fun H95 sH95 hp94 => ?_⟩
          refine ⟨(by show 2 ≤ sizeLine; decide), fun p96 np96 => gen_heap np96 fun H97 sH97 hp96 => ?_⟩
          have h98 := (sH97 _ _ hp94)
          refine ⟨_, _, rfl, .inr ⟨[4, 1, 7], ⟨p94, rfl, (SqL.of h98), ⟨by decide, by decide⟩⟩, .inr ⟨p96, [false, true], rfl, (SqL.of hp96), (by decide), fun H99 p100 l101 sH99 np100 nl101 hp100 hl101 => ?_⟩⟩⟩
          refine ⟨(by show 1 ≤ sizeLine; decide), fun p102 np102 => gen_heap np102 fun H103 sH103 hp102 => ?_⟩
          refine ⟨(by show 3 ≤ sizeLine; decide), fun p104 np104 => gen_heap np104 fun H105 sH105 hp104 => ?_⟩
          have h106 := (sH105 _ _ (sH103 _ _ hl101))
          have h107 := (sH105 _ _ (sH103 _ _ hp100))
          have h108 := (sH105 _ _ hp102)
          refine ⟨(PyData.tuple [PyData.int ((ledR ([4, 1, 7]) ([4, 1, 7] : List Int).length 0 ([false, true])).1), PyData.int ((ledR ([4, 1, 7]) ([4, 1, 7] : List Int).length 0 ([false, true])).2), PyData.list (((stretch ([4, 1, 7]) (ledLow 0 ([false, true])) (([4, 1, 7] : List Int).length - ([false, true] : List Bool).length)).map V.int).map vD)]), (PyData.tuple [PyData.int 7, PyData.int 4, PyData.list [PyData.int 1]]), (.tup (SqT.of h107) (.cons (.int _) (.cons (.int _) (.cons (dp_lst (SqL.of h106) (ok_ints (stretch ([4, 1, 7]) (ledLow 0 ([false, true])) (([4, 1, 7] : List Int).length - ([false, true] : List Bool).length)))) .nil)))), (.tup (SqT.of hp104) (.cons (.int _) (.cons (.int _) (.cons (.lst (SqL.of h108) (.cons (.int _) .nil)) .nil)))), (Sh.tuple (.cons (sh_flat (x := V.int ((ledR ([4, 1, 7]) ([4, 1, 7] : List Int).length 0 ([false, true])).1)) rfl 1) (.cons (sh_flat (x := V.int ((ledR ([4, 1, 7]) ([4, 1, 7] : List Int).length 0 ([false, true])).2)) rfl 1) (.cons (Sh.list (sha_flat (ok_ints (stretch ([4, 1, 7]) (ledLow 0 ([false, true])) (([4, 1, 7] : List Int).length - ([false, true] : List Bool).length))) 0)) (.nil 1))))).shaped (by decide), (Sh.tuple (.cons (sh_flat (x := V.int 7) rfl 1) (.cons (sh_flat (x := V.int 4) rfl 1) (.cons (Sh.list (.cons (sh_flat (x := V.int 1) rfl 0) (.nil 0))) (.nil 1))))).shaped (by decide), _, rfl, ?_⟩
          refine iteTb (eqv_eq ((Sh.tuple (.cons (sh_flat (x := V.int ((ledR ([4, 1, 7]) ([4, 1, 7] : List Int).length 0 ([false, true])).1)) rfl 1) (.cons (sh_flat (x := V.int ((ledR ([4, 1, 7]) ([4, 1, 7] : List Int).length 0 ([false, true])).2)) rfl 1) (.cons (Sh.list (sha_flat (ok_ints (stretch ([4, 1, 7]) (ledLow 0 ([false, true])) (([4, 1, 7] : List Int).length - ([false, true] : List Bool).length))) 0)) (.nil 1))))).shaped (by decide)) (by rfl)) ?_
          refine ⟨(by show 1 ≤ sizeLine; decide), fun p109 np109 => gen_heap np109 fun H110 sH110 hp109 => ?_⟩
          refine ⟨_, rfl, .inl ⟨[2], ⟨p109, rfl, (SqL.of hp109), ⟨by decide, by decide⟩⟩, fun H111 sH111 => ?_⟩⟩
          refine ⟨rfl, ?_⟩
          have fin : decide (V.int (many [2] ([2] : List Int).length 0) = V.int 2) = true := by decide +kernel
          rw [fin]
          exact q _
end
end K04
namespace K04
open PySem PySem.Spec PyProof.Rows L2 RE
theorem all_mk {l : PySem.W.OpenLaw} {w : World} {K : PySem.W.Frag} {h : Heap} {mg : Str → Option Value} {fa : Addr} (X : K.In h) (G : h.Ns mainGlobals mg) (hfa : mg "law" = some (.ref fa))
    {f_is_whole f_check_row f_is_side f_worth_of f_after f_best_of f_led f_greedy f_plays_of f_how_many f_play_by f__law_number f__law_whole f__law_row f__law_worths f__law_ends f__law_led f__law_plays f__law_greedy f_law C_EndError C_BadRow C_BadTakes C_BadNumber : Addr} {od_is_whole an_is_whole od_check_row an_check_row od_is_side an_is_side od_worth_of an_worth_of od_after an_after od_best_of an_best_of od_led an_led od_greedy an_greedy od_plays_of an_plays_of od_how_many an_how_many od_play_by an_play_by od__law_number an__law_number od__law_whole an__law_whole od__law_row an__law_row od__law_worths an__law_worths od__law_ends an__law_ends od__law_led an__law_led od__law_plays an__law_plays od__law_greedy an__law_greedy od_law an_law : Option Addr} {sl_is_whole sl_check_row sl_is_side sl_worth_of sl_after sl_best_of sl_led sl_greedy sl_plays_of sl_how_many sl_play_by sl__law_number sl__law_whole sl__law_row sl__law_worths sl__law_ends sl__law_led sl__law_plays sl__law_greedy sl_law : Array (Option Value)} {oc_is_whole kV_is_whole dc_is_whole pm_is_whole cd_is_whole ct_is_whole oc_check_row kV_check_row dc_check_row pm_check_row cd_check_row ct_check_row oc_is_side kV_is_side dc_is_side pm_is_side cd_is_side ct_is_side oc_worth_of kV_worth_of dc_worth_of pm_worth_of cd_worth_of ct_worth_of oc_after kV_after dc_after pm_after cd_after ct_after oc_best_of kV_best_of dc_best_of pm_best_of cd_best_of ct_best_of oc_led kV_led dc_led pm_led cd_led ct_led oc_greedy kV_greedy dc_greedy pm_greedy cd_greedy ct_greedy oc_plays_of kV_plays_of dc_plays_of pm_plays_of cd_plays_of ct_plays_of oc_how_many kV_how_many dc_how_many pm_how_many cd_how_many ct_how_many oc_play_by kV_play_by dc_play_by pm_play_by cd_play_by ct_play_by oc__law_number kV__law_number dc__law_number pm__law_number cd__law_number ct__law_number oc__law_whole kV__law_whole dc__law_whole pm__law_whole cd__law_whole ct__law_whole oc__law_row kV__law_row dc__law_row pm__law_row cd__law_row ct__law_row oc__law_worths kV__law_worths dc__law_worths pm__law_worths cd__law_worths ct__law_worths oc__law_ends kV__law_ends dc__law_ends pm__law_ends cd__law_ends ct__law_ends oc__law_led kV__law_led dc__law_led pm__law_led cd__law_led ct__law_led oc__law_plays kV__law_plays dc__law_plays pm__law_plays cd__law_plays ct__law_plays oc__law_greedy kV__law_greedy dc__law_greedy pm__law_greedy cd__law_greedy ct__law_greedy oc_law kV_law dc_law pm_law cd_law ct_law : Value} {t_MOST t_GREATEST t_LEFT t_RIGHT : Tok}
    (a_is_whole : PySem.W.nsIn K mainGlobals "is_whole" = some (some (.ref f_is_whole)))
    (l_is_whole : K.lookup f_is_whole = some ⟨oc_is_whole, od_is_whole, .func (PySem.W.fnOf "is_whole" "is_whole" (defArgs s_is_whole) (defBody s_is_whole) (defScope s_is_whole) .none kV_is_whole dc_is_whole pm_is_whole an_is_whole cd_is_whole ct_is_whole), sl_is_whole⟩)
    (c_is_whole : PySem.W.codeIn K cd_is_whole "is_whole" = true)
    (k_is_whole : PySem.W.keepIn K (.ref f_is_whole) = true)
    (a_check_row : PySem.W.nsIn K mainGlobals "check_row" = some (some (.ref f_check_row)))
    (l_check_row : K.lookup f_check_row = some ⟨oc_check_row, od_check_row, .func (PySem.W.fnOf "check_row" "check_row" (defArgs s_check_row) (defBody s_check_row) (defScope s_check_row) .none kV_check_row dc_check_row pm_check_row an_check_row cd_check_row ct_check_row), sl_check_row⟩)
    (c_check_row : PySem.W.codeIn K cd_check_row "check_row" = true)
    (k_check_row : PySem.W.keepIn K (.ref f_check_row) = true)
    (a_is_side : PySem.W.nsIn K mainGlobals "is_side" = some (some (.ref f_is_side)))
    (l_is_side : K.lookup f_is_side = some ⟨oc_is_side, od_is_side, .func (PySem.W.fnOf "is_side" "is_side" (defArgs s_is_side) (defBody s_is_side) (defScope s_is_side) .none kV_is_side dc_is_side pm_is_side an_is_side cd_is_side ct_is_side), sl_is_side⟩)
    (c_is_side : PySem.W.codeIn K cd_is_side "is_side" = true)
    (k_is_side : PySem.W.keepIn K (.ref f_is_side) = true)
    (a_worth_of : PySem.W.nsIn K mainGlobals "worth_of" = some (some (.ref f_worth_of)))
    (l_worth_of : K.lookup f_worth_of = some ⟨oc_worth_of, od_worth_of, .func (PySem.W.fnOf "worth_of" "worth_of" (defArgs s_worth_of) (defBody s_worth_of) (defScope s_worth_of) .none kV_worth_of dc_worth_of pm_worth_of an_worth_of cd_worth_of ct_worth_of), sl_worth_of⟩)
    (c_worth_of : PySem.W.codeIn K cd_worth_of "worth_of" = true)
    (k_worth_of : PySem.W.keepIn K (.ref f_worth_of) = true)
    (a_after : PySem.W.nsIn K mainGlobals "after" = some (some (.ref f_after)))
    (l_after : K.lookup f_after = some ⟨oc_after, od_after, .func (PySem.W.fnOf "after" "after" (defArgs s_after) (defBody s_after) (defScope s_after) .none kV_after dc_after pm_after an_after cd_after ct_after), sl_after⟩)
    (c_after : PySem.W.codeIn K cd_after "after" = true)
    (k_after : PySem.W.keepIn K (.ref f_after) = true)
    (a_best_of : PySem.W.nsIn K mainGlobals "best_of" = some (some (.ref f_best_of)))
    (l_best_of : K.lookup f_best_of = some ⟨oc_best_of, od_best_of, .func (PySem.W.fnOf "best_of" "best_of" (defArgs s_best_of) (defBody s_best_of) (defScope s_best_of) .none kV_best_of dc_best_of pm_best_of an_best_of cd_best_of ct_best_of), sl_best_of⟩)
    (c_best_of : PySem.W.codeIn K cd_best_of "best_of" = true)
    (k_best_of : PySem.W.keepIn K (.ref f_best_of) = true)
    (a_led : PySem.W.nsIn K mainGlobals "led" = some (some (.ref f_led)))
    (l_led : K.lookup f_led = some ⟨oc_led, od_led, .func (PySem.W.fnOf "led" "led" (defArgs s_led) (defBody s_led) (defScope s_led) .none kV_led dc_led pm_led an_led cd_led ct_led), sl_led⟩)
    (c_led : PySem.W.codeIn K cd_led "led" = true)
    (k_led : PySem.W.keepIn K (.ref f_led) = true)
    (a_greedy : PySem.W.nsIn K mainGlobals "greedy" = some (some (.ref f_greedy)))
    (l_greedy : K.lookup f_greedy = some ⟨oc_greedy, od_greedy, .func (PySem.W.fnOf "greedy" "greedy" (defArgs s_greedy) (defBody s_greedy) (defScope s_greedy) .none kV_greedy dc_greedy pm_greedy an_greedy cd_greedy ct_greedy), sl_greedy⟩)
    (c_greedy : PySem.W.codeIn K cd_greedy "greedy" = true)
    (k_greedy : PySem.W.keepIn K (.ref f_greedy) = true)
    (a_plays_of : PySem.W.nsIn K mainGlobals "plays_of" = some (some (.ref f_plays_of)))
    (l_plays_of : K.lookup f_plays_of = some ⟨oc_plays_of, od_plays_of, .func (PySem.W.fnOf "plays_of" "plays_of" (defArgs s_plays_of) (defBody s_plays_of) (defScope s_plays_of) .none kV_plays_of dc_plays_of pm_plays_of an_plays_of cd_plays_of ct_plays_of), sl_plays_of⟩)
    (c_plays_of : PySem.W.codeIn K cd_plays_of "plays_of" = true)
    (k_plays_of : PySem.W.keepIn K (.ref f_plays_of) = true)
    (a_how_many : PySem.W.nsIn K mainGlobals "how_many" = some (some (.ref f_how_many)))
    (l_how_many : K.lookup f_how_many = some ⟨oc_how_many, od_how_many, .func (PySem.W.fnOf "how_many" "how_many" (defArgs s_how_many) (defBody s_how_many) (defScope s_how_many) .none kV_how_many dc_how_many pm_how_many an_how_many cd_how_many ct_how_many), sl_how_many⟩)
    (c_how_many : PySem.W.codeIn K cd_how_many "how_many" = true)
    (k_how_many : PySem.W.keepIn K (.ref f_how_many) = true)
    (a_play_by : PySem.W.nsIn K mainGlobals "play_by" = some (some (.ref f_play_by)))
    (l_play_by : K.lookup f_play_by = some ⟨oc_play_by, od_play_by, .func (PySem.W.fnOf "play_by" "play_by" (defArgs s_play_by) (defBody s_play_by) (defScope s_play_by) .none kV_play_by dc_play_by pm_play_by an_play_by cd_play_by ct_play_by), sl_play_by⟩)
    (c_play_by : PySem.W.codeIn K cd_play_by "play_by" = true)
    (k_play_by : PySem.W.keepIn K (.ref f_play_by) = true)
    (a__law_number : PySem.W.nsIn K mainGlobals "_law_number" = some (some (.ref f__law_number)))
    (l__law_number : K.lookup f__law_number = some ⟨oc__law_number, od__law_number, .func (PySem.W.fnOf "_law_number" "_law_number" (defArgs s__law_number) (defBody s__law_number) (defScope s__law_number) .none kV__law_number dc__law_number pm__law_number an__law_number cd__law_number ct__law_number), sl__law_number⟩)
    (c__law_number : PySem.W.codeIn K cd__law_number "_law_number" = true)
    (k__law_number : PySem.W.keepIn K (.ref f__law_number) = true)
    (a__law_whole : PySem.W.nsIn K mainGlobals "_law_whole" = some (some (.ref f__law_whole)))
    (l__law_whole : K.lookup f__law_whole = some ⟨oc__law_whole, od__law_whole, .func (PySem.W.fnOf "_law_whole" "_law_whole" (defArgs s__law_whole) (defBody s__law_whole) (defScope s__law_whole) .none kV__law_whole dc__law_whole pm__law_whole an__law_whole cd__law_whole ct__law_whole), sl__law_whole⟩)
    (c__law_whole : PySem.W.codeIn K cd__law_whole "_law_whole" = true)
    (k__law_whole : PySem.W.keepIn K (.ref f__law_whole) = true)
    (a__law_row : PySem.W.nsIn K mainGlobals "_law_row" = some (some (.ref f__law_row)))
    (l__law_row : K.lookup f__law_row = some ⟨oc__law_row, od__law_row, .func (PySem.W.fnOf "_law_row" "_law_row" (defArgs s__law_row) (defBody s__law_row) (defScope s__law_row) .none kV__law_row dc__law_row pm__law_row an__law_row cd__law_row ct__law_row), sl__law_row⟩)
    (c__law_row : PySem.W.codeIn K cd__law_row "_law_row" = true)
    (k__law_row : PySem.W.keepIn K (.ref f__law_row) = true)
    (a__law_worths : PySem.W.nsIn K mainGlobals "_law_worths" = some (some (.ref f__law_worths)))
    (l__law_worths : K.lookup f__law_worths = some ⟨oc__law_worths, od__law_worths, .func (PySem.W.fnOf "_law_worths" "_law_worths" (defArgs s__law_worths) (defBody s__law_worths) (defScope s__law_worths) .none kV__law_worths dc__law_worths pm__law_worths an__law_worths cd__law_worths ct__law_worths), sl__law_worths⟩)
    (c__law_worths : PySem.W.codeIn K cd__law_worths "_law_worths" = true)
    (k__law_worths : PySem.W.keepIn K (.ref f__law_worths) = true)
    (a__law_ends : PySem.W.nsIn K mainGlobals "_law_ends" = some (some (.ref f__law_ends)))
    (l__law_ends : K.lookup f__law_ends = some ⟨oc__law_ends, od__law_ends, .func (PySem.W.fnOf "_law_ends" "_law_ends" (defArgs s__law_ends) (defBody s__law_ends) (defScope s__law_ends) .none kV__law_ends dc__law_ends pm__law_ends an__law_ends cd__law_ends ct__law_ends), sl__law_ends⟩)
    (c__law_ends : PySem.W.codeIn K cd__law_ends "_law_ends" = true)
    (k__law_ends : PySem.W.keepIn K (.ref f__law_ends) = true)
    (a__law_led : PySem.W.nsIn K mainGlobals "_law_led" = some (some (.ref f__law_led)))
    (l__law_led : K.lookup f__law_led = some ⟨oc__law_led, od__law_led, .func (PySem.W.fnOf "_law_led" "_law_led" (defArgs s__law_led) (defBody s__law_led) (defScope s__law_led) .none kV__law_led dc__law_led pm__law_led an__law_led cd__law_led ct__law_led), sl__law_led⟩)
    (c__law_led : PySem.W.codeIn K cd__law_led "_law_led" = true)
    (k__law_led : PySem.W.keepIn K (.ref f__law_led) = true)
    (a__law_plays : PySem.W.nsIn K mainGlobals "_law_plays" = some (some (.ref f__law_plays)))
    (l__law_plays : K.lookup f__law_plays = some ⟨oc__law_plays, od__law_plays, .func (PySem.W.fnOf "_law_plays" "_law_plays" (defArgs s__law_plays) (defBody s__law_plays) (defScope s__law_plays) .none kV__law_plays dc__law_plays pm__law_plays an__law_plays cd__law_plays ct__law_plays), sl__law_plays⟩)
    (c__law_plays : PySem.W.codeIn K cd__law_plays "_law_plays" = true)
    (k__law_plays : PySem.W.keepIn K (.ref f__law_plays) = true)
    (a__law_greedy : PySem.W.nsIn K mainGlobals "_law_greedy" = some (some (.ref f__law_greedy)))
    (l__law_greedy : K.lookup f__law_greedy = some ⟨oc__law_greedy, od__law_greedy, .func (PySem.W.fnOf "_law_greedy" "_law_greedy" (defArgs s__law_greedy) (defBody s__law_greedy) (defScope s__law_greedy) .none kV__law_greedy dc__law_greedy pm__law_greedy an__law_greedy cd__law_greedy ct__law_greedy), sl__law_greedy⟩)
    (c__law_greedy : PySem.W.codeIn K cd__law_greedy "_law_greedy" = true)
    (k__law_greedy : PySem.W.keepIn K (.ref f__law_greedy) = true)
    (a_law : PySem.W.nsIn K mainGlobals "law" = some (some (.ref f_law)))
    (l_law : K.lookup f_law = some ⟨oc_law, od_law, .func (PySem.W.fnOf "law" "law" (defArgs s_law) (defBody s_law) (defScope s_law) .none kV_law dc_law pm_law an_law cd_law ct_law), sl_law⟩)
    (c_law : PySem.W.codeIn K cd_law "law" = true)
    (k_law : PySem.W.keepIn K (.ref f_law) = true)
    (q_MOST : PySem.W.nsIn K mainGlobals "MOST" = some (some (.int 12 t_MOST)))
    (q_GREATEST : PySem.W.nsIn K mainGlobals "GREATEST" = some (some (.int 1000000 t_GREATEST)))
    (q_LEFT : PySem.W.nsIn K mainGlobals "LEFT" = some (some (.str "left" t_LEFT)))
    (q_RIGHT : PySem.W.nsIn K mainGlobals "RIGHT" = some (some (.str "right" t_RIGHT)))
    (z_all : PySem.W.nsIn K mainGlobals "all" = some none)
    (z_bool : PySem.W.nsIn K mainGlobals "bool" = some none)
    (z_enumerate : PySem.W.nsIn K mainGlobals "enumerate" = some none)
    (z_int : PySem.W.nsIn K mainGlobals "int" = some none)
    (z_isinstance : PySem.W.nsIn K mainGlobals "isinstance" = some none)
    (z_len : PySem.W.nsIn K mainGlobals "len" = some none)
    (z_list : PySem.W.nsIn K mainGlobals "list" = some none)
    (z_max : PySem.W.nsIn K mainGlobals "max" = some none)
    (z_range : PySem.W.nsIn K mainGlobals "range" = some none)
    (z_str : PySem.W.nsIn K mainGlobals "str" = some none)
    (z_sum : PySem.W.nsIn K mainGlobals "sum" = some none)
    (z_tuple : PySem.W.nsIn K mainGlobals "tuple" = some none)
    (n_EndError : PySem.W.nsIn K mainGlobals "EndError" = some (some (.ref C_EndError)))
    (kc_EndError : PySem.W.keepIn K (.ref C_EndError) = true)
    (xc_EndError : PySem.W.excIn K C_EndError [.type "ValueError", .type "Exception", .type "BaseException", .type "object"] "ValueError.__new__" = true)
    (Bc_EndError : PySem.W.subIn K (.ref C_EndError) (.type "BaseException") = some true)
    (tc_EndError : PySem.W.typeIn K (.ref C_EndError) = some (.type "type"))
    (n_BadRow : PySem.W.nsIn K mainGlobals "BadRow" = some (some (.ref C_BadRow)))
    (kc_BadRow : PySem.W.keepIn K (.ref C_BadRow) = true)
    (xc_BadRow : PySem.W.excIn K C_BadRow [.type "ValueError", .type "Exception", .type "BaseException", .type "object"] "ValueError.__new__" = true)
    (Bc_BadRow : PySem.W.subIn K (.ref C_BadRow) (.type "BaseException") = some true)
    (tc_BadRow : PySem.W.typeIn K (.ref C_BadRow) = some (.type "type"))
    (n_BadTakes : PySem.W.nsIn K mainGlobals "BadTakes" = some (some (.ref C_BadTakes)))
    (kc_BadTakes : PySem.W.keepIn K (.ref C_BadTakes) = true)
    (xc_BadTakes : PySem.W.excIn K C_BadTakes [.type "ValueError", .type "Exception", .type "BaseException", .type "object"] "ValueError.__new__" = true)
    (Bc_BadTakes : PySem.W.subIn K (.ref C_BadTakes) (.type "BaseException") = some true)
    (tc_BadTakes : PySem.W.typeIn K (.ref C_BadTakes) = some (.type "type"))
    (n_BadNumber : PySem.W.nsIn K mainGlobals "BadNumber" = some (some (.ref C_BadNumber)))
    (kc_BadNumber : PySem.W.keepIn K (.ref C_BadNumber) = true)
    (xc_BadNumber : PySem.W.excIn K C_BadNumber [.type "ValueError", .type "Exception", .type "BaseException", .type "object"] "ValueError.__new__" = true)
    (Bc_BadNumber : PySem.W.subIn K (.ref C_BadNumber) (.type "BaseException") = some true)
    (tc_BadNumber : PySem.W.typeIn K (.ref C_BadNumber) = some (.type "type"))
    : ∃ fd : FuncData, (∀ (s : Shared) (v : Value), BindsTo s fd ⟨[v], []⟩ [("_law_script", v)]) ∧ ∀ base : Heap, K.In base → base.Ns mainGlobals mg → FnOk l.prog w K mg base CX0 29 fa fd ["_law_script"] (spLaw K) := by
  have e := hfa.symm.trans (PySem.W.mg_of X G a_law)
  have e2 : f_law = fa := by
    have e3 := Option.some.inj e
    injection e3 with e4
    exact e4.symm
  subst e2
  have F_is_whole := fun_mk (st := s_is_whole) l_is_whole c_is_whole k_is_whole
  have b_is_whole := F_is_whole.binds (ps := ["thing"]) fun _ _ _ _ _ _ us hl => match us, hl with | [_], _ => rfl
  have F_check_row := fun_mk (st := s_check_row) l_check_row c_check_row k_check_row
  have b_check_row := F_check_row.binds (ps := ["row"]) fun _ _ _ _ _ _ us hl => match us, hl with | [_], _ => rfl
  have F_is_side := fun_mk (st := s_is_side) l_is_side c_is_side k_is_side
  have b_is_side := F_is_side.binds (ps := ["thing"]) fun _ _ _ _ _ _ us hl => match us, hl with | [_], _ => rfl
  have F_worth_of := fun_mk (st := s_worth_of) l_worth_of c_worth_of k_worth_of
  have b_worth_of := F_worth_of.binds (ps := ["row", "low", "behind", "known"]) fun _ _ _ _ _ _ us hl => match us, hl with | [_, _, _, _], _ => rfl
  have F_after := fun_mk (st := s_after) l_after c_after k_after
  have b_after := F_after.binds (ps := ["row", "low", "behind", "side"]) fun _ _ _ _ _ _ us hl => match us, hl with | [_, _, _, _], _ => rfl
  have F_best_of := fun_mk (st := s_best_of) l_best_of c_best_of k_best_of
  have b_best_of := F_best_of.binds (ps := ["row", "low", "behind", "known"]) fun _ _ _ _ _ _ us hl => match us, hl with | [_, _, _, _], _ => rfl
  have F_led := fun_mk (st := s_led) l_led c_led k_led
  have b_led := F_led.binds (ps := ["row", "takes"]) fun _ _ _ _ _ _ us hl => match us, hl with | [_, _], _ => rfl
  have F_greedy := fun_mk (st := s_greedy) l_greedy c_greedy k_greedy
  have b_greedy := F_greedy.binds (ps := ["row"]) fun _ _ _ _ _ _ us hl => match us, hl with | [_], _ => rfl
  have F_plays_of := fun_mk (st := s_plays_of) l_plays_of c_plays_of k_plays_of
  have b_plays_of := F_plays_of.binds (ps := ["row", "low", "behind", "known"]) fun _ _ _ _ _ _ us hl => match us, hl with | [_, _, _, _], _ => rfl
  have F_how_many := fun_mk (st := s_how_many) l_how_many c_how_many k_how_many
  have b_how_many := F_how_many.binds (ps := ["row"]) fun _ _ _ _ _ _ us hl => match us, hl with | [_], _ => rfl
  have F_play_by := fun_mk (st := s_play_by) l_play_by c_play_by k_play_by
  have b_play_by := F_play_by.binds (ps := ["row", "number"]) fun _ _ _ _ _ _ us hl => match us, hl with | [_, _], _ => rfl
  have F__law_number := fun_mk (st := s__law_number) l__law_number c__law_number k__law_number
  have b__law_number := F__law_number.binds (ps := ["_law_cell", "_law_at", "_law_whole_here"]) fun _ _ _ _ _ _ us hl => match us, hl with | [_, _, _], _ => rfl
  have F__law_whole := fun_mk (st := s__law_whole) l__law_whole c__law_whole k__law_whole
  have b__law_whole := F__law_whole.binds (ps := ["_law_found"]) fun _ _ _ _ _ _ us hl => match us, hl with | [_], _ => rfl
  have F__law_row := fun_mk (st := s__law_row) l__law_row c__law_row k__law_row
  have b__law_row := F__law_row.binds (ps := ["_law_script", "_law_by", "_law_most"]) fun _ _ _ _ _ _ us hl => match us, hl with | [_, _, _], _ => rfl
  have F__law_worths := fun_mk (st := s__law_worths) l__law_worths c__law_worths k__law_worths
  have b__law_worths := F__law_worths.binds (ps := ["_law_row_here"]) fun _ _ _ _ _ _ us hl => match us, hl with | [_], _ => rfl
  have F__law_ends := fun_mk (st := s__law_ends) l__law_ends c__law_ends k__law_ends
  have b__law_ends := F__law_ends.binds (ps := ["_law_row_here", "_law_low", "_law_behind", "_law_worths_here"]) fun _ _ _ _ _ _ us hl => match us, hl with | [_, _, _, _], _ => rfl
  have F__law_led := fun_mk (st := s__law_led) l__law_led c__law_led k__law_led
  have b__law_led := F__law_led.binds (ps := ["_law_row_here", "_law_takes"]) fun _ _ _ _ _ _ us hl => match us, hl with | [_, _], _ => rfl
  have F__law_plays := fun_mk (st := s__law_plays) l__law_plays c__law_plays k__law_plays
  have b__law_plays := F__law_plays.binds (ps := ["_law_row_here", "_law_low", "_law_behind", "_law_worths_here"]) fun _ _ _ _ _ _ us hl => match us, hl with | [_, _, _, _], _ => rfl
  have F__law_greedy := fun_mk (st := s__law_greedy) l__law_greedy c__law_greedy k__law_greedy
  have b__law_greedy := F__law_greedy.binds (ps := ["_law_row_here"]) fun _ _ _ _ _ _ us hl => match us, hl with | [_], _ => rfl
  have F_law := fun_mk (st := s_law) l_law c_law k_law
  have b_law := F_law.binds (ps := ["_law_script"]) fun _ _ _ _ _ _ us hl => match us, hl with | [_], _ => rfl
  have T : Tx K mg { f_is_whole := f_is_whole, d_is_whole := _, f_check_row := f_check_row, d_check_row := _, f_is_side := f_is_side, d_is_side := _, f_worth_of := f_worth_of, d_worth_of := _, f_after := f_after, d_after := _, f_best_of := f_best_of, d_best_of := _, f_led := f_led, d_led := _, f_greedy := f_greedy, d_greedy := _, f_plays_of := f_plays_of, d_plays_of := _, f_how_many := f_how_many, d_how_many := _, f_play_by := f_play_by, d_play_by := _, f__law_number := f__law_number, d__law_number := _, f__law_whole := f__law_whole, d__law_whole := _, f__law_row := f__law_row, d__law_row := _, f__law_worths := f__law_worths, d__law_worths := _, f__law_ends := f__law_ends, d__law_ends := _, f__law_led := f__law_led, d__law_led := _, f__law_plays := f__law_plays, d__law_plays := _, f__law_greedy := f__law_greedy, d__law_greedy := _, f_law := f_law, d_law := _, C_EndError := C_EndError, C_BadRow := C_BadRow, C_BadTakes := C_BadTakes, C_BadNumber := C_BadNumber, t_MOST := t_MOST, t_GREATEST := t_GREATEST, t_LEFT := t_LEFT, t_RIGHT := t_RIGHT } := {
    ball := PySem.W.mg_none_of X G z_all,
    bbool := PySem.W.mg_none_of X G z_bool,
    benumerate := PySem.W.mg_none_of X G z_enumerate,
    bint := PySem.W.mg_none_of X G z_int,
    bisinstance := PySem.W.mg_none_of X G z_isinstance,
    blen := PySem.W.mg_none_of X G z_len,
    blist := PySem.W.mg_none_of X G z_list,
    bmax := PySem.W.mg_none_of X G z_max,
    brange := PySem.W.mg_none_of X G z_range,
    bstr := PySem.W.mg_none_of X G z_str,
    bsum := PySem.W.mg_none_of X G z_sum,
    btuple := PySem.W.mg_none_of X G z_tuple,
    gMOST := PySem.W.mg_of X G q_MOST,
    gGREATEST := PySem.W.mg_of X G q_GREATEST,
    gLEFT := PySem.W.mg_of X G q_LEFT,
    gRIGHT := PySem.W.mg_of X G q_RIGHT,
    gis_whole := PySem.W.mg_of X G a_is_whole, Fis_whole := F_is_whole, bis_whole := b_is_whole,
    gcheck_row := PySem.W.mg_of X G a_check_row, Fcheck_row := F_check_row, bcheck_row := b_check_row,
    gis_side := PySem.W.mg_of X G a_is_side, Fis_side := F_is_side, bis_side := b_is_side,
    gworth_of := PySem.W.mg_of X G a_worth_of, Fworth_of := F_worth_of, bworth_of := b_worth_of,
    gafter := PySem.W.mg_of X G a_after, Fafter := F_after, bafter := b_after,
    gbest_of := PySem.W.mg_of X G a_best_of, Fbest_of := F_best_of, bbest_of := b_best_of,
    gled := PySem.W.mg_of X G a_led, Fled := F_led, bled := b_led,
    ggreedy := PySem.W.mg_of X G a_greedy, Fgreedy := F_greedy, bgreedy := b_greedy,
    gplays_of := PySem.W.mg_of X G a_plays_of, Fplays_of := F_plays_of, bplays_of := b_plays_of,
    ghow_many := PySem.W.mg_of X G a_how_many, Fhow_many := F_how_many, bhow_many := b_how_many,
    gplay_by := PySem.W.mg_of X G a_play_by, Fplay_by := F_play_by, bplay_by := b_play_by,
    g_law_number := PySem.W.mg_of X G a__law_number, F_law_number := F__law_number, b_law_number := b__law_number,
    g_law_whole := PySem.W.mg_of X G a__law_whole, F_law_whole := F__law_whole, b_law_whole := b__law_whole,
    g_law_row := PySem.W.mg_of X G a__law_row, F_law_row := F__law_row, b_law_row := b__law_row,
    g_law_worths := PySem.W.mg_of X G a__law_worths, F_law_worths := F__law_worths, b_law_worths := b__law_worths,
    g_law_ends := PySem.W.mg_of X G a__law_ends, F_law_ends := F__law_ends, b_law_ends := b__law_ends,
    g_law_led := PySem.W.mg_of X G a__law_led, F_law_led := F__law_led, b_law_led := b__law_led,
    g_law_plays := PySem.W.mg_of X G a__law_plays, F_law_plays := F__law_plays, b_law_plays := b__law_plays,
    g_law_greedy := PySem.W.mg_of X G a__law_greedy, F_law_greedy := F__law_greedy, b_law_greedy := b__law_greedy,
    glaw := PySem.W.mg_of X G a_law, Flaw := F_law, blaw := b_law,
    gEndError := PySem.W.mg_of X G n_EndError,
    kEndError := kc_EndError, xEndError := xc_EndError, BEndError := Bc_EndError, tEndError := tc_EndError,
    gBadRow := PySem.W.mg_of X G n_BadRow,
    kBadRow := kc_BadRow, xBadRow := xc_BadRow, BBadRow := Bc_BadRow, tBadRow := tc_BadRow,
    gBadTakes := PySem.W.mg_of X G n_BadTakes,
    kBadTakes := kc_BadTakes, xBadTakes := xc_BadTakes, BBadTakes := Bc_BadTakes, tBadTakes := tc_BadTakes,
    gBadNumber := PySem.W.mg_of X G n_BadNumber,
    kBadNumber := kc_BadNumber, xBadNumber := xc_BadNumber, BBadNumber := Bc_BadNumber, tBadNumber := tc_BadNumber }
  exact ⟨_, fun s v => .of_eq rfl, fun base _ _ => ok_law T⟩
theorem bits_of {ns : List Int} (h : ∀ z ∈ ns, Builtin.Int.intBits z ≤ 1048576) : ∀ z ∈ ns, z.natAbs < 2 ^ 1048576 := fun z hz => lt_of_bits (h z hz)
end K04
open PySem PySem.W PyProof.Rows
set_option maxRecDepth 100000 in
set_option maxHeartbeats 0 in
theorem PySem.Challenge.cw_rowends_k04_whole_plays_holds : PySem.Challenge.rw_rowends_k04_whole_plays.Holds := by
  w_on; o_law; k_head; (case hw => w_witness2)
  k_fill
  refine L2.walk_ofB (l := PySem.Challenge.rw_rowends_k04_whole_plays) (n := 63) (k := 29) (x := "_law_script") (CX := fun _ => L2.CX0) (sp := fun w => RE.spLaw _) rfl (by decide) rfl ⟨rfl, by decide, by decide⟩ (fun w h Y => PySem.W.kIn_of Y) ?F (fun _ _ a ns hl hb _ hS => ⟨a, ns, rfl, hS, hl, K04.bits_of hb, fun _ => rfl⟩) (fun _ _ _ _ _ h => h)
  case F =>
    intro w mg fa h KX G hmg
    refine' K04.all_mk KX G hmg ?a_is_whole ?l_is_whole ?c_is_whole ?k_is_whole ?a_check_row ?l_check_row ?c_check_row ?k_check_row ?a_is_side ?l_is_side ?c_is_side ?k_is_side ?a_worth_of ?l_worth_of ?c_worth_of ?k_worth_of ?a_after ?l_after ?c_after ?k_after ?a_best_of ?l_best_of ?c_best_of ?k_best_of ?a_led ?l_led ?c_led ?k_led ?a_greedy ?l_greedy ?c_greedy ?k_greedy ?a_plays_of ?l_plays_of ?c_plays_of ?k_plays_of ?a_how_many ?l_how_many ?c_how_many ?k_how_many ?a_play_by ?l_play_by ?c_play_by ?k_play_by ?a__law_number ?l__law_number ?c__law_number ?k__law_number ?a__law_whole ?l__law_whole ?c__law_whole ?k__law_whole ?a__law_row ?l__law_row ?c__law_row ?k__law_row ?a__law_worths ?l__law_worths ?c__law_worths ?k__law_worths ?a__law_ends ?l__law_ends ?c__law_ends ?k__law_ends ?a__law_led ?l__law_led ?c__law_led ?k__law_led ?a__law_plays ?l__law_plays ?c__law_plays ?k__law_plays ?a__law_greedy ?l__law_greedy ?c__law_greedy ?k__law_greedy ?a_law ?l_law ?c_law ?k_law ?q_MOST ?q_GREATEST ?q_LEFT ?q_RIGHT ?z_all ?z_bool ?z_enumerate ?z_int ?z_isinstance ?z_len ?z_list ?z_max ?z_range ?z_str ?z_sum ?z_tuple ?n_EndError ?kc_EndError ?xc_EndError ?Bc_EndError ?tc_EndError ?n_BadRow ?kc_BadRow ?xc_BadRow ?Bc_BadRow ?tc_BadRow ?n_BadTakes ?kc_BadTakes ?xc_BadTakes ?Bc_BadTakes ?tc_BadTakes ?n_BadNumber ?kc_BadNumber ?xc_BadNumber ?Bc_BadNumber ?tc_BadNumber
    (case a_is_whole => first | k_is | rfl)
    (case l_is_whole => first | k_is | rfl)
    (case c_is_whole => first | k_is | rfl)
    (case k_is_whole => first | k_is | rfl)
    (case a_check_row => first | k_is | rfl)
    (case l_check_row => first | k_is | rfl)
    (case c_check_row => first | k_is | rfl)
    (case k_check_row => first | k_is | rfl)
    (case a_is_side => first | k_is | rfl)
    (case l_is_side => first | k_is | rfl)
    (case c_is_side => first | k_is | rfl)
    (case k_is_side => first | k_is | rfl)
    (case a_worth_of => first | k_is | rfl)
    (case l_worth_of => first | k_is | rfl)
    (case c_worth_of => first | k_is | rfl)
    (case k_worth_of => first | k_is | rfl)
    (case a_after => first | k_is | rfl)
    (case l_after => first | k_is | rfl)
    (case c_after => first | k_is | rfl)
    (case k_after => first | k_is | rfl)
    (case a_best_of => first | k_is | rfl)
    (case l_best_of => first | k_is | rfl)
    (case c_best_of => first | k_is | rfl)
    (case k_best_of => first | k_is | rfl)
    (case a_led => first | k_is | rfl)
    (case l_led => first | k_is | rfl)
    (case c_led => first | k_is | rfl)
    (case k_led => first | k_is | rfl)
    (case a_greedy => first | k_is | rfl)
    (case l_greedy => first | k_is | rfl)
    (case c_greedy => first | k_is | rfl)
    (case k_greedy => first | k_is | rfl)
    (case a_plays_of => first | k_is | rfl)
    (case l_plays_of => first | k_is | rfl)
    (case c_plays_of => first | k_is | rfl)
    (case k_plays_of => first | k_is | rfl)
    (case a_how_many => first | k_is | rfl)
    (case l_how_many => first | k_is | rfl)
    (case c_how_many => first | k_is | rfl)
    (case k_how_many => first | k_is | rfl)
    (case a_play_by => first | k_is | rfl)
    (case l_play_by => first | k_is | rfl)
    (case c_play_by => first | k_is | rfl)
    (case k_play_by => first | k_is | rfl)
    (case a__law_number => first | k_is | rfl)
    (case l__law_number => first | k_is | rfl)
    (case c__law_number => first | k_is | rfl)
    (case k__law_number => first | k_is | rfl)
    (case a__law_whole => first | k_is | rfl)
    (case l__law_whole => first | k_is | rfl)
    (case c__law_whole => first | k_is | rfl)
    (case k__law_whole => first | k_is | rfl)
    (case a__law_row => first | k_is | rfl)
    (case l__law_row => first | k_is | rfl)
    (case c__law_row => first | k_is | rfl)
    (case k__law_row => first | k_is | rfl)
    (case a__law_worths => first | k_is | rfl)
    (case l__law_worths => first | k_is | rfl)
    (case c__law_worths => first | k_is | rfl)
    (case k__law_worths => first | k_is | rfl)
    (case a__law_ends => first | k_is | rfl)
    (case l__law_ends => first | k_is | rfl)
    (case c__law_ends => first | k_is | rfl)
    (case k__law_ends => first | k_is | rfl)
    (case a__law_led => first | k_is | rfl)
    (case l__law_led => first | k_is | rfl)
    (case c__law_led => first | k_is | rfl)
    (case k__law_led => first | k_is | rfl)
    (case a__law_plays => first | k_is | rfl)
    (case l__law_plays => first | k_is | rfl)
    (case c__law_plays => first | k_is | rfl)
    (case k__law_plays => first | k_is | rfl)
    (case a__law_greedy => first | k_is | rfl)
    (case l__law_greedy => first | k_is | rfl)
    (case c__law_greedy => first | k_is | rfl)
    (case k__law_greedy => first | k_is | rfl)
    (case a_law => first | k_is | rfl)
    (case l_law => first | k_is | rfl)
    (case c_law => first | k_is | rfl)
    (case k_law => first | k_is | rfl)
    (case q_MOST => first | k_is | rfl)
    (case q_GREATEST => first | k_is | rfl)
    (case q_LEFT => first | k_is | rfl)
    (case q_RIGHT => first | k_is | rfl)
    (case z_all => first | k_is | rfl)
    (case z_bool => first | k_is | rfl)
    (case z_enumerate => first | k_is | rfl)
    (case z_int => first | k_is | rfl)
    (case z_isinstance => first | k_is | rfl)
    (case z_len => first | k_is | rfl)
    (case z_list => first | k_is | rfl)
    (case z_max => first | k_is | rfl)
    (case z_range => first | k_is | rfl)
    (case z_str => first | k_is | rfl)
    (case z_sum => first | k_is | rfl)
    (case z_tuple => first | k_is | rfl)
    (case n_EndError => first | k_is | rfl)
    (case kc_EndError => first | k_is | rfl)
    (case xc_EndError => k_exc)
    (case Bc_EndError => first | k_is | rfl)
    (case tc_EndError => first | k_is | rfl)
    (case n_BadRow => first | k_is | rfl)
    (case kc_BadRow => first | k_is | rfl)
    (case xc_BadRow => k_exc)
    (case Bc_BadRow => first | k_is | rfl)
    (case tc_BadRow => first | k_is | rfl)
    (case n_BadTakes => first | k_is | rfl)
    (case kc_BadTakes => first | k_is | rfl)
    (case xc_BadTakes => k_exc)
    (case Bc_BadTakes => first | k_is | rfl)
    (case tc_BadTakes => first | k_is | rfl)
    (case n_BadNumber => first | k_is | rfl)
    (case kc_BadNumber => first | k_is | rfl)
    (case xc_BadNumber => k_exc)
    (case Bc_BadNumber => first | k_is | rfl)
    (case tc_BadNumber => first | k_is | rfl)
