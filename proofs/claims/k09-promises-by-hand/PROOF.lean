import PyProof.Rows.All
import Wide.All
import OpenK.AllK
import Wide.FinOn
import HandS.ForMost
import HandS.ForExc
import HandS.IsInst
import HandS.Style
import HandS.Flow
import HandS.TupLe
import HandS.TupLen
import HandS.EndBits
import HandS.SortRule
import KE.SortData
import HandS.Lambda
import HandS.Nested
import HandS.EndTab
import HandS.ExcIs
import HandS.ExcOwn
import PySem.Challenge.RW_rowends_k09_promises_by_hand
set_option Elab.async false
set_option linter.all false
set_option maxRecDepth 100000
set_option maxHeartbeats 4000000
/-! the mathematics of rows: plain Lean -/
namespace RE
/-- the worth of the stretch of n coins from low on -/
def wv (row : List Int) : Nat → Nat → Int
  | 0, _ => 0
  | n + 1, low => if row.getD (low + n) 0 - wv row n low > row.getD low 0 - wv row n (low + 1) then row.getD (low + n) 0 - wv row n low else row.getD low 0 - wv row n (low + 1)
theorem wv_zero (row : List Int) (low : Nat) : wv row 0 low = 0 := by unfold wv; rfl
theorem wv_succ (row : List Int) (n low : Nat) : wv row (n + 1) low = if row.getD (low + n) 0 - wv row n low > row.getD low 0 - wv row n (low + 1) then row.getD (low + n) 0 - wv row n low else row.getD low 0 - wv row n (low + 1) := by
  rw [wv]
theorem wv_ge1 (row : List Int) (n low : Nat) : row.getD low 0 - wv row n (low + 1) ≤ wv row (n + 1) low := by
  rw [wv_succ]
  split <;> omega
theorem wv_ge2 (row : List Int) (n low : Nat) : row.getD (low + n) 0 - wv row n low ≤ wv row (n + 1) low := by
  rw [wv_succ]
  split <;> omega
theorem wv_one_of (row : List Int) (n low : Nat) : wv row (n + 1) low = row.getD low 0 - wv row n (low + 1) ∨ wv row (n + 1) low = row.getD (low + n) 0 - wv row n low := by
  rw [wv_succ]
  split
  · exact .inr rfl
  · exact .inl rfl
/-- the sum of a stretch -/
def seg (row : List Int) : Nat → Nat → Int
  | 0, _ => 0
  | n + 1, low => row.getD low 0 + seg row n (low + 1)
theorem seg_succ (row : List Int) (n low : Nat) : seg row (n + 1) low = row.getD low 0 + seg row n (low + 1) := by rw [seg]
theorem seg_last (row : List Int) : ∀ (n low : Nat), seg row (n + 1) low = seg row n low + row.getD (low + n) 0
  | 0, low => by simp [seg]
  | n + 1, low => by
    rw [seg_succ, seg_last row n (low + 1), seg_succ]
    have e : low + 1 + n = low + (n + 1) := by omega
    rw [e]
    omega
theorem wv_parity (row : List Int) : ∀ (n low : Nat), (wv row n low - seg row n low) % 2 = 0
  | 0, low => by simp [wv, seg]
  | n + 1, low => by
    have h1 := wv_parity row n (low + 1)
    have h2 := wv_parity row n low
    have h3 := seg_succ row n low
    have h4 := seg_last row n low
    rcases wv_one_of row n low with h | h <;> omega
theorem seg_all : ∀ (row : List Int), seg row row.length 0 = row.sum := by
  have shift : ∀ (a : Int) (r : List Int) (n low : Nat), seg (a :: r) n (low + 1) = seg r n low := by
    intro a r n
    induction n with
    | zero => intro low; simp [seg]
    | succ n ih =>
      intro low
      rw [seg_succ, seg_succ, ih]
      simp
  intro row
  induction row with
  | nil => rfl
  | cons a r ih =>
    rw [List.length_cons, seg_succ, shift, ih, List.sum_cons]
    simp
/-- turned about -/
theorem getD_rev (row : List Int) (i : Nat) (h : i < row.length) : row.reverse.getD i 0 = row.getD (row.length - 1 - i) 0 := by
  rw [List.getD_eq_getElem?_getD, List.getD_eq_getElem?_getD, List.getElem?_reverse h]
theorem wv_rev (row : List Int) : ∀ (n low : Nat), low + n ≤ row.length → wv row.reverse n low = wv row n (row.length - low - n)
  | 0, low, _ => by simp [wv]
  | n + 1, low, h => by
    have h1 := wv_rev row n (low + 1) (by omega)
    have h2 := wv_rev row n low (by omega)
    have e1 : row.length - (low + 1) - n = row.length - low - (n + 1) := by omega
    have e2 : row.length - low - n = row.length - low - (n + 1) + 1 := by omega
    rw [e1] at h1
    rw [e2] at h2
    have g1 := getD_rev row low (by omega)
    have g2 := getD_rev row (low + n) (by omega)
    have e3 : row.length - 1 - low = row.length - low - (n + 1) + n := by omega
    have e4 : row.length - 1 - (low + n) = row.length - low - (n + 1) := by omega
    rw [e3] at g1
    rw [e4] at g2
    rw [wv_succ, wv_succ, h1, h2, g1, g2]
    generalize row.getD (row.length - low - (n + 1) + n) 0 = a
    generalize row.getD (row.length - low - (n + 1)) 0 = b
    generalize wv row n (row.length - low - (n + 1)) = c
    generalize wv row n (row.length - low - (n + 1) + 1) = d
    split <;> split <;> omega
theorem worth_rev (row : List Int) : wv row.reverse row.length 0 = wv row row.length 0 := by
  have h := wv_rev row row.length 0 (by omega)
  simpa using h
/-- the alternating sum of a stretch -/
def alt (row : List Int) : Nat → Nat → Int
  | 0, _ => 0
  | n + 1, low => row.getD low 0 - alt row n (low + 1)
theorem alt_succ (row : List Int) (n low : Nat) : alt row (n + 1) low = row.getD low 0 - alt row n (low + 1) := by rw [alt]
theorem alt_last (row : List Int) : ∀ (n low : Nat), alt row (n + 1) low = if n % 2 = 0 then alt row n low + row.getD (low + n) 0 else alt row n low - row.getD (low + n) 0
  | 0, low => by simp [alt]
  | n + 1, low => by
    have h := alt_last row n (low + 1)
    have e : low + 1 + n = low + (n + 1) := by omega
    rw [e] at h
    rw [alt_succ, h, alt_succ]
    by_cases c : n % 2 = 0
    · rw [if_pos c, if_neg (by omega)]
      omega
    · rw [if_neg c, if_pos (by omega)]
      omega
theorem wv_alt (row : List Int) : ∀ (n low : Nat), (n % 2 = 0 → alt row n low ≤ wv row n low ∧ - alt row n low ≤ wv row n low) ∧ (n % 2 = 1 → wv row n low ≤ alt row n low)
  | 0, low => by simp [wv, alt]
  | n + 1, low => by
    have h1 := wv_alt row n (low + 1)
    have h2 := wv_alt row n low
    have g1 := wv_ge1 row n low
    have g2 := wv_ge2 row n low
    have a1 := alt_succ row n low
    have a2 := alt_last row n low
    constructor
    · intro c
      rw [if_neg (by omega)] at a2
      have q1 := h1.2 (by omega)
      have q2 := h2.2 (by omega)
      omega
    · intro c
      rw [if_pos (by omega)] at a2
      have q1 := h1.1 (by omega)
      have q2 := h2.1 (by omega)
      rcases wv_one_of row n low with h | h <;> omega
/-- the coins of places 0, 2, 4 .. -/
def evens {α : Type} : List α → List α
  | [] => []
  | [a] => [a]
  | a :: _ :: r => a :: evens r
theorem evens_map {α β : Type} (f : α → β) : ∀ l : List α, evens (l.map f) = (evens l).map f
  | [] => rfl
  | [_] => rfl
  | a :: b :: r => by
    show f a :: evens (r.map f) = f a :: (evens r).map f
    rw [evens_map f r]
theorem evens_le {α : Type} : ∀ l : List α, (evens l).length ≤ l.length
  | [] => Nat.le_refl _
  | [_] => Nat.le_refl _
  | a :: b :: r => by
    have := evens_le r
    show (evens r).length + 1 ≤ r.length + 1 + 1
    omega
theorem alt_shift (a : Int) (r : List Int) : ∀ (n low : Nat), alt (a :: r) n (low + 1) = alt r n low
  | 0, low => by simp [alt]
  | n + 1, low => by
    rw [alt_succ, alt_succ, alt_shift a r n (low + 1)]
    simp
theorem alt_evens : ∀ row : List Int, alt row row.length 0 = (evens row).sum - (evens (row.drop 1)).sum
  | [] => rfl
  | [a] => by simp [alt, evens]
  | a :: b :: r => by
    have ih := alt_evens r
    have e1 : alt (a :: b :: r) (a :: b :: r).length 0 = a - (b - alt r r.length 0) := by
      show alt (a :: b :: r) (r.length + 1 + 1) 0 = _
      rw [alt_succ, alt_shift, alt_succ, alt_shift]
      simp
    rw [e1, ih]
    have e2 : evens (a :: b :: r) = a :: evens r := rfl
    have e3 : (a :: b :: r).drop 1 = b :: r := rfl
    rw [e2, e3]
    cases r with
    | nil => simp [evens]
    | cons c s =>
      have e4 : evens (b :: c :: s) = b :: evens s := rfl
      have e5 : (c :: s).drop 1 = s := rfl
      rw [e4, e5, List.sum_cons, List.sum_cons]
      omega
theorem sure_le (row : List Int) (h : row.length % 2 = 0) : (if (evens row).sum - (evens (row.drop 1)).sum < 0 then -((evens row).sum - (evens (row.drop 1)).sum) else (evens row).sum - (evens (row.drop 1)).sum) ≤ wv row row.length 0 := by
  have h1 := (wv_alt row row.length 0).1 h
  rw [alt_evens] at h1
  split <;> omega
theorem wv_bound (row : List Int) : ∀ (n low : Nat), (∀ i, 0 ≤ row.getD i 0 ∧ row.getD i 0 ≤ 1000000) → -(1000000 * (n : Int)) ≤ wv row n low ∧ wv row n low ≤ 1000000 * (n : Int)
  | 0, low, _ => by simp [wv]
  | n + 1, low, h => by
    have h1 := wv_bound row n (low + 1) h
    have h2 := wv_bound row n low h
    have h3 := h low
    have h4 := h (low + n)
    rcases wv_one_of row n low with e | e <;> omega
/-- the best ends of a stretch -/
def ends (row : List Int) : Nat → Nat → List Bool
  | 0, _ => []
  | n + 1, low => (if row.getD low 0 - wv row n (low + 1) = wv row (n + 1) low then [true] else []) ++ (if row.getD (low + n) 0 - wv row n low = wv row (n + 1) low then [false] else [])
theorem ends_succ (row : List Int) (n low : Nat) : ends row (n + 1) low = (if row.getD low 0 - wv row n (low + 1) = wv row (n + 1) low then [true] else []) ++ (if row.getD (low + n) 0 - wv row n low = wv row (n + 1) low then [false] else []) := by
  first
    | rfl
    | (rw [ends])
theorem ends_ne (row : List Int) (n low : Nat) : ends row (n + 1) low ≠ [] := by
  rw [ends_succ]
  rcases wv_one_of row n low with h | h
  · rw [if_pos h.symm]
    simp
  · rw [if_pos (c := row.getD (low + n) 0 - wv row n low = wv row (n + 1) low) h.symm]
    simp
end RE
/-! rules of our own over the layer -/
namespace RE
open PySem PySem.Spec PyProof.Rows L2
/-! ### great numbers -/
def CMulB (i j : Int) : Prop := ∃ a b : Nat, i.natAbs < 2 ^ a ∧ j.natAbs < 2 ^ b ∧ a + b ≤ 100000000
theorem bits_le {x : Int} {a : Nat} (h : x.natAbs < 2 ^ a) : Builtin.Int.intBits x ≤ a := by
  unfold Builtin.Int.intBits
  split
  · exact Nat.zero_le _
  · rename_i h0
    have hx : x.natAbs ≠ 0 := fun e => h0 (by
      have : x = 0 := Int.natAbs_eq_zero.mp e
      rw [this]
      rfl)
    exact (Nat.log2_lt hx).mpr h
theorem CMulB.ok {i j : Int} (h : CMulB i j) : IntMulOk i j := by
  obtain ⟨a, b, h1, h2, h3⟩ := h
  have e1 := bits_le h1
  have e2 := bits_le h2
  have e : bitsLine = 134217728 := by decide
  unfold IntMulOk
  intro z
  rw [Bool.and_eq_true] at z
  have z2 := z.2
  unfold Builtin.Int.intTooBig at z2
  have z3 := of_decide_eq_true z2
  rw [e] at z3
  omega
theorem lt_of_bits {x : Int} {a : Nat} (h : Builtin.Int.intBits x ≤ a) : x.natAbs < 2 ^ a := by
  unfold Builtin.Int.intBits at h
  by_cases h0 : x = 0
  · subst h0
    exact Nat.pow_pos (by decide)
  · have hb : ¬ ((x == 0) = true) := by simpa using h0
    rw [if_neg hb] at h
    have hx : x.natAbs ≠ 0 := fun e => h0 (Int.natAbs_eq_zero.mp e)
    have h1 : x.natAbs.log2 < a := by omega
    exact (Nat.log2_lt hx).mp h1
theorem pw_add {x y : Int} {a b : Nat} (h1 : x.natAbs < 2 ^ a) (h2 : y.natAbs < 2 ^ b) (h : b ≤ a) : (x + y).natAbs < 2 ^ (a + 1) := by
  have e : 2 ^ (a + 1) = 2 ^ a + 2 ^ a := by rw [Nat.pow_succ]; omega
  have l : 2 ^ b ≤ 2 ^ a := Nat.pow_le_pow_right (by decide) h
  have q := Int.natAbs_add_le x y
  omega
theorem pw_mul {x y : Int} {a b : Nat} (h1 : x.natAbs < 2 ^ a) (h2 : y.natAbs < 2 ^ b) : (x * y).natAbs < 2 ^ (a + b) := by
  rw [Int.natAbs_mul, Nat.pow_add]
  exact Nat.mul_lt_mul'' h1 h2
theorem pw_mono {x : Int} {a b : Nat} (h1 : x.natAbs < 2 ^ a) (h : a ≤ b) : x.natAbs < 2 ^ b := Nat.lt_of_lt_of_le h1 (Nat.pow_le_pow_right (by decide) h)
section
variable {X : Cx}
theorem op_mulB : OpR X (binaryOp .Mult) (rI CMulB fun i j => .int (i * j)) := opI fun _ _ _ _ _ _ _ hc q => mul_int q hc.ok
/-! ### xs[i] op= e -/
theorem get_list : PGet X (rIxL X.K) := by
  intro pins s σ H o i ov iv Q I ro ri h
  obtain ⟨p, xs, k, z, rfl, rfl, hq, he, q⟩ := h
  cases ro
  obtain ⟨t, rfl⟩ := ri
  obtain ⟨its, r, pl, hz⟩ := I.list hq
  obtain ⟨j, h1, h2, h3, h4, h5⟩ := atI_get he
  obtain ⟨w, ew, rw'⟩ := r.get h2
  have hl := r.length
  have hn := line63
  have fin : EP X pins σ Q w s := ⟨z, H, I, rw', q⟩
  by_cases h0 : 0 ≤ k
  · have hj : k.toNat = j := by
      rw [seqIndex_of h0 h5] at h1
      exact Option.some.inj h1
    exact wpAny_getItem_list pl.isList h0 (by omega) (by rw [hj]; simpa using ew) fin
  · have hj : (k + (its.toArray.size : Int)).toNat = j := by
      rw [seqIndex_neg (by omega) h4] at h1
      rw [List.size_toArray, ← hl]
      exact Option.some.inj h1
    exact wpAny_getItem_list_neg pl.isList (by omega) (by rw [List.size_toArray] <;> omega) (by omega) (by rw [hj]; simpa using ew) fin
/-! ### d[k] = e as one of several targets -/
def rSetD : V → V → V → Hp → (Hp → Prop) → Prop := fun o i v H Q => ∃ a H', o = .ref a ∧ DPut H a i v H' ∧ Q H'
theorem set_dT (hu : X.A.units + 1 < cLine) : PSet X rSetD := by
  intro pins s σ H o i v ov iv u Q I ro ri rv h
  obtain ⟨a, H', rfl, g, q⟩ := h
  cases ro
  exact d_setItem hu I g ri rv fun s' I' => ⟨H', I', q⟩
/-! ### xs[a::2] -/
theorem evens_pick {α : Type} : ∀ l : List α, ((List.range ((l.length + 1) / 2)).map (fun k => 2 * k)).filterMap (l[·]?) = evens l
  | [] => by simp [evens]
  | [a] => by
    have e : ([a].length + 1) / 2 = 1 := by
      show (0 + 1 + 1) / 2 = 1
      decide
    rw [e]
    simp [List.range_succ, evens]
  | a :: b :: r => by
    have ih := evens_pick r
    have e : ((a :: b :: r).length + 1) / 2 = (r.length + 1) / 2 + 1 := by
      rw [List.length_cons, List.length_cons]
      omega
    rw [e, List.range_succ_eq_map, List.map_cons, List.filterMap_cons]
    show a :: _ = a :: evens r
    rw [← ih, List.map_map, List.filterMap_map, List.filterMap_map]
    congr 1
theorem evens_from {α : Type} (xs : List α) (a : Nat) : ((List.range ((xs.length - a + 1) / 2)).map (fun k => a + 2 * k)).filterMap (xs[·]?) = evens (xs.drop a) := by
  rw [← evens_pick, List.length_drop, List.filterMap_map, List.filterMap_map]
  congr 1
  funext k
  simp [List.getElem?_drop]
theorem stepRange (a n : Nat) (h : a ≤ n) : sliceRange (a : Int) (n : Int) 2 = (List.range ((n - a + 1) / 2)).map (fun k => a + 2 * k) := by
  unfold sliceRange
  have e : (if (2 : Int) > 0 then (if (a : Int) < n then ((n : Int) - a + 2 - 1) / 2 else 0) else (if (a : Int) > n then ((a : Int) - n - 2 - 1) / (-2) else 0)).toNat = (n - a + 1) / 2 := by
    rw [if_pos (by decide)]
    by_cases c : (a : Int) < n
    · rw [if_pos c]
      omega
    · rw [if_neg c]
      omega
  show (List.range (if (2 : Int) > 0 then (if (a : Int) < n then ((n : Int) - a + 2 - 1) / 2 else 0) else (if (a : Int) > n then ((a : Int) - n - 2 - 1) / (-2) else 0)).toNat).map _ = _
  rw [e]
  refine List.map_congr_left fun k _ => ?_
  omega
def stepLo : Option Int → Nat
  | none => 0
  | some i => i.toNat
theorem step_pick (its : List Value) (lo : Option Int) (h : lo = none ∨ ∃ i, lo = some i ∧ 0 ≤ i) : slicePick its.toArray lo none (some 2) = (evens (its.drop (stepLo lo))).toArray := by
  have key : ∀ a : Nat, sliceBounds lo none (some 2) its.toArray.size = (((min a its.length : Nat) : Int), (its.length : Int), 2) → a = stepLo lo → slicePick its.toArray lo none (some 2) = (evens (its.drop (stepLo lo))).toArray := by
    intro a e ea
    unfold slicePick
    rw [e]
    show ((sliceRange ((min a its.length : Nat) : Int) (its.length : Int) 2).filterMap (its.toArray[·]?)).toArray = _
    rw [stepRange _ _ (Nat.min_le_right _ _)]
    have z : (fun k : Nat => its.toArray[k]?) = (fun k : Nat => its[k]?) := funext fun k => by simp
    rw [z, evens_from, ← ea]
    congr 1
    by_cases c : a ≤ its.length
    · rw [Nat.min_eq_left c]
    · rw [Nat.min_eq_right (by omega), List.drop_length, List.drop_eq_nil_of_le (by omega)]
  rcases h with rfl | ⟨i, rfl, hi⟩
  · exact key 0 (by simp [sliceBounds]) rfl
  · refine key i.toNat ?_ rfl
    have h1 : ¬ i < 0 := by omega
    simp only [sliceBounds, Option.getD_some, List.size_toArray, h1, if_false, show (2 : Int) > 0 by decide, if_true]
    congr 1
    omega
theorem Vals_evens : ∀ {xs : List V} {us : List Value}, Vals xs us → Vals (evens xs) (evens us)
  | _, _, .nil => .nil
  | _, _, .cons r .nil => .cons r .nil
  | _, _, .cons r (.cons _ t) => .cons r (Vals_evens t)
def tStepL (K : PySem.W.Frag) (te : TE) (tl : TO) : TE := fun σ H Q => te σ H fun x H1 => tl σ H1 fun lo H2 => (lo = none ∨ ∃ i, lo = some i ∧ 0 ≤ i) ∧ ∃ a xs, x = .ref a ∧ SqL K H2 a xs ∧ ∀ p, H2 p = none → Q (.ref p) (upd H2 p (.lst (evens (xs.drop (stepLo lo)))))
theorem pe_stepL {e : Expr} {lo : Option Expr} {te : TE} {tl : TO} {k : Nat} {p1 p3 pos : Pos} (he : PE X e te) (hl : PO X lo tl)
    (hsb : ∀ ov iv, subscripted (.Slice lo none (some (.Constant (.int 2) k p1)) p3) false ov iv = operate [ov, iv] (getItem ov iv) := by intro _ _; with_unfolding_all rfl) :
    PE X (.Subscript e (.Slice lo none (some (.Constant (.int 2) k p1)) p3) pos) (tStepL X.K te tl) := by
  refine ⟨fun pins s σ H Q I h => ?_⟩
  refine Subscript_ (thn (he.run pins s σ H _ I h) fun v s1 ⟨x, H1, I1, r1, q1⟩ => ?_)
  have hst : PO X (some (.Constant (.int 2) k p1)) (tPart (tC (.int 2))) := po_some pe_int
  refine wpAny_Slice (thn (hl.run pins s1 σ H1 _ I1 q1) fun vl s2 ⟨l, H2, I2, pl, q2⟩ => ?_)
  obtain ⟨hlo, a, xs, ex, hx, q⟩ := q2
  subst ex
  cases r1
  refine thn (po_none.run pins s2 σ H2 (fun o H3 => o = none ∧ H3 = H2) I2 ⟨rfl, rfl⟩) fun vu s3 ⟨u, H3, I3, pu, eu, e3⟩ => ?_
  subst eu e3
  refine thn (hst.run pins s3 σ H3 (fun o H4 => o = some 2 ∧ H4 = H3) I3 ⟨2, rfl, rfl, rfl⟩) fun vs s4 ⟨o, H4, I4, ps, eo, e4⟩ => ?_
  subst eo e4
  have I5 : Inv X pins σ H4 { s4 with heap := s4.heap.push { cls := .type "slice", data := .fields #[vl, vu, vs] } } := I4.kept (t' := s4.toks) fun b ob q => Heap.get?_push_of_some _ q
  obtain ⟨its, r, ht, hz⟩ := I5.list hx
  have hlen := r.length
  show wpAny (model X.prog X.w) X.A (subscriptTail e (.Slice lo none (some (.Constant (.int 2) k p1)) p3) (.ref a) (.ref s4.heap.objs.size)) (EP X pins σ Q) X.xe { s4 with heap := s4.heap.push { cls := .type "slice", data := .fields #[vl, vu, vs] } }
  refine tail_any (ops := [.ref a, .ref s4.heap.objs.size]) ht.isList.typeIs (PySem.slot_list_getitem.lookup) ?_ (hsb _ _)
  refine wpAny_getItem_list_slice ht.isList (Heap.IsSliceOf.new _ vl vu vs) pl pu ps (by decide) ?_ (by rw [List.size_toArray]; omega)
  rw [step_pick its l hlo]
  refine ⟨.ref _, _, I5.laid (t' := s4.toks) (o := .lst (evens (xs.drop (stepLo l)))) (fun b ob q => Heap.get?_push_of_some _ q) (Nat.le_refl _) ?_, rfl, q _ (I5.hok.fresh (Nat.le_refl _))⟩
  refine ⟨?_, _, 0, Vals_evens (r.drop (stepLo l)), Heap.get?_push_size _ rfl⟩
  have e1 := evens_le (xs.drop (stepLo l))
  rw [List.length_drop] at e1
  omega
/-! ### ways joined behind a statement -/
def tMid (t u : TS) : TS := fun D σ H => ∃ Mid : L2.St → Hp → Prop, t { D with nx := Mid } σ H ∧ ∀ σ' H', Mid σ' H' → u D σ' H'
theorem pss_mid {st : Stmt} {rest : List Stmt} {t u : TS} (h1 : PS X st t) (h2 : PSs X rest u) : PSs X (st :: rest) (tMid t u) := by
  refine ⟨fun pins s σ H D I h => ?_⟩
  obtain ⟨Mid, h, hm⟩ := h
  refine wpAny_execs_cons (thn (h1.run pins s σ H { D with nx := Mid } I h) fun f s1 q => ?_)
  cases f with
  | next =>
    obtain ⟨σ', H', I', q⟩ := q
    exact h2.run pins s1 σ' H' D I' (hm σ' H' q)
  | ret v => exact q
  | brk => exact q
  | cont => exact q
end
end RE
/-! heaps, known worths, kinds of values -/
namespace RE
open PySem PySem.Spec PyProof.Rows L2
theorem iteFb {b : Bool} {A B : Prop} (hb : b = false) (h : B) : if b = true then A else B := by
  subst hb
  exact iteF h
theorem iteTb {b : Bool} {A B : Prop} (hb : b = true) (h : A) : if b = true then A else B := by
  subst hb
  exact iteT h
theorem same_new {H : Hp} {p : Addr} (h : H p = none) (o : HO) : Same H (upd H p o) := fun b u q => by rw [upd_ne (ne_of_none q h)]; exact q
/-- all but the object at d is as it was -/
def SameBut (d : Addr) (H H' : Hp) : Prop := ∀ b o, b ≠ d → H b = some o → H' b = some o
theorem SameBut.refl (d : Addr) (H : Hp) : SameBut d H H := fun _ _ _ h => h
theorem SameBut.trans {d : Addr} {H H1 H2 : Hp} (a : SameBut d H H1) (b : SameBut d H1 H2) : SameBut d H H2 := fun c o n h => b c o n (a c o n h)
theorem SameBut.of {d : Addr} {H H' : Hp} (h : Same H H') : SameBut d H H' := fun b o _ e => h b o e
theorem SameBut.put {d : Addr} {H : Hp} (o : HO) : SameBut d H (upd H d o) := fun b u n e => by rw [upd_ne n]; exact e
theorem SameBut.free {d : Addr} {H H' : Hp} (s : SameBut d H H') (hd : H d = none) : Same H H' := fun b o e => s b o (ne_of_none e hd) e
theorem SameBut.seq {K : PySem.W.Frag} {d : Addr} {H H' : Hp} {a : Addr} {xs : List V} {kvs : List (List Key × V)} (e : SameBut d H H') (hd : H d = some (.dT kvs)) (h : SqL K H a xs) : SqL K H' a xs := by
  rcases h with (h | ⟨o, h⟩) | h
  · exact .inl (.inl (e _ _ (ne_of h hd (by intro z; cases z)) h))
  · exact .inl (.inr ⟨o, e _ _ (ne_of h hd (by intro z; cases z)) h⟩)
  · exact .inr h
theorem SameBut.seqL {K : PySem.W.Frag} {d : Addr} {H H' : Hp} {a : Addr} {xs : List V} (e : SameBut d H H') (hd : a ≠ d) (h : SqL K H a xs) : SqL K H' a xs := by
  rcases h with (h | ⟨o, h⟩) | h
  · exact .inl (.inl (e _ _ hd h))
  · exact .inl (.inr ⟨o, e _ _ hd h⟩)
  · exact .inr h
theorem size_le {n : Nat} (h : n ≤ 100000) : n ≤ sizeLine := Nat.le_trans h (by decide)
theorem size_lt {n : Nat} (h : n < 100000) : n < sizeLine := Nat.lt_of_lt_of_le h (by decide)
/-! ### kinds -/
def kinds : List String := ["NoneType", "bool", "int", "str", "list", "tuple", "dict"]
structure PV (K : PySem.W.Frag) (H : Hp) (x : V) (T : String) : Prop where
  ty : TyX K H x (.type T)
  mem : T ∈ kinds
theorem kinds_all {p : String → Prop} (h1 : p "NoneType") (h2 : p "bool") (h3 : p "int") (h4 : p "str") (h5 : p "list") (h6 : p "tuple") (h7 : p "dict") : ∀ T ∈ kinds, p T := by
  intro T h
  simp only [kinds, List.mem_cons, List.not_mem_nil, or_false] at h
  rcases h with rfl | rfl | rfl | rfl | rfl | rfl | rfl <;> assumption
theorem kit_int {K : PySem.W.Frag} {T : String} (m : T ∈ kinds) : PySem.W.kitOne K (.type T) (.type "int") = some (T == "int" || T == "bool") :=
  kinds_all (p := fun T => PySem.W.kitOne K (.type T) (.type "int") = some (T == "int" || T == "bool")) (kit_ty (by decide +kernel)) (kit_ty (by decide +kernel)) (kit_ty (by decide +kernel)) (kit_ty (by decide +kernel)) (kit_ty (by decide +kernel)) (kit_ty (by decide +kernel)) (kit_ty (by decide +kernel)) T m
theorem kit_bool {K : PySem.W.Frag} {T : String} (m : T ∈ kinds) : PySem.W.kitOne K (.type T) (.type "bool") = some (T == "bool") :=
  kinds_all (p := fun T => PySem.W.kitOne K (.type T) (.type "bool") = some (T == "bool")) (kit_ty (by decide +kernel)) (kit_ty (by decide +kernel)) (kit_ty (by decide +kernel)) (kit_ty (by decide +kernel)) (kit_ty (by decide +kernel)) (kit_ty (by decide +kernel)) (kit_ty (by decide +kernel)) T m
theorem kit_list {K : PySem.W.Frag} {T : String} (m : T ∈ kinds) : PySem.W.kitOne K (.type T) (.type "list") = some (T == "list") :=
  kinds_all (p := fun T => PySem.W.kitOne K (.type T) (.type "list") = some (T == "list")) (kit_ty (by decide +kernel)) (kit_ty (by decide +kernel)) (kit_ty (by decide +kernel)) (kit_ty (by decide +kernel)) (kit_ty (by decide +kernel)) (kit_ty (by decide +kernel)) (kit_ty (by decide +kernel)) T m
theorem kit_tuple {K : PySem.W.Frag} {T : String} (m : T ∈ kinds) : PySem.W.kitOne K (.type T) (.type "tuple") = some (T == "tuple") :=
  kinds_all (p := fun T => PySem.W.kitOne K (.type T) (.type "tuple") = some (T == "tuple")) (kit_ty (by decide +kernel)) (kit_ty (by decide +kernel)) (kit_ty (by decide +kernel)) (kit_ty (by decide +kernel)) (kit_ty (by decide +kernel)) (kit_ty (by decide +kernel)) (kit_ty (by decide +kernel)) T m
theorem kit_str {K : PySem.W.Frag} {T : String} (m : T ∈ kinds) : PySem.W.kitOne K (.type T) (.type "str") = some (T == "str") :=
  kinds_all (p := fun T => PySem.W.kitOne K (.type T) (.type "str") = some (T == "str")) (kit_ty (by decide +kernel)) (kit_ty (by decide +kernel)) (kit_ty (by decide +kernel)) (kit_ty (by decide +kernel)) (kit_ty (by decide +kernel)) (kit_ty (by decide +kernel)) (kit_ty (by decide +kernel)) T m
section
variable {K : PySem.W.Frag} {H H' : Hp}
theorem pv_non : PV K H .non "NoneType" := ⟨.base .non, by decide⟩
theorem pv_bl (b : Bool) : PV K H (.bl b) "bool" := ⟨.base (.bl b), by decide⟩
theorem pv_int (i : Int) : PV K H (.int i) "int" := ⟨.base (.int i), by decide⟩
theorem pv_str (x : Str) : PV K H (.str x) "str" := ⟨.base (.str x), by decide⟩
theorem pv_tup {a : Addr} {xs : List V} (e : H a = some (.tup xs)) : PV K H (.ref a) "tuple" := ⟨.base (.tup e), by decide⟩
theorem pv_dT {a : Addr} {kvs : List (List Key × V)} (e : H a = some (.dT kvs)) : PV K H (.ref a) "dict" := ⟨.base (.dT e), by decide⟩
theorem pv_dK {a : Addr} {kvs : List (Key × V)} (e : H a = some (.dK kvs)) : PV K H (.ref a) "dict" := ⟨.base (.dK e), by decide⟩
theorem pv_sq {a : Addr} {xs : List V} (h : SqL K H a xs) : PV K H (.ref a) "list" := by
  refine ⟨?_, by decide⟩
  rcases h with (h | ⟨o, h⟩) | ⟨o, its, n, h, hc, _⟩
  · exact .base (.lst h)
  · exact .base (.frz h)
  · exact .kList h hc
theorem tyx_mono {x : V} {t : Value} (s : Same H H') (h : TyX K H x t) : TyX K H' x t := by
  cases h with
  | base b =>
    cases b with
    | non => exact .base .non
    | bl y => exact .base (.bl y)
    | int i => exact .base (.int i)
    | str y => exact .base (.str y)
    | flt y => exact .base (.flt y)
    | lst e => exact .base (.lst (s _ _ e))
    | frz e => exact .base (.frz (s _ _ e))
    | tup e => exact .base (.tup (s _ _ e))
    | dK e => exact .base (.dK (s _ _ e))
    | dT e => exact .base (.dT (s _ _ e))
    | ins e cl ha hn htk hm => exact .base (.ins (s _ _ e) cl ha hn htk hm)
  | byt b => exact .byt b
  | set e => exact .set (s _ _ e)
  | kList e c => exact .kList e c
  | kTuple e c => exact .kTuple e c
  | kDict e c => exact .kDict e c
  | fTuple e => exact .fTuple (s _ _ e)
  | fDict e => exact .fDict (s _ _ e)
theorem PV.mono {x : V} {T : String} (s : Same H H') (h : PV K H x T) : PV K H' x T := ⟨tyx_mono s h.ty, h.mem⟩
theorem PV.int_of {x : V} {T : String} (h : PV K H x T) (e : T = "int") : ∃ i, x = .int i := by
  obtain ⟨ty, m⟩ := h
  subst e
  generalize ht : (Value.type "int") = t at ty
  cases ty with
  | base b => cases b <;> first | exact ⟨_, rfl⟩ | exact absurd (Value.type.inj ht) (by decide) | cases ht
  | byt b => exact absurd (Value.type.inj ht) (by decide)
  | set e => exact absurd (Value.type.inj ht) (by decide)
  | kList e c => exact absurd (Value.type.inj ht) (by decide)
  | kTuple e c => exact absurd (Value.type.inj ht) (by decide)
  | kDict e c => exact absurd (Value.type.inj ht) (by decide)
  | fTuple e => exact absurd (Value.type.inj ht) (by decide)
  | fDict e => exact absurd (Value.type.inj ht) (by decide)
theorem PV.str_of {x : V} {T : String} (h : PV K H x T) (e : T = "str") : ∃ i, x = .str i := by
  obtain ⟨ty, m⟩ := h
  subst e
  generalize ht : (Value.type "str") = t at ty
  cases ty with
  | base b => cases b <;> first | exact ⟨_, rfl⟩ | exact absurd (Value.type.inj ht) (by decide) | cases ht
  | byt b => exact absurd (Value.type.inj ht) (by decide)
  | set e => exact absurd (Value.type.inj ht) (by decide)
  | kList e c => exact absurd (Value.type.inj ht) (by decide)
  | kTuple e c => exact absurd (Value.type.inj ht) (by decide)
  | kDict e c => exact absurd (Value.type.inj ht) (by decide)
  | fTuple e => exact absurd (Value.type.inj ht) (by decide)
  | fDict e => exact absurd (Value.type.inj ht) (by decide)
theorem PV.of_int {i : Int} {T : String} (h : PV K H (.int i) T) : T = "int" := by
  obtain ⟨ty, m⟩ := h
  generalize ht : (Value.type T) = t at ty
  cases ty with
  | base b => cases b; exact Value.type.inj ht
theorem PV.of_str {i : Str} {T : String} (h : PV K H (.str i) T) : T = "str" := by
  obtain ⟨ty, m⟩ := h
  generalize ht : (Value.type T) = t at ty
  cases ty with
  | base b => cases b; exact Value.type.inj ht
end
/-! ### rows -/
def coinB : V → Bool
  | .int i => decide (0 ≤ i) && decide (i ≤ 1000000)
  | _ => false
def RowOk (ns : List Int) : Prop := ns.length ≤ 12 ∧ ∀ z ∈ ns, 0 ≤ z ∧ z ≤ 1000000
theorem RowOk.all {ns : List Int} (h : RowOk ns) : (ns.map V.int).all coinB = true := by
  rw [List.all_eq_true]
  intro x hx
  obtain ⟨z, hz, rfl⟩ := List.mem_map.mp hx
  have q := h.2 z hz
  simp [coinB, q.1, q.2]
theorem RowOk.rev {ns : List Int} (h : RowOk ns) : RowOk ns.reverse := ⟨by rw [List.length_reverse]; exact h.1, fun z hz => h.2 z (List.mem_reverse.mp hz)⟩
theorem RowOk.getD {ns : List Int} (h : RowOk ns) (i : Nat) : 0 ≤ ns.getD i 0 ∧ ns.getD i 0 ≤ 1000000 := by
  rw [List.getD_eq_getElem?_getD]
  cases e : ns[i]? with
  | none => simp
  | some z => exact h.2 z (List.mem_of_getElem? e)
theorem at_get {ns : List Int} {i : Int} {j : Nat} (e : i = (j : Int)) (h : j < ns.length) : atI (ns.map V.int) i = some (.int (ns.getD j 0)) := by
  subst e
  refine atI_nat ?_
  rw [List.getElem?_map, List.getElem?_eq_getElem h, List.getD_eq_getElem?_getD, List.getElem?_eq_getElem h]
  rfl
/-! ### the worths that are known -/
def keyOf (low n : Nat) : List Key := [Sum.inl (low : Int), Sum.inl ((low + n : Nat) : Int)]
theorem keyOf_inj {a b c d : Nat} (h : keyOf a b = keyOf c d) : a = c ∧ b = d := by
  have h1 : ((a : Int) = (c : Int)) := Sum.inl.inj (List.cons.inj h).1
  have h2 : (((a + b : Nat) : Int) = ((c + d : Nat) : Int)) := Sum.inl.inj (List.cons.inj (List.cons.inj h).2).1
  omega
structure Known (row : List Int) (kvs : List (List Key × V)) : Prop where
  val : ∀ p ∈ kvs, ∃ low n, low + n ≤ row.length ∧ p = (keyOf low n, V.int (wv row n low))
  nd : (kvs.map (·.1)).Nodup
theorem Known.nil (row : List Int) : Known row [] := ⟨fun _ h => (nomatch h), List.nodup_nil⟩
theorem valV_mem {kvs : List (List Key × V)} {k : List Key} {v : V} (h : valV kvs k = some v) : (k, v) ∈ kvs := by
  unfold valV at h
  obtain ⟨p, hp, rfl⟩ := Option.map_eq_some_iff.mp h
  have h1 := List.find?_some hp
  have h2 := List.mem_of_find?_eq_some hp
  have h3 : p.1 = k := of_decide_eq_true h1
  subst h3
  exact h2
theorem Known.get {row : List Int} {kvs : List (List Key × V)} (h : Known row kvs) {low n : Nat} {v : V} (e : valV kvs (keyOf low n) = some v) : v = .int (wv row n low) := by
  obtain ⟨a, b, _, q⟩ := h.val _ (valV_mem e)
  have q1 := congrArg Prod.fst q
  have q2 := congrArg Prod.snd q
  obtain ⟨rfl, rfl⟩ := keyOf_inj q1
  exact q2
theorem Known.put {row : List Int} {kvs : List (List Key × V)} (h : Known row kvs) {low n : Nat} (hl : low + n ≤ row.length) : Known row (putK kvs (keyOf low n) (.int (wv row n low))) := by
  unfold putK
  split
  · rename_i c
    refine ⟨fun p hp => ?_, ?_⟩
    · obtain ⟨q, hq, rfl⟩ := List.mem_map.mp hp
      obtain ⟨a, b, l, e⟩ := h.val q hq
      refine ⟨a, b, l, ?_⟩
      split
      · rename_i ek
        rw [e] at ek ⊢
        obtain ⟨rfl, rfl⟩ := keyOf_inj ek
        rfl
      · exact e
    · have e : (kvs.map fun kv => if kv.1 = keyOf low n then (kv.1, V.int (wv row n low)) else kv).map (·.1) = kvs.map (·.1) := by
        rw [List.map_map]
        refine List.map_congr_left fun q _ => ?_
        show (if q.1 = keyOf low n then (q.1, V.int (wv row n low)) else q).1 = q.1
        split <;> rfl
      rw [e]
      exact h.nd
  · rename_i c
    refine ⟨fun p hp => ?_, ?_⟩
    · rcases List.mem_append.mp hp with hp | hp
      · exact h.val p hp
      · rw [List.mem_singleton] at hp
        exact ⟨low, n, hl, hp⟩
    · rw [List.map_append, List.nodup_append]
      refine ⟨h.nd, by simp, fun x hx y hy => ?_⟩
      obtain ⟨q, hq, rfl⟩ := List.mem_map.mp hx
      have e : y = keyOf low n := by simpa using hy
      subst e
      intro z
      exact c (List.any_eq_true.mpr ⟨q, hq, decide_eq_true z⟩)
theorem nodup_le {α : Type} [DecidableEq α] : ∀ (l u : List α), l.Nodup → (∀ x ∈ l, x ∈ u) → l.length ≤ u.length
  | [], u, _, _ => Nat.zero_le _
  | a :: l, u, hn, hs => by
    have ha : a ∈ u := hs a List.mem_cons_self
    have hn' := List.nodup_cons.mp hn
    have ih := nodup_le l (u.erase a) hn'.2 fun x hx => by
      have hx' : x ∈ u := hs x (List.mem_cons_of_mem _ hx)
      have ne : x ≠ a := fun e => hn'.1 (e ▸ hx)
      exact (List.mem_erase_of_ne ne).mpr hx'
    rw [List.length_erase_of_mem ha] at ih
    have : 0 < u.length := List.length_pos_of_mem ha
    rw [List.length_cons]
    omega
theorem Known.len {row : List Int} {kvs : List (List Key × V)} (h : Known row kvs) (hr : row.length ≤ 12) : kvs.length ≤ 1000 := by
  have q := nodup_le (kvs.map (·.1)) ((List.range 13).flatMap fun a => (List.range 13).map fun b => keyOf a b) h.nd fun x hx => by
    obtain ⟨p, hp, rfl⟩ := List.mem_map.mp hx
    obtain ⟨a, b, l, e⟩ := h.val p hp
    rw [e]
    exact List.mem_flatMap.mpr ⟨a, List.mem_range.mpr (by omega), List.mem_map.mpr ⟨b, List.mem_range.mpr (by omega), rfl⟩⟩
  rw [List.length_map] at q
  have z : ((List.range 13).flatMap fun a => (List.range 13).map fun b => keyOf a b).length = 169 := by
    rw [List.length_flatMap]
    simp [List.range_succ]
  omega
def sideS : Bool → Str
  | true => "left"
  | false => "right"
end RE
/-! data in the heap, for == -/
namespace RE
open PySem PySem.Spec PyProof.Rows L2
def vD : V → PyData
  | .bl b => .bool b
  | .int i => .int i
  | .str s => .str s
  | _ => .none
def okF : V → Bool
  | .non => true
  | .bl _ => true
  | .int _ => true
  | .str s => PyData.strOk s
  | _ => false
/-- data of a bounded depth -/
structure Sh (d : PyData) (n : Nat) : Prop where
  can : d.canLay0 = true
  dep : d.depth ≤ n
structure ShA (ds : List PyData) (n : Nat) : Prop where
  can : PyData.canLayAll0 ds = true
  dep : PyData.depthAll ds ≤ n
theorem Sh.shaped {d : PyData} {n : Nat} (h : Sh d n) (hn : n ≤ 64) : SeqAt.shaped d = true := by
  unfold SeqAt.shaped
  rw [h.can, decide_eq_true (Nat.le_trans h.dep hn)]
  rfl
theorem ShA.nil (n : Nat) : ShA [] n := ⟨rfl, by simp [PyData.depthAll]⟩
theorem ShA.cons {d : PyData} {ds : List PyData} {n : Nat} (h : Sh d n) (t : ShA ds n) : ShA (d :: ds) n :=
  ⟨by simp only [PyData.canLayAll0, h.can, t.can, Bool.and_self], by have := h.dep; have := t.dep; simp only [PyData.depthAll]; omega⟩
theorem Sh.list {ds : List PyData} {n : Nat} (h : ShA ds n) : Sh (.list ds) (n + 1) := ⟨by simp only [PyData.canLay0]; exact h.can, by have := h.dep; simp only [PyData.depth]; omega⟩
theorem Sh.tuple {ds : List PyData} {n : Nat} (h : ShA ds n) : Sh (.tuple ds) (n + 1) := ⟨by simp only [PyData.canLay0]; exact h.can, by have := h.dep; simp only [PyData.depth]; omega⟩
theorem Sh.mono {d : PyData} {n m : Nat} (h : Sh d n) (l : n ≤ m) : Sh d m := ⟨h.can, Nat.le_trans h.dep l⟩
theorem sh_flat {x : V} (h : okF x = true) (n : Nat) : Sh (vD x) n := by
  cases x with
  | str s => exact ⟨by simp only [vD, PyData.canLay0]; exact h, by simp [vD, PyData.depth]⟩
  | non => exact ⟨by simp [vD, PyData.canLay0], by simp [vD, PyData.depth]⟩
  | bl b => exact ⟨by simp [vD, PyData.canLay0], by simp [vD, PyData.depth]⟩
  | int b => exact ⟨by simp [vD, PyData.canLay0], by simp [vD, PyData.depth]⟩
  | byt b => cases h
  | flt b => cases h
  | ref b => cases h
  | ty b => cases h
theorem sha_flat : ∀ {xs : List V}, xs.all okF = true → ∀ n, ShA (xs.map vD) n
  | [], _, n => .nil n
  | x :: xs, h, n => by
    have h' := Bool.and_eq_true_iff.mp (show (okF x && xs.all okF) = true from h)
    exact .cons (sh_flat h'.1 n) (sha_flat h'.2 n)
section
variable {K : PySem.W.Frag} {H H' : Hp}
theorem dp_flat {x : V} (h : okF x = true) : Dp K H x (vD x) := by
  cases x with
  | str s => exact .str s
  | non => exact .non
  | bl b => exact .bl b
  | int b => exact .int b
  | byt b => cases h
  | flt b => cases h
  | ref b => cases h
  | ty b => cases h
theorem dps_flat : ∀ {xs : List V}, xs.all okF = true → DpAll K H xs (xs.map vD)
  | [], _ => .nil
  | x :: xs, h => by
    have h' := Bool.and_eq_true_iff.mp (show (okF x && xs.all okF) = true from h)
    exact .cons (dp_flat h'.1) (dps_flat h'.2)
theorem dp_lst {a : Addr} {xs : List V} (h : SqL K H a xs) (hf : xs.all okF = true) : Dp K H (.ref a) (.list (xs.map vD)) := .lst h (dps_flat hf)
theorem dp_tup {a : Addr} {xs : List V} (h : SqT K H a xs) (hf : xs.all okF = true) : Dp K H (.ref a) (.tuple (xs.map vD)) := .tup h (dps_flat hf)
end
theorem ok_ints (ns : List Int) : (ns.map V.int).all okF = true := by
  rw [List.all_map]
  exact List.all_eq_true.mpr fun _ _ => rfl
theorem ok_strs (bs : List Bool) : (bs.map fun b => V.str (sideS b)).all okF = true := by
  rw [List.all_map]
  refine List.all_eq_true.mpr fun b _ => ?_
  cases b <;> decide +kernel
theorem shl_flat {xs : List V} (h : xs.all okF = true) : SeqAt.shaped (.list (xs.map vD)) = true := (Sh.list (sha_flat h 0)).shaped (by decide)
theorem sht_flat {xs : List V} (h : xs.all okF = true) : SeqAt.shaped (.tuple (xs.map vD)) = true := (Sh.tuple (sha_flat h 0)).shaped (by decide)
theorem eqv_same {d : PyData} (h : SeqAt.shaped d = true) : PyData.eqv d d = true := SeqAt.eqv_refl d (SeqAt.canLay_of_shaped h)
theorem eqvAll_ints : ∀ ns ms : List Int, PyData.eqvAll ((ns.map V.int).map vD) ((ms.map V.int).map vD) = decide (ns = ms)
  | [], [] => by simp [PyData.eqvAll]
  | [], _ :: _ => by simp [PyData.eqvAll]
  | _ :: _, [] => by simp [PyData.eqvAll]
  | n :: ns, m :: ms => by
    have ih := eqvAll_ints ns ms
    simp only [List.map_cons, PyData.eqvAll, vD, PyData.eqv, ih]
    by_cases c : n = m <;> by_cases c2 : ns = ms <;> simp [c, c2]
theorem eqv_ints (ns ms : List Int) : PyData.eqv (.list ((ns.map V.int).map vD)) (.list ((ms.map V.int).map vD)) = decide (ns = ms) := by
  rw [PyData.eqv]
  exact eqvAll_ints ns ms
theorem eqv_nil_r (x : V) (xs : List V) : PyData.eqv (.list ((x :: xs).map vD)) (.list []) = false := by
  rw [PyData.eqv]
  rfl
end RE
/-! the promises of the program's defs -/
namespace RE
open PySem PySem.Spec PyProof.Rows L2
def spWhole (K : PySem.W.Frag) : Sp := fun vs H Q _ => ∃ x T, vs = [x] ∧ PV K H x T ∧ Q (.bl (T == "int")) H
/-- what is no row -/
def NoRow (K : PySem.W.Frag) (H : Hp) (x : V) : Prop := (∃ T, PV K H x T ∧ (T == "list") = false) ∨
  ∃ a xs, x = .ref a ∧ SqL K H a xs ∧ (12 < xs.length ∨ (xs.length ≤ 12 ∧ (∀ y ∈ xs, ∃ T, PV K H y T) ∧ xs.all coinB = false))
def IsRow (K : PySem.W.Frag) (H : Hp) (x : V) (ns : List Int) : Prop := ∃ a, x = .ref a ∧ SqL K H a (ns.map V.int) ∧ RowOk ns
/-- a row: go on; none: the refusal -/
def spCheck (K : PySem.W.Frag) (C : Addr) : Sp := fun vs H Q E => ∃ x, vs = [x] ∧
  ((∃ ns, IsRow K H x ns ∧ ∀ H', Same H H' → Q .non H') ∨ (NoRow K H x ∧ ∀ H', Same H H' → E (.ref C) none H'))
/-- a def of a row alone -/
def spRow (K : PySem.W.Frag) (C : Addr) (R : List Int → Hp → VK → XK → Prop) : Sp := fun vs H Q E => ∃ x, vs = [x] ∧
  ((∃ ns, IsRow K H x ns ∧ R ns H Q E) ∨ (NoRow K H x ∧ ∀ H', Same H H' → E (.ref C) none H'))
def spWorthOf (K : PySem.W.Frag) (n : Nat) : Sp := fun vs H Q _ => ∃ (a d : Addr) (ns : List Int) (low m : Nat) (i j : Int) (kvs : List (List Key × V)), vs = [.ref a, .int i, .int j, .ref d] ∧ i = (low : Int) ∧ j = ((low + m : Nat) : Int) ∧
  SqL K H a (ns.map V.int) ∧ H d = some (.dT kvs) ∧ Known ns kvs ∧ ns.length ≤ 12 ∧ low + m ≤ ns.length ∧ m < n ∧
  ∀ H' kvs', SameBut d H H' → H' d = some (.dT kvs') → Known ns kvs' → Q (.int (wv ns m low)) H'
def coinOf (ns : List Int) (b : Bool) (low m : Nat) : Int := if b then ns.getD low 0 else ns.getD (low + m) 0
def lowOf (b : Bool) (low : Nat) : Nat := if b then low + 1 else low
theorem lowOf_le (b : Bool) (low m : Nat) : lowOf b low + m ≤ low + (m + 1) := by cases b <;> simp [lowOf] <;> omega
def spAfter (K : PySem.W.Frag) : Sp := fun vs H Q _ => ∃ (a : Addr) (ns : List Int) (low m : Nat) (i j : Int) (b : Bool), vs = [.ref a, .int i, .int j, .str (sideS b)] ∧ i = (low : Int) ∧ j = ((low + (m + 1) : Nat) : Int) ∧
  SqL K H a (ns.map V.int) ∧ low + (m + 1) ≤ ns.length ∧
  ∀ p, H p = none → Q (.ref p) (upd H p (.tup [.int (coinOf ns b low m), .int (lowOf b low : Nat), .int ((lowOf b low + m : Nat) : Int)]))
/-- an end is best -/
def bestB (ns : List Int) (low m : Nat) (b : Bool) : Bool := decide (coinOf ns b low m - wv ns m (lowOf b low) = wv ns (m + 1) low)
theorem ends_filter (ns : List Int) (low m : Nat) : ends ns (m + 1) low = [true, false].filter (bestB ns low m) := by
  rw [ends_succ]
  have h1 : bestB ns low m true = decide (ns.getD low 0 - wv ns m (low + 1) = wv ns (m + 1) low) := rfl
  have h2 : bestB ns low m false = decide (ns.getD (low + m) 0 - wv ns m low = wv ns (m + 1) low) := rfl
  rw [List.filter_cons, List.filter_cons, List.filter_nil, h1, h2]
  by_cases c1 : ns.getD low 0 - wv ns m (low + 1) = wv ns (m + 1) low
  · rw [if_pos c1, decide_eq_true c1, if_pos rfl]
    by_cases c2 : ns.getD (low + m) 0 - wv ns m low = wv ns (m + 1) low
    · rw [if_pos c2, decide_eq_true c2, if_pos rfl]
      rfl
    · rw [if_neg c2, decide_eq_false c2, if_neg Bool.false_ne_true]
      rfl
  · rw [if_neg c1, decide_eq_false c1, if_neg Bool.false_ne_true]
    by_cases c2 : ns.getD (low + m) 0 - wv ns m low = wv ns (m + 1) low
    · rw [if_pos c2, decide_eq_true c2, if_pos rfl]
      rfl
    · rw [if_neg c2, decide_eq_false c2, if_neg Bool.false_ne_true]
      rfl
theorem ends_le (ns : List Int) (n low : Nat) : (ends ns n low).length ≤ 2 := by
  cases n with
  | zero => exact Nat.zero_le _
  | succ m =>
    rw [ends_filter]
    exact List.length_filter_le _ _
def spBestOf (K : PySem.W.Frag) : Sp := fun vs H Q _ => ∃ (a d : Addr) (ns : List Int) (low m : Nat) (i j : Int) (kvs : List (List Key × V)), vs = [.ref a, .int i, .int j, .ref d] ∧ i = (low : Int) ∧ j = ((low + (m + 1) : Nat) : Int) ∧
  SqL K H a (ns.map V.int) ∧ H d = some (.dT kvs) ∧ Known ns kvs ∧ ns.length ≤ 12 ∧ low + (m + 1) ≤ ns.length ∧
  ∀ H' kvs' p, SameBut d H H' → H' d = some (.dT kvs') → Known ns kvs' → H p = none → H' p = some (.lst ((ends ns (m + 1) low).map fun b => V.str (sideS b))) → Q (.ref p) H'
def spWorth (K : PySem.W.Frag) (C : Addr) : Sp := spRow K C fun ns H Q _ => ∀ H', Same H H' → Q (.int (wv ns ns.length 0)) H'
def spBest (K : PySem.W.Frag) (C : Addr) : Sp := spRow K C fun ns H Q _ => ∀ H' p, Same H H' → H p = none → H' p = some (.lst ((ends ns ns.length 0).map fun b => V.str (sideS b))) → Q (.ref p) H'
def absI (i : Int) : Int := if i < 0 then -i else i
def sureV (ns : List Int) : Int := absI ((evens ns).sum - (evens (ns.drop 1)).sum)
def spSure (K : PySem.W.Frag) (C D : Addr) : Sp := spRow K C fun ns H Q E => (ns.length % 2 = 1 → ∀ H', Same H H' → E (.ref D) none H') ∧ (ns.length % 2 = 0 → ∀ H', Same H H' → Q (.int (sureV ns)) H')
end RE
/-! the promises of the laws' own defs -/
namespace RE
open PySem PySem.Spec PyProof.Rows L2
/-- some number comes -/
def spNumber : Sp := fun vs H Q _ => ∃ c a z : Int, vs = [.int c, .int a, .int z] ∧ c.natAbs < 2 ^ 2000000 ∧ a.natAbs < 2 ^ 30 ∧ ∀ r : Int, Q (.int r) H
/-- a row comes -/
def spLRow (K : PySem.W.Frag) : Sp := fun vs H Q _ => ∃ (a : Addr) (cs : List Int) (by' most : Int), vs = [.ref a, .int by', .int most] ∧ SqL K H a (cs.map V.int) ∧ cs.length ≤ 63 ∧ (∀ z ∈ cs, z.natAbs < 2 ^ 1048576) ∧ 0 ≤ by' ∧ by' ≤ 100 ∧ 0 ≤ most ∧ most ≤ 12 ∧
  ∀ (ns : List Int) (p : Addr) (H' : Hp), RowOk ns → (ns.length : Int) ≤ most → Same H H' → H p = none → H' p = some (.lst (ns.map V.int)) → Q (.ref p) H'
/-- all worths of a row -/
structure Worths (ns : List Int) (kvs : List (List Key × V)) : Prop where
  val : ∀ low n, low + n ≤ ns.length → valV kvs (keyOf low n) = some (.int (wv ns n low))
/-- the worths of stretches shorter than i, and of those of i coins that begin ahead of j -/
def Done (ns : List Int) (kvs : List (List Key × V)) (i j : Nat) : Prop := ∀ m low, low + m ≤ ns.length → (m < i ∨ (m = i ∧ low < j)) → valV kvs (keyOf low m) = some (.int (wv ns m low))
theorem Done.nil (ns : List Int) : Done ns [] 0 0 := fun m low _ h => by omega
theorem keyEq {i j : Int} {low n : Nat} (h1 : i = (low : Int)) (h2 : j = ((low + n : Nat) : Int)) : [V.int i, V.int j] = (keyOf low n).map kV := by
  show [V.int i, V.int j] = [V.int (low : Int), V.int ((low + n : Nat) : Int)]
  rw [h1, h2]
def spWorths (K : PySem.W.Frag) : Sp := fun vs H Q _ => ∃ (a : Addr) (ns : List Int), vs = [.ref a] ∧ SqL K H a (ns.map V.int) ∧ ns.length ≤ 12 ∧
  ∀ (kvs : List (List Key × V)) (d : Addr) (H' : Hp), Worths ns kvs → Same H H' → H d = none → H' d = some (.dT kvs) → Q (.ref d) H'
def spEnds (K : PySem.W.Frag) : Sp := fun vs H Q _ => ∃ (a d : Addr) (ns : List Int) (low m : Nat) (i j : Int) (kvs : List (List Key × V)), vs = [.ref a, .int i, .int j, .ref d] ∧ i = (low : Int) ∧ j = ((low + m : Nat) : Int) ∧ SqL K H a (ns.map V.int) ∧ H d = some (.dT kvs) ∧ Worths ns kvs ∧ low + m ≤ ns.length ∧
  ∀ H' p, Same H H' → H p = none → H' p = some (.lst ((ends ns m low).map fun b => V.str (sideS b))) → Q (.ref p) H'
def spLaw (K : PySem.W.Frag) : Sp := fun vs H Q _ => ∃ (a : Addr) (ns : List Int), vs = [.ref a] ∧ SqL K H a (ns.map V.int) ∧ ns.length ≤ 63 ∧ (∀ z ∈ ns, z.natAbs < 2 ^ 1048576) ∧ ∀ H', Q (.bl true) H'
/-- a sum of few great numbers -/
theorem sum_bits : ∀ (l : List Int) (k : Nat), (∀ z ∈ l, z.natAbs < 2 ^ k) → l.sum.natAbs < 2 ^ (k + l.length)
  | [], k, _ => by
    rw [List.sum_nil]
    exact Nat.pow_pos (by decide)
  | a :: l, k, h => by
    have ih := sum_bits l k fun z hz => h z (List.mem_cons_of_mem _ hz)
    have ha := pw_mono (h a List.mem_cons_self) (Nat.le_add_right k l.length)
    rw [List.sum_cons, List.length_cons, ← Nat.add_assoc]
    exact pw_add ha ih (Nat.le_refl _)
/-- the first 63 of a list that is not longer -/
theorem cut63 {xs : List V} (h : xs.length ≤ 63) : cutV xs none (some 63) = xs := by
  unfold cutV
  rw [show HT.sIx xs.length xs.length (some 63) = min 63 xs.length from HT.sIx_nat xs.length xs.length 63, HT.sIx_none, Nat.min_eq_right h, List.drop_zero, Nat.sub_zero, List.take_length]
end RE
/-! takes, greedy hands, best plays -/
namespace RE
open PySem PySem.Spec PyProof.Rows L2
/-- the coins of a stretch -/
def stretch (ns : List Int) (low n : Nat) : List Int := (ns.drop low).take n
/-- what takes give the hand that takes next, and the other one -/
def ledR (ns : List Int) : Nat → Nat → List Bool → Int × Int
  | m + 1, low, b :: bs => (coinOf ns b low m + (ledR ns m (lowOf b low) bs).2, (ledR ns m (lowOf b low) bs).1)
  | _, _, _ => (0, 0)
theorem ledR_nil (ns : List Int) (n low : Nat) : ledR ns n low [] = (0, 0) := by cases n <;> rfl
theorem ledR_cons (ns : List Int) (m low : Nat) (b : Bool) (bs : List Bool) : ledR ns (m + 1) low (b :: bs) = (coinOf ns b low m + (ledR ns m (lowOf b low) bs).2, (ledR ns m (lowOf b low) bs).1) := rfl
/-- where the stretch begins that takes leave -/
def ledLow : Nat → List Bool → Nat
  | low, [] => low
  | low, b :: bs => ledLow (lowOf b low) bs
def sidesV (bs : List Bool) : List V := bs.map fun b => V.str (sideS b)
theorem sidesV_len (bs : List Bool) : (sidesV bs).length = bs.length := List.length_map _
theorem sidesV_ok (bs : List Bool) : (sidesV bs).all okF = true := ok_strs bs
/-- greedy takes -/
def greedyV (ns : List Int) : Nat → Nat → List Bool
  | 0, _ => []
  | m + 1, low => decide (ns.getD (low + m) 0 ≤ ns.getD low 0) :: greedyV ns m (lowOf (decide (ns.getD (low + m) 0 ≤ ns.getD low 0)) low)
theorem greedyV_succ (ns : List Int) (m low : Nat) : greedyV ns (m + 1) low = decide (ns.getD (low + m) 0 ≤ ns.getD low 0) :: greedyV ns m (lowOf (decide (ns.getD (low + m) 0 ≤ ns.getD low 0)) low) := rfl
/-- all best plays of a stretch, in order -/
def plays (ns : List Int) : Nat → Nat → List (List Bool)
  | 0, _ => [[]]
  | m + 1, low => (ends ns (m + 1) low).flatMap fun b => (plays ns m (lowOf b low)).map fun p => b :: p
theorem plays_zero (ns : List Int) (low : Nat) : plays ns 0 low = [[]] := rfl
theorem plays_succ (ns : List Int) (m low : Nat) : plays ns (m + 1) low = (ends ns (m + 1) low).flatMap fun b => (plays ns m (lowOf b low)).map fun p => b :: p := rfl
def many (ns : List Int) (n low : Nat) : Int := ((plays ns n low).length : Nat)
theorem flat_len (f : Bool → List (List Bool)) : ∀ l : List Bool, (l.flatMap f).length = (l.map fun b => (f b).length).sum
  | [] => rfl
  | a :: l => by
    rw [List.flatMap_cons, List.length_append, flat_len f l, List.map_cons, List.sum_cons]
theorem plays_le (ns : List Int) : ∀ n low, (plays ns n low).length ≤ 2 ^ n
  | 0, low => by rw [plays_zero]; exact Nat.le_refl _
  | m + 1, low => by
    rw [plays_succ, flat_len]
    have h1 : ∀ l : List Bool, (l.map fun b => ((plays ns m (lowOf b low)).map fun p => b :: p).length).sum ≤ l.length * 2 ^ m := by
      intro l
      induction l with
      | nil => simp
      | cons b l ih =>
        rw [List.map_cons, List.sum_cons, List.length_map, List.length_cons, Nat.succ_mul]
        have := plays_le ns m (lowOf b low)
        omega
    have h2 := h1 (ends ns (m + 1) low)
    have h3 := ends_le ns (m + 1) low
    have h4 : (ends ns (m + 1) low).length * 2 ^ m ≤ 2 * 2 ^ m := Nat.mul_le_mul_right _ h3
    rw [Nat.pow_succ]
    omega
theorem plays_pos (ns : List Int) : ∀ n low, 0 < (plays ns n low).length
  | 0, low => by rw [plays_zero]; exact Nat.succ_pos _
  | m + 1, low => by
    rw [plays_succ]
    cases e : ends ns (m + 1) low with
    | nil => exact absurd e (ends_ne ns m low)
    | cons b l =>
      rw [List.flatMap_cons, List.length_append, List.length_map]
      have := plays_pos ns m (lowOf b low)
      omega
theorem plays_length (ns : List Int) : ∀ n low, ∀ p ∈ plays ns n low, p.length = n
  | 0, low, p, h => by
    rw [plays_zero, List.mem_singleton] at h
    rw [h]
    rfl
  | m + 1, low, p, h => by
    rw [plays_succ] at h
    obtain ⟨b, _, h⟩ := List.mem_flatMap.mp h
    obtain ⟨q, hq, rfl⟩ := List.mem_map.mp h
    rw [List.length_cons, plays_length ns m _ q hq]
theorem ends_best {ns : List Int} {m low : Nat} {b : Bool} (h : b ∈ ends ns (m + 1) low) : coinOf ns b low m - wv ns m (lowOf b low) = wv ns (m + 1) low := by
  rw [ends_filter] at h
  exact of_decide_eq_true (List.mem_filter.mp h).2
theorem plays_worth (ns : List Int) : ∀ n low, ∀ p ∈ plays ns n low, (ledR ns n low p).1 - (ledR ns n low p).2 = wv ns n low
  | 0, low, p, h => by
    rw [plays_zero, List.mem_singleton] at h
    rw [h, ledR_nil, wv_zero]
    rfl
  | m + 1, low, p, h => by
    rw [plays_succ] at h
    obtain ⟨b, hb, h⟩ := List.mem_flatMap.mp h
    obtain ⟨q, hq, rfl⟩ := List.mem_map.mp h
    have ih := plays_worth ns m _ q hq
    have e := ends_best hb
    rw [ledR_cons]
    show coinOf ns b low m + (ledR ns m (lowOf b low) q).2 - (ledR ns m (lowOf b low) q).1 = _
    omega
theorem sum_take1 {l : List Bool} {t : Nat} {b : Bool} (f : Bool → Int) (h : l[t]? = some b) : ((l.take (t + 1)).map f).sum = ((l.take t).map f).sum + f b := by
  rw [List.take_add_one, h, List.map_append, List.sum_append]
  simp
theorem many_succ (ns : List Int) (m low : Nat) : many ns (m + 1) low = ((ends ns (m + 1) low).map fun b => many ns m (lowOf b low)).sum := by
  unfold many
  rw [plays_succ, flat_len]
  generalize ends ns (m + 1) low = l
  induction l with
  | nil => rfl
  | cons b l ih =>
    rw [List.map_cons, List.sum_cons, List.map_cons, List.sum_cons, List.length_map, ← ih]
    omega
/-! ### stretches as lists -/
theorem stretch_len {ns : List Int} {low n : Nat} (h : low + n ≤ ns.length) : (stretch ns low n).length = n := by
  unfold stretch
  rw [List.length_take, List.length_drop]
  omega
theorem stretch_get {ns : List Int} {low n i : Nat} (h : i < n) : (stretch ns low n)[i]? = ns[low + i]? := by
  unfold stretch
  rw [List.getElem?_take, if_pos h, List.getElem?_drop]
theorem stretch_first {ns : List Int} {low m : Nat} (h : low + (m + 1) ≤ ns.length) : stretch ns low (m + 1) = ns.getD low 0 :: stretch ns (low + 1) m := by
  unfold stretch
  have hl : low < ns.length := by omega
  rw [List.drop_eq_getElem_cons hl, List.take_succ_cons, List.getD_eq_getElem?_getD, List.getElem?_eq_getElem hl]
  rfl
theorem stretch_last {ns : List Int} {low m : Nat} (h : low + (m + 1) ≤ ns.length) : stretch ns low (m + 1) = stretch ns low m ++ [ns.getD (low + m) 0] := by
  unfold stretch
  have hl : low + m < ns.length := by omega
  rw [List.take_add_one, List.getElem?_drop, List.getElem?_eq_getElem hl, List.getD_eq_getElem?_getD, List.getElem?_eq_getElem hl]
  rfl
theorem stretch_all (ns : List Int) : stretch ns 0 ns.length = ns := by
  unfold stretch
  rw [List.drop_zero, List.take_length]
theorem stretch_zero (ns : List Int) (low : Nat) : stretch ns low 0 = [] := by
  unfold stretch
  rw [List.take_zero]
theorem stretch_cut {ns : List Int} {low n : Nat} (h : low + n ≤ ns.length) {i j : Int} (ei : i = (low : Int)) (ej : j = ((low + n : Nat) : Int)) : cutV (ns.map V.int) (some i) (some j) = (stretch ns low n).map V.int := by
  subst ei ej
  unfold cutV stretch
  rw [show HT.sIx (ns.map V.int).length 0 (some ((low : Nat) : Int)) = min low (ns.map V.int).length from HT.sIx_nat _ 0 low, show HT.sIx (ns.map V.int).length (ns.map V.int).length (some ((low + n : Nat) : Int)) = min (low + n) (ns.map V.int).length from HT.sIx_nat _ _ (low + n), List.length_map, Nat.min_eq_left h, Nat.min_eq_left (show low ≤ ns.length by omega), ← List.map_drop, ← List.map_take]
  congr 2
  omega
end RE
/-! promises about takes and plays -/
namespace RE
open PySem PySem.Spec PyProof.Rows L2
def isSideB : V → Bool
  | .str s => decide (s = "left") || decide (s = "right")
  | _ => false
theorem isSide_side (b : Bool) : isSideB (.str (sideS b)) = true := by cases b <;> decide +kernel
def spSide (K : PySem.W.Frag) : Sp := fun vs H Q _ => ∃ x T, vs = [x] ∧ PV K H x T ∧ ∀ H', Same H H' → Q (.bl (isSideB x)) H'
def NoTakes (K : PySem.W.Frag) (H : Hp) (x : V) (n : Nat) : Prop := (∃ T, PV K H x T ∧ (T == "list") = false) ∨
  ∃ a xs, x = .ref a ∧ SqL K H a xs ∧ (n < xs.length ∨ (xs.length ≤ n ∧ (∀ y ∈ xs, ∃ T, PV K H y T) ∧ xs.all isSideB = false))
theorem all_sides (bs : List Bool) : (sidesV bs).all isSideB = true := by
  unfold sidesV
  rw [List.all_map]
  exact List.all_eq_true.mpr fun b _ => isSide_side b
def spLed (K : PySem.W.Frag) (C D : Addr) : Sp := fun vs H Q E => ∃ x t, vs = [x, t] ∧ ((NoRow K H x ∧ ∀ H', Same H H' → E (.ref C) none H') ∨ ∃ ns, IsRow K H x ns ∧
  ((NoTakes K H t ns.length ∧ ∀ H', Same H H' → E (.ref D) none H') ∨ ∃ a bs, t = .ref a ∧ SqL K H a (sidesV bs) ∧ bs.length ≤ ns.length ∧
    ∀ H' p l, Same H H' → H p = none → H l = none → H' p = some (.tup [.int (ledR ns ns.length 0 bs).1, .int (ledR ns ns.length 0 bs).2, .ref l]) → H' l = some (.lst ((stretch ns (ledLow 0 bs) (ns.length - bs.length)).map V.int)) → Q (.ref p) H'))
def spGreedy (K : PySem.W.Frag) (C : Addr) : Sp := spRow K C fun ns H Q _ => ∀ H' p, Same H H' → H p = none → H' p = some (.lst (sidesV (greedyV ns ns.length 0))) → Q (.ref p) H'
def spPlaysOf (K : PySem.W.Frag) (n : Nat) : Sp := fun vs H Q _ => ∃ (a d : Addr) (ns : List Int) (low m : Nat) (i j : Int) (kvs : List (List Key × V)), vs = [.ref a, .int i, .int j, .ref d] ∧ i = (low : Int) ∧ j = ((low + m : Nat) : Int) ∧
  SqL K H a (ns.map V.int) ∧ H d = some (.dT kvs) ∧ Known ns kvs ∧ ns.length ≤ 12 ∧ low + m ≤ ns.length ∧ m < n ∧
  ∀ H' kvs', SameBut d H H' → H' d = some (.dT kvs') → Known ns kvs' → Q (.int (many ns m low)) H'
def spHowMany (K : PySem.W.Frag) (C : Addr) : Sp := spRow K C fun ns H Q _ => ∀ H', Same H H' → Q (.int (many ns ns.length 0)) H'
/-- what is no number of a best play -/
def NoNum (K : PySem.W.Frag) (H : Hp) (x : V) (n : Int) : Prop := (∃ T, PV K H x T ∧ (T == "int") = false) ∨ ∃ k, x = .int k ∧ ¬ (0 ≤ k ∧ k < n)
def spPlayBy (K : PySem.W.Frag) (C D : Addr) : Sp := fun vs H Q E => ∃ x t, vs = [x, t] ∧ ((NoRow K H x ∧ ∀ H', Same H H' → E (.ref C) none H') ∨ ∃ ns, IsRow K H x ns ∧
  ((NoNum K H t (many ns ns.length 0) ∧ ∀ H', Same H H' → E (.ref D) none H') ∨ ∃ (k : Nat) (pl : List Bool), t = .int (k : Int) ∧ (plays ns ns.length 0)[k]? = some pl ∧
    ∀ H' p, Same H H' → H p = none → H' p = some (.lst (sidesV pl)) → Q (.ref p) H'))
/-- enumerate over a list that stays -/
theorem for_enum {K : PySem.W.Frag} {a : Addr} {xs : List V} {g : TG} {tb : TS} {D : Ends} {σ : L2.St} {H : Hp} (Pv : Nat → L2.St → Hp → Prop) (h0 : Pv 0 σ H) (hq : ∀ i σ H, Pv i σ H → SqL K H a xs)
    (hs : ∀ (i : Nat) (x : V) (T : Addr) (σ : L2.St) (H : Hp), xs[i]? = some x → Pv i σ H → H T = none → g (.ref T) σ (upd H T (.tup [.int (i : Nat), x])) fun σ2 H2 => tb { D with nx := Pv (i + 1), ct := Pv (i + 1), bk := D.nx } σ2 H2) (hd : ∀ σ H, Pv xs.length σ H → D.nx σ H) :
    ∃ W : Nat → Nat → L2.St → Hp → Prop, (∃ m, W 0 m σ H) ∧ ∀ i m σ H, W i m σ H →
      ((Ite K a).stop i H ∧ D.nx σ H) ∨ ((Ite K a).go i H ∧ ∃ N : L2.St → Hp → Prop, (∀ σ' H', N σ' H' → ∃ m', m' < m ∧ W (i + 1) m' σ' H') ∧ ∀ v H', (Ite K a).yld i H v H' → g v σ H' fun σ2 H2 => tb { D with nx := N, ct := N, bk := D.nx } σ2 H2) := by
  refine ⟨fun i m σ H => m = xs.length - i ∧ i ≤ xs.length ∧ Pv i σ H, ⟨xs.length, rfl, Nat.zero_le _, h0⟩, ?_⟩
  rintro i m σ H ⟨rfl, hi, p⟩
  have qx := hq i σ H p
  by_cases hlt : i < xs.length
  · have hx : xs[i]? = some xs[i] := List.getElem?_eq_getElem hlt
    refine .inr ⟨⟨xs, _, qx, hx⟩, Pv (i + 1), fun σ' H' p' => ⟨xs.length - (i + 1), by omega, rfl, hlt, p'⟩, fun v H' y => ?_⟩
    obtain ⟨T, x', rfl, hT, rfl, f1⟩ := y
    exact hs i x' T σ H (f1 xs qx) p hT
  · have e : i = xs.length := by omega
    subst e
    exact .inl ⟨⟨xs, qx, Nat.le_refl _⟩, hd σ H p⟩
end RE
/-! lists of takes; promises of the law's own defs about plays -/
namespace RE
open PySem PySem.Spec PyProof.Rows L2
/-- a list of lists of ends -/
inductive Lsts (H : Hp) : List V → List (List Bool) → Prop
  | nil : Lsts H [] []
  | cons {q : Addr} {pl : List Bool} {xs : List V} {pls : List (List Bool)} (h : H q = some (.lst (sidesV pl))) (t : Lsts H xs pls) : Lsts H (.ref q :: xs) (pl :: pls)
theorem Lsts.mono {H H' : Hp} (s : Same H H') : ∀ {xs : List V} {pls : List (List Bool)}, Lsts H xs pls → Lsts H' xs pls
  | _, _, .nil => .nil
  | _, _, .cons h t => .cons (s _ _ h) (t.mono s)
theorem Lsts.app {H : Hp} {ys : List V} {qls : List (List Bool)} (b : Lsts H ys qls) : ∀ {xs : List V} {pls : List (List Bool)}, Lsts H xs pls → Lsts H (xs ++ ys) (pls ++ qls)
  | _, _, .nil => b
  | _, _, .cons h t => .cons h (b.app t)
theorem Lsts.len {H : Hp} : ∀ {xs : List V} {pls : List (List Bool)}, Lsts H xs pls → xs.length = pls.length
  | _, _, .nil => rfl
  | _, _, .cons _ t => by rw [List.length_cons, List.length_cons, t.len]
theorem Lsts.get {H : Hp} : ∀ {xs : List V} {pls : List (List Bool)} {i : Nat} {pl : List Bool}, Lsts H xs pls → pls[i]? = some pl → ∃ q, xs[i]? = some (.ref q) ∧ H q = some (.lst (sidesV pl))
  | _, _, i, pl, .nil, e => by simp at e
  | _, _, 0, pl, .cons h t, e => by
    have e' := Option.some.inj e
    subst e'
    exact ⟨_, rfl, h⟩
  | _, _, i + 1, pl, .cons h t, e => by
    obtain ⟨q, h1, h2⟩ := t.get (i := i) (pl := pl) (by simpa using e)
    exact ⟨q, by simpa using h1, h2⟩
theorem Lsts.getX {H : Hp} : ∀ {xs : List V} {pls : List (List Bool)} {i : Nat} {x : V}, Lsts H xs pls → xs[i]? = some x → ∃ q pl, x = .ref q ∧ pls[i]? = some pl ∧ H q = some (.lst (sidesV pl))
  | _, _, i, x, .nil, e => by simp at e
  | _, _, 0, x, .cons h t, e => by
    have e' := Option.some.inj e
    subst e'
    exact ⟨_, _, rfl, rfl, h⟩
  | _, _, i + 1, x, .cons h t, e => by
    obtain ⟨q, pl, h1, h2, h3⟩ := t.getX (i := i) (x := x) (by simpa using e)
    exact ⟨q, pl, h1, by simpa using h2, h3⟩
/-- all but the object at D -/
def hide (D : Addr) (H : Hp) : Hp := fun a => if a = D then none else H a
theorem hide_ne {D a : Addr} {H : Hp} (h : a ≠ D) : hide D H a = H a := if_neg h
theorem hide_of (D : Addr) (H : Hp) : Same (hide D H) H := fun b o e => by
  by_cases c : b = D
  · rw [c, show hide D H D = none from if_pos rfl] at e
    cases e
  · rw [hide_ne c] at e
    exact e
theorem hide_same {D : Addr} {H H' : Hp} (s : SameBut D H H') : Same (hide D H) (hide D H') := fun b o e => by
  by_cases c : b = D
  · rw [c, show hide D H D = none from if_pos rfl] at e
    cases e
  · rw [hide_ne c] at e ⊢
    exact s b o c e
def spLPlays (K : PySem.W.Frag) (n : Nat) : Sp := fun vs H Q _ => ∃ (a d : Addr) (ns : List Int) (low m : Nat) (i j : Int) (kvs : List (List Key × V)), vs = [.ref a, .int i, .int j, .ref d] ∧ i = (low : Int) ∧ j = ((low + m : Nat) : Int) ∧
  SqL K H a (ns.map V.int) ∧ H d = some (.dT kvs) ∧ Worths ns kvs ∧ ns.length ≤ 12 ∧ low + m ≤ ns.length ∧ m < n ∧
  ∀ H' p xs, Same H H' → H p = none → H' p = some (.lst xs) → Lsts H' xs (plays ns m low) → Q (.ref p) H'
def spLLed (K : PySem.W.Frag) : Sp := fun vs H Q _ => ∃ (r a : Addr) (ns : List Int) (bs : List Bool), vs = [.ref r, .ref a] ∧ SqL K H r (ns.map V.int) ∧ SqL K H a (sidesV bs) ∧ bs.length ≤ ns.length ∧
  ∀ H' p l, Same H H' → H p = none → H l = none → H' p = some (.tup [.int (ledR ns ns.length 0 bs).1, .int (ledR ns ns.length 0 bs).2, .ref l]) → H' l = some (.lst ((stretch ns (ledLow 0 bs) (ns.length - bs.length)).map V.int)) → Q (.ref p) H'
def spLGreedy (K : PySem.W.Frag) : Sp := fun vs H Q _ => ∃ (r : Addr) (ns : List Int), vs = [.ref r] ∧ SqL K H r (ns.map V.int) ∧ ns.length ≤ 12 ∧
  ∀ H' p, Same H H' → H p = none → H' p = some (.lst (sidesV (greedyV ns ns.length 0))) → Q (.ref p) H'
theorem pop_first {ns : List Int} {low m : Nat} (h : low + (m + 1) ≤ ns.length) : ((stretch ns low (m + 1)).map V.int).eraseIdx 0 = (stretch ns (low + 1) m).map V.int ∧ ((stretch ns low (m + 1)).map V.int)[0]? = some (.int (ns.getD low 0)) := by
  rw [stretch_first h]
  exact ⟨rfl, rfl⟩
theorem pop_last {ns : List Int} {low m : Nat} (h : low + (m + 1) ≤ ns.length) : ((stretch ns low (m + 1)).map V.int).eraseIdx m = (stretch ns low m).map V.int ∧ ((stretch ns low (m + 1)).map V.int)[m]? = some (.int (ns.getD (low + m) 0)) := by
  have hl : (stretch ns low m).length = m := stretch_len (by omega)
  rw [stretch_last h, List.map_append]
  constructor
  · rw [List.eraseIdx_append_of_length_le (by rw [List.length_map]; omega), List.length_map, hl, Nat.sub_self]
    simp
  · rw [List.getElem?_append_right (by rw [List.length_map]; omega), List.length_map, hl, Nat.sub_self]
    rfl
theorem cut_tail (x : V) (xs : List V) : cutV (x :: xs) (some 1) none = xs := by
  unfold cutV
  rw [show HT.sIx (x :: xs).length 0 (some 1) = min 1 (x :: xs).length from HT.sIx_nat _ 0 1, HT.sIx_none, List.length_cons, Nat.min_eq_left (by omega)]
  simp
theorem cut_init (xs : List V) (x : V) : cutV (xs ++ [x]) none (some (-1)) = xs := by
  have e : HT.sIx (xs ++ [x]).length (xs ++ [x]).length (some (-1)) = xs.length := by
    unfold HT.sIx
    simp
    try omega
  unfold cutV
  rw [e, HT.sIx_none]
  simp
/-- the walk over a range with a step -/
theorem rgc_of {j c : Int} (h0 : 0 ≤ j) (h1 : j < 1000000) (c0 : 1 ≤ c) (c1 : c < 1000000) : ∃ n : Nat, RgC 0 j c n ∧ ∀ i : Nat, i < n → 0 ≤ (i : Int) * c ∧ (i : Int) * c < j := by
  have e : Builtin.Range.rangeSize 0 j c = (j + c - 1) / c := rangeSize_pos c0 h0
  have q0 : 0 ≤ (j + c - 1) / c := Int.ediv_nonneg (by omega) (by omega)
  have q1 : (j + c - 1) / c ≤ j + c - 1 := Int.ediv_le_self _ (by omega)
  refine ⟨((j + c - 1) / c).toNat, ⟨by omega, by omega, ?_, ?_⟩, fun i hi => ?_⟩
  · unfold Builtin.Range.small
    rw [e]
    generalize (j + c - 1) / c = q at q0 q1
    rw [if_pos (show c > 0 by omega)]
    simp only [Builtin.Range.rangeFitsLong, Bool.and_eq_true, Bool.or_eq_true, decide_eq_true_eq, beq_iff_eq]
    omega
  · rw [e, Int.toNat_of_nonneg q0]
  · exact start_inside c0 h0 (by omega) (by rw [e]; omega)
end RE
/-! heaps as letters: for printed readings -/
namespace RE
open PySem PySem.Spec PyProof.Rows L2
/-- a new object: the heap behind it is a letter -/
@[elab_as_elim] theorem gen_heap {H : Hp} {p : Addr} {o : HO} {G : Hp → Prop} (np : H p = none) (h : ∀ H', Same H H' → H' p = some o → G H') : G (upd H p o) := h _ (same_new np o) upd_same
/-- an object that is changed -/
@[elab_as_elim] theorem gen_put {H : Hp} {p : Addr} {o u : HO} {G : Hp → Prop} (hp : H p = some u) (h : ∀ H', SameBut p H H' → H' p = some o → G H') : G (upd H p o) := h _ (SameBut.put o) upd_same
theorem seqT_same {K : PySem.W.Frag} {H H' : Hp} {a : Addr} {xs : List V} (e : Same H H') (h : SqT K H a xs) : SqT K H' a xs := by
  rcases h with h | h
  · rcases h with h | ⟨o, h⟩
    · exact .inl (.inl (e _ _ h))
    · exact .inl (.inr ⟨o, e _ _ h⟩)
  · exact .inr h
theorem eqv_eq {d e : PyData} (h : SeqAt.shaped d = true) (q : d = e) : PyData.eqv d e = true := by
  subst q
  exact eqv_same h
/-- a op1 b op2 c op3 d -/
def tChain3 (r r' r'' : R2) (ta tb tc td : TE) : TE := fun σ H Q => ta σ H fun x H1 => tb σ H1 fun y H2 => r x y H2 fun z H3 => ∃ k, z = .bl k ∧
  (if k = true then tc σ H3 fun u H4 => r' y u H4 fun z' H5 => ∃ k', z' = .bl k' ∧ (if k' = true then td σ H5 fun u' H6 => r'' u u' H6 Q else Q (.bl false) H5) else Q (.bl false) H3)
section
variable {X : Cx} {a b c d : Expr} {ta tb tc td : TE} {pos : Pos}
theorem pt_chain3 {op op' op'' : CmpOp} {r r' r'' : R2} (ho : OpR X (compareOp op) r) (ho' : OpR X (compareOp op') r') (ho'' : OpR X (compareOp op'') r'') (ha : PE X a ta) (hb : PE X b tb) (hc : PE X c tc) (hd : PE X d td)
    (hm : lastMarks [op, op', op''] [b, c, d] = false := by with_unfolding_all rfl) : PT X (.Compare a [op, op', op''] [b, c, d] pos) (tTest (tChain3 r r' r'' ta tb tc td)) := by
  refine ⟨fun pins s σ H Q I h => ?_⟩
  refine isTrue_chain (thn (ha.run pins s σ H _ I h) fun v s1 ⟨x, H1, I1, r1, q1⟩ => test_link (thn (hb.run pins s1 σ H1 _ I1 q1) fun u s2 ⟨y, H2, I2, r2, q2⟩ =>
    thn (ho pins s2 σ H2 x y v u _ I2 r1 r2 q2) fun d s3 ⟨z, H3, I3, r3, k, e, q3⟩ => ?_)) hm
  subst e
  cases r3
  refine wpAny_truthy_bool ?_
  cases k with
  | false =>
    obtain ⟨k', e', q'⟩ := q3
    cases e'
    exact ite_ff ⟨H3, I3, q'⟩
  | true =>
    refine ite_tt (test_link (thn (hc.run pins s3 σ H3 _ I3 q3) fun w' s4 ⟨z', H4, I4, r4, q4⟩ => thn (ho' pins s4 σ H4 y z' u w' _ I4 r2 r4 q4) fun d' s5 ⟨z2, H5, I5, r5, k2, e2, q5⟩ => ?_))
    subst e2
    cases r5
    refine wpAny_truthy_bool ?_
    cases k2 with
    | false =>
      obtain ⟨k', e', q'⟩ := q5
      cases e'
      exact ite_ff ⟨H5, I5, q'⟩
    | true =>
      refine ite_tt (test_last (thn (hd.run pins s5 σ H5 _ I5 q5) fun w2 s6 ⟨z3, H6, I6, r6, q6⟩ => thn (ho'' pins s6 σ H6 z' z3 w' w2 _ I6 r4 r6 q6) fun d2 s7 ⟨z4, H7, I7, r7, k3, e3, q7⟩ => ?_))
      subst e3
      cases r7
      exact wpAny_truthy_bool ⟨H7, I7, q7⟩
end
theorem lex2 (a b c d : Int) : Ob.lexAt (fun j => decide (([a, b] : List Int).getD j 0 = ([c, d] : List Int).getD j 0)) (fun j => decide (([a, b] : List Int).getD j 0 ≤ ([c, d] : List Int).getD j 0)) (decide (([a, b] : List Int).length ≤ ([c, d] : List Int).length)) 0 (min ([a, b] : List Int).length ([c, d] : List Int).length) = (if a = c then decide (b ≤ d) else decide (a ≤ c)) := by
  show (if decide (a = c) = true then (if decide (b = d) = true then true else decide (b ≤ d)) else decide (a ≤ c)) = _
  by_cases h : a = c
  · rw [if_pos h, if_pos (decide_eq_true h)]
    by_cases h2 : b = d
    · rw [if_pos (decide_eq_true h2)]
      exact (decide_eq_true (by omega)).symm
    · rw [if_neg (by simpa using h2)]
  · rw [if_neg h, if_neg (by simpa using h)]
/-- what isinstance asks of an own class -/
structure OwnTy (K : PySem.W.Frag) (C : Addr) : Prop where
  ha : PySem.W.findIn K (.ref C) "__class__" = some (some (.builtin "object.__class__"))
  hn : PySem.W.specialIn K (.builtin "object.__class__") "__get__" = some (some (.builtin "getset_descriptor.__get__"))
  htk : PySem.W.takesIn K (.builtin "object.__class__") = some true
  hm : PySem.W.mroIn K C (.type "object") = some true
theorem ty_ins {K : PySem.W.Frag} {H : Hp} {a C dx : Addr} {fs : List (Str × V)} (e : H a = some (.ins C dx fs)) (cl : Cls K C) (o : OwnTy K C) : TyX K H (.ref a) (.ref C) := .base (.ins e cl o.ha o.hn o.htk o.hm)
/-- a new instance -/
theorem same_make {H : Hp} {x dx C : Addr} (nx : H x = none) (nd : H dx = none) : Same H (upd (upd H dx (.own x)) x (.ins C dx [])) := fun b o e => by
  rw [upd_ne (ne_of_none e nx), upd_ne (ne_of_none e nd)]
  exact e
/-- o.m(e, ..), o of one of two classes -/
def tMeth2 (C C' : Addr) (m : Str) (sp sp' : Sp) (E : XK) (ta : TE) (t : TA) : TE := fun σ H Q => ta σ H fun x H1 => ∃ a dx fs, x = .ref a ∧ fs.lookup m = none ∧
  ((H1 a = some (.ins C dx fs) ∧ t σ H1 fun vs H2 => sp (x :: (vs ++ [])) H2 Q E) ∨ (H1 a = some (.ins C' dx fs) ∧ t σ H1 fun vs H2 => sp' (x :: (vs ++ [])) H2 Q E))
section
variable {X : Cx} {o e : Expr} {es : List Expr} {ta : TE} {t : TA} {pos apos : Pos} {m : Str} {C C' f f' : Addr} {fd fd' : FuncData} {ps : List Str} {sp sp' : Sp} {k : Nat} {CX : L2.CXT} {E : XK}
theorem pe_meth2 {pl : Sem Bool} (he : PE X o ta) (c : Cls X.K C) (hm : Meth X.K C m f) (F : FnOk X.prog X.w X.K X.mg X.base CX k f fd ps sp) (hb : Binds X.K fd ps []) (c' : Cls X.K C') (hm' : Meth X.K C' m f') (F' : FnOk X.prog X.w X.K X.mg X.base CX k f' fd' ps sp') (hb' : Binds X.K fd' ps [])
    (hr : Room k X.A) (hx : Passes CX X E) (ha : PA X (e :: es) t)
    (hst : starEach (e :: es) X.env = (false, eval e X.env) :: starEach es X.env := by rfl) (hpl : (backTo pos (starEach es X.env)).any (·.1) = false := by rfl)
    (ht : eval (.Call (.Attribute o m apos) (e :: es) [] pos) X.env = (do
      let ov ← eval o X.env
      standAt apos.atName
      let (f, first) ← holding [ov] (getMethod ov m pl)
      callWith pos f first (backTo pos (starEach (e :: es) X.env)) (backToKw pos (keywordEach [] X.env))) := by rfl) :
    PE X (.Call (.Attribute o m apos) (e :: es) [] pos) (tMeth2 C C' m sp sp' E ta t) := by
  refine ⟨fun pins s σ H Q I h => ?_⟩
  refine PySem.W.methodCall_KW (pl := pl) (thn (he.run pins s σ H _ I h) fun u s1 ⟨x, H1, I1, rx, a, dx, fs, ex, l, q⟩ => ?_) ht
  subst ex
  obtain rfl : u = Value.ref a := rx
  rcases q with ⟨ea, q⟩ | ⟨ea, q⟩
  · refine getmeth_ok I1 ea c hm l ?_
    refine PySem.W.callWith_K (first := [.ref a]) (h₀ := X.base) I.ok.mod.kin hm.kp (thn (ha.run pos pins s1 σ H1 _ I1 q) fun us s2 ⟨vs, H2, I2, r, q2⟩ => ⟨I2.kIn, ?_⟩) hst hpl
    exact run_fn (us := .ref a :: us) (vs := .ref a :: vs) (dvs := []) F hr hb .nil hx I2 (.cons rfl r) q2
  · refine getmeth_ok I1 ea c' hm' l ?_
    refine PySem.W.callWith_K (first := [.ref a]) (h₀ := X.base) I.ok.mod.kin hm'.kp (thn (ha.run pos pins s1 σ H1 _ I1 q) fun us s2 ⟨vs, H2, I2, r, q2⟩ => ⟨I2.kIn, ?_⟩) hst hpl
    exact run_fn (us := .ref a :: us) (vs := .ref a :: vs) (dvs := []) F' hr hb' .nil hx I2 (.cons rfl r) q2
end
theorem not_t {b : Bool} (h : b = true) : (!b) = false := by rw [h]; rfl
theorem not_f {b : Bool} (h : b = false) : (!b) = true := by rw [h]; rfl
theorem isb {a b c d : Bool} (h : a = c) (h2 : decide (c = b) = d) : decide (a = b) = d := by rw [h]; exact h2
end RE
/-! sorted(xs) of data that stand in order -/
namespace RE
open PySem PySem.Spec PyProof.Rows L2
theorem each_of_vals {xs : List V} {us : List Value} (r : Vals xs us) : PySem.W.EachIs (fun (u : Value) (x : V) => RelV x u) us xs := by
  induction r with
  | nil => exact .nil
  | cons h _ ih => exact .cons h ih
theorem vals_of_each {xs : List V} {us : List Value} (r : PySem.W.EachIs (fun (u : Value) (x : V) => RelV x u) us xs) : Vals xs us := by
  induction r with
  | nil => exact .nil
  | cons h _ ih => exact .cons h ih
/-- sorted of a list that is in order: a new list of the same -/
def rSortedD (K : PySem.W.Frag) : List V → Hp → VK → Prop := fun vs H Q => ∃ (a : Addr) (xs : List V) (k : V → PyData), vs = [V.ref a] ∧ SqL K H a xs ∧ (∀ x ∈ xs, Dp K H x (k x)) ∧ PySem.W.AllAlike (xs.map k) ∧ PySem.W.Sortable (xs.map k) ∧ (∀ x ∈ xs, (k x).depth ≤ 8) ∧
  xs.Pairwise (fun x y => PySem.W.dataLe false k x y = true) ∧ ∀ p, H p = none → Q (.ref p) (upd H p (.lst xs))
theorem each_reads {X : Cx} {pins : List (Addr × Obj)} {σ : L2.St} {H : Hp} {s : Shared} {k : V → PyData} (I : Inv X pins σ H s) : ∀ {xs : List V} {us : List Value}, Vals xs us → (∀ x ∈ xs, Dp X.K H x (k x)) → PySem.W.EachIs (fun (u : Value) (x : V) => ∃ as, Reads s.heap u (k x) as) us xs := by
  intro xs us r
  induction r with
  | nil => exact fun _ => .nil
  | cons h _ ih => exact fun hd => .cons (Dp.reads I _ _ _ (hd _ List.mem_cons_self) h) (ih fun x hx => hd x (List.mem_cons_of_mem _ hx))
theorem cr_sortedD {X : Cx} (hu : X.A.units + 64 < cLine) : CallR X (.builtin "sorted") (rSortedD X.K) := by
  intro pins s σ H vs us Q I r h
  obtain ⟨a, xs, k, rfl, hs, hd, hal, hso, hdep, hord, q⟩ := h
  obtain ⟨its, rv, hl, hz⟩ := I.list hs
  obtain ⟨u, rfl, ru⟩ := vals1 r
  obtain rfl : u = Value.ref a := ru
  refine PySem.W.sorted_data (enc := k) hl.isList (each_of_vals rv) (each_reads I rv hd) hal hso (by first | exact hz | (rw [rv.length]; exact hz)) (fun x hx => by have := hdep x hx; omega) fun out hlen hout => ?_
  have es : xs.mergeSort (PySem.W.dataLe false k) = xs := by
    first
    | exact List.mergeSort_of_pairwise hord
    | exact List.mergeSort_of_sorted hord
  rw [es] at hout
  obtain ⟨n, hn⟩ := sortedAll_at s.heap its out.toArray
  refine ⟨.ref (s.heap.objs.size + 1), upd H (s.heap.objs.size + 1) (.lst xs), I.laid (t' := s.toks) (fun b o e => sortedAll_old e) (Nat.le_succ _) ⟨hz, out, n, vals_of_each hout, hn⟩, rfl, q _ (I.hok.fresh (Nat.le_succ _))⟩
end RE
/-! functions as values: lambdas made, handed on, called -/
namespace RE
open PySem PySem.Spec PyProof.Rows L2 LamX NdefX
/-- the object at f is the lambda with the words of F and the body e -/
def LamO (f : Addr) (F : NF) (e : Expr) : HO := .ext fun h => ∃ pm ctv : Value, h.get? f = some (PySem.W.kla_obj "<lambda>" F.qual F.params e F.scope F.cl pm F.c ctv)
theorem lamO_at {P : Program} {w : World} {H : Hp} {h : Heap} {f : Addr} {F : NF} {e : Expr} (hok : HOk P w H h) (q : H f = some (LamO f F e)) : ∃ pm ctv : Value, h.get? f = some (PySem.W.kla_obj "<lambda>" F.qual F.params e F.scope F.cl pm F.c ctv) := by
  obtain ⟨z, _, _⟩ := hok f _ q
  exact z
section
variable {X : Cx} {pins : List (Addr × Obj)} {σ : L2.St} {H : Hp} {s : Shared}
/-- the lambda's object, laid at the heap's end, is known -/
theorem lam_laid {F : NF} {e : Expr} {tk : Nat} {pm ctv : Value} (I : Inv X pins σ H s) :
    Inv X pins σ (upd H s.heap.objs.size (LamO s.heap.objs.size F e)) { s with heap := s.heap.push (PySem.W.kla_obj "<lambda>" F.qual F.params e F.scope F.cl pm F.c ctv), toks := tk } := by
  have q : (s.heap.push (PySem.W.kla_obj "<lambda>" F.qual F.params e F.scope F.cl pm F.c ctv)).get? s.heap.objs.size = some (PySem.W.kla_obj "<lambda>" F.qual F.params e F.scope F.cl pm F.c ctv) := Heap.get?_push_size _ rfl
  exact I.laid (a := s.heap.objs.size) (fun _ _ z => Heap.get?_push_of_some _ z) (Nat.le_refl _) ⟨⟨pm, ctv, q⟩, ⟨_, q⟩, fun _ _ ⟨a, b, z⟩ st => ⟨a, b, st _ z⟩⟩
/-- a table that tells one more code object -/
theorem tabs_more {T : List (Addr × Str)} {P c' : Addr} {q : Str} {ps : Array Value} {pos : Pos} (hT : Tabs T H) (hP : H P = some (.tbl ps)) (nC : H c' = none) (hm : (P, q) ∈ T) (hu : ∀ p ∈ T, p.1 = P → p.2 = q) :
    Tabs T (upd (upd H P (.tbl (ps ++ #[rawInt pos.line, rawInt pos.col, .ref c']))) c' (CodeO c' q)) ∧ ExtN H (upd (upd H P (.tbl (ps ++ #[rawInt pos.line, rawInt pos.col, .ref c']))) c' (CodeO c' q)) := by
  have ext : ExtN H (upd (upd H P (.tbl (ps ++ #[rawInt pos.line, rawInt pos.col, .ref c']))) c' (CodeO c' q)) := by
    intro b o hb no
    have n1 : b ≠ c' := ne_of_none hb nC
    have n2 : b ≠ P := fun z => by
      subst z
      rw [hP] at hb
      exact no ps (Option.some.inj hb).symm
    rw [upd_ne n1, upd_ne n2]
    exact hb
  refine ⟨?_, ext⟩
  obtain ⟨ps0, hP0, ht0, ha0⟩ := hT _ hm
  have e0 : ps0 = ps := by
    have z := hP0.symm.trans hP
    have z2 := Option.some.inj z
    injection z2
  subst e0
  have el : (ps0 ++ #[rawInt pos.line, rawInt pos.col, .ref c']).toList = ps0.toList ++ [rawInt pos.line, rawInt pos.col, .ref c'] := by simp
  rintro ⟨P', q'⟩ hp
  by_cases hb : P' = P
  · have eq := hu _ hp hb
    subst hb
    have eq' : q' = q := eq
    subst eq'
    refine ⟨_, (upd_ne (ne_of_none hP nC)).trans upd_same, ?_, ?_⟩
    · rw [el]
      exact PySem.TriplesOk_snoc _ _ _ _ ht0
    · intro p' cv hcv
      rw [el] at hcv
      rcases among_app _ ht0 hcv with z | z
      · obtain ⟨c0, z1, z2⟩ := ha0 p' cv z
        exact ⟨c0, z1, ext _ _ z2 codeO_ne⟩
      · exact ⟨c', z, upd_same⟩
  · obtain ⟨ps', a1, a2, a3⟩ := hT _ hp
    refine ⟨ps', ?_, a2, ?_⟩
    · rw [upd_ne (ne_of_none a1 nC), upd_ne hb]
      exact a1
    · intro p' cv hcv
      obtain ⟨c0, z1, z2⟩ := a3 p' cv hcv
      exact ⟨c0, z1, ext _ _ z2 codeO_ne⟩
end
def freeB (sc scope : Scope) : Bool := scope.names.all fun y => !decide (y.2 = .free) || (decide (sc.names.lookup y.1 = some .cell) || decide (sc.names.lookup y.1 = some .free))
theorem free_by {sc scope : Scope} (h : freeB sc scope = true) : ∀ y ∈ scope.names, y.2 = .free → sc.names.lookup y.1 = some .cell ∨ sc.names.lookup y.1 = some .free := by
  intro y hy e
  have q := List.all_eq_true.mp h y hy
  rw [decide_eq_true e] at q
  rcases Bool.or_eq_true_iff.mp q with z | z
  · cases z
  · exact (Bool.or_eq_true_iff.mp z).elim (fun z => .inl (of_decide_eq_true z)) (fun z => .inr (of_decide_eq_true z))
/-- a lambda as a value: a new function object -/
def tLamV (T : List (Addr × Str)) (e : Expr) (mk : Addr → NF) : TE := fun _ H Q => Tabs T H ∧ ∀ (f c' : Addr) (H1 : Hp), ExtN H H1 → (∀ b, H1 b = none → H b = none) → Tabs T H1 → H f = none → f ≠ c' → H1 f = some (LamO f (mk c') e) → H1 c' = some (CodeO c' (mk c').qual) → Q (.ref f) H1
section
variable {X : Cx}
theorem pe_lam {T : List (Addr × Str)} {c P : Addr} {params : Arguments} {body : Expr} {scope : Scope} {pos : Pos} (TB : TabB X.base X.mg c P) (hcode : X.env.code = .ref c) (hm : (P, X.env.qual ++ "<lambda>") ∈ T) (hu : ∀ p ∈ T, p.1 = P → p.2 = X.env.qual ++ "<lambda>")
    (hfree : ∀ y ∈ scope.names, y.2 = .free → X.env.scope.names.lookup y.1 = some .cell ∨ X.env.scope.names.lookup y.1 = some .free) (hdef : defaultsOf params X.env = ([], []) := by rfl) :
    PE X (.Lambda params body scope pos) (tLamV T body fun c' => ⟨"<lambda>", X.env.qual ++ "<lambda>", params, [], scope, cloFrom X.env.cells scope.names [], c'⟩) := by
  refine ⟨fun pins s σ H Q I ⟨hT, h⟩ => PySem.W.kla_eval hdef ?_⟩
  have hcl : ∀ y ∈ scope.names, y.2 = .free → ∃ c, X.env.cells.lookup y.1 = some c := fun y hy ey => (hfree y hy ey).elim (fun z => I.ok.has _ (.inl z)) fun z => I.ok.has _ (.inr z)
  obtain ⟨ps, hP, ht, ha⟩ := hT _ hm
  have bP : s.heap.BuiltinsAt X.mg P := TB.bm.keeps I.bk
  have gP : s.heap.get? P = some { cls := .none, data := .fields ps } := I.hok P _ hP
  cases hc : codeAmong pos ps.toList with
  | some cv =>
    obtain ⟨c', ec, hco⟩ := ha pos cv hc
    subst ec
    refine PySem.W.kla_makeFunctionHit (mg := X.mg) (c := c) (P := P) (ps := ps) (closure_ok hcl) I.ok.glob (I.mod.glob.keeps I.bk) hcode (TB.code.keeps I.bk) gP ht hc bP fun ctv h' tk hx hsz => ?_
    have I1 : Inv X pins σ H { s with heap := h', toks := tk } := I.kept hx
    have nF := I1.hok.fresh (Nat.le_refl _)
    have ext : Same H (upd H h'.objs.size (LamO h'.objs.size ⟨"<lambda>", X.env.qual ++ "<lambda>", params, [], scope, cloFrom X.env.cells scope.names [], c'⟩ body)) := same_new nF _
    exact ⟨.ref h'.objs.size, _, lam_laid (tk := tk) (F := ⟨"<lambda>", X.env.qual ++ "<lambda>", params, [], scope, cloFrom X.env.cells scope.names [], c'⟩) I1, rfl, h _ c' _ (ExtN.of ext) (fun b z => upd_none z) (hT.ext ext) nF (ne_of_none hco nF).symm upd_same (ext _ _ hco)⟩
  | none =>
    refine PySem.W.kla_makeFunction (mg := X.mg) (c := c) (P := P) (ps := ps) (closure_ok hcl) I.ok.glob (I.mod.glob.keeps I.bk) hcode (TB.code.keeps I.bk) gP ht hc TB.gP bP fun c' ctv h' tk hx hge hlt hrec htb => ?_
    obtain ⟨c2, oc, vs, t, e2, hoc, hd, hv⟩ := hrec
    cases e2
    have nC : H c' = none := I.hok.fresh hge
    have I1 := inv_table (t' := tk) (more := #[rawInt pos.line, rawInt pos.col, .ref c']) (h' := h') I hP (fun b o hb z => hx b o hb z) htb hge ⟨oc, vs, t, hoc, hd, hv⟩
    obtain ⟨T1, ext1⟩ := tabs_more (pos := pos) hT hP nC hm hu
    have nF := I1.hok.fresh (Nat.le_refl _)
    have ext2 := same_new nF (LamO h'.objs.size ⟨"<lambda>", X.env.qual ++ "<lambda>", params, [], scope, cloFrom X.env.cells scope.names [], c'⟩ body)
    exact ⟨.ref h'.objs.size, _, lam_laid (tk := tk) (F := ⟨"<lambda>", X.env.qual ++ "<lambda>", params, [], scope, cloFrom X.env.cells scope.names [], c'⟩) I1, rfl, h _ c' _ (ext1.trans (ExtN.of ext2)) (fun b z => upd_none (upd_none (upd_none z))) (T1.ext ext2) (I.hok.fresh (Nat.le_trans hge (Nat.le_of_lt hlt))) (Nat.ne_of_gt hlt) upd_same (ext2 _ _ upd_same)⟩
end
/-! ### what may be called -/
/-- f keeps the promise sp wherever the objects of D stand -/
structure Callable (P : Program) (w : World) (K : PySem.W.Frag) (mg : Str → Option Value) (base : Heap) (k : Nat) (f : Addr) (D : Hp) (sp : Sp) : Prop where
  at_ : ∀ (h : Heap) (H : Hp), K.In h → HOk P w H h → Same D H → PySem.W.FnAt f h
  run : ∀ (A : Around) (outer : List Env) (s : Shared) (H : Hp) (us : List Value) (vs : List V) (Q : VK) (E : XK), Room k A → Env0 P w K mg base A outer s H → Same D H → Vals vs us → sp vs H Q E →
    codeAny (model P w) A (.call (.ref f) ⟨us, []⟩) (CR (L2.CX P w) outer P w H s Q E) s
theorem Callable.mono {P : Program} {w : World} {K : PySem.W.Frag} {mg : Str → Option Value} {base : Heap} {j k : Nat} {f : Addr} {D : Hp} {sp : Sp} (c : Callable P w K mg base j f D sp) (h : j ≤ k) : Callable P w K mg base k f D sp :=
  ⟨c.at_, fun A outer s H us vs Q E hr => c.run A outer s H us vs Q E (hr.mono h)⟩
def noH : Hp := fun _ => none
theorem noH_sub (H : Hp) : Same noH H := fun _ _ e => by cases e
/-- a def of the module -/
theorem callable_fn {P : Program} {w : World} {K : PySem.W.Frag} {mg : Str → Option Value} {base : Heap} {k : Nat} {f : Addr} {fd : FuncData} {ps : List Str} {sp : Sp} {name qual : Str} {st : Stmt} (F : FnOk P w K mg base (L2.CX P w) k f fd ps sp) (G : L2.Fun K name qual st f fd) (hb : Binds K fd ps []) : Callable P w K mg base k f noH sp := by
  refine ⟨fun h H hK _ _ => ?_, fun A outer s H us vs Q E hr e0 _ r q => ?_⟩
  · obtain ⟨oc, od, kV, doc, pm, an, cdv, ct, osl, _, e, _⟩ := G.ex
    exact ⟨oc, od, _, osl, hK _ _ e⟩
  · have KX : K.In s.heap := e0.mod.kin.keeps fun b o e => (e0.bs b o e).1
    have hl : us.length = ps.length := by rw [← r.length]; exact F.len _ _ _ _ q
    have b := hb s us KX (by rw [List.append_nil]; exact hl)
    rw [List.append_nil] at b
    exact F.run A outer s H ⟨us, []⟩ us vs Q E hr e0 b r q
/-- the objects that a lambda without captured names needs -/
def lamD (f : Addr) (F : NF) (e : Expr) : Hp := upd (upd noH f (LamO f F e)) F.c (CodeO F.c F.qual)
theorem lamD_sub {f : Addr} {F : NF} {e : Expr} {H : Hp} (h1 : H f = some (LamO f F e)) (h2 : H F.c = some (CodeO F.c F.qual)) : Same (lamD f F e) H := by
  intro b o q
  unfold lamD at q
  by_cases hb : b = F.c
  · subst hb
    rw [upd_same] at q
    rw [h2]
    exact q
  · rw [upd_ne hb] at q
    by_cases hf : b = f
    · subst hf
      rw [upd_same] at q
      rw [h1]
      exact q
    · rw [upd_ne hf] at q
      cases q
theorem lamO_ne_code {f c : Addr} {F : NF} {e : Expr} {H : Hp} {q : Str} (h1 : H f = some (LamO f F e)) (h2 : H c = some (CodeO c q)) {P : Program} {w : World} {h : Heap} (hok : HOk P w H h) : f ≠ c := fun z => by
  subst z
  obtain ⟨pm, ctv, o1⟩ := lamO_at hok h1
  obtain ⟨⟨oc, vs, t, o2, d2, _⟩, _, _⟩ := hok f _ h2
  rw [o1] at o2
  cases o2
  cases d2
/-- a lambda by its body -/
theorem callable_lam {P : Program} {w : World} {K : PySem.W.Frag} {mg : Str → Option Value} {base : Heap} {k : Nat} {f : Addr} {F : NF} {e : Expr} {N ps : List Str} {sp : Sp} (S : NScope N ps [] F.scope) (hcl : F.cl = []) (hfc : f ≠ F.c)
    (hb : ∀ (pm ctv : Value) (us : List Value), us.length = ps.length → bindArgs (PySem.W.kla_fn "<lambda>" F.qual F.params e F.scope F.cl pm (.ref F.c) ctv) ⟨us, []⟩ = pure (ps.zip us)) (len : ∀ vs H Q E, sp vs H Q E → vs.length = ps.length)
    (hbody : ∀ (A : Around) (outer : List Env) (s : Shared) (H : Hp) (vs : List V) (Q : VK) (E : XK), Room k (A.deeper (envF F f s.heap.objs.size)) → sp vs H Q E →
      ∃ t, PE (ncx (L2.CX P w) P w K mg base N F f A outer s H E) e t ∧ t (startF N vs []) H Q) : Callable P w K mg base (k + 1) f (lamD f F e) sp := by
  have d1 : ∀ {H : Hp}, Same (lamD f F e) H → H f = some (LamO f F e) := fun {H} q => q _ _ (by unfold lamD; rw [upd_ne hfc, upd_same])
  have d2 : ∀ {H : Hp}, Same (lamD f F e) H → H F.c = some (CodeO F.c F.qual) := fun {H} q => q _ _ (by unfold lamD; rw [upd_same])
  refine ⟨fun h H _ hok hs => ?_, fun A outer s H us vs Q E hr e0 hs r q => ?_⟩
  · obtain ⟨pm, ctv, z⟩ := lamO_at hok (d1 hs)
    exact ⟨_, _, _, _, z⟩
  · have hl := len _ _ _ _ q
    obtain ⟨pm, ctv, ho⟩ := lamO_at e0.hok (d1 hs)
    have lim : s.heap.NoLimit := e0.mod.nolimit.keeps fun b o z => (e0.bs b o z).1
    refine PySem.W.kla_callFunE hr.depth ho rfl S.co S.gen rfl (codeO_at e0.hok (d2 hs)) ?_
    rw [hb pm ctv us (by rw [← r.length]; exact hl)]
    refine wpAny_pure (wpAny_newFunctionEnv S.nocell (fun ⟨n, _⟩ hy => S.par n (List.of_mem_zip hy).1) (fun h₁ hns hsb => ⟨lim.fresh _ hsb, ?_⟩) S.kind)
    show codeAny _ _ (.expr e (envF F f s.heap.objs.size)) _ _
    have kp : ∀ b o, s.heap.get? b = some o → h₁.get? b = some o := fun b o z => hsb.extBut b o (Nat.ne_of_lt (Heap.lt_size z)) (Heap.get?_push_of_some _ z)
    obtain ⟨t, ht, hq⟩ := hbody A outer s H vs Q E (hr.deeper _) q
    have C : CellsAt F.cl [] [] s.heap H := by
      rw [hcl]
      exact ⟨rfl, fun y c z => (nomatch z), fun x y c z => (nomatch z), fun i y z => by simp at z⟩
    have I : Inv (ncx (L2.CX P w) P w K mg base N F f A outer s H E) [] (startF N vs []) H { s with heap := h₁, toks := s.toks + (ps.zip us).length } := inv_startN S hr.hd e0 hl r C hns kp
    refine PySem.W.kla_codeExpr (wpAny_mono (ht.run [] _ (startF N vs []) H Q I hq) (fun v s' hv => ?_) fun _ _ z => z)
    obtain ⟨v', H', J, rv, q'⟩ := hv
    exact ⟨v', H', J.os, J.bare, J.base, J.hok, rv, q'⟩
/-! ### calls of a name that holds a function -/
section
variable {X : Cx} {k i : Nat} {E : L2.St → XK} {x : Str} {p pos : Pos} {e : Expr} {es : List Expr} {t : TA}
theorem run_callable {pins : List (Addr × Obj)} {σ : L2.St} {H D : Hp} {s : Shared} {f : Addr} {sp : Sp} {Q : VK} {us : List Value} {vs : List V} (c : Callable X.prog X.w X.K X.mg X.base k f D sp) (hr : Room k X.A) (hx : PassesAt (L2.CX X.prog X.w) X σ (E σ)) (I : Inv X pins σ H s) (hD : Same D H) (r : Vals vs us) (h : sp vs H Q (E σ)) :
    wpAny (model X.prog X.w) X.A (call (.ref f) us) (EP X pins σ Q) X.xe s := by
  refine wpAny_call (codeAny_mono (c.run X.A X.stack s H us vs Q (E σ) hr I.env0 hD r h) fun z s' hq => ?_)
  cases z with
  | error er => exact hx pins H s er s' I hq
  | ok fl =>
    cases fl with
    | ret u => exact I.after hq
    | next => exact hq.elim
    | brk => exact hq.elim
    | cont => exact hq.elim
/-- x(..): what x holds may be called -/
def tCallF (P : Program) (w : World) (K : PySem.W.Frag) (mg : Str → Option Value) (base : Heap) (k i : Nat) (E : L2.St → XK) (t : TA) : TE := fun σ H Q => ∃ (f : Addr) (D : Hp) (sp : Sp), σ[i]? = some (some (.ref f)) ∧ Callable P w K mg base k f D sp ∧ Same D H ∧ t σ H fun vs H1 => Same D H1 ∧ sp vs H1 Q (E σ)
theorem pe_callF (hr : Room k X.A) (hN : X.N[i]? = some x) (hv : Vis X.env.scope x) (hx : ∀ σ, PassesAt (L2.CX X.prog X.w) X σ (E σ)) (ha : PA X (e :: es) t) (hdb : (x == ("__debug__" : Str)) = false := by decide) (hcd : (x == ("__classdict__" : Str)) = false := by decide)
    (he : starEach (e :: es) X.env = (false, eval e X.env) :: starEach es X.env := by rfl) (hpl : (backTo pos (starEach es X.env)).any (·.1) = false := by rfl) :
    PE X (.Call (.Name x p) (e :: es) [] pos) (tCallF X.prog X.w X.K X.mg X.base k i E t) := by
  refine ⟨fun pins s σ H Q I ⟨f, D, sp, hs, c, hD, ht⟩ => ?_⟩
  refine wpAny_Call_Name_kw (thn ((pe_var (pos := p) hN hv hdb hcd).run pins s σ H (fun v H1 => v = .ref f ∧ H1 = H) I ⟨.ref f, hs, rfl, rfl⟩) fun u s1 ⟨v, H1, I1, r1, q1⟩ => ?_)
  obtain ⟨rfl, rfl⟩ := q1
  cases r1
  refine PySem.W.callWith_F (c.at_ _ _ I1.kIn I1.hok hD) (thn (ha.run pos pins s1 σ _ _ I1 ht) fun us s2 ⟨vs, H2, I2, r, hD2, q⟩ => ⟨c.at_ _ _ I2.kIn I2.hok hD2, ?_⟩) he hpl
  exact run_callable c hr (hx σ) I2 hD2 r q
/-- x() -/
def tCallF0 (P : Program) (w : World) (K : PySem.W.Frag) (mg : Str → Option Value) (base : Heap) (k i : Nat) (E : L2.St → XK) : TE := fun σ H Q => ∃ (f : Addr) (D : Hp) (sp : Sp), σ[i]? = some (some (.ref f)) ∧ Callable P w K mg base k f D sp ∧ Same D H ∧ sp [] H Q (E σ)
theorem pe_callF0 (hr : Room k X.A) (hN : X.N[i]? = some x) (hv : Vis X.env.scope x) (hx : ∀ σ, PassesAt (L2.CX X.prog X.w) X σ (E σ)) (hdb : (x == ("__debug__" : Str)) = false := by decide) (hcd : (x == ("__classdict__" : Str)) = false := by decide) :
    PE X (.Call (.Name x p) [] [] pos) (tCallF0 X.prog X.w X.K X.mg X.base k i E) := by
  refine ⟨fun pins s σ H Q I ⟨f, D, sp, hs, c, hD, ht⟩ => ?_⟩
  refine wpAny_Call_Name_kw (thn ((pe_var (pos := p) hN hv hdb hcd).run pins s σ H (fun v H1 => v = .ref f ∧ H1 = H) I ⟨.ref f, hs, rfl, rfl⟩) fun u s1 ⟨v, H1, I1, r1, q1⟩ => ?_)
  obtain ⟨rfl, rfl⟩ := q1
  cases r1
  exact PySem.W.callWith_F0 (c.at_ _ _ I1.kIn I1.hok hD) (run_callable c hr (hx σ) I1 hD .nil ht)
end
/-! ### a def whose code object is known -/
structure FunC (K : PySem.W.Frag) (x qual : Str) (st : Stmt) (f : Addr) (fd : FuncData) (c : Addr) : Prop where
  ex : ∃ (oc : Value) (od : Option Addr) (kV doc pm : Value) (an : Option Addr) (ct : Value) (osl : Array (Option Value)), fd = PySem.W.fnOf x qual (defArgs st) (defBody st) (defScope st) .none kV doc pm an (.ref c) ct ∧ K.lookup f = some ⟨oc, od, .func fd, osl⟩ ∧ PySem.W.codeIn K (.ref c) qual = true
theorem FunC.ok {P : Program} {w : World} {K : PySem.W.Frag} {mg : Str → Option Value} {base : Heap} {x qual : Str} {st : Stmt} {f c : Addr} {fd : FuncData} {N ps : List Str} {k : Nat} {sp : Sp} (F : FunC K x qual st f fd c) (S : FnScope N ps (defScope st)) (len : ∀ vs H Q E, sp vs H Q E → vs.length = ps.length)
    (hb : ∀ (A : Around) (outer : List Env) (s : Shared) (H : Hp) (vs : List V) (Q : VK) (E : XK), Room k (A.deeper (envOfC qual (defScope st) s.heap.objs.size f (.ref c))) → sp vs H Q E →
      ∃ t, PSs (cxOf CX0 P w K mg base N qual (defScope st) f (.ref c) A outer s H E).nox (defBody st) t ∧ t { nx := fun _ H' => Q .non H', rt := Q } (start N vs) H) : FnOk P w K mg base CX0 (k + 1) f fd ps sp := by
  obtain ⟨oc, od, kV, doc, pm, an, ct, osl, rfl, lk, hcd⟩ := F.ex
  exact fn_of lk hcd S len fun A outer s H vs Q E hr hsp => let ⟨t, h, q⟩ := hb A outer s H vs Q E hr hsp; ⟨t, h.nox, q⟩
def rLenK (K : PySem.W.Frag) : List V → Hp → VK → Prop := fun xs H Q => ∃ p ys, xs = [.ref p] ∧ (SqL K H p ys ∨ SqT K H p ys) ∧ Q (.int ys.length) H
theorem call_lenK {X : Cx} : CallR X (.builtin "len") (rLenK X.K) := call_len_seq
theorem extN_lst {H H' : Hp} (e : ExtN H H') {a : Addr} {xs : List V} (h : H a = some (.lst xs)) : H' a = some (.lst xs) := e _ _ h (by intro _ z; cases z)
theorem extN_tup {H H' : Hp} (e : ExtN H H') {a : Addr} {xs : List V} (h : H a = some (.tup xs)) : H' a = some (.tup xs) := e _ _ h (by intro _ z; cases z)
theorem extN_seq {K : PySem.W.Frag} {H H' : Hp} (e : ExtN H H') {a : Addr} {xs : List V} (h : SqL K H a xs) : SqL K H' a xs := by
  rcases h with (h | ⟨o, h⟩) | h
  · exact .inl (.inl (extN_lst e h))
  · exact .inl (.inr ⟨o, e _ _ h (by intro _ z; cases z)⟩)
  · exact .inr h
theorem extN_same {H H' : Hp} (s : Same H H') : ExtN H H' := ExtN.of s
/-- the law, with the tables of its lambdas -/
def spLawT (K : PySem.W.Frag) (T : List (Addr × Str)) : Sp := fun vs H Q _ => ∃ (a : Addr) (ns : List Int), vs = [.ref a] ∧ SqL K H a (ns.map V.int) ∧ ns.length ≤ 63 ∧ (∀ z ∈ ns, z.natAbs < 2 ^ 1048576) ∧ Tabs T H ∧ ∀ H', Q (.bl true) H'
/-! ### what is caught -/
/-- isinstance(error, c), whatever was caught -/
def rIsA (K : PySem.W.Frag) (cls : Value) (d : Option Addr) (a : Addr) : List V → Hp → VK → Prop := fun xs H Q => ∃ (D : Addr) (c : V) (cv : Value) (b : Bool), cls = .ref D ∧ d = none ∧ ExcC K D ∧ xs = [.ref a, c] ∧ ClsV c cv ∧ PySem.W.kitOne K (.ref D) cv = some b ∧ Q (.bl b) H
/-- what is asked: refused by one class alone -/
def spRefused (P : Program) (w : World) (K : PySem.W.Frag) (mg : Str → Option Value) (base : Heap) (k : Nat) (Cs : List Addr) : Sp := fun vs H Q _ => ∃ (f C : Addr) (D : Hp) (sp : Sp) (due : Nat), vs = [.ref f, .int (due : Int)] ∧ Callable P w K mg base k f D sp ∧ Same D H ∧ Cs[due]? = some C ∧
  (∀ H2, Same H H2 → ∀ Q' E', (∀ H', Same H2 H' → E' (.ref C) none H') → sp [] H2 Q' E') ∧ ∀ H', Same H H' → Q (.bl true) H'
theorem call_isA {X : Cx} {a : Addr} {cls : Value} {d : Option Addr} {oe : Obj} {pn : List (Addr × Obj)} (hz : Zc cls d oe) (hf : ∃ vs, oe.data = .fields vs) : CallR (X.suite a ((a, oe) :: pn)) (.builtin "isinstance") (rIsA X.K cls d a) := by
  intro pins s σ H xs us Q I r ⟨D, c, cv, b, e1, e2, C, ex, hc, hk, q⟩
  subst e1 e2
  exact call_isE C hz hf pins s σ H xs us Q I r ⟨c, cv, b, ex, fun u ru => hc.eq ru, hk, q⟩
end RE
/-! a captured cell that is known -/
namespace RE
open PySem PySem.Spec PyProof.Rows L2 LamX NdefX
/-- the object at c is o, a cell -/
def CellO (c : Addr) (o : Obj) : HO := .ext fun h => h.get? c = some o
theorem objOk_swap {P : Program} {w : World} {H H' : Hp} {h : Heap} (ht : ∀ b xs, H b = some (.tup xs) → H' b = some (.tup xs)) (hw : ∀ b x, H b = some (.own x) → H' b = some (.own x)) {a : Addr} : ∀ {o : HO}, ObjOk P w H h a o → ObjOk P w H' h a o := by
  intro o
  induction o with
  | dT kvs =>
    rintro ⟨h1, h2, xs, hp, r⟩
    exact ⟨h1, h2, xs, Paired.mapP hp fun _ _ ⟨e1, e2, e3⟩ => ⟨e1, ht _ _ e2, e3⟩, r⟩
  | ins C dx fs =>
    rintro ⟨h1, r⟩
    exact ⟨hw _ _ h1, r⟩
  | frz ob u ih =>
    rintro ⟨h1, h2⟩
    exact ⟨h1, ih h2⟩
  | _ => exact id
def lessH (H : Hp) (c : Addr) : Hp := fun b => if b = c then none else H b
theorem lessH_ne {H : Hp} {c b : Addr} (n : b ≠ c) : lessH H c b = H b := if_neg n
theorem lessH_eq {H : Hp} {c : Addr} : lessH H c c = none := if_pos rfl
theorem hok_less {P : Program} {w : World} {H : Hp} {h : Heap} {c : Addr} {o : Obj} (hok : HOk P w H h) (hc : H c = some (CellO c o)) : HOk P w (lessH H c) h := by
  intro b u e
  have n : b ≠ c := fun z => by subst z; rw [lessH_eq] at e; cases e
  rw [lessH_ne n] at e
  refine objOk_swap (fun b xs q => ?_) (fun b x q => ?_) (hok b u e)
  · rw [lessH_ne (fun z => by subst z; rw [hc] at q; cases q)]
    exact q
  · rw [lessH_ne (fun z => by subst z; rw [hc] at q; cases q)]
    exact q
theorem hok_put {P : Program} {w : World} {H : Hp} {h : Heap} {c : Addr} {o : Obj} (hok : HOk P w H h) (hc : H c = none) (ho : h.get? c = some o) : HOk P w (upd H c (CellO c o)) h := by
  intro b u e
  by_cases n : b = c
  · subst n
    rw [upd_same] at e
    cases e
    exact ⟨ho, ⟨_, ho⟩, fun _ _ z st => st _ z⟩
  · rw [upd_ne n] at e
    refine objOk_swap (fun b xs q => ?_) (fun b x q => ?_) (hok b u e)
    · rw [upd_ne (ne_of_none q hc)]
      exact q
    · rw [upd_ne (ne_of_none q hc)]
      exact q
theorem un_put {fs : List Addr} {H H' : Hp} {h h' : Heap} {c : Addr} {o : Obj} (u : Un fs [] (lessH H c) H' h h') (hc : H c = some (CellO c o)) (ho : h.get? c = some o) (nf : c ∉ fs) : h'.get? c = some o ∧ H' c = none ∧ Un fs [] H (upd H' c (CellO c o)) h h' := by
  have no : c ∉ ([] : List Addr) := by simp
  have k1 := u.keep c o ho lessH_eq nf no
  have k2 := u.free c o ho lessH_eq no
  have ne : ∀ {b : Addr}, H b = none → b ≠ c := fun {b} q z => by subst z; rw [hc] at q; cases q
  have le : ∀ {b : Addr}, H b = none → lessH H c b = none := fun {b} q => by rw [lessH_ne (ne q)]; exact q
  refine ⟨k1, k2, fun b ob q n => u.keep b ob q (le n), fun b ob q n => u.slot b ob q (le n), fun b ob q n z => ?_, u.there, fun b xs q => ?_, fun b ob v q => ?_, fun b ps q => ?_⟩
  · rw [upd_ne (ne n)]
    exact u.free b ob q (le n) z
  · have n : b ≠ c := fun z => by subst z; rw [hc] at q; cases q
    rw [upd_ne n]
    exact u.tups b xs (by rw [lessH_ne n]; exact q)
  · have n : b ≠ c := fun z => by subst z; rw [hc] at q; cases q
    rw [upd_ne n]
    exact u.frzs b ob v (by rw [lessH_ne n]; exact q)
  · have n : b ≠ c := fun z => by subst z; rw [hc] at q; cases q
    rw [upd_ne n]
    exact u.tbls b ps (by rw [lessH_ne n]; exact q)
theorem un_less {fs : List Addr} {H H' : Hp} {h h' : Heap} {c : Addr} {o : Obj} (u : Un fs [] (upd H c (CellO c o)) H' h h') (hc : H c = none) (ho : h.get? c = some o) (ho' : h'.get? c = some o) (nf : c ∉ fs) : Un fs [] H (lessH H' c) h h' := by
  refine ⟨fun b ob q n f z => ?_, fun b ob q n f z => ?_, fun b ob q n z => ?_, u.there, fun b xs q => ?_, fun b ob v q => ?_, fun b ps q => ?_⟩
  · by_cases e : b = c
    · subst e
      rw [ho] at q
      rw [ho', q]
    · exact u.keep b ob q (by rw [upd_ne e]; exact n) f z
  · have e : b ≠ c := fun e => nf (e ▸ f)
    exact u.slot b ob q (by rw [upd_ne e]; exact n) f z
  · by_cases e : b = c
    · subst e
      exact lessH_eq
    · rw [lessH_ne e]
      exact u.free b ob q (by rw [upd_ne e]; exact n) z
  · have n := ne_of_none q hc
    rw [lessH_ne n]
    exact u.tups b xs (by rw [upd_ne n]; exact q)
  · have n := ne_of_none q hc
    rw [lessH_ne n]
    exact u.frzs b ob v (by rw [upd_ne n]; exact q)
  · have n := ne_of_none q hc
    rw [lessH_ne n]
    exact u.tbls b ps (by rw [upd_ne n]; exact q)
theorem ub_put {fs : List Addr} {H H' : Hp} {h B h' : Heap} {c : Addr} {o : Obj} (u : UB fs (lessH H c) H' h B h') (hc : H c = some (CellO c o)) (ho : h.get? c = some o) (nf : c ∉ fs) : B.get? c = some o ∧ H' c = none ∧ UB fs H (upd H' c (CellO c o)) h B h' := by
  have k1 := u.keep c o ho lessH_eq nf
  have k2 := u.free c o ho lessH_eq
  have ne : ∀ {b : Addr}, H b = none → b ≠ c := fun {b} q z => by subst z; rw [hc] at q; cases q
  have le : ∀ {b : Addr}, H b = none → lessH H c b = none := fun {b} q => by rw [lessH_ne (ne q)]; exact q
  refine ⟨k1, k2, fun b ob q n => u.keep b ob q (le n), u.slot, fun b ob q n => ?_, u.there, fun b xs q => ?_, fun b ob v q => ?_, fun b ps q => ?_⟩
  · rw [upd_ne (ne n)]
    exact u.free b ob q (le n)
  · have n : b ≠ c := fun z => by subst z; rw [hc] at q; cases q
    rw [upd_ne n]
    exact u.tups b xs (by rw [lessH_ne n]; exact q)
  · have n : b ≠ c := fun z => by subst z; rw [hc] at q; cases q
    rw [upd_ne n]
    exact u.frzs b ob v (by rw [lessH_ne n]; exact q)
  · have n : b ≠ c := fun z => by subst z; rw [hc] at q; cases q
    rw [upd_ne n]
    exact u.tbls b ps (by rw [lessH_ne n]; exact q)
theorem look1 {y z : Str} {c d : Addr} (q : List.lookup z [(y, c)] = some d) : z = y ∧ d = c := by
  rw [List.lookup_cons] at q
  cases h : z == y with
  | true =>
    rw [h] at q
    exact ⟨by simpa using h, (Option.some.inj q).symm⟩
  | false =>
    rw [h] at q
    cases q
theorem at1 {y z : Str} {i : Nat} (q : [y][i]? = some z) : z = y ∧ i = 0 := by
  cases i with
  | zero => exact ⟨(Option.some.inj q).symm, rfl⟩
  | succ i => simp at q
/-- the objects that a lambda with one captured name needs -/
def capD (f : Addr) (F : NF) (e : Expr) (c : Addr) (o : Obj) : Hp := upd (lamD f F e) c (CellO c o)
theorem capD_sub {f c : Addr} {F : NF} {e : Expr} {o : Obj} {H : Hp} (h1 : H f = some (LamO f F e)) (h2 : H F.c = some (CodeO F.c F.qual)) (h3 : H c = some (CellO c o)) : Same (capD f F e c o) H := by
  intro b u q
  unfold capD at q
  by_cases hb : b = c
  · subst hb
    rw [upd_same] at q
    rw [h3]
    exact q
  · rw [upd_ne hb] at q
    exact lamD_sub h1 h2 b u q
theorem env0_less {P : Program} {w : World} {K : PySem.W.Frag} {mg : Str → Option Value} {base : Heap} {A : Around} {outer : List Env} {s : Shared} {H : Hp} {c : Addr} {o : Obj} (e0 : Env0 P w K mg base A outer s H) (hc : H c = some (CellO c o)) : Env0 P w K mg base A outer s (lessH H c) := by
  have le : ∀ {b : Addr}, H b = none → lessH H c b = none := fun {b} q => by
    rw [lessH_ne (fun z => by subst z; rw [hc] at q; cases q)]
    exact q
  exact ⟨e0.frames, e0.mod, fun b u q => ⟨(e0.bs b u q).1, le (e0.bs b u q).2⟩, e0.bsz, e0.funs, fun b q => le (e0.frf b q), hok_less e0.hok hc, e0.bare⟩
/-- a lambda with one captured name, by its body -/
theorem callable_cap {P : Program} {w : World} {K : PySem.W.Frag} {mg : Str → Option Value} {base : Heap} {k : Nat} {f c : Addr} {F : NF} {e : Expr} {N ps : List Str} {sp : Sp} {y : Str} {o : Obj} {v : V} {u : Value} (S : NScope N ps [y] F.scope) (hcl : F.cl = [(y, c)]) (hfc : f ≠ F.c) (hcf : f ≠ c) (hcc : F.c ≠ c)
    (hod : o.data = .cell (some u)) (rv : RelV v u)
    (hb : ∀ (pm ctv : Value) (us : List Value), us.length = ps.length → bindArgs (PySem.W.kla_fn "<lambda>" F.qual F.params e F.scope F.cl pm (.ref F.c) ctv) ⟨us, []⟩ = pure (ps.zip us)) (len : ∀ vs H Q E, sp vs H Q E → vs.length = ps.length)
    (hbody : ∀ (A : Around) (outer : List Env) (s : Shared) (H : Hp) (vs : List V) (Q : VK) (E : XK), Room k (A.deeper (envF F f s.heap.objs.size)) → sp vs H Q E →
      ∃ t, PE (ncx (L2.CX P w) P w K mg base N F f A outer s (lessH H c) (fun cls d H' => E cls d (upd H' c (CellO c o)))) e t ∧ t (startF N vs [some v]) (lessH H c) (fun x H' => Q x (upd H' c (CellO c o)))) : Callable P w K mg base (k + 1) f (capD f F e c o) sp := by
  have d1 : ∀ {H : Hp}, Same (capD f F e c o) H → H f = some (LamO f F e) := fun {H} q => q _ _ (by unfold capD lamD; rw [upd_ne hcf, upd_ne hfc, upd_same])
  have d2 : ∀ {H : Hp}, Same (capD f F e c o) H → H F.c = some (CodeO F.c F.qual) := fun {H} q => q _ _ (by unfold capD lamD; rw [upd_ne hcc, upd_same])
  have d3 : ∀ {H : Hp}, Same (capD f F e c o) H → H c = some (CellO c o) := fun {H} q => q _ _ (by unfold capD; rw [upd_same])
  refine ⟨fun h H _ hok hs => ?_, fun A outer s H us vs Q E hr e0 hs r q => ?_⟩
  · obtain ⟨pm, ctv, z⟩ := lamO_at hok (d1 hs)
    exact ⟨_, _, _, _, z⟩
  · have hl := len _ _ _ _ q
    have hc := d3 hs
    have ho : s.heap.get? c = some o := (e0.hok c _ hc).1
    have nf : c ∉ frs outer := fun z => by rw [e0.frf c z] at hc; cases hc
    obtain ⟨pm, ctv, hof⟩ := lamO_at e0.hok (d1 hs)
    have lim : s.heap.NoLimit := e0.mod.nolimit.keeps fun b o z => (e0.bs b o z).1
    refine PySem.W.kla_callFunE hr.depth hof rfl S.co S.gen rfl (codeO_at e0.hok (d2 hs)) ?_
    rw [hb pm ctv us (by rw [← r.length]; exact hl)]
    refine wpAny_pure (wpAny_newFunctionEnv S.nocell (fun ⟨n, _⟩ hy => S.par n (List.of_mem_zip hy).1) (fun h₁ hns hsb => ⟨lim.fresh _ hsb, ?_⟩) S.kind)
    show codeAny _ _ (.expr e (envF F f s.heap.objs.size)) _ _
    have kp : ∀ b o, s.heap.get? b = some o → h₁.get? b = some o := fun b o z => hsb.extBut b o (Nat.ne_of_lt (Heap.lt_size z)) (Heap.get?_push_of_some _ z)
    obtain ⟨t, ht, hq⟩ := hbody A outer s H vs Q E (hr.deeper _) q
    have ic : s.heap.IsCell c (some u) := ⟨o, ho, hod⟩
    have C : CellsAt F.cl [y] [some v] s.heap (lessH H c) := by
      rw [hcl]
      refine ⟨rfl, fun z d q => ?_, fun x z d q1 q2 => ?_, fun i z q => ?_⟩
      · obtain ⟨_, rfl⟩ := look1 q
        exact ⟨lessH_eq, _, ic⟩
      · rw [(look1 q1).1, (look1 q2).1]
      · obtain ⟨rfl, rfl⟩ := at1 q
        exact ⟨c, by simp, fun v' q' => by cases q'; exact ⟨u, rv, ic⟩⟩
    have I : Inv (ncx (L2.CX P w) P w K mg base N F f A outer s (lessH H c) (fun cls d H' => E cls d (upd H' c (CellO c o)))) [] (startF N vs [some v]) (lessH H c) { s with heap := h₁, toks := s.toks + (ps.zip us).length } := inv_startN S hr.hd (env0_less e0 hc) hl r C hns kp
    refine PySem.W.kla_codeExpr (wpAny_mono (ht.run [] _ (startF N vs [some v]) (lessH H c) _ I hq) (fun v s' hv => ?_) fun er s' z => ?_)
    · obtain ⟨v', H', J, rv', q'⟩ := hv
      obtain ⟨k1, k2, un⟩ := un_put J.base hc ho nf
      exact ⟨v', upd H' c (CellO c o), J.os, J.bare, un, hok_put J.hok k2 k1, rv', q'⟩
    · have conv : ∀ (er : Value) (s'' : Shared), L2.CX P w outer (lessH H c) s (fun cls d H' => E cls d (upd H' c (CellO c o))) er s'' → L2.CX P w outer H s E er s'' := by
        rintro er s'' ⟨a, B, H', cls, d, rfl, fl, hok, ub, na, os, ag, hE⟩
        obtain ⟨k1, k2, ub2⟩ := ub_put ub hc ho nf
        have ne : a ≠ c := fun z => by subst z; rw [fl.2.1] at k1; cases k1
        exact ⟨a, B, upd H' c (CellO c o), cls, d, rfl, fl, hok_put hok k2 k1, ub2, by rw [upd_ne ne]; exact na, os, ag, hE⟩
      exact wpAny_mono z (fun _ s'' z => conv _ _ z) (fun _ s'' z => conv _ _ z)
/-- f(..) where one of the caller's own cells is made known to f -/
def tCallC (cells : List (Str × Addr)) (y : Str) (i : Nat) (sp : Sp) (t : TA) : TE := fun σ H Q => t σ H fun vs H1 => ∃ v, σ[i]? = some (some v) ∧ ∀ (c : Addr) (o : Obj) (u : Value), cells.lookup y = some c → H1 c = none → o.data = .cell (some u) → RelV v u →
  sp vs (upd H1 c (CellO c o)) (fun x H' => H' c = some (CellO c o) ∧ Q x (lessH H' c)) E0
theorem pe_callC {X : Cx} {k i : Nat} {f : Addr} {fd : FuncData} {ps : List Str} {sp : Sp} {x y : Str} {p pos : Pos} {e : Expr} {es : List Expr} {t : TA} (F : FnOk X.prog X.w X.K X.mg X.base CX0 k f fd ps sp) (hr : Room k X.A) (hg : Gl X x) (hm : X.mg x = some (.ref f)) (hk : PySem.W.keepIn X.K (.ref f) = true) (hb : Binds X.K fd ps [])
    (hi : X.N[i]? = some y) (hy : X.env.scope.names.lookup y = some .cell) (hfn : X.fn y = true) (ha : PA X (e :: es) t) (hdb : (x == ("__debug__" : Str)) = false := by decide) (he : starEach (e :: es) X.env = (false, eval e X.env) :: starEach es X.env := by rfl) (hpl : (backTo pos (starEach es X.env)).any (·.1) = false := by rfl) :
    PE X (.Call (.Name x p) (e :: es) [] pos) (tCallC X.env.cells y i sp t) := by
  refine ⟨fun pins s σ H Q I h => ?_⟩
  refine wpAny_Call_Name_kw (ld_glob I hg hm ?_ hdb)
  refine PySem.W.callWith_K (h₀ := X.base) I.ok.mod.kin hk (thn (ha.run pos pins s σ H _ I h) fun us s1 ⟨vs, H1, I1, r, v, hv, z⟩ => ⟨I1.kIn, ?_⟩) he hpl
  obtain ⟨m, hn, hl⟩ := I1.loc
  obtain ⟨u, ru, lk⟩ := hl i y v hi hv (.inr (.inl hy))
  rcases lk with ⟨kl, _⟩ | ⟨_, c, hcc, o, ho, hod⟩
  · have kl : X.env.scope.names.lookup y = some .local := kl
    rw [hy] at kl
    cases kl
  have nc : H1 c = none := I1.freeC y c hcc
  have h := z c o u hcc nc hod ru
  have cge : X.s_0.heap.objs.size ≤ c := I1.ok.cab y c hfn hcc
  have nloc : c ≠ X.env.locals := fun q => by
    obtain ⟨es', ep, o', e', hd', _⟩ := hn
    subst q
    rw [ho] at e'
    cases e'
    rw [hod] at hd'
    cases hd'
  have nfs : c ∉ frs X.stack := fun hmm => by
    rcases List.mem_cons.mp (I1.stkSub c hmm) with q | q
    · exact nloc q
    · obtain ⟨_, o', e', _⟩ := I1.ok.funs.mem q
      exact absurd (Heap.lt_size e') (Nat.not_lt.mpr cge)
  have E := I1.env0
  have le : ∀ {b : Addr}, H1 b = none → b ≠ c → upd H1 c (CellO c o) b = none := fun {b} q n => by
    rw [upd_ne n]
    exact q
  have e0 : Env0 X.prog X.w X.K X.mg X.base X.A X.stack s1 (upd H1 c (CellO c o)) := ⟨E.frames, E.mod, fun b ob q => ⟨(E.bs b ob q).1, le (E.bs b ob q).2 (fun w => by
    have h1 := Heap.lt_size q
    have h2 := I1.ok.bsz
    rw [w] at h1
    exact absurd (Nat.lt_of_lt_of_le h1 (Nat.le_trans h2 cge)) (Nat.lt_irrefl _))⟩, E.bsz, E.funs, fun b q => le (E.frf b q) (fun w => nfs (w ▸ q)), hok_put E.hok nc ho, E.bare⟩
  have hl2 : us.length = ps.length := r.length.symm.trans (F.len _ _ _ _ h)
  have bb := hb s1 us I1.kIn (by rw [List.append_nil]; exact hl2)
  rw [List.append_nil] at bb
  refine wpAny_call (codeAny_mono (F.run X.A X.stack s1 _ ⟨us, []⟩ us vs _ E0 hr e0 bb r h) fun z s' hq => ?_)
  cases z with
  | error er => exact False.elim hq
  | ok fl =>
    cases fl with
    | ret u' =>
      obtain ⟨v', H', os, bare, un, hok, rv, hHc, q⟩ := hq
      exact I1.after ⟨v', lessH H' c, os, bare, un_less un nc ho (hok c _ hHc).1 nfs, hok_less hok hHc, rv, q⟩
    | next => exact hq.elim
    | brk => exact hq.elim
    | cont => exact hq.elim
end RE
/-! plans: plain -/
namespace RE
open PySem PySem.Spec PyProof.Rows L2
/-- a line of a plan: where the stretch begins, where it ends, which end -/
abbrev Tri := Int × Int × Str
def triV (t : Tri) : List V := [.int t.1, .int t.2.1, .str t.2.2]
def sideOk (s : Str) : Bool := decide (s = "left") || decide (s = "right")
def triOk (n : Nat) (t : Tri) : Bool := decide (0 ≤ t.1) && (decide (t.1 < t.2.1) && (decide (t.2.1 ≤ (n : Int)) && sideOk t.2.2))
/-- not behind, by both numbers -/
def notAfter (a b : Int × Int) : Bool := if a.1 = b.1 then decide (a.2 ≤ b.2) else decide (a.1 ≤ b.1)
def lastBad (t : Tri) : Option (Int × Int) → Bool
  | none => false
  | some l => notAfter (t.1, t.2.1) l
def tabOk (n : Nat) : Option (Int × Int) → List Tri → Bool
  | _, [] => true
  | last, t :: r => triOk n t && (!lastBad t last && tabOk n (some (t.1, t.2.1)) r)
theorem tabOk_nil (n : Nat) (l : Option (Int × Int)) : tabOk n l [] = true := rfl
theorem tabOk_cons (n : Nat) (l : Option (Int × Int)) (t : Tri) (r : List Tri) : tabOk n l (t :: r) = (triOk n t && (!lastBad t l && tabOk n (some (t.1, t.2.1)) r)) := rfl
/-- the end that a plan tells for a stretch -/
def look (p : List Tri) (a b : Int) : Option Str := (p.reverse.find? fun t => decide (t.1 = a) && decide (t.2.1 = b)).map (·.2.2)
theorem look_nil (a b : Int) : look [] a b = none := rfl
theorem look_app (p : List Tri) (t : Tri) (a b : Int) : look (p ++ [t]) a b = if t.1 = a ∧ t.2.1 = b then some t.2.2 else look p a b := by
  unfold look
  rw [List.reverse_append, List.reverse_singleton, List.singleton_append, List.find?_cons]
  by_cases h : t.1 = a ∧ t.2.1 = b
  · rw [if_pos h, decide_eq_true h.1, decide_eq_true h.2]
    rfl
  · rw [if_neg h]
    have e : (decide (t.1 = a) && decide (t.2.1 = b)) = false := by
      by_cases c1 : t.1 = a
      · rw [decide_eq_false (fun c2 => h ⟨c1, c2⟩), Bool.and_false]
      · rw [decide_eq_false c1, Bool.false_and]
    rw [e]
theorem look_mem {p : List Tri} {a b : Int} {s : Str} (h : look p a b = some s) : (a, b, s) ∈ p := by
  unfold look at h
  obtain ⟨t, ht, rfl⟩ := Option.map_eq_some_iff.mp h
  have h1 := List.find?_some ht
  have h2 := List.mem_reverse.mp (List.mem_of_find?_eq_some ht)
  have h3 := Bool.and_eq_true_iff.mp h1
  have e1 : t.1 = a := of_decide_eq_true h3.1
  have e2 : t.2.1 = b := of_decide_eq_true h3.2
  subst e1 e2
  exact h2
theorem look_of {p : List Tri} {a b : Int} {s : Str} (h : (a, b, s) ∈ p) (u : ∀ s', (a, b, s') ∈ p → s' = s) : look p a b = some s := by
  cases e : look p a b with
  | some s' => rw [u s' (look_mem e)]
  | none =>
    unfold look at e
    have e' := Option.map_eq_none_iff.mp e
    have q := List.find?_eq_none.mp e' (a, b, s) (List.mem_reverse.mpr h)
    simp at q
def sideB (s : Str) : Bool := decide (s = "left")
theorem side_of {s : Str} (h : sideOk s = true) : s = sideS (sideB s) := by
  unfold sideOk at h
  unfold sideB
  by_cases c : s = "left"
  · rw [decide_eq_true c]
    exact c
  · rw [decide_eq_false c] at h ⊢
    exact of_decide_eq_true h
theorem sideB_sideS (b : Bool) : sideB (sideS b) = b := by cases b <;> decide +kernel
theorem sideOk_sideS (b : Bool) : sideOk (sideS b) = true := by cases b <;> decide +kernel
theorem tabOk_all {n : Nat} : ∀ {p : List Tri} {l : Option (Int × Int)}, tabOk n l p = true → ∀ t ∈ p, triOk n t = true
  | [], _, _, t, h => (nomatch h)
  | u :: r, l, h, t, ht => by
    rw [tabOk_cons] at h
    have h1 := Bool.and_eq_true_iff.mp h
    rcases List.mem_cons.mp ht with rfl | ht
    · exact h1.1
    · exact tabOk_all (Bool.and_eq_true_iff.mp h1.2).2 t ht
theorem triOk_side {n : Nat} {t : Tri} (h : triOk n t = true) : sideOk t.2.2 = true := (Bool.and_eq_true_iff.mp (Bool.and_eq_true_iff.mp (Bool.and_eq_true_iff.mp h).2).2).2
/-- the table as ends -/
def tabF (p : List Tri) (low behind : Nat) : Option Bool := (look p (low : Int) (behind : Int)).map sideB
/-- how much more the planner gets from a stretch at the least -/
def gotV (ns : List Int) (f : Nat → Nat → Option Bool) : Nat → Nat → Bool → Option Int
  | 0, _, _ => some 0
  | m + 1, low, true => (f low (low + (m + 1))).bind fun b => (gotV ns f m (lowOf b low) false).bind fun r => some (r + coinOf ns b low m)
  | m + 1, low, false => (gotV ns f m (low + 1) true).bind fun r1 => (gotV ns f m low true).bind fun r2 =>
      some (if r2 + -coinOf ns false low m < r1 + -coinOf ns true low m then r2 + -coinOf ns false low m else r1 + -coinOf ns true low m)
theorem gotV_zero (ns : List Int) (f : Nat → Nat → Option Bool) (low : Nat) (b : Bool) : gotV ns f 0 low b = some 0 := rfl
theorem gotV_mine (ns : List Int) (f : Nat → Nat → Option Bool) (m low : Nat) : gotV ns f (m + 1) low true = (f low (low + (m + 1))).bind fun b => (gotV ns f m (lowOf b low) false).bind fun r => some (r + coinOf ns b low m) := rfl
theorem gotV_his (ns : List Int) (f : Nat → Nat → Option Bool) (m low : Nat) : gotV ns f (m + 1) low false = (gotV ns f m (low + 1) true).bind fun r1 => (gotV ns f m low true).bind fun r2 =>
      some (if r2 + -coinOf ns false low m < r1 + -coinOf ns true low m then r2 + -coinOf ns false low m else r1 + -coinOf ns true low m) := rfl
def optV : Option Int → V
  | none => .non
  | some i => .int i
def plannedV (ns : List Int) (p : List Tri) (mine : Bool) : Option Int := if tabOk ns.length none p = true then gotV ns (tabF p) ns.length 0 mine else none
def showsV (ns : List Int) (p : List Tri) (first : Bool) (least : Int) : Bool :=
  match plannedV ns p first with
  | none => false
  | some v => if first then decide (least ≤ v) else decide (-v < least)
/-! ### plans that are told -/
def bestEnd (ns : List Int) (low m : Nat) : Bool := (ends ns (m + 1) low).headD true
theorem bestEnd_mem (ns : List Int) (low m : Nat) : bestEnd ns low m ∈ ends ns (m + 1) low := by
  unfold bestEnd
  cases e : ends ns (m + 1) low with
  | nil => exact absurd e (ends_ne ns m low)
  | cons b l => exact List.mem_cons_self
theorem bestEnd_at (ns : List Int) (low m : Nat) : (sidesV (ends ns (m + 1) low))[0]? = some (.str (sideS (bestEnd ns low m))) := by
  unfold bestEnd
  cases e : ends ns (m + 1) low with
  | nil => exact absurd e (ends_ne ns m low)
  | cons b l => rfl
def parOf (first : Bool) : Nat := if first then 0 else 1
/-- whether a line stands for the stretch of k + 1 coins from low on -/
def lineB (n : Nat) (first : Bool) (k : Nat) : Bool := decide ((n - (k + 1)) % 2 = parOf first)
def lineV (ns : List Int) (low k : Nat) : Tri := ((low : Int), ((low + (k + 1) : Nat) : Int), sideS (bestEnd ns low k))
def chunk (ns : List Int) (first : Bool) (low : Nat) (j : Nat) : List Tri := ((List.range j).filter (lineB ns.length first)).map (lineV ns low)
def planTo (ns : List Int) (first : Bool) (i : Nat) : List Tri := (List.range i).flatMap fun low => chunk ns first low (ns.length - low)
def planV (ns : List Int) (first : Bool) : List Tri := planTo ns first ns.length
theorem planTo_succ (ns : List Int) (first : Bool) (i : Nat) : planTo ns first (i + 1) = planTo ns first i ++ chunk ns first i (ns.length - i) := by
  unfold planTo
  rw [List.range_succ, List.flatMap_append]
  simp
theorem chunk_succ (ns : List Int) (first : Bool) (low j : Nat) : chunk ns first low (j + 1) = chunk ns first low j ++ (if lineB ns.length first j = true then [lineV ns low j] else []) := by
  unfold chunk
  rw [List.range_succ, List.filter_append, List.map_append]
  congr 1
  by_cases c : lineB ns.length first j = true
  · rw [if_pos c]
    simp [c]
  · rw [if_neg c]
    simp [c]
theorem chunk_zero (ns : List Int) (first : Bool) (low : Nat) : chunk ns first low 0 = [] := rfl
theorem mem_planV {ns : List Int} {first : Bool} {t : Tri} : t ∈ planV ns first ↔ ∃ low k, low + (k + 1) ≤ ns.length ∧ lineB ns.length first k = true ∧ t = lineV ns low k := by
  unfold planV planTo chunk
  constructor
  · intro h
    obtain ⟨low, h1, h⟩ := List.mem_flatMap.mp h
    obtain ⟨k, h2, rfl⟩ := List.mem_map.mp h
    have h3 := List.mem_filter.mp h2
    have h4 := List.mem_range.mp h3.1
    have h5 := List.mem_range.mp h1
    exact ⟨low, k, by omega, h3.2, rfl⟩
  · rintro ⟨low, k, h, hb, rfl⟩
    exact List.mem_flatMap.mpr ⟨low, List.mem_range.mpr (by omega), List.mem_map.mpr ⟨k, List.mem_filter.mpr ⟨List.mem_range.mpr (by omega), hb⟩, rfl⟩⟩
theorem chunk_le (ns : List Int) (first : Bool) (low j : Nat) : (chunk ns first low j).length ≤ j := by
  unfold chunk
  rw [List.length_map]
  have := List.length_filter_le (lineB ns.length first) (List.range j)
  rw [List.length_range] at this
  exact this
theorem planTo_le (ns : List Int) (first : Bool) : ∀ i, (planTo ns first i).length ≤ i * ns.length
  | 0 => Nat.zero_le _
  | i + 1 => by
    rw [planTo_succ, List.length_append, Nat.succ_mul]
    have h1 := planTo_le ns first i
    have h2 := chunk_le ns first i (ns.length - i)
    omega
/-- strictly ahead -/
def ahead (s t : Tri) : Prop := s.1 < t.1 ∨ (s.1 = t.1 ∧ s.2.1 < t.2.1)
theorem ahead_ok {s t : Tri} (h : ahead s t) : lastBad t (some (s.1, s.2.1)) = false := by
  unfold lastBad notAfter
  show (if t.1 = s.1 then decide (t.2.1 ≤ s.2.1) else decide (t.1 ≤ s.1)) = false
  rcases h with h | ⟨h1, h2⟩
  · rw [if_neg (by omega)]
    exact decide_eq_false (by omega)
  · rw [if_pos h1.symm]
    exact decide_eq_false (by omega)
theorem tabOk_of {n : Nat} : ∀ {p : List Tri} {l : Option (Int × Int)}, (∀ t ∈ p, triOk n t = true) → p.Pairwise ahead → (∀ t ∈ p, lastBad t l = false) → tabOk n l p = true
  | [], _, _, _, _ => rfl
  | t :: r, l, h1, h2, h3 => by
    have h2' := List.pairwise_cons.mp h2
    rw [tabOk_cons, h1 t List.mem_cons_self, h3 t List.mem_cons_self, tabOk_of (fun u hu => h1 u (List.mem_cons_of_mem _ hu)) h2'.2 (fun u hu => ahead_ok (h2'.1 u hu))]
    rfl
theorem planV_ahead (ns : List Int) (first : Bool) : (planV ns first).Pairwise ahead := by
  unfold planV planTo
  rw [List.pairwise_flatMap]
  refine ⟨fun low _ => ?_, ?_⟩
  · unfold chunk
    rw [List.pairwise_map]
    refine (List.Pairwise.filter _ List.pairwise_lt_range).imp ?_
    intro a b h
    exact .inr ⟨rfl, by show ((low + (a + 1) : Nat) : Int) < ((low + (b + 1) : Nat) : Int); omega⟩
  · refine List.pairwise_lt_range.imp ?_
    intro a b h x hx y hy
    unfold chunk at hx hy
    obtain ⟨k, _, rfl⟩ := List.mem_map.mp hx
    obtain ⟨k', _, rfl⟩ := List.mem_map.mp hy
    exact .inl (by show (a : Int) < (b : Int); omega)
theorem planV_ok (ns : List Int) (first : Bool) : tabOk ns.length none (planV ns first) = true := by
  refine tabOk_of (fun t ht => ?_) (planV_ahead ns first) (fun _ _ => rfl)
  obtain ⟨low, k, h, _, rfl⟩ := mem_planV.mp ht
  unfold triOk lineV
  show (decide ((0 : Int) ≤ (low : Int)) && (decide ((low : Int) < ((low + (k + 1) : Nat) : Int)) && (decide (((low + (k + 1) : Nat) : Int) ≤ (ns.length : Int)) && sideOk (sideS (bestEnd ns low k))))) = true
  rw [decide_eq_true (by omega), decide_eq_true (by omega), decide_eq_true (by omega), sideOk_sideS]
  rfl
theorem planV_look {ns : List Int} {first : Bool} {low k : Nat} (h : low + (k + 1) ≤ ns.length) (hb : lineB ns.length first k = true) : tabF (planV ns first) low (low + (k + 1)) = some (bestEnd ns low k) := by
  unfold tabF
  have e : look (planV ns first) (low : Int) ((low + (k + 1) : Nat) : Int) = some (sideS (bestEnd ns low k)) := by
    refine look_of (mem_planV.mpr ⟨low, k, h, hb, rfl⟩) fun s' hs => ?_
    obtain ⟨low', k', _, _, e⟩ := mem_planV.mp hs
    have e1 : (low : Int) = (low' : Int) := congrArg (fun t : Tri => t.1) e
    have e2 : ((low + (k + 1) : Nat) : Int) = ((low' + (k' + 1) : Nat) : Int) := congrArg (fun t : Tri => t.2.1) e
    have e3 : s' = sideS (bestEnd ns low' k') := congrArg (fun t : Tri => t.2.2) e
    have e4 : low' = low := by omega
    have e5 : k' = k := by omega
    rw [e3, e4, e5]
  rw [e]
  exact congrArg some (sideB_sideS _)
theorem gotV_plan (ns : List Int) (first : Bool) : ∀ m low, low + m ≤ ns.length →
    ((ns.length - m) % 2 = parOf first → gotV ns (tabF (planV ns first)) m low true = some (wv ns m low)) ∧
    (¬ (ns.length - m) % 2 = parOf first → gotV ns (tabF (planV ns first)) m low false = some (-wv ns m low))
  | 0, low, _ => by
    rw [wv_zero, gotV_zero, gotV_zero]
    exact ⟨fun _ => rfl, fun _ => rfl⟩
  | m + 1, low, h => by
    have hp : parOf first < 2 := by cases first <;> decide
    constructor
    · intro hpar
      rw [gotV_mine, planV_look h (decide_eq_true hpar)]
      have hb := ends_best (bestEnd_mem ns low m)
      have hl := lowOf_le (bestEnd ns low m) low m
      have ih := (gotV_plan ns first m (lowOf (bestEnd ns low m) low) (by omega)).2 (by omega)
      show ((gotV ns (tabF (planV ns first)) m (lowOf (bestEnd ns low m) low) false).bind fun r => some (r + coinOf ns (bestEnd ns low m) low m)) = _
      rw [ih]
      show some (-wv ns m (lowOf (bestEnd ns low m) low) + coinOf ns (bestEnd ns low m) low m) = _
      congr 1
      omega
    · intro hpar
      have ih1 := (gotV_plan ns first m (low + 1) (by omega)).1 (by omega)
      have ih2 := (gotV_plan ns first m low (by omega)).1 (by omega)
      rw [gotV_his, ih1, ih2]
      show some (if wv ns m low + -coinOf ns false low m < wv ns m (low + 1) + -coinOf ns true low m then wv ns m low + -coinOf ns false low m else wv ns m (low + 1) + -coinOf ns true low m) = _
      have e1 : coinOf ns true low m = ns.getD low 0 := rfl
      have e2 : coinOf ns false low m = ns.getD (low + m) 0 := rfl
      rw [wv_succ, e1, e2]
      congr 1
      split <;> split <;> omega
theorem planned_first (ns : List Int) : plannedV ns (planV ns true) true = some (wv ns ns.length 0) := by
  unfold plannedV
  rw [if_pos (planV_ok ns true)]
  exact (gotV_plan ns true ns.length 0 (by omega)).1 (by rw [Nat.sub_self]; rfl)
theorem planned_other (ns : List Int) : plannedV ns (planV ns false) false = some (-wv ns ns.length 0) := by
  unfold plannedV
  rw [if_pos (planV_ok ns false)]
  exact (gotV_plan ns false ns.length 0 (by omega)).2 (by rw [Nat.sub_self]; show ¬ (0 % 2 = 1); decide)
/-- a plan told for a row shows what it tells -/
theorem shows_first (ns : List Int) (least : Int) : showsV ns (planV ns true) true least = decide (least ≤ wv ns ns.length 0) := by
  unfold showsV
  rw [planned_first]
  rfl
theorem shows_other (ns : List Int) (least : Int) : showsV ns (planV ns false) false least = decide (wv ns ns.length 0 < least) := by
  unfold showsV
  rw [planned_other]
  show decide (- -wv ns ns.length 0 < least) = _
  rw [Int.neg_neg]
theorem shows_bad {ns : List Int} {p : List Tri} (h : tabOk ns.length none p = false) (first : Bool) (least : Int) : showsV ns p first least = false := by
  unfold showsV plannedV
  rw [h]
  rfl
theorem tabOk_bad {n : Nat} : ∀ {p : List Tri} {l : Option (Int × Int)}, (∃ t ∈ p, triOk n t = false) → tabOk n l p = false
  | [], _, h => by
    obtain ⟨_, h, _⟩ := h
    exact (nomatch h)
  | u :: r, l, h => by
    obtain ⟨t, ht, hb⟩ := h
    rw [tabOk_cons]
    rcases List.mem_cons.mp ht with rfl | ht
    · rw [hb]
      rfl
    · rw [tabOk_bad ⟨t, ht, hb⟩, Bool.and_false, Bool.and_false]
/-! ### lines in the heap -/
inductive Tris (H : Hp) : List V → List Tri → Prop
  | nil : Tris H [] []
  | cons {q : Addr} {t : Tri} {xs : List V} {p : List Tri} (h : H q = some (.tup (triV t))) (r : Tris H xs p) : Tris H (.ref q :: xs) (t :: p)
theorem Tris.mono {H H' : Hp} (s : Same H H') : ∀ {xs : List V} {p : List Tri}, Tris H xs p → Tris H' xs p
  | _, _, .nil => .nil
  | _, _, .cons h t => .cons (s _ _ h) (t.mono s)
theorem Tris.app {H : Hp} {ys : List V} {q : List Tri} (b : Tris H ys q) : ∀ {xs : List V} {p : List Tri}, Tris H xs p → Tris H (xs ++ ys) (p ++ q)
  | _, _, .nil => b
  | _, _, .cons h t => .cons h (b.app t)
theorem Tris.len {H : Hp} : ∀ {xs : List V} {p : List Tri}, Tris H xs p → xs.length = p.length
  | _, _, .nil => rfl
  | _, _, .cons _ t => by rw [List.length_cons, List.length_cons, t.len]
theorem Tris.getX {H : Hp} : ∀ {xs : List V} {p : List Tri} {i : Nat} {x : V}, Tris H xs p → xs[i]? = some x → ∃ q t, x = .ref q ∧ p[i]? = some t ∧ H q = some (.tup (triV t))
  | _, _, i, x, .nil, e => by simp at e
  | _, _, 0, x, .cons h t, e => by
    have e' := Option.some.inj e
    subst e'
    exact ⟨_, _, rfl, rfl, h⟩
  | _, _, i + 1, x, .cons h t, e => by
    obtain ⟨q, pl, h1, h2, h3⟩ := t.getX (i := i) (x := x) (by simpa using e)
    exact ⟨q, pl, h1, by simpa using h2, h3⟩
/-- what is a list is no line: a change of lists leaves lines -/
theorem Tris.butO {H H' : Hp} {l : Addr} {o : HO} (s : SameBut l H H') (hl : H l = some o) (ho : ∀ ys, HO.tup ys ≠ o) : ∀ {xs : List V} {p : List Tri}, Tris H xs p → Tris H' xs p
  | _, _, .nil => .nil
  | _, _, .cons h t => .cons (s _ _ (ne_of h hl (ho _)) h) (t.butO s hl ho)
theorem Tris.but {H H' : Hp} {l : Addr} {ys : List V} (s : SameBut l H H') (hl : H l = some (.lst ys)) {xs : List V} {p : List Tri} (h : Tris H xs p) : Tris H' xs p := h.butO s hl (by intro _ z; cases z)
/-- the table in the heap -/
structure Tab (p : List Tri) (kvs : List (List Key × V)) : Prop where
  val : ∀ a b : Int, valV kvs [Sum.inl a, Sum.inl b] = (look p a b).map V.str
  len : kvs.length ≤ p.length
theorem Tab.nil : Tab [] [] := ⟨fun _ _ => rfl, Nat.le_refl _⟩
theorem putK_len (kvs : List (List Key × V)) (k : List Key) (v : V) : (putK kvs k v).length ≤ kvs.length + 1 := by
  unfold putK
  split
  · rw [List.length_map]
    omega
  · rw [List.length_append]
    exact Nat.le_refl _
theorem Tab.put {p : List Tri} {kvs : List (List Key × V)} (h : Tab p kvs) (t : Tri) : Tab (p ++ [t]) (putK kvs [Sum.inl t.1, Sum.inl t.2.1] (.str t.2.2)) := by
  refine ⟨fun a b => ?_, ?_⟩
  · rw [valV_put, look_app, h.val]
    by_cases c : t.1 = a ∧ t.2.1 = b
    · rw [if_pos c, if_pos (by rw [c.1, c.2])]
      rfl
    · rw [if_neg c, if_neg]
      intro z
      have z1 := List.cons.inj z
      have z2 := List.cons.inj z1.2
      exact c ⟨(Sum.inl.inj z1.1).symm, (Sum.inl.inj z2.1).symm⟩
  · have := putK_len kvs [Sum.inl t.1, Sum.inl t.2.1] (.str t.2.2)
    have := h.len
    rw [List.length_append]
    show _ ≤ p.length + 1
    omega
end RE
/-! promises about plans -/
namespace RE
open PySem PySem.Spec PyProof.Rows L2
def spTable (K : PySem.W.Frag) : Sp := fun vs H Q _ => ∃ (a l : Addr) (ns : List Int) (xs : List V) (p : List Tri), vs = [.ref a, .ref l] ∧ SqL K H a (ns.map V.int) ∧ SqL K H l xs ∧ Tris H xs p ∧ p.length ≤ 10000 ∧
  (tabOk ns.length none p = false → ∀ H', Same H H' → Q .non H') ∧ (tabOk ns.length none p = true → ∀ H' d kvs, Same H H' → H d = none → H' d = some (.dT kvs) → Tab p kvs → Q (.ref d) H')
def spGot (K : PySem.W.Frag) (n : Nat) : Sp := fun vs H Q _ => ∃ (a d : Addr) (ns : List Int) (p : List Tri) (low m : Nat) (i j : Int) (kvs : List (List Key × V)) (mine : Bool), vs = [.ref a, .int i, .int j, .ref d, .bl mine] ∧ i = (low : Int) ∧ j = ((low + m : Nat) : Int) ∧
  SqL K H a (ns.map V.int) ∧ H d = some (.dT kvs) ∧ Tab p kvs ∧ (∀ t ∈ p, sideOk t.2.2 = true) ∧ low + m ≤ ns.length ∧ m < n ∧ ∀ H', Same H H' → Q (optV (gotV ns (tabF p) m low mine)) H'
def spPlanned (K : PySem.W.Frag) : Sp := fun vs H Q _ => ∃ (a l : Addr) (ns : List Int) (xs : List V) (p : List Tri) (mine : Bool), vs = [.ref a, .ref l, .bl mine] ∧ SqL K H a (ns.map V.int) ∧ SqL K H l xs ∧ Tris H xs p ∧ p.length ≤ 10000 ∧ ns.length ≤ 12 ∧
  ∀ H', Same H H' → Q (optV (plannedV ns p mine)) H'
/-- C(plan) -/
def spInit (K : PySem.W.Frag) (C : Addr) : Sp := fun vs H Q _ => ∃ (x l dx : Addr) (xs : List V), vs = [.ref x, .ref l] ∧ H x = some (.ins C dx []) ∧ SqL K H l xs ∧
  ∀ H' m, SameBut x H H' → H m = none → H' x = some (.ins C dx [("plan", .ref m)]) → H' m = some (.lst xs) → Q .non H'
def spShows (K : PySem.W.Frag) (C : Addr) (first : Bool) : Sp := fun vs H Q _ => ∃ (x a l dx : Addr) (ns : List Int) (xs : List V) (p : List Tri) (least : Int), vs = [.ref x, .ref a, .int least] ∧ H x = some (.ins C dx [("plan", .ref l)]) ∧ SqL K H a (ns.map V.int) ∧ H l = some (.lst xs) ∧ Tris H xs p ∧ p.length ≤ 10000 ∧ ns.length ≤ 12 ∧
  ∀ H', Same H H' → Q (.bl (showsV ns p first least)) H'
def spPlanOf (K : PySem.W.Frag) : Sp := fun vs H Q _ => ∃ (a : Addr) (ns : List Int) (first : Bool), vs = [.ref a, .bl first] ∧ SqL K H a (ns.map V.int) ∧ ns.length ≤ 12 ∧
  ∀ H' l xs, Same H H' → H l = none → H' l = some (.lst xs) → Tris H' xs (planV ns first) → Q (.ref l) H'
def NoWhole (K : PySem.W.Frag) (H : Hp) (x : V) : Prop := ∃ T, PV K H x T ∧ (T == "int") = false
def spJudged (K : PySem.W.Frag) (R N G D : Addr) : Sp := fun vs H Q E => ∃ x t, vs = [x, t] ∧ ((NoRow K H x ∧ ∀ H', Same H H' → E (.ref R) none H') ∨ ∃ ns, IsRow K H x ns ∧
  ((NoWhole K H t ∧ ∀ H', Same H H' → E (.ref N) none H') ∨ ∃ k : Int, t = .int k ∧
    ∀ H' o dx l xs, Same H H' → H o = none → H l = none → H' o = some (.ins (if decide (k ≤ wv ns ns.length 0) = true then G else D) dx [("plan", .ref l)]) → H' l = some (.lst xs) → Tris H' xs (planV ns (decide (k ≤ wv ns ns.length 0))) → Q (.ref o) H'))
/-- the lesser one -/
def minO : Option Int → Int → Int
  | none, z => z
  | some l, z => if z < l then z else l
def forMe (mine : Bool) (c : Int) : Int := if mine then c else -c
/-- what is left of a turn of got -/
def cont (ns : List Int) (f : Nat → Nat → Option Bool) (m low : Nat) (mine : Bool) : List Bool → Option Int → Option Int
  | [], lv => lv
  | b :: r, lv => (gotV ns f m (lowOf b low) (!mine)).bind fun x => cont ns f m low mine r (some (minO lv (x + forMe mine (coinOf ns b low m))))
theorem cont_nil (ns : List Int) (f : Nat → Nat → Option Bool) (m low : Nat) (mine : Bool) (lv : Option Int) : cont ns f m low mine [] lv = lv := rfl
theorem cont_cons (ns : List Int) (f : Nat → Nat → Option Bool) (m low : Nat) (mine b : Bool) (r : List Bool) (lv : Option Int) : cont ns f m low mine (b :: r) lv = (gotV ns f m (lowOf b low) (!mine)).bind fun x => cont ns f m low mine r (some (minO lv (x + forMe mine (coinOf ns b low m)))) := rfl
theorem cont_none {ns : List Int} {f : Nat → Nat → Option Bool} {m low : Nat} {mine b : Bool} {r : List Bool} {lv : Option Int} (h : gotV ns f m (lowOf b low) (!mine) = none) : cont ns f m low mine (b :: r) lv = none := by
  rw [cont_cons, h]
  rfl
theorem cont_some {ns : List Int} {f : Nat → Nat → Option Bool} {m low : Nat} {mine b : Bool} {r : List Bool} {lv : Option Int} {x : Int} (h : gotV ns f m (lowOf b low) (!mine) = some x) : cont ns f m low mine (b :: r) lv = cont ns f m low mine r (some (minO lv (x + forMe mine (coinOf ns b low m)))) := by
  rw [cont_cons, h]
  rfl
theorem cont_mine {ns : List Int} {f : Nat → Nat → Option Bool} {m low : Nat} {b : Bool} (h : f low (low + (m + 1)) = some b) : cont ns f m low true [b] none = gotV ns f (m + 1) low true := by
  rw [gotV_mine, h]
  show _ = (gotV ns f m (lowOf b low) false).bind _
  cases e : gotV ns f m (lowOf b low) false with
  | none => exact cont_none (mine := true) e
  | some x =>
    rw [cont_some (mine := true) e, cont_nil]
    rfl
theorem cont_his {ns : List Int} {f : Nat → Nat → Option Bool} {m low : Nat} : cont ns f m low false [true, false] none = gotV ns f (m + 1) low false := by
  rw [gotV_his]
  cases e : gotV ns f m (low + 1) true with
  | none => exact cont_none (mine := false) (b := true) e
  | some x =>
    rw [cont_some (mine := false) (b := true) e]
    show _ = (gotV ns f m low true).bind _
    cases e2 : gotV ns f m low true with
    | none => exact cont_none (mine := false) (b := false) e2
    | some y =>
      rw [cont_some (mine := false) (b := false) e2, cont_nil]
      rfl
end RE
/-! the laws' own walk of a plan: a line of stretches that wait -/
namespace RE
open PySem PySem.Spec PyProof.Rows L2
/-- where a stretch begins, how many coins, what was got before, whose turn -/
abbrev Ent := Nat × Nat × Int × Bool
def entV (e : Ent) : List V := [.int (e.1 : Int), .int ((e.1 + e.2.1 : Nat) : Int), .int e.2.2.1, .bl e.2.2.2]
inductive Stk (H : Hp) : List V → List Ent → Prop
  | nil : Stk H [] []
  | cons {q : Addr} {e : Ent} {xs : List V} {p : List Ent} (h : H q = some (.tup (entV e))) (r : Stk H xs p) : Stk H (.ref q :: xs) (e :: p)
theorem Stk.mono {H H' : Hp} (s : Same H H') : ∀ {xs : List V} {p : List Ent}, Stk H xs p → Stk H' xs p
  | _, _, .nil => .nil
  | _, _, .cons h t => .cons (s _ _ h) (t.mono s)
theorem Stk.butO {H H' : Hp} {l : Addr} {o : HO} (s : SameBut l H H') (hl : H l = some o) (ho : ∀ ys, HO.tup ys ≠ o) : ∀ {xs : List V} {p : List Ent}, Stk H xs p → Stk H' xs p
  | _, _, .nil => .nil
  | _, _, .cons h t => .cons (s _ _ (ne_of h hl (ho _)) h) (t.butO s hl ho)
theorem Stk.app {H : Hp} {ys : List V} {q : List Ent} (b : Stk H ys q) : ∀ {xs : List V} {p : List Ent}, Stk H xs p → Stk H (xs ++ ys) (p ++ q)
  | _, _, .nil => b
  | _, _, .cons h t => .cons h (b.app t)
theorem Stk.len {H : Hp} : ∀ {xs : List V} {p : List Ent}, Stk H xs p → xs.length = p.length
  | _, _, .nil => rfl
  | _, _, .cons _ t => by rw [List.length_cons, List.length_cons, t.len]
theorem Stk.snoc {H : Hp} : ∀ {p : List Ent} {e : Ent} {xs : List V}, Stk H xs (p ++ [e]) → ∃ ys q, xs = ys ++ [.ref q] ∧ Stk H ys p ∧ H q = some (.tup (entV e))
  | [], e, _, .cons h .nil => ⟨[], _, rfl, .nil, h⟩
  | f :: p, e, _, .cons h t => by
    obtain ⟨ys, q, rfl, h1, h2⟩ := t.snoc
    exact ⟨_ :: ys, q, rfl, .cons h h1, h2⟩
def entD (e : Ent) : PyData := .tuple [.int (e.1 : Int), .int ((e.1 + e.2.1 : Nat) : Int), .int e.2.2.1, .bool e.2.2.2]
theorem Stk.dp {K : PySem.W.Frag} {H : Hp} : ∀ {xs : List V} {p : List Ent}, Stk H xs p → DpAll K H xs (p.map entD)
  | _, _, .nil => .nil
  | _, _, .cons h t => .cons (.tup (SqT.of h) (.cons (.int _) (.cons (.int _) (.cons (.int _) (.cons (.bl _) .nil))))) t.dp
theorem sha_ents : ∀ p : List Ent, ShA (p.map entD) 1
  | [] => .nil 1
  | e :: p => .cons (Sh.tuple (.cons (sh_flat (x := .int _) rfl 0) (.cons (sh_flat (x := .int _) rfl 0) (.cons (sh_flat (x := .int _) rfl 0) (.cons (sh_flat (x := .bl _) rfl 0) (.nil 0)))))) (sha_ents p)
theorem eqv_ents (e : Ent) (p : List Ent) : PyData.eqv (.list ((e :: p).map entD)) (.list []) = false := by
  rw [PyData.eqv]
  rfl
theorem min3 (a b l : Int) : (if (if a < b then a else b) < l then (if a < b then a else b) else l) = (if b < (if a < l then a else l) then b else (if a < l then a else l)) := by
  by_cases h1 : a < b
  · rw [if_pos h1]
    by_cases h2 : a < l
    · rw [if_pos h2, if_neg (by omega)]
    · rw [if_neg h2, if_neg (by omega)]
  · rw [if_neg h1]
    by_cases h2 : a < l
    · rw [if_pos h2, if_pos (by omega)]
      by_cases h4 : b < a
      · rw [if_pos h4]
      · rw [if_neg h4]
        omega
    · rw [if_neg h2]
def resE (ns : List Int) (f : Nat → Nat → Option Bool) (e : Ent) : Option Int := (gotV ns f e.2.1 e.1 e.2.2.2).bind fun v => some (v + e.2.2.1)
/-- what comes of what was found and the stretches that wait, the next one first -/
def comb (ns : List Int) (f : Nat → Nat → Option Bool) : Option Int → List Ent → Option (Option Int)
  | found, [] => some found
  | found, e :: r => (resE ns f e).bind fun v => comb ns f (some (minO found v)) r
theorem comb_nil (ns : List Int) (f : Nat → Nat → Option Bool) (found : Option Int) : comb ns f found [] = some found := rfl
theorem comb_cons (ns : List Int) (f : Nat → Nat → Option Bool) (found : Option Int) (e : Ent) (r : List Ent) : comb ns f found (e :: r) = (resE ns f e).bind fun v => comb ns f (some (minO found v)) r := rfl
def child (ns : List Int) (low m : Nat) (sum : Int) (turn b : Bool) : Ent := (lowOf b low, m, sum + forMe turn (coinOf ns b low m), !turn)
theorem comb_leaf (ns : List Int) (f : Nat → Nat → Option Bool) (found : Option Int) (low : Nat) (sum : Int) (turn : Bool) (r : List Ent) : comb ns f found ((low, 0, sum, turn) :: r) = comb ns f (some (minO found sum)) r := by
  rw [comb_cons]
  show comb ns f (some (minO found (0 + sum))) r = _
  rw [Int.zero_add]
theorem comb_lacks {ns : List Int} {f : Nat → Nat → Option Bool} {found : Option Int} {low m : Nat} {sum : Int} {r : List Ent} (h : f low (low + (m + 1)) = none) : comb ns f found ((low, m + 1, sum, true) :: r) = none := by
  rw [comb_cons]
  unfold resE
  show ((gotV ns f (m + 1) low true).bind _).bind _ = none
  rw [gotV_mine, h]
  rfl
theorem comb_mine {ns : List Int} {f : Nat → Nat → Option Bool} {found : Option Int} {low m : Nat} {sum : Int} {r : List Ent} {b : Bool} (h : f low (low + (m + 1)) = some b) : comb ns f found ((low, m + 1, sum, true) :: r) = comb ns f found (child ns low m sum true b :: r) := by
  rw [comb_cons, comb_cons]
  unfold resE
  show ((gotV ns f (m + 1) low true).bind fun v => some (v + sum)).bind _ = ((gotV ns f m (lowOf b low) false).bind fun v => some (v + (sum + forMe true (coinOf ns b low m)))).bind _
  rw [gotV_mine, h]
  show (((gotV ns f m (lowOf b low) false).bind fun r => some (r + coinOf ns b low m)).bind fun v => some (v + sum)).bind _ = _
  cases gotV ns f m (lowOf b low) false with
  | none => rfl
  | some v =>
    show comb ns f (some (minO found (v + coinOf ns b low m + sum))) r = comb ns f (some (minO found (v + (sum + forMe true (coinOf ns b low m))))) r
    have e : v + coinOf ns b low m + sum = v + (sum + forMe true (coinOf ns b low m)) := by
      show v + coinOf ns b low m + sum = v + (sum + coinOf ns b low m)
      omega
    rw [e]
theorem comb_his {ns : List Int} {f : Nat → Nat → Option Bool} {found : Option Int} {low m : Nat} {sum : Int} {r : List Ent} : comb ns f found ((low, m + 1, sum, false) :: r) = comb ns f found (child ns low m sum false false :: child ns low m sum false true :: r) := by
  rw [comb_cons, comb_cons]
  unfold resE
  show ((gotV ns f (m + 1) low false).bind fun v => some (v + sum)).bind _ = ((gotV ns f m low true).bind fun v => some (v + (sum + forMe false (coinOf ns false low m)))).bind fun v => comb ns f (some (minO found v)) (child ns low m sum false true :: r)
  rw [gotV_his]
  cases e2 : gotV ns f m low true with
  | none =>
    cases gotV ns f m (low + 1) true with
    | none => rfl
    | some x => rfl
  | some y =>
    show _ = comb ns f (some (minO found (y + (sum + forMe false (coinOf ns false low m))))) (child ns low m sum false true :: r)
    rw [comb_cons]
    unfold resE
    show _ = ((gotV ns f m (low + 1) true).bind fun v => some (v + (sum + forMe false (coinOf ns true low m)))).bind _
    cases gotV ns f m (low + 1) true with
    | none => rfl
    | some x =>
      show comb ns f (some (minO found ((if y + -coinOf ns false low m < x + -coinOf ns true low m then y + -coinOf ns false low m else x + -coinOf ns true low m) + sum))) r = comb ns f (some (minO (some (minO found (y + (sum + -coinOf ns false low m)))) (x + (sum + -coinOf ns true low m)))) r
      congr 2
      cases found with
      | none =>
        show ((if y + -coinOf ns false low m < x + -coinOf ns true low m then y + -coinOf ns false low m else x + -coinOf ns true low m) + sum) = (if x + (sum + -coinOf ns true low m) < y + (sum + -coinOf ns false low m) then x + (sum + -coinOf ns true low m) else y + (sum + -coinOf ns false low m))
        split <;> split <;> omega
      | some l =>
        show (if (if y + -coinOf ns false low m < x + -coinOf ns true low m then y + -coinOf ns false low m else x + -coinOf ns true low m) + sum < l then (if y + -coinOf ns false low m < x + -coinOf ns true low m then y + -coinOf ns false low m else x + -coinOf ns true low m) + sum else l) =
          (if x + (sum + -coinOf ns true low m) < (if y + (sum + -coinOf ns false low m) < l then y + (sum + -coinOf ns false low m) else l) then x + (sum + -coinOf ns true low m) else (if y + (sum + -coinOf ns false low m) < l then y + (sum + -coinOf ns false low m) else l))
        generalize coinOf ns false low m = c1
        generalize coinOf ns true low m = c2
        have e3 : (if y + -c1 < x + -c2 then y + -c1 else x + -c2) + sum = (if y + (sum + -c1) < x + (sum + -c2) then y + (sum + -c1) else x + (sum + -c2)) := by
          split <;> split <;> omega
        rw [e3]
        exact min3 _ _ _
/-- how many stretches may come of one -/
def wt : Nat → Nat
  | 0 => 1
  | n + 1 => 2 * wt n + 1
theorem wt_pos : ∀ n, 0 < wt n
  | 0 => Nat.one_pos
  | n + 1 => Nat.succ_pos _
theorem wt_le : ∀ n, n ≤ 12 → wt n ≤ 8191
  | n, h => by
    have mono : ∀ k, k ≤ 12 → wt k ≤ 8191 := by decide
    exact mono n h
def wts : List Ent → Nat
  | [] => 0
  | e :: r => wt e.2.1 + wts r
theorem wts_len : ∀ st : List Ent, st.length ≤ wts st
  | [] => Nat.le_refl _
  | e :: r => by
    have h1 := wts_len r
    have h2 := wt_pos e.2.1
    show r.length + 1 ≤ wt e.2.1 + wts r
    omega
theorem all_true (n : Nat) : (List.replicate n true).all id = true := by
  induction n with
  | zero => rfl
  | succ n ih =>
    rw [List.replicate_succ, List.all_cons, ih]
    rfl
theorem planV_len {ns : List Int} {first : Bool} (h : ns.length ≤ 12) : (planV ns first).length ≤ 10000 := by
  have h1 := planTo_le ns first ns.length
  have h2 : ns.length * ns.length ≤ 12 * 12 := Nat.mul_le_mul h h
  show (planTo ns first ns.length).length ≤ 10000
  omega
theorem planV_len1 {ns : List Int} {first : Bool} (h : ns.length ≤ 12) (t : Tri) : (planV ns first ++ [t]).length ≤ 10000 := by
  have h1 := planTo_le ns first ns.length
  have h2 : ns.length * ns.length ≤ 12 * 12 := Nat.mul_le_mul h h
  rw [List.length_append]
  show (planTo ns first ns.length).length + 1 ≤ 10000
  omega
theorem tris_tuples {K : PySem.W.Frag} {H : Hp} {xs : List V} {p : List Tri} (h : Tris H xs p) {i : Nat} {x : V} (e : xs[i]? = some x) : TyX K H x (.type "tuple") := by
  obtain ⟨q, t, rfl, _, hq⟩ := h.getX e
  exact (pv_tup hq).ty
/-- a line for a stretch beyond -/
def farT : Tri := (0, 99, "left")
theorem far_bad {n : Nat} (h : n ≤ 12) (p : List Tri) : tabOk n none (p ++ [farT]) = false := by
  refine tabOk_bad ⟨farT, List.mem_append_right _ List.mem_cons_self, ?_⟩
  unfold triOk
  rw [show decide (farT.2.1 ≤ (n : Int)) = false from decide_eq_false (by show ¬ ((99 : Int) ≤ (n : Int)); omega)]
  rw [Bool.false_and, Bool.and_false, Bool.and_false]
def spLRight (K : PySem.W.Frag) : Sp := fun vs H Q _ => ∃ (r o : Addr) (ns ms : List Int) (least due : Int), vs = [.ref r, .int least, .int due, .ref o] ∧ H r = some (.lst (ns.map V.int)) ∧ RowOk ns ∧ H o = some (.lst (ms.map V.int)) ∧ RowOk ms ∧ due = wv ns ns.length 0 ∧ ∀ H', Same H H' → Q (.bl true) H'
def spSays : Sp := fun vs H Q _ => ∃ a : Bool, vs = [.bl a, .bl a] ∧ Q (.bl true) H
def spLGot (K : PySem.W.Frag) : Sp := spPlanned K
def spLShows (K : PySem.W.Frag) : Sp := fun vs H Q _ => ∃ (a l : Addr) (ns : List Int) (xs : List V) (p : List Tri) (mine : Bool) (least : Int), vs = [.ref a, .int least, .ref l, .bl mine] ∧ SqL K H a (ns.map V.int) ∧ SqL K H l xs ∧ Tris H xs p ∧ p.length ≤ 10000 ∧ ns.length ≤ 12 ∧
  ∀ H', Same H H' → Q (.bl (showsV ns p mine least)) H'
theorem inV_side (s : Str) : inV (.str s) [V.str "left", V.str "right"] = sideOk s := by
  unfold inV sideOk eqV
  by_cases h1 : s = "left"
  · subst h1
    decide +kernel
  · by_cases h2 : s = "right"
    · subst h2
      decide +kernel
    · have e1 : ¬ (("left" : Str) = s) := fun z => h1 z.symm
      have e2 : ¬ (("right" : Str) = s) := fun z => h2 z.symm
      simp [h1, h2, e1, e2]
end RE
/-! plans made by hand: all stretches with one end; parts of plans; plans as data -/
namespace RE
open PySem PySem.Spec PyProof.Rows L2
def allRow (side : Str) (low k : Nat) : Tri := ((low : Int), ((low + (k + 1) : Nat) : Int), side)
def allCh (side : Str) (low j : Nat) : List Tri := (List.range j).map (allRow side low)
def allTo (side : Str) (n i : Nat) : List Tri := (List.range i).flatMap fun low => allCh side low (n - low)
theorem allCh_zero (side : Str) (low : Nat) : allCh side low 0 = [] := rfl
theorem allCh_succ (side : Str) (low j : Nat) : allCh side low (j + 1) = allCh side low j ++ [allRow side low j] := by
  unfold allCh
  rw [List.range_succ, List.map_append]
  rfl
theorem allTo_succ (side : Str) (n i : Nat) : allTo side n (i + 1) = allTo side n i ++ allCh side i (n - i) := by
  unfold allTo
  rw [List.range_succ, List.flatMap_append]
  simp
theorem allCh_len (side : Str) (low j : Nat) : (allCh side low j).length = j := by
  unfold allCh
  rw [List.length_map, List.length_range]
theorem allTo_le (side : Str) (n : Nat) : ∀ i, (allTo side n i).length ≤ i * n
  | 0 => Nat.zero_le _
  | i + 1 => by
    rw [allTo_succ, List.length_append, allCh_len, Nat.succ_mul]
    have := allTo_le side n i
    omega
theorem allTo_side (side : Str) (n i : Nat) : ∀ t ∈ allTo side n i, t.2.2 = side := by
  intro t h
  unfold allTo allCh at h
  obtain ⟨low, _, h⟩ := List.mem_flatMap.mp h
  obtain ⟨k, _, rfl⟩ := List.mem_map.mp h
  rfl
def spLAll (K : PySem.W.Frag) : Sp := fun vs H Q _ => ∃ (a : Addr) (ns : List Int) (side : Str), vs = [.ref a, .str side] ∧ SqL K H a (ns.map V.int) ∧ ns.length ≤ 12 ∧
  ∀ H' l xs, Same H H' → H l = none → H' l = some (.lst xs) → Tris H' xs (allTo side ns.length ns.length) → Q (.ref l) H'
def spMAll (K : PySem.W.Frag) : Sp := fun vs H Q _ => ∃ (n : Nat) (side : Str), vs = [.int (n : Int), .str side] ∧ n ≤ 12 ∧
  ∀ H' l xs, Same H H' → H l = none → H' l = some (.lst xs) → Tris H' xs (allTo side n n) → Q (.ref l) H'
/-! ### parts -/
theorem Tris.drop {H : Hp} : ∀ (k : Nat) {xs : List V} {p : List Tri}, Tris H xs p → Tris H (xs.drop k) (p.drop k)
  | 0, _, _, h => h
  | _ + 1, _, _, .nil => .nil
  | k + 1, _, _, .cons _ t => t.drop k
theorem Tris.take {H : Hp} : ∀ (k : Nat) {xs : List V} {p : List Tri}, Tris H xs p → Tris H (xs.take k) (p.take k)
  | 0, _, _, _ => .nil
  | _ + 1, _, _, .nil => .nil
  | k + 1, _, _, .cons h t => .cons h (t.take k)
theorem Tris.rev {H : Hp} : ∀ {xs : List V} {p : List Tri}, Tris H xs p → Tris H xs.reverse p.reverse
  | _, _, .nil => .nil
  | _, _, .cons h t => by
    rw [List.reverse_cons, List.reverse_cons]
    exact Tris.app (.cons h .nil) t.rev
/-- a plan whose texts are plain -/
structure PlanIn (H : Hp) (xs : List V) (p : List Tri) : Prop where
  tris : Tris H xs p
  len : p.length ≤ 1000
  txt : ∀ t ∈ p, PyData.strOk t.2.2 = true
theorem PlanIn.mono {H H' : Hp} (s : Same H H') {xs : List V} {p : List Tri} (h : PlanIn H xs p) : PlanIn H' xs p := ⟨h.tris.mono s, h.len, h.txt⟩
theorem PlanIn.nil (H : Hp) : PlanIn H [] [] := ⟨.nil, Nat.zero_le _, fun _ h => (nomatch h)⟩
theorem PlanIn.cut {H : Hp} {xs : List V} {p : List Tri} (h : PlanIn H xs p) (lo hi : Option Int) : ∃ p', PlanIn H (cutV xs lo hi) p' ∧ p'.length ≤ p.length := by
  unfold cutV
  refine ⟨_, ⟨(h.tris.drop _).take _, ?_, fun t ht => h.txt t (List.mem_of_mem_drop (List.mem_of_mem_take ht))⟩, ?_⟩
  · rw [List.length_take, List.length_drop]
    have := h.len
    omega
  · rw [List.length_take, List.length_drop]
    omega
theorem planV_144 {ns : List Int} {first : Bool} (h : ns.length ≤ 12) : (planV ns first).length ≤ 144 := by
  have h1 := planTo_le ns first ns.length
  have h2 : ns.length * ns.length ≤ 12 * 12 := Nat.mul_le_mul h h
  show (planTo ns first ns.length).length ≤ 144
  omega
theorem PlanIn.rev {H : Hp} {xs : List V} {p : List Tri} (h : PlanIn H xs p) : PlanIn H xs.reverse p.reverse := ⟨h.tris.rev, by rw [List.length_reverse]; exact h.len, fun t ht => h.txt t (List.mem_reverse.mp ht)⟩
theorem strOk_side (b : Bool) : PyData.strOk (sideS b) = true := by cases b <;> decide +kernel
theorem plan_in {H : Hp} {ns : List Int} {first : Bool} {xs : List V} (h : ns.length ≤ 12) (t : Tris H xs (planV ns first)) : PlanIn H xs (planV ns first) := by
  refine ⟨t, ?_, fun t ht => ?_⟩
  · have h1 := planTo_le ns first ns.length
    have h2 : ns.length * ns.length ≤ 12 * 12 := Nat.mul_le_mul h h
    show (planTo ns first ns.length).length ≤ 1000
    omega
  · obtain ⟨low, k, _, _, rfl⟩ := mem_planV.mp ht
    exact strOk_side _
theorem all_in {H : Hp} {n : Nat} {side : Str} {xs : List V} (h : n ≤ 12) (hs : PyData.strOk side = true) (t : Tris H xs (allTo side n n)) : PlanIn H xs (allTo side n n) := by
  refine ⟨t, ?_, fun t ht => ?_⟩
  · have h1 := allTo_le side n n
    have h2 : n * n ≤ 12 * 12 := Nat.mul_le_mul h h
    omega
  · rw [allTo_side side n n t ht]
    exact hs
theorem one_in {H : Hp} {q : Addr} {a b : Int} {s : Str} (h : H q = some (.tup [.int a, .int b, .str s])) (hs : PyData.strOk s = true) : PlanIn H [.ref q] [(a, b, s)] :=
  ⟨.cons (t := (a, b, s)) h .nil, by show 1 ≤ 1000; decide, fun t ht => by rw [List.mem_singleton] at ht; subst ht; exact hs⟩
theorem PlanIn.app {H : Hp} {xs ys : List V} {p q : List Tri} (h : PlanIn H xs p) (k : PlanIn H ys q) (l : p.length + q.length ≤ 1000) : PlanIn H (xs ++ ys) (p ++ q) :=
  ⟨Tris.app k.tris h.tris, by rw [List.length_append]; exact l, fun t ht => (List.mem_append.mp ht).elim (h.txt t) (k.txt t)⟩
theorem PlanIn.but {H H' : Hp} {l : Addr} {ys : List V} (s : SameBut l H H') (hl : H l = some (.lst ys)) {xs : List V} {p : List Tri} (h : PlanIn H xs p) : PlanIn H' xs p := ⟨h.tris.but s hl, h.len, h.txt⟩
theorem PlanIn.butO {H H' : Hp} {l : Addr} {o : HO} (s : SameBut l H H') (hl : H l = some o) (ho : ∀ ys, HO.tup ys ≠ o) {xs : List V} {p : List Tri} (h : PlanIn H xs p) : PlanIn H' xs p := ⟨h.tris.butO s hl ho, h.len, h.txt⟩
/-! ### as data -/
def triD (t : Tri) : PyData := .tuple [.int t.1, .int t.2.1, .str t.2.2]
theorem dp_tris {K : PySem.W.Frag} {H : Hp} : ∀ {xs : List V} {p : List Tri}, Tris H xs p → DpAll K H xs (p.map triD)
  | _, _, .nil => .nil
  | _, _, .cons h t => .cons (.tup (SqT.of h) (.cons (.int _) (.cons (.int _) (.cons (.str _) .nil)))) (dp_tris t)
theorem sha_tris : ∀ (p : List Tri), (∀ t ∈ p, PyData.strOk t.2.2 = true) → ShA (p.map triD) 1
  | [], _ => .nil 1
  | t :: p, h => .cons (Sh.tuple (.cons (sh_flat (x := .int _) rfl 0) (.cons (sh_flat (x := .int _) rfl 0) (.cons (sh_flat (x := .str t.2.2) (h t List.mem_cons_self) 0) (.nil 0))))) (sha_tris p fun u hu => h u (List.mem_cons_of_mem _ hu))
/-- a list of plans -/
inductive Plans (H : Hp) : List V → Prop
  | nil : Plans H []
  | cons {l : Addr} {ys xs : List V} {p : List Tri} (h : H l = some (.lst ys)) (i : PlanIn H ys p) (t : Plans H xs) : Plans H (.ref l :: xs)
theorem Plans.mono {H H' : Hp} (s : Same H H') : ∀ {xs : List V}, Plans H xs → Plans H' xs
  | _, .nil => .nil
  | _, .cons h i t => .cons (s _ _ h) (i.mono s) (t.mono s)
theorem Plans.get {H : Hp} : ∀ {xs : List V} {i : Nat} {x : V}, Plans H xs → xs[i]? = some x → ∃ l ys p, x = .ref l ∧ H l = some (.lst ys) ∧ PlanIn H ys p
  | _, i, x, .nil, e => by simp at e
  | _, 0, x, .cons h i t, e => by
    have e' := Option.some.inj e
    subst e'
    exact ⟨_, _, _, rfl, h, i⟩
  | _, i + 1, x, .cons h _ t, e => t.get (i := i) (x := x) (by simpa using e)
end RE
/-! rows that rise by as much, alike ones: plain -/
namespace RE
open PySem PySem.Spec PyProof.Rows L2
/-- coins that rise by s from c on -/
def riseRow (c s : Int) (n : Nat) : List Int := (List.range n).map fun (i : Nat) => c + s * (i : Int)
theorem rise_len (c s : Int) (n : Nat) : (riseRow c s n).length = n := by
  unfold riseRow
  rw [List.length_map, List.length_range]
theorem rise_get {c s : Int} {n i : Nat} (h : i < n) : (riseRow c s n).getD i 0 = c + s * (i : Int) := by
  unfold riseRow
  rw [List.getD_eq_getElem?_getD, List.getElem?_map, List.getElem?_range h]
  rfl
theorem half (n : Nat) : ∃ k, n = 2 * k ∨ n = 2 * k + 1 := ⟨n / 2, by omega⟩
/-- k times s, as a sum -/
def tms (k : Nat) (s : Int) : Int := (k : Int) * s
theorem tms_zero (s : Int) : tms 0 s = 0 := by unfold tms; simp
theorem tms_succ (k : Nat) (s : Int) : tms (k + 1) s = tms k s + s := by
  unfold tms
  rw [show ((k + 1 : Nat) : Int) = (k : Int) + 1 by omega, Int.add_mul, Int.one_mul]
theorem tms_add (a b : Nat) (s : Int) : tms (a + b) s = tms a s + tms b s := by
  unfold tms
  rw [show ((a + b : Nat) : Int) = (a : Int) + (b : Int) by omega, Int.add_mul]
theorem tms_pos {k : Nat} {s : Int} (h : 0 < s) : 0 ≤ tms k s := Int.mul_nonneg (by omega) (by omega)
theorem tms_pos1 {k : Nat} {s : Int} (h : 0 < s) : 0 < tms (k + 1) s := by
  rw [tms_succ]
  have := tms_pos (k := k) h
  omega
theorem rise_at {c s : Int} {n i : Nat} (h : i < n) : (riseRow c s n).getD i 0 = c + tms i s := by
  rw [rise_get h]
  unfold tms
  rw [Int.mul_comm]
/-- both ways' worths -/
theorem rise_wv {c s : Int} {n : Nat} (hs : 0 < s) : ∀ k low, (low + 2 * k ≤ n → wv (riseRow c s n) (2 * k) low = tms k s) ∧ (low + (2 * k + 1) ≤ n → wv (riseRow c s n) (2 * k + 1) low = c + tms (low + k) s)
  | 0, low => by
    refine ⟨fun _ => by rw [tms_zero]; exact wv_zero _ _, fun h => ?_⟩
    show wv (riseRow c s n) (0 + 1) low = _
    rw [wv_succ, wv_zero, wv_zero, Nat.add_zero, rise_at (by omega), if_neg (by omega)]
    simp
  | k + 1, low => by
    have even : low + 2 * (k + 1) ≤ n → wv (riseRow c s n) (2 * (k + 1)) low = tms (k + 1) s := by
      intro h
      show wv (riseRow c s n) (2 * k + 1 + 1) low = _
      have h1 := (rise_wv (c := c) (n := n) hs k low).2 (by omega)
      have h2 := (rise_wv (c := c) (n := n) hs k (low + 1)).2 (by omega)
      rw [wv_succ, h1, h2, rise_at (by omega), rise_at (by omega)]
      have e1 : tms (low + (2 * k + 1)) s = tms low s + tms k s + tms (k + 1) s := by rw [show low + (2 * k + 1) = low + k + (k + 1) by omega, tms_add, tms_add]
      have e2 : tms (low + k) s = tms low s + tms k s := tms_add _ _ _
      have e3 : tms (low + 1 + k) s = tms low s + tms (k + 1) s := by rw [show low + 1 + k = low + (k + 1) by omega, tms_add]
      have p := tms_pos1 (k := k) hs
      rw [e1, e2, e3, if_pos (by omega)]
      omega
    refine ⟨even, fun h => ?_⟩
    have g1 := even (by omega)
    have g2 : wv (riseRow c s n) (2 * (k + 1)) (low + 1) = tms (k + 1) s := by
      show wv (riseRow c s n) (2 * k + 1 + 1) (low + 1) = _
      have h1 := (rise_wv (c := c) (n := n) hs k (low + 1)).2 (by omega)
      have h2 := (rise_wv (c := c) (n := n) hs k (low + 1 + 1)).2 (by omega)
      rw [wv_succ, h1, h2, rise_at (by omega), rise_at (by omega)]
      have e1 : tms (low + 1 + (2 * k + 1)) s = tms (low + 1) s + tms k s + tms (k + 1) s := by rw [show low + 1 + (2 * k + 1) = low + 1 + k + (k + 1) by omega, tms_add, tms_add]
      have e2 : tms (low + 1 + k) s = tms (low + 1) s + tms k s := tms_add _ _ _
      have e3 : tms (low + 1 + 1 + k) s = tms (low + 1) s + tms (k + 1) s := by rw [show low + 1 + 1 + k = low + 1 + (k + 1) by omega, tms_add]
      have p := tms_pos1 (k := k) hs
      rw [e1, e2, e3, if_pos (by omega)]
      omega
    rw [wv_succ, g1, g2, rise_at (by omega), rise_at (by omega)]
    have e1 : tms (low + 2 * (k + 1)) s = tms low s + tms (k + 1) s + tms (k + 1) s := by rw [show low + 2 * (k + 1) = low + (k + 1) + (k + 1) by omega, tms_add, tms_add]
    have e2 : tms (low + (k + 1)) s = tms low s + tms (k + 1) s := tms_add _ _ _
    have p := tms_pos1 (k := k) hs
    rw [e1, e2, if_pos (by omega)]
    omega
/-- the right end is best of each stretch -/
theorem rise_right {c s : Int} {n : Nat} (hs : 0 < s) (m low : Nat) (h : low + (m + 1) ≤ n) : coinOf (riseRow c s n) false low m - wv (riseRow c s n) m (lowOf false low) = wv (riseRow c s n) (m + 1) low := by
  show (riseRow c s n).getD (low + m) 0 - wv (riseRow c s n) m low = _
  obtain ⟨k, rfl | rfl⟩ := half m
  · have h1 := (rise_wv (c := c) (n := n) hs k low).1 (by omega)
    have h2 := (rise_wv (c := c) (n := n) hs k low).2 (by omega)
    rw [h1, h2, rise_at (by omega)]
    have e1 : tms (low + 2 * k) s = tms low s + tms k s + tms k s := by rw [show low + 2 * k = low + k + k by omega, tms_add, tms_add]
    have e2 : tms (low + k) s = tms low s + tms k s := tms_add _ _ _
    omega
  · have h1 := (rise_wv (c := c) (n := n) hs k low).2 (by omega)
    have h2 := (rise_wv (c := c) (n := n) hs (k + 1) low).1 (by omega)
    have h2' : wv (riseRow c s n) (2 * k + 1 + 1) low = tms (k + 1) s := h2
    rw [h1, h2', rise_at (by omega)]
    have e1 : tms (low + (2 * k + 1)) s = tms low s + tms k s + tms (k + 1) s := by rw [show low + (2 * k + 1) = low + k + (k + 1) by omega, tms_add, tms_add]
    have e2 : tms (low + k) s = tms low s + tms k s := tms_add _ _ _
    omega
/-- the left one is not, but of one coin -/
theorem rise_left {c s : Int} {n : Nat} (hs : 0 < s) (m low : Nat) (h : low + (m + 1 + 1) ≤ n) : ¬ coinOf (riseRow c s n) true low (m + 1) - wv (riseRow c s n) (m + 1) (lowOf true low) = wv (riseRow c s n) (m + 1 + 1) low := by
  show ¬ (riseRow c s n).getD low 0 - wv (riseRow c s n) (m + 1) (low + 1) = _
  obtain ⟨k, rfl | rfl⟩ := half m
  · have h1 := (rise_wv (c := c) (n := n) hs k (low + 1)).2 (by omega)
    have h2 : wv (riseRow c s n) (2 * k + 1 + 1) low = tms (k + 1) s := (rise_wv (c := c) (n := n) hs (k + 1) low).1 (by omega)
    rw [h1, h2, rise_at (by omega)]
    have e3 : tms (low + 1 + k) s = tms low s + tms (k + 1) s := by rw [show low + 1 + k = low + (k + 1) by omega, tms_add]
    have p := tms_pos1 (k := k) hs
    omega
  · have h1 : wv (riseRow c s n) (2 * k + 1 + 1) (low + 1) = tms (k + 1) s := (rise_wv (c := c) (n := n) hs (k + 1) (low + 1)).1 (by omega)
    have h2 : wv (riseRow c s n) (2 * k + 1 + 1 + 1) low = c + tms (low + (k + 1)) s := (rise_wv (c := c) (n := n) hs (k + 1) low).2 (by omega)
    rw [h1, h2, rise_at (by omega)]
    have e2 : tms (low + (k + 1)) s = tms low s + tms (k + 1) s := tms_add _ _ _
    have p := tms_pos1 (k := k) hs
    omega
theorem rise_ends {c s : Int} {n : Nat} (hs : 0 < s) (m low : Nat) (h : low + (m + 1 + 1) ≤ n) : ends (riseRow c s n) (m + 1 + 1) low = [false] := by
  rw [ends_filter]
  have h1 : bestB (riseRow c s n) low (m + 1) true = false := decide_eq_false (rise_left hs m low h)
  have h2 : bestB (riseRow c s n) low (m + 1) false = true := decide_eq_true (rise_right hs (m + 1) low h)
  simp [List.filter_cons, h1, h2]
theorem one_ends (ns : List Int) (low : Nat) : ends ns 1 low = [true, false] := by
  rw [ends_succ, wv_succ, wv_zero, wv_zero, Nat.add_zero, ite_self, if_pos rfl, if_pos rfl]
  rfl
theorem rise_many {c s : Int} {n : Nat} (hs : 0 < s) : ∀ m low, low + (m + 1) ≤ n → (plays (riseRow c s n) (m + 1) low).length = 2
  | 0, low, _ => by
    rw [plays_succ, one_ends]
    rfl
  | m + 1, low, h => by
    rw [plays_succ, rise_ends hs m low h]
    have ih := rise_many (c := c) (n := n) hs m low (by omega)
    show ([false].flatMap fun b => (plays (riseRow c s n) (m + 1) (lowOf b low)).map fun p => b :: p).length = 2
    rw [List.flatMap_cons, List.flatMap_nil, List.append_nil, List.length_map]
    exact ih
theorem alt_rise {c s : Int} {n : Nat} : ∀ k low, low + 2 * k ≤ n → alt (riseRow c s n) (2 * k) low = - tms k s
  | 0, low, _ => by
    rw [tms_zero]
    rfl
  | k + 1, low, h => by
    show alt (riseRow c s n) (2 * k + 1 + 1) low = _
    rw [alt_succ, alt_succ, alt_rise k (low + 1 + 1) (by omega), rise_at (by omega), rise_at (by omega), tms_succ, tms_succ]
    omega
theorem rise_sure {c s : Int} {k : Nat} (hs : 0 < s) : sureV (riseRow c s (2 * k)) = tms k s := by
  unfold sureV absI
  rw [← alt_evens, rise_len, alt_rise k 0 (by omega)]
  have := tms_pos (k := k) hs
  split <;> omega
/-! ### plans that tell a best end always -/
theorem gotV_best (ns : List Int) (f : Nat → Nat → Option Bool) (hf : ∀ m low, low + (m + 1) ≤ ns.length → ∃ b, f low (low + (m + 1)) = some b ∧ coinOf ns b low m - wv ns m (lowOf b low) = wv ns (m + 1) low) : ∀ m low, low + m ≤ ns.length →
    gotV ns f m low true = some (wv ns m low) ∧ gotV ns f m low false = some (-wv ns m low)
  | 0, low, _ => by
    rw [wv_zero, gotV_zero, gotV_zero]
    exact ⟨rfl, rfl⟩
  | m + 1, low, h => by
    constructor
    · obtain ⟨b, hb, he⟩ := hf m low h
      have hl := lowOf_le b low m
      have ih := (gotV_best ns f hf m (lowOf b low) (by omega)).2
      rw [gotV_mine, hb]
      show ((gotV ns f m (lowOf b low) false).bind fun r => some (r + coinOf ns b low m)) = _
      rw [ih]
      show some (-wv ns m (lowOf b low) + coinOf ns b low m) = _
      congr 1
      omega
    · have ih1 := (gotV_best ns f hf m (low + 1) (by omega)).1
      have ih2 := (gotV_best ns f hf m low (by omega)).1
      rw [gotV_his, ih1, ih2]
      show some (if wv ns m low + -coinOf ns false low m < wv ns m (low + 1) + -coinOf ns true low m then wv ns m low + -coinOf ns false low m else wv ns m (low + 1) + -coinOf ns true low m) = _
      have e1 : coinOf ns true low m = ns.getD low 0 := rfl
      have e2 : coinOf ns false low m = ns.getD (low + m) 0 := rfl
      rw [wv_succ, e1, e2]
      congr 1
      split <;> split <;> omega
theorem allTo_mem {side : Str} {n : Nat} {t : Tri} : t ∈ allTo side n n ↔ ∃ low k, low + (k + 1) ≤ n ∧ t = allRow side low k := by
  unfold allTo allCh
  constructor
  · intro h
    obtain ⟨low, h1, h⟩ := List.mem_flatMap.mp h
    obtain ⟨k, h2, rfl⟩ := List.mem_map.mp h
    have h4 := List.mem_range.mp h2
    have h5 := List.mem_range.mp h1
    exact ⟨low, k, by omega, rfl⟩
  · rintro ⟨low, k, h, rfl⟩
    exact List.mem_flatMap.mpr ⟨low, List.mem_range.mpr (by omega), List.mem_map.mpr ⟨k, List.mem_range.mpr (by omega), rfl⟩⟩
theorem allTo_ahead (side : Str) (n : Nat) : (allTo side n n).Pairwise ahead := by
  unfold allTo
  rw [List.pairwise_flatMap]
  refine ⟨fun low _ => ?_, ?_⟩
  · unfold allCh
    rw [List.pairwise_map]
    refine List.pairwise_lt_range.imp ?_
    intro a b h
    exact .inr ⟨rfl, by show ((low + (a + 1) : Nat) : Int) < ((low + (b + 1) : Nat) : Int); omega⟩
  · refine List.pairwise_lt_range.imp ?_
    intro a b h x hx y hy
    unfold allCh at hx hy
    obtain ⟨k, _, rfl⟩ := List.mem_map.mp hx
    obtain ⟨k', _, rfl⟩ := List.mem_map.mp hy
    exact .inl (by show (a : Int) < (b : Int); omega)
theorem allTo_ok (b : Bool) (n : Nat) : tabOk n none (allTo (sideS b) n n) = true := by
  refine tabOk_of (fun t ht => ?_) (allTo_ahead _ n) (fun _ _ => rfl)
  obtain ⟨low, k, h, rfl⟩ := allTo_mem.mp ht
  unfold triOk allRow
  show (decide ((0 : Int) ≤ (low : Int)) && (decide ((low : Int) < ((low + (k + 1) : Nat) : Int)) && (decide (((low + (k + 1) : Nat) : Int) ≤ (n : Int)) && sideOk (sideS b)))) = true
  rw [decide_eq_true (by omega), decide_eq_true (by omega), decide_eq_true (by omega), sideOk_sideS]
  rfl
theorem allTo_look {b : Bool} {n low k : Nat} (h : low + (k + 1) ≤ n) : tabF (allTo (sideS b) n n) low (low + (k + 1)) = some b := by
  unfold tabF
  have e : look (allTo (sideS b) n n) (low : Int) ((low + (k + 1) : Nat) : Int) = some (sideS b) := by
    refine look_of (allTo_mem.mpr ⟨low, k, h, rfl⟩) fun s' hs => ?_
    exact allTo_side _ _ _ _ hs
  rw [e]
  exact congrArg some (sideB_sideS _)
/-- always the right end of coins that rise -/
theorem shows_right {c s : Int} {n : Nat} (hs : 0 < s) (first : Bool) (least : Int) : showsV (riseRow c s n) (allTo "right" n n) first least = if first then decide (least ≤ wv (riseRow c s n) n 0) else decide (wv (riseRow c s n) n 0 < least) := by
  have g := gotV_best (riseRow c s n) (tabF (allTo (sideS false) n n)) (fun m low h => by
    rw [rise_len] at h
    exact ⟨false, allTo_look h, rise_right hs m low h⟩) n 0 (by rw [rise_len]; omega)
  have ok : tabOk (riseRow c s n).length none (allTo "right" n n) = true := by
    rw [rise_len]
    exact allTo_ok false n
  unfold showsV plannedV
  rw [if_pos ok, rise_len]
  cases first with
  | true =>
    rw [show gotV (riseRow c s n) (tabF (allTo "right" n n)) n 0 true = _ from g.1]
    rfl
  | false =>
    rw [show gotV (riseRow c s n) (tabF (allTo "right" n n)) n 0 false = _ from g.2]
    show decide (- -wv (riseRow c s n) n 0 < least) = _
    rw [Int.neg_neg]
    rfl
/-- always the left one: nothing is won -/
theorem got_left {c s : Int} {n : Nat} (hs : 0 < s) (f : Nat → Nat → Option Bool) (hf : ∀ m low, low + (m + 1) ≤ n → f low (low + (m + 1)) = some true) : ∀ k low v, low + 2 * k ≤ n → gotV (riseRow c s n) f (2 * k) low true = some v → v ≤ 0
  | 0, low, v, _, e => by
    rw [show 2 * 0 = 0 from rfl, gotV_zero] at e
    have := Option.some.inj e
    omega
  | k + 1, low, v, h, e => by
    have e' : gotV (riseRow c s n) f (2 * k + 1 + 1) low true = some v := e
    rw [gotV_mine, hf (2 * k + 1) low (by omega)] at e'
    have e2 : ((gotV (riseRow c s n) f (2 * k + 1) (low + 1) false).bind fun r => some (r + coinOf (riseRow c s n) true low (2 * k + 1))) = some v := e'
    obtain ⟨r, hr, er⟩ := Option.bind_eq_some_iff.mp e2
    have ev := Option.some.inj er
    rw [gotV_his] at hr
    obtain ⟨r1, hr1, hr⟩ := Option.bind_eq_some_iff.mp hr
    obtain ⟨r2, hr2, hr⟩ := Option.bind_eq_some_iff.mp hr
    have ih := got_left (c := c) hs f hf k (low + 1) r2 (by omega) hr2
    have er2 := Option.some.inj hr
    have ec : coinOf (riseRow c s n) false (low + 1) (2 * k) = c + tms (low + 1 + 2 * k) s := rise_at (by omega)
    have ec2 : coinOf (riseRow c s n) true low (2 * k + 1) = c + tms low s := rise_at (by omega)
    have et : tms (low + 1 + 2 * k) s = tms low s + tms (2 * k + 1) s := by rw [show low + 1 + 2 * k = low + (2 * k + 1) by omega, tms_add]
    have p := tms_pos1 (k := 2 * k) hs
    rw [ec] at er2
    rw [ec2] at ev
    split at er2 <;> omega
theorem shows_left {c s : Int} {k : Nat} (hs : 0 < s) {least : Int} (h : 0 < least) : showsV (riseRow c s (2 * k)) (allTo "left" (2 * k) (2 * k)) true least = false := by
  have ok : tabOk (riseRow c s (2 * k)).length none (allTo "left" (2 * k) (2 * k)) = true := by
    rw [rise_len]
    exact allTo_ok true (2 * k)
  unfold showsV plannedV
  rw [if_pos ok, rise_len]
  cases e : gotV (riseRow c s (2 * k)) (tabF (allTo "left" (2 * k) (2 * k))) (2 * k) 0 true with
  | none => rfl
  | some v =>
    have q := got_left (c := c) hs (tabF (allTo (sideS true) (2 * k) (2 * k))) (fun m low h => allTo_look h) k 0 v (by omega) e
    show decide (least ≤ v) = false
    exact decide_eq_false (by omega)
/-! ### alike coins -/
theorem same_get {c : Int} {n i : Nat} (h : i < n) : (List.replicate n c).getD i 0 = c := by
  rw [List.getD_eq_getElem?_getD, List.getElem?_replicate, if_pos h]
  rfl
theorem same_wv {c : Int} {n : Nat} : ∀ m low, low + m ≤ n → wv (List.replicate n c) m low = if m % 2 = 0 then 0 else c
  | 0, low, _ => wv_zero _ _
  | m + 1, low, h => by
    rw [wv_succ, same_wv m low (by omega), same_wv m (low + 1) (by omega), same_get (by omega), same_get (by omega), if_neg (by omega)]
    by_cases e : m % 2 = 0
    · rw [if_pos e, if_neg (by omega)]
      omega
    · rw [if_neg e, if_pos (by omega)]
      omega
theorem same_ends {c : Int} {n : Nat} (m low : Nat) (h : low + (m + 1) ≤ n) : ends (List.replicate n c) (m + 1) low = [true, false] := by
  rw [ends_succ, wv_succ, same_wv m low (by omega), same_wv m (low + 1) (by omega), same_get (by omega), same_get (by omega), ite_self, if_pos rfl, if_pos rfl]
  rfl
theorem same_many {c : Int} {n : Nat} : ∀ m low, low + m ≤ n → (plays (List.replicate n c) m low).length = 2 ^ m
  | 0, low, _ => rfl
  | m + 1, low, h => by
    rw [plays_succ, same_ends m low h]
    have h1 := same_many (c := c) (n := n) m (low + 1) (by omega)
    have h2 := same_many (c := c) (n := n) m low (by omega)
    rw [List.flatMap_cons, List.flatMap_cons, List.flatMap_nil, List.append_nil, List.length_append, List.length_map, List.length_map]
    show (plays (List.replicate n c) m (low + 1)).length + (plays (List.replicate n c) m low).length = _
    rw [h1, h2, Nat.pow_succ]
    omega
end RE
/-! plain facts of the rows and plays of k09 -/
namespace RE
open PySem PySem.Spec PyProof.Rows L2
/-! ### stretches as rows -/
theorem stretch_getD {ns : List Int} {lo n i : Nat} (h : i < n) : (stretch ns lo n).getD i 0 = ns.getD (lo + i) 0 := by
  rw [List.getD_eq_getElem?_getD, stretch_get h, List.getD_eq_getElem?_getD]
theorem wv_stretch (ns : List Int) (lo n : Nat) : ∀ m k, k + m ≤ n → wv (stretch ns lo n) m k = wv ns m (lo + k)
  | 0, k, _ => by rw [wv_zero, wv_zero]
  | m + 1, k, h => by
    have h1 := wv_stretch ns lo n m k (by omega)
    have h2 := wv_stretch ns lo n m (k + 1) (by omega)
    rw [wv_succ, wv_succ, h1, h2, stretch_getD (by omega), stretch_getD (by omega), show lo + (k + m) = lo + k + m by omega, show lo + (k + 1) = lo + k + 1 by omega]
theorem ends_stretch (ns : List Int) (lo n m : Nat) (h : m + 1 ≤ n) : ends (stretch ns lo n) (m + 1) 0 = ends ns (m + 1) lo := by
  have h1 := wv_stretch ns lo n m 0 (by omega)
  have h2 := wv_stretch ns lo n m (0 + 1) (by omega)
  have h3 := wv_stretch ns lo n (m + 1) 0 (by omega)
  rw [ends_succ, ends_succ, h1, h2, h3, stretch_getD (by omega), stretch_getD (by omega)]
  simp only [Nat.add_zero, Nat.zero_add]
theorem RowOk.stretch {ns : List Int} (h : RowOk ns) (lo n : Nat) : RowOk (stretch ns lo n) := by
  have hm : ∀ z ∈ RE.stretch ns lo n, z ∈ ns := fun z hz => List.mem_of_mem_drop (List.mem_of_mem_take hz)
  refine ⟨?_, fun z hz => h.2 z (hm z hz)⟩
  unfold RE.stretch
  rw [List.length_take, List.length_drop]
  have := h.1
  omega
theorem ledLow_le : ∀ (bs : List Bool) (low : Nat), ledLow low bs ≤ low + bs.length
  | [], low => Nat.le_refl _
  | b :: bs, low => by
    have h := ledLow_le bs (lowOf b low)
    have e : lowOf b low ≤ low + 1 := by cases b <;> simp [lowOf]
    rw [List.length_cons]
    show ledLow (lowOf b low) bs ≤ _
    omega
/-- each take of a best play is a best end -/
theorem plays_at (ns : List Int) : ∀ n low pl, pl ∈ plays ns n low → ∀ i b, pl[i]? = some b → b ∈ ends ns (n - i) (ledLow low (pl.take i))
  | 0, low, pl, h, i, b, e => by
    rw [plays_zero, List.mem_singleton] at h
    subst h
    simp at e
  | m + 1, low, pl, h, i, b, e => by
    rw [plays_succ] at h
    obtain ⟨c, hc, h⟩ := List.mem_flatMap.mp h
    obtain ⟨q, hq, rfl⟩ := List.mem_map.mp h
    cases i with
    | zero =>
      have e' : c = b := by simpa using e
      subst e'
      exact hc
    | succ i =>
      have ih := plays_at ns m _ q hq i b (by simpa using e)
      rw [show m + 1 - (i + 1) = m - i by omega, List.take_succ_cons]
      exact ih
/-! ### the order of plays -/
def plD (pl : List Bool) : PyData := .list ((sidesV pl).map vD)
def tokP (pl : List Bool) : List (Int ⊕ List Nat) := PySem.W.keyToks (plD pl)
theorem tokP_cons (b : Bool) (p : List Bool) : tokP (b :: p) = [Sum.inl 1, Sum.inr (sideS b).cps.toList] ++ tokP p := by
  unfold tokP plD sidesV
  simp only [List.map_cons, vD, PySem.W.keyToks, PySem.W.keyToksAll]
  rfl
theorem tok_same (b : Bool) (p q : List Bool) : lexLt itemOrd (tokP (b :: p)) (tokP (b :: q)) = lexLt itemOrd (tokP p) (tokP q) := by
  rw [tokP_cons, tokP_cons, PySem.W.lex_pre]
theorem tok_diff (p q : List Bool) : lexLt itemOrd (tokP (true :: p)) (tokP (false :: q)) = true := by
  rw [tokP_cons, tokP_cons]
  show lexLt itemOrd (Sum.inl 1 :: Sum.inr (sideS true).cps.toList :: tokP p) (Sum.inl 1 :: Sum.inr (sideS false).cps.toList :: tokP q) = true
  rw [lex_self, lex_diff (by decide +kernel)]
  decide +kernel
theorem ends_order (ns : List Int) (m low : Nat) : (ends ns (m + 1) low).Pairwise fun a b => a = true ∧ b = false := by
  rw [ends_filter]
  exact List.Pairwise.filter _ (by simp)
theorem plays_order (ns : List Int) : ∀ n low, (plays ns n low).Pairwise fun p q => lexLt itemOrd (tokP p) (tokP q) = true
  | 0, low => by
    rw [plays_zero]
    exact List.pairwise_singleton _ _
  | m + 1, low => by
    rw [plays_succ, List.pairwise_flatMap]
    refine ⟨fun b _ => ?_, ?_⟩
    · rw [List.pairwise_map]
      exact (plays_order ns m (lowOf b low)).imp fun {p q} h => by rw [tok_same]; exact h
    · refine (ends_order ns m low).imp fun {a b} h x hx y hy => ?_
      obtain ⟨p, _, rfl⟩ := List.mem_map.mp hx
      obtain ⟨q, _, rfl⟩ := List.mem_map.mp hy
      rw [h.1, h.2]
      exact tok_diff p q
theorem plays_ne {ns : List Int} {n low i : Nat} {p q : List Bool} (h1 : (plays ns n low)[i]? = some p) (h2 : (plays ns n low)[i + 1]? = some q) : p ≠ q := by
  intro e
  subst e
  have o := plays_order ns n low
  rw [List.pairwise_iff_getElem] at o
  obtain ⟨l1, e1⟩ := List.getElem?_eq_some_iff.mp h1
  obtain ⟨l2, e2⟩ := List.getElem?_eq_some_iff.mp h2
  have z := o i (i + 1) l1 l2 (Nat.lt_succ_self _)
  rw [e1, e2, lex_irrefl] at z
  cases z
/-! ### lists of plays as data -/
def kOf (H : Hp) : V → PyData
  | .ref q => match H q with
    | some (.lst vs) => .list (vs.map vD)
    | _ => .none
  | _ => .none
theorem kOf_at {H : Hp} {q : Addr} {pl : List Bool} (h : H q = some (.lst (sidesV pl))) : kOf H (.ref q) = plD pl := by
  unfold kOf
  simp only [h]
  rfl
theorem lsts_map {H : Hp} : ∀ {xs : List V} {pls : List (List Bool)}, Lsts H xs pls → xs.map (kOf H) = pls.map plD
  | _, _, .nil => rfl
  | _, _, .cons h t => by rw [List.map_cons, List.map_cons, kOf_at h, lsts_map t]
theorem dp_play {K : PySem.W.Frag} {H : Hp} {q : Addr} {pl : List Bool} (h : H q = some (.lst (sidesV pl))) : Dp K H (.ref q) (plD pl) := dp_lst (SqL.of h) (sidesV_ok pl)
theorem lsts_dp {K : PySem.W.Frag} {H : Hp} {xs : List V} {pls : List (List Bool)} (h : Lsts H xs pls) : ∀ x ∈ xs, Dp K H x (kOf H x) := by
  induction h with
  | nil => exact fun _ z => nomatch z
  | cons h t ih =>
    refine List.forall_mem_cons.mpr ⟨?_, ih⟩
    rw [kOf_at h]
    exact dp_play h
theorem dps_lsts {K : PySem.W.Frag} {H : Hp} : ∀ {xs : List V} {pls : List (List Bool)}, Lsts H xs pls → DpAll K H xs (pls.map plD)
  | _, _, .nil => .nil
  | _, _, .cons h t => .cons (dp_play h) (dps_lsts t)
theorem sh_play (pl : List Bool) : Sh (plD pl) 1 := Sh.list (sha_flat (sidesV_ok pl) 0)
theorem sha_lsts : ∀ pls : List (List Bool), ShA (pls.map plD) 1
  | [] => .nil 1
  | p :: ps => .cons (sh_play p) (sha_lsts ps)
theorem alike_sides : ∀ p q : List Bool, PySem.W.alikeAll ((sidesV p).map vD) ((sidesV q).map vD) = true
  | [], q => by
    unfold sidesV
    simp [PySem.W.alikeAll]
  | _ :: _, [] => by
    unfold sidesV
    simp [PySem.W.alikeAll]
  | a :: p, b :: q => by
    have ih := alike_sides p q
    unfold sidesV at ih ⊢
    simp only [List.map_cons, vD, PySem.W.alikeAll, PySem.W.alike, ih, Bool.and_self]
theorem alike_plays (pls : List (List Bool)) : PySem.W.AllAlike (pls.map plD) := by
  intro d hd e he
  obtain ⟨p, _, rfl⟩ := List.mem_map.mp hd
  obtain ⟨q, _, rfl⟩ := List.mem_map.mp he
  unfold plD
  simp only [PySem.W.alike]
  exact alike_sides p q
theorem sortable_plays (pls : List (List Bool)) : PySem.W.Sortable (pls.map plD) := by
  refine .inr fun d hd => ?_
  obtain ⟨p, _, rfl⟩ := List.mem_map.mp hd
  unfold plD
  exact ⟨(by intro z; cases z), (by intro xs z; cases z)⟩
theorem plays_le_data {H : Hp} {xs : List V} {ns : List Int} {n low : Nat} (h : Lsts H xs (plays ns n low)) : xs.Pairwise fun x y => PySem.W.dataLe false (kOf H) x y = true := by
  have o := plays_order ns n low
  have e : (xs.map (kOf H)).Pairwise fun d e => lexLt itemOrd (PySem.W.keyToks d) (PySem.W.keyToks e) = true := by
    rw [lsts_map h, List.pairwise_map]
    exact o
  rw [List.pairwise_map] at e
  refine e.imp fun {x y} z => ?_
  show (!lexLt itemOrd (PySem.W.keyToks (kOf H y)) (PySem.W.keyToks (kOf H x))) = true
  cases c : lexLt itemOrd (PySem.W.keyToks (kOf H y)) (PySem.W.keyToks (kOf H x)) with
  | false => rfl
  | true =>
    have t := lex_trans (O := itemOrd) _ _ _ z c
    rw [lex_irrefl] at t
    cases t
theorem alike9 {H : Hp} {xs : List V} {pls : List (List Bool)} (h : Lsts H xs pls) : PySem.W.AllAlike (xs.map (kOf H)) := by
  rw [lsts_map h]
  exact alike_plays _
theorem sortable9 {H : Hp} {xs : List V} {pls : List (List Bool)} (h : Lsts H xs pls) : PySem.W.Sortable (xs.map (kOf H)) := by
  rw [lsts_map h]
  exact sortable_plays _
theorem depth9 {H : Hp} {xs : List V} {pls : List (List Bool)} (h : Lsts H xs pls) : ∀ x ∈ xs, (kOf H x).depth ≤ 8 := fun x hx => by
  have m : kOf H x ∈ xs.map (kOf H) := List.mem_map.mpr ⟨x, hx, rfl⟩
  rw [lsts_map h] at m
  obtain ⟨p, _, e⟩ := List.mem_map.mp m
  rw [← e]
  exact Nat.le_trans (sh_play p).dep (by decide)
theorem eqvAll_sides : ∀ p q : List Bool, PyData.eqvAll ((sidesV p).map vD) ((sidesV q).map vD) = decide (p = q)
  | [], [] => by simp [sidesV, PyData.eqvAll]
  | [], _ :: _ => by simp [sidesV, PyData.eqvAll]
  | _ :: _, [] => by simp [sidesV, PyData.eqvAll]
  | a :: p, b :: q => by
    have ih := eqvAll_sides p q
    unfold sidesV at ih ⊢
    simp only [List.map_cons, PyData.eqvAll, vD, PyData.eqv, ih]
    have hs : (sideS a == sideS b) = decide (a = b) := by cases a <;> cases b <;> decide +kernel
    rw [hs]
    cases a <;> cases b <;> simp
theorem eqv_sides (p q : List Bool) : PyData.eqv (plD p) (plD q) = decide (p = q) := by
  unfold plD
  rw [PyData.eqv]
  exact eqvAll_sides p q
theorem in_sides {b : Bool} {es : List Bool} (h : b ∈ es) : inV (.str (sideS b)) (sidesV es) = true := by
  unfold inV sidesV
  rw [List.any_map, List.any_eq_true]
  exact ⟨b, h, by cases b <;> decide +kernel⟩
theorem flat_sides (es : List Bool) : (sidesV es).all flatV = true := by
  unfold sidesV
  rw [List.all_map, List.all_eq_true]
  exact fun b _ => rfl
theorem sides_get {pl : List Bool} {j : Nat} {b : Bool} (h : pl[j]? = some b) : (sidesV pl)[j]? = some (.str (sideS b)) := by
  unfold sidesV
  rw [List.getElem?_map, h]
  rfl
theorem sides_take (pl : List Bool) (j : Nat) : sidesV (pl.take j) = (sidesV pl).take j := by
  unfold sidesV
  rw [List.map_take]
theorem cut_to (xs : List V) (j : Nat) (h : j ≤ xs.length) : cutV xs none (some (0 + (j : Int))) = xs.take j := by
  unfold cutV
  rw [Int.zero_add, show HT.sIx xs.length xs.length (some ((j : Nat) : Int)) = min j xs.length from HT.sIx_nat _ _ j, HT.sIx_none, Nat.min_eq_left h]
  simp
theorem best_at {ns : List Int} {pl : List Bool} {j : Nat} {b : Bool} (hp : pl ∈ plays ns ns.length 0) (hb : pl[j]? = some b) :
    b ∈ ends (stretch ns (ledLow 0 (pl.take j)) (ns.length - (pl.take j).length)) (stretch ns (ledLow 0 (pl.take j)) (ns.length - (pl.take j).length)).length 0 := by
  have plen := plays_length ns _ _ pl hp
  obtain ⟨hj, _⟩ := List.getElem?_eq_some_iff.mp hb
  have tl : (pl.take j).length = j := by rw [List.length_take]; omega
  have lo := ledLow_le (pl.take j) 0
  rw [tl, Nat.zero_add] at lo
  rw [tl, stretch_len (by omega)]
  have h := plays_at ns _ _ pl hp j b hb
  obtain ⟨m, hm⟩ : ∃ m, ns.length - j = m + 1 := ⟨ns.length - j - 1, by omega⟩
  rw [hm] at h ⊢
  rw [ends_stretch _ _ _ _ (Nat.le_refl _)]
  exact h
/-! ### rows of two kinds of coins by turns -/
theorem turns_wv {n : Int} (hn : 0 ≤ n) {ns : List Int} {N : Nat} (h : ∀ i, i < N → ns.getD i 0 = if i % 2 = 0 then 1 else n + 1) : ∀ k low, (low + 2 * k ≤ N → wv ns (2 * k) low = tms k n) ∧ (low + (2 * k + 1) ≤ N → wv ns (2 * k + 1) low = (if low % 2 = 0 then 1 else n + 1) - tms k n)
  | 0, low => by
    refine ⟨fun _ => by rw [tms_zero]; exact wv_zero _ _, fun hl => ?_⟩
    show wv ns (0 + 1) low = _
    rw [wv_succ, wv_zero, wv_zero, Nat.add_zero, h low (by omega), if_neg (by omega), tms_zero]
  | k + 1, low => by
    have even : ∀ low, low + 2 * (k + 1) ≤ N → wv ns (2 * (k + 1)) low = tms (k + 1) n := by
      intro low hl
      show wv ns (2 * k + 1 + 1) low = _
      have h1 := (turns_wv hn h k low).2 (by omega)
      have h2 := (turns_wv hn h k (low + 1)).2 (by omega)
      rw [wv_succ, h1, h2, h _ (by omega), h _ (by omega), tms_succ]
      by_cases c : low % 2 = 0
      · rw [if_pos c, if_neg (show ¬ (low + 1) % 2 = 0 by omega), if_neg (show ¬ (low + (2 * k + 1)) % 2 = 0 by omega)]
        split <;> omega
      · rw [if_neg c, if_pos (show (low + 1) % 2 = 0 by omega), if_pos (show (low + (2 * k + 1)) % 2 = 0 by omega)]
        split <;> omega
    refine ⟨even low, fun hl => ?_⟩
    have g1 := even low (by omega)
    have g2 := even (low + 1) (by omega)
    rw [wv_succ, g1, g2, h _ (by omega), h _ (by omega)]
    by_cases c : low % 2 = 0
    · rw [if_pos c, if_pos (show (low + 2 * (k + 1)) % 2 = 0 by omega)]
      split <;> omega
    · rw [if_neg c, if_neg (show ¬ (low + 2 * (k + 1)) % 2 = 0 by omega)]
      split <;> omega
theorem turns12 {n : Int} (hn : 0 ≤ n) : wv [1, n + 1, 1, n + 1, 1, n + 1, 1, n + 1, 1, n + 1, 1, n + 1] 12 0 = 6 * n := by
  have e := (turns_wv (N := 12) (ns := [1, n + 1, 1, n + 1, 1, n + 1, 1, n + 1, 1, n + 1, 1, n + 1]) hn (fun i hi => by
    match i, hi with
    | 0, _ | 1, _ | 2, _ | 3, _ | 4, _ | 5, _ | 6, _ | 7, _ | 8, _ | 9, _ | 10, _ | 11, _ => rfl) 6 0).1 (by decide)
  exact e
/-! ### small rows -/
theorem wv_one (n : Int) : wv [n] 1 0 = n := by
  show wv [n] (0 + 1) 0 = n
  rw [wv_succ, wv_zero, wv_zero]
  show (if n - 0 > n - 0 then n - 0 else n - 0) = n
  split <;> omega
theorem wv_two (a b : Int) : wv [a, b] 2 0 = if b - a > a - b then b - a else a - b := by
  have h1 : wv [a, b] 1 0 = a := by
    show wv [a, b] (0 + 1) 0 = a
    rw [wv_succ, wv_zero, wv_zero]
    show (if a - 0 > a - 0 then a - 0 else a - 0) = a
    split <;> omega
  have h2 : wv [a, b] 1 1 = b := by
    show wv [a, b] (0 + 1) 1 = b
    rw [wv_succ, wv_zero, wv_zero]
    show (if b - 0 > b - 0 then b - 0 else b - 0) = b
    split <;> omega
  show wv [a, b] (1 + 1) 0 = _
  rw [wv_succ, h1, show wv [a, b] 1 (0 + 1) = b from h2]
  rfl
theorem plays_one (n : Int) : plays [n] 1 0 = [[true], [false]] := by
  show plays [n] (0 + 1) 0 = _
  rw [plays_succ, one_ends]
  rfl
theorem ends_two {n : Int} (h : 0 < n) : ends [n, 0] 2 0 = [true] := by
  have h1 : wv [n, 0] 1 0 = n := by
    show wv [n, 0] (0 + 1) 0 = n
    rw [wv_succ, wv_zero, wv_zero]
    show (if n - 0 > n - 0 then n - 0 else n - 0) = n
    split <;> omega
  have h2 : wv [n, 0] 1 (0 + 1) = 0 := by
    show wv [n, 0] (0 + 1) (0 + 1) = 0
    rw [wv_succ, wv_zero, wv_zero]
    show (if (0 : Int) - 0 > 0 - 0 then (0 : Int) - 0 else 0 - 0) = 0
    rfl
  show ends [n, 0] (1 + 1) 0 = _
  have h3 : wv [n, 0] (1 + 1) 0 = n := by
    rw [show wv [n, 0] (1 + 1) 0 = wv [n, 0] 2 0 from rfl, wv_two]
    split <;> omega
  rw [ends_succ, h1, h2, h3]
  show (if n - 0 = n then [true] else []) ++ (if 0 - n = n then [false] else []) = [true]
  rw [if_pos (by omega), if_neg (by omega)]
  rfl
theorem plays_two {n : Int} (h : 0 < n) : plays [n, 0] 2 0 = [[true, true], [true, false]] := by
  show plays [n, 0] (1 + 1) 0 = _
  rw [plays_succ, show ends [n, 0] (1 + 1) 0 = [true] from ends_two h]
  show (plays [n, 0] (0 + 1) (lowOf true 0)).map (fun p => true :: p) ++ [] = _
  rw [plays_succ, one_ends]
  rfl
end RE
/-! what is no row, no takes, no number: general facts (the like of RE5's, for laws without REHot) -/
namespace RE
open PySem PySem.Spec PyProof.Rows L2
variable {K : PySem.W.Frag} {H H' : Hp}
theorem NoRow.mono {x : V} (s : Same H H') (h : NoRow K H x) : NoRow K H' x := by
  rcases h with ⟨T, pv, hT⟩ | ⟨a, xs, rfl, hS, h⟩
  · exact .inl ⟨T, pv.mono s, hT⟩
  · refine .inr ⟨a, xs, rfl, s.seq hS, ?_⟩
    rcases h with h | ⟨h1, h2, h3⟩
    · exact .inl h
    · exact .inr ⟨h1, fun y hy => let ⟨T, p⟩ := h2 y hy; ⟨T, p.mono s⟩, h3⟩
theorem NoTakes.mono {x : V} {n : Nat} (s : Same H H') (h : NoTakes K H x n) : NoTakes K H' x n := by
  rcases h with ⟨T, pv, hT⟩ | ⟨a, xs, rfl, hS, h⟩
  · exact .inl ⟨T, pv.mono s, hT⟩
  · refine .inr ⟨a, xs, rfl, s.seq hS, ?_⟩
    rcases h with h | ⟨h1, h2, h3⟩
    · exact .inl h
    · exact .inr ⟨h1, fun y hy => let ⟨T, p⟩ := h2 y hy; ⟨T, p.mono s⟩, h3⟩
theorem NoWhole.mono {x : V} (s : Same H H') (h : NoWhole K H x) : NoWhole K H' x := let ⟨T, p, e⟩ := h; ⟨T, p.mono s, e⟩
def OddRow (K : PySem.W.Frag) (H : Hp) (x : V) : Prop := ∃ ns, IsRow K H x ns ∧ ns.length % 2 = 1
theorem OddRow.mono {x : V} (s : Same H H') (h : OddRow K H x) : OddRow K H' x := by
  obtain ⟨ns, ⟨a, e, hS, ok⟩, h⟩ := h
  exact ⟨ns, ⟨a, e, s.seq hS, ok⟩, h⟩
theorem all_false_at {p : V → Bool} : ∀ {xs : List V} {y : V}, y ∈ xs → p y = false → xs.all p = false := fun {xs y} hy e => by
  cases h : xs.all p with
  | false => rfl
  | true => rw [List.all_eq_true.mp h y hy] at e; cases e
theorem pvs_nil : ∀ y ∈ ([] : List V), ∃ T, PV K H y T := fun _ z => nomatch z
theorem pvs_cons {x : V} {xs : List V} {T : String} (h : PV K H x T) (t : ∀ y ∈ xs, ∃ T, PV K H y T) : ∀ y ∈ x :: xs, ∃ T, PV K H y T := List.forall_mem_cons.mpr ⟨⟨T, h⟩, t⟩
theorem coin_lo {z : Int} (h : z < 0) : coinB (.int z) = false := by
  unfold coinB; simp; omega
theorem coin_hi {z : Int} (h : 1000000 < z) : coinB (.int z) = false := by
  unfold coinB; simp; omega
theorem ixN_lt {n j : Nat} (h : j < n) : ixN n (j : Int) = some j := by
  unfold ixN
  rw [if_pos (Int.natCast_nonneg j), if_pos (by omega), Int.toNat_natCast]
theorem coin_no {x : V} {T : String} (pv : PV K H x T) (hT : (T == "int") = false) : coinB x = false := by
  cases x with
  | int i =>
    rw [pv.of_int] at hT
    cases hT
  | _ => rfl
/-- a row of four with one bad coin -/
theorem bad4 {r : Addr} {x : V} {T : String} {j : Nat} (hr : H r = some (.lst ([V.int 1, V.int 2, V.int 3, V.int 4].set j x))) (hj : j < 4) (pv : PV K H x T) (hT : (T == "int") = false) : NoRow K H (.ref r) := by
  refine .inr ⟨r, _, rfl, SqL.of hr, .inr ⟨by rw [List.length_set]; decide, fun y hy => ?_, all_false_at (y := x) ?_ (coin_no pv hT)⟩⟩
  · rcases List.mem_or_eq_of_mem_set hy with h | h
    · have : ∃ i, y = .int i := by
        simp only [List.mem_cons, List.not_mem_nil, or_false] at h
        rcases h with rfl | rfl | rfl | rfl <;> exact ⟨_, rfl⟩
      obtain ⟨i, rfl⟩ := this
      exact ⟨_, pv_int i⟩
    · subst h
      exact ⟨T, pv⟩
  · rcases (show j = 0 ∨ j = 1 ∨ j = 2 ∨ j = 3 by omega) with rfl | rfl | rfl | rfl <;> simp
theorem rep_len (k : Nat) (y : V) : (List.replicate k [y]).flatten.length = k := by
  rw [List.length_flatten, List.map_replicate, List.sum_replicate_nat]
  simp
theorem rep_le {k : Int} (h : k ≤ 64) : 1 * k.toNat ≤ sizeLine := Nat.le_trans (show 1 * k.toNat ≤ 64 by omega) (by decide)
theorem rep_gt {k : Int} {y : V} (h : 3 < k) : 3 < ((List.replicate k.toNat [y]).flatten).length := by
  rw [rep_len]
  omega
end RE
/-! what k09's walks use -/
namespace RE
open PySem PySem.Spec PyProof.Rows L2 LamX NdefX
theorem sw_cell {elt : Expr} {gs : List Comprehension} {scope : Scope} {pos py : Pos} {y : Str} {l : Nat} {env : Env} (hy : env.scope.names.lookup y = some .cell) : swapsWith (.ListComp elt gs scope pos) (some (.Name y py)) l env = pure false := by
  have ky : env.kindOf y = some .cell := hy
  unfold swapsWith
  simp only [ky]
  have e : (some NameKind.cell == some NameKind.local) = false := by decide
  simp only [e, Bool.and_false, Bool.false_and]
theorem free_none {sc scope : Scope} (h : (scope.names.all fun y => !decide (y.2 = .free)) = true) : ∀ y ∈ scope.names, y.2 = .free → sc.names.lookup y.1 = some .cell ∨ sc.names.lookup y.1 = some .free := by
  intro y hy e
  have q := List.all_eq_true.mp h y hy
  rw [decide_eq_true e] at q
  cases q
/-! ### heaps without tables -/
def noTab (H : Hp) : Hp := fun b => match H b with
  | some (.tbl _) => none
  | o => o
theorem noTab_at {H : Hp} {a : Addr} {o : HO} (h : H a = some o) (n : ∀ ps, o ≠ .tbl ps) : noTab H a = some o := by
  unfold noTab
  rw [h]
  cases o with
  | tbl ps => exact absurd rfl (n ps)
  | _ => rfl
theorem noTab_lst {H : Hp} {a : Addr} {xs : List V} (h : H a = some (.lst xs)) : noTab H a = some (.lst xs) := noTab_at h (by intro _ z; cases z)
theorem noTab_tup {H : Hp} {a : Addr} {xs : List V} (h : H a = some (.tup xs)) : noTab H a = some (.tup xs) := noTab_at h (by intro _ z; cases z)
theorem noTab_sub (H : Hp) : Same (noTab H) H := by
  intro b o e
  unfold noTab at e
  cases h : H b with
  | none => rw [h] at e; cases e
  | some u =>
    rw [h] at e
    cases u with
    | tbl ps => cases e
    | _ => exact e
theorem noTab_ext {H H' : Hp} (e : ExtN H H') : Same (noTab H) H' := by
  intro b o q
  refine e b o (noTab_sub H b o q) fun ps z => ?_
  subst z
  have h := noTab_sub H b _ q
  unfold noTab at q
  rw [h] at q
  cases q
theorem ext_noTab {H H' : Hp} (s : Same (noTab H) H') : ExtN H H' := fun b o h n => s b o (noTab_at h n)
theorem noTab_none {H : Hp} {a : Addr} (h : H a = none) : noTab H a = none := by
  unfold noTab
  rw [h]
theorem tabs_but {T : List (Addr × Str)} {H H' : Hp} {D : Addr} {xs : List V} (t : Tabs T H) (s : SameBut D H H') (hD : H D = some (.lst xs)) : Tabs T H' := by
  intro p hp
  obtain ⟨ps, h1, h2, h3⟩ := t p hp
  have n1 : p.1 ≠ D := fun z => by
    rw [z, hD] at h1
    cases h1
  refine ⟨ps, s _ _ n1 h1, h2, fun pos cv hc => ?_⟩
  obtain ⟨c, e, hcc⟩ := h3 pos cv hc
  have n2 : c ≠ D := fun z => by
    rw [z, hD] at hcc
    cases hcc
  exact ⟨c, e, s _ _ n2 hcc⟩
/-! ### one more of the same in a list that is being made -/
theorem rp_step {H0 Hx Hy : Hp} {D : Addr} {i : Nat} {y : V} (nD : H0 D = none) (sx : Same H0 Hx) (hD : Hx D = some (.lst (List.replicate i y))) (s : Same Hx Hy) (hi : i < 100000) :
    ∃ acc, Hy D = some (.lst acc) ∧ acc.length < sizeLine ∧ (Same H0 (upd Hy D (.lst (acc ++ [y]))) ∧ upd Hy D (.lst (acc ++ [y])) D = some (.lst (List.replicate (i + 1) y))) := by
  refine ⟨_, s _ _ hD, by rw [List.length_replicate]; exact size_lt hi, fun b o e => ?_, ?_⟩
  · rw [upd_ne (ne_of_none e nD)]
    exact s _ _ (sx _ _ e)
  · rw [upd_same, ← List.replicate_succ']
theorem rp_stepT {T : List (Addr × Str)} {H0 Hy : Hp} {D : Addr} {i : Nat} {y : V} (nD : H0 D = none) (sx : ExtN H0 Hy) (hT : Tabs T Hy) (hD : Hy D = some (.lst (List.replicate i y))) (hi : i < 100000) :
    ∃ acc, Hy D = some (.lst acc) ∧ acc.length < sizeLine ∧ (ExtN H0 (upd Hy D (.lst (acc ++ [y]))) ∧ Tabs T (upd Hy D (.lst (acc ++ [y]))) ∧ upd Hy D (.lst (acc ++ [y])) D = some (.lst (List.replicate (i + 1) y))) := by
  refine ⟨_, hD, by rw [List.length_replicate]; exact size_lt hi, fun b o e n => ?_, tabs_but hT (SameBut.put _) hD, ?_⟩
  · rw [upd_ne (ne_of_none e nD)]
    exact sx _ _ e n
  · rw [upd_same, ← List.replicate_succ']
theorem rep_bl (n : Nat) (b : Bool) : List.replicate n (V.bl b) = (List.replicate n b).map V.bl := by rw [List.map_replicate]
theorem any_false (n : Nat) : (List.replicate n false).any id = false := by
  induction n with
  | zero => rfl
  | succ n ih => rw [List.replicate_succ, List.any_cons, ih]; rfl
/-! ### a cell made known for a while -/
theorem same_back {H H' : Hp} {c : Addr} {o : Obj} (hc : H c = some (CellO c o)) (s : Same (lessH H c) H') : Same H (upd H' c (CellO c o)) := by
  intro b u e
  by_cases h : b = c
  · subst h
    rw [hc] at e
    rw [upd_same]
    exact e
  · rw [upd_ne h]
    exact s b u (by rw [lessH_ne h]; exact e)
theorem same_gone {H H' : Hp} {c : Addr} {o : Obj} (nc : H c = none) (s : Same (upd H c (CellO c o)) H') : Same H (lessH H' c) := by
  intro b u e
  have h := ne_of_none e nc
  rw [lessH_ne h]
  exact s b u (by rw [upd_ne h]; exact e)
theorem gen_less {P : Hp → Prop} {H H' : Hp} {c : Addr} {o : Obj} (nc : H c = none) (s : Same (upd H c (CellO c o)) H') (k : ∀ Hw, Same H Hw → P Hw) : P (lessH H' c) := k _ (same_gone nc s)
/-! ### cases by hand -/
/-- a row, takes, what they give -/
def LCase (H : Hp) (x : V) : Prop := ∃ (q r t d l : Addr) (ns : List Int) (bs : List Bool) (a b : Int) (zs : List Int), x = .ref q ∧ H q = some (.tup [.ref r, .ref t, .ref d]) ∧ H r = some (.lst (ns.map V.int)) ∧ H t = some (.lst (sidesV bs)) ∧ H d = some (.tup [.int a, .int b, .ref l]) ∧ H l = some (.lst (zs.map V.int)) ∧
  RowOk ns ∧ bs.length ≤ ns.length ∧ ledR ns ns.length 0 bs = (a, b) ∧ stretch ns (ledLow 0 bs) (ns.length - bs.length) = zs
theorem LCase.mono {H H' : Hp} {x : V} (s : Same H H') (h : LCase H x) : LCase H' x := by
  obtain ⟨q, r, t, d, l, ns, bs, a, b, zs, e, h1, h2, h3, h4, h5, h⟩ := h
  exact ⟨q, r, t, d, l, ns, bs, a, b, zs, e, s _ _ h1, s _ _ h2, s _ _ h3, s _ _ h4, s _ _ h5, h⟩
/-- a row, its worth, its best ends, how many best plays -/
def RCase (H : Hp) (x : V) : Prop := ∃ (q r e : Addr) (ns : List Int) (due : Int) (es : List Bool) (m : Int), x = .ref q ∧ H q = some (.tup [.ref r, .int due, .ref e, .int m]) ∧ H r = some (.lst (ns.map V.int)) ∧ H e = some (.lst (sidesV es)) ∧
  RowOk ns ∧ wv ns ns.length 0 = due ∧ ends ns ns.length 0 = es ∧ many ns ns.length 0 = m
theorem RCase.ext {H H' : Hp} {x : V} (s : ExtN H H') (h : RCase H x) : RCase H' x := by
  obtain ⟨q, r, e, ns, due, es, m, ex, h1, h2, h3, h⟩ := h
  exact ⟨q, r, e, ns, due, es, m, ex, extN_tup s h1, extN_lst s h2, extN_lst s h3, h⟩
theorem RCase.mono {H H' : Hp} {x : V} (s : Same H H') (h : RCase H x) : RCase H' x := h.ext (ExtN.of s)
/-- an answer by hand, a number, what it shows -/
def PCase (G D : Addr) (ns : List Int) (H : Hp) (x : V) : Prop := ∃ (q o l dx : Addr) (ys : List V) (p : List Tri) (f : Bool) (k : Int) (due : Bool), x = .ref q ∧ H q = some (.tup [.ref o, .int k, .bl due]) ∧ H o = some (.ins (if f = true then G else D) dx [("plan", .ref l)]) ∧ H l = some (.lst ys) ∧ Tris H ys p ∧ p.length ≤ 10000 ∧ showsV ns p f k = due
theorem PCase.mono {G D : Addr} {ns : List Int} {H H' : Hp} {x : V} (s : Same H H') (h : PCase G D ns H x) : PCase G D ns H' x := by
  obtain ⟨q, o, l, dx, ys, p, f, k, due, ex, h1, h2, h3, h4, h⟩ := h
  exact ⟨q, o, l, dx, ys, p, f, k, due, ex, s _ _ h1, s _ _ h2, s _ _ h3, h4.mono s, h⟩
theorem each_cons {p : V → Prop} {x : V} {xs : List V} (h : p x) (t : ∀ y ∈ xs, p y) : ∀ y ∈ x :: xs, p y := List.forall_mem_cons.mpr ⟨h, t⟩
theorem each_app {p : V → Prop} {xs ys : List V} (h : ∀ y ∈ xs, p y) (t : ∀ y ∈ ys, p y) : ∀ y ∈ xs ++ ys, p y := fun y hy => (List.mem_append.mp hy).elim (h y) (t y)
theorem each_nil {p : V → Prop} : ∀ y ∈ ([] : List V), p y := fun _ z => nomatch z
theorem ne_same {a b : Bool} (h : a = b) : (!decide (V.bl a = V.bl b)) = false := by
  subst h
  simp
/-- a row -/
def WCase (H : Hp) (x : V) : Prop := ∃ (r : Addr) (ns : List Int), x = .ref r ∧ H r = some (.lst (ns.map V.int)) ∧ RowOk ns
theorem WCase.mono {H H' : Hp} {x : V} (s : Same H H') (h : WCase H x) : WCase H' x := let ⟨r, ns, e, h1, h2⟩ := h; ⟨r, ns, e, s _ _ h1, h2⟩
theorem one_shows (n least : Int) (b : Bool) : showsV [n] [(0, 1, sideS b)] true least = decide (least ≤ n) := by
  have h1 : tabOk 1 none [(0, 1, sideS b)] = true := by cases b <;> decide +kernel
  have h2 : tabF [(0, 1, sideS b)] 0 (0 + (0 + 1)) = some b := by cases b <;> decide +kernel
  have h3 : plannedV [n] [(0, 1, sideS b)] true = some n := by
    unfold plannedV
    rw [if_pos (show tabOk [n].length none [(0, 1, sideS b)] = true from h1)]
    show gotV [n] (tabF [(0, 1, sideS b)]) (0 + 1) 0 true = some n
    rw [gotV_mine, h2]
    cases b
    · show some (0 + n) = some n
      rw [Int.zero_add]
    · show some (0 + n) = some n
      rw [Int.zero_add]
  unfold showsV
  rw [h3]
  rfl
theorem held_one (n least : Int) : showsV [n] [] false least = decide (n < least) := by
  have h3 : plannedV [n] [] false = some (-n) := by
    unfold plannedV
    rw [if_pos (show tabOk [n].length none [] = true from rfl)]
    show some (if (0 : Int) + -n < 0 + -n then (0 : Int) + -n else 0 + -n) = some (-n)
    simp
  unfold showsV
  rw [h3]
  simp
theorem NoNum.mono {K : PySem.W.Frag} {H H' : Hp} {x : V} {n : Int} (s : Same H H') (h : NoNum K H x n) : NoNum K H' x n := h.imp (fun ⟨T, p, e⟩ => ⟨T, p.mono s, e⟩) id
/-! ### doors as lambdas -/
theorem lamD_hard {f : Addr} {F : NF} {e : Expr} : ∀ b o, lamD f F e b = some o → ∀ ps, o ≠ .tbl ps := by
  intro b o h ps z
  subst z
  unfold lamD at h
  by_cases h1 : b = F.c
  · rw [h1, upd_same] at h
    cases h
  · rw [upd_ne h1] at h
    by_cases h2 : b = f
    · rw [h2, upd_same] at h
      cases h
    · rw [upd_ne h2] at h
      cases h
/-- x is a door that refuses what is bad by the class C -/
def AskR (P : Program) (w : World) (K : PySem.W.Frag) (mg : Str → Option Value) (base : Heap) (C : Addr) (bad : Hp → V → Prop) (H : Hp) (x : V) : Prop := ∃ (f : Addr) (D : Hp) (sp : Sp), x = .ref f ∧ Same D H ∧ Callable P w K mg base 29 f D sp ∧ (∀ b o, D b = some o → ∀ ps, o ≠ .tbl ps) ∧
  ∀ H2 y, bad H2 y → ∀ (Q : VK) (E : XK), (∀ H', Same H2 H' → E (.ref C) none H') → sp [y] H2 Q E
theorem AskR.ext {P : Program} {w : World} {K : PySem.W.Frag} {mg : Str → Option Value} {base : Heap} {C : Addr} {bad : Hp → V → Prop} {H H' : Hp} {x : V} (e : ExtN H H') (h : AskR P w K mg base C bad H x) : AskR P w K mg base C bad H' x := by
  obtain ⟨f, D, sp, ex, hD, hc, hh, h⟩ := h
  exact ⟨f, D, sp, ex, fun b o q => e b o (hD b o q) (hh b o q), hc, hh, h⟩
def spRows9 (T : List (Addr × Str)) : Sp := fun vs H Q _ => ∃ n : Int, vs = [.int n] ∧ 10 ≤ n ∧ n < 900010 ∧ Tabs T H ∧ ∀ H', Tabs T H' → Q (.bl true) H'
def spSure9 : Sp := fun vs H Q _ => ∃ n : Int, vs = [.int n] ∧ 10 ≤ n ∧ n < 900010 ∧ ∀ H', Same H H' → Q (.bl true) H'
def spRefused9 (T : List (Addr × Str)) : Sp := fun vs H Q _ => vs = [] ∧ Tabs T H ∧ ∀ H', Q (.bl true) H'
end RE
namespace K09
open PySem PySem.Spec PyProof.Rows L2 RE
/-! the text by places -/
def top (i : Nat) : Stmt := PySem.Challenge.pw_rowends_k09_promises_by_hand.main.body.getD i (.Pass ⟨0, 0, 0, 0⟩)
abbrev s_is_whole : Stmt := top 11
abbrev N_is_whole : List Str := ["thing"]
theorem sc_is_whole : FnScope N_is_whole ["thing"] (defScope s_is_whole) := ⟨rfl, rfl, rfl, by decide +kernel, rfl, by decide +kernel, by decide +kernel⟩
abbrev s_check_row : Stmt := top 12
abbrev N_check_row : List Str := ["row", "coin"]
theorem sc_check_row : FnScope N_check_row ["row"] (defScope s_check_row) := ⟨rfl, rfl, rfl, by decide +kernel, rfl, by decide +kernel, by decide +kernel⟩
abbrev s_is_side : Stmt := top 13
abbrev N_is_side : List Str := ["thing"]
theorem sc_is_side : FnScope N_is_side ["thing"] (defScope s_is_side) := ⟨rfl, rfl, rfl, by decide +kernel, rfl, by decide +kernel, by decide +kernel⟩
abbrev s_worth_of : Stmt := top 14
abbrev N_worth_of : List Str := ["row", "low", "behind", "known", "first"]
theorem sc_worth_of : FnScope N_worth_of ["row", "low", "behind", "known"] (defScope s_worth_of) := ⟨rfl, rfl, rfl, by decide +kernel, rfl, by decide +kernel, by decide +kernel⟩
abbrev s_after : Stmt := top 15
abbrev N_after : List Str := ["row", "low", "behind", "side"]
theorem sc_after : FnScope N_after ["row", "low", "behind", "side"] (defScope s_after) := ⟨rfl, rfl, rfl, by decide +kernel, rfl, by decide +kernel, by decide +kernel⟩
abbrev s_best_of : Stmt := top 16
abbrev N_best_of : List Str := ["row", "low", "behind", "known", "due", "found", "side", "coin", "left", "right"]
theorem sc_best_of : FnScope N_best_of ["row", "low", "behind", "known"] (defScope s_best_of) := ⟨rfl, rfl, rfl, by decide +kernel, rfl, by decide +kernel, by decide +kernel⟩
abbrev s_worth : Stmt := top 17
abbrev N_worth : List Str := ["row"]
theorem sc_worth : FnScope N_worth ["row"] (defScope s_worth) := ⟨rfl, rfl, rfl, by decide +kernel, rfl, by decide +kernel, by decide +kernel⟩
abbrev s_best : Stmt := top 18
abbrev N_best : List Str := ["row"]
theorem sc_best : FnScope N_best ["row"] (defScope s_best) := ⟨rfl, rfl, rfl, by decide +kernel, rfl, by decide +kernel, by decide +kernel⟩
abbrev s_led : Stmt := top 19
abbrev N_led : List Str := ["row", "takes", "side", "low", "behind", "sums", "at", "coin"]
theorem sc_led : FnScope N_led ["row", "takes"] (defScope s_led) := ⟨rfl, rfl, rfl, by decide +kernel, rfl, by decide +kernel, by decide +kernel⟩
abbrev s_greedy : Stmt := top 20
abbrev N_greedy : List Str := ["row", "low", "behind", "found", "side", "coin"]
theorem sc_greedy : FnScope N_greedy ["row"] (defScope s_greedy) := ⟨rfl, rfl, rfl, by decide +kernel, rfl, by decide +kernel, by decide +kernel⟩
abbrev s_sure : Stmt := top 21
abbrev N_sure : List Str := ["row"]
theorem sc_sure : FnScope N_sure ["row"] (defScope s_sure) := ⟨rfl, rfl, rfl, by decide +kernel, rfl, by decide +kernel, by decide +kernel⟩
abbrev s_table_of : Stmt := top 24
abbrev N_table_of : List Str := ["row", "plan", "found", "last", "low", "behind", "side"]
theorem sc_table_of : FnScope N_table_of ["row", "plan"] (defScope s_table_of) := ⟨rfl, rfl, rfl, by decide +kernel, rfl, by decide +kernel, by decide +kernel⟩
abbrev s_got : Stmt := top 25
abbrev N_got : List Str := ["row", "low", "behind", "table", "mine", "sides", "least", "side", "coin", "left", "right", "rest", "here"]
theorem sc_got : FnScope N_got ["row", "low", "behind", "table", "mine"] (defScope s_got) := ⟨rfl, rfl, rfl, by decide +kernel, rfl, by decide +kernel, by decide +kernel⟩
abbrev s_planned : Stmt := top 26
abbrev N_planned : List Str := ["row", "plan", "mine", "table"]
theorem sc_planned : FnScope N_planned ["row", "plan", "mine"] (defScope s_planned) := ⟨rfl, rfl, rfl, by decide +kernel, rfl, by decide +kernel, by decide +kernel⟩
abbrev s_plan_of : Stmt := top 30
abbrev N_plan_of : List Str := ["row", "first", "found", "known", "low", "behind"]
theorem sc_plan_of : FnScope N_plan_of ["row", "first"] (defScope s_plan_of) := ⟨rfl, rfl, rfl, by decide +kernel, rfl, by decide +kernel, by decide +kernel⟩
abbrev s_judged : Stmt := top 31
abbrev N_judged : List Str := ["row", "least"]
theorem sc_judged : FnScope N_judged ["row", "least"] (defScope s_judged) := ⟨rfl, rfl, rfl, by decide +kernel, rfl, by decide +kernel, by decide +kernel⟩
abbrev s_plays_of : Stmt := top 32
abbrev N_plays_of : List Str := ["row", "low", "behind", "known", "found", "side", "coin", "left", "right"]
theorem sc_plays_of : FnScope N_plays_of ["row", "low", "behind", "known"] (defScope s_plays_of) := ⟨rfl, rfl, rfl, by decide +kernel, rfl, by decide +kernel, by decide +kernel⟩
abbrev s_how_many : Stmt := top 33
abbrev N_how_many : List Str := ["row"]
theorem sc_how_many : FnScope N_how_many ["row"] (defScope s_how_many) := ⟨rfl, rfl, rfl, by decide +kernel, rfl, by decide +kernel, by decide +kernel⟩
abbrev s_play_by : Stmt := top 34
abbrev N_play_by : List Str := ["row", "number", "known", "low", "behind", "found", "side", "coin", "left", "right", "many"]
theorem sc_play_by : FnScope N_play_by ["row", "number"] (defScope s_play_by) := ⟨rfl, rfl, rfl, by decide +kernel, rfl, by decide +kernel, by decide +kernel⟩
abbrev s__law_word : Stmt := top 36
abbrev N__law_word : List Str := ["_law_ask", "_law_thing", "error", "_law_kinds"]
theorem sc__law_word : FnScope N__law_word ["_law_ask", "_law_thing"] (defScope s__law_word) := ⟨rfl, rfl, rfl, by decide +kernel, rfl, by decide +kernel, by decide +kernel⟩
abbrev s__law_rows_right : Stmt := top 37
abbrev N__law_rows_right : List Str := ["_law_n", "_law_left", "_law_right", "_law_cases", "_law_row", "_law_due", "_law_ends", "_law_many", "_law_plays", "_law_play", "_law_one", "_law_other", "_law_rest", "_law_takes", "_law_at"]
theorem sc__law_rows_right : FnScope N__law_rows_right ["_law_n"] (defScope s__law_rows_right) := ⟨rfl, rfl, rfl, by decide +kernel, rfl, by decide +kernel, by decide +kernel⟩
abbrev s__law_sure_right : Stmt := top 38
abbrev N__law_sure_right : List Str := ["_law_n", "_law_left", "_law_right", "_law_bad"]
theorem sc__law_sure_right : FnScope N__law_sure_right ["_law_n"] (defScope s__law_sure_right) := ⟨rfl, rfl, rfl, by decide +kernel, rfl, by decide +kernel, by decide +kernel⟩
abbrev s__law_plans_right : Stmt := top 39
abbrev N__law_plans_right : List Str := ["_law_n", "_law_left", "_law_right", "_law_row", "_law_good", "_law_held", "_law_cases", "_law_least", "_law_coins", "_law_found", "_law_answer", "_law_due"]
theorem sc__law_plans_right : FnScope N__law_plans_right ["_law_n"] (defScope s__law_plans_right) := ⟨rfl, rfl, rfl, by decide +kernel, rfl, by decide +kernel, by decide +kernel⟩
abbrev s__law_refused_right : Stmt := top 40
abbrev N__law_refused_right : List Str := ["_law_bad", "_law_asks", "_law_bads", "_law_ask"]
theorem sc__law_refused_right : FnScope N__law_refused_right [] (defScope s__law_refused_right) := ⟨rfl, rfl, rfl, by decide +kernel, rfl, by decide +kernel, by decide +kernel⟩
abbrev s_law : Stmt := top 41
abbrev N_law : List Str := ["_law_script", "_law_n"]
theorem sc_law : FnScope N_law ["_law_script"] (defScope s_law) := ⟨rfl, rfl, rfl, by decide +kernel, rfl, by decide +kernel, by decide +kernel⟩
abbrev s_Gets_init : Stmt := inClass (top 27) 0
abbrev N_Gets_init : List Str := ["self", "plan"]
theorem sc_Gets_init : FnScope N_Gets_init ["self", "plan"] (defScope s_Gets_init) := ⟨rfl, rfl, rfl, by decide +kernel, rfl, by decide +kernel, by decide +kernel⟩
abbrev s_Gets_shows : Stmt := inClass (top 27) 1
abbrev N_Gets_shows : List Str := ["self", "row", "least", "found"]
theorem sc_Gets_shows : FnScope N_Gets_shows ["self", "row", "least"] (defScope s_Gets_shows) := ⟨rfl, rfl, rfl, by decide +kernel, rfl, by decide +kernel, by decide +kernel⟩
abbrev s_Held_init : Stmt := inClass (top 28) 0
abbrev N_Held_init : List Str := ["self", "plan"]
theorem sc_Held_init : FnScope N_Held_init ["self", "plan"] (defScope s_Held_init) := ⟨rfl, rfl, rfl, by decide +kernel, rfl, by decide +kernel, by decide +kernel⟩
abbrev s_Held_shows : Stmt := inClass (top 28) 1
abbrev N_Held_shows : List Str := ["self", "row", "least", "found"]
theorem sc_Held_shows : FnScope N_Held_shows ["self", "row", "least"] (defScope s_Held_shows) := ⟨rfl, rfl, rfl, by decide +kernel, rfl, by decide +kernel, by decide +kernel⟩
structure Ad where
  f_is_whole : Addr
  d_is_whole : FuncData
  f_check_row : Addr
  d_check_row : FuncData
  f_is_side : Addr
  d_is_side : FuncData
  f_worth_of : Addr
  d_worth_of : FuncData
  f_after : Addr
  d_after : FuncData
  f_best_of : Addr
  d_best_of : FuncData
  f_worth : Addr
  d_worth : FuncData
  f_best : Addr
  d_best : FuncData
  f_led : Addr
  d_led : FuncData
  f_greedy : Addr
  d_greedy : FuncData
  f_sure : Addr
  d_sure : FuncData
  f_table_of : Addr
  d_table_of : FuncData
  f_got : Addr
  d_got : FuncData
  f_planned : Addr
  d_planned : FuncData
  f_plan_of : Addr
  d_plan_of : FuncData
  f_judged : Addr
  d_judged : FuncData
  f_plays_of : Addr
  d_plays_of : FuncData
  f_how_many : Addr
  d_how_many : FuncData
  f_play_by : Addr
  d_play_by : FuncData
  f__law_word : Addr
  d__law_word : FuncData
  f__law_rows_right : Addr
  d__law_rows_right : FuncData
  f__law_sure_right : Addr
  d__law_sure_right : FuncData
  f__law_plans_right : Addr
  d__law_plans_right : FuncData
  f__law_refused_right : Addr
  d__law_refused_right : FuncData
  f_law : Addr
  d_law : FuncData
  C_EndError : Addr
  C_BadRow : Addr
  C_BadTakes : Addr
  C_BadNumber : Addr
  C_Odd : Addr
  C_Answer : Addr
  C_Gets : Addr
  C_Held : Addr
  f_Gets_init : Addr
  d_Gets_init : FuncData
  f_Gets_shows : Addr
  d_Gets_shows : FuncData
  f_Held_init : Addr
  d_Held_init : FuncData
  f_Held_shows : Addr
  d_Held_shows : FuncData
  t_MOST : Tok
  t_GREATEST : Tok
  t_LEFT : Tok
  t_RIGHT : Tok
  c__law_rows_right : Addr
  P__law_rows_right : Addr
  c__law_refused_right : Addr
  P__law_refused_right : Addr
abbrev tabs (A : Ad) : List (Addr × Str) := [(A.P__law_rows_right, (("_law_rows_right" : Str) ++ ".<locals>.") ++ "<lambda>"), (A.P__law_refused_right, (("_law_refused_right" : Str) ++ ".<locals>.") ++ "<lambda>")]
structure Tx (K : PySem.W.Frag) (mg : Str → Option Value) (A : Ad) : Prop where
  babs : mg "abs" = none
  ball : mg "all" = none
  bany : mg "any" = none
  bbool : mg "bool" = none
  benumerate : mg "enumerate" = none
  bint : mg "int" = none
  bisinstance : mg "isinstance" = none
  blen : mg "len" = none
  blist : mg "list" = none
  bmax : mg "max" = none
  brange : mg "range" = none
  bsorted : mg "sorted" = none
  bstr : mg "str" = none
  bsum : mg "sum" = none
  gMOST : mg "MOST" = some (.int 12 A.t_MOST)
  gGREATEST : mg "GREATEST" = some (.int 1000000 A.t_GREATEST)
  gLEFT : mg "LEFT" = some (.str "left" A.t_LEFT)
  gRIGHT : mg "RIGHT" = some (.str "right" A.t_RIGHT)
  gis_whole : mg "is_whole" = some (.ref A.f_is_whole)
  Fis_whole : Fun K "is_whole" "is_whole" s_is_whole A.f_is_whole A.d_is_whole
  bis_whole : Binds K A.d_is_whole ["thing"] []
  gcheck_row : mg "check_row" = some (.ref A.f_check_row)
  Fcheck_row : Fun K "check_row" "check_row" s_check_row A.f_check_row A.d_check_row
  bcheck_row : Binds K A.d_check_row ["row"] []
  gis_side : mg "is_side" = some (.ref A.f_is_side)
  Fis_side : Fun K "is_side" "is_side" s_is_side A.f_is_side A.d_is_side
  bis_side : Binds K A.d_is_side ["thing"] []
  gworth_of : mg "worth_of" = some (.ref A.f_worth_of)
  Fworth_of : Fun K "worth_of" "worth_of" s_worth_of A.f_worth_of A.d_worth_of
  bworth_of : Binds K A.d_worth_of ["row", "low", "behind", "known"] []
  gafter : mg "after" = some (.ref A.f_after)
  Fafter : Fun K "after" "after" s_after A.f_after A.d_after
  bafter : Binds K A.d_after ["row", "low", "behind", "side"] []
  gbest_of : mg "best_of" = some (.ref A.f_best_of)
  Fbest_of : Fun K "best_of" "best_of" s_best_of A.f_best_of A.d_best_of
  bbest_of : Binds K A.d_best_of ["row", "low", "behind", "known"] []
  gworth : mg "worth" = some (.ref A.f_worth)
  Fworth : Fun K "worth" "worth" s_worth A.f_worth A.d_worth
  bworth : Binds K A.d_worth ["row"] []
  gbest : mg "best" = some (.ref A.f_best)
  Fbest : Fun K "best" "best" s_best A.f_best A.d_best
  bbest : Binds K A.d_best ["row"] []
  gled : mg "led" = some (.ref A.f_led)
  Fled : Fun K "led" "led" s_led A.f_led A.d_led
  bled : Binds K A.d_led ["row", "takes"] []
  ggreedy : mg "greedy" = some (.ref A.f_greedy)
  Fgreedy : Fun K "greedy" "greedy" s_greedy A.f_greedy A.d_greedy
  bgreedy : Binds K A.d_greedy ["row"] []
  gsure : mg "sure" = some (.ref A.f_sure)
  Fsure : Fun K "sure" "sure" s_sure A.f_sure A.d_sure
  bsure : Binds K A.d_sure ["row"] []
  gtable_of : mg "table_of" = some (.ref A.f_table_of)
  Ftable_of : Fun K "table_of" "table_of" s_table_of A.f_table_of A.d_table_of
  btable_of : Binds K A.d_table_of ["row", "plan"] []
  ggot : mg "got" = some (.ref A.f_got)
  Fgot : Fun K "got" "got" s_got A.f_got A.d_got
  bgot : Binds K A.d_got ["row", "low", "behind", "table", "mine"] []
  gplanned : mg "planned" = some (.ref A.f_planned)
  Fplanned : Fun K "planned" "planned" s_planned A.f_planned A.d_planned
  bplanned : Binds K A.d_planned ["row", "plan", "mine"] []
  gplan_of : mg "plan_of" = some (.ref A.f_plan_of)
  Fplan_of : Fun K "plan_of" "plan_of" s_plan_of A.f_plan_of A.d_plan_of
  bplan_of : Binds K A.d_plan_of ["row", "first"] []
  gjudged : mg "judged" = some (.ref A.f_judged)
  Fjudged : Fun K "judged" "judged" s_judged A.f_judged A.d_judged
  bjudged : Binds K A.d_judged ["row", "least"] []
  gplays_of : mg "plays_of" = some (.ref A.f_plays_of)
  Fplays_of : Fun K "plays_of" "plays_of" s_plays_of A.f_plays_of A.d_plays_of
  bplays_of : Binds K A.d_plays_of ["row", "low", "behind", "known"] []
  ghow_many : mg "how_many" = some (.ref A.f_how_many)
  Fhow_many : Fun K "how_many" "how_many" s_how_many A.f_how_many A.d_how_many
  bhow_many : Binds K A.d_how_many ["row"] []
  gplay_by : mg "play_by" = some (.ref A.f_play_by)
  Fplay_by : Fun K "play_by" "play_by" s_play_by A.f_play_by A.d_play_by
  bplay_by : Binds K A.d_play_by ["row", "number"] []
  g_law_word : mg "_law_word" = some (.ref A.f__law_word)
  F_law_word : Fun K "_law_word" "_law_word" s__law_word A.f__law_word A.d__law_word
  b_law_word : Binds K A.d__law_word ["_law_ask", "_law_thing"] []
  g_law_rows_right : mg "_law_rows_right" = some (.ref A.f__law_rows_right)
  F_law_rows_right : Fun K "_law_rows_right" "_law_rows_right" s__law_rows_right A.f__law_rows_right A.d__law_rows_right
  b_law_rows_right : Binds K A.d__law_rows_right ["_law_n"] []
  g_law_sure_right : mg "_law_sure_right" = some (.ref A.f__law_sure_right)
  F_law_sure_right : Fun K "_law_sure_right" "_law_sure_right" s__law_sure_right A.f__law_sure_right A.d__law_sure_right
  b_law_sure_right : Binds K A.d__law_sure_right ["_law_n"] []
  g_law_plans_right : mg "_law_plans_right" = some (.ref A.f__law_plans_right)
  F_law_plans_right : Fun K "_law_plans_right" "_law_plans_right" s__law_plans_right A.f__law_plans_right A.d__law_plans_right
  b_law_plans_right : Binds K A.d__law_plans_right ["_law_n"] []
  g_law_refused_right : mg "_law_refused_right" = some (.ref A.f__law_refused_right)
  F_law_refused_right : Fun K "_law_refused_right" "_law_refused_right" s__law_refused_right A.f__law_refused_right A.d__law_refused_right
  b_law_refused_right : Binds K A.d__law_refused_right [] []
  glaw : mg "law" = some (.ref A.f_law)
  Flaw : Fun K "law" "law" s_law A.f_law A.d_law
  blaw : Binds K A.d_law ["_law_script"] []
  gEndError : mg "EndError" = some (.ref A.C_EndError)
  kEndError : PySem.W.keepIn K (.ref A.C_EndError) = true
  xEndError : PySem.W.excIn K A.C_EndError [.type "ValueError", .type "Exception", .type "BaseException", .type "object"] "ValueError.__new__" = true
  BEndError : PySem.W.subIn K (.ref A.C_EndError) (.type "BaseException") = some true
  tEndError : PySem.W.typeIn K (.ref A.C_EndError) = some (.type "type")
  gBadRow : mg "BadRow" = some (.ref A.C_BadRow)
  kBadRow : PySem.W.keepIn K (.ref A.C_BadRow) = true
  xBadRow : PySem.W.excIn K A.C_BadRow [.type "ValueError", .type "Exception", .type "BaseException", .type "object"] "ValueError.__new__" = true
  BBadRow : PySem.W.subIn K (.ref A.C_BadRow) (.type "BaseException") = some true
  tBadRow : PySem.W.typeIn K (.ref A.C_BadRow) = some (.type "type")
  gBadTakes : mg "BadTakes" = some (.ref A.C_BadTakes)
  kBadTakes : PySem.W.keepIn K (.ref A.C_BadTakes) = true
  xBadTakes : PySem.W.excIn K A.C_BadTakes [.type "ValueError", .type "Exception", .type "BaseException", .type "object"] "ValueError.__new__" = true
  BBadTakes : PySem.W.subIn K (.ref A.C_BadTakes) (.type "BaseException") = some true
  tBadTakes : PySem.W.typeIn K (.ref A.C_BadTakes) = some (.type "type")
  gBadNumber : mg "BadNumber" = some (.ref A.C_BadNumber)
  kBadNumber : PySem.W.keepIn K (.ref A.C_BadNumber) = true
  xBadNumber : PySem.W.excIn K A.C_BadNumber [.type "ValueError", .type "Exception", .type "BaseException", .type "object"] "ValueError.__new__" = true
  BBadNumber : PySem.W.subIn K (.ref A.C_BadNumber) (.type "BaseException") = some true
  tBadNumber : PySem.W.typeIn K (.ref A.C_BadNumber) = some (.type "type")
  gOdd : mg "Odd" = some (.ref A.C_Odd)
  kOdd : PySem.W.keepIn K (.ref A.C_Odd) = true
  xOdd : PySem.W.excIn K A.C_Odd [.type "ValueError", .type "Exception", .type "BaseException", .type "object"] "ValueError.__new__" = true
  BOdd : PySem.W.subIn K (.ref A.C_Odd) (.type "BaseException") = some true
  tOdd : PySem.W.typeIn K (.ref A.C_Odd) = some (.type "type")
  gAnswer : mg "Answer" = some (.ref A.C_Answer)
  gGets : mg "Gets" = some (.ref A.C_Gets)
  gHeld : mg "Held" = some (.ref A.C_Held)
  ecBadRow : ExcC K A.C_BadRow
  exBadRow : PySem.W.exmOne K (.ref A.C_BadRow) (.ref A.C_EndError) = some true
  keBadRow_BadRow : PySem.W.kitOne K (.ref A.C_BadRow) (.ref A.C_BadRow) = some true
  keBadRow_BadTakes : PySem.W.kitOne K (.ref A.C_BadRow) (.ref A.C_BadTakes) = some false
  keBadRow_BadNumber : PySem.W.kitOne K (.ref A.C_BadRow) (.ref A.C_BadNumber) = some false
  keBadRow_Odd : PySem.W.kitOne K (.ref A.C_BadRow) (.ref A.C_Odd) = some false
  ecBadTakes : ExcC K A.C_BadTakes
  exBadTakes : PySem.W.exmOne K (.ref A.C_BadTakes) (.ref A.C_EndError) = some true
  keBadTakes_BadRow : PySem.W.kitOne K (.ref A.C_BadTakes) (.ref A.C_BadRow) = some false
  keBadTakes_BadTakes : PySem.W.kitOne K (.ref A.C_BadTakes) (.ref A.C_BadTakes) = some true
  keBadTakes_BadNumber : PySem.W.kitOne K (.ref A.C_BadTakes) (.ref A.C_BadNumber) = some false
  keBadTakes_Odd : PySem.W.kitOne K (.ref A.C_BadTakes) (.ref A.C_Odd) = some false
  ecBadNumber : ExcC K A.C_BadNumber
  exBadNumber : PySem.W.exmOne K (.ref A.C_BadNumber) (.ref A.C_EndError) = some true
  keBadNumber_BadRow : PySem.W.kitOne K (.ref A.C_BadNumber) (.ref A.C_BadRow) = some false
  keBadNumber_BadTakes : PySem.W.kitOne K (.ref A.C_BadNumber) (.ref A.C_BadTakes) = some false
  keBadNumber_BadNumber : PySem.W.kitOne K (.ref A.C_BadNumber) (.ref A.C_BadNumber) = some true
  keBadNumber_Odd : PySem.W.kitOne K (.ref A.C_BadNumber) (.ref A.C_Odd) = some false
  ecOdd : ExcC K A.C_Odd
  exOdd : PySem.W.exmOne K (.ref A.C_Odd) (.ref A.C_EndError) = some true
  keOdd_BadRow : PySem.W.kitOne K (.ref A.C_Odd) (.ref A.C_BadRow) = some false
  keOdd_BadTakes : PySem.W.kitOne K (.ref A.C_Odd) (.ref A.C_BadTakes) = some false
  keOdd_BadNumber : PySem.W.kitOne K (.ref A.C_Odd) (.ref A.C_BadNumber) = some false
  keOdd_Odd : PySem.W.kitOne K (.ref A.C_Odd) (.ref A.C_Odd) = some true
  FC_law_rows_right : FunC K "_law_rows_right" "_law_rows_right" s__law_rows_right A.f__law_rows_right A.d__law_rows_right A.c__law_rows_right
  FC_law_refused_right : FunC K "_law_refused_right" "_law_refused_right" s__law_refused_right A.f__law_refused_right A.d__law_refused_right A.c__law_refused_right
  clGets : Cls K A.C_Gets
  npGets : NoAttr K A.C_Gets "plan"
  tyGets : OwnTy K A.C_Gets
  kitGets_Answer : PySem.W.kitOne K (.ref A.C_Gets) (.ref A.C_Answer) = some true
  kitGets_Gets : PySem.W.kitOne K (.ref A.C_Gets) (.ref A.C_Gets) = some true
  kitGets_Held : PySem.W.kitOne K (.ref A.C_Gets) (.ref A.C_Held) = some false
  FGets_init : Fun K "__init__" "Gets.__init__" s_Gets_init A.f_Gets_init A.d_Gets_init
  bGets_init : Binds K A.d_Gets_init ["self", "plan"] []
  MGets : Mk K A.C_Gets A.f_Gets_init
  FGets_shows : Fun K "shows" "Gets.shows" s_Gets_shows A.f_Gets_shows A.d_Gets_shows
  bGets_shows : Binds K A.d_Gets_shows ["self", "row", "least"] []
  mGets_shows : Meth K A.C_Gets "shows" A.f_Gets_shows
  clHeld : Cls K A.C_Held
  npHeld : NoAttr K A.C_Held "plan"
  tyHeld : OwnTy K A.C_Held
  kitHeld_Answer : PySem.W.kitOne K (.ref A.C_Held) (.ref A.C_Answer) = some true
  kitHeld_Gets : PySem.W.kitOne K (.ref A.C_Held) (.ref A.C_Gets) = some false
  kitHeld_Held : PySem.W.kitOne K (.ref A.C_Held) (.ref A.C_Held) = some true
  FHeld_init : Fun K "__init__" "Held.__init__" s_Held_init A.f_Held_init A.d_Held_init
  bHeld_init : Binds K A.d_Held_init ["self", "plan"] []
  MHeld : Mk K A.C_Held A.f_Held_init
  FHeld_shows : Fun K "shows" "Held.shows" s_Held_shows A.f_Held_shows A.d_Held_shows
  bHeld_shows : Binds K A.d_Held_shows ["self", "row", "least"] []
  mHeld_shows : Meth K A.C_Held "shows" A.f_Held_shows
  pne__law_rows_right__law_refused_right : A.P__law_rows_right ≠ A.P__law_refused_right
theorem memt__law_rows_right (A : Ad) : (A.P__law_rows_right, (("_law_rows_right" : Str) ++ ".<locals>.") ++ "<lambda>") ∈ tabs A := List.mem_cons_self
theorem hut__law_rows_right {K : PySem.W.Frag} {mg : Str → Option Value} {A : Ad} (T : Tx K mg A) : ∀ p ∈ tabs A, p.1 = A.P__law_rows_right → p.2 = (("_law_rows_right" : Str) ++ ".<locals>.") ++ "<lambda>" := (List.forall_mem_cons.mpr ⟨fun _ => rfl, (List.forall_mem_cons.mpr ⟨fun z => absurd z.symm T.pne__law_rows_right__law_refused_right, (fun _ hx => (nomatch hx))⟩)⟩)
theorem memt__law_refused_right (A : Ad) : (A.P__law_refused_right, (("_law_refused_right" : Str) ++ ".<locals>.") ++ "<lambda>") ∈ tabs A := (List.mem_cons_of_mem _ List.mem_cons_self)
theorem hut__law_refused_right {K : PySem.W.Frag} {mg : Str → Option Value} {A : Ad} (T : Tx K mg A) : ∀ p ∈ tabs A, p.1 = A.P__law_refused_right → p.2 = (("_law_refused_right" : Str) ++ ".<locals>.") ++ "<lambda>" := (List.forall_mem_cons.mpr ⟨fun z => absurd z T.pne__law_rows_right__law_refused_right, (List.forall_mem_cons.mpr ⟨fun _ => rfl, (fun _ hx => (nomatch hx))⟩)⟩)
end K09
namespace K09
open PySem PySem.Spec PyProof.Rows L2 RE
section
variable {P : Program} {w : World} {K : PySem.W.Frag} {mg : Str → Option Value} {base : Heap} {A : Ad}
theorem ok_is_whole (T : Tx K mg A) : FnOk P w K mg base CX0 1 A.f_is_whole A.d_is_whole ["thing"] (spWhole K) := by
  refine T.Fis_whole.ok sc_is_whole (fun vs H Q E h => ?_) (fun cdv A' outer s H vs Q E hr h => ?_)
  · obtain ⟨x, T, rfl, _⟩ := h
    rfl
  · obtain ⟨x, ty, rfl, hx, q⟩ := h
    refine ⟨_, (pss_one (ps_ret (pe_and (pe_callB call_isi (by rfl) T.bisinstance (by decide +kernel) (pa_cons (pv 0) (pa_cons (pe_bltn (v := .ty "int") (by rfl) T.bint (by decide +kernel) rfl) pa_nil))) (pe_one (pe_not (pe_callB call_isi (by rfl) T.bisinstance (by decide +kernel) (pa_cons (pv 0) (pa_cons (pe_bltn (v := .ty "bool") (by rfl) T.bbool (by decide +kernel) rfl) pa_nil)))))))), ?_⟩
    refine ⟨_, rfl, _, _, _, _, _, rfl, .ty _, hx.ty, kit_int hx.mem, _, rfl, ?_⟩
    revert q
    cases e : (ty == "int" || ty == "bool") with
    | false =>
      intro q
      refine iteF ?_
      have e1 : (ty == "int") = false := (Bool.or_eq_false_iff.mp e).1
      rw [e1] at q
      exact q
    | true =>
      intro q
      refine iteT ?_
      refine ⟨_, rfl, _, _, _, _, _, rfl, .ty _, hx.ty, kit_bool hx.mem, _, rfl, ?_⟩
      have e2 : (!(ty == "bool")) = (ty == "int") := by
        rcases Bool.or_eq_true_iff.mp e with z | z
        · have := eq_of_beq z
          subst this
          decide
        · have := eq_of_beq z
          subst this
          decide
      rw [e2]
      exact q
theorem ok_check_row (T : Tx K mg A) : FnOk P w K mg base (L2.CX P w) 2 A.f_check_row A.d_check_row ["row"] (spCheck K A.C_BadRow) := by
  have Gis_whole : FnOk P w K mg base CX0 1 A.f_is_whole A.d_is_whole ["thing"] (spWhole K) := ok_is_whole T
  refine T.Fcheck_row.okX sc_check_row (fun vs H Q E h => ?_) (fun cdv A' outer s H vs Q E hr h => ?_)
  · obtain ⟨x, rfl, _⟩ := h
    rfl
  · obtain ⟨x, rfl, h⟩ := h
    have h' : (∃ ty, PV K H x ty ∧ (ty == "list") = false ∧ ∀ H', Same H H' → E (.ref A.C_BadRow) none H') ∨
        ∃ (a : Addr) (xs : List V), x = .ref a ∧ SqL K H a xs ∧ (12 < xs.length → ∀ H', Same H H' → E (.ref A.C_BadRow) none H') ∧
        (xs.length ≤ 12 → (∀ y ∈ xs, ∃ T, PV K H y T)) ∧ (xs.length ≤ 12 → xs.all coinB = false → ∀ H', Same H H' → E (.ref A.C_BadRow) none H') ∧ (xs.length ≤ 12 → xs.all coinB = true → ∀ H', Same H H' → Q .non H') := by
      rcases h with ⟨ns, ⟨a, ex, hs, hok⟩, q⟩ | ⟨hn, q⟩
      · refine .inr ⟨a, _, ex, hs, (fun h => ?_), (fun _ y hy => ?_), (fun _ h => ?_), (fun _ _ => q)⟩
        · rw [List.length_map] at h
          have := hok.1
          omega
        · obtain ⟨z, _, rfl⟩ := List.mem_map.mp hy
          exact ⟨_, pv_int z⟩
        · rw [hok.all] at h
          cases h
      · rcases hn with ⟨ty, hp, e⟩ | ⟨a, xs, ex, hs, hb⟩
        · exact .inl ⟨ty, hp, e, q⟩
        · rcases hb with hb | ⟨hb, hty, ha⟩
          · exact .inr ⟨a, xs, ex, hs, (fun _ => q), (fun h => by omega), (fun h => by omega), (fun h => by omega)⟩
          · exact .inr ⟨a, xs, ex, hs, (fun h => by omega), (fun _ => hty), (fun _ _ => q), (fun _ h => by rw [ha] at h; cases h)⟩
    refine ⟨_, (pss_cons (ps_if (PW.pt (pw_or (pt_not (pt_val (pe_callB call_isi (by rfl) T.bisinstance (by decide +kernel) (pa_cons (pv 0) (pa_cons (pe_bltn (v := .ty "list") (by rfl) T.blist (by decide +kernel) rfl) pa_nil))))) (pw_or1 (pt_cmpR op_gt (pe_callB call_len_seq (by rfl) T.blen PySem.boot_len (pa_cons (pv 0) pa_nil)) (pe_glob (v := .int 12) (by rfl) T.gMOST ⟨_, rfl⟩) (nomark _))))) (pss_one (ps_raise rfl (takes_of rfl rfl rfl rfl) (pmk_own PySem.F.excBase_ValueError T.xBadRow T.gBadRow T.kBadRow (raises_own T.BBadRow T.tBadRow) rfl))) pss_nil)
      (pss_one (ps_if (pt_not (pt_val (pe_callB (cr_all rfl) (by rfl) T.ball (by decide +kernel) (pa_cons (pe_lc (own := [("coin", 1)]) (by rfl) sc_check_row.nd (pi_list (pv 0)) (blkOk_by (own := [("coin", 1)]) (N := N_check_row) (sc := defScope s_check_row) (by decide +kernel)) (fun _ _ _ _ _ => (pg_name (i := 1) sc_check_row.nd rfl (Or.inl rfl))) (fun _ _ _ _ _ => pts_nil) (fun _ _ _ _ _ => (pe_and (pe_call Gis_whole (hr.mono (by first | decide | omega)) (by rfl) T.gis_whole T.Fis_whole.kp T.bis_whole .nil pass0 (pa_cons (pv 1) pa_nil)) (pe_one (pe_chain op_le op_le pe_int (pv 1) (pe_glob (v := .int 1000000) (by rfl) T.gGREATEST ⟨_, rfl⟩)))))) pa_nil)))) (pss_one (ps_raise rfl (takes_of rfl rfl rfl rfl) (pmk_own PySem.F.excBase_ValueError T.xBadRow T.gBadRow T.kBadRow (raises_own T.BBadRow T.tBadRow) rfl))) pss_nil))), ?_⟩
    rcases h' with ⟨ty, hp, e, q⟩ | ⟨a, xs, ex, hs, h12, hty, hbad, hgood⟩
    · refine ⟨_, rfl, _, _, _, _, _, rfl, .ty _, hp.ty, kit_list hp.mem, _, rfl, ?_⟩
      rw [e]
      exact iteT (iteT (q H (Same.refl H)))
    · subst ex
      have hp := pv_sq hs
      refine ⟨_, rfl, _, _, _, _, _, rfl, .ty _, hp.ty, kit_list hp.mem, _, rfl, ?_⟩
      refine iteF ?_
      refine ⟨_, rfl, a, xs, rfl, .inl hs, _, _, rfl, rfl, _, rfl, ?_⟩
      refine ite2 (fun c => ?_) (fun c => ?_)
      · have c' : (12 : Int) < (xs.length : Int) := of_decide_eq_true c
        exact h12 (by omega) H (Same.refl H)
      · have c' : ¬ (12 : Int) < (xs.length : Int) := of_decide_eq_false (Bool.eq_false_iff.mpr c)
        have hl : xs.length ≤ 12 := by omega
        refine ⟨_, rfl, a, rfl, ⟨_, hs⟩, fun D nD => lc_list (K := K) (a := a) (xs := xs) (fun i H2 => Same H H2 ∧ H2 D = some (.lst ((xs.take i).map fun y => V.bl (coinB y)))) ⟨same_new nD _, upd_same⟩ (fun i H2 _ h2 => h2.1.seq hs) ?_ ?_⟩
        · rintro i y H2 hi ⟨s2, e2⟩
          obtain ⟨ty, hy⟩ := hty hl y (List.mem_of_getElem? hi)
          refine ⟨rfl, ?_⟩
          have hlt : i < xs.length := (List.getElem?_eq_some_iff.mp hi).1
          have fin : ∀ b, b = coinB y → ∃ acc, H2 D = some (.lst acc) ∧ acc.length < sizeLine ∧ Same H (upd H2 D (.lst (acc ++ [V.bl b]))) ∧ (upd H2 D (.lst (acc ++ [V.bl b]))) D = some (.lst ((xs.take (i + 1)).map fun y => V.bl (coinB y))) := by
            rintro b rfl
            refine ⟨_, e2, ?_, fun c o e => ?_, ?_⟩
            · rw [List.length_map, List.length_take]
              exact size_lt (by omega)
            · rw [upd_ne (ne_of_none e nD)]
              exact s2 c o e
            · rw [upd_same, List.take_add_one, hi, List.map_append]
              rfl
          refine ⟨_, rfl, y, ty, rfl, hy.mono s2, _, rfl, ?_⟩
          cases e : (ty == "int") with
          | false =>
            refine iteF ?_
            refine fin _ ?_
            cases y <;> first | rfl | (have := hy.of_int; subst this; cases e)
          | true =>
            refine iteT ?_
            obtain ⟨z, rfl⟩ := hy.int_of (eq_of_beq e)
            refine ⟨_, rfl, 0, z, rfl, rfl, _, rfl, ?_⟩
            by_cases c0 : (0 : Int) ≤ z
            · rw [decide_eq_true c0]
              refine iteT ?_
              refine ⟨z, 1000000, rfl, rfl, ?_⟩
              exact fin _ (by simp [coinB, c0])
            · rw [decide_eq_false c0]
              refine iteF ?_
              exact fin _ (by simp [coinB, c0])
        · rintro H2 ⟨s2, e2⟩
          rw [List.take_length] at e2
          have e3 : (xs.map fun y => V.bl (coinB y)) = (xs.map coinB).map V.bl := by rw [List.map_map]; rfl
          rw [e3] at e2
          refine ⟨D, _, rfl, SqL.of e2, _, rfl, ?_⟩
          have e4 : (xs.map coinB).all id = xs.all coinB := by rw [List.all_map]; rfl
          rw [e4]
          cases e : xs.all coinB with
          | true => exact iteF (hgood hl e H2 s2)
          | false => exact iteT (hbad hl e H2 s2)
end
end K09
namespace K09
open PySem PySem.Spec PyProof.Rows L2 RE
section
variable {P : Program} {w : World} {K : PySem.W.Frag} {mg : Str → Option Value} {base : Heap} {A : Ad}
theorem step_worth_of (T : Tx K mg A) {n : Nat} (Gworth_of : FnOk P w K mg base CX0 n A.f_worth_of A.d_worth_of ["row", "low", "behind", "known"] (spWorthOf K n)) :
    FnOk P w K mg base CX0 (n + 1) A.f_worth_of A.d_worth_of ["row", "low", "behind", "known"] (spWorthOf K (n + 1)) := by
  refine T.Fworth_of.ok sc_worth_of (fun vs H Q E h => ?_) (fun cdv A' outer s H vs Q E hr h => ?_)
  · obtain ⟨a, d, ns, low, m, i, j, kvs, rfl, _⟩ := h
    rfl
  · obtain ⟨a, d, ns, low, m, i, j, kvs, rfl, ei, ej, hS, hd, hk, h12, hm, hn, q⟩ := h
    refine ⟨_, (pss_cons (ps_if (pt_cmpR op_eq (pv 1) (pv 2) (nomark _)) (pss_one (ps_ret pe_int)) pss_nil)
      (pss_cons (ps_if (pt_cmp (pc_dnotin (hu_of hr) (pe_tup (pa_cons (pv 1) (pa_cons (pv 2) pa_nil))) (pv 3))) (pss_cons (ps_set (i := 4) sc_worth_of.nd rfl (Or.inl rfl) (pe_op op_sub (pe_ix ix_list (pv 0) (pv 1) (fun _ _ => rfl)) (pe_call Gworth_of (hr.mono (by first | decide | omega)) (by rfl) T.gworth_of T.Fworth_of.kp T.bworth_of .nil pass0 (pa_cons (pv 0) (pa_cons (pe_op op_add (pv 1) pe_int) (pa_cons (pv 2) (pa_cons (pv 3) pa_nil)))))))
      (pss_one (ps_dput (hu_of hr) (pv 3) (pe_tup (pa_cons (pv 1) (pa_cons (pv 2) pa_nil))) (pe_callB (call_max2 rfl) (by rfl) T.bmax (by decide +kernel) (pa_cons (pv 4) (pa_cons (pe_op op_sub (pe_ix ix_list (pv 0) (pe_op op_sub (pv 2) pe_int) (fun _ _ => rfl)) (pe_call Gworth_of (hr.mono (by first | decide | omega)) (by rfl) T.gworth_of T.Fworth_of.kp T.bworth_of .nil pass0 (pa_cons (pv 0) (pa_cons (pv 1) (pa_cons (pe_op op_sub (pv 2) pe_int) (pa_cons (pv 3) pa_nil)))))) pa_nil))) rfl))) pss_nil)
      (pss_one (ps_ret (pe_dget (hu_of hr) (pv 3) (pe_tup (pa_cons (pv 1) (pa_cons (pv 2) pa_nil))) (fun _ _ => rfl)))))), ?_⟩
    -- low == behind
    refine ⟨_, rfl, _, rfl, rfl, _, rfl, ?_⟩
    refine ite2 (fun c => ?_) (fun c => ?_)
    · have c' : i = j := V.int.inj (of_decide_eq_true c)
      have m0 : m = 0 := by omega
      subst m0
      have q' := q H kvs (SameBut.refl d H) hd hk
      rw [wv_zero] at q'
      exact q'
    · have c' : ¬ V.int i = V.int j := of_decide_eq_false (Bool.eq_false_iff.mpr c)
      have m0 : m ≠ 0 := fun e => c' (congrArg V.int (by omega))
      obtain ⟨m, rfl⟩ : ∃ m', m = m' + 1 := ⟨m - 1, by omega⟩
      have key : [V.int i, V.int j] = (keyOf low (m + 1)).map kV := by
        show [V.int i, V.int j] = [V.int (low : Int), V.int ((low + (m + 1) : Nat) : Int)]
        rw [ei, ej]
      -- (low, behind) not in known
      refine ⟨_, rfl, _, rfl, (by show 2 ≤ sizeLine; decide), fun p hp => ?_⟩
      have npd : p ≠ d := (ne_of_none hd hp).symm
      have hd1 : (upd H p (.tup [V.int i, V.int j])) d = some (.dT kvs) := by rw [upd_ne npd.symm]; exact hd
      have s1 : Same H (upd H p (.tup [V.int i, V.int j])) := same_new hp _
      refine ⟨_, rfl, d, _, rfl, DGet.t (k := keyOf low (m + 1)) hd1 (by rw [upd_same, key]), _, rfl, ?_⟩
      generalize hH1 : upd H p (.tup [V.int i, V.int j]) = H1 at hd1 s1 ⊢
      -- the last row: known[(low, behind)]
      have last : ∀ (H2 : Hp) (kvs2 : List (List Key × V)), SameBut d H H2 → H2 d = some (.dT kvs2) → Known ns kvs2 → valV kvs2 (keyOf low (m + 1)) = some (.int (wv ns (m + 1) low)) →
          ∀ p2, H2 p2 = none → DGet (upd H2 p2 (.tup [V.int i, V.int j])) d (.ref p2) (some (.int (wv ns (m + 1) low))) ∧ Q (.int (wv ns (m + 1) low)) (upd H2 p2 (.tup [V.int i, V.int j])) := fun H2 kvs2 s2 hd2 hk2 hv p2 np2 => by
        have ne2 : p2 ≠ d := (ne_of_none hd2 np2).symm
        have hd3 : (upd H2 p2 (.tup [V.int i, V.int j])) d = some (.dT kvs2) := by rw [upd_ne ne2.symm]; exact hd2
        refine ⟨?_, q _ kvs2 (s2.trans (.of (same_new np2 _))) hd3 hk2⟩
        have g := DGet.t (k := keyOf low (m + 1)) (b := p2) hd3 (by rw [upd_same, key])
        rw [hv] at g
        exact g
      cases e : valV kvs (keyOf low (m + 1)) with
      | some v =>
        refine iteF ?_
        have ev := hk.get e
        subst ev
        refine ⟨_, rfl, _, rfl, _, rfl, (by show 2 ≤ sizeLine; decide), fun p2 np2 => ?_⟩
        obtain ⟨g, q2⟩ := last H1 kvs (.of s1) hd1 hk e p2 np2
        exact ⟨d, _, rfl, g, q2⟩
      | none =>
        refine iteT ?_
        -- first = row[low] - worth_of(row, low + 1, behind, known)
        have hS1 := s1.seq hS
        refine ⟨_, rfl, _, rfl, a, _, _, _, rfl, rfl, hS1, at_get ei (by omega), _, rfl, _, rfl, _, _, rfl, rfl, _, rfl, _, rfl, ?_⟩
        refine ⟨a, d, ns, low + 1, m, _, _, kvs, rfl, by omega, by omega, hS1, hd1, hk, h12, by omega, by omega, fun H2 kvs2 s2 hd2 hk2 => ?_⟩
        have hS2 := s2.seq hd1 hS1
        refine ⟨_, _, rfl, rfl, ?_⟩
        -- known[(low, behind)] = max(first, ..)
        refine ⟨_, rfl, _, rfl, _, rfl, _, _, rfl, rfl, a, _, _, _, rfl, rfl, hS2, at_get (j := low + m) (by omega) (by omega), _, rfl, _, rfl, _, rfl, _, _, rfl, rfl, _, rfl, ?_⟩
        refine ⟨a, d, ns, low, m, _, _, kvs2, rfl, by omega, by omega, hS2, hd2, hk2, h12, by omega, by omega, fun H3 kvs3 s3 hd3 hk3 => ?_⟩
        refine ⟨_, _, rfl, rfl, _, _, rfl, ?_⟩
        have ew : (if ns.getD (low + m) 0 - wv ns m low > ns.getD low 0 - wv ns m (low + 1) then ns.getD (low + m) 0 - wv ns m low else ns.getD low 0 - wv ns m (low + 1)) = wv ns (m + 1) low := (wv_succ ns m low).symm
        rw [ew]
        refine ⟨_, rfl, _, rfl, _, rfl, (by show 2 ≤ sizeLine; decide), fun p3 np3 => ?_⟩
        have ne3 : p3 ≠ d := (ne_of_none hd3 np3).symm
        have hd4 : (upd H3 p3 (.tup [V.int i, V.int j])) d = some (.dT kvs3) := by rw [upd_ne ne3.symm]; exact hd3
        have hl : kvs3.length < sizeLine := size_lt (by have := hk3.len h12; omega)
        refine ⟨d, _, rfl, DPut.t (k := keyOf low (m + 1)) hd4 (by rw [upd_same, key]) hl, ?_⟩
        have s4 : SameBut d H (upd (upd H3 p3 (.tup [V.int i, V.int j])) d (.dT (putK kvs3 (keyOf low (m + 1)) (.int (wv ns (m + 1) low))))) := ((((SameBut.of s1).trans s2).trans s3).trans (.of (same_new np3 _))).trans (.put _)
        refine ⟨_, rfl, _, rfl, _, rfl, (by show 2 ≤ sizeLine; decide), fun p5 np5 => ?_⟩
        obtain ⟨g, q2⟩ := last _ _ s4 upd_same (hk3.put hm) (by rw [valV_put, if_pos rfl]) p5 np5
        exact ⟨d, _, rfl, g, q2⟩
theorem worth_of_all (T : Tx K mg A) : ∀ n : Nat, FnOk P w K mg base CX0 n A.f_worth_of A.d_worth_of ["row", "low", "behind", "known"] (spWorthOf K n)
  | 0 => by
    have no : ∀ vs H Q E, ¬ spWorthOf K 0 vs H Q E := fun vs H Q E h => by
      obtain ⟨a, d, ns, low, m, i, j, kvs, _, _, _, _, _, _, _, _, h0, _⟩ := h
      omega
    exact ⟨fun vs H Q E h => absurd h (no vs H Q E), fun A outer s H args us vs Q E _ _ _ _ h => absurd h (no vs H Q E)⟩
  | n + 1 => step_worth_of T (worth_of_all T n)
theorem ok_worth_of (T : Tx K mg A) : FnOk P w K mg base CX0 13 A.f_worth_of A.d_worth_of ["row", "low", "behind", "known"] (spWorthOf K 13) := worth_of_all T 13
theorem ok_after (T : Tx K mg A) : FnOk P w K mg base CX0 1 A.f_after A.d_after ["row", "low", "behind", "side"] (spAfter K) := by
  refine T.Fafter.ok sc_after (fun vs H Q E h => ?_) (fun cdv A' outer s H vs Q E hr h => ?_)
  · obtain ⟨a, ns, low, m, i, j, b, rfl, _⟩ := h
    rfl
  · obtain ⟨a, ns, low, m, i, j, b, rfl, ei, ej, hS, hm, q⟩ := h
    refine ⟨_, (pss_cons (ps_if (pt_cmpR op_eq (pv 3) (pe_glob (v := .str "left") (by rfl) T.gLEFT ⟨_, rfl⟩) (nomark _)) (pss_one (ps_ret (pe_tup (pa_cons (pe_ix ix_list (pv 0) (pv 1) (fun _ _ => rfl)) (pa_cons (pe_op op_add (pv 1) pe_int) (pa_cons (pv 2) pa_nil)))))) pss_nil)
      (pss_one (ps_ret (pe_tup (pa_cons (pe_ix ix_list (pv 0) (pe_op op_sub (pv 2) pe_int) (fun _ _ => rfl)) (pa_cons (pv 1) (pa_cons (pe_op op_sub (pv 2) pe_int) pa_nil))))))), ?_⟩
    refine ⟨_, rfl, rfl, _, rfl, ?_⟩
    cases b with
    | true =>
      have e : decide (V.str (sideS true) = V.str "left") = true := decide_eq_true rfl
      rw [e]
      refine iteT ?_
      refine ⟨_, rfl, _, rfl, a, _, _, _, rfl, rfl, hS, at_get ei (by omega), _, rfl, _, _, rfl, rfl, _, rfl, (by show 3 ≤ sizeLine; decide), fun p hp => ?_⟩
      have q' := q p hp
      have e1 : i + 1 = ((low + 1 : Nat) : Int) := by omega
      have e2 : j = ((low + 1 + m : Nat) : Int) := by omega
      show Q (.ref p) (upd H p (.tup [V.int (ns.getD low 0), V.int (i + 1), V.int j]))
      rw [e1, e2]
      exact q'
    | false =>
      have e : decide (V.str (sideS false) = V.str "left") = false := decide_eq_false (fun z => absurd (V.str.inj z) (by decide +kernel))
      rw [e]
      refine iteF ?_
      refine ⟨_, rfl, _, rfl, _, _, rfl, rfl, a, _, _, _, rfl, rfl, hS, at_get (j := low + m) (by omega) (by omega), _, rfl, _, rfl, _, _, rfl, rfl, (by show 3 ≤ sizeLine; decide), fun p hp => ?_⟩
      have q' := q p hp
      have e2 : j - 1 = ((low + m : Nat) : Int) := by omega
      show Q (.ref p) (upd H p (.tup [V.int (ns.getD (low + m) 0), V.int i, V.int (j - 1)]))
      rw [ei, e2]
      exact q'
end
end K09
namespace K09
open PySem PySem.Spec PyProof.Rows L2 RE
section
variable {P : Program} {w : World} {K : PySem.W.Frag} {mg : Str → Option Value} {base : Heap} {A : Ad}
theorem ok_best_of (T : Tx K mg A) : FnOk P w K mg base CX0 14 A.f_best_of A.d_best_of ["row", "low", "behind", "known"] (spBestOf K) := by
  have Gworth_of : FnOk P w K mg base CX0 13 A.f_worth_of A.d_worth_of ["row", "low", "behind", "known"] (spWorthOf K 13) := ok_worth_of T
  have Gafter : FnOk P w K mg base CX0 1 A.f_after A.d_after ["row", "low", "behind", "side"] (spAfter K) := ok_after T
  refine T.Fbest_of.ok sc_best_of (fun vs H Q E h => ?_) (fun cdv A' outer s H vs Q E hr h => ?_)
  · obtain ⟨a, d, ns, low, m, i, j, kvs, rfl, _⟩ := h
    rfl
  · obtain ⟨a, d, ns, low, m, i, j, kvs, rfl, ei, ej, hS, hd, hk, h12, hm, q⟩ := h
    refine ⟨_, (pss_cons (ps_par (i := 4) (j := 5) rfl sc_best_of.nd rfl rfl (by decide) rfl rfl (pa_cons (pe_call Gworth_of (hr.mono (by first | decide | omega)) (by rfl) T.gworth_of T.Fworth_of.kp T.bworth_of .nil pass0 (pa_cons (pv 0) (pa_cons (pv 1) (pa_cons (pv 2) (pa_cons (pv 3) pa_nil))))) (pa_cons (pe_lst pa_nil) pa_nil)) (by rfl))
      (pss_cons (ps_for PassesOwn.never rfl (pi_tup (pe_tup (pa_cons (pe_glob (v := .str "left") (by rfl) T.gLEFT ⟨_, rfl⟩) (pa_cons (pe_glob (v := .str "right") (by rfl) T.gRIGHT ⟨_, rfl⟩) pa_nil)))) (pg_name (i := 6) sc_best_of.nd rfl (Or.inl rfl))
      (pss_cons (ps_asg (pe_call Gafter (hr.mono (by first | decide | omega)) (by rfl) T.gafter T.Fafter.kp T.bafter .nil pass0 (pa_cons (pv 0) (pa_cons (pv 1) (pa_cons (pv 2) (pa_cons (pv 6) pa_nil))))) (pg_tup rfl (pgs_cons (pg_name (i := 7) sc_best_of.nd rfl (Or.inl rfl)) (pgs_cons (pg_name (i := 8) sc_best_of.nd rfl (Or.inl rfl)) (pgs_cons (pg_name (i := 9) sc_best_of.nd rfl (Or.inl rfl)) pgs_nil)))))
      (pss_one (ps_if (pt_cmpR op_eq (pe_op op_sub (pv 7) (pe_call Gworth_of (hr.mono (by first | decide | omega)) (by rfl) T.gworth_of T.Fworth_of.kp T.bworth_of .nil pass0 (pa_cons (pv 0) (pa_cons (pv 8) (pa_cons (pv 9) (pa_cons (pv 3) pa_nil)))))) (pv 4) (nomark _)) (pss_one (ps_expr (pe_bm PySem.F.plainAttrs_list PySem.F.slot_list_append PySem.F.type_list_append mt_append (pv 5) (pa_cons (pv 6) pa_nil)))) pss_nil))))
      (pss_one (ps_ret (pv 5))))), ?_⟩
    -- due, found = worth_of(row, low, behind, known), []
    refine ⟨_, rfl, _, rfl, _, rfl, _, rfl, ?_⟩
    refine ⟨a, d, ns, low, m + 1, _, _, kvs, rfl, ei, ej, hS, hd, hk, h12, hm, by omega, fun H1 kvs1 s1 hd1 hk1 => ?_⟩
    refine ⟨Nat.zero_le _, fun f nf => ⟨_, _, rfl, ?_⟩⟩
    have nfd : f ≠ d := (ne_of_none hd1 nf).symm
    have nfH : H f = none := by
      cases z : H f with
      | none => rfl
      | some o =>
        have := s1 f o nfd z
        rw [nf] at this
        cases this
    -- for side in (LEFT, RIGHT)
    refine ⟨(by show 2 ≤ sizeLine; decide), fun t nt => ⟨t, rfl, ⟨_, SqT.of upd_same⟩, ?_⟩⟩
    have ntf : f ≠ t := ne_of_none upd_same nt
    have hd1' : (upd H1 f (.lst [])) d = some (.dT kvs1) := by rw [upd_ne nfd.symm]; exact hd1
    have ntd : d ≠ t := ne_of_none hd1' nt
    refine for_tup (K := K) (a := t) (xs := [V.str "left", V.str "right"]) (fun k σ H2 => ∃ kvs2 x6 x7 x8 x9, σ = [some (.ref a), some (.int i), some (.int j), some (.ref d), some (.int (wv ns (m + 1) low)), some (.ref f), x6, x7, x8, x9] ∧
      SameBut d H H2 ∧ H2 d = some (.dT kvs2) ∧ Known ns kvs2 ∧ H2 f = some (.lst ((([true, false].take k).filter (bestB ns low m)).map fun b => V.str (sideS b))) ∧ H2 t = some (.tup [V.str "left", V.str "right"])) ?_ (fun k σ H2 _ ⟨_, _, _, _, _, _, _, _, _, _, ht⟩ => SqT.of ht) ?_ ?_
    · refine ⟨kvs1, none, none, none, none, rfl, fun b o nb e => ?_, ?_, hk1, ?_, upd_same⟩
      · have e1 := s1 b o nb e
        have n1 : b ≠ f := ne_of_none e nfH
        have e2 : (upd H1 f (.lst [])) b = some o := by rw [upd_ne n1]; exact e1
        rw [upd_ne (ne_of_none e2 nt)]
        exact e2
      · rw [upd_ne ntd]
        exact hd1'
      · rw [upd_ne ntf, upd_same]
        rfl
    · rintro k y σ H2 hi ⟨kvs2, x6, x7, x8, x9, rfl, s2, hd2, hk2, hf2, ht2⟩
      obtain ⟨b, rfl, hb⟩ : ∃ b, y = V.str (sideS b) ∧ [true, false][k]? = some b := by
        match k, hi with
        | 0, hi => exact ⟨true, (Option.some.inj hi).symm, rfl⟩
        | 1, hi => exact ⟨false, (Option.some.inj hi).symm, rfl⟩
        | k + 2, hi => simp at hi
      have hS2 := s2.seq hd hS
      -- coin, left, right = after(row, low, behind, side)
      refine ⟨_, rfl, _, rfl, _, rfl, _, rfl, ?_⟩
      refine ⟨a, ns, low, m, _, _, b, rfl, ei, ej, hS2, hm, fun p np => ?_⟩
      refine ⟨p, _, rfl, SqT.of upd_same, rfl, _, _, rfl, _, _, rfl, _, _, rfl, rfl, ?_⟩
      have npd : d ≠ p := ne_of_none hd2 np
      have hd3 : (upd H2 p (.tup [.int (coinOf ns b low m), .int (lowOf b low : Nat), .int ((lowOf b low + m : Nat) : Int)])) d = some (.dT kvs2) := by rw [upd_ne npd]; exact hd2
      have s3 : Same H2 (upd H2 p (.tup [.int (coinOf ns b low m), .int (lowOf b low : Nat), .int ((lowOf b low + m : Nat) : Int)])) := same_new np _
      -- if coin - worth_of(row, left, right, known) == due
      refine ⟨_, rfl, _, rfl, _, rfl, _, rfl, _, rfl, ?_⟩
      refine ⟨a, d, ns, lowOf b low, m, _, _, kvs2, rfl, rfl, rfl, s3.seq hS2, hd3, hk2, h12, by have := lowOf_le b low m; omega, by omega, fun H4 kvs4 s4 hd4 hk4 => ?_⟩
      refine ⟨_, _, rfl, rfl, _, rfl, rfl, _, rfl, ?_⟩
      have s24 : SameBut d H2 H4 := (SameBut.of s3).trans s4
      have hf4 := s24 f _ nfd hf2
      have ht4 := s24 t _ ntd.symm ht2
      have cond : decide (V.int (coinOf ns b low m - wv ns m (lowOf b low)) = V.int (wv ns (m + 1) low)) = bestB ns low m b := by
        unfold bestB
        by_cases c : coinOf ns b low m - wv ns m (lowOf b low) = wv ns (m + 1) low
        · rw [decide_eq_true c, decide_eq_true (congrArg V.int c)]
        · rw [decide_eq_false c, decide_eq_false (fun z => c (V.int.inj z))]
      have tk : ([true, false].take (k + 1)).filter (bestB ns low m) = ([true, false].take k).filter (bestB ns low m) ++ (if bestB ns low m b = true then [b] else []) := by
        rw [List.take_add_one, hb, List.filter_append]
        congr 1
        by_cases c : bestB ns low m b = true
        · rw [if_pos c]
          simp [c]
        · rw [if_neg c]
          simp [c]
      rw [cond]
      cases c : bestB ns low m b with
      | true =>
        refine iteT ?_
        refine ⟨_, rfl, .inl ⟨rfl, _, SqL.of hf4⟩, _, rfl, f, _, _, rfl, rfl, hf4, ?_, ?_⟩
        · rw [List.length_map]
          have z := List.length_filter_le (bestB ns low m) ([true, false].take k)
          rw [List.length_take] at z
          exact size_lt (by have : [true, false].length = 2 := rfl; omega)
        · refine ⟨kvs4, _, _, _, _, rfl, fun b' o nb e => ?_, ?_, hk4, ?_, ?_⟩
          · rw [upd_ne (ne_of_none e nfH)]
            exact s24 b' o nb (s2 b' o nb e)
          · rw [upd_ne nfd.symm]
            exact hd4
          · rw [upd_same, tk, c, if_pos rfl, List.map_append]
            rfl
          · rw [upd_ne ntf.symm]
            exact ht4
      | false =>
        refine iteF ?_
        refine ⟨kvs4, _, _, _, _, rfl, s2.trans s24, hd4, hk4, ?_, ht4⟩
        rw [tk, c, if_neg Bool.false_ne_true, List.append_nil]
        exact hf4
    · rintro σ H2 ⟨kvs2, x6, x7, x8, x9, rfl, s2, hd2, hk2, hf2, ht2⟩
      refine ⟨_, rfl, ?_⟩
      refine q H2 kvs2 f s2 hd2 hk2 nfH ?_
      rw [ends_filter]
      exact hf2
theorem ok_worth (T : Tx K mg A) : FnOk P w K mg base (L2.CX P w) 14 A.f_worth A.d_worth ["row"] (spWorth K A.C_BadRow) := by
  have Gworth_of : FnOk P w K mg base CX0 13 A.f_worth_of A.d_worth_of ["row", "low", "behind", "known"] (spWorthOf K 13) := ok_worth_of T
  have Gcheck_row : FnOk P w K mg base (L2.CX P w) 2 A.f_check_row A.d_check_row ["row"] (spCheck K A.C_BadRow) := ok_check_row T
  refine T.Fworth.okX sc_worth (fun vs H Q E h => ?_) (fun cdv A' outer s H vs Q E hr h => ?_)
  · obtain ⟨x, rfl, _⟩ := h
    rfl
  · obtain ⟨x, rfl, h⟩ := h
    refine ⟨_, (pss_cons (ps_expr (pe_call Gcheck_row (hr.mono (by first | decide | omega)) (by rfl) T.gcheck_row T.Fcheck_row.kp T.bcheck_row .nil (passes_call (takes_of rfl rfl rfl rfl) (fun _ _ _ _ h => h)) (pa_cons (pv 0) pa_nil)))
      (pss_one (ps_ret (pe_call Gworth_of (hr.mono (by first | decide | omega)) (by rfl) T.gworth_of T.Fworth_of.kp T.bworth_of .nil pass0 (pa_cons (pv 0) (pa_cons pe_int (pa_cons (pe_callB call_len_seq (by rfl) T.blen PySem.boot_len (pa_cons (pv 0) pa_nil)) (pa_cons pe_dnewT pa_nil)))))))), ?_⟩
    refine ⟨_, rfl, ?_⟩
    rcases h with ⟨ns, hrow, q⟩ | ⟨hn, q⟩
    · refine ⟨x, rfl, .inl ⟨ns, hrow, fun H1 s1 => ?_⟩⟩
      obtain ⟨a, rfl, hS, hok⟩ := hrow
      have hS1 := s1.seq hS
      refine ⟨_, rfl, _, rfl, a, _, rfl, .inl hS1, fun d nd => ?_⟩
      refine ⟨a, d, ns, 0, ns.length, _, _, [], rfl, rfl, ?_, (same_new nd _).seq hS1, upd_same, Known.nil _, hok.1, by omega, by have := hok.1; omega, fun H2 kvs2 s2 hd2 hk2 => ?_⟩
      · rw [List.length_map]
        omega
      · exact q H2 (s1.trans (SameBut.free (fun b o nb e => s2 b o nb (by rw [upd_ne nb]; exact e)) nd))
    · exact ⟨x, rfl, .inr ⟨hn, q⟩⟩
theorem ok_best (T : Tx K mg A) : FnOk P w K mg base (L2.CX P w) 15 A.f_best A.d_best ["row"] (spBest K A.C_BadRow) := by
  have Gbest_of : FnOk P w K mg base CX0 14 A.f_best_of A.d_best_of ["row", "low", "behind", "known"] (spBestOf K) := ok_best_of T
  have Gcheck_row : FnOk P w K mg base (L2.CX P w) 2 A.f_check_row A.d_check_row ["row"] (spCheck K A.C_BadRow) := ok_check_row T
  refine T.Fbest.okX sc_best (fun vs H Q E h => ?_) (fun cdv A' outer s H vs Q E hr h => ?_)
  · obtain ⟨x, rfl, _⟩ := h
    rfl
  · obtain ⟨x, rfl, h⟩ := h
    refine ⟨_, (pss_cons (ps_expr (pe_call Gcheck_row (hr.mono (by first | decide | omega)) (by rfl) T.gcheck_row T.Fcheck_row.kp T.bcheck_row .nil (passes_call (takes_of rfl rfl rfl rfl) (fun _ _ _ _ h => h)) (pa_cons (pv 0) pa_nil)))
      (pss_one (ps_ret (pe_ifExp (pt_cmpR (op_neD hr.units) (pv 0) (pe_lst pa_nil) (nomark _)) (pe_call Gbest_of (hr.mono (by first | decide | omega)) (by rfl) T.gbest_of T.Fbest_of.kp T.bbest_of .nil pass0 (pa_cons (pv 0) (pa_cons pe_int (pa_cons (pe_callB call_len_seq (by rfl) T.blen PySem.boot_len (pa_cons (pv 0) pa_nil)) (pa_cons pe_dnewT pa_nil))))) (pe_lst pa_nil))))), ?_⟩
    refine ⟨_, rfl, ?_⟩
    rcases h with ⟨ns, hrow, q⟩ | ⟨hn, q⟩
    · refine ⟨x, rfl, .inl ⟨ns, hrow, fun H1 s1 => ?_⟩⟩
      obtain ⟨a, rfl, hS, hok⟩ := hrow
      have hS1 := s1.seq hS
      -- row != []
      refine ⟨_, rfl, Nat.zero_le _, fun l nl => ?_⟩
      have s2 : Same H (upd H1 l (.lst [])) := s1.trans (same_new nl _)
      have hS2 := s2.seq hS
      refine ⟨_, _, dp_lst hS2 (ok_ints ns), dp_lst (xs := []) (SqL.of upd_same) rfl, shl_flat (ok_ints ns), shl_flat (xs := []) rfl, _, rfl, ?_⟩
      cases ns with
      | nil =>
        refine iteF ?_
        refine ⟨Nat.zero_le _, fun p np => ?_⟩
        exact q _ p (s2.trans (same_new np _)) (s2.free np) upd_same
      | cons z r =>
        refine iteT ?_
        refine ⟨_, rfl, _, rfl, a, _, rfl, .inl hS2, fun d nd => ?_⟩
        refine ⟨a, d, z :: r, 0, r.length, _, _, [], rfl, rfl, ?_, (same_new nd _).seq hS2, upd_same, Known.nil _, hok.1, by rw [List.length_cons]; omega, fun H3 kvs3 p s3 hd3 hk3 np hp => ?_⟩
        · rw [List.length_map, List.length_cons]
          omega
        · have s4 : Same (upd H1 l (.lst [])) H3 := SameBut.free (fun b o nb e => s3 b o nb (by rw [upd_ne nb]; exact e)) nd
          have npd : p ≠ d := fun e => by rw [e, upd_same] at np; cases np
          rw [upd_ne npd] at np
          exact q H3 p (s2.trans s4) (s2.free np) hp
    · exact ⟨x, rfl, .inr ⟨hn, q⟩⟩
theorem ok_sure (T : Tx K mg A) : FnOk P w K mg base (L2.CX P w) 3 A.f_sure A.d_sure ["row"] (spSure K A.C_BadRow A.C_Odd) := by
  have Gcheck_row : FnOk P w K mg base (L2.CX P w) 2 A.f_check_row A.d_check_row ["row"] (spCheck K A.C_BadRow) := ok_check_row T
  refine T.Fsure.okX sc_sure (fun vs H Q E h => ?_) (fun cdv A' outer s H vs Q E hr h => ?_)
  · obtain ⟨x, rfl, _⟩ := h
    rfl
  · obtain ⟨x, rfl, h⟩ := h
    refine ⟨_, (pss_cons (ps_expr (pe_call Gcheck_row (hr.mono (by first | decide | omega)) (by rfl) T.gcheck_row T.Fcheck_row.kp T.bcheck_row .nil (passes_call (takes_of rfl rfl rfl rfl) (fun _ _ _ _ h => h)) (pa_cons (pv 0) pa_nil)))
      (pss_cons (ps_if (pt_cmpR op_eq (pe_op op_mod (pe_callB call_len_seq (by rfl) T.blen PySem.boot_len (pa_cons (pv 0) pa_nil)) pe_int) pe_int (nomark _)) (pss_one (ps_raise rfl (takes_of rfl rfl rfl rfl) (pmk_own PySem.F.excBase_ValueError T.xOdd T.gOdd T.kOdd (raises_own T.BOdd T.tOdd) rfl))) pss_nil)
      (pss_one (ps_ret (pe_callB call_abs (by rfl) T.babs (by decide +kernel) (pa_cons (pe_op op_sub (pe_callB (cr_sum rfl) (by rfl) T.bsum (by decide +kernel) (pa_cons (pe_stepL (pv 0) po_none) pa_nil)) (pe_callB (cr_sum rfl) (by rfl) T.bsum (by decide +kernel) (pa_cons (pe_stepL (pv 0) (po_some pe_int)) pa_nil))) pa_nil)))))), ?_⟩
    refine ⟨_, rfl, ?_⟩
    rcases h with ⟨ns, hrow, q1, q2⟩ | ⟨hn, q⟩
    · refine ⟨x, rfl, .inl ⟨ns, hrow, fun H1 s1 => ?_⟩⟩
      obtain ⟨a, rfl, hS, hok⟩ := hrow
      have hS1 := s1.seq hS
      refine ⟨_, rfl, a, _, rfl, .inl hS1, _, _, rfl, rfl, (by show (0 : Int) < 2; decide), rfl, _, rfl, ?_⟩
      refine ite2 (fun c => ?_) (fun c => ?_)
      · have c' : (((ns.map V.int).length : Int) % 2) = 1 := V.int.inj (of_decide_eq_true c)
        rw [List.length_map] at c'
        exact q1 (by omega) H1 s1
      · have c' : ¬ (((ns.map V.int).length : Int) % 2) = 1 := fun z => c (decide_eq_true (congrArg V.int z))
        rw [List.length_map] at c'
        refine ⟨_, rfl, .inl rfl, a, _, rfl, hS1, fun p np => ?_⟩
        have s2 : Same H1 (upd H1 p (.lst (evens ((ns.map V.int).drop (stepLo none))))) := same_new np _
        have e1 : evens ((ns.map V.int).drop (stepLo none)) = (evens ns).map V.int := by
          show evens (ns.map V.int) = _
          exact evens_map V.int ns
        refine ⟨p, evens ns, rfl, SqL.of (by rw [upd_same, e1]), ?_⟩
        refine ⟨_, rfl, 1, rfl, .inr ⟨1, rfl, by decide⟩, a, _, rfl, s2.seq hS1, fun p2 np2 => ?_⟩
        have e2 : evens ((ns.map V.int).drop (stepLo (some 1))) = (evens (ns.drop 1)).map V.int := by
          show evens ((ns.map V.int).drop 1) = _
          rw [← List.map_drop]
          exact evens_map V.int _
        refine ⟨p2, evens (ns.drop 1), rfl, SqL.of (by rw [upd_same, e2]), ?_⟩
        refine ⟨_, _, rfl, rfl, _, rfl, ?_⟩
        exact q2 (by omega) _ (s1.trans (s2.trans (same_new np2 _)))
    · exact ⟨x, rfl, .inr ⟨hn, q⟩⟩
end
end K09
namespace K09
open PySem PySem.Spec PyProof.Rows L2 RE
section
variable {P : Program} {w : World} {K : PySem.W.Frag} {mg : Str → Option Value} {base : Heap} {A : Ad}
theorem ok_is_side (T : Tx K mg A) : FnOk P w K mg base CX0 1 A.f_is_side A.d_is_side ["thing"] (spSide K) := by
  refine T.Fis_side.ok sc_is_side (fun vs H Q E h => ?_) (fun cdv A' outer s H vs Q E hr h => ?_)
  · obtain ⟨x, T, rfl, _⟩ := h
    rfl
  · obtain ⟨x, ty, rfl, hx, q⟩ := h
    refine ⟨_, (pss_one (ps_ret (pe_and (pe_callB call_isi (by rfl) T.bisinstance (by decide +kernel) (pa_cons (pv 0) (pa_cons (pe_bltn (v := .ty "str") (by rfl) T.bstr (by decide +kernel) rfl) pa_nil))) (pe_one (pe_cmpR op_in_seq (pv 0) (pe_tup (pa_cons (pe_glob (v := .str "left") (by rfl) T.gLEFT ⟨_, rfl⟩) (pa_cons (pe_glob (v := .str "right") (by rfl) T.gRIGHT ⟨_, rfl⟩) pa_nil))) (by rfl)))))), ?_⟩
    refine ⟨_, rfl, _, _, _, _, _, rfl, .ty _, hx.ty, kit_str hx.mem, _, rfl, ?_⟩
    cases e : (ty == "str") with
    | false =>
      refine iteF ?_
      have z : isSideB x = false := by
        cases x <;> first | rfl | (have := hx.of_str; subst this; cases e)
      have q' := q H (Same.refl H)
      rw [z] at q'
      exact q'
    | true =>
      refine iteT ?_
      obtain ⟨z, rfl⟩ := hx.str_of (eq_of_beq e)
      refine ⟨_, rfl, (by show 2 ≤ sizeLine; decide), fun t nt => ?_⟩
      refine ⟨t, _, rfl, .inr (SqT.of upd_same), rfl, rfl, ?_⟩
      have e2 : (if false = true then !inV (V.str z) [V.str "left", V.str "right"] else inV (V.str z) [V.str "left", V.str "right"]) = isSideB (.str z) := by
        rw [if_neg Bool.false_ne_true]
        show ((("left" : Str) == z) || ((("right" : Str) == z) || false)) = (decide (z = "left") || decide (z = "right"))
        rw [Bool.or_false]
        congr 1
        · by_cases c : z = "left"
          · subst c
            simp
          · rw [decide_eq_false c]
            exact beq_eq_false_iff_ne.mpr (fun y => c y.symm)
        · by_cases c : z = "right"
          · subst c
            simp
          · rw [decide_eq_false c]
            exact beq_eq_false_iff_ne.mpr (fun y => c y.symm)
      have q' := q _ (same_new nt (.tup [V.str "left", V.str "right"]))
      rw [← e2] at q'
      exact q'
theorem ok_led (T : Tx K mg A) : FnOk P w K mg base (L2.CX P w) 3 A.f_led A.d_led ["row", "takes"] (spLed K A.C_BadRow A.C_BadTakes) := by
  have Gcheck_row : FnOk P w K mg base (L2.CX P w) 2 A.f_check_row A.d_check_row ["row"] (spCheck K A.C_BadRow) := ok_check_row T
  have Gis_side : FnOk P w K mg base CX0 1 A.f_is_side A.d_is_side ["thing"] (spSide K) := ok_is_side T
  have Gafter : FnOk P w K mg base CX0 1 A.f_after A.d_after ["row", "low", "behind", "side"] (spAfter K) := ok_after T
  refine T.Fled.okX sc_led (fun vs H Q E h => ?_) (fun cdv A' outer s H vs Q E hr h => ?_)
  · obtain ⟨x, t, rfl, _⟩ := h
    rfl
  · obtain ⟨x, t, rfl, h⟩ := h
    refine ⟨_, (pss_cons (ps_expr (pe_call Gcheck_row (hr.mono (by first | decide | omega)) (by rfl) T.gcheck_row T.Fcheck_row.kp T.bcheck_row .nil (passes_call (takes_of rfl rfl rfl rfl) (fun _ _ _ _ h => h)) (pa_cons (pv 0) pa_nil)))
      (pss_cons (ps_if (PW.pt (pw_or (pt_not (pt_val (pe_callB call_isi (by rfl) T.bisinstance (by decide +kernel) (pa_cons (pv 1) (pa_cons (pe_bltn (v := .ty "list") (by rfl) T.blist (by decide +kernel) rfl) pa_nil))))) (pw_or (pt_cmpR op_gt (pe_callB call_len_seq (by rfl) T.blen PySem.boot_len (pa_cons (pv 1) pa_nil)) (pe_callB call_len_seq (by rfl) T.blen PySem.boot_len (pa_cons (pv 0) pa_nil)) (nomark _)) (pw_or1 (pt_not (pt_val (pe_callB (cr_all rfl) (by rfl) T.ball (by decide +kernel) (pa_cons (pe_lc (own := [("side", 2)]) (by rfl) sc_led.nd (pi_list (pv 1)) (blkOk_by (own := [("side", 2)]) (N := N_led) (sc := defScope s_led) (by decide +kernel)) (fun _ _ _ _ _ => (pg_name (i := 2) sc_led.nd rfl (Or.inl rfl))) (fun _ _ _ _ _ => pts_nil) (fun _ _ _ _ _ => (pe_call Gis_side (hr.mono (by first | decide | omega)) (by rfl) T.gis_side T.Fis_side.kp T.bis_side .nil pass0 (pa_cons (pv 2) pa_nil)))) pa_nil)))))))) (pss_one (ps_raise rfl (takes_of rfl rfl rfl rfl) (pmk_own PySem.F.excBase_ValueError T.xBadTakes T.gBadTakes T.kBadTakes (raises_own T.BBadTakes T.tBadTakes) rfl))) pss_nil)
      (pss_cons (ps_par3 (i := 3) (j := 4) (l := 5) rfl sc_led.nd rfl rfl rfl (by decide) (by decide) (by decide) rfl rfl rfl (pa_cons pe_int (pa_cons (pe_callB call_len_seq (by rfl) T.blen PySem.boot_len (pa_cons (pv 0) pa_nil)) (pa_cons (pe_lst (pa_cons pe_int (pa_cons pe_int pa_nil))) pa_nil))) (by rfl))
      (pss_cons (ps_for (passes_of rfl) rfl (pi_enum (by rfl) T.benumerate (pa_cons (pv 1) pa_nil)) (pg_tup rfl (pgs_cons (pg_name (i := 6) sc_led.nd rfl (Or.inl rfl)) (pgs_cons (pg_name (i := 2) sc_led.nd rfl (Or.inl rfl)) pgs_nil)))
      (pss_cons (ps_asg (pe_call Gafter (hr.mono (by first | decide | omega)) (by rfl) T.gafter T.Fafter.kp T.bafter .nil pass0 (pa_cons (pv 0) (pa_cons (pv 3) (pa_cons (pv 4) (pa_cons (pv 2) pa_nil))))) (pg_tup rfl (pgs_cons (pg_name (i := 7) sc_led.nd rfl (Or.inl rfl)) (pgs_cons (pg_name (i := 3) sc_led.nd rfl (Or.inl rfl)) (pgs_cons (pg_name (i := 4) sc_led.nd rfl (Or.inl rfl)) pgs_nil)))))
      (pss_one (ps_augS (pv 5) (pe_op op_mod (pv 6) pe_int) get_list (pv 7) ip_add set_list))))
      (pss_one (ps_ret (pe_tup (pa_cons (pe_ix ix_list (pv 5) pe_int (fun _ _ => rfl)) (pa_cons (pe_ix ix_list (pv 5) pe_int (fun _ _ => rfl)) (pa_cons (pe_slice sl_list (pv 0) (po_some (pv 3)) (po_some (pv 4))) pa_nil)))))))))), ?_⟩
    refine ⟨_, rfl, ?_⟩
    rcases h with ⟨hn, q⟩ | ⟨ns, hrow, h⟩
    · exact ⟨x, rfl, .inr ⟨hn, q⟩⟩
    refine ⟨x, rfl, .inl ⟨ns, hrow, fun H1 s1 => ?_⟩⟩
    obtain ⟨r, rfl, hS, hok⟩ := hrow
    have hS1 := s1.seq hS
    have el : (ns.map V.int).length = ns.length := List.length_map _
    -- what is handed in as takes
    have h' : (∃ ty, PV K H t ty ∧ (ty == "list") = false ∧ ∀ H', Same H H' → E (.ref A.C_BadTakes) none H') ∨
        ∃ (a : Addr) (xs : List V), t = .ref a ∧ SqL K H a xs ∧ (ns.length < xs.length → ∀ H', Same H H' → E (.ref A.C_BadTakes) none H') ∧
        (xs.length ≤ ns.length → (∀ y ∈ xs, ∃ T, PV K H y T)) ∧ (xs.length ≤ ns.length → xs.all isSideB = false → ∀ H', Same H H' → E (.ref A.C_BadTakes) none H') ∧ (xs.length ≤ ns.length → xs.all isSideB = true → ∃ bs, xs = sidesV bs ∧
          ∀ H' p l, Same H H' → H p = none → H l = none → H' p = some (.tup [.int (ledR ns ns.length 0 bs).1, .int (ledR ns ns.length 0 bs).2, .ref l]) → H' l = some (.lst ((stretch ns (ledLow 0 bs) (ns.length - bs.length)).map V.int)) → Q (.ref p) H') := by
      rcases h with ⟨hn, q⟩ | ⟨a, bs, ex, hs, hl, q⟩
      · rcases hn with ⟨ty, hp, e⟩ | ⟨a, xs, ex, hs, hb⟩
        · exact .inl ⟨ty, hp, e, q⟩
        · rcases hb with hb | ⟨hb, hty, ha⟩
          · exact .inr ⟨a, xs, ex, hs, (fun _ => q), (fun h => by omega), (fun h => by omega), (fun h => by omega)⟩
          · exact .inr ⟨a, xs, ex, hs, (fun h => by omega), (fun _ => hty), (fun _ _ => q), (fun _ h => by rw [ha] at h; cases h)⟩
      · refine .inr ⟨a, _, ex, hs, (fun h => ?_), (fun _ y hy => ?_), (fun _ h => ?_), (fun _ _ => ⟨bs, rfl, q⟩)⟩
        · rw [sidesV_len] at h
          omega
        · obtain ⟨b, _, rfl⟩ := List.mem_map.mp hy
          exact ⟨_, pv_str _⟩
        · rw [all_sides] at h
          cases h
    rcases h' with ⟨ty, hp, e, q⟩ | ⟨a, xs, ex, hs, hlong, hty, hbad, hgood⟩
    · have hp1 := hp.mono s1
      refine ⟨_, rfl, _, _, _, _, _, rfl, .ty _, hp1.ty, kit_list hp1.mem, _, rfl, ?_⟩
      rw [e]
      exact iteT (iteT (q H1 s1))
    subst ex
    have hs1 := s1.seq hs
    have hp := pv_sq hs1
    refine ⟨_, rfl, _, _, _, _, _, rfl, .ty _, hp.ty, kit_list hp.mem, _, rfl, ?_⟩
    refine iteF ?_
    refine ⟨_, rfl, a, xs, rfl, .inl hs1, _, rfl, r, _, rfl, .inl hS1, _, _, rfl, rfl, _, rfl, ?_⟩
    by_cases c : ns.length < xs.length
    · refine iteTb (decide_eq_true (by rw [el]; omega)) ?_
      exact iteT (hlong c H1 s1)
    refine iteFb (decide_eq_false (by rw [el]; omega)) ?_
    have hl : xs.length ≤ ns.length := by omega
    have hn12 := hok.1
    refine ⟨_, rfl, a, rfl, ⟨_, hs1⟩, fun D nD => lc_list (K := K) (a := a) (xs := xs) (fun i H2 => Same H1 H2 ∧ H2 D = some (.lst ((xs.take i).map fun y => V.bl (isSideB y)))) ⟨same_new nD _, upd_same⟩ (fun i H2 _ h2 => h2.1.seq hs1) ?_ ?_⟩
    · rintro i y H2 hi ⟨s2, e2⟩
      obtain ⟨ty, hy⟩ := hty hl y (List.mem_of_getElem? hi)
      refine ⟨rfl, ?_⟩
      have hlt : i < xs.length := (List.getElem?_eq_some_iff.mp hi).1
      refine ⟨_, rfl, y, ty, rfl, hy.mono (s1.trans s2), fun H3 s3 => ?_⟩
      refine ⟨_, s3 _ _ e2, ?_, fun c o e => ?_, ?_⟩
      · rw [List.length_map, List.length_take]
        exact size_lt (by omega)
      · rw [upd_ne (ne_of_none e nD)]
        exact s3 c o (s2 c o e)
      · rw [upd_same, List.take_add_one, hi, List.map_append]
        rfl
    · rintro H2 ⟨s2, e2⟩
      rw [List.take_length] at e2
      have e3 : (xs.map fun y => V.bl (isSideB y)) = (xs.map isSideB).map V.bl := by rw [List.map_map]; rfl
      rw [e3] at e2
      refine ⟨D, _, rfl, SqL.of e2, _, rfl, ?_⟩
      have e4 : (xs.map isSideB).all id = xs.all isSideB := by rw [List.all_map]; rfl
      rw [e4]
      cases e : xs.all isSideB with
      | false => exact iteT (hbad hl e H2 (s1.trans s2))
      | true =>
        refine iteF ?_
        obtain ⟨bs, rfl, q⟩ := hgood hl e
        rw [sidesV_len] at hl
        have s12 := s1.trans s2
        -- low, behind, sums = 0, len(row), [0, 0]
        refine ⟨_, rfl, r, _, rfl, .inl (s12.seq hS), (by show 2 ≤ sizeLine; decide), fun u nu => ⟨_, _, _, rfl, ?_⟩⟩
        have s3 := same_new nu (.lst [V.int 0, V.int 0])
        have hs3 := s3.seq (s2.seq hs1)
        refine ⟨_, rfl, a, _, rfl, hs3, ?_⟩
        refine for_enum (K := K) (a := a) (xs := sidesV bs) (fun i σ H4 => ∃ (x2 : Option V) (low n : Nat) (x6 x7 : Option V) (x y : Int), σ = [some (.ref r), some (.ref a), x2, some (.int (low : Int)), some (.int ((low + n : Nat) : Int)), some (.ref u), x6, x7] ∧
          Same H2 H4 ∧ H4 u = some (.lst [V.int x, V.int y]) ∧ low + n ≤ ns.length ∧ n + i = ns.length ∧ ledLow low (bs.drop i) = ledLow 0 bs ∧
          (i % 2 = 0 → x + (ledR ns n low (bs.drop i)).1 = (ledR ns ns.length 0 bs).1 ∧ y + (ledR ns n low (bs.drop i)).2 = (ledR ns ns.length 0 bs).2) ∧
          (i % 2 = 1 → y + (ledR ns n low (bs.drop i)).1 = (ledR ns ns.length 0 bs).2 ∧ x + (ledR ns n low (bs.drop i)).2 = (ledR ns ns.length 0 bs).1)) ?_ ?_ ?_ ?_
        · refine ⟨none, 0, ns.length, none, none, 0, 0, ?_, s3, upd_same, by omega, rfl, rfl, fun _ => ⟨by rw [List.drop_zero]; omega, by rw [List.drop_zero]; omega⟩, fun h => by omega⟩
          rw [el, Nat.zero_add]
          rfl
        · rintro i σ H4 ⟨x2, low, n, x6, x7, x, y, rfl, s4, _⟩
          exact s4.seq (s2.seq hs1)
        · rintro i y T σ H4 hi ⟨x2, low, n, x6, x7, x, yy, rfl, s4, hu4, hn, hni, hlow, hev, hod⟩ nT
          have hlt : i < bs.length := by
            have := (List.getElem?_eq_some_iff.mp hi).1
            rw [sidesV_len] at this
            exact this
          have hy : y = V.str (sideS bs[i]) := by
            unfold sidesV at hi
            rw [List.getElem?_map, List.getElem?_eq_getElem hlt] at hi
            exact (Option.some.inj hi).symm
          subst hy
          have hdrop : bs.drop i = bs[i] :: bs.drop (i + 1) := List.drop_eq_getElem_cons hlt
          obtain ⟨m, rfl⟩ : ∃ m, n = m + 1 := ⟨n - 1, by omega⟩
          generalize hb : bs[i] = b at *
          have s5 := same_new nT (.tup [.int (i : Nat), V.str (sideS b)])
          -- at, side
          refine ⟨T, _, rfl, SqT.of upd_same, rfl, _, _, rfl, _, _, rfl, rfl, ?_⟩
          -- coin, low, behind = after(row, low, behind, side)
          have hS5 := (s12.trans (s4.trans s5)).seq hS
          refine ⟨_, rfl, _, rfl, _, rfl, _, rfl, ?_⟩
          refine ⟨r, ns, low, m, _, _, b, rfl, rfl, rfl, hS5, hn, fun p np => ?_⟩
          have s6 := same_new np (.tup [.int (coinOf ns b low m), .int (lowOf b low : Nat), .int ((lowOf b low + m : Nat) : Int)])
          refine ⟨p, _, rfl, SqT.of upd_same, rfl, _, _, rfl, _, _, rfl, _, _, rfl, rfl, ?_⟩
          have hu6 := s6 _ _ (s5 _ _ hu4)
          rw [hdrop] at hlow hev hod
          rw [ledR_cons] at hev hod
          -- sums[at % 2] += coin
          rcases Nat.mod_two_eq_zero_or_one i with par | par
          · have ei : ((i : Nat) : Int) % 2 = ((0 : Nat) : Int) := by omega
            obtain ⟨h1, h2⟩ := hev par
            refine ⟨_, rfl, _, rfl, _, _, rfl, rfl, (by show (0 : Int) < 2; decide), u, _, _, .int x, rfl, rfl, SqL.of hu6, (by rw [ei]; exact atI_nat rfl), _, rfl, _, _, rfl, rfl, u, _, _, 0, rfl, rfl, hu6, (by rw [ei]; rfl), ?_⟩
            refine ⟨_, lowOf b low, m, _, _, _, yy, rfl, fun c o e => ?_, upd_same, by have := lowOf_le b low m; omega, by omega, hlow, fun h => by omega, fun _ => ⟨?_, ?_⟩⟩
            · rw [upd_ne (ne_of_none e nu)]
              exact s6 c o (s5 c o (s4 c o e))
            · show yy + (ledR ns m (lowOf b low) (bs.drop (i + 1))).1 = _
              exact h2
            · show (x + coinOf ns b low m) + (ledR ns m (lowOf b low) (bs.drop (i + 1))).2 = _
              have h1' : x + (coinOf ns b low m + (ledR ns m (lowOf b low) (bs.drop (i + 1))).2) = (ledR ns ns.length 0 bs).1 := h1
              omega
          · have ei : ((i : Nat) : Int) % 2 = ((1 : Nat) : Int) := by omega
            obtain ⟨h1, h2⟩ := hod par
            refine ⟨_, rfl, _, rfl, _, _, rfl, rfl, (by show (0 : Int) < 2; decide), u, _, _, .int yy, rfl, rfl, SqL.of hu6, (by rw [ei]; exact atI_nat rfl), _, rfl, _, _, rfl, rfl, u, _, _, 1, rfl, rfl, hu6, (by rw [ei]; rfl), ?_⟩
            refine ⟨_, lowOf b low, m, _, _, x, _, rfl, fun c o e => ?_, upd_same, by have := lowOf_le b low m; omega, by omega, hlow, fun _ => ⟨?_, ?_⟩, fun h => by omega⟩
            · rw [upd_ne (ne_of_none e nu)]
              exact s6 c o (s5 c o (s4 c o e))
            · show x + (ledR ns m (lowOf b low) (bs.drop (i + 1))).1 = _
              exact h2
            · show (yy + coinOf ns b low m) + (ledR ns m (lowOf b low) (bs.drop (i + 1))).2 = _
              have h1' : yy + (coinOf ns b low m + (ledR ns m (lowOf b low) (bs.drop (i + 1))).2) = (ledR ns ns.length 0 bs).2 := h1
              omega
        · rintro σ H4 ⟨x2, low, n, x6, x7, x, y, rfl, s4, hu4, hn, hni, hlow, hev, hod⟩
          rw [sidesV_len] at hni hlow hev hod
          rw [List.drop_length] at hlow hev hod
          rw [ledR_nil] at hev hod
          have hx : x = (ledR ns ns.length 0 bs).1 ∧ y = (ledR ns ns.length 0 bs).2 := by
            rcases Nat.mod_two_eq_zero_or_one bs.length with par | par
            · obtain ⟨h1, h2⟩ := hev par
              exact ⟨by have : x + 0 = _ := h1; omega, by have : y + 0 = _ := h2; omega⟩
            · obtain ⟨h1, h2⟩ := hod par
              exact ⟨by have : x + 0 = _ := h2; omega, by have : y + 0 = _ := h1; omega⟩
          have hlow' : low = ledLow 0 bs := hlow
          have hn' : n = ns.length - bs.length := by omega
          have sH4 := s12.trans s4
          -- return (sums[0], sums[1], row[low:behind])
          refine ⟨_, rfl, u, _, _, _, rfl, rfl, SqL.of hu4, atI_nat (j := 0) rfl, _, rfl, u, _, _, _, rfl, rfl, SqL.of hu4, atI_nat (j := 1) rfl, _, rfl, _, rfl, _, rfl, _, rfl, _, rfl, r, _, rfl, sH4.seq hS, fun l nl => ⟨(by show 3 ≤ sizeLine; decide), fun p np => ?_⟩⟩
          have s7 := same_new nl (.lst (cutV (ns.map V.int) (some (low : Int)) (some ((low + n : Nat) : Int))))
          have s8 := same_new np (.tup [V.int x, V.int y, V.ref l])
          refine q _ p l (sH4.trans (s7.trans s8)) ((sH4.trans s7).free np) (sH4.free nl) ?_ ?_
          · rw [upd_same, hx.1, hx.2]
          · refine s8 _ _ ?_
            rw [upd_same, stretch_cut hn rfl rfl, hlow', hn']
theorem ok_greedy (T : Tx K mg A) : FnOk P w K mg base (L2.CX P w) 3 A.f_greedy A.d_greedy ["row"] (spGreedy K A.C_BadRow) := by
  have Gcheck_row : FnOk P w K mg base (L2.CX P w) 2 A.f_check_row A.d_check_row ["row"] (spCheck K A.C_BadRow) := ok_check_row T
  have Gafter : FnOk P w K mg base CX0 1 A.f_after A.d_after ["row", "low", "behind", "side"] (spAfter K) := ok_after T
  refine T.Fgreedy.okX sc_greedy (fun vs H Q E h => ?_) (fun cdv A' outer s H vs Q E hr h => ?_)
  · obtain ⟨x, rfl, _⟩ := h
    rfl
  · obtain ⟨x, rfl, h⟩ := h
    refine ⟨_, (pss_cons (ps_expr (pe_call Gcheck_row (hr.mono (by first | decide | omega)) (by rfl) T.gcheck_row T.Fcheck_row.kp T.bcheck_row .nil (passes_call (takes_of rfl rfl rfl rfl) (fun _ _ _ _ h => h)) (pa_cons (pv 0) pa_nil)))
      (pss_cons (ps_par3 (i := 1) (j := 2) (l := 3) rfl sc_greedy.nd rfl rfl rfl (by decide) (by decide) (by decide) rfl rfl rfl (pa_cons pe_int (pa_cons (pe_callB call_len_seq (by rfl) T.blen PySem.boot_len (pa_cons (pv 0) pa_nil)) (pa_cons (pe_lst pa_nil) pa_nil))) (by rfl))
      (pss_cons (ps_while (passes_of rfl) (pt_cmpR op_lt (pv 1) (pv 2) (nomark _))
      (pss_mid (ps_set (i := 4) sc_greedy.nd rfl (Or.inl rfl) (pe_ifExp (pt_cmpR op_ge (pe_ix ix_list (pv 0) (pv 1) (fun _ _ => rfl)) (pe_ix ix_list (pv 0) (pe_op op_sub (pv 2) pe_int) (fun _ _ => rfl)) (nomark _)) (pe_glob (v := .str "left") (by rfl) T.gLEFT ⟨_, rfl⟩) (pe_glob (v := .str "right") (by rfl) T.gRIGHT ⟨_, rfl⟩)))
      (pss_cons (ps_expr (pe_bm PySem.F.plainAttrs_list PySem.F.slot_list_append PySem.F.type_list_append mt_append (pv 3) (pa_cons (pv 4) pa_nil)))
      (pss_one (ps_asg (pe_call Gafter (hr.mono (by first | decide | omega)) (by rfl) T.gafter T.Fafter.kp T.bafter .nil pass0 (pa_cons (pv 0) (pa_cons (pv 1) (pa_cons (pv 2) (pa_cons (pv 4) pa_nil))))) (pg_tup rfl (pgs_cons (pg_name (i := 5) sc_greedy.nd rfl (Or.inl rfl)) (pgs_cons (pg_name (i := 1) sc_greedy.nd rfl (Or.inl rfl)) (pgs_cons (pg_name (i := 2) sc_greedy.nd rfl (Or.inl rfl)) pgs_nil)))))))))
      (pss_one (ps_ret (pv 3)))))), ?_⟩
    refine ⟨_, rfl, ?_⟩
    rcases h with ⟨ns, hrow, q⟩ | ⟨hn, q⟩
    · refine ⟨x, rfl, .inl ⟨ns, hrow, fun H1 s1 => ?_⟩⟩
      obtain ⟨r, rfl, hS, hok⟩ := hrow
      have hS1 := s1.seq hS
      have el : (ns.map V.int).length = ns.length := List.length_map _
      refine ⟨_, rfl, r, _, rfl, .inl hS1, Nat.zero_le _, fun f nf => ⟨_, _, _, rfl, ?_⟩⟩
      -- while low < behind
      refine ⟨fun n σ H2 => ∃ (low : Nat) (acc : List Bool) (x4 x5 : Option V), σ = [some (.ref r), some (.int (low : Int)), some (.int ((low + n : Nat) : Int)), some (.ref f), x4, x5] ∧ Same H1 H2 ∧ H2 f = some (.lst (sidesV acc)) ∧ low + n ≤ ns.length ∧ acc.length + n = ns.length ∧ acc ++ greedyV ns n low = greedyV ns ns.length 0, ?_, ?_⟩
      · refine ⟨ns.length, 0, [], none, none, ?_, same_new nf _, upd_same, by omega, by simp, rfl⟩
        rw [el, Nat.zero_add]
        rfl
      · rintro n σ H2 ⟨low, acc, x4, x5, rfl, s2, hf2, hn, hl, hg⟩
        have hS2 := s2.seq hS1
        refine ⟨_, rfl, _, rfl, _, _, rfl, rfl, _, rfl, ?_⟩
        cases n with
        | zero =>
          refine iteFb (decide_eq_false (by omega)) ?_
          refine ⟨_, rfl, ?_⟩
          have e : greedyV ns 0 low = [] := rfl
          rw [e, List.append_nil] at hg
          subst hg
          exact q H2 f (s1.trans s2) (s1.free nf) hf2
        | succ m =>
          refine iteTb (decide_eq_true (by omega)) ?_
          refine ⟨fun σ' H' => ∃ (low : Nat) (acc : List Bool) (x4 x5 : Option V), σ' = [some (.ref r), some (.int (low : Int)), some (.int ((low + m : Nat) : Int)), some (.ref f), x4, x5] ∧ Same H1 H' ∧ H' f = some (.lst (sidesV acc)) ∧ low + m ≤ ns.length ∧ acc.length + m = ns.length ∧ acc ++ greedyV ns m low = greedyV ns ns.length 0, fun σ' H' h => ⟨m, Nat.lt_succ_self m, h⟩, ?_⟩
          -- side = LEFT if row[low] >= row[behind - 1] else RIGHT
          refine ⟨fun σ' H' => σ' = [some (.ref r), some (.int (low : Int)), some (.int ((low + (m + 1) : Nat) : Int)), some (.ref f), some (.str (sideS (decide (ns.getD (low + m) 0 ≤ ns.getD low 0)))), x5] ∧ H' = H2, ?_, ?_⟩
          · refine ⟨_, rfl, _, rfl, r, _, _, _, rfl, rfl, hS2, at_get (j := low) rfl (by omega), _, rfl, _, rfl, _, _, rfl, rfl, r, _, _, _, rfl, rfl, hS2, at_get (j := low + m) (by omega) (by omega), _, _, rfl, rfl, _, rfl, ?_⟩
            by_cases c : ns.getD (low + m) 0 ≤ ns.getD low 0
            · refine iteTb (decide_eq_true c) ?_
              refine ⟨?_, rfl⟩
              rw [decide_eq_true c]
              rfl
            · refine iteFb (decide_eq_false c) ?_
              refine ⟨?_, rfl⟩
              rw [decide_eq_false c]
              rfl
          · rintro σ' H' ⟨rfl, rfl⟩
            rw [greedyV_succ] at hg
            generalize decide (ns.getD (low + m) 0 ≤ ns.getD low 0) = b at hg ⊢
            -- found.append(side)
            refine ⟨_, rfl, .inl ⟨rfl, _, SqL.of hf2⟩, _, rfl, f, _, _, rfl, rfl, hf2, by rw [sidesV_len]; have := hok.1; exact size_lt (by omega), ?_⟩
            have s3 : Same H1 (upd H' f (.lst (sidesV acc ++ [V.str (sideS b)]))) := fun c o e => by
              rw [upd_ne (ne_of_none e nf)]
              exact s2 c o e
            have hS3 := s3.seq hS1
            -- coin, low, behind = after(row, low, behind, side)
            refine ⟨_, rfl, _, rfl, _, rfl, _, rfl, ?_⟩
            refine ⟨r, ns, low, m, _, _, b, rfl, rfl, rfl, hS3, hn, fun p np => ?_⟩
            have s6 := same_new np (.tup [.int (coinOf ns b low m), .int (lowOf b low : Nat), .int ((lowOf b low + m : Nat) : Int)])
            refine ⟨p, _, rfl, SqT.of upd_same, rfl, _, _, rfl, _, _, rfl, _, _, rfl, rfl, ?_⟩
            refine ⟨lowOf b low, acc ++ [b], _, _, rfl, s3.trans s6, ?_, by have := lowOf_le b low m; omega, by rw [List.length_append]; show acc.length + 1 + m = _; omega, ?_⟩
            · refine s6 _ _ ?_
              rw [upd_same]
              unfold sidesV
              rw [List.map_append]
              rfl
            · rw [List.append_assoc]
              exact hg
    · exact ⟨x, rfl, .inr ⟨hn, q⟩⟩
end
end K09
namespace K09
open PySem PySem.Spec PyProof.Rows L2 RE
section
variable {P : Program} {w : World} {K : PySem.W.Frag} {mg : Str → Option Value} {base : Heap} {A : Ad}
theorem step_plays_of (T : Tx K mg A) {n : Nat} (Gplays_of : FnOk P w K mg base CX0 (n + 14) A.f_plays_of A.d_plays_of ["row", "low", "behind", "known"] (spPlaysOf K n)) :
    FnOk P w K mg base CX0 (n + 1 + 14) A.f_plays_of A.d_plays_of ["row", "low", "behind", "known"] (spPlaysOf K (n + 1)) := by
  have Gbest_of : FnOk P w K mg base CX0 14 A.f_best_of A.d_best_of ["row", "low", "behind", "known"] (spBestOf K) := ok_best_of T
  have Gafter : FnOk P w K mg base CX0 1 A.f_after A.d_after ["row", "low", "behind", "side"] (spAfter K) := ok_after T
  rw [show n + 1 + 14 = n + 14 + 1 by omega]
  refine T.Fplays_of.ok sc_plays_of (fun vs H Q E h => ?_) (fun cdv A' outer s H vs Q E hr h => ?_)
  · obtain ⟨a, d, ns, low, m, i, j, kvs, rfl, _⟩ := h
    rfl
  · obtain ⟨a, d, ns, low, m, i, j, kvs, rfl, ei, ej, hS, hd, hk, h12, hm, hn, q⟩ := h
    refine ⟨_, (pss_cons (ps_if (pt_cmpR op_eq (pv 1) (pv 2) (nomark _)) (pss_one (ps_ret pe_int)) pss_nil)
      (pss_cons (ps_set (i := 4) sc_plays_of.nd rfl (Or.inl rfl) pe_int)
      (pss_cons (ps_for PassesOwn.never rfl (pi_list (pe_call Gbest_of (hr.mono (by first | decide | omega)) (by rfl) T.gbest_of T.Fbest_of.kp T.bbest_of .nil pass0 (pa_cons (pv 0) (pa_cons (pv 1) (pa_cons (pv 2) (pa_cons (pv 3) pa_nil)))))) (pg_name (i := 5) sc_plays_of.nd rfl (Or.inl rfl))
      (pss_cons (ps_asg (pe_call Gafter (hr.mono (by first | decide | omega)) (by rfl) T.gafter T.Fafter.kp T.bafter .nil pass0 (pa_cons (pv 0) (pa_cons (pv 1) (pa_cons (pv 2) (pa_cons (pv 5) pa_nil))))) (pg_tup rfl (pgs_cons (pg_name (i := 6) sc_plays_of.nd rfl (Or.inl rfl)) (pgs_cons (pg_name (i := 7) sc_plays_of.nd rfl (Or.inl rfl)) (pgs_cons (pg_name (i := 8) sc_plays_of.nd rfl (Or.inl rfl)) pgs_nil)))))
      (pss_one (ps_aug (i := 4) sc_plays_of.nd rfl (Or.inl rfl) (pe_call Gplays_of (hr.mono (by first | decide | omega)) (by rfl) T.gplays_of T.Fplays_of.kp T.bplays_of .nil pass0 (pa_cons (pv 0) (pa_cons (pv 7) (pa_cons (pv 8) (pa_cons (pv 3) pa_nil))))) ip_add))))
      (pss_one (ps_ret (pv 4)))))), ?_⟩
    refine ⟨_, rfl, _, rfl, rfl, _, rfl, ?_⟩
    cases m with
    | zero =>
      refine iteTb (decide_eq_true (congrArg V.int (by omega))) ?_
      exact q H kvs (SameBut.refl d H) hd hk
    | succ m =>
      refine iteFb (decide_eq_false (fun z => by have z' : i = j := V.int.inj z; omega)) ?_
      -- for side in best_of(..)
      refine ⟨_, rfl, _, rfl, _, rfl, _, rfl, ?_⟩
      refine ⟨a, d, ns, low, m, _, _, kvs, rfl, ei, ej, hS, hd, hk, h12, hm, fun H1 kvs1 p s1 hd1 hk1 np hp => ?_⟩
      have hpd : p ≠ d := ne_of hp hd1 (by intro z; cases z)
      refine ⟨p, rfl, ⟨_, SqL.of hp⟩, ?_⟩
      refine for_list (K := K) (a := p) (xs := sidesV (ends ns (m + 1) low)) (fun t σ H2 => ∃ (kvs2 : List (List Key × V)) (x5 x6 x7 x8 : Option V), σ = [some (.ref a), some (.int i), some (.int j), some (.ref d), some (.int (((ends ns (m + 1) low).take t).map fun b => many ns m (lowOf b low)).sum), x5, x6, x7, x8] ∧
        SameBut d H1 H2 ∧ H2 d = some (.dT kvs2) ∧ Known ns kvs2) ⟨kvs1, none, none, none, none, rfl, SameBut.refl _ _, hd1, hk1⟩ ?_ ?_ ?_
      · rintro t σ H2 _ ⟨kvs2, x5, x6, x7, x8, rfl, s2, hd2, hk2⟩
        exact SqL.of (s2 _ _ hpd hp)
      · rintro t y σ H2 hi ⟨kvs2, x5, x6, x7, x8, rfl, s2, hd2, hk2⟩
        have hlt : t < (ends ns (m + 1) low).length := by
          have := (List.getElem?_eq_some_iff.mp hi).1
          rw [sidesV_len] at this
          exact this
        have hy : y = V.str (sideS (ends ns (m + 1) low)[t]) := by
          unfold sidesV at hi
          rw [List.getElem?_map, List.getElem?_eq_getElem hlt] at hi
          exact (Option.some.inj hi).symm
        subst hy
        have hget : (ends ns (m + 1) low)[t]? = some (ends ns (m + 1) low)[t] := List.getElem?_eq_getElem hlt
        generalize (ends ns (m + 1) low)[t] = b at hget
        have hS2 := (s1.trans s2).seq hd hS
        refine ⟨_, rfl, _, rfl, _, rfl, _, rfl, ?_⟩
        refine ⟨a, ns, low, m, _, _, b, rfl, ei, ej, hS2, hm, fun p2 np2 => ?_⟩
        have s3 := same_new np2 (.tup [.int (coinOf ns b low m), .int (lowOf b low : Nat), .int ((lowOf b low + m : Nat) : Int)])
        refine ⟨p2, _, rfl, SqT.of upd_same, rfl, _, _, rfl, _, _, rfl, _, _, rfl, rfl, ?_⟩
        have hd3 := s3 _ _ hd2
        -- found += plays_of(row, left, right, known)
        refine ⟨_, rfl, _, rfl, _, rfl, _, rfl, _, rfl, ?_⟩
        refine ⟨a, d, ns, lowOf b low, m, _, _, kvs2, rfl, rfl, rfl, s3.seq hS2, hd3, hk2, h12, by have := lowOf_le b low m; omega, by omega, fun H4 kvs4 s4 hd4 hk4 => ?_⟩
        refine ⟨_, _, rfl, rfl, ?_⟩
        refine ⟨kvs4, some (.str (sideS b)), some (.int (coinOf ns b low m)), some (.int (lowOf b low : Nat)), some (.int ((lowOf b low + m : Nat) : Int)), ?_, s2.trans ((SameBut.of s3).trans s4), hd4, hk4⟩
        rw [sum_take1 _ hget]
        rfl
      · rintro σ H2 ⟨kvs2, x5, x6, x7, x8, rfl, s2, hd2, hk2⟩
        refine ⟨_, rfl, ?_⟩
        have q' := q H2 kvs2 (s1.trans s2) hd2 hk2
        rw [many_succ] at q'
        rw [sidesV_len, List.take_length]
        exact q'
theorem plays_of_all (T : Tx K mg A) : ∀ n : Nat, FnOk P w K mg base CX0 (n + 14) A.f_plays_of A.d_plays_of ["row", "low", "behind", "known"] (spPlaysOf K n)
  | 0 => by
    have no : ∀ vs H Q E, ¬ spPlaysOf K 0 vs H Q E := fun vs H Q E h => by
      obtain ⟨a, d, ns, low, m, i, j, kvs, _, _, _, _, _, _, _, _, h0, _⟩ := h
      omega
    exact ⟨fun vs H Q E h => absurd h (no vs H Q E), fun A outer s H args us vs Q E _ _ _ _ h => absurd h (no vs H Q E)⟩
  | n + 1 => step_plays_of T (plays_of_all T n)
theorem ok_plays_of (T : Tx K mg A) : FnOk P w K mg base CX0 27 A.f_plays_of A.d_plays_of ["row", "low", "behind", "known"] (spPlaysOf K 13) := plays_of_all T 13
theorem ok_how_many (T : Tx K mg A) : FnOk P w K mg base (L2.CX P w) 28 A.f_how_many A.d_how_many ["row"] (spHowMany K A.C_BadRow) := by
  have Gplays_of : FnOk P w K mg base CX0 27 A.f_plays_of A.d_plays_of ["row", "low", "behind", "known"] (spPlaysOf K 13) := ok_plays_of T
  have Gcheck_row : FnOk P w K mg base (L2.CX P w) 2 A.f_check_row A.d_check_row ["row"] (spCheck K A.C_BadRow) := ok_check_row T
  refine T.Fhow_many.okX sc_how_many (fun vs H Q E h => ?_) (fun cdv A' outer s H vs Q E hr h => ?_)
  · obtain ⟨x, rfl, _⟩ := h
    rfl
  · obtain ⟨x, rfl, h⟩ := h
    refine ⟨_, (pss_cons (ps_expr (pe_call Gcheck_row (hr.mono (by first | decide | omega)) (by rfl) T.gcheck_row T.Fcheck_row.kp T.bcheck_row .nil (passes_call (takes_of rfl rfl rfl rfl) (fun _ _ _ _ h => h)) (pa_cons (pv 0) pa_nil)))
      (pss_one (ps_ret (pe_call Gplays_of (hr.mono (by first | decide | omega)) (by rfl) T.gplays_of T.Fplays_of.kp T.bplays_of .nil pass0 (pa_cons (pv 0) (pa_cons pe_int (pa_cons (pe_callB call_len_seq (by rfl) T.blen PySem.boot_len (pa_cons (pv 0) pa_nil)) (pa_cons pe_dnewT pa_nil)))))))), ?_⟩
    refine ⟨_, rfl, ?_⟩
    rcases h with ⟨ns, hrow, q⟩ | ⟨hn, q⟩
    · refine ⟨x, rfl, .inl ⟨ns, hrow, fun H1 s1 => ?_⟩⟩
      obtain ⟨a, rfl, hS, hok⟩ := hrow
      have hS1 := s1.seq hS
      refine ⟨_, rfl, _, rfl, a, _, rfl, .inl hS1, fun d nd => ?_⟩
      refine ⟨a, d, ns, 0, ns.length, _, _, [], rfl, rfl, ?_, (same_new nd _).seq hS1, upd_same, Known.nil _, hok.1, by omega, by have := hok.1; omega, fun H2 kvs2 s2 hd2 hk2 => ?_⟩
      · rw [List.length_map]
        omega
      · exact q H2 (s1.trans (SameBut.free (fun b o nb e => s2 b o nb (by rw [upd_ne nb]; exact e)) nd))
    · exact ⟨x, rfl, .inr ⟨hn, q⟩⟩
theorem ok_play_by (T : Tx K mg A) : FnOk P w K mg base (L2.CX P w) 28 A.f_play_by A.d_play_by ["row", "number"] (spPlayBy K A.C_BadRow A.C_BadNumber) := by
  have Gplays_of : FnOk P w K mg base CX0 27 A.f_plays_of A.d_plays_of ["row", "low", "behind", "known"] (spPlaysOf K 13) := ok_plays_of T
  have Gcheck_row : FnOk P w K mg base (L2.CX P w) 2 A.f_check_row A.d_check_row ["row"] (spCheck K A.C_BadRow) := ok_check_row T
  have Gbest_of : FnOk P w K mg base CX0 14 A.f_best_of A.d_best_of ["row", "low", "behind", "known"] (spBestOf K) := ok_best_of T
  have Gafter : FnOk P w K mg base CX0 1 A.f_after A.d_after ["row", "low", "behind", "side"] (spAfter K) := ok_after T
  have Gis_whole : FnOk P w K mg base CX0 1 A.f_is_whole A.d_is_whole ["thing"] (spWhole K) := ok_is_whole T
  refine T.Fplay_by.okX sc_play_by (fun vs H Q E h => ?_) (fun cdv A' outer s H vs Q E hr h => ?_)
  · obtain ⟨x, t, rfl, _⟩ := h
    rfl
  · obtain ⟨x, t, rfl, h⟩ := h
    refine ⟨_, (pss_cons (ps_expr (pe_call Gcheck_row (hr.mono (by first | decide | omega)) (by rfl) T.gcheck_row T.Fcheck_row.kp T.bcheck_row .nil (passes_call (takes_of rfl rfl rfl rfl) (fun _ _ _ _ h => h)) (pa_cons (pv 0) pa_nil)))
      (pss_cons (ps_asg (pe_tup (pa_cons pe_dnewT (pa_cons pe_int (pa_cons (pe_callB call_len_seq (by rfl) T.blen PySem.boot_len (pa_cons (pv 0) pa_nil)) (pa_cons (pe_lst pa_nil) pa_nil))))) (pg_tup rfl (pgs_cons (pg_name (i := 2) sc_play_by.nd rfl (Or.inl rfl)) (pgs_cons (pg_name (i := 3) sc_play_by.nd rfl (Or.inl rfl)) (pgs_cons (pg_name (i := 4) sc_play_by.nd rfl (Or.inl rfl)) (pgs_cons (pg_name (i := 5) sc_play_by.nd rfl (Or.inl rfl)) pgs_nil))))))
      (pss_cons (ps_if (PW.pt (pw_or (pt_not (pt_val (pe_call Gis_whole (hr.mono (by first | decide | omega)) (by rfl) T.gis_whole T.Fis_whole.kp T.bis_whole .nil pass0 (pa_cons (pv 1) pa_nil)))) (pw_or1 (pt_not (pt_chain op_le op_lt pe_int (pv 1) (pe_call Gplays_of (hr.mono (by first | decide | omega)) (by rfl) T.gplays_of T.Fplays_of.kp T.bplays_of .nil pass0 (pa_cons (pv 0) (pa_cons (pv 3) (pa_cons (pv 4) (pa_cons (pv 2) pa_nil)))))))))) (pss_one (ps_raise rfl (takes_of rfl rfl rfl rfl) (pmk_own PySem.F.excBase_ValueError T.xBadNumber T.gBadNumber T.kBadNumber (raises_own T.BBadNumber T.tBadNumber) rfl))) pss_nil)
      (pss_cons (ps_while (passes_of rfl) (pt_cmpR op_lt (pv 3) (pv 4) (nomark _))
      (pss_one (ps_for (passes_of rfl) rfl (pi_list (pe_call Gbest_of (hr.mono (by first | decide | omega)) (by rfl) T.gbest_of T.Fbest_of.kp T.bbest_of .nil pass0 (pa_cons (pv 0) (pa_cons (pv 3) (pa_cons (pv 4) (pa_cons (pv 2) pa_nil)))))) (pg_name (i := 6) sc_play_by.nd rfl (Or.inl rfl))
      (pss_cons (ps_asg (pe_call Gafter (hr.mono (by first | decide | omega)) (by rfl) T.gafter T.Fafter.kp T.bafter .nil pass0 (pa_cons (pv 0) (pa_cons (pv 3) (pa_cons (pv 4) (pa_cons (pv 6) pa_nil))))) (pg_tup rfl (pgs_cons (pg_name (i := 7) sc_play_by.nd rfl (Or.inl rfl)) (pgs_cons (pg_name (i := 8) sc_play_by.nd rfl (Or.inl rfl)) (pgs_cons (pg_name (i := 9) sc_play_by.nd rfl (Or.inl rfl)) pgs_nil)))))
      (pss_cons (ps_set (i := 10) sc_play_by.nd rfl (Or.inl rfl) (pe_call Gplays_of (hr.mono (by first | decide | omega)) (by rfl) T.gplays_of T.Fplays_of.kp T.bplays_of .nil pass0 (pa_cons (pv 0) (pa_cons (pv 8) (pa_cons (pv 9) (pa_cons (pv 2) pa_nil))))))
      (pss_cons (ps_if (pt_chain op_le op_lt pe_int (pv 1) (pv 10)) (pss_cons (ps_expr (pe_bm PySem.F.plainAttrs_list PySem.F.slot_list_append PySem.F.type_list_append mt_append (pv 5) (pa_cons (pv 6) pa_nil)))
      (pss_cons (ps_par (i := 3) (j := 4) rfl sc_play_by.nd rfl rfl (by decide) rfl rfl (pa_cons (pv 8) (pa_cons (pv 9) pa_nil)) (by rfl))
      (pss_one ps_break))) pss_nil)
      (pss_one (ps_aug (i := 1) sc_play_by.nd rfl (Or.inl rfl) (pv 10) ip_sub))))))))
      (pss_one (ps_ret (pv 5))))))), ?_⟩
    refine ⟨_, rfl, ?_⟩
    rcases h with ⟨hn, q⟩ | ⟨ns, hrow, h⟩
    · exact ⟨x, rfl, .inr ⟨hn, q⟩⟩
    refine ⟨x, rfl, .inl ⟨ns, hrow, fun H1 s1 => ?_⟩⟩
    obtain ⟨r, rfl, hS, hok⟩ := hrow
    have hS1 := s1.seq hS
    have h12 := hok.1
    have el : (ns.map V.int).length = ns.length := List.length_map _
    -- known, low, behind, found = {}, 0, len(row), []
    refine fun d nd => ?_
    have s2 := same_new nd (.dT [])
    refine ⟨_, rfl, r, _, rfl, .inl (s2.seq hS1), Nat.zero_le _, fun f nf => ?_⟩
    have s3 := s2.trans (same_new nf (.lst []))
    have hd3 := same_new nf (.lst []) _ _ (upd_same (H := H1) (a := d) (o := .dT []))
    have hf3 : (upd (upd H1 d (.dT [])) f (.lst [])) f = some (.lst []) := upd_same
    generalize hH3 : upd (upd H1 d (.dT [])) f (.lst []) = H3 at s3 hd3 hf3
    have nfH : H1 f = none := s2.free nf
    refine ⟨(by show 4 ≤ sizeLine; decide), fun p4 np4 => ?_⟩
    have s4 := same_new np4 (.tup [.ref d, .int 0, .int ((ns.map V.int).length : Int), .ref f])
    refine ⟨p4, _, rfl, SqT.of upd_same, rfl, _, _, rfl, _, _, rfl, _, _, rfl, _, _, rfl, rfl, ?_⟩
    have hd4 := s4 _ _ hd3
    have hf4 := s4 _ _ hf3
    have s14 := s3.trans s4
    generalize hH4 : upd H3 p4 (.tup [.ref d, .int 0, .int ((ns.map V.int).length : Int), .ref f]) = H4 at s4 hd4 hf4 s14
    have nfd : f ≠ d := ne_of hf4 hd4 (by intro z; cases z)
    -- the number
    have h' : (∃ ty, PV K H t ty ∧ (ty == "int") = false ∧ ∀ H', Same H H' → E (.ref A.C_BadNumber) none H') ∨ ∃ k : Int, t = .int k ∧
        (¬ (0 ≤ k ∧ k < many ns ns.length 0) → ∀ H', Same H H' → E (.ref A.C_BadNumber) none H') ∧ (0 ≤ k → k < many ns ns.length 0 → ∃ pl, (plays ns ns.length 0)[k.toNat]? = some pl ∧ ∀ H' p, Same H H' → H p = none → H' p = some (.lst (sidesV pl)) → Q (.ref p) H') := by
      rcases h with ⟨hn, q⟩ | ⟨k, pl, ex, hp, q⟩
      · rcases hn with ⟨ty, hp, e⟩ | ⟨k, ex, hb⟩
        · exact .inl ⟨ty, hp, e, q⟩
        · exact .inr ⟨k, ex, fun _ => q, fun h1 h2 => absurd ⟨h1, h2⟩ hb⟩
      · have hlt := (List.getElem?_eq_some_iff.mp hp).1
        refine .inr ⟨(k : Int), ex, fun h => absurd ⟨by omega, by unfold many; omega⟩ h, fun _ _ => ⟨pl, ?_, q⟩⟩
        rw [Int.toNat_natCast]
        exact hp
    rcases h' with ⟨ty, hp, e, q⟩ | ⟨k, rfl, hbad, hgood⟩
    · refine ⟨_, rfl, ?_⟩
      refine ⟨_, ty, rfl, hp.mono (s1.trans s14), _, rfl, ?_⟩
      rw [e]
      exact iteT (iteT (q H4 (s1.trans s14)))
    refine ⟨_, rfl, ?_⟩
    refine ⟨_, _, rfl, pv_int k, _, rfl, ?_⟩
    refine iteF ?_
    refine ⟨_, rfl, _, _, rfl, rfl, _, rfl, ?_⟩
    by_cases c0 : 0 ≤ k
    rotate_left
    · refine iteFb (decide_eq_false c0) ?_
      exact ⟨_, rfl, iteT (hbad (fun z => c0 z.1) H4 (s1.trans s14))⟩
    refine iteTb (decide_eq_true c0) ?_
    refine ⟨_, rfl, _, rfl, _, rfl, _, rfl, ?_⟩
    refine ⟨r, d, ns, 0, ns.length, _, _, [], rfl, rfl, by rw [el]; omega, s14.seq hS1, hd4, Known.nil _, h12, by omega, by omega, fun H5 kvs5 s5 hd5 hk5 => ?_⟩
    have hf5 := s5 _ _ nfd hf4
    have s15 : Same H1 H5 := fun b o e => s5 b o (ne_of_none e nd) (s14 b o e)
    refine ⟨_, _, rfl, rfl, _, rfl, ?_⟩
    by_cases c1 : k < many ns ns.length 0
    rotate_left
    · rw [decide_eq_false c1]
      exact iteT (hbad (fun z => c1 z.2) H5 (s1.trans s15))
    rw [decide_eq_true c1]
    refine iteF ?_
    obtain ⟨pl, hpl, q⟩ := hgood c0 c1
    -- while low < behind
    refine ⟨fun n σ H6 => ∃ (low k : Nat) (acc rest : List Bool) (kvs6 : List (List Key × V)) (x6 x7 x8 x9 x10 : Option V), σ = [some (.ref r), some (.int (k : Int)), some (.ref d), some (.int (low : Int)), some (.int ((low + n : Nat) : Int)), some (.ref f), x6, x7, x8, x9, x10] ∧
      Same H1 H6 ∧ H6 d = some (.dT kvs6) ∧ Known ns kvs6 ∧ H6 f = some (.lst (sidesV acc)) ∧ low + n ≤ ns.length ∧ acc.length + n = ns.length ∧ (plays ns n low)[k]? = some rest ∧ acc ++ rest = pl, ?_, ?_⟩
    · refine ⟨ns.length, 0, k.toNat, [], pl, kvs5, none, none, none, none, none, ?_, s15, hd5, hk5, hf5, by omega, by simp, hpl, rfl⟩
      rw [Int.toNat_of_nonneg c0, el, Nat.zero_add]
      rfl
    · rintro n σ H6 ⟨low, k, acc, rest, kvs6, x6, x7, x8, x9, x10, rfl, s6, hd6, hk6, hf6, hn, hl, hrest, hacc⟩
      refine ⟨_, rfl, _, rfl, _, _, rfl, rfl, _, rfl, ?_⟩
      cases n with
      | zero =>
        refine iteFb (decide_eq_false (by omega)) ?_
        refine ⟨_, rfl, ?_⟩
        rw [plays_zero] at hrest
        have e : rest = [] := by
          cases k with
          | zero => exact (Option.some.inj hrest).symm
          | succ k => simp at hrest
        subst e
        rw [List.append_nil] at hacc
        subst hacc
        exact q H6 f (s1.trans s6) (s1.free nfH) hf6
      | succ m =>
        refine iteTb (decide_eq_true (by omega)) ?_
        refine ⟨fun σ' H' => ∃ (low k : Nat) (acc rest : List Bool) (kvs6 : List (List Key × V)) (x6 x7 x8 x9 x10 : Option V), σ' = [some (.ref r), some (.int (k : Int)), some (.ref d), some (.int (low : Int)), some (.int ((low + m : Nat) : Int)), some (.ref f), x6, x7, x8, x9, x10] ∧
          Same H1 H' ∧ H' d = some (.dT kvs6) ∧ Known ns kvs6 ∧ H' f = some (.lst (sidesV acc)) ∧ low + m ≤ ns.length ∧ acc.length + m = ns.length ∧ (plays ns m low)[k]? = some rest ∧ acc ++ rest = pl, fun σ' H' h => ⟨m, Nat.lt_succ_self m, h⟩, ?_⟩
        -- for side in best_of(row, low, behind, known)
        refine ⟨_, rfl, _, rfl, _, rfl, _, rfl, ?_⟩
        refine ⟨r, d, ns, low, m, _, _, kvs6, rfl, rfl, rfl, s6.seq hS1, hd6, hk6, h12, hn, fun H7 kvs7 p s7 hd7 hk7 np hp => ?_⟩
        have hpd : p ≠ d := ne_of hp hd7 (by intro z; cases z)
        have hpf : p ≠ f := (ne_of_none hf6 np).symm
        have hf7 := s7 _ _ nfd hf6
        have s17 : Same H1 H7 := fun b o e => s7 b o (ne_of_none e nd) (s6 b o e)
        rw [plays_succ] at hrest
        refine ⟨p, rfl, ⟨_, SqL.of hp⟩, ?_⟩
        refine for_list (K := K) (a := p) (xs := sidesV (ends ns (m + 1) low)) (fun t σ H8 => ∃ (k : Nat) (kvs8 : List (List Key × V)) (x6 x7 x8 x9 x10 : Option V), σ = [some (.ref r), some (.int (k : Int)), some (.ref d), some (.int (low : Int)), some (.int ((low + (m + 1) : Nat) : Int)), some (.ref f), x6, x7, x8, x9, x10] ∧
          Same H1 H8 ∧ H8 d = some (.dT kvs8) ∧ Known ns kvs8 ∧ H8 f = some (.lst (sidesV acc)) ∧ H8 p = some (.lst (sidesV (ends ns (m + 1) low))) ∧ (((ends ns (m + 1) low).drop t).flatMap fun b => (plays ns m (lowOf b low)).map fun p => b :: p)[k]? = some rest) ⟨k, kvs7, x6, x7, x8, x9, x10, rfl, s17, hd7, hk7, hf7, hp, hrest⟩ ?_ ?_ ?_
        · rintro t σ H8 _ ⟨k, kvs8, x6, x7, x8, x9, x10, rfl, s8, hd8, hk8, hf8, hp8, hr8⟩
          exact SqL.of hp8
        · rintro t y σ H8 hi ⟨k, kvs8, x6, x7, x8, x9, x10, rfl, s8, hd8, hk8, hf8, hp8, hr8⟩
          have hlt : t < (ends ns (m + 1) low).length := by
            have := (List.getElem?_eq_some_iff.mp hi).1
            rw [sidesV_len] at this
            exact this
          have hy : y = V.str (sideS (ends ns (m + 1) low)[t]) := by
            unfold sidesV at hi
            rw [List.getElem?_map, List.getElem?_eq_getElem hlt] at hi
            exact (Option.some.inj hi).symm
          subst hy
          rw [List.drop_eq_getElem_cons hlt, List.flatMap_cons] at hr8
          generalize (ends ns (m + 1) low)[t] = b at hr8
          have hS8 := s8.seq hS1
          refine ⟨_, rfl, _, rfl, _, rfl, _, rfl, ?_⟩
          refine ⟨r, ns, low, m, _, _, b, rfl, rfl, rfl, hS8, hn, fun p2 np2 => ?_⟩
          have s9 := same_new np2 (.tup [.int (coinOf ns b low m), .int (lowOf b low : Nat), .int ((lowOf b low + m : Nat) : Int)])
          refine ⟨p2, _, rfl, SqT.of upd_same, rfl, _, _, rfl, _, _, rfl, _, _, rfl, rfl, ?_⟩
          have hd9 := s9 _ _ hd8
          -- many = plays_of(row, left, right, known)
          refine ⟨_, rfl, _, rfl, _, rfl, _, rfl, ?_⟩
          refine ⟨r, d, ns, lowOf b low, m, _, _, kvs8, rfl, rfl, rfl, s9.seq hS8, hd9, hk8, h12, by have := lowOf_le b low m; omega, by omega, fun H10 kvs10 s10 hd10 hk10 => ?_⟩
          have hf10 := s10 _ _ nfd (s9 _ _ hf8)
          have hp10 := s10 _ _ hpd (s9 _ _ hp8)
          have s1a : Same H1 H10 := fun b o e => s10 b o (ne_of_none e nd) (s9 b o (s8 b o e))
          -- if 0 <= number < many
          refine ⟨_, rfl, _, _, rfl, rfl, _, rfl, ?_⟩
          refine iteTb (decide_eq_true (by omega)) ?_
          refine ⟨_, rfl, _, _, rfl, rfl, _, rfl, ?_⟩
          by_cases c : k < (plays ns m (lowOf b low)).length
          · refine iteTb (decide_eq_true (by unfold many; omega)) ?_
            rw [List.getElem?_append_left (by rw [List.length_map]; exact c), List.getElem?_map] at hr8
            obtain ⟨rest', hr', rfl⟩ := Option.map_eq_some_iff.mp hr8
            -- found.append(side)
            refine ⟨_, rfl, .inl ⟨rfl, _, SqL.of hf10⟩, _, rfl, f, _, _, rfl, rfl, hf10, by rw [sidesV_len]; exact size_lt (by omega), ?_⟩
            -- low, behind = left, right
            refine ⟨_, rfl, _, rfl, _, _, rfl, ?_⟩
            refine ⟨lowOf b low, k, acc ++ [b], rest', kvs10, _, _, _, _, _, rfl, fun b o e => ?_, ?_, hk10, ?_, by have := lowOf_le b low m; omega, by rw [List.length_append]; show acc.length + 1 + m = _; omega, hr', by rw [List.append_assoc]; exact hacc⟩
            · rw [upd_ne (ne_of_none e nfH)]
              exact s1a b o e
            · rw [upd_ne nfd.symm]
              exact hd10
            · rw [upd_same]
              unfold sidesV
              rw [List.map_append]
              rfl
          · refine iteFb (decide_eq_false (by unfold many; omega)) ?_
            rw [List.getElem?_append_right (by rw [List.length_map]; omega), List.length_map] at hr8
            -- number -= many
            refine ⟨_, rfl, _, rfl, _, _, rfl, rfl, ?_⟩
            refine ⟨k - (plays ns m (lowOf b low)).length, kvs10, some (.str (sideS b)), some (.int (coinOf ns b low m)), some (.int (lowOf b low : Nat)), some (.int ((lowOf b low + m : Nat) : Int)), some (.int (many ns m (lowOf b low))), ?_, s1a, hd10, hk10, hf10, hp10, hr8⟩
            have ek : ((k - (plays ns m (lowOf b low)).length : Nat) : Int) = (k : Int) - many ns m (lowOf b low) := by
              unfold many
              omega
            rw [ek]
            rfl
        · rintro σ H8 ⟨k, kvs8, x6, x7, x8, x9, x10, rfl, s8, hd8, hk8, hf8, hp8, hr8⟩
          rw [sidesV_len, List.drop_length] at hr8
          simp at hr8
end
end K09
namespace K09
open PySem PySem.Spec PyProof.Rows L2 RE
section
variable {P : Program} {w : World} {K : PySem.W.Frag} {mg : Str → Option Value} {base : Heap} {A : Ad}
theorem ok_table_of (T : Tx K mg A) : FnOk P w K mg base CX0 2 A.f_table_of A.d_table_of ["row", "plan"] (spTable K) := by
  have Gis_side : FnOk P w K mg base CX0 1 A.f_is_side A.d_is_side ["thing"] (spSide K) := ok_is_side T
  refine T.Ftable_of.ok sc_table_of (fun vs H Q E h => ?_) (fun cdv A' outer s H vs Q E hr h => ?_)
  · obtain ⟨a, l, ns, xs, p, rfl, _⟩ := h
    rfl
  · obtain ⟨a, l, ns, xs, p, rfl, hS, hl, hp, h1000, qbad, qgood⟩ := h
    refine ⟨_, (pss_cons (ps_par (i := 2) (j := 3) rfl sc_table_of.nd rfl rfl (by decide) rfl rfl (pa_cons pe_dnewT (pa_cons pe_non pa_nil)) (by rfl))
      (pss_cons (ps_for PassesOwn.never rfl (pi_list (pv 1)) (pg_tup rfl (pgs_cons (pg_name (i := 4) sc_table_of.nd rfl (Or.inl rfl)) (pgs_cons (pg_name (i := 5) sc_table_of.nd rfl (Or.inl rfl)) (pgs_cons (pg_name (i := 6) sc_table_of.nd rfl (Or.inl rfl)) pgs_nil))))
      (pss_cons (ps_if (PW.pt (pw_or (pt_not (pt_chain3 op_le op_lt op_le pe_int (pv 4) (pv 5) (pe_callB call_len_seq (by rfl) T.blen PySem.boot_len (pa_cons (pv 0) pa_nil)))) (pw_or (pt_not (pt_val (pe_call Gis_side (hr.mono (by first | decide | omega)) (by rfl) T.gis_side T.Fis_side.kp T.bis_side .nil pass0 (pa_cons (pv 6) pa_nil)))) (pw_or1 (PW.pt (pw_and (pt_cmpR op_notN (pv 3) pe_non (nomark _)) (pw_and1 (pt_cmpR (op_leT hr.units0) (pe_tup (pa_cons (pv 4) (pa_cons (pv 5) pa_nil))) (pv 3) (nomark _))))))))) (pss_one (ps_ret pe_non)) pss_nil)
      (pss_one (ps_asg (pe_tup (pa_cons (pv 6) (pa_cons (pe_tup (pa_cons (pv 4) (pa_cons (pv 5) pa_nil))) pa_nil))) (pg_tup rfl (pgs_cons (pg_sub (pv 2) (pe_tup (pa_cons (pv 4) (pa_cons (pv 5) pa_nil))) (set_dT (hu_of hr))) (pgs_cons (pg_name (i := 3) sc_table_of.nd rfl (Or.inl rfl)) pgs_nil)))))))
      (pss_one (ps_ret (pv 2))))), ?_⟩
    refine fun d nd => gen_heap nd fun H1 s1 hd => ⟨_, _, rfl, ?_⟩
    refine ⟨_, rfl, l, rfl, ⟨_, s1.seq hl⟩, ?_⟩
    refine for_list (K := K) (a := l) (xs := xs) (fun i σ H2 => ∃ (lst : Option (Int × Int)) (last : V) (kvs : List (List Key × V)) (x4 x5 x6 : Option V), σ = [some (.ref a), some (.ref l), some (.ref d), some last, x4, x5, x6] ∧
      Same H H2 ∧ H2 d = some (.dT kvs) ∧ Tab (p.take i) kvs ∧ (lst = none → last = .non) ∧ (∀ u, lst = some u → ∃ q, last = .ref q ∧ H2 q = some (.tup [.int u.1, .int u.2])) ∧ tabOk ns.length none p = tabOk ns.length lst (p.drop i)) ?_ ?_ ?_ ?_
    · exact ⟨none, .non, [], none, none, none, rfl, s1, hd, Tab.nil, fun _ => rfl, fun u e => (nomatch e), rfl⟩
    · rintro i σ H2 _ ⟨lst, last, kvs, x4, x5, x6, rfl, s2, _⟩
      exact s2.seq hl
    · rintro i y σ H2 hi ⟨lst, last, kvs, x4, x5, x6, rfl, s2, hd2, hT, hn0, hn1, htab⟩
      obtain ⟨qt, t, rfl, ht, hqt⟩ := hp.getX hi
      have hlt : i < p.length := (List.getElem?_eq_some_iff.mp ht).1
      have hdrop : p.drop i = t :: p.drop (i + 1) := by
        rw [List.drop_eq_getElem_cons hlt]
        congr 1
        rw [List.getElem?_eq_getElem hlt] at ht
        exact Option.some.inj ht
      rw [hdrop, tabOk_cons] at htab
      have hqt2 := s2 _ _ hqt
      have hS2 := s2.seq hS
      refine ⟨qt, _, rfl, SqT.of hqt2, rfl, _, _, rfl, _, _, rfl, _, _, rfl, rfl, ?_⟩
      have bad : triOk ns.length t = false → ∀ H', Same H H' → Q .non H' := fun h => qbad (by rw [htab, h]; rfl)
      -- not 0 <= low < behind <= len(row)
      refine ⟨_, rfl, _, _, rfl, rfl, _, rfl, ?_⟩
      by_cases c1 : 0 ≤ t.1
      rotate_left
      · refine iteFb (decide_eq_false c1) ⟨_, rfl, iteT (iteT (bad ?_ H2 s2))⟩
        unfold triOk
        rw [decide_eq_false c1]
        rfl
      refine iteTb (decide_eq_true c1) ?_
      refine ⟨_, rfl, _, _, rfl, rfl, _, rfl, ?_⟩
      by_cases c2 : t.1 < t.2.1
      rotate_left
      · refine iteFb (decide_eq_false c2) ⟨_, rfl, iteT (iteT (bad ?_ H2 s2))⟩
        unfold triOk
        rw [decide_eq_true c1, decide_eq_false c2]
        rfl
      refine iteTb (decide_eq_true c2) ?_
      refine ⟨_, rfl, a, _, rfl, .inl hS2, _, _, rfl, rfl, _, rfl, ?_⟩
      have el : ((ns.map V.int).length : Int) = (ns.length : Int) := by rw [List.length_map]
      by_cases c3 : t.2.1 ≤ (ns.length : Int)
      rotate_left
      · refine iteTb (congrArg Bool.not (decide_eq_false (by rw [el]; exact c3))) (iteT (bad ?_ H2 s2))
        unfold triOk
        rw [decide_eq_true c1, decide_eq_true c2, decide_eq_false c3]
        rfl
      refine iteFb (congrArg Bool.not (decide_eq_true (by rw [el]; exact c3))) ?_
      -- not is_side(side)
      refine ⟨_, rfl, ?_⟩
      refine ⟨_, _, rfl, pv_str _, fun H3 s3 => ⟨_, rfl, ?_⟩⟩
      have s03 := s2.trans s3
      have eside : isSideB (.str t.2.2) = sideOk t.2.2 := rfl
      rw [eside]
      cases c4 : sideOk t.2.2 with
      | false =>
        refine iteT (iteT (bad ?_ H3 s03))
        unfold triOk
        rw [decide_eq_true c1, decide_eq_true c2, decide_eq_true c3, c4]
        rfl
      | true =>
        refine iteF ?_
        have hok : triOk ns.length t = true := by
          unfold triOk
          rw [decide_eq_true c1, decide_eq_true c2, decide_eq_true c3, c4]
          rfl
        rw [hok, Bool.true_and] at htab
        have hd3 := s3 _ _ hd2
        -- the rest of a good turn
        have fin : ∀ H4, Same H3 H4 → lastBad t lst = false → ∀ q3, H4 q3 = none → ∀ H5, Same H4 H5 → H5 q3 = some (.tup [.int t.1, .int t.2.1]) → ∀ H8, SameBut d H5 H8 → H8 d = some (.dT (putK kvs [Sum.inl t.1, Sum.inl t.2.1] (.str t.2.2))) →
            ∃ (lst : Option (Int × Int)) (last : V) (kvs : List (List Key × V)) (x4 x5 x6 : Option V), [some (V.ref a), some (V.ref l), some (V.ref d), some (V.ref q3), some (V.int t.1), some (V.int t.2.1), some (V.str t.2.2)] = [some (.ref a), some (.ref l), some (.ref d), some last, x4, x5, x6] ∧
              Same H H8 ∧ H8 d = some (.dT kvs) ∧ Tab (p.take (i + 1)) kvs ∧ (lst = none → last = .non) ∧ (∀ u, lst = some u → ∃ q, last = .ref q ∧ H8 q = some (.tup [.int u.1, .int u.2])) ∧ tabOk ns.length none p = tabOk ns.length lst (p.drop (i + 1)) := by
          intro H4 s4 hbad q3 nq3 H5 s5 hq3 H8 s8 hd8
          have hd4 := s4 _ _ hd3
          have ne3 : q3 ≠ d := (ne_of_none hd4 nq3).symm
          refine ⟨some (t.1, t.2.1), .ref q3, _, _, _, _, rfl, fun b o e => ?_, hd8, ?_, fun z => (nomatch z), ?_, ?_⟩
          · exact s8 _ _ (ne_of_none e nd) (s5 _ _ (s4 _ _ (s03 _ _ e)))
          · rw [List.take_add_one, ht]
            exact hT.put t
          · intro u e
            cases e
            exact ⟨q3, rfl, s8 _ _ ne3 hq3⟩
          · rw [htab, hbad]
            rfl
        -- last is not None and (low, behind) <= last
        refine ⟨_, rfl, rfl, _, rfl, ?_⟩
        have hl3 : kvs.length < sizeLine := by
          have h1 := hT.len
          rw [List.length_take] at h1
          exact size_lt (by omega)
        cases lst with
        | none =>
          have e := hn0 rfl
          subst e
          refine iteF (iteF ?_)
          refine ⟨_, rfl, _, rfl, _, rfl, (by show 2 ≤ sizeLine; decide), fun q3 nq3 => gen_heap nq3 fun H5 s5 hq3 => ⟨(by show 2 ≤ sizeLine; decide), fun q4 nq4 => gen_heap nq4 fun H6 s6 hq4 => ?_⟩⟩
          refine ⟨q4, _, rfl, SqT.of hq4, rfl, _, _, rfl, _, rfl, _, rfl, _, rfl, (by show 2 ≤ sizeLine; decide), fun q5 nq5 => gen_heap nq5 fun H7 s7 hq5 => ?_⟩
          have hd7 := s7 _ _ (s6 _ _ (s5 _ _ hd3))
          refine ⟨d, _, rfl, DPut.t (k := [Sum.inl t.1, Sum.inl t.2.1]) hd7 hq5 hl3, gen_put hd7 fun H8 s8 hd8 => ?_⟩
          refine ⟨_, _, rfl, rfl, ?_⟩
          exact fin H3 (Same.refl _) rfl q3 nq3 H7 (s5.trans (s6.trans s7)) (s7 _ _ (s6 _ _ hq3)) H8 s8 hd8
        | some u =>
          obtain ⟨qu, rfl, hqu⟩ := hn1 u rfl
          refine iteT ?_
          refine ⟨_, rfl, _, rfl, (by show 2 ≤ sizeLine; decide), fun q2 nq2 => gen_heap nq2 fun H4 s4 hq2 => ⟨_, rfl, ?_⟩⟩
          refine ⟨q2, qu, [t.1, t.2.1], [u.1, u.2], rfl, rfl, SqT.of hq2, SqT.of (s4 _ _ (s3 _ _ hqu)), _, rfl, ?_⟩
          rw [lex2]
          have elb : lastBad t (some u) = (if t.1 = u.1 then decide (t.2.1 ≤ u.2) else decide (t.1 ≤ u.1)) := rfl
          rw [← elb]
          cases c5 : lastBad t (some u) with
          | true =>
            refine iteT (qbad ?_ H4 (s03.trans s4))
            rw [htab, c5]
            rfl
          | false =>
            refine iteF ?_
            refine ⟨_, rfl, _, rfl, _, rfl, (by show 2 ≤ sizeLine; decide), fun q3 nq3 => gen_heap nq3 fun H5 s5 hq3 => ⟨(by show 2 ≤ sizeLine; decide), fun q4 nq4 => gen_heap nq4 fun H6 s6 hq4 => ?_⟩⟩
            refine ⟨q4, _, rfl, SqT.of hq4, rfl, _, _, rfl, _, rfl, _, rfl, _, rfl, (by show 2 ≤ sizeLine; decide), fun q5 nq5 => gen_heap nq5 fun H7 s7 hq5 => ?_⟩
            have hd7 := s7 _ _ (s6 _ _ (s5 _ _ (s4 _ _ hd3)))
            refine ⟨d, _, rfl, DPut.t (k := [Sum.inl t.1, Sum.inl t.2.1]) hd7 hq5 hl3, gen_put hd7 fun H8 s8 hd8 => ?_⟩
            refine ⟨_, _, rfl, rfl, ?_⟩
            exact fin H4 s4 c5 q3 nq3 H7 (s5.trans (s6.trans s7)) (s7 _ _ (s6 _ _ hq3)) H8 s8 hd8
    · rintro σ H2 ⟨lst, last, kvs, x4, x5, x6, rfl, s2, hd2, hT, hn0, hn1, htab⟩
      rw [hp.len] at hT htab
      rw [List.take_length] at hT
      rw [List.drop_length, tabOk_nil] at htab
      exact ⟨_, rfl, qgood htab H2 d kvs s2 nd hd2 hT⟩
theorem step_got (T : Tx K mg A) {n : Nat} (Ggot : FnOk P w K mg base CX0 (n + 1) A.f_got A.d_got ["row", "low", "behind", "table", "mine"] (spGot K n)) :
    FnOk P w K mg base CX0 (n + 1 + 1) A.f_got A.d_got ["row", "low", "behind", "table", "mine"] (spGot K (n + 1)) := by
  have Gafter : FnOk P w K mg base CX0 1 A.f_after A.d_after ["row", "low", "behind", "side"] (spAfter K) := ok_after T
  refine T.Fgot.ok sc_got (fun vs H Q E h => ?_) (fun cdv A' outer s H vs Q E hr h => ?_)
  · obtain ⟨a, d, ns, p, low, m, i, j, kvs, mine, rfl, _⟩ := h
    rfl
  · obtain ⟨a, d, ns, p, low, m, i, j, kvs, mine, rfl, ei, ej, hS, hd, hT, hok, hm, hn, q⟩ := h
    refine ⟨_, (pss_cons (ps_if (pt_cmpR op_eq (pv 1) (pv 2) (nomark _)) (pss_one (ps_ret pe_int)) pss_nil)
      (pss_cons (ps_set (i := 5) sc_got.nd rfl (Or.inl rfl) (pe_tup (pa_cons (pe_glob (v := .str "left") (by rfl) T.gLEFT ⟨_, rfl⟩) (pa_cons (pe_glob (v := .str "right") (by rfl) T.gRIGHT ⟨_, rfl⟩) pa_nil))))
      (pss_mid (ps_if (pt_val (pv 4)) (pss_cons (ps_if (pt_cmp (pc_dnotin (hu_of hr) (pe_tup (pa_cons (pv 1) (pa_cons (pv 2) pa_nil))) (pv 3))) (pss_one (ps_ret pe_non)) pss_nil)
      (pss_one (ps_set (i := 5) sc_got.nd rfl (Or.inl rfl) (pe_tup (pa_cons (pe_dget (hu_of hr) (pv 3) (pe_tup (pa_cons (pv 1) (pa_cons (pv 2) pa_nil))) (fun _ _ => rfl)) pa_nil))))) pss_nil)
      (pss_cons (ps_set (i := 6) sc_got.nd rfl (Or.inl rfl) pe_non)
      (pss_cons (ps_for PassesOwn.never rfl (pi_tup (pv 5)) (pg_name (i := 7) sc_got.nd rfl (Or.inl rfl))
      (pss_cons (ps_asg (pe_call Gafter (hr.mono (by first | decide | omega)) (by rfl) T.gafter T.Fafter.kp T.bafter .nil pass0 (pa_cons (pv 0) (pa_cons (pv 1) (pa_cons (pv 2) (pa_cons (pv 7) pa_nil))))) (pg_tup rfl (pgs_cons (pg_name (i := 8) sc_got.nd rfl (Or.inl rfl)) (pgs_cons (pg_name (i := 9) sc_got.nd rfl (Or.inl rfl)) (pgs_cons (pg_name (i := 10) sc_got.nd rfl (Or.inl rfl)) pgs_nil)))))
      (pss_cons (ps_set (i := 11) sc_got.nd rfl (Or.inl rfl) (pe_call Ggot (hr.mono (by first | decide | omega)) (by rfl) T.ggot T.Fgot.kp T.bgot .nil pass0 (pa_cons (pv 0) (pa_cons (pv 9) (pa_cons (pv 10) (pa_cons (pv 3) (pa_cons (pe_not (pv 4)) pa_nil)))))))
      (pss_cons (ps_if (pt_cmpR op_isN (pv 11) pe_non (nomark _)) (pss_one (ps_ret pe_non)) pss_nil)
      (pss_cons (ps_set (i := 12) sc_got.nd rfl (Or.inl rfl) (pe_op op_add (pv 11) (pe_ifExp (pt_val (pv 4)) (pv 8) (pe_un un_neg (pv 8)))))
      (pss_one (ps_set (i := 6) sc_got.nd rfl (Or.inl rfl) (pe_ifExp (PW.pt (pw_or (pt_cmpR op_isN (pv 6) pe_non (nomark _)) (pw_or1 (pt_cmpR op_lt (pv 12) (pv 6) (nomark _))))) (pv 12) (pv 6)))))))))
      (pss_one (ps_ret (pv 6)))))))), ?_⟩
    refine ⟨_, rfl, _, rfl, rfl, _, rfl, ?_⟩
    cases m with
    | zero =>
      refine iteTb (decide_eq_true (congrArg V.int (by omega))) ?_
      exact q H (Same.refl H)
    | succ m =>
      refine iteFb (decide_eq_false (fun z => by have z' : i = j := V.int.inj z; omega)) ?_
      have key : [V.int i, V.int j] = ([Sum.inl i, Sum.inl j] : List Key).map kV := rfl
      have elook : tabF p low (low + (m + 1)) = (look p i j).map sideB := by
        unfold tabF
        rw [← ei, ← ej]
      -- sides = (LEFT, RIGHT)
      refine ⟨(by show 2 ≤ sizeLine; decide), fun t0 nt0 => gen_heap nt0 fun H1 s1 ht0 => ?_⟩
      -- if mine
      refine ⟨fun σ' H' => ∃ (t : Addr) (bs : List Bool), σ' = [some (.ref a), some (.int i), some (.int j), some (.ref d), some (.bl mine), some (.ref t), none, none, none, none, none, none, none] ∧ Same H H' ∧ H' t = some (.tup (sidesV bs)) ∧ gotV ns (tabF p) (m + 1) low mine = cont ns (tabF p) m low mine bs none, ?_, ?_⟩
      · refine ⟨_, rfl, _, rfl, ?_⟩
        cases mine with
        | false =>
          refine iteF ?_
          exact ⟨t0, [true, false], rfl, s1, ht0, cont_his.symm⟩
        | true =>
          refine iteT ?_
          refine ⟨_, rfl, _, rfl, (by show 2 ≤ sizeLine; decide), fun p1 np1 => gen_heap np1 fun H2 s2 hp1 => ?_⟩
          have hd2 := s2 _ _ (s1 _ _ hd)
          refine ⟨_, rfl, d, _, rfl, DGet.t (k := [Sum.inl i, Sum.inl j]) hd2 hp1, _, rfl, ?_⟩
          have ev := hT.val i j
          cases el : look p i j with
          | none =>
            rw [el] at ev elook
            rw [ev]
            refine iteT ?_
            have q' := q H2 (s1.trans s2)
            rw [gotV_mine, elook] at q'
            exact q'
          | some sd =>
            rw [el] at ev elook
            have hsd : sideOk sd = true := hok _ (look_mem el)
            rw [ev]
            refine iteF ?_
            refine ⟨_, rfl, _, rfl, _, rfl, (by show 2 ≤ sizeLine; decide), fun p2 np2 => gen_heap np2 fun H3 s3 hp2 => ?_⟩
            have hd3 := s3 _ _ hd2
            have g := DGet.t (k := [Sum.inl i, Sum.inl j]) (b := p2) hd3 hp2
            rw [ev] at g
            refine ⟨d, .str sd, rfl, g, (by show 1 ≤ sizeLine; decide), fun t1 nt1 => gen_heap nt1 fun H4 s4 ht1 => ?_⟩
            refine ⟨t1, [sideB sd], rfl, s1.trans (s2.trans (s3.trans s4)), ?_, (cont_mine elook).symm⟩
            rw [ht1]
            show some (HO.tup [V.str sd]) = some (HO.tup [V.str (sideS (sideB sd))])
            rw [← side_of hsd]
      · rintro σ' H2 ⟨t, bs, rfl, s2, ht2, egot⟩
        -- for side in sides
        refine ⟨_, rfl, t, rfl, ⟨_, SqT.of ht2⟩, ?_⟩
        refine for_tup (K := K) (a := t) (xs := sidesV bs) (fun k σ H3 => ∃ (lv : Option Int) (x7 x8 x9 x10 x11 x12 : Option V), σ = [some (.ref a), some (.int i), some (.int j), some (.ref d), some (.bl mine), some (.ref t), some (optV lv), x7, x8, x9, x10, x11, x12] ∧ Same H2 H3 ∧ gotV ns (tabF p) (m + 1) low mine = cont ns (tabF p) m low mine (bs.drop k) lv) ⟨none, none, none, none, none, none, none, rfl, Same.refl _, egot⟩ ?_ ?_ ?_
        · rintro k σ H3 _ ⟨lv, x7, x8, x9, x10, x11, x12, rfl, s3, _⟩
          exact SqT.of (s3 _ _ ht2)
        · rintro k y σ H3 hi ⟨lv, x7, x8, x9, x10, x11, x12, rfl, s3, ec⟩
          have hlt : k < bs.length := by
            have := (List.getElem?_eq_some_iff.mp hi).1
            rw [sidesV_len] at this
            exact this
          have hy : y = V.str (sideS bs[k]) := by
            unfold sidesV at hi
            rw [List.getElem?_map, List.getElem?_eq_getElem hlt] at hi
            exact (Option.some.inj hi).symm
          subst hy
          rw [List.drop_eq_getElem_cons hlt] at ec
          generalize bs[k] = b at ec
          have s03 := s2.trans s3
          refine ⟨_, rfl, _, rfl, _, rfl, _, rfl, ?_⟩
          refine ⟨a, ns, low, m, _, _, b, rfl, ei, ej, s03.seq hS, hm, fun p2 np2 => gen_heap np2 fun H4 s4 hp2 => ?_⟩
          refine ⟨p2, _, rfl, SqT.of hp2, rfl, _, _, rfl, _, _, rfl, _, _, rfl, rfl, ?_⟩
          have s04 := s03.trans s4
          -- rest = got(row, left, right, table, not mine)
          refine ⟨_, rfl, _, rfl, _, rfl, _, rfl, _, rfl, _, rfl, ?_⟩
          refine ⟨a, d, ns, p, lowOf b low, m, _, _, kvs, !mine, rfl, rfl, rfl, s04.seq hS, s04 _ _ hd, hT, hok, by have := lowOf_le b low m; omega, by omega, fun H5 s5 => ?_⟩
          have s05 := s04.trans s5
          cases eg : gotV ns (tabF p) m (lowOf b low) (!mine) with
          | none =>
            refine ⟨_, rfl, rfl, _, rfl, iteT ?_⟩
            have q' := q H5 s05
            rw [ec, cont_none eg] at q'
            exact q'
          | some x =>
            rw [cont_some eg] at ec
            refine ⟨_, rfl, rfl, _, rfl, iteF ?_⟩
            -- here = rest + (coin if mine else -coin)
            refine ⟨_, rfl, _, rfl, _, rfl, ?_⟩
            have done : ∀ (z : Int), z = x + forMe mine (coinOf ns b low m) → ∀ (lv' : Int), lv' = minO lv (x + forMe mine (coinOf ns b low m)) →
                ∃ (lv : Option Int) (x7 x8 x9 x10 x11 x12 : Option V), [some (V.ref a), some (V.int i), some (V.int j), some (V.ref d), some (V.bl mine), some (V.ref t), some (V.int lv'), some (V.str (sideS b)), some (V.int (coinOf ns b low m)), some (V.int (lowOf b low : Nat)), some (V.int ((lowOf b low + m : Nat) : Int)), some (V.int x), some (V.int z)] = [some (.ref a), some (.int i), some (.int j), some (.ref d), some (.bl mine), some (.ref t), some (optV lv), x7, x8, x9, x10, x11, x12] ∧ Same H2 H5 ∧ gotV ns (tabF p) (m + 1) low mine = cont ns (tabF p) m low mine (bs.drop (k + 1)) lv := by
              rintro z rfl lv' rfl
              exact ⟨some _, _, _, _, _, _, _, rfl, s3.trans (s4.trans s5), ec⟩
            cases mine with
            | true =>
              refine iteT ⟨_, rfl, _, _, rfl, rfl, ?_⟩
              cases lv with
              | none => exact ⟨_, rfl, rfl, _, rfl, iteT (iteT ⟨_, rfl, done _ rfl _ rfl⟩)⟩
              | some l =>
                refine ⟨_, rfl, rfl, _, rfl, iteF ⟨_, rfl, _, rfl, _, _, rfl, rfl, _, rfl, ?_⟩⟩
                refine ite2 (fun c => ?_) (fun c => ?_)
                · have c' := of_decide_eq_true c
                  exact ⟨_, rfl, done _ rfl _ (if_pos c').symm⟩
                · have c' := of_decide_eq_false (Bool.eq_false_iff.mpr c)
                  exact ⟨_, rfl, done _ rfl _ (if_neg c').symm⟩
            | false =>
              refine iteF ⟨_, rfl, _, rfl, _, _, rfl, rfl, ?_⟩
              cases lv with
              | none => exact ⟨_, rfl, rfl, _, rfl, iteT (iteT ⟨_, rfl, done _ rfl _ rfl⟩)⟩
              | some l =>
                refine ⟨_, rfl, rfl, _, rfl, iteF ⟨_, rfl, _, rfl, _, _, rfl, rfl, _, rfl, ?_⟩⟩
                refine ite2 (fun c => ?_) (fun c => ?_)
                · have c' := of_decide_eq_true c
                  exact ⟨_, rfl, done _ rfl _ (if_pos c').symm⟩
                · have c' := of_decide_eq_false (Bool.eq_false_iff.mpr c)
                  exact ⟨_, rfl, done _ rfl _ (if_neg c').symm⟩
        · rintro σ H3 ⟨lv, x7, x8, x9, x10, x11, x12, rfl, s3, ec⟩
          rw [sidesV_len, List.drop_length, cont_nil] at ec
          refine ⟨_, rfl, ?_⟩
          have q' := q H3 (s2.trans s3)
          rw [ec] at q'
          exact q'
theorem got_all (T : Tx K mg A) : ∀ n : Nat, FnOk P w K mg base CX0 (n + 1) A.f_got A.d_got ["row", "low", "behind", "table", "mine"] (spGot K n)
  | 0 => by
    have no : ∀ vs H Q E, ¬ spGot K 0 vs H Q E := fun vs H Q E h => by
      obtain ⟨a, d, ns, p, low, m, i, j, kvs, mine, _, _, _, _, _, _, _, _, h0, _⟩ := h
      omega
    exact ⟨fun vs H Q E h => absurd h (no vs H Q E), fun A outer s H args us vs Q E _ _ _ _ h => absurd h (no vs H Q E)⟩
  | n + 1 => step_got T (got_all T n)
theorem ok_got (T : Tx K mg A) : FnOk P w K mg base CX0 14 A.f_got A.d_got ["row", "low", "behind", "table", "mine"] (spGot K 13) := got_all T 13
theorem ok_planned (T : Tx K mg A) : FnOk P w K mg base CX0 15 A.f_planned A.d_planned ["row", "plan", "mine"] (spPlanned K) := by
  have Ggot : FnOk P w K mg base CX0 14 A.f_got A.d_got ["row", "low", "behind", "table", "mine"] (spGot K 13) := ok_got T
  have Gtable_of : FnOk P w K mg base CX0 2 A.f_table_of A.d_table_of ["row", "plan"] (spTable K) := ok_table_of T
  refine T.Fplanned.ok sc_planned (fun vs H Q E h => ?_) (fun cdv A' outer s H vs Q E hr h => ?_)
  · obtain ⟨a, l, ns, xs, p, mine, rfl, _⟩ := h
    rfl
  · obtain ⟨a, l, ns, xs, p, mine, rfl, hS, hl, hp, h1000, h12, q⟩ := h
    refine ⟨_, (pss_cons (ps_set (i := 3) sc_planned.nd rfl (Or.inl rfl) (pe_call Gtable_of (hr.mono (by first | decide | omega)) (by rfl) T.gtable_of T.Ftable_of.kp T.btable_of .nil pass0 (pa_cons (pv 0) (pa_cons (pv 1) pa_nil))))
      (pss_one (ps_ret (pe_ifExp (pt_cmpR op_isN (pv 3) pe_non (nomark _)) pe_non (pe_call Ggot (hr.mono (by first | decide | omega)) (by rfl) T.ggot T.Fgot.kp T.bgot .nil pass0 (pa_cons (pv 0) (pa_cons pe_int (pa_cons (pe_callB call_len_seq (by rfl) T.blen PySem.boot_len (pa_cons (pv 0) pa_nil)) (pa_cons (pv 3) (pa_cons (pv 2) pa_nil)))))))))), ?_⟩
    refine ⟨_, rfl, _, rfl, ?_⟩
    refine ⟨a, l, ns, xs, p, rfl, hS, hl, hp, h1000, fun hb H1 s1 => ?_, fun hb H1 d kvs s1 nd hd hT => ?_⟩
    · refine ⟨_, rfl, rfl, _, rfl, iteT ?_⟩
      have q' := q H1 s1
      unfold plannedV at q'
      rw [hb] at q'
      exact q'
    · refine ⟨_, rfl, rfl, _, rfl, iteF ?_⟩
      have hS1 := s1.seq hS
      refine ⟨_, rfl, _, rfl, a, _, rfl, .inl hS1, _, rfl, _, rfl, ?_⟩
      refine ⟨a, d, ns, p, 0, ns.length, _, _, kvs, mine, rfl, rfl, by rw [List.length_map]; omega, hS1, hd, hT, fun t ht => triOk_side (tabOk_all hb t ht), by omega, by omega, fun H2 s2 => ?_⟩
      have q' := q H2 (s1.trans s2)
      unfold plannedV at q'
      rw [if_pos hb] at q'
      exact q'
end
end K09
namespace K09
open PySem PySem.Spec PyProof.Rows L2 RE
section
variable {P : Program} {w : World} {K : PySem.W.Frag} {mg : Str → Option Value} {base : Heap} {A : Ad}
theorem ok_Gets_init (T : Tx K mg A) : FnOk P w K mg base CX0 1 A.f_Gets_init A.d_Gets_init ["self", "plan"] (spInit K A.C_Gets) := by
  refine T.FGets_init.ok sc_Gets_init (fun vs H Q E h => ?_) (fun cdv A' outer s H vs Q E hr h => ?_)
  · obtain ⟨x, l, dx, xs, rfl, _⟩ := h
    rfl
  · obtain ⟨x, l, dx, xs, rfl, hx, hl, q⟩ := h
    refine ⟨_, (pss_one (ps_fld (pv 0) (pe_callTy call_list_of (by rfl) T.blist (by decide +kernel) (pa_cons (pv 1) pa_nil)) rfl)), ?_⟩
    refine ⟨_, rfl, l, _, rfl, .inl hl, fun m nm => gen_heap nm fun H1 s1 hm => ?_⟩
    have hx1 := s1 _ _ hx
    refine ⟨_, rfl, x, _, dx, [], rfl, hx1, T.clGets, T.npGets, (by show 0 < 1000; decide), gen_put hx1 fun H2 s2 hx2 => ?_⟩
    exact q H2 m ((SameBut.of s1).trans s2) nm hx2 (s2 _ _ (ne_of_none hx nm).symm hm)
theorem ok_Held_init (T : Tx K mg A) : FnOk P w K mg base CX0 1 A.f_Held_init A.d_Held_init ["self", "plan"] (spInit K A.C_Held) := by
  refine T.FHeld_init.ok sc_Held_init (fun vs H Q E h => ?_) (fun cdv A' outer s H vs Q E hr h => ?_)
  · obtain ⟨x, l, dx, xs, rfl, _⟩ := h
    rfl
  · obtain ⟨x, l, dx, xs, rfl, hx, hl, q⟩ := h
    refine ⟨_, (pss_one (ps_fld (pv 0) (pe_callTy call_list_of (by rfl) T.blist (by decide +kernel) (pa_cons (pv 1) pa_nil)) rfl)), ?_⟩
    refine ⟨_, rfl, l, _, rfl, .inl hl, fun m nm => gen_heap nm fun H1 s1 hm => ?_⟩
    have hx1 := s1 _ _ hx
    refine ⟨_, rfl, x, _, dx, [], rfl, hx1, T.clHeld, T.npHeld, (by show 0 < 1000; decide), gen_put hx1 fun H2 s2 hx2 => ?_⟩
    exact q H2 m ((SameBut.of s1).trans s2) nm hx2 (s2 _ _ (ne_of_none hx nm).symm hm)
theorem ok_Gets_shows (T : Tx K mg A) : FnOk P w K mg base CX0 16 A.f_Gets_shows A.d_Gets_shows ["self", "row", "least"] (spShows K A.C_Gets true) := by
  have Gplanned : FnOk P w K mg base CX0 15 A.f_planned A.d_planned ["row", "plan", "mine"] (spPlanned K) := ok_planned T
  refine T.FGets_shows.ok sc_Gets_shows (fun vs H Q E h => ?_) (fun cdv A' outer s H vs Q E hr h => ?_)
  · obtain ⟨x, a, l, dx, ns, xs, p, least, rfl, _⟩ := h
    rfl
  · obtain ⟨x, a, l, dx, ns, xs, p, least, rfl, hx, hS, hl, hp, h1000, h12, q⟩ := h
    refine ⟨_, (pss_cons (ps_set (i := 3) sc_Gets_shows.nd rfl (Or.inl rfl) (pe_call Gplanned (hr.mono (by first | decide | omega)) (by rfl) T.gplanned T.Fplanned.kp T.bplanned .nil pass0 (pa_cons (pv 1) (pa_cons (pe_fld (pv 0) rfl) (pa_cons pe_bl pa_nil)))))
      (pss_one (ps_ret (pe_and (pe_cmpR op_notN (pv 3) pe_non (nomark _)) (pe_one (pe_cmpR op_ge (pv 3) (pv 2) (nomark _))))))), ?_⟩
    refine ⟨_, rfl, _, rfl, x, _, dx, _, _, rfl, hx, T.clGets, T.npGets, rfl, ?_⟩
    refine ⟨a, l, ns, xs, p, true, rfl, hS, SqL.of hl, hp, h1000, h12, fun H1 s1 => ?_⟩
    have q' := q H1 s1
    unfold showsV at q'
    cases e : plannedV ns p true with
    | none =>
      rw [e] at q'
      exact ⟨_, rfl, rfl, _, rfl, iteF q'⟩
    | some v =>
      rw [e] at q'
      exact ⟨_, rfl, rfl, _, rfl, iteT ⟨_, rfl, _, rfl, _, _, rfl, rfl, q'⟩⟩
theorem ok_Held_shows (T : Tx K mg A) : FnOk P w K mg base CX0 16 A.f_Held_shows A.d_Held_shows ["self", "row", "least"] (spShows K A.C_Held false) := by
  have Gplanned : FnOk P w K mg base CX0 15 A.f_planned A.d_planned ["row", "plan", "mine"] (spPlanned K) := ok_planned T
  refine T.FHeld_shows.ok sc_Held_shows (fun vs H Q E h => ?_) (fun cdv A' outer s H vs Q E hr h => ?_)
  · obtain ⟨x, a, l, dx, ns, xs, p, least, rfl, _⟩ := h
    rfl
  · obtain ⟨x, a, l, dx, ns, xs, p, least, rfl, hx, hS, hl, hp, h1000, h12, q⟩ := h
    refine ⟨_, (pss_cons (ps_set (i := 3) sc_Held_shows.nd rfl (Or.inl rfl) (pe_call Gplanned (hr.mono (by first | decide | omega)) (by rfl) T.gplanned T.Fplanned.kp T.bplanned .nil pass0 (pa_cons (pv 1) (pa_cons (pe_fld (pv 0) rfl) (pa_cons pe_bl pa_nil)))))
      (pss_one (ps_ret (pe_and (pe_cmpR op_notN (pv 3) pe_non (nomark _)) (pe_one (pe_cmpR op_lt (pe_un un_neg (pv 3)) (pv 2) (nomark _))))))), ?_⟩
    refine ⟨_, rfl, _, rfl, x, _, dx, _, _, rfl, hx, T.clHeld, T.npHeld, rfl, ?_⟩
    refine ⟨a, l, ns, xs, p, false, rfl, hS, SqL.of hl, hp, h1000, h12, fun H1 s1 => ?_⟩
    have q' := q H1 s1
    unfold showsV at q'
    cases e : plannedV ns p false with
    | none =>
      rw [e] at q'
      exact ⟨_, rfl, rfl, _, rfl, iteF q'⟩
    | some v =>
      rw [e] at q'
      exact ⟨_, rfl, rfl, _, rfl, iteT ⟨_, rfl, _, rfl, _, rfl, _, _, rfl, rfl, q'⟩⟩
theorem ok_plan_of (T : Tx K mg A) : FnOk P w K mg base CX0 15 A.f_plan_of A.d_plan_of ["row", "first"] (spPlanOf K) := by
  have Gbest_of : FnOk P w K mg base CX0 14 A.f_best_of A.d_best_of ["row", "low", "behind", "known"] (spBestOf K) := ok_best_of T
  refine T.Fplan_of.ok sc_plan_of (fun vs H Q E h => ?_) (fun cdv A' outer s H vs Q E hr h => ?_)
  · obtain ⟨a, ns, first, rfl, _⟩ := h
    rfl
  · obtain ⟨a, ns, first, rfl, hS, h12, q⟩ := h
    refine ⟨_, (pss_cons (ps_par (i := 2) (j := 3) rfl sc_plan_of.nd rfl rfl (by decide) rfl rfl (pa_cons (pe_lst pa_nil) (pa_cons pe_dnewT pa_nil)) (by rfl))
      (pss_cons (ps_for PassesOwn.never rfl (pi_range1 (by rfl) T.brange (pa_cons (pe_callB call_len_seq (by rfl) T.blen PySem.boot_len (pa_cons (pv 0) pa_nil)) pa_nil)) (pg_name (i := 4) sc_plan_of.nd rfl (Or.inl rfl))
      (pss_one (ps_for PassesOwn.never rfl (pi_range2 (by rfl) T.brange (pa_cons (pe_op op_add (pv 4) pe_int) (pa_cons (pe_op op_add (pe_callB call_len_seq (by rfl) T.blen PySem.boot_len (pa_cons (pv 0) pa_nil)) pe_int) pa_nil))) (pg_name (i := 5) sc_plan_of.nd rfl (Or.inl rfl))
      (pss_one (ps_if (pt_cmpR op_eq (pe_op op_mod (pe_op op_add (pe_op op_sub (pe_callB call_len_seq (by rfl) T.blen PySem.boot_len (pa_cons (pv 0) pa_nil)) (pv 5)) (pv 4)) pe_int) (pe_ifExp (pt_val (pv 1)) pe_int pe_int) (nomark _)) (pss_one (ps_expr (pe_bm PySem.F.plainAttrs_list PySem.F.slot_list_append PySem.F.type_list_append mt_append (pv 2) (pa_cons (pe_tup (pa_cons (pv 4) (pa_cons (pv 5) (pa_cons (pe_ix ix_list (pe_call Gbest_of (hr.mono (by first | decide | omega)) (by rfl) T.gbest_of T.Fbest_of.kp T.bbest_of .nil pass0 (pa_cons (pv 0) (pa_cons (pv 4) (pa_cons (pv 5) (pa_cons (pv 3) pa_nil))))) pe_int (fun _ _ => rfl)) pa_nil)))) pa_nil)))) pss_nil)))))
      (pss_one (ps_ret (pv 2))))), ?_⟩
    have el : (ns.map V.int).length = ns.length := List.length_map _
    refine ⟨Nat.zero_le _, fun f nf => gen_heap nf fun H1 s1 hf => fun d nd => gen_heap nd fun H2 s2 hd => ⟨_, _, rfl, ?_⟩⟩
    have s02 := s1.trans s2
    have hf2 := s2 _ _ hf
    have ndf : d ≠ f := (ne_of_none hf nd).symm
    have ndH : H d = none := s1.free nd
    refine ⟨_, rfl, a, _, rfl, .inl (s02.seq hS), _, rfl, by rw [el]; omega, by rw [el]; omega, ?_⟩
    refine for_range (lo := 0) (n := ((ns.map V.int).length : Int).toNat) (fun i σ H3 => ∃ (xs : List V) (kvs : List (List Key × V)) (x4 x5 : Option V), σ = [some (.ref a), some (.bl first), some (.ref f), some (.ref d), x4, x5] ∧ Same H H3 ∧ H3 f = some (.lst xs) ∧ H3 d = some (.dT kvs) ∧ Known ns kvs ∧ Tris H3 xs (planTo ns first i)) ⟨[], [], none, none, rfl, s02, hf2, hd, Known.nil _, .nil⟩ ?_ ?_
    · rintro i σ H3 hi ⟨xs, kvs, x4, x5, rfl, s3, hf3, hd3, hk3, hT3⟩
      rw [el] at hi
      have hi' : i < ns.length := by omega
      have e0 : (0 : Int) + (i : Int) = (i : Int) := by omega
      refine ⟨_, rfl, _, _, rfl, rfl, _, rfl, a, _, rfl, .inl (s3.seq hS), _, _, rfl, rfl, _, _, rfl, ⟨by omega, by omega, by rw [el]; omega, by rw [el]; omega⟩, ?_⟩
      have en : (((ns.map V.int).length : Int) + 1 - (0 + (i : Int) + 1)).toNat = ns.length - i := by rw [el]; omega
      refine for_range (lo := 0 + (i : Int) + 1) (n := (((ns.map V.int).length : Int) + 1 - (0 + (i : Int) + 1)).toNat) (fun j σ H4 => ∃ (xs : List V) (kvs : List (List Key × V)) (x5 : Option V), σ = [some (.ref a), some (.bl first), some (.ref f), some (.ref d), some (.int (0 + (i : Int))), x5] ∧ Same H H4 ∧ H4 f = some (.lst xs) ∧ H4 d = some (.dT kvs) ∧ Known ns kvs ∧ Tris H4 xs (planTo ns first i ++ chunk ns first i j)) ⟨xs, kvs, x5, rfl, s3, hf3, hd3, hk3, by rw [chunk_zero, List.append_nil]; exact hT3⟩ ?_ ?_
      · rintro j σ H4 hj ⟨xs, kvs, x5, rfl, s4, hf4, hd4, hk4, hT4⟩
        rw [en] at hj
        have hS4 := s4.seq hS
        refine ⟨_, rfl, a, _, rfl, .inl hS4, _, rfl, _, _, rfl, rfl, _, rfl, _, _, rfl, rfl, _, _, rfl, rfl, (by show (0 : Int) < 2; decide), _, rfl, _, rfl, ?_⟩
        have xlen : xs.length ≤ 200 := by
          rw [hT4.len, List.length_append]
          have h1 := planTo_le ns first i
          have h2 := chunk_le ns first i j
          have h3 : i * ns.length ≤ 12 * 12 := Nat.mul_le_mul (by omega) h12
          omega
        have eb : (((ns.map V.int).length : Int) - (0 + (i : Int) + 1 + (j : Int)) + (0 + (i : Int))) % 2 = (((ns.length - (j + 1)) % 2 : Nat) : Int) := by rw [el]; omega
        have test : ∀ (z : Int), z = ((parOf first : Nat) : Int) → decide (V.int ((((ns.map V.int).length : Int) - (0 + (i : Int) + 1 + (j : Int)) + (0 + (i : Int))) % 2) = V.int z) = lineB ns.length first j := by
          rintro z rfl
          unfold lineB
          rw [eb]
          by_cases c : (ns.length - (j + 1)) % 2 = parOf first
          · rw [decide_eq_true c, c]
            exact decide_eq_true rfl
          · rw [decide_eq_false c]
            exact decide_eq_false (fun z => c (by have z' := V.int.inj z; omega))
        cases first with
        | true =>
          refine iteT ⟨rfl, _, rfl, ?_⟩
          rw [test 0 rfl]
          cases c : lineB ns.length true j with
          | false =>
            refine iteF ?_
            refine ⟨xs, kvs, _, rfl, s4, hf4, hd4, hk4, ?_⟩
            rw [chunk_succ, c, if_neg Bool.false_ne_true, List.append_nil]
            exact hT4
          | true =>
            refine iteT ?_
            refine ⟨_, rfl, .inl ⟨rfl, _, SqL.of hf4⟩, _, rfl, _, rfl, _, rfl, _, rfl, _, rfl, _, rfl, ?_⟩
            refine ⟨a, d, ns, i, j, _, _, kvs, rfl, e0, by omega, hS4, hd4, hk4, h12, by omega, fun H5 kvs5 pb s5 hd5 hk5 npb hpb => ?_⟩
            refine ⟨pb, _, _, _, rfl, rfl, SqL.of hpb, atI_nat (j := 0) (bestEnd_at ns i j), (by show 3 ≤ sizeLine; decide), fun pt npt => gen_heap npt fun H6 s6 hpt => ?_⟩
            have hf6 := s6 _ _ (s5 _ _ ndf.symm hf4)
            refine ⟨f, _, _, rfl, rfl, hf6, size_lt (by omega), gen_put hf6 fun H7 s7 hf7 => ?_⟩
            have npf : pt ≠ f := ne_of hpt hf6 (by intro z; cases z)
            refine ⟨_, kvs5, _, rfl, fun b o e => ?_, hf7, s7 _ _ ndf (s6 _ _ hd5), hk5, ?_⟩
            · exact s7 _ _ (ne_of_none e nf) (s6 _ _ (s5 _ _ (ne_of_none e ndH) (s4 _ _ e)))
            · rw [chunk_succ, c, if_pos rfl, ← List.append_assoc]
              have hT5 : Tris H5 xs (planTo ns true i ++ chunk ns true i j) := hT4.butO s5 hd4 (by intro _ z; cases z)
              refine Tris.app (.cons (s7 _ _ npf ?_) .nil) ((hT5.mono s6).but s7 hf6)
              rw [hpt]
              unfold triV lineV
              have e1 : (0 : Int) + (i : Int) + 1 + (j : Int) = ((i + (j + 1) : Nat) : Int) := by omega
              show some (HO.tup [V.int (0 + (i : Int)), V.int (0 + (i : Int) + 1 + (j : Int)), V.str (sideS (bestEnd ns i j))]) = some (HO.tup [V.int (i : Int), V.int ((i + (j + 1) : Nat) : Int), V.str (sideS (bestEnd ns i j))])
              rw [e1, e0]
        | false =>
          refine iteF ⟨rfl, _, rfl, ?_⟩
          rw [test 1 rfl]
          cases c : lineB ns.length false j with
          | false =>
            refine iteF ?_
            refine ⟨xs, kvs, _, rfl, s4, hf4, hd4, hk4, ?_⟩
            rw [chunk_succ, c, if_neg Bool.false_ne_true, List.append_nil]
            exact hT4
          | true =>
            refine iteT ?_
            refine ⟨_, rfl, .inl ⟨rfl, _, SqL.of hf4⟩, _, rfl, _, rfl, _, rfl, _, rfl, _, rfl, _, rfl, ?_⟩
            refine ⟨a, d, ns, i, j, _, _, kvs, rfl, e0, by omega, hS4, hd4, hk4, h12, by omega, fun H5 kvs5 pb s5 hd5 hk5 npb hpb => ?_⟩
            refine ⟨pb, _, _, _, rfl, rfl, SqL.of hpb, atI_nat (j := 0) (bestEnd_at ns i j), (by show 3 ≤ sizeLine; decide), fun pt npt => gen_heap npt fun H6 s6 hpt => ?_⟩
            have hf6 := s6 _ _ (s5 _ _ ndf.symm hf4)
            refine ⟨f, _, _, rfl, rfl, hf6, size_lt (by omega), gen_put hf6 fun H7 s7 hf7 => ?_⟩
            have npf : pt ≠ f := ne_of hpt hf6 (by intro z; cases z)
            refine ⟨_, kvs5, _, rfl, fun b o e => ?_, hf7, s7 _ _ ndf (s6 _ _ hd5), hk5, ?_⟩
            · exact s7 _ _ (ne_of_none e nf) (s6 _ _ (s5 _ _ (ne_of_none e ndH) (s4 _ _ e)))
            · rw [chunk_succ, c, if_pos rfl, ← List.append_assoc]
              have hT5 : Tris H5 xs (planTo ns false i ++ chunk ns false i j) := hT4.butO s5 hd4 (by intro _ z; cases z)
              refine Tris.app (.cons (s7 _ _ npf ?_) .nil) ((hT5.mono s6).but s7 hf6)
              rw [hpt]
              unfold triV lineV
              have e1 : (0 : Int) + (i : Int) + 1 + (j : Int) = ((i + (j + 1) : Nat) : Int) := by omega
              show some (HO.tup [V.int (0 + (i : Int)), V.int (0 + (i : Int) + 1 + (j : Int)), V.str (sideS (bestEnd ns i j))]) = some (HO.tup [V.int (i : Int), V.int ((i + (j + 1) : Nat) : Int), V.str (sideS (bestEnd ns i j))])
              rw [e1, e0]
      · rintro σ H4 ⟨xs, kvs, x5, rfl, s4, hf4, hd4, hk4, hT4⟩
        rw [en] at hT4
        rw [← planTo_succ] at hT4
        exact ⟨xs, kvs, _, _, rfl, s4, hf4, hd4, hk4, hT4⟩
    · rintro σ H3 ⟨xs, kvs, x4, x5, rfl, s3, hf3, hd3, hk3, hT3⟩
      rw [show ((ns.map V.int).length : Int).toNat = ns.length by rw [el]; omega] at hT3
      exact ⟨_, rfl, q H3 f xs s3 nf hf3 hT3⟩
theorem ok_judged (T : Tx K mg A) : FnOk P w K mg base (L2.CX P w) 16 A.f_judged A.d_judged ["row", "least"] (spJudged K A.C_BadRow A.C_BadNumber A.C_Gets A.C_Held) := by
  have Gworth_of : FnOk P w K mg base CX0 13 A.f_worth_of A.d_worth_of ["row", "low", "behind", "known"] (spWorthOf K 13) := ok_worth_of T
  have Gcheck_row : FnOk P w K mg base (L2.CX P w) 2 A.f_check_row A.d_check_row ["row"] (spCheck K A.C_BadRow) := ok_check_row T
  have Gis_whole : FnOk P w K mg base CX0 1 A.f_is_whole A.d_is_whole ["thing"] (spWhole K) := ok_is_whole T
  have Gplan_of : FnOk P w K mg base CX0 15 A.f_plan_of A.d_plan_of ["row", "first"] (spPlanOf K) := ok_plan_of T
  have GGets_init : FnOk P w K mg base CX0 1 A.f_Gets_init A.d_Gets_init ["self", "plan"] (spInit K A.C_Gets) := ok_Gets_init T
  have GHeld_init : FnOk P w K mg base CX0 1 A.f_Held_init A.d_Held_init ["self", "plan"] (spInit K A.C_Held) := ok_Held_init T
  refine T.Fjudged.okX sc_judged (fun vs H Q E h => ?_) (fun cdv A' outer s H vs Q E hr h => ?_)
  · obtain ⟨x, t, rfl, _⟩ := h
    rfl
  · obtain ⟨x, t, rfl, h⟩ := h
    refine ⟨_, (pss_cons (ps_expr (pe_call Gcheck_row (hr.mono (by first | decide | omega)) (by rfl) T.gcheck_row T.Fcheck_row.kp T.bcheck_row .nil (passes_call (takes_of rfl rfl rfl rfl) (fun _ _ _ _ h => h)) (pa_cons (pv 0) pa_nil)))
      (pss_cons (ps_if (pt_not (pt_val (pe_call Gis_whole (hr.mono (by first | decide | omega)) (by rfl) T.gis_whole T.Fis_whole.kp T.bis_whole .nil pass0 (pa_cons (pv 1) pa_nil)))) (pss_one (ps_raise rfl (takes_of rfl rfl rfl rfl) (pmk_own PySem.F.excBase_ValueError T.xBadNumber T.gBadNumber T.kBadNumber (raises_own T.BBadNumber T.tBadNumber) rfl))) pss_nil)
      (pss_cons (ps_if (pt_cmpR op_ge (pe_call Gworth_of (hr.mono (by first | decide | omega)) (by rfl) T.gworth_of T.Fworth_of.kp T.bworth_of .nil pass0 (pa_cons (pv 0) (pa_cons pe_int (pa_cons (pe_callB call_len_seq (by rfl) T.blen PySem.boot_len (pa_cons (pv 0) pa_nil)) (pa_cons pe_dnewT pa_nil))))) (pv 1) (nomark _)) (pss_one (ps_ret (pe_make T.MGets GGets_init (hr.mono (by first | decide | omega)) (by rfl) T.gGets T.bGets_init .nil pass0 (pa_cons (pe_call Gplan_of (hr.mono (by first | decide | omega)) (by rfl) T.gplan_of T.Fplan_of.kp T.bplan_of .nil pass0 (pa_cons (pv 0) (pa_cons pe_bl pa_nil))) pa_nil)))) pss_nil)
      (pss_one (ps_ret (pe_make T.MHeld GHeld_init (hr.mono (by first | decide | omega)) (by rfl) T.gHeld T.bHeld_init .nil pass0 (pa_cons (pe_call Gplan_of (hr.mono (by first | decide | omega)) (by rfl) T.gplan_of T.Fplan_of.kp T.bplan_of .nil pass0 (pa_cons (pv 0) (pa_cons pe_bl pa_nil))) pa_nil))))))), ?_⟩
    refine ⟨_, rfl, ?_⟩
    rcases h with ⟨hn, q⟩ | ⟨ns, hrow, h⟩
    · exact ⟨x, rfl, .inr ⟨hn, q⟩⟩
    refine ⟨x, rfl, .inl ⟨ns, hrow, fun H1 s1 => ?_⟩⟩
    obtain ⟨r, rfl, hS, hok⟩ := hrow
    have hS1 := s1.seq hS
    have el : (ns.map V.int).length = ns.length := List.length_map _
    rcases h with ⟨⟨ty, hp, e⟩, q⟩ | ⟨k, rfl, q⟩
    · refine ⟨_, rfl, ?_⟩
      refine ⟨_, ty, rfl, hp.mono s1, _, rfl, ?_⟩
      rw [e]
      exact iteT (q H1 s1)
    refine ⟨_, rfl, ?_⟩
    refine ⟨_, _, rfl, pv_int k, _, rfl, iteF ?_⟩
    -- if worth_of(..) >= least
    refine ⟨_, rfl, _, rfl, r, _, rfl, .inl hS1, fun d nd => gen_heap nd fun H2 s2 hd => ?_⟩
    refine ⟨r, d, ns, 0, ns.length, _, _, [], rfl, rfl, by rw [el]; omega, s2.seq hS1, hd, Known.nil _, hok.1, by omega, by have := hok.1; omega, fun H3 kvs3 s3 hd3 hk3 => ?_⟩
    have s13 : Same H1 H3 := fun b o e => s3 _ _ (ne_of_none e nd) (s2 _ _ e)
    have s03 := s1.trans s13
    refine ⟨_, rfl, _, _, rfl, rfl, _, rfl, ?_⟩
    refine ite2 (fun c => ?_) (fun c => ?_)
    · have c' : k ≤ wv ns ns.length 0 := of_decide_eq_true c
      rw [decide_eq_true c', if_pos rfl] at q
      refine ⟨_, rfl, ?_⟩
      refine ⟨r, ns, true, rfl, s03.seq hS, hok.1, fun H4 l xs s4 nl hl hT => ?_⟩
      refine fun o dx no ndx nex => ?_
      have s5 := same_make (C := A.C_Gets) no ndx
      refine ⟨o, l, dx, xs, rfl, upd_same, SqL.of (s5 _ _ hl), fun H6 m s6 nm ho hm => ⟨rfl, ?_⟩⟩
      have hT6 : Tris H6 xs (planV ns true) := (hT.mono s5).butO s6 upd_same (by intro _ z; cases z)
      refine q H6 o dx m xs (fun b u e => ?_) ((s03.trans s4).free no) ((s03.trans s4).free (s5.free nm)) ho hm hT6
      have e4 := s4 _ _ (s03 _ _ e)
      exact s6 _ _ (ne_of_none e4 no) (s5 _ _ e4)
    · have c' : ¬ k ≤ wv ns ns.length 0 := fun z => c (decide_eq_true z)
      rw [decide_eq_false c', if_neg Bool.false_ne_true] at q
      refine ⟨_, rfl, ?_⟩
      refine ⟨r, ns, false, rfl, s03.seq hS, hok.1, fun H4 l xs s4 nl hl hT => ?_⟩
      refine fun o dx no ndx nex => ?_
      have s5 := same_make (C := A.C_Held) no ndx
      refine ⟨o, l, dx, xs, rfl, upd_same, SqL.of (s5 _ _ hl), fun H6 m s6 nm ho hm => ⟨rfl, ?_⟩⟩
      have hT6 : Tris H6 xs (planV ns false) := (hT.mono s5).butO s6 upd_same (by intro _ z; cases z)
      refine q H6 o dx m xs (fun b u e => ?_) ((s03.trans s4).free no) ((s03.trans s4).free (s5.free nm)) ho hm hT6
      have e4 := s4 _ _ (s03 _ _ e)
      exact s6 _ _ (ne_of_none e4 no) (s5 _ _ e4)
end
end K09
namespace K09
open PySem PySem.Spec PyProof.Rows L2 RE
/-- what _law_word is asked: a thing that is refused by the class of that number -/
def spWord (P : Program) (w : World) (K : PySem.W.Frag) (mg : Str → Option Value) (base : Heap) (Cs : List (Addr × Str)) : Sp := fun vs H Q _ => ∃ (f C : Addr) (D : Hp) (sp : Sp) (x : V) (n : Nat) (wd : Str), vs = [.ref f, x] ∧ Callable P w K mg base 29 f D sp ∧ Same D H ∧ Cs[n]? = some (C, wd) ∧
  (∀ Q' E', (∀ H', Same H H' → E' (.ref C) none H') → sp [x] H Q' E') ∧ ∀ H', Same H H' → Q (.str wd) H'
section
variable {P : Program} {w : World} {K : PySem.W.Frag} {mg : Str → Option Value} {base : Heap} {A : Ad}
theorem ok__law_word (T : Tx K mg A) : FnOk P w K mg base CX0 30 A.f__law_word A.d__law_word ["_law_ask", "_law_thing"] (spWord P w K mg base [(A.C_BadNumber, "number"), (A.C_BadRow, "row"), (A.C_BadTakes, "takes"), (A.C_Odd, "odd")]) := by
  refine T.F_law_word.ok sc__law_word (fun vs H Q E h => ?_) (fun cdv A' outer s H vs Q E hr h => ?_)
  · obtain ⟨f, C, D, sp, x, n, wd, rfl, _⟩ := h
    rfl
  · obtain ⟨f, C, D, sp, x, n, wd, rfl, hcall, hD, hC, hsp, q⟩ := h
    refine ⟨_, (pss_cons (ps_try_as (i := 2) rfl rfl sc__law_word.nd rfl rfl ⟨rfl, by decide, .inl T.gEndError⟩ L2.takes0 (fun W pn xe tk _ => (pss_one (ps_expr (show PE _ _ (tCallF P w K mg base 29 0 (WE W) _) from pe_callF (k := 29) (hr.mono (by first | decide | omega)) (i := 0) rfl (Or.inl rfl) (fun σ => passAt tk σ) (pa_cons (pv 1) pa_nil)))))
      (fun a oe cls d pn hz hf => (pss_cons (ps_set (i := 3) sc__law_word.nd rfl (Or.inl rfl) (pe_lst (pa_cons (pe_callB (call_isA hz hf) (by rfl) T.bisinstance (by decide +kernel) (pa_cons (pv 2) (pa_cons (pe_glob (v := .ref A.C_BadNumber) (by rfl) T.gBadNumber rfl) pa_nil))) (pa_cons (pe_callB (call_isA hz hf) (by rfl) T.bisinstance (by decide +kernel) (pa_cons (pv 2) (pa_cons (pe_glob (v := .ref A.C_BadRow) (by rfl) T.gBadRow rfl) pa_nil))) pa_nil))))
      (pss_cons (ps_set (i := 3) sc__law_word.nd rfl (Or.inl rfl) (pe_op op_cat (pv 3) (pe_lst (pa_cons (pe_callB (call_isA hz hf) (by rfl) T.bisinstance (by decide +kernel) (pa_cons (pv 2) (pa_cons (pe_glob (v := .ref A.C_BadTakes) (by rfl) T.gBadTakes rfl) pa_nil))) (pa_cons (pe_callB (call_isA hz hf) (by rfl) T.bisinstance (by decide +kernel) (pa_cons (pv 2) (pa_cons (pe_glob (v := .ref A.C_Odd) (by rfl) T.gOdd rfl) pa_nil))) pa_nil)))))
      (pss_one (ps_ret (pe_ifExp (pt_cmpR (show OpR _ _ (rIn K false) from op_in_seq) pe_bl (pv 3) (by rfl)) (pe_ix (show IxR _ (rIxT K) from ix_tup) (pe_tup (pa_cons pe_str (pa_cons pe_str (pa_cons pe_str (pa_cons pe_str pa_nil))))) (show PE _ _ (tBM K "list" (rIndex K) _ _) from pe_bm PySem.F.plainAttrs_list PySem.F.slot_list_index PySem.F.type_list_index mt_index (pv 3) (pa_cons pe_bl pa_nil)) (fun _ _ => rfl)) pe_str)))))))
      (pss_one (ps_ret pe_str))), ?_⟩
    refine ⟨f, D, sp, rfl, hcall, hD, _, rfl, hD, ?_⟩
    refine hsp _ _ (fun H2 s2 => ?_)
    match n, hC with
    | 0, hC =>
      obtain ⟨rfl, rfl⟩ : A.C_BadNumber = C ∧ ("number" : Str) = wd := ⟨congrArg Prod.fst (Option.some.inj hC), congrArg Prod.snd (Option.some.inj hC)⟩
      refine ⟨true, T.exBadNumber, fun _ a na => ?_, fun z => (nomatch z)⟩
      refine ⟨_, rfl, A.C_BadNumber, _, _, _, rfl, rfl, T.ecBadNumber, rfl, .own _, T.keBadNumber_BadNumber, _, rfl, A.C_BadNumber, _, _, _, rfl, rfl, T.ecBadNumber, rfl, .own _, T.keBadNumber_BadRow, (by show 2 ≤ sizeLine; decide), fun p np => gen_heap np fun H3 s3 hp => ?_⟩
      refine ⟨_, rfl, _, rfl, A.C_BadNumber, _, _, _, rfl, rfl, T.ecBadNumber, rfl, .own _, T.keBadNumber_BadTakes, _, rfl, A.C_BadNumber, _, _, _, rfl, rfl, T.ecBadNumber, rfl, .own _, T.keBadNumber_Odd, (by show 2 ≤ sizeLine; decide), fun r nr => gen_heap nr fun H4 s4 hr4 => ?_⟩
      refine ⟨p, r, _, _, rfl, rfl, s4 _ _ hp, hr4, (by show 2 + 2 ≤ sizeLine; decide), fun l nl => gen_heap nl fun H5 s5 hl => ?_⟩
      refine ⟨_, rfl, l, _, rfl, .inl (SqL.of hl), rfl, rfl, _, rfl, iteT ?_⟩
      refine ⟨(by show 4 ≤ sizeLine; decide), fun m nm => gen_heap nm fun H6 s6 hm => ?_⟩
      have hl6 := s6 _ _ hl
      refine ⟨_, rfl, .inl ⟨rfl, _, SqL.of hl6⟩, l, _, _, 0, _, rfl, rfl, SqL.of hl6, rfl, rfl, rfl, rfl, (fun m z hm hz => absurd hm (Nat.not_lt_zero _)), ?_⟩
      exact ⟨m, _, _, _, rfl, rfl, SqT.of hm, rfl, q _ (s2.trans (s3.trans (s4.trans (s5.trans s6))))⟩
    | 1, hC =>
      obtain ⟨rfl, rfl⟩ : A.C_BadRow = C ∧ ("row" : Str) = wd := ⟨congrArg Prod.fst (Option.some.inj hC), congrArg Prod.snd (Option.some.inj hC)⟩
      refine ⟨true, T.exBadRow, fun _ a na => ?_, fun z => (nomatch z)⟩
      refine ⟨_, rfl, A.C_BadRow, _, _, _, rfl, rfl, T.ecBadRow, rfl, .own _, T.keBadRow_BadNumber, _, rfl, A.C_BadRow, _, _, _, rfl, rfl, T.ecBadRow, rfl, .own _, T.keBadRow_BadRow, (by show 2 ≤ sizeLine; decide), fun p np => gen_heap np fun H3 s3 hp => ?_⟩
      refine ⟨_, rfl, _, rfl, A.C_BadRow, _, _, _, rfl, rfl, T.ecBadRow, rfl, .own _, T.keBadRow_BadTakes, _, rfl, A.C_BadRow, _, _, _, rfl, rfl, T.ecBadRow, rfl, .own _, T.keBadRow_Odd, (by show 2 ≤ sizeLine; decide), fun r nr => gen_heap nr fun H4 s4 hr4 => ?_⟩
      refine ⟨p, r, _, _, rfl, rfl, s4 _ _ hp, hr4, (by show 2 + 2 ≤ sizeLine; decide), fun l nl => gen_heap nl fun H5 s5 hl => ?_⟩
      refine ⟨_, rfl, l, _, rfl, .inl (SqL.of hl), rfl, rfl, _, rfl, iteT ?_⟩
      refine ⟨(by show 4 ≤ sizeLine; decide), fun m nm => gen_heap nm fun H6 s6 hm => ?_⟩
      have hl6 := s6 _ _ hl
      refine ⟨_, rfl, .inl ⟨rfl, _, SqL.of hl6⟩, l, _, _, 1, _, rfl, rfl, SqL.of hl6, rfl, rfl, rfl, rfl, (fun m z hm hz => by match m, hm with | 0, _ => (cases hz; rfl)), ?_⟩
      exact ⟨m, _, _, _, rfl, rfl, SqT.of hm, rfl, q _ (s2.trans (s3.trans (s4.trans (s5.trans s6))))⟩
    | 2, hC =>
      obtain ⟨rfl, rfl⟩ : A.C_BadTakes = C ∧ ("takes" : Str) = wd := ⟨congrArg Prod.fst (Option.some.inj hC), congrArg Prod.snd (Option.some.inj hC)⟩
      refine ⟨true, T.exBadTakes, fun _ a na => ?_, fun z => (nomatch z)⟩
      refine ⟨_, rfl, A.C_BadTakes, _, _, _, rfl, rfl, T.ecBadTakes, rfl, .own _, T.keBadTakes_BadNumber, _, rfl, A.C_BadTakes, _, _, _, rfl, rfl, T.ecBadTakes, rfl, .own _, T.keBadTakes_BadRow, (by show 2 ≤ sizeLine; decide), fun p np => gen_heap np fun H3 s3 hp => ?_⟩
      refine ⟨_, rfl, _, rfl, A.C_BadTakes, _, _, _, rfl, rfl, T.ecBadTakes, rfl, .own _, T.keBadTakes_BadTakes, _, rfl, A.C_BadTakes, _, _, _, rfl, rfl, T.ecBadTakes, rfl, .own _, T.keBadTakes_Odd, (by show 2 ≤ sizeLine; decide), fun r nr => gen_heap nr fun H4 s4 hr4 => ?_⟩
      refine ⟨p, r, _, _, rfl, rfl, s4 _ _ hp, hr4, (by show 2 + 2 ≤ sizeLine; decide), fun l nl => gen_heap nl fun H5 s5 hl => ?_⟩
      refine ⟨_, rfl, l, _, rfl, .inl (SqL.of hl), rfl, rfl, _, rfl, iteT ?_⟩
      refine ⟨(by show 4 ≤ sizeLine; decide), fun m nm => gen_heap nm fun H6 s6 hm => ?_⟩
      have hl6 := s6 _ _ hl
      refine ⟨_, rfl, .inl ⟨rfl, _, SqL.of hl6⟩, l, _, _, 2, _, rfl, rfl, SqL.of hl6, rfl, rfl, rfl, rfl, (fun m z hm hz => by match m, hm with | 0, _ => (cases hz; rfl) | 1, _ => (cases hz; rfl)), ?_⟩
      exact ⟨m, _, _, _, rfl, rfl, SqT.of hm, rfl, q _ (s2.trans (s3.trans (s4.trans (s5.trans s6))))⟩
    | 3, hC =>
      obtain ⟨rfl, rfl⟩ : A.C_Odd = C ∧ ("odd" : Str) = wd := ⟨congrArg Prod.fst (Option.some.inj hC), congrArg Prod.snd (Option.some.inj hC)⟩
      refine ⟨true, T.exOdd, fun _ a na => ?_, fun z => (nomatch z)⟩
      refine ⟨_, rfl, A.C_Odd, _, _, _, rfl, rfl, T.ecOdd, rfl, .own _, T.keOdd_BadNumber, _, rfl, A.C_Odd, _, _, _, rfl, rfl, T.ecOdd, rfl, .own _, T.keOdd_BadRow, (by show 2 ≤ sizeLine; decide), fun p np => gen_heap np fun H3 s3 hp => ?_⟩
      refine ⟨_, rfl, _, rfl, A.C_Odd, _, _, _, rfl, rfl, T.ecOdd, rfl, .own _, T.keOdd_BadTakes, _, rfl, A.C_Odd, _, _, _, rfl, rfl, T.ecOdd, rfl, .own _, T.keOdd_Odd, (by show 2 ≤ sizeLine; decide), fun r nr => gen_heap nr fun H4 s4 hr4 => ?_⟩
      refine ⟨p, r, _, _, rfl, rfl, s4 _ _ hp, hr4, (by show 2 + 2 ≤ sizeLine; decide), fun l nl => gen_heap nl fun H5 s5 hl => ?_⟩
      refine ⟨_, rfl, l, _, rfl, .inl (SqL.of hl), rfl, rfl, _, rfl, iteT ?_⟩
      refine ⟨(by show 4 ≤ sizeLine; decide), fun m nm => gen_heap nm fun H6 s6 hm => ?_⟩
      have hl6 := s6 _ _ hl
      refine ⟨_, rfl, .inl ⟨rfl, _, SqL.of hl6⟩, l, _, _, 3, _, rfl, rfl, SqL.of hl6, rfl, rfl, rfl, rfl, (fun m z hm hz => by match m, hm with | 0, _ => (cases hz; rfl) | 1, _ => (cases hz; rfl) | 2, _ => (cases hz; rfl)), ?_⟩
      exact ⟨m, _, _, _, rfl, rfl, SqT.of hm, rfl, q _ (s2.trans (s3.trans (s4.trans (s5.trans s6))))⟩
    | n + 4, hC => simp at hC
end
end K09
namespace K09
open PySem PySem.Spec PyProof.Rows L2 LamX NdefX RE
section
variable {P : Program} {w : World} {K : PySem.W.Frag} {mg : Str → Option Value} {base : Heap} {A : Ad}
theorem ok__law_rows_right (T : Tx K mg A) (TB : TabB base mg A.c__law_rows_right A.P__law_rows_right) : FnOk P w K mg base CX0 31 A.f__law_rows_right A.d__law_rows_right ["_law_n"] (spRows9 (tabs A)) := by
  have G_law_word : FnOk P w K mg base CX0 30 A.f__law_word A.d__law_word ["_law_ask", "_law_thing"] (spWord P w K mg base [(A.C_BadNumber, "number"), (A.C_BadRow, "row"), (A.C_BadTakes, "takes"), (A.C_Odd, "odd")]) := ok__law_word T
  have Gplay_by : FnOk P w K mg base (L2.CX P w) 28 A.f_play_by A.d_play_by ["row", "number"] (spPlayBy K A.C_BadRow A.C_BadNumber) := ok_play_by T
  have Ghow_many : FnOk P w K mg base (L2.CX P w) 28 A.f_how_many A.d_how_many ["row"] (spHowMany K A.C_BadRow) := ok_how_many T
  have Gworth : FnOk P w K mg base (L2.CX P w) 14 A.f_worth A.d_worth ["row"] (spWorth K A.C_BadRow) := ok_worth T
  have Gbest : FnOk P w K mg base (L2.CX P w) 15 A.f_best A.d_best ["row"] (spBest K A.C_BadRow) := ok_best T
  have Gled : FnOk P w K mg base (L2.CX P w) 3 A.f_led A.d_led ["row", "takes"] (spLed K A.C_BadRow A.C_BadTakes) := ok_led T
  have mem__law_rows_right := memt__law_rows_right A
  have hu__law_rows_right := hut__law_rows_right T
  refine T.FC_law_rows_right.ok sc__law_rows_right (fun vs H Q E h => ?_) (fun A' outer s H vs Q E hr h => ?_)
  · obtain ⟨n, rfl, _⟩ := h
    rfl
  · obtain ⟨n, rfl, hlo, hhi, hTb, q⟩ := h
    refine ⟨_, (pss_cons (ps_asg (pe_tup (pa_cons pe_str (pa_cons pe_str pa_nil))) (pg_tup rfl (pgs_cons (pg_name (i := 1) sc__law_rows_right.nd rfl (Or.inl rfl)) (pgs_cons (pg_name (i := 2) sc__law_rows_right.nd rfl (Or.inl rfl)) pgs_nil))))
      (pss_cons (ps_set (i := 3) sc__law_rows_right.nd rfl (Or.inl rfl) (pe_lst (pa_cons (pe_tup (pa_cons (pe_lst (pa_cons pe_int (pa_cons pe_int (pa_cons (pv 0) pa_nil)))) (pa_cons (pe_lst (pa_cons (pv 1) pa_nil)) (pa_cons (pe_tup (pa_cons pe_int (pa_cons pe_int (pa_cons (pe_lst (pa_cons pe_int (pa_cons (pv 0) pa_nil))) pa_nil)))) pa_nil)))) (pa_cons (pe_tup (pa_cons (pe_lst (pa_cons pe_int (pa_cons pe_int (pa_cons (pv 0) pa_nil)))) (pa_cons (pe_lst pa_nil) (pa_cons (pe_tup (pa_cons pe_int (pa_cons pe_int (pa_cons (pe_lst (pa_cons pe_int (pa_cons pe_int (pa_cons (pv 0) pa_nil)))) pa_nil)))) pa_nil)))) pa_nil))))
      (pss_cons (ps_set (i := 3) sc__law_rows_right.nd rfl (Or.inl rfl) (pe_op op_cat (pv 3) (pe_lst (pa_cons (pe_tup (pa_cons (pe_lst (pa_cons pe_int (pa_cons pe_int (pa_cons (pv 0) pa_nil)))) (pa_cons (pe_lst (pa_cons (pv 1) (pa_cons (pv 2) (pa_cons (pv 1) pa_nil)))) (pa_cons (pe_tup (pa_cons pe_int (pa_cons (pv 0) (pa_cons (pe_lst pa_nil) pa_nil)))) pa_nil)))) (pa_cons (pe_tup (pa_cons (pe_lst pa_nil) (pa_cons (pe_lst pa_nil) (pa_cons (pe_tup (pa_cons pe_int (pa_cons pe_int (pa_cons (pe_lst pa_nil) pa_nil)))) pa_nil)))) pa_nil)))))
      (pss_cons (ps_set (i := 3) sc__law_rows_right.nd rfl (Or.inl rfl) (pe_op op_cat (pv 3) (pe_lst (pa_cons (pe_tup (pa_cons (pe_lst (pa_cons (pv 0) pa_nil)) (pa_cons (pe_lst (pa_cons (pv 2) pa_nil)) (pa_cons (pe_tup (pa_cons (pv 0) (pa_cons pe_int (pa_cons (pe_lst pa_nil) pa_nil)))) pa_nil)))) (pa_cons (pe_tup (pa_cons (pe_lst (pa_cons pe_int (pa_cons pe_int (pa_cons (pv 0) pa_nil)))) (pa_cons (pe_lst (pa_cons (pv 2) (pa_cons (pv 1) pa_nil))) (pa_cons (pe_tup (pa_cons (pv 0) (pa_cons pe_int (pa_cons (pe_lst (pa_cons pe_int pa_nil)) pa_nil)))) pa_nil)))) pa_nil)))))
      (pss_cons (ps_if (pt_val (pe_callB (cr_any rfl) (by rfl) T.bany (by decide +kernel) (pa_cons (pe_lc (own := [("_law_row", 4), ("_law_takes", 13), ("_law_due", 5)]) (by rfl) sc__law_rows_right.nd (pi_list (pv 3)) (blkOk_by (own := [("_law_row", 4), ("_law_takes", 13), ("_law_due", 5)]) (N := N__law_rows_right) (sc := defScope s__law_rows_right) (by decide +kernel)) (fun _ _ _ _ _ => (show PG _ _ (gTup K 3 _) from pg_tup rfl (pgs_cons (pg_name (i := 4) sc__law_rows_right.nd rfl (Or.inl rfl)) (pgs_cons (pg_name (i := 13) sc__law_rows_right.nd rfl (Or.inl rfl)) (pgs_cons (pg_name (i := 5) sc__law_rows_right.nd rfl (Or.inl rfl)) pgs_nil))))) (fun _ _ _ _ _ => pts_nil) (fun _ _ _ _ _ => (pe_cmpR (show OpR _ _ (rNeD K) from op_neD hr.units) (pe_call Gled (hr.mono (by first | decide | omega)) (by rfl) T.gled T.Fled.kp T.bled .nil passL (pa_cons (pv 4) (pa_cons (pv 13) pa_nil))) (pv 5) (nomark _)))) pa_nil))) (pss_one (ps_ret pe_bl)) pss_nil)
      (pss_cons (ps_set (i := 3) sc__law_rows_right.nd rfl (Or.inl rfl) (pe_lst (pa_cons (pe_tup (pa_cons (pe_lst pa_nil) (pa_cons pe_int (pa_cons (pe_lst pa_nil) (pa_cons pe_int pa_nil))))) (pa_cons (pe_tup (pa_cons (pe_lst (pa_cons (pv 0) pa_nil)) (pa_cons (pv 0) (pa_cons (pe_lst (pa_cons (pv 1) (pa_cons (pv 2) pa_nil))) (pa_cons pe_int pa_nil))))) (pa_cons (pe_tup (pa_cons (pe_lst (pa_cons pe_int (pa_cons pe_int pa_nil))) (pa_cons pe_int (pa_cons (pe_lst (pa_cons (pv 2) pa_nil)) (pa_cons pe_int pa_nil))))) pa_nil)))))
      (pss_cons (ps_set (i := 3) sc__law_rows_right.nd rfl (Or.inl rfl) (pe_op op_cat (pv 3) (pe_lst (pa_cons (pe_tup (pa_cons (pe_lst (pa_cons pe_int (pa_cons pe_int pa_nil))) (pa_cons pe_int (pa_cons (pe_lst (pa_cons (pv 1) (pa_cons (pv 2) pa_nil))) (pa_cons pe_int pa_nil))))) (pa_cons (pe_tup (pa_cons (pe_lst (pa_cons pe_int (pa_cons pe_int (pa_cons pe_int pa_nil)))) (pa_cons pe_int (pa_cons (pe_lst (pa_cons (pv 1) pa_nil)) (pa_cons pe_int pa_nil))))) pa_nil)))))
      (pss_cons (ps_set (i := 3) sc__law_rows_right.nd rfl (Or.inl rfl) (pe_op op_cat (pv 3) (pe_lst (pa_cons (pe_tup (pa_cons (pe_lst (pa_cons pe_int (pa_cons pe_int (pa_cons pe_int pa_nil)))) (pa_cons (pe_un un_neg pe_int) (pa_cons (pe_lst (pa_cons (pv 1) (pa_cons (pv 2) pa_nil))) (pa_cons pe_int pa_nil))))) (pa_cons (pe_tup (pa_cons (pe_lst (pa_cons pe_int (pa_cons pe_int (pa_cons pe_int pa_nil)))) (pa_cons pe_int (pa_cons (pe_lst (pa_cons (pv 1) (pa_cons (pv 2) pa_nil))) (pa_cons pe_int pa_nil))))) pa_nil)))))
      (pss_cons (ps_set (i := 3) sc__law_rows_right.nd rfl (Or.inl rfl) (pe_op op_cat (pv 3) (pe_lst (pa_cons (pe_tup (pa_cons (pe_lst (pa_cons (pv 0) (pa_cons pe_int pa_nil))) (pa_cons (pv 0) (pa_cons (pe_lst (pa_cons (pv 1) pa_nil)) (pa_cons pe_int pa_nil))))) (pa_cons (pe_tup (pa_cons (pe_lst (pa_cons pe_int (pa_cons pe_int (pa_cons pe_int pa_nil)))) (pa_cons pe_int (pa_cons (pe_lst (pa_cons (pv 1) (pa_cons (pv 2) pa_nil))) (pa_cons pe_int pa_nil))))) pa_nil)))))
      (pss_cons (ps_for PassesOwn.never rfl (pi_list (pv 3)) (pg_tup rfl (pgs_cons (pg_name (i := 4) sc__law_rows_right.nd rfl (Or.inr rfl)) (pgs_cons (pg_name (i := 5) sc__law_rows_right.nd rfl (Or.inl rfl)) (pgs_cons (pg_name (i := 6) sc__law_rows_right.nd rfl (Or.inl rfl)) (pgs_cons (pg_name (i := 7) sc__law_rows_right.nd rfl (Or.inl rfl)) pgs_nil)))))
      (pss_cons (ps_if (PW.pt (pw_or (pt_cmpR op_ne (pe_call Gworth (hr.mono (by first | decide | omega)) (by rfl) T.gworth T.Fworth.kp T.bworth .nil passL (pa_cons (pv 4) pa_nil)) (pv 5) (nomark _)) (pw_or (pt_cmpR (op_neD hr.units) (pe_call Gbest (hr.mono (by first | decide | omega)) (by rfl) T.gbest T.Fbest.kp T.bbest .nil passL (pa_cons (pv 4) pa_nil)) (pv 6) (nomark _)) (pw_or1 (pt_cmpR op_ne (pe_call Ghow_many (hr.mono (by first | decide | omega)) (by rfl) T.ghow_many T.Fhow_many.kp T.bhow_many .nil passL (pa_cons (pv 4) pa_nil)) (pv 7) (nomark _)))))) (pss_one (ps_ret pe_bl)) pss_nil)
      (pss_cons (ps_if (pt_cmpR op_ne (pe_callC (i := 4) (y := "_law_row") G_law_word (hr.mono (by first | decide | omega)) (by rfl) T.g_law_word T.F_law_word.kp T.b_law_word rfl rfl rfl (pa_cons (pe_lam (T := tabs A) TB rfl mem__law_rows_right hu__law_rows_right (free_by (sc := defScope s__law_rows_right) (by decide +kernel))) (pa_cons (pv 7) pa_nil))) pe_str (nomark _)) (pss_one (ps_ret pe_bl)) pss_nil)
      (pss_cons (ps_set (i := 8) sc__law_rows_right.nd rfl (Or.inr rfl) (pe_lc (own := [("_law_at", 14)]) (by rfl) sc__law_rows_right.nd (pi_range1 (by rfl) T.brange (pa_cons (pv 7) pa_nil)) (blkOk_by (own := [("_law_at", 14)]) (N := N__law_rows_right) (sc := defScope s__law_rows_right) (by decide +kernel)) (fun _ _ _ _ _ => (pg_name (i := 14) sc__law_rows_right.nd rfl (Or.inl rfl))) (fun _ _ _ _ _ => pts_nil) (fun _ _ _ _ _ => (pe_call Gplay_by (hr.mono (by first | decide | omega)) (by rfl) T.gplay_by T.Fplay_by.kp T.bplay_by .nil passL (pa_cons (pv 4) (pa_cons (pv 14) pa_nil))))) (hs := sw_cell rfl))
      (pss_cons (ps_if (PW.pt (pw_or (pt_cmpR (op_neD hr.units) (pe_callB (cr_sortedD hr.units) (by rfl) T.bsorted (by decide +kernel) (pa_cons (pv 8) pa_nil)) (pv 8) (nomark _)) (pw_or1 (pt_val (pe_callB (cr_any rfl) (by rfl) T.bany (by decide +kernel) (pa_cons (pe_lc (own := [("_law_at", 14)]) (by rfl) sc__law_rows_right.nd (pi_range1 (by rfl) T.brange (pa_cons (pe_op op_sub (pv 7) pe_int) pa_nil)) (blkOk_by (own := [("_law_at", 14)]) (N := N__law_rows_right) (sc := defScope s__law_rows_right) (by decide +kernel)) (fun _ _ _ _ _ => (pg_name (i := 14) sc__law_rows_right.nd rfl (Or.inl rfl))) (fun _ _ _ _ _ => pts_nil) (fun _ _ _ _ _ => (pe_cmpR (show OpR _ _ (rEqD K) from op_eqD hr.units) (pe_ix (ix_list : IxR _ (rIxL K)) (pv 8) (pv 14) (fun _ _ => rfl)) (pe_ix (ix_list : IxR _ (rIxL K)) (pv 8) (pe_op op_add (pv 14) pe_int) (fun _ _ => rfl)) (nomark _)))) pa_nil)))))) (pss_one (ps_ret pe_bl)) pss_nil)
      (pss_one (ps_for PassesOwn.never rfl (pi_list (pv 8)) (pg_name (i := 9) sc__law_rows_right.nd rfl (Or.inr rfl))
      (pss_cons (ps_asg (pe_call Gled (hr.mono (by first | decide | omega)) (by rfl) T.gled T.Fled.kp T.bled .nil passL (pa_cons (pv 4) (pa_cons (pv 9) pa_nil))) (pg_tup rfl (pgs_cons (pg_name (i := 10) sc__law_rows_right.nd rfl (Or.inl rfl)) (pgs_cons (pg_name (i := 11) sc__law_rows_right.nd rfl (Or.inl rfl)) (pgs_cons (pg_name (i := 12) sc__law_rows_right.nd rfl (Or.inl rfl)) pgs_nil)))))
      (pss_cons (ps_if (PW.pt (pw_or (pt_cmpR op_ne (pe_op op_sub (pv 10) (pv 11)) (pv 5) (nomark _)) (pw_or1 (pt_cmpR (op_neD hr.units) (pv 12) (pe_lst pa_nil) (nomark _))))) (pss_one (ps_ret pe_bl)) pss_nil)
      (pss_one (ps_if (pt_val (pe_callB (cr_any rfl) (by rfl) T.bany (by decide +kernel) (pa_cons (pe_lc (own := [("_law_at", 14)]) (by rfl) sc__law_rows_right.nd (pi_range1 (by rfl) T.brange (pa_cons (pe_callB call_len_seq (by rfl) T.blen PySem.boot_len (pa_cons (pv 4) pa_nil)) pa_nil)) (blkOk_by (own := [("_law_at", 14)]) (N := N__law_rows_right) (sc := defScope s__law_rows_right) (by decide +kernel)) (fun _ _ _ _ _ => (pg_name (i := 14) sc__law_rows_right.nd rfl (Or.inl rfl))) (fun _ _ _ _ _ => pts_nil) (fun _ _ _ _ _ => (pe_cmpR (show OpR _ _ (rIn K true) from op_notIn_seq) (pe_ix (ix_list : IxR _ (rIxL K)) (pv 9) (pv 14) (fun _ _ => rfl)) (pe_call Gbest (hr.mono (by first | decide | omega)) (by rfl) T.gbest T.Fbest.kp T.bbest .nil passL (pa_cons (pe_ix (ix_tup : IxR _ (rIxT K)) (pe_call Gled (hr.mono (by first | decide | omega)) (by rfl) T.gled T.Fled.kp T.bled .nil passL (pa_cons (pv 4) (pa_cons (pe_slice (show SlR _ (rSlL K) from sl_list) (pv 9) po_none (po_some (pv 14))) pa_nil))) pe_int (fun _ _ => rfl)) pa_nil)) (by rfl)))) pa_nil))) (pss_one (ps_ret pe_bl)) pss_nil)))))))))))
      (pss_cons (ps_if (pt_cmpR (op_neD hr.units) (pe_lst (pa_cons (pe_call Gplay_by (hr.mono (by first | decide | omega)) (by rfl) T.gplay_by T.Fplay_by.kp T.bplay_by .nil passL (pa_cons (pe_lst (pa_cons (pv 0) pa_nil)) (pa_cons pe_int pa_nil))) (pa_cons (pe_call Gplay_by (hr.mono (by first | decide | omega)) (by rfl) T.gplay_by T.Fplay_by.kp T.bplay_by .nil passL (pa_cons (pe_lst (pa_cons (pv 0) pa_nil)) (pa_cons pe_int pa_nil))) (pa_cons (pe_call Gplay_by (hr.mono (by first | decide | omega)) (by rfl) T.gplay_by T.Fplay_by.kp T.bplay_by .nil passL (pa_cons (pe_lst pa_nil) (pa_cons pe_int pa_nil))) pa_nil)))) (pe_lst (pa_cons (pe_lst (pa_cons (pv 1) pa_nil)) (pa_cons (pe_lst (pa_cons (pv 2) pa_nil)) (pa_cons (pe_lst pa_nil) pa_nil)))) (nomark _)) (pss_one (ps_ret pe_bl)) pss_nil)
      (pss_cons (ps_if (pt_cmpR (op_neD hr.units) (pe_lst (pa_cons (pe_call Gplay_by (hr.mono (by first | decide | omega)) (by rfl) T.gplay_by T.Fplay_by.kp T.bplay_by .nil passL (pa_cons (pe_lst (pa_cons pe_int (pa_cons pe_int pa_nil))) (pa_cons pe_int pa_nil))) (pa_cons (pe_call Gplay_by (hr.mono (by first | decide | omega)) (by rfl) T.gplay_by T.Fplay_by.kp T.bplay_by .nil passL (pa_cons (pe_lst (pa_cons pe_int (pa_cons pe_int (pa_cons pe_int pa_nil)))) (pa_cons pe_int pa_nil))) pa_nil))) (pe_lst (pa_cons (pe_lst (pa_cons (pv 1) (pa_cons (pv 2) pa_nil))) (pa_cons (pe_lst (pa_cons (pv 1) (pa_cons (pv 2) (pa_cons (pv 1) pa_nil)))) pa_nil))) (nomark _)) (pss_one (ps_ret pe_bl)) pss_nil)
      (pss_one (ps_ret pe_bl)))))))))))))), ?_⟩
    refine ⟨(by show 2 ≤ sizeLine; decide), fun p1 np1 => gen_heap np1 fun H2 sH2 hp1 => ?_⟩
    refine ⟨p1, _, rfl, (SqT.of hp1), rfl, _, _, rfl, _, _, rfl, rfl, ?_⟩
    refine ⟨_, rfl, (by show 3 ≤ sizeLine; decide), fun p3 np3 => gen_heap np3 fun H4 sH4 hp3 => ?_⟩
    refine ⟨_, rfl, (by show 1 ≤ sizeLine; decide), fun p5 np5 => gen_heap np5 fun H6 sH6 hp5 => ?_⟩
    refine ⟨_, rfl, (by show 2 ≤ sizeLine; decide), fun p7 np7 => gen_heap np7 fun H8 sH8 hp7 => ?_⟩
    refine ⟨(by show 3 ≤ sizeLine; decide), fun p9 np9 => gen_heap np9 fun H10 sH10 hp9 => ?_⟩
    refine ⟨(by show 3 ≤ sizeLine; decide), fun p11 np11 => gen_heap np11 fun H12 sH12 hp11 => ?_⟩
    refine ⟨_, rfl, (by show 3 ≤ sizeLine; decide), fun p13 np13 => gen_heap np13 fun H14 sH14 hp13 => ?_⟩
    refine ⟨Nat.zero_le _, fun p15 np15 => gen_heap np15 fun H16 sH16 hp15 => ?_⟩
    refine ⟨_, rfl, (by show 3 ≤ sizeLine; decide), fun p17 np17 => gen_heap np17 fun H18 sH18 hp17 => ?_⟩
    refine ⟨(by show 3 ≤ sizeLine; decide), fun p19 np19 => gen_heap np19 fun H20 sH20 hp19 => ?_⟩
    refine ⟨(by show 3 ≤ sizeLine; decide), fun p21 np21 => gen_heap np21 fun H22 sH22 hp21 => ?_⟩
    refine ⟨(by show 2 ≤ sizeLine; decide), fun p23 np23 => gen_heap np23 fun H24 sH24 hp23 => ?_⟩
    refine ⟨_, rfl, _, rfl, (by show 3 ≤ sizeLine; decide), fun p25 np25 => gen_heap np25 fun H26 sH26 hp25 => ?_⟩
    refine ⟨_, rfl, _, rfl, _, rfl, (by show 3 ≤ sizeLine; decide), fun p27 np27 => gen_heap np27 fun H28 sH28 hp27 => ?_⟩
    refine ⟨_, rfl, Nat.zero_le _, fun p29 np29 => gen_heap np29 fun H30 sH30 hp29 => ?_⟩
    refine ⟨(by show 3 ≤ sizeLine; decide), fun p31 np31 => gen_heap np31 fun H32 sH32 hp31 => ?_⟩
    refine ⟨(by show 3 ≤ sizeLine; decide), fun p33 np33 => gen_heap np33 fun H34 sH34 hp33 => ?_⟩
    refine ⟨Nat.zero_le _, fun p35 np35 => gen_heap np35 fun H36 sH36 hp35 => ?_⟩
    refine ⟨Nat.zero_le _, fun p37 np37 => gen_heap np37 fun H38 sH38 hp37 => ?_⟩
    refine ⟨Nat.zero_le _, fun p39 np39 => gen_heap np39 fun H40 sH40 hp39 => ?_⟩
    refine ⟨(by show 3 ≤ sizeLine; decide), fun p41 np41 => gen_heap np41 fun H42 sH42 hp41 => ?_⟩
    refine ⟨(by show 3 ≤ sizeLine; decide), fun p43 np43 => gen_heap np43 fun H44 sH44 hp43 => ?_⟩
    refine ⟨(by show 2 ≤ sizeLine; decide), fun p45 np45 => gen_heap np45 fun H46 sH46 hp45 => ?_⟩
    have h47 := (sH46 _ _ (sH44 _ _ (sH42 _ _ (sH40 _ _ (sH38 _ _ (sH36 _ _ (sH34 _ _ (sH32 _ _ (sH30 _ _ (sH28 _ _ (sH26 _ _ hp23)))))))))))
    refine ⟨p23, p45, _, _, rfl, rfl, h47, hp45, (by show 2 + 2 ≤ sizeLine; decide), fun p48 np48 => gen_heap np48 fun H49 sH49 hp48 => ?_⟩
    refine ⟨_, rfl, _, rfl, (by show 1 ≤ sizeLine; decide), fun p50 np50 => gen_heap np50 fun H51 sH51 hp50 => ?_⟩
    refine ⟨_, rfl, (by show 1 ≤ sizeLine; decide), fun p52 np52 => gen_heap np52 fun H53 sH53 hp52 => ?_⟩
    refine ⟨_, rfl, Nat.zero_le _, fun p54 np54 => gen_heap np54 fun H55 sH55 hp54 => ?_⟩
    refine ⟨(by show 3 ≤ sizeLine; decide), fun p56 np56 => gen_heap np56 fun H57 sH57 hp56 => ?_⟩
    refine ⟨(by show 3 ≤ sizeLine; decide), fun p58 np58 => gen_heap np58 fun H59 sH59 hp58 => ?_⟩
    refine ⟨_, rfl, (by show 3 ≤ sizeLine; decide), fun p60 np60 => gen_heap np60 fun H61 sH61 hp60 => ?_⟩
    refine ⟨_, rfl, _, rfl, (by show 2 ≤ sizeLine; decide), fun p62 np62 => gen_heap np62 fun H63 sH63 hp62 => ?_⟩
    refine ⟨_, rfl, (by show 1 ≤ sizeLine; decide), fun p64 np64 => gen_heap np64 fun H65 sH65 hp64 => ?_⟩
    refine ⟨(by show 3 ≤ sizeLine; decide), fun p66 np66 => gen_heap np66 fun H67 sH67 hp66 => ?_⟩
    refine ⟨(by show 3 ≤ sizeLine; decide), fun p68 np68 => gen_heap np68 fun H69 sH69 hp68 => ?_⟩
    refine ⟨(by show 2 ≤ sizeLine; decide), fun p70 np70 => gen_heap np70 fun H71 sH71 hp70 => ?_⟩
    have h72 := (sH71 _ _ (sH69 _ _ (sH67 _ _ (sH65 _ _ (sH63 _ _ (sH61 _ _ (sH59 _ _ (sH57 _ _ (sH55 _ _ (sH53 _ _ (sH51 _ _ hp48)))))))))))
    refine ⟨p48, p70, _, _, rfl, rfl, h72, hp70, (by show 4 + 2 ≤ sizeLine; decide), fun p73 np73 => gen_heap np73 fun H74 sH74 hp73 => ?_⟩
    have h75 := (sH74 _ _ (sH71 _ _ hp68))
    have h76 := (sH74 _ _ (sH71 _ _ (sH69 _ _ (sH67 _ _ (sH65 _ _ (sH63 _ _ hp60))))))
    have h77 := (sH74 _ _ (sH71 _ _ (sH69 _ _ (sH67 _ _ (sH65 _ _ hp62)))))
    have h78 := (sH74 _ _ (sH71 _ _ (sH69 _ _ hp66)))
    have h79 := (sH74 _ _ (sH71 _ _ (sH69 _ _ (sH67 _ _ hp64))))
    have h80 := (sH74 _ _ (sH71 _ _ (sH69 _ _ (sH67 _ _ (sH65 _ _ (sH63 _ _ (sH61 _ _ hp58)))))))
    have h81 := (sH74 _ _ (sH71 _ _ (sH69 _ _ (sH67 _ _ (sH65 _ _ (sH63 _ _ (sH61 _ _ (sH59 _ _ (sH57 _ _ (sH55 _ _ (sH53 _ _ hp50)))))))))))
    have h82 := (sH74 _ _ (sH71 _ _ (sH69 _ _ (sH67 _ _ (sH65 _ _ (sH63 _ _ (sH61 _ _ (sH59 _ _ (sH57 _ _ (sH55 _ _ hp52))))))))))
    have h83 := (sH74 _ _ (sH71 _ _ (sH69 _ _ (sH67 _ _ (sH65 _ _ (sH63 _ _ (sH61 _ _ (sH59 _ _ hp56))))))))
    have h84 := (sH74 _ _ (sH71 _ _ (sH69 _ _ (sH67 _ _ (sH65 _ _ (sH63 _ _ (sH61 _ _ (sH59 _ _ (sH57 _ _ hp54)))))))))
    have h85 := (sH74 _ _ (sH71 _ _ (sH69 _ _ (sH67 _ _ (sH65 _ _ (sH63 _ _ (sH61 _ _ (sH59 _ _ (sH57 _ _ (sH55 _ _ (sH53 _ _ (sH51 _ _ (sH49 _ _ (sH46 _ _ hp43))))))))))))))
    have h86 := (sH74 _ _ (sH71 _ _ (sH69 _ _ (sH67 _ _ (sH65 _ _ (sH63 _ _ (sH61 _ _ (sH59 _ _ (sH57 _ _ (sH55 _ _ (sH53 _ _ (sH51 _ _ (sH49 _ _ (sH46 _ _ (sH44 _ _ (sH42 _ _ (sH40 _ _ (sH38 _ _ hp35))))))))))))))))))
    have h87 := (sH74 _ _ (sH71 _ _ (sH69 _ _ (sH67 _ _ (sH65 _ _ (sH63 _ _ (sH61 _ _ (sH59 _ _ (sH57 _ _ (sH55 _ _ (sH53 _ _ (sH51 _ _ (sH49 _ _ (sH46 _ _ (sH44 _ _ (sH42 _ _ (sH40 _ _ hp37)))))))))))))))))
    have h88 := (sH74 _ _ (sH71 _ _ (sH69 _ _ (sH67 _ _ (sH65 _ _ (sH63 _ _ (sH61 _ _ (sH59 _ _ (sH57 _ _ (sH55 _ _ (sH53 _ _ (sH51 _ _ (sH49 _ _ (sH46 _ _ (sH44 _ _ hp41)))))))))))))))
    have h89 := (sH74 _ _ (sH71 _ _ (sH69 _ _ (sH67 _ _ (sH65 _ _ (sH63 _ _ (sH61 _ _ (sH59 _ _ (sH57 _ _ (sH55 _ _ (sH53 _ _ (sH51 _ _ (sH49 _ _ (sH46 _ _ (sH44 _ _ (sH42 _ _ hp39))))))))))))))))
    have h90 := (sH74 _ _ (sH71 _ _ (sH69 _ _ (sH67 _ _ (sH65 _ _ (sH63 _ _ (sH61 _ _ (sH59 _ _ (sH57 _ _ (sH55 _ _ (sH53 _ _ (sH51 _ _ (sH49 _ _ (sH46 _ _ (sH44 _ _ (sH42 _ _ (sH40 _ _ (sH38 _ _ (sH36 _ _ hp33)))))))))))))))))))
    have h91 := (sH74 _ _ (sH71 _ _ (sH69 _ _ (sH67 _ _ (sH65 _ _ (sH63 _ _ (sH61 _ _ (sH59 _ _ (sH57 _ _ (sH55 _ _ (sH53 _ _ (sH51 _ _ (sH49 _ _ (sH46 _ _ (sH44 _ _ (sH42 _ _ (sH40 _ _ (sH38 _ _ (sH36 _ _ (sH34 _ _ (sH32 _ _ (sH30 _ _ (sH28 _ _ hp25)))))))))))))))))))))))
    have h92 := (sH74 _ _ (sH71 _ _ (sH69 _ _ (sH67 _ _ (sH65 _ _ (sH63 _ _ (sH61 _ _ (sH59 _ _ (sH57 _ _ (sH55 _ _ (sH53 _ _ (sH51 _ _ (sH49 _ _ (sH46 _ _ (sH44 _ _ (sH42 _ _ (sH40 _ _ (sH38 _ _ (sH36 _ _ (sH34 _ _ (sH32 _ _ (sH30 _ _ hp27))))))))))))))))))))))
    have h93 := (sH74 _ _ (sH71 _ _ (sH69 _ _ (sH67 _ _ (sH65 _ _ (sH63 _ _ (sH61 _ _ (sH59 _ _ (sH57 _ _ (sH55 _ _ (sH53 _ _ (sH51 _ _ (sH49 _ _ (sH46 _ _ (sH44 _ _ (sH42 _ _ (sH40 _ _ (sH38 _ _ (sH36 _ _ (sH34 _ _ hp31))))))))))))))))))))
    have h94 := (sH74 _ _ (sH71 _ _ (sH69 _ _ (sH67 _ _ (sH65 _ _ (sH63 _ _ (sH61 _ _ (sH59 _ _ (sH57 _ _ (sH55 _ _ (sH53 _ _ (sH51 _ _ (sH49 _ _ (sH46 _ _ (sH44 _ _ (sH42 _ _ (sH40 _ _ (sH38 _ _ (sH36 _ _ (sH34 _ _ (sH32 _ _ hp29)))))))))))))))))))))
    have h95 := (sH74 _ _ (sH71 _ _ (sH69 _ _ (sH67 _ _ (sH65 _ _ (sH63 _ _ (sH61 _ _ (sH59 _ _ (sH57 _ _ (sH55 _ _ (sH53 _ _ (sH51 _ _ (sH49 _ _ (sH46 _ _ (sH44 _ _ (sH42 _ _ (sH40 _ _ (sH38 _ _ (sH36 _ _ (sH34 _ _ (sH32 _ _ (sH30 _ _ (sH28 _ _ (sH26 _ _ (sH24 _ _ hp21)))))))))))))))))))))))))
    have h96 := (sH74 _ _ (sH71 _ _ (sH69 _ _ (sH67 _ _ (sH65 _ _ (sH63 _ _ (sH61 _ _ (sH59 _ _ (sH57 _ _ (sH55 _ _ (sH53 _ _ (sH51 _ _ (sH49 _ _ (sH46 _ _ (sH44 _ _ (sH42 _ _ (sH40 _ _ (sH38 _ _ (sH36 _ _ (sH34 _ _ (sH32 _ _ (sH30 _ _ (sH28 _ _ (sH26 _ _ (sH24 _ _ (sH22 _ _ (sH20 _ _ (sH18 _ _ (sH16 _ _ hp13)))))))))))))))))))))))))))))
    have h97 := (sH74 _ _ (sH71 _ _ (sH69 _ _ (sH67 _ _ (sH65 _ _ (sH63 _ _ (sH61 _ _ (sH59 _ _ (sH57 _ _ (sH55 _ _ (sH53 _ _ (sH51 _ _ (sH49 _ _ (sH46 _ _ (sH44 _ _ (sH42 _ _ (sH40 _ _ (sH38 _ _ (sH36 _ _ (sH34 _ _ (sH32 _ _ (sH30 _ _ (sH28 _ _ (sH26 _ _ (sH24 _ _ (sH22 _ _ (sH20 _ _ (sH18 _ _ hp15))))))))))))))))))))))))))))
    have h98 := (sH74 _ _ (sH71 _ _ (sH69 _ _ (sH67 _ _ (sH65 _ _ (sH63 _ _ (sH61 _ _ (sH59 _ _ (sH57 _ _ (sH55 _ _ (sH53 _ _ (sH51 _ _ (sH49 _ _ (sH46 _ _ (sH44 _ _ (sH42 _ _ (sH40 _ _ (sH38 _ _ (sH36 _ _ (sH34 _ _ (sH32 _ _ (sH30 _ _ (sH28 _ _ (sH26 _ _ (sH24 _ _ (sH22 _ _ hp19))))))))))))))))))))))))))
    have h99 := (sH74 _ _ (sH71 _ _ (sH69 _ _ (sH67 _ _ (sH65 _ _ (sH63 _ _ (sH61 _ _ (sH59 _ _ (sH57 _ _ (sH55 _ _ (sH53 _ _ (sH51 _ _ (sH49 _ _ (sH46 _ _ (sH44 _ _ (sH42 _ _ (sH40 _ _ (sH38 _ _ (sH36 _ _ (sH34 _ _ (sH32 _ _ (sH30 _ _ (sH28 _ _ (sH26 _ _ (sH24 _ _ (sH22 _ _ (sH20 _ _ hp17)))))))))))))))))))))))))))
    have h100 := (sH74 _ _ (sH71 _ _ (sH69 _ _ (sH67 _ _ (sH65 _ _ (sH63 _ _ (sH61 _ _ (sH59 _ _ (sH57 _ _ (sH55 _ _ (sH53 _ _ (sH51 _ _ (sH49 _ _ (sH46 _ _ (sH44 _ _ (sH42 _ _ (sH40 _ _ (sH38 _ _ (sH36 _ _ (sH34 _ _ (sH32 _ _ (sH30 _ _ (sH28 _ _ (sH26 _ _ (sH24 _ _ (sH22 _ _ (sH20 _ _ (sH18 _ _ (sH16 _ _ (sH14 _ _ hp11))))))))))))))))))))))))))))))
    have h101 := (sH74 _ _ (sH71 _ _ (sH69 _ _ (sH67 _ _ (sH65 _ _ (sH63 _ _ (sH61 _ _ (sH59 _ _ (sH57 _ _ (sH55 _ _ (sH53 _ _ (sH51 _ _ (sH49 _ _ (sH46 _ _ (sH44 _ _ (sH42 _ _ (sH40 _ _ (sH38 _ _ (sH36 _ _ (sH34 _ _ (sH32 _ _ (sH30 _ _ (sH28 _ _ (sH26 _ _ (sH24 _ _ (sH22 _ _ (sH20 _ _ (sH18 _ _ (sH16 _ _ (sH14 _ _ (sH12 _ _ (sH10 _ _ (sH8 _ _ (sH6 _ _ hp3))))))))))))))))))))))))))))))))))
    have h102 := (sH74 _ _ (sH71 _ _ (sH69 _ _ (sH67 _ _ (sH65 _ _ (sH63 _ _ (sH61 _ _ (sH59 _ _ (sH57 _ _ (sH55 _ _ (sH53 _ _ (sH51 _ _ (sH49 _ _ (sH46 _ _ (sH44 _ _ (sH42 _ _ (sH40 _ _ (sH38 _ _ (sH36 _ _ (sH34 _ _ (sH32 _ _ (sH30 _ _ (sH28 _ _ (sH26 _ _ (sH24 _ _ (sH22 _ _ (sH20 _ _ (sH18 _ _ (sH16 _ _ (sH14 _ _ (sH12 _ _ (sH10 _ _ (sH8 _ _ hp5)))))))))))))))))))))))))))))))))
    have h103 := (sH74 _ _ (sH71 _ _ (sH69 _ _ (sH67 _ _ (sH65 _ _ (sH63 _ _ (sH61 _ _ (sH59 _ _ (sH57 _ _ (sH55 _ _ (sH53 _ _ (sH51 _ _ (sH49 _ _ (sH46 _ _ (sH44 _ _ (sH42 _ _ (sH40 _ _ (sH38 _ _ (sH36 _ _ (sH34 _ _ (sH32 _ _ (sH30 _ _ (sH28 _ _ (sH26 _ _ (sH24 _ _ (sH22 _ _ (sH20 _ _ (sH18 _ _ (sH16 _ _ (sH14 _ _ (sH12 _ _ hp9)))))))))))))))))))))))))))))))
    have h104 := (sH74 _ _ (sH71 _ _ (sH69 _ _ (sH67 _ _ (sH65 _ _ (sH63 _ _ (sH61 _ _ (sH59 _ _ (sH57 _ _ (sH55 _ _ (sH53 _ _ (sH51 _ _ (sH49 _ _ (sH46 _ _ (sH44 _ _ (sH42 _ _ (sH40 _ _ (sH38 _ _ (sH36 _ _ (sH34 _ _ (sH32 _ _ (sH30 _ _ (sH28 _ _ (sH26 _ _ (sH24 _ _ (sH22 _ _ (sH20 _ _ (sH18 _ _ (sH16 _ _ (sH14 _ _ (sH12 _ _ (sH10 _ _ hp7))))))))))))))))))))))))))))))))
    have hL : ∀ x ∈ [V.ref p11, V.ref p21, V.ref p33, V.ref p43, V.ref p58, V.ref p68], LCase H74 x := (each_cons ⟨p11, p3, p5, p9, p7, ([5, 1, n] : List Int), ([true] : List Bool), 5, 0, ([1, n] : List Int), rfl, h100, h101, h102, h103, h104, ⟨by show 3 ≤ 12; decide, fun z hz => by simp only [List.mem_cons, List.not_mem_nil, or_false] at hz; omega⟩, (by show 1 ≤ 3; decide), (by simp [ledR, coinOf, lowOf]), rfl⟩ (each_cons ⟨p21, p13, p15, p19, p17, ([5, 1, n] : List Int), ([] : List Bool), 0, 0, ([5, 1, n] : List Int), rfl, h95, h96, h97, h98, h99, ⟨by show 3 ≤ 12; decide, fun z hz => by simp only [List.mem_cons, List.not_mem_nil, or_false] at hz; omega⟩, (by show 0 ≤ 3; decide), (by simp [ledR, coinOf, lowOf]), rfl⟩ (each_cons ⟨p33, p25, p27, p31, p29, ([5, 1, n] : List Int), ([true, false, true] : List Bool), 6, n, ([] : List Int), rfl, h90, h91, h92, h93, h94, ⟨by show 3 ≤ 12; decide, fun z hz => by simp only [List.mem_cons, List.not_mem_nil, or_false] at hz; omega⟩, (by show 3 ≤ 3; decide), (by simp [ledR, coinOf, lowOf]), rfl⟩ (each_cons ⟨p43, p35, p37, p41, p39, ([] : List Int), ([] : List Bool), 0, 0, ([] : List Int), rfl, h85, h86, h87, h88, h89, ⟨by decide, fun z hz => (nomatch hz)⟩, (by show 0 ≤ 0; decide), (by simp [ledR, coinOf, lowOf]), rfl⟩ (each_cons ⟨p58, p50, p52, p56, p54, ([n] : List Int), ([false] : List Bool), n, 0, ([] : List Int), rfl, h80, h81, h82, h83, h84, ⟨by show 1 ≤ 12; decide, fun z hz => by simp only [List.mem_cons, List.not_mem_nil, or_false] at hz; omega⟩, (by show 1 ≤ 1; decide), (by simp [ledR, coinOf, lowOf]), rfl⟩ (each_cons ⟨p68, p60, p62, p66, p64, ([5, 1, n] : List Int), ([false, true] : List Bool), n, 5, ([1] : List Int), rfl, h75, h76, h77, h78, h79, ⟨by show 3 ≤ 12; decide, fun z hz => by simp only [List.mem_cons, List.not_mem_nil, or_false] at hz; omega⟩, (by show 2 ≤ 3; decide), (by simp [ledR, coinOf, lowOf]), rfl⟩ each_nil))))))
    refine ⟨_, rfl, p73, rfl, ⟨_, SqL.of hp73⟩, fun D nD => ?_⟩
    refine lc_list (K := K) (a := p73) (xs := [V.ref p11, V.ref p21, V.ref p33, V.ref p43, V.ref p58, V.ref p68]) (fun i Hx => Same H74 Hx ∧ Hx D = some (.lst (List.replicate i (V.bl false)))) ⟨same_new nD _, upd_same⟩ (fun i Hx _ h => SqL.of (h.1 _ _ hp73)) ?_ ?_
    · rintro i x Hx hi ⟨sx, hD⟩
      have hil : i < 6 := (List.getElem?_eq_some_iff.mp hi).1
      obtain ⟨q', r, t, d, l, ns, bs, a, b, zs, rfl, hq, hr', ht, hd, hl, ok, hle, hled, hst⟩ := (hL x (List.mem_of_getElem? hi)).mono sx
      refine ⟨q', _, rfl, SqT.of hq, rfl, _, _, rfl, _, _, rfl, _, _, rfl, rfl, rfl, ?_⟩
      refine ⟨_, rfl, _, rfl, _, _, rfl, .inr ⟨ns, ⟨r, rfl, SqL.of hr', ok⟩, .inr ⟨t, bs, rfl, SqL.of ht, hle, fun Hy p l2 sy np nl hp hl2 => ?_⟩⟩⟩
      rw [hled] at hp
      rw [hst] at hl2
      have shp : SeqAt.shaped (.tuple [.int a, .int b, .list ((zs.map V.int).map vD)]) = true := (Sh.tuple (.cons (sh_flat (x := V.int a) rfl 1) (.cons (sh_flat (x := V.int b) rfl 1) (.cons (Sh.list (sha_flat (ok_ints zs) 0)) (.nil 1))))).shaped (by decide)
      refine ⟨_, rfl, .tuple [.int a, .int b, .list ((zs.map V.int).map vD)], .tuple [.int a, .int b, .list ((zs.map V.int).map vD)], .tup (SqT.of hp) (.cons (.int _) (.cons (.int _) (.cons (dp_lst (SqL.of hl2) (ok_ints zs)) .nil))), .tup (SqT.of (sy _ _ hd)) (.cons (.int _) (.cons (.int _) (.cons (dp_lst (SqL.of (sy _ _ hl)) (ok_ints zs)) .nil))), shp, shp, ?_⟩
      rw [eqv_same shp]
      exact rp_step nD sx hD sy (by omega)
    rintro Hd ⟨sd, hD⟩
    rw [rep_bl] at hD
    refine ⟨D, _, rfl, SqL.of hD, _, rfl, ?_⟩
    rw [any_false]
    refine iteF ?_
    refine ⟨Nat.zero_le _, fun p105 np105 => gen_heap np105 fun H106 sH106 hp105 => ?_⟩
    refine ⟨Nat.zero_le _, fun p107 np107 => gen_heap np107 fun H108 sH108 hp107 => ?_⟩
    refine ⟨(by show 4 ≤ sizeLine; decide), fun p109 np109 => gen_heap np109 fun H110 sH110 hp109 => ?_⟩
    refine ⟨_, rfl, (by show 1 ≤ sizeLine; decide), fun p111 np111 => gen_heap np111 fun H112 sH112 hp111 => ?_⟩
    refine ⟨_, rfl, _, rfl, _, rfl, (by show 2 ≤ sizeLine; decide), fun p113 np113 => gen_heap np113 fun H114 sH114 hp113 => ?_⟩
    refine ⟨(by show 4 ≤ sizeLine; decide), fun p115 np115 => gen_heap np115 fun H116 sH116 hp115 => ?_⟩
    refine ⟨(by show 2 ≤ sizeLine; decide), fun p117 np117 => gen_heap np117 fun H118 sH118 hp117 => ?_⟩
    refine ⟨_, rfl, (by show 1 ≤ sizeLine; decide), fun p119 np119 => gen_heap np119 fun H120 sH120 hp119 => ?_⟩
    refine ⟨(by show 4 ≤ sizeLine; decide), fun p121 np121 => gen_heap np121 fun H122 sH122 hp121 => ?_⟩
    refine ⟨(by show 3 ≤ sizeLine; decide), fun p123 np123 => gen_heap np123 fun H124 sH124 hp123 => ?_⟩
    refine ⟨_, rfl, (by show 2 ≤ sizeLine; decide), fun p125 np125 => gen_heap np125 fun H126 sH126 hp125 => ?_⟩
    refine ⟨_, rfl, _, rfl, (by show 2 ≤ sizeLine; decide), fun p127 np127 => gen_heap np127 fun H128 sH128 hp127 => ?_⟩
    refine ⟨(by show 4 ≤ sizeLine; decide), fun p129 np129 => gen_heap np129 fun H130 sH130 hp129 => ?_⟩
    refine ⟨(by show 3 ≤ sizeLine; decide), fun p131 np131 => gen_heap np131 fun H132 sH132 hp131 => ?_⟩
    refine ⟨_, rfl, (by show 1 ≤ sizeLine; decide), fun p133 np133 => gen_heap np133 fun H134 sH134 hp133 => ?_⟩
    refine ⟨(by show 4 ≤ sizeLine; decide), fun p135 np135 => gen_heap np135 fun H136 sH136 hp135 => ?_⟩
    refine ⟨(by show 2 ≤ sizeLine; decide), fun p137 np137 => gen_heap np137 fun H138 sH138 hp137 => ?_⟩
    have h139 := (sH138 _ _ (sH136 _ _ (sH134 _ _ (sH132 _ _ (sH130 _ _ (sH128 _ _ (sH126 _ _ hp123)))))))
    refine ⟨p123, p137, _, _, rfl, rfl, h139, hp137, (by show 3 + 2 ≤ sizeLine; decide), fun p140 np140 => gen_heap np140 fun H141 sH141 hp140 => ?_⟩
    refine ⟨_, rfl, (by show 3 ≤ sizeLine; decide), fun p142 np142 => gen_heap np142 fun H143 sH143 hp142 => ?_⟩
    refine ⟨_, rfl, _, rfl, _, rfl, (by show 2 ≤ sizeLine; decide), fun p144 np144 => gen_heap np144 fun H145 sH145 hp144 => ?_⟩
    refine ⟨(by show 4 ≤ sizeLine; decide), fun p146 np146 => gen_heap np146 fun H147 sH147 hp146 => ?_⟩
    refine ⟨(by show 3 ≤ sizeLine; decide), fun p148 np148 => gen_heap np148 fun H149 sH149 hp148 => ?_⟩
    refine ⟨_, rfl, _, rfl, (by show 2 ≤ sizeLine; decide), fun p150 np150 => gen_heap np150 fun H151 sH151 hp150 => ?_⟩
    refine ⟨(by show 4 ≤ sizeLine; decide), fun p152 np152 => gen_heap np152 fun H153 sH153 hp152 => ?_⟩
    refine ⟨(by show 2 ≤ sizeLine; decide), fun p154 np154 => gen_heap np154 fun H155 sH155 hp154 => ?_⟩
    have h156 := (sH155 _ _ (sH153 _ _ (sH151 _ _ (sH149 _ _ (sH147 _ _ (sH145 _ _ (sH143 _ _ hp140)))))))
    refine ⟨p140, p154, _, _, rfl, rfl, h156, hp154, (by show 5 + 2 ≤ sizeLine; decide), fun p157 np157 => gen_heap np157 fun H158 sH158 hp157 => ?_⟩
    refine ⟨_, rfl, _, rfl, (by show 2 ≤ sizeLine; decide), fun p159 np159 => gen_heap np159 fun H160 sH160 hp159 => ?_⟩
    refine ⟨_, rfl, _, rfl, (by show 1 ≤ sizeLine; decide), fun p161 np161 => gen_heap np161 fun H162 sH162 hp161 => ?_⟩
    refine ⟨(by show 4 ≤ sizeLine; decide), fun p163 np163 => gen_heap np163 fun H164 sH164 hp163 => ?_⟩
    refine ⟨(by show 3 ≤ sizeLine; decide), fun p165 np165 => gen_heap np165 fun H166 sH166 hp165 => ?_⟩
    refine ⟨_, rfl, _, rfl, (by show 2 ≤ sizeLine; decide), fun p167 np167 => gen_heap np167 fun H168 sH168 hp167 => ?_⟩
    refine ⟨(by show 4 ≤ sizeLine; decide), fun p169 np169 => gen_heap np169 fun H170 sH170 hp169 => ?_⟩
    refine ⟨(by show 2 ≤ sizeLine; decide), fun p171 np171 => gen_heap np171 fun H172 sH172 hp171 => ?_⟩
    have h173 := (sH172 _ _ (sH170 _ _ (sH168 _ _ (sH166 _ _ (sH164 _ _ (sH162 _ _ (sH160 _ _ hp157)))))))
    refine ⟨p157, p171, _, _, rfl, rfl, h173, hp171, (by show 7 + 2 ≤ sizeLine; decide), fun p174 np174 => gen_heap np174 fun H175 sH175 hp174 => ?_⟩
    have h176 := (sH175 _ _ (sH172 _ _ hp169))
    have h177 := (sH175 _ _ (sH172 _ _ (sH170 _ _ (sH168 _ _ hp165))))
    have h178 := (sH175 _ _ (sH172 _ _ (sH170 _ _ hp167)))
    have h179 := (sH175 _ _ (sH172 _ _ (sH170 _ _ (sH168 _ _ (sH166 _ _ hp163)))))
    have h180 := (sH175 _ _ (sH172 _ _ (sH170 _ _ (sH168 _ _ (sH166 _ _ (sH164 _ _ (sH162 _ _ hp159)))))))
    have h181 := (sH175 _ _ (sH172 _ _ (sH170 _ _ (sH168 _ _ (sH166 _ _ (sH164 _ _ hp161))))))
    have h182 := (sH175 _ _ (sH172 _ _ (sH170 _ _ (sH168 _ _ (sH166 _ _ (sH164 _ _ (sH162 _ _ (sH160 _ _ (sH158 _ _ (sH155 _ _ hp152))))))))))
    have h183 := (sH175 _ _ (sH172 _ _ (sH170 _ _ (sH168 _ _ (sH166 _ _ (sH164 _ _ (sH162 _ _ (sH160 _ _ (sH158 _ _ (sH155 _ _ (sH153 _ _ (sH151 _ _ hp148))))))))))))
    have h184 := (sH175 _ _ (sH172 _ _ (sH170 _ _ (sH168 _ _ (sH166 _ _ (sH164 _ _ (sH162 _ _ (sH160 _ _ (sH158 _ _ (sH155 _ _ (sH153 _ _ hp150)))))))))))
    have h185 := (sH175 _ _ (sH172 _ _ (sH170 _ _ (sH168 _ _ (sH166 _ _ (sH164 _ _ (sH162 _ _ (sH160 _ _ (sH158 _ _ (sH155 _ _ (sH153 _ _ (sH151 _ _ (sH149 _ _ hp146)))))))))))))
    have h186 := (sH175 _ _ (sH172 _ _ (sH170 _ _ (sH168 _ _ (sH166 _ _ (sH164 _ _ (sH162 _ _ (sH160 _ _ (sH158 _ _ (sH155 _ _ (sH153 _ _ (sH151 _ _ (sH149 _ _ (sH147 _ _ (sH145 _ _ hp142)))))))))))))))
    have h187 := (sH175 _ _ (sH172 _ _ (sH170 _ _ (sH168 _ _ (sH166 _ _ (sH164 _ _ (sH162 _ _ (sH160 _ _ (sH158 _ _ (sH155 _ _ (sH153 _ _ (sH151 _ _ (sH149 _ _ (sH147 _ _ hp144))))))))))))))
    have h188 := (sH175 _ _ (sH172 _ _ (sH170 _ _ (sH168 _ _ (sH166 _ _ (sH164 _ _ (sH162 _ _ (sH160 _ _ (sH158 _ _ (sH155 _ _ (sH153 _ _ (sH151 _ _ (sH149 _ _ (sH147 _ _ (sH145 _ _ (sH143 _ _ (sH141 _ _ (sH138 _ _ hp135))))))))))))))))))
    have h189 := (sH175 _ _ (sH172 _ _ (sH170 _ _ (sH168 _ _ (sH166 _ _ (sH164 _ _ (sH162 _ _ (sH160 _ _ (sH158 _ _ (sH155 _ _ (sH153 _ _ (sH151 _ _ (sH149 _ _ (sH147 _ _ (sH145 _ _ (sH143 _ _ (sH141 _ _ (sH138 _ _ (sH136 _ _ (sH134 _ _ hp131))))))))))))))))))))
    have h190 := (sH175 _ _ (sH172 _ _ (sH170 _ _ (sH168 _ _ (sH166 _ _ (sH164 _ _ (sH162 _ _ (sH160 _ _ (sH158 _ _ (sH155 _ _ (sH153 _ _ (sH151 _ _ (sH149 _ _ (sH147 _ _ (sH145 _ _ (sH143 _ _ (sH141 _ _ (sH138 _ _ (sH136 _ _ hp133)))))))))))))))))))
    have h191 := (sH175 _ _ (sH172 _ _ (sH170 _ _ (sH168 _ _ (sH166 _ _ (sH164 _ _ (sH162 _ _ (sH160 _ _ (sH158 _ _ (sH155 _ _ (sH153 _ _ (sH151 _ _ (sH149 _ _ (sH147 _ _ (sH145 _ _ (sH143 _ _ (sH141 _ _ (sH138 _ _ (sH136 _ _ (sH134 _ _ (sH132 _ _ hp129)))))))))))))))))))))
    have h192 := (sH175 _ _ (sH172 _ _ (sH170 _ _ (sH168 _ _ (sH166 _ _ (sH164 _ _ (sH162 _ _ (sH160 _ _ (sH158 _ _ (sH155 _ _ (sH153 _ _ (sH151 _ _ (sH149 _ _ (sH147 _ _ (sH145 _ _ (sH143 _ _ (sH141 _ _ (sH138 _ _ (sH136 _ _ (sH134 _ _ (sH132 _ _ (sH130 _ _ (sH128 _ _ hp125)))))))))))))))))))))))
    have h193 := (sH175 _ _ (sH172 _ _ (sH170 _ _ (sH168 _ _ (sH166 _ _ (sH164 _ _ (sH162 _ _ (sH160 _ _ (sH158 _ _ (sH155 _ _ (sH153 _ _ (sH151 _ _ (sH149 _ _ (sH147 _ _ (sH145 _ _ (sH143 _ _ (sH141 _ _ (sH138 _ _ (sH136 _ _ (sH134 _ _ (sH132 _ _ (sH130 _ _ hp127))))))))))))))))))))))
    have h194 := (sH175 _ _ (sH172 _ _ (sH170 _ _ (sH168 _ _ (sH166 _ _ (sH164 _ _ (sH162 _ _ (sH160 _ _ (sH158 _ _ (sH155 _ _ (sH153 _ _ (sH151 _ _ (sH149 _ _ (sH147 _ _ (sH145 _ _ (sH143 _ _ (sH141 _ _ (sH138 _ _ (sH136 _ _ (sH134 _ _ (sH132 _ _ (sH130 _ _ (sH128 _ _ (sH126 _ _ (sH124 _ _ hp121)))))))))))))))))))))))))
    have h195 := (sH175 _ _ (sH172 _ _ (sH170 _ _ (sH168 _ _ (sH166 _ _ (sH164 _ _ (sH162 _ _ (sH160 _ _ (sH158 _ _ (sH155 _ _ (sH153 _ _ (sH151 _ _ (sH149 _ _ (sH147 _ _ (sH145 _ _ (sH143 _ _ (sH141 _ _ (sH138 _ _ (sH136 _ _ (sH134 _ _ (sH132 _ _ (sH130 _ _ (sH128 _ _ (sH126 _ _ (sH124 _ _ (sH122 _ _ (sH120 _ _ hp117)))))))))))))))))))))))))))
    have h196 := (sH175 _ _ (sH172 _ _ (sH170 _ _ (sH168 _ _ (sH166 _ _ (sH164 _ _ (sH162 _ _ (sH160 _ _ (sH158 _ _ (sH155 _ _ (sH153 _ _ (sH151 _ _ (sH149 _ _ (sH147 _ _ (sH145 _ _ (sH143 _ _ (sH141 _ _ (sH138 _ _ (sH136 _ _ (sH134 _ _ (sH132 _ _ (sH130 _ _ (sH128 _ _ (sH126 _ _ (sH124 _ _ (sH122 _ _ hp119))))))))))))))))))))))))))
    have h197 := (sH175 _ _ (sH172 _ _ (sH170 _ _ (sH168 _ _ (sH166 _ _ (sH164 _ _ (sH162 _ _ (sH160 _ _ (sH158 _ _ (sH155 _ _ (sH153 _ _ (sH151 _ _ (sH149 _ _ (sH147 _ _ (sH145 _ _ (sH143 _ _ (sH141 _ _ (sH138 _ _ (sH136 _ _ (sH134 _ _ (sH132 _ _ (sH130 _ _ (sH128 _ _ (sH126 _ _ (sH124 _ _ (sH122 _ _ (sH120 _ _ (sH118 _ _ hp115))))))))))))))))))))))))))))
    have h198 := (sH175 _ _ (sH172 _ _ (sH170 _ _ (sH168 _ _ (sH166 _ _ (sH164 _ _ (sH162 _ _ (sH160 _ _ (sH158 _ _ (sH155 _ _ (sH153 _ _ (sH151 _ _ (sH149 _ _ (sH147 _ _ (sH145 _ _ (sH143 _ _ (sH141 _ _ (sH138 _ _ (sH136 _ _ (sH134 _ _ (sH132 _ _ (sH130 _ _ (sH128 _ _ (sH126 _ _ (sH124 _ _ (sH122 _ _ (sH120 _ _ (sH118 _ _ (sH116 _ _ (sH114 _ _ hp111))))))))))))))))))))))))))))))
    have h199 := (sH175 _ _ (sH172 _ _ (sH170 _ _ (sH168 _ _ (sH166 _ _ (sH164 _ _ (sH162 _ _ (sH160 _ _ (sH158 _ _ (sH155 _ _ (sH153 _ _ (sH151 _ _ (sH149 _ _ (sH147 _ _ (sH145 _ _ (sH143 _ _ (sH141 _ _ (sH138 _ _ (sH136 _ _ (sH134 _ _ (sH132 _ _ (sH130 _ _ (sH128 _ _ (sH126 _ _ (sH124 _ _ (sH122 _ _ (sH120 _ _ (sH118 _ _ (sH116 _ _ hp113)))))))))))))))))))))))))))))
    have h200 := (sH175 _ _ (sH172 _ _ (sH170 _ _ (sH168 _ _ (sH166 _ _ (sH164 _ _ (sH162 _ _ (sH160 _ _ (sH158 _ _ (sH155 _ _ (sH153 _ _ (sH151 _ _ (sH149 _ _ (sH147 _ _ (sH145 _ _ (sH143 _ _ (sH141 _ _ (sH138 _ _ (sH136 _ _ (sH134 _ _ (sH132 _ _ (sH130 _ _ (sH128 _ _ (sH126 _ _ (sH124 _ _ (sH122 _ _ (sH120 _ _ (sH118 _ _ (sH116 _ _ (sH114 _ _ (sH112 _ _ hp109)))))))))))))))))))))))))))))))
    have h201 := (sH175 _ _ (sH172 _ _ (sH170 _ _ (sH168 _ _ (sH166 _ _ (sH164 _ _ (sH162 _ _ (sH160 _ _ (sH158 _ _ (sH155 _ _ (sH153 _ _ (sH151 _ _ (sH149 _ _ (sH147 _ _ (sH145 _ _ (sH143 _ _ (sH141 _ _ (sH138 _ _ (sH136 _ _ (sH134 _ _ (sH132 _ _ (sH130 _ _ (sH128 _ _ (sH126 _ _ (sH124 _ _ (sH122 _ _ (sH120 _ _ (sH118 _ _ (sH116 _ _ (sH114 _ _ (sH112 _ _ (sH110 _ _ (sH108 _ _ hp105)))))))))))))))))))))))))))))))))
    have h202 := (sH175 _ _ (sH172 _ _ (sH170 _ _ (sH168 _ _ (sH166 _ _ (sH164 _ _ (sH162 _ _ (sH160 _ _ (sH158 _ _ (sH155 _ _ (sH153 _ _ (sH151 _ _ (sH149 _ _ (sH147 _ _ (sH145 _ _ (sH143 _ _ (sH141 _ _ (sH138 _ _ (sH136 _ _ (sH134 _ _ (sH132 _ _ (sH130 _ _ (sH128 _ _ (sH126 _ _ (sH124 _ _ (sH122 _ _ (sH120 _ _ (sH118 _ _ (sH116 _ _ (sH114 _ _ (sH112 _ _ (sH110 _ _ hp107))))))))))))))))))))))))))))))))
    have hR : ∀ x ∈ [V.ref p109, V.ref p115, V.ref p121, V.ref p129, V.ref p135, V.ref p146, V.ref p152, V.ref p163, V.ref p169], RCase H175 x := (each_cons ⟨p109, p105, p107, ([] : List Int), 0, ([] : List Bool), 1, rfl, h200, h201, h202, ⟨by decide, fun z hz => (nomatch hz)⟩, (by decide +kernel), (by decide +kernel), (by decide +kernel)⟩ (each_cons ⟨p115, p111, p113, ([n] : List Int), n, ([true, false] : List Bool), 2, rfl, h197, h198, h199, ⟨by show 1 ≤ 12; decide, fun z hz => by simp only [List.mem_cons, List.not_mem_nil, or_false] at hz; omega⟩, (wv_one n), (one_ends _ _), (by unfold many; rw [show plays [n] ([n] : List Int).length 0 = plays [n] 1 0 from rfl, plays_one]; rfl)⟩ (each_cons ⟨p121, p117, p119, ([1, 2] : List Int), 1, ([false] : List Bool), 2, rfl, h194, h195, h196, ⟨by show 2 ≤ 12; decide, fun z hz => by simp only [List.mem_cons, List.not_mem_nil, or_false] at hz; omega⟩, (by decide +kernel), (by decide +kernel), (by decide +kernel)⟩ (each_cons ⟨p129, p125, p127, ([2, 2] : List Int), 0, ([true, false] : List Bool), 4, rfl, h191, h192, h193, ⟨by show 2 ≤ 12; decide, fun z hz => by simp only [List.mem_cons, List.not_mem_nil, or_false] at hz; omega⟩, (by decide +kernel), (by decide +kernel), (by decide +kernel)⟩ (each_cons ⟨p135, p131, p133, ([3, 1, 2] : List Int), 2, ([true] : List Bool), 2, rfl, h188, h189, h190, ⟨by show 3 ≤ 12; decide, fun z hz => by simp only [List.mem_cons, List.not_mem_nil, or_false] at hz; omega⟩, (by decide +kernel), (by decide +kernel), (by decide +kernel)⟩ (each_cons ⟨p146, p142, p144, ([1, 9, 1] : List Int), (-7), ([true, false] : List Bool), 4, rfl, h185, h186, h187, ⟨by show 3 ≤ 12; decide, fun z hz => by simp only [List.mem_cons, List.not_mem_nil, or_false] at hz; omega⟩, (by decide +kernel), (by decide +kernel), (by decide +kernel)⟩ (each_cons ⟨p152, p148, p150, ([0, 0, 0] : List Int), 0, ([true, false] : List Bool), 8, rfl, h182, h183, h184, ⟨by show 3 ≤ 12; decide, fun z hz => by simp only [List.mem_cons, List.not_mem_nil, or_false] at hz; omega⟩, (by decide +kernel), (by decide +kernel), (by decide +kernel)⟩ (each_cons ⟨p163, p159, p161, ([n, 0] : List Int), n, ([true] : List Bool), 2, rfl, h179, h180, h181, ⟨by show 2 ≤ 12; decide, fun z hz => by simp only [List.mem_cons, List.not_mem_nil, or_false] at hz; omega⟩, (by show wv [n, 0] 2 0 = n; rw [wv_two]; split <;> omega), (ends_two (by omega)), (by unfold many; rw [show plays [n, 0] ([n, 0] : List Int).length 0 = plays [n, 0] 2 0 from rfl, plays_two (by omega)]; rfl)⟩ (each_cons ⟨p169, p165, p167, ([2, 1, 2] : List Int), 1, ([true, false] : List Bool), 4, rfl, h176, h177, h178, ⟨by show 3 ≤ 12; decide, fun z hz => by simp only [List.mem_cons, List.not_mem_nil, or_false] at hz; omega⟩, (by decide +kernel), (by decide +kernel), (by decide +kernel)⟩ each_nil)))))))))
    have hT0 : Tabs (tabs A) H175 := hTb.ext (fun b o e => (sH175 _ _ (sH172 _ _ (sH170 _ _ (sH168 _ _ (sH166 _ _ (sH164 _ _ (sH162 _ _ (sH160 _ _ (sH158 _ _ (sH155 _ _ (sH153 _ _ (sH151 _ _ (sH149 _ _ (sH147 _ _ (sH145 _ _ (sH143 _ _ (sH141 _ _ (sH138 _ _ (sH136 _ _ (sH134 _ _ (sH132 _ _ (sH130 _ _ (sH128 _ _ (sH126 _ _ (sH124 _ _ (sH122 _ _ (sH120 _ _ (sH118 _ _ (sH116 _ _ (sH114 _ _ (sH112 _ _ (sH110 _ _ (sH108 _ _ (sH106 _ _ (sd _ _ (sH74 _ _ (sH71 _ _ (sH69 _ _ (sH67 _ _ (sH65 _ _ (sH63 _ _ (sH61 _ _ (sH59 _ _ (sH57 _ _ (sH55 _ _ (sH53 _ _ (sH51 _ _ (sH49 _ _ (sH46 _ _ (sH44 _ _ (sH42 _ _ (sH40 _ _ (sH38 _ _ (sH36 _ _ (sH34 _ _ (sH32 _ _ (sH30 _ _ (sH28 _ _ (sH26 _ _ (sH24 _ _ (sH22 _ _ (sH20 _ _ (sH18 _ _ (sH16 _ _ (sH14 _ _ (sH12 _ _ (sH10 _ _ (sH8 _ _ (sH6 _ _ (sH4 _ _ (sH2 _ _ e))))))))))))))))))))))))))))))))))))))))))))))))))))))))))))))))))))))))
    refine ⟨_, rfl, p174, rfl, ⟨_, SqL.of hp174⟩, ?_⟩
    refine for_list (K := K) (a := p174) (xs := [V.ref p109, V.ref p115, V.ref p121, V.ref p129, V.ref p135, V.ref p146, V.ref p152, V.ref p163, V.ref p169]) (fun i σ Hx => ∃ (x4 x5 x6 x7 x8 x9 x10 x11 x12 : Option V), σ = [some (V.int n), some (V.str "left"), some (V.str "right"), some (V.ref p174), x4, x5, x6, x7, x8, x9, x10, x11, x12, none, none] ∧ ExtN H175 Hx ∧ Tabs (tabs A) Hx) ⟨_, _, _, _, _, _, _, _, _, rfl, ExtN.refl _, hT0⟩ ?_ ?_ ?_
    · rintro i σ Hb _ ⟨x4, x5, x6, x7, x8, x9, x10, x11, x12, rfl, eb, _⟩
      exact SqL.of (extN_lst eb hp174)
    · rintro i y σ Hb hi ⟨x4, x5, x6, x7, x8, x9, x10, x11, x12, rfl, eb, hTb⟩
      obtain ⟨q', r, e, ns, due, es, m, rfl, hq, hr0, he, ok, hw, hes, hm⟩ := (hR y (List.mem_of_getElem? hi)).ext eb
      refine ⟨q', _, rfl, SqT.of hq, rfl, _, _, rfl, _, _, rfl, _, _, rfl, _, _, rfl, rfl, ?_⟩
      refine ⟨_, rfl, _, rfl, .inl ⟨ns, ⟨r, rfl, (SqL.of hr0), ok⟩, fun Hb1 sHb1 => ?_⟩⟩
      refine ⟨_, rfl, rfl, _, rfl, ?_⟩
      refine iteFb (not_t (decide_eq_true (congrArg V.int hw))) ?_
      have hb2 := (sHb1 _ _ hr0)
      refine ⟨_, rfl, _, rfl, .inl ⟨ns, ⟨r, rfl, (SqL.of hb2), ok⟩, fun Hb3 pb4 sHb3 npb4 hpb4 => ?_⟩⟩
      have hb5 := (sHb3 _ _ (sHb1 _ _ he))
      refine ⟨_, rfl, (PyData.list ((sidesV (ends ns ns.length 0)).map vD)), (PyData.list ((sidesV es).map vD)), (dp_lst (SqL.of hpb4) (sidesV_ok (ends ns ns.length 0))), (dp_lst (SqL.of hb5) (sidesV_ok es)), (Sh.list (sha_flat (sidesV_ok (ends ns ns.length 0)) 0)).shaped (by decide), (Sh.list (sha_flat (sidesV_ok es) 0)).shaped (by decide), _, rfl, ?_⟩
      refine iteFb (not_t (eqv_eq ((Sh.list (sha_flat (sidesV_ok (ends ns ns.length 0)) 0)).shaped (by decide)) (by rw [hes]))) ?_
      have hb6 := (sHb3 _ _ hb2)
      refine ⟨_, rfl, _, rfl, .inl ⟨ns, ⟨r, rfl, (SqL.of hb6), ok⟩, fun Hb7 sHb7 => ?_⟩⟩
      refine ⟨_, rfl, rfl, _, rfl, ?_⟩
      refine iteFb (not_t (decide_eq_true (congrArg V.int hm))) ?_
      have s1 : Same Hb Hb7 := (fun b o e => (sHb7 _ _ (sHb3 _ _ (sHb1 _ _ e))))
      have hr1 := s1 _ _ hr0
      have hT1 : Tabs (tabs A) Hb7 := hTb.ext s1
      have mle : 0 < m ∧ m ≤ 4096 := by
        have h1 := plays_pos ns ns.length 0
        have h2 := plays_le ns ns.length 0
        have h3 : 2 ^ ns.length ≤ 2 ^ 12 := Nat.pow_le_pow_right (by decide) ok.1
        unfold many at hm
        omega
      have mln : m.toNat = (plays ns ns.length 0).length := by
        unfold many at hm
        omega
      refine ⟨hT1, fun f c' Hl el _ hTl f0 nfc hf hc => ?_⟩
      have hrl := extN_lst el hr1
      refine ⟨_, rfl, .ref r, rfl, fun c o u hcell nc hod ru => ?_⟩
      have rc : r ≠ c := ne_of_none hrl nc
      have fc : f ≠ c := ne_of_none hf nc
      have cc : c' ≠ c := ne_of_none hc nc
      obtain ⟨D, sp, hD, hcall, hsp⟩ : ∃ (D : Hp) (sp : Sp), Same D (upd Hl c (CellO c o)) ∧ Callable P w K mg base 29 f D sp ∧ (∀ Q' E', (∀ H', Same (upd Hl c (CellO c o)) H' → E' (.ref A.C_BadNumber) none H') → sp [.int m] (upd Hl c (CellO c o)) Q' E') := by
        refine ⟨_, fun vs H Q E => vs = [.int m] ∧ H c = some (CellO c o) ∧ H r = some (.lst (ns.map V.int)) ∧ ∀ H', Same H H' → E (.ref A.C_BadNumber) none H', capD_sub ((upd_ne fc).trans hf) ((upd_ne cc).trans hc) upd_same, ?_, fun Q' E' h => ⟨rfl, upd_same, (upd_ne rc).trans hrl, h⟩⟩
        refine callable_cap (k := 28) (N := ["_law_it", "_law_row"]) (ps := ["_law_it"]) (y := "_law_row") (v := .ref r) (u := u) (nscope_by (by first | (dsimp only; decide +kernel) | rfl)) ?_ nfc fc cc hod ru (fun pm ctv us hl => match us, hl with | [_], _ => rfl) (fun vs H Q E h => by rw [h.1]; rfl) (fun A1 o1 s1 H1 vs1 Q1 E1 hr1 h1 => ?_)
        · show [(("_law_row" : Str), (List.lookup ("_law_row" : Str) _).getD 0)] = _
          rw [hcell]
          rfl
        · obtain ⟨rfl, hc1, hr1', h1⟩ := h1
          refine ⟨_, pe_call Gplay_by (hr1.mono (by first | decide | omega)) (by rfl) T.gplay_by T.Fplay_by.kp T.bplay_by .nil (passes_call (takes_of rfl rfl rfl rfl) (fun _ _ _ _ h => h)) (pa_cons (pv 1) (pa_cons (pv 0) pa_nil)), ?_⟩
          exact ⟨_, rfl, _, rfl, _, _, rfl, .inr ⟨ns, ⟨r, rfl, SqL.of ((lessH_ne rc).trans hr1'), ok⟩, .inl ⟨.inr ⟨m, rfl, by rw [hm]; omega⟩, fun H' s' => h1 _ (same_back hc1 s')⟩⟩⟩
      refine ⟨f, A.C_BadNumber, D, sp, .int m, 0, "number", rfl, hcall, hD, rfl, hsp, fun H' s' => ⟨s' _ _ upd_same, ?_⟩⟩
      have sw := same_gone nc s'
      generalize lessH H' c = Hw at sw ⊢
      refine ⟨rfl, _, rfl, iteFb (not_t (decide_eq_true rfl)) ?_⟩
      clear hsp hcall hD D sp
      have hrw := sw _ _ hrl
      -- the plays
      refine ⟨_, rfl, _, rfl, by omega, by omega, fun D nD => ?_⟩
      refine lc_range (lo := 0) (n := m.toNat) (fun i Hx => Same Hw Hx ∧ ∃ xs, Hx D = some (.lst xs) ∧ Lsts (hide D Hx) xs ((plays ns ns.length 0).take i)) ⟨same_new nD _, [], upd_same, .nil⟩ ?_ ?_
      · rintro i Hx hi ⟨sx, xs, hD, hL⟩
        have hil : i < (plays ns ns.length 0).length := by omega
        have hpl := List.getElem?_eq_getElem hil
        refine ⟨rfl, _, rfl, _, rfl, _, _, rfl, .inr ⟨ns, ⟨r, rfl, SqL.of (sx _ _ hrw), ok⟩, .inr ⟨i, _, congrArg V.int (Int.zero_add _), hpl, fun Hy p sy np hp => ?_⟩⟩⟩
        have hxl := hL.len
        have np' : p ≠ D := (ne_of_none hD np).symm
        refine ⟨xs, sy _ _ hD, ?_, fun b u e => ?_, xs ++ [.ref p], upd_same, ?_⟩
        · rw [hxl, List.length_take]
          exact size_lt (by omega)
        · rw [upd_ne (ne_of_none e nD)]
          exact sy _ _ (sx _ _ e)
        · rw [List.take_add_one, hpl]
          refine Lsts.app (.cons ?_ .nil) (hL.mono (hide_same (fun b u nb e => by rw [upd_ne nb]; exact sy _ _ e)))
          rw [hide_ne np', upd_ne np']
          exact hp
      rintro Hp1 ⟨sp1, xs, hD, hL⟩
      rw [mln, List.take_length] at hL
      have hL1 := hL.mono (hide_of D Hp1)
      -- sorted
      refine ⟨_, rfl, D, xs, kOf Hp1, rfl, SqL.of hD, lsts_dp hL1, alike9 hL1, sortable9 hL1, depth9 hL1, plays_le_data hL1, fun so nso => gen_heap nso fun Hs ss hso => ?_⟩
      have hL2 := hL1.mono ss
      have hDs := ss _ _ hD
      have shp : SeqAt.shaped (.list ((plays ns ns.length 0).map plD)) = true := (Sh.list (sha_lsts (plays ns ns.length 0))).shaped (by decide)
      refine ⟨_, rfl, _, _, .lst (SqL.of hso) (dps_lsts hL2), .lst (SqL.of hDs) (dps_lsts hL2), shp, shp, _, rfl, iteFb (not_t (eqv_same shp)) ?_⟩
      refine ⟨_, rfl, _, _, rfl, rfl, _, rfl, by omega, by omega, fun D2 nD2 => ?_⟩
      refine lc_range (lo := 0) (n := (m - 1).toNat) (fun i Hx => Same Hs Hx ∧ Hx D2 = some (.lst (List.replicate i (V.bl false)))) ⟨same_new nD2 _, upd_same⟩ ?_ ?_
      · rintro i Hx hi ⟨sx, hD2⟩
        have hi1 : i + 1 < (plays ns ns.length 0).length := by omega
        have g1 := List.getElem?_eq_getElem (Nat.lt_of_succ_lt hi1)
        have g2 := List.getElem?_eq_getElem hi1
        obtain ⟨q1, x1, h1⟩ := (hL2.mono sx).get g1
        obtain ⟨q2, x2, h2⟩ := (hL2.mono sx).get g2
        have hDx := sx _ _ hDs
        refine ⟨rfl, _, rfl, _, rfl, D, _, _, _, rfl, rfl, SqL.of hDx, (by rw [Int.zero_add]; exact atI_nat x1), _, rfl, _, rfl, _, _, rfl, rfl, D, _, _, _, rfl, rfl, SqL.of hDx, (by rw [show (0 : Int) + (i : Int) + 1 = ((i + 1 : Nat) : Int) by omega]; exact atI_nat x2), ?_⟩
        refine ⟨_, _, dp_play h1, dp_play h2, (sh_play _).shaped (by decide), (sh_play _).shaped (by decide), ?_⟩
        rw [eqv_sides, decide_eq_false (plays_ne g1 g2)]
        exact rp_step nD2 sx hD2 (Same.refl _) (by omega)
      rintro Hq ⟨sq, hD2⟩
      rw [rep_bl] at hD2
      refine ⟨D2, _, rfl, SqL.of hD2, _, rfl, ?_⟩
      rw [any_false]
      refine iteF ?_
      -- each play
      have hDq := sq _ _ hDs
      have hLq := hL2.mono sq
      have hrq := sq _ _ (ss _ _ (sp1 _ _ hrw))
      refine ⟨_, rfl, D, rfl, ⟨_, SqL.of hDq⟩, ?_⟩
      refine for_list (K := K) (a := D) (xs := xs) (fun i σ Hx => ∃ (y9 y10 y11 y12 : Option V), σ = [some (V.int n), some (V.str "left"), some (V.str "right"), some (V.ref p174), some (V.ref r), some (V.int due), some (V.ref e), some (V.int m), some (V.ref D), y9, y10, y11, y12, none, none] ∧ Same Hq Hx) ⟨_, _, _, _, rfl, Same.refl _⟩ ?_ ?_ ?_
      · rintro i σ Hx _ ⟨y9, y10, y11, y12, rfl, sx⟩
        exact SqL.of (sx _ _ hDq)
      · rintro i y σ Hx hi ⟨y9, y10, y11, y12, rfl, sx⟩
        obtain ⟨qp, pl, rfl, hpl, hqp⟩ := (hLq.mono sx).getX hi
        have hmem := List.mem_of_getElem? hpl
        have plen := plays_length ns _ _ pl hmem
        have hrx := sx _ _ hrq
        refine ⟨_, rfl, _, rfl, _, _, rfl, .inr ⟨ns, ⟨r, rfl, SqL.of hrx, ok⟩, .inr ⟨qp, pl, rfl, SqL.of hqp, by omega, fun Hy p l sy np nl hp hl => ?_⟩⟩⟩
        refine ⟨p, _, rfl, SqT.of hp, rfl, _, _, rfl, _, _, rfl, _, _, rfl, rfl, ?_⟩
        rw [plen, Nat.sub_self, stretch_zero] at hl
        refine ⟨_, rfl, _, rfl, _, _, rfl, rfl, _, rfl, rfl, _, rfl, iteFb (not_t (decide_eq_true (congrArg V.int ((plays_worth ns _ _ pl hmem).trans hw)))) ?_⟩
        refine ⟨_, rfl, Nat.zero_le _, fun p0 np0 => gen_heap np0 fun Hz sz hz => ?_⟩
        refine ⟨_, _, dp_lst (xs := []) (SqL.of (sz _ _ hl)) rfl, dp_lst (xs := []) (SqL.of hz) rfl, shl_flat (xs := []) rfl, shl_flat (xs := []) rfl, _, rfl, iteFb (not_t (eqv_same (shl_flat (xs := []) rfl))) ?_⟩
        have hrz := sz _ _ (sy _ _ hrx)
        have hqz := sz _ _ (sy _ _ hqp)
        refine ⟨_, rfl, r, _, rfl, .inl (SqL.of hrz), _, rfl, by rw [List.length_map]; have := ok.1; omega, by rw [List.length_map]; have := ok.1; omega, fun D3 nD3 => ?_⟩
        refine lc_range (lo := 0) (n := (((ns.map V.int).length : Nat) : Int).toNat) (fun i Hv => Same Hz Hv ∧ Hv D3 = some (.lst (List.replicate i (V.bl false)))) ⟨same_new nD3 _, upd_same⟩ ?_ ?_
        · rintro j Hv hj ⟨sv, hD3⟩
          rw [Int.toNat_natCast, List.length_map] at hj
          have h12 := ok.1
          have hjl : j < pl.length := by omega
          have hb := List.getElem?_eq_getElem hjl
          have hqv := sv _ _ hqz
          refine ⟨rfl, _, rfl, _, rfl, qp, _, _, _, rfl, rfl, SqL.of hqv, (by rw [Int.zero_add]; exact atI_nat (sides_get hb)), ?_⟩
          refine ⟨_, rfl, _, rfl, _, rfl, (0 + (j : Int)), rfl, qp, _, rfl, SqL.of hqv, fun ps nps => gen_heap nps fun H5 s5 hps => ?_⟩
          rw [cut_to _ _ (by rw [sidesV_len]; omega), ← sides_take] at hps
          refine ⟨_, _, rfl, .inr ⟨ns, ⟨r, rfl, SqL.of (s5 _ _ (sv _ _ hrz)), ok⟩, .inr ⟨ps, pl.take j, rfl, SqL.of hps, by rw [List.length_take]; omega, fun H6 p6 l6 s6 np6 nl6 hp6 hl6 => ?_⟩⟩⟩
          refine ⟨p6, _, _, _, rfl, rfl, SqT.of hp6, atI_nat (j := 2) rfl, ?_⟩
          refine ⟨_, rfl, .inl ⟨_, ⟨l6, rfl, SqL.of hl6, ok.stretch _ _⟩, fun H7 p7 s7 np7 hp7 => ?_⟩⟩
          refine ⟨p7, sidesV _, rfl, .inl (SqL.of hp7), rfl, flat_sides _, ?_⟩
          rw [in_sides (best_at hmem hb)]
          exact rp_step nD3 sv hD3 (s5.trans (s6.trans s7)) (by omega)
        rintro Hv ⟨sv, hD3⟩
        rw [rep_bl] at hD3
        refine ⟨D3, _, rfl, SqL.of hD3, _, rfl, ?_⟩
        rw [any_false]
        exact iteF ⟨_, _, _, _, rfl, sx.trans (sy.trans (sz.trans sv))⟩
      · rintro σ Hx ⟨y9, y10, y11, y12, rfl, sx⟩
        have sall : Same Hl Hx := sw.trans (sp1.trans (ss.trans (sq.trans sx)))
        exact ⟨_, _, _, _, _, _, _, _, _, rfl, (eb.trans (ExtN.of s1)).trans (el.trans (ExtN.of sall)), hTl.ext sall⟩
    rintro σ Hz ⟨x4, x5, x6, x7, x8, x9, x10, x11, x12, rfl, ez, hTz⟩
    refine ⟨_, rfl, (by show 1 ≤ sizeLine; decide), fun p203 np203 => gen_heap np203 fun H204 sH204 hp203 => ?_⟩
    refine ⟨_, _, rfl, .inr ⟨[n], ⟨p203, rfl, (SqL.of hp203), ⟨by show 1 ≤ 12; decide, fun z hz => by simp only [List.mem_cons, List.not_mem_nil, or_false] at hz; omega⟩⟩, .inr ⟨0, ([true] : List Bool), rfl, (by rw [show plays [n] ([n] : List Int).length 0 = plays [n] 1 0 from rfl, plays_one]; rfl), fun H205 p206 sH205 np206 hp206 => ?_⟩⟩⟩
    refine ⟨_, rfl, (by show 1 ≤ sizeLine; decide), fun p207 np207 => gen_heap np207 fun H208 sH208 hp207 => ?_⟩
    refine ⟨_, _, rfl, .inr ⟨[n], ⟨p207, rfl, (SqL.of hp207), ⟨by show 1 ≤ 12; decide, fun z hz => by simp only [List.mem_cons, List.not_mem_nil, or_false] at hz; omega⟩⟩, .inr ⟨1, ([false] : List Bool), rfl, (by rw [show plays [n] ([n] : List Int).length 0 = plays [n] 1 0 from rfl, plays_one]; rfl), fun H209 p210 sH209 np210 hp210 => ?_⟩⟩⟩
    refine ⟨Nat.zero_le _, fun p211 np211 => gen_heap np211 fun H212 sH212 hp211 => ?_⟩
    refine ⟨_, _, rfl, .inr ⟨[], ⟨p211, rfl, (SqL.of hp211), ⟨by decide, fun z hz => (nomatch hz)⟩⟩, .inr ⟨0, ([] : List Bool), rfl, (by decide +kernel), fun H213 p214 sH213 np214 hp214 => ?_⟩⟩⟩
    refine ⟨(by show 3 ≤ sizeLine; decide), fun p215 np215 => gen_heap np215 fun H216 sH216 hp215 => ?_⟩
    refine ⟨_, rfl, (by show 1 ≤ sizeLine; decide), fun p217 np217 => gen_heap np217 fun H218 sH218 hp217 => ?_⟩
    refine ⟨_, rfl, (by show 1 ≤ sizeLine; decide), fun p219 np219 => gen_heap np219 fun H220 sH220 hp219 => ?_⟩
    refine ⟨Nat.zero_le _, fun p221 np221 => gen_heap np221 fun H222 sH222 hp221 => ?_⟩
    refine ⟨(by show 3 ≤ sizeLine; decide), fun p223 np223 => gen_heap np223 fun H224 sH224 hp223 => ?_⟩
    have h225 := (sH224 _ _ (sH222 _ _ (sH220 _ _ (sH218 _ _ (sH216 _ _ (sH213 _ _ (sH212 _ _ (sH209 _ _ (sH208 _ _ hp206)))))))))
    have h226 := (sH224 _ _ (sH222 _ _ (sH220 _ _ (sH218 _ _ (sH216 _ _ (sH213 _ _ (sH212 _ _ hp210)))))))
    have h227 := (sH224 _ _ (sH222 _ _ (sH220 _ _ (sH218 _ _ (sH216 _ _ hp214)))))
    have h228 := (sH224 _ _ (sH222 _ _ (sH220 _ _ (sH218 _ _ hp215))))
    have h229 := (sH224 _ _ (sH222 _ _ (sH220 _ _ hp217)))
    have h230 := (sH224 _ _ (sH222 _ _ hp219))
    have h231 := (sH224 _ _ hp221)
    refine ⟨(PyData.list [PyData.list ((sidesV ([true] : List Bool)).map vD), PyData.list ((sidesV ([false] : List Bool)).map vD), PyData.list ((sidesV ([] : List Bool)).map vD)]), (PyData.list [PyData.list [PyData.str "left"], PyData.list [PyData.str "right"], PyData.list []]), (.lst (SqL.of h228) (.cons (dp_lst (SqL.of h225) (sidesV_ok ([true] : List Bool))) (.cons (dp_lst (SqL.of h226) (sidesV_ok ([false] : List Bool))) (.cons (dp_lst (SqL.of h227) (sidesV_ok ([] : List Bool))) .nil)))), (.lst (SqL.of hp223) (.cons (.lst (SqL.of h229) (.cons (.str _) .nil)) (.cons (.lst (SqL.of h230) (.cons (.str _) .nil)) (.cons (.lst (SqL.of h231) .nil) .nil)))), (Sh.list (.cons (Sh.list (sha_flat (sidesV_ok ([true] : List Bool)) 0)) (.cons (Sh.list (sha_flat (sidesV_ok ([false] : List Bool)) 0)) (.cons (Sh.list (sha_flat (sidesV_ok ([] : List Bool)) 0)) (.nil 1))))).shaped (by decide), (Sh.list (.cons (Sh.list (.cons (sh_flat (x := V.str "left") (by decide +kernel) 0) (.nil 0))) (.cons (Sh.list (.cons (sh_flat (x := V.str "right") (by decide +kernel) 0) (.nil 0))) (.cons (Sh.list (.nil 0)) (.nil 1))))).shaped (by decide), _, rfl, ?_⟩
    refine iteFb (not_t (eqv_eq ((Sh.list (.cons (Sh.list (sha_flat (sidesV_ok ([true] : List Bool)) 0)) (.cons (Sh.list (sha_flat (sidesV_ok ([false] : List Bool)) 0)) (.cons (Sh.list (sha_flat (sidesV_ok ([] : List Bool)) 0)) (.nil 1))))).shaped (by decide)) rfl)) ?_
    refine ⟨(by show 2 ≤ sizeLine; decide), fun p232 np232 => gen_heap np232 fun H233 sH233 hp232 => ?_⟩
    refine ⟨_, _, rfl, .inr ⟨[2, 2], ⟨p232, rfl, (SqL.of hp232), ⟨by decide, by decide⟩⟩, .inr ⟨1, ([true, false] : List Bool), rfl, (by decide +kernel), fun H234 p235 sH234 np235 hp235 => ?_⟩⟩⟩
    refine ⟨(by show 3 ≤ sizeLine; decide), fun p236 np236 => gen_heap np236 fun H237 sH237 hp236 => ?_⟩
    refine ⟨_, _, rfl, .inr ⟨[3, 1, 2], ⟨p236, rfl, (SqL.of hp236), ⟨by decide, by decide⟩⟩, .inr ⟨0, ([true, false, true] : List Bool), rfl, (by decide +kernel), fun H238 p239 sH238 np239 hp239 => ?_⟩⟩⟩
    refine ⟨(by show 2 ≤ sizeLine; decide), fun p240 np240 => gen_heap np240 fun H241 sH241 hp240 => ?_⟩
    refine ⟨_, rfl, _, rfl, (by show 2 ≤ sizeLine; decide), fun p242 np242 => gen_heap np242 fun H243 sH243 hp242 => ?_⟩
    refine ⟨_, rfl, _, rfl, _, rfl, (by show 3 ≤ sizeLine; decide), fun p244 np244 => gen_heap np244 fun H245 sH245 hp244 => ?_⟩
    refine ⟨(by show 2 ≤ sizeLine; decide), fun p246 np246 => gen_heap np246 fun H247 sH247 hp246 => ?_⟩
    have h248 := (sH247 _ _ (sH245 _ _ (sH243 _ _ (sH241 _ _ (sH238 _ _ (sH237 _ _ hp235))))))
    have h249 := (sH247 _ _ (sH245 _ _ (sH243 _ _ (sH241 _ _ hp239))))
    have h250 := (sH247 _ _ (sH245 _ _ (sH243 _ _ hp240)))
    have h251 := (sH247 _ _ (sH245 _ _ hp242))
    have h252 := (sH247 _ _ hp244)
    refine ⟨(PyData.list [PyData.list ((sidesV ([true, false] : List Bool)).map vD), PyData.list ((sidesV ([true, false, true] : List Bool)).map vD)]), (PyData.list [PyData.list [PyData.str "left", PyData.str "right"], PyData.list [PyData.str "left", PyData.str "right", PyData.str "left"]]), (.lst (SqL.of h250) (.cons (dp_lst (SqL.of h248) (sidesV_ok ([true, false] : List Bool))) (.cons (dp_lst (SqL.of h249) (sidesV_ok ([true, false, true] : List Bool))) .nil))), (.lst (SqL.of hp246) (.cons (.lst (SqL.of h251) (.cons (.str _) (.cons (.str _) .nil))) (.cons (.lst (SqL.of h252) (.cons (.str _) (.cons (.str _) (.cons (.str _) .nil)))) .nil))), (Sh.list (.cons (Sh.list (sha_flat (sidesV_ok ([true, false] : List Bool)) 0)) (.cons (Sh.list (sha_flat (sidesV_ok ([true, false, true] : List Bool)) 0)) (.nil 1)))).shaped (by decide), (Sh.list (.cons (Sh.list (.cons (sh_flat (x := V.str "left") (by decide +kernel) 0) (.cons (sh_flat (x := V.str "right") (by decide +kernel) 0) (.nil 0)))) (.cons (Sh.list (.cons (sh_flat (x := V.str "left") (by decide +kernel) 0) (.cons (sh_flat (x := V.str "right") (by decide +kernel) 0) (.cons (sh_flat (x := V.str "left") (by decide +kernel) 0) (.nil 0))))) (.nil 1)))).shaped (by decide), _, rfl, ?_⟩
    refine iteFb (not_t (eqv_eq ((Sh.list (.cons (Sh.list (sha_flat (sidesV_ok ([true, false] : List Bool)) 0)) (.cons (Sh.list (sha_flat (sidesV_ok ([true, false, true] : List Bool)) 0)) (.nil 1)))).shaped (by decide)) rfl)) ?_
    exact q _ (hTz.ext (fun b o e => (sH247 _ _ (sH245 _ _ (sH243 _ _ (sH241 _ _ (sH238 _ _ (sH237 _ _ (sH234 _ _ (sH233 _ _ (sH224 _ _ (sH222 _ _ (sH220 _ _ (sH218 _ _ (sH216 _ _ (sH213 _ _ (sH212 _ _ (sH209 _ _ (sH208 _ _ (sH205 _ _ (sH204 _ _ e)))))))))))))))))))))
end
end K09
namespace K09
open PySem PySem.Spec PyProof.Rows L2 LamX NdefX RE
section
variable {P : Program} {w : World} {K : PySem.W.Frag} {mg : Str → Option Value} {base : Heap} {A : Ad}
theorem ok__law_sure_right (T : Tx K mg A) : FnOk P w K mg base CX0 31 A.f__law_sure_right A.d__law_sure_right ["_law_n"] spSure9 := by
  have G_law_word : FnOk P w K mg base CX0 30 A.f__law_word A.d__law_word ["_law_ask", "_law_thing"] (spWord P w K mg base [(A.C_BadNumber, "number"), (A.C_BadRow, "row"), (A.C_BadTakes, "takes"), (A.C_Odd, "odd")]) := ok__law_word T
  have Gworth : FnOk P w K mg base (L2.CX P w) 14 A.f_worth A.d_worth ["row"] (spWorth K A.C_BadRow) := ok_worth T
  have Gbest : FnOk P w K mg base (L2.CX P w) 15 A.f_best A.d_best ["row"] (spBest K A.C_BadRow) := ok_best T
  have Gsure : FnOk P w K mg base (L2.CX P w) 3 A.f_sure A.d_sure ["row"] (spSure K A.C_BadRow A.C_Odd) := ok_sure T
  have Ggreedy : FnOk P w K mg base (L2.CX P w) 3 A.f_greedy A.d_greedy ["row"] (spGreedy K A.C_BadRow) := ok_greedy T
  refine T.F_law_sure_right.ok sc__law_sure_right (fun vs H Q E h => ?_) (fun cdv A' outer s H vs Q E hr h => ?_)
  · obtain ⟨n, rfl, _⟩ := h
    rfl
  · obtain ⟨n, rfl, hlo, hhi, q⟩ := h
    refine ⟨_, (pss_cons (ps_asg (pe_tup (pa_cons pe_str (pa_cons pe_str pa_nil))) (pg_tup rfl (pgs_cons (pg_name (i := 1) sc__law_sure_right.nd rfl (Or.inl rfl)) (pgs_cons (pg_name (i := 2) sc__law_sure_right.nd rfl (Or.inl rfl)) pgs_nil))))
      (pss_cons (ps_if (pt_cmpR (op_neD hr.units) (pe_lst (pa_cons (pe_call Gsure (hr.mono (by first | decide | omega)) (by rfl) T.gsure T.Fsure.kp T.bsure .nil passL (pa_cons (pe_lst (pa_cons pe_int (pa_cons pe_int (pa_cons pe_int (pa_cons pe_int pa_nil))))) pa_nil)) (pa_cons (pe_call Gsure (hr.mono (by first | decide | omega)) (by rfl) T.gsure T.Fsure.kp T.bsure .nil passL (pa_cons (pe_lst pa_nil) pa_nil)) (pa_cons (pe_call Gsure (hr.mono (by first | decide | omega)) (by rfl) T.gsure T.Fsure.kp T.bsure .nil passL (pa_cons (pe_lst (pa_cons (pv 0) (pa_cons (pv 0) pa_nil))) pa_nil)) (pa_cons (pe_call Gsure (hr.mono (by first | decide | omega)) (by rfl) T.gsure T.Fsure.kp T.bsure .nil passL (pa_cons (pe_lst (pa_cons (pv 0) (pa_cons pe_int pa_nil))) pa_nil)) (pa_cons (pe_call Gsure (hr.mono (by first | decide | omega)) (by rfl) T.gsure T.Fsure.kp T.bsure .nil passL (pa_cons (pe_lst (pa_cons pe_int (pa_cons (pv 0) (pa_cons pe_int (pa_cons pe_int pa_nil))))) pa_nil)) pa_nil)))))) (pe_lst (pa_cons pe_int (pa_cons pe_int (pa_cons pe_int (pa_cons (pv 0) (pa_cons (pe_op op_add (pv 0) pe_int) pa_nil)))))) (nomark _)) (pss_one (ps_ret pe_bl)) pss_nil)
      (pss_cons (ps_if (pt_cmpR (op_neD hr.units) (pe_lc (own := [("_law_bad", 3)]) (by rfl) sc__law_sure_right.nd (pi_tup (pe_tup (pa_cons (pe_lst (pa_cons pe_int pa_nil)) (pa_cons (pe_lst (pa_cons pe_int (pa_cons pe_int (pa_cons pe_int pa_nil)))) pa_nil)))) (blkOk_by (own := [("_law_bad", 3)]) (N := N__law_sure_right) (sc := defScope s__law_sure_right) (by decide +kernel)) (fun _ _ _ _ _ => (pg_name (i := 3) sc__law_sure_right.nd rfl (Or.inl rfl))) (fun _ _ _ _ _ => pts_nil) (fun _ _ _ _ _ => (pe_call G_law_word (hr.mono (by first | decide | omega)) (by rfl) T.g_law_word T.F_law_word.kp T.b_law_word .nil pass0 (pa_cons (pe_glob (v := .ref A.f_sure) (by rfl) T.gsure rfl) (pa_cons (pv 3) pa_nil))))) (pe_op op_rep (pe_lst (pa_cons pe_str pa_nil)) pe_int) (nomark _)) (pss_one (ps_ret pe_bl)) pss_nil)
      (pss_cons (ps_if (pt_cmpR (op_neD hr.units) (pe_lst (pa_cons (pe_call Ggreedy (hr.mono (by first | decide | omega)) (by rfl) T.ggreedy T.Fgreedy.kp T.bgreedy .nil passL (pa_cons (pe_lst (pa_cons pe_int (pa_cons pe_int pa_nil))) pa_nil)) (pa_cons (pe_call Ggreedy (hr.mono (by first | decide | omega)) (by rfl) T.ggreedy T.Fgreedy.kp T.bgreedy .nil passL (pa_cons (pe_lst (pa_cons pe_int (pa_cons pe_int (pa_cons pe_int pa_nil)))) pa_nil)) (pa_cons (pe_call Ggreedy (hr.mono (by first | decide | omega)) (by rfl) T.ggreedy T.Fgreedy.kp T.bgreedy .nil passL (pa_cons (pe_lst pa_nil) pa_nil)) pa_nil)))) (pe_lst (pa_cons (pe_lst (pa_cons (pv 1) (pa_cons (pv 1) pa_nil))) (pa_cons (pe_lst (pa_cons (pv 2) (pa_cons (pv 2) (pa_cons (pv 1) pa_nil)))) (pa_cons (pe_lst pa_nil) pa_nil)))) (nomark _)) (pss_one (ps_ret pe_bl)) pss_nil)
      (pss_cons (ps_if (pt_cmpR (op_neD hr.units) (pe_lst (pa_cons (pe_call Ggreedy (hr.mono (by first | decide | omega)) (by rfl) T.ggreedy T.Fgreedy.kp T.bgreedy .nil passL (pa_cons (pe_lst (pa_cons (pv 0) pa_nil)) pa_nil)) (pa_cons (pe_call Ggreedy (hr.mono (by first | decide | omega)) (by rfl) T.ggreedy T.Fgreedy.kp T.bgreedy .nil passL (pa_cons (pe_lst (pa_cons pe_int (pa_cons pe_int (pa_cons pe_int (pa_cons pe_int pa_nil))))) pa_nil)) pa_nil))) (pe_lst (pa_cons (pe_lst (pa_cons (pv 1) pa_nil)) (pa_cons (pe_lst (pa_cons (pv 1) (pa_cons (pv 1) (pa_cons (pv 2) (pa_cons (pv 1) pa_nil))))) pa_nil))) (nomark _)) (pss_one (ps_ret pe_bl)) pss_nil)
      (pss_one (ps_ret (pe_and (pe_cmpR op_eq (pe_call Gworth (hr.mono (by first | decide | omega)) (by rfl) T.gworth T.Fworth.kp T.bworth .nil passL (pa_cons (pe_op op_rep (pe_lst (pa_cons (pv 0) pa_nil)) pe_int) pa_nil)) pe_int (nomark _)) (pe_and (pe_cmpR op_eq (pe_call Gworth (hr.mono (by first | decide | omega)) (by rfl) T.gworth T.Fworth.kp T.bworth .nil passL (pa_cons (pe_op op_rep (pe_lst (pa_cons pe_int (pa_cons (pe_op op_add (pv 0) pe_int) pa_nil))) pe_int) pa_nil)) (pe_op op_mul pe_int (pv 0)) (nomark _)) (pe_one (pe_cmpR (op_eqD hr.units) (pe_call Gbest (hr.mono (by first | decide | omega)) (by rfl) T.gbest T.Fbest.kp T.bbest .nil passL (pa_cons (pe_op op_rep (pe_lst (pa_cons (pv 0) pa_nil)) pe_int) pa_nil)) (pe_lst (pa_cons (pv 1) (pa_cons (pv 2) pa_nil))) (nomark _)))))))))))), ?_⟩
    refine ⟨(by show 2 ≤ sizeLine; decide), fun p1 np1 => gen_heap np1 fun H2 sH2 hp1 => ?_⟩
    refine ⟨p1, _, rfl, (SqT.of hp1), rfl, _, _, rfl, _, _, rfl, rfl, ?_⟩
    refine ⟨(by show 4 ≤ sizeLine; decide), fun p3 np3 => gen_heap np3 fun H4 sH4 hp3 => ?_⟩
    refine ⟨_, rfl, .inl ⟨[1, 2, 3, 4], ⟨p3, rfl, (SqL.of hp3), ⟨by decide, by decide⟩⟩, fun h => absurd h (by show ¬ (4 % 2 = 1); decide), fun _ H5 sH5 => ?_⟩⟩
    refine ⟨Nat.zero_le _, fun p6 np6 => gen_heap np6 fun H7 sH7 hp6 => ?_⟩
    refine ⟨_, rfl, .inl ⟨[], ⟨p6, rfl, (SqL.of hp6), ⟨by decide, fun z hz => (nomatch hz)⟩⟩, fun h => absurd h (by show ¬ (0 % 2 = 1); decide), fun _ H8 sH8 => ?_⟩⟩
    refine ⟨_, rfl, _, rfl, (by show 2 ≤ sizeLine; decide), fun p9 np9 => gen_heap np9 fun H10 sH10 hp9 => ?_⟩
    refine ⟨_, rfl, .inl ⟨[n, n], ⟨p9, rfl, (SqL.of hp9), ⟨by show 2 ≤ 12; decide, fun z hz => by simp only [List.mem_cons, List.not_mem_nil, or_false] at hz; omega⟩⟩, fun h => absurd h (by show ¬ (2 % 2 = 1); decide), fun _ H11 sH11 => ?_⟩⟩
    refine ⟨_, rfl, (by show 2 ≤ sizeLine; decide), fun p12 np12 => gen_heap np12 fun H13 sH13 hp12 => ?_⟩
    refine ⟨_, rfl, .inl ⟨[n, 0], ⟨p12, rfl, (SqL.of hp12), ⟨by show 2 ≤ 12; decide, fun z hz => by simp only [List.mem_cons, List.not_mem_nil, or_false] at hz; omega⟩⟩, fun h => absurd h (by show ¬ (2 % 2 = 1); decide), fun _ H14 sH14 => ?_⟩⟩
    refine ⟨_, rfl, (by show 4 ≤ sizeLine; decide), fun p15 np15 => gen_heap np15 fun H16 sH16 hp15 => ?_⟩
    refine ⟨_, rfl, .inl ⟨[0, n, 0, 5], ⟨p15, rfl, (SqL.of hp15), ⟨by show 4 ≤ 12; decide, fun z hz => by simp only [List.mem_cons, List.not_mem_nil, or_false] at hz; omega⟩⟩, fun h => absurd h (by show ¬ (4 % 2 = 1); decide), fun _ H17 sH17 => ?_⟩⟩
    refine ⟨(by show 5 ≤ sizeLine; decide), fun p18 np18 => gen_heap np18 fun H19 sH19 hp18 => ?_⟩
    refine ⟨_, rfl, _, rfl, _, _, rfl, rfl, (by show 5 ≤ sizeLine; decide), fun p20 np20 => gen_heap np20 fun H21 sH21 hp20 => ?_⟩
    have h22 := (sH21 _ _ hp18)
    refine ⟨(PyData.list [PyData.int (sureV ([1, 2, 3, 4])), PyData.int (sureV []), PyData.int (sureV ([n, n])), PyData.int (sureV ([n, 0])), PyData.int (sureV ([0, n, 0, 5]))]), (PyData.list [PyData.int 2, PyData.int 0, PyData.int 0, PyData.int n, PyData.int (n + 5)]), (.lst (SqL.of h22) (.cons (.int _) (.cons (.int _) (.cons (.int _) (.cons (.int _) (.cons (.int _) .nil)))))), (.lst (SqL.of hp20) (.cons (.int _) (.cons (.int _) (.cons (.int _) (.cons (.int _) (.cons (.int _) .nil)))))), (Sh.list (.cons (sh_flat (x := V.int (sureV ([1, 2, 3, 4]))) rfl 0) (.cons (sh_flat (x := V.int (sureV [])) rfl 0) (.cons (sh_flat (x := V.int (sureV ([n, n]))) rfl 0) (.cons (sh_flat (x := V.int (sureV ([n, 0]))) rfl 0) (.cons (sh_flat (x := V.int (sureV ([0, n, 0, 5]))) rfl 0) (.nil 0))))))).shaped (by decide), (Sh.list (.cons (sh_flat (x := V.int 2) rfl 0) (.cons (sh_flat (x := V.int 0) rfl 0) (.cons (sh_flat (x := V.int 0) rfl 0) (.cons (sh_flat (x := V.int n) rfl 0) (.cons (sh_flat (x := V.int (n + 5)) rfl 0) (.nil 0))))))).shaped (by decide), _, rfl, ?_⟩
    refine iteFb (not_t (eqv_eq ((Sh.list (.cons (sh_flat (x := V.int (sureV ([1, 2, 3, 4]))) rfl 0) (.cons (sh_flat (x := V.int (sureV [])) rfl 0) (.cons (sh_flat (x := V.int (sureV ([n, n]))) rfl 0) (.cons (sh_flat (x := V.int (sureV ([n, 0]))) rfl 0) (.cons (sh_flat (x := V.int (sureV ([0, n, 0, 5]))) rfl 0) (.nil 0))))))).shaped (by decide)) (by rw [show sureV [1, 2, 3, 4] = 2 by decide +kernel, show sureV [] = 0 by decide +kernel, show sureV [n, n] = 0 by (simp [sureV, absI, evens]), show sureV [n, 0] = n by (simp [sureV, absI, evens]; omega), show sureV [0, n, 0, 5] = n + 5 by (simp [sureV, absI, evens]; omega)]))) ?_
    refine ⟨(by show 1 ≤ sizeLine; decide), fun p23 np23 => gen_heap np23 fun H24 sH24 hp23 => ?_⟩
    refine ⟨(by show 3 ≤ sizeLine; decide), fun p25 np25 => gen_heap np25 fun H26 sH26 hp25 => ?_⟩
    refine ⟨(by show 2 ≤ sizeLine; decide), fun p27 np27 => gen_heap np27 fun H28 sH28 hp27 => ?_⟩
    have h29 := (sH28 _ _ (sH26 _ _ hp23))
    have h30 := (sH28 _ _ hp25)
    have hO : ∀ x ∈ [V.ref p23, V.ref p25], OddRow K H28 x := (each_cons ⟨[1], ⟨p23, rfl, SqL.of h29, ⟨by decide, by decide⟩⟩, by decide⟩ (each_cons ⟨[1, 2, 3], ⟨p25, rfl, SqL.of h30, ⟨by decide, by decide⟩⟩, by decide⟩ each_nil))
    refine ⟨p27, rfl, ⟨_, SqT.of hp27⟩, fun D nD => ?_⟩
    refine lc_tup (K := K) (a := p27) (xs := [V.ref p23, V.ref p25]) (fun i Hx => Same H28 Hx ∧ Hx D = some (.lst (List.replicate i (V.str "odd")))) ⟨same_new nD _, upd_same⟩ (fun i Hx _ h => SqT.of (h.1 _ _ hp27)) ?_ ?_
    · rintro i x Hx hi ⟨sx, hD⟩
      have hil : i < 2 := (List.getElem?_eq_some_iff.mp hi).1
      have hodd := (hO x (List.mem_of_getElem? hi)).mono sx
      refine ⟨rfl, _, rfl, ?_⟩
      refine ⟨A.f_sure, A.C_Odd, _, _, x, 3, "odd", rfl, (callable_fn Gsure T.Fsure T.bsure).mono (by decide), noH_sub _, rfl, fun Q' E' hE => ?_, fun Hy sy => rp_step nD sx hD sy (by omega)⟩
      obtain ⟨ns, hrow, hn⟩ := hodd
      exact ⟨_, rfl, .inl ⟨ns, hrow, fun _ => hE, fun z => absurd z (by omega)⟩⟩
    rintro Hd ⟨sd, hD⟩
    refine ⟨(by show 1 ≤ sizeLine; decide), fun p31 np31 => gen_heap np31 fun H32 sH32 hp31 => ?_⟩
    refine ⟨p31, 2, _, rfl, rfl, hp31, (by decide), (by decide), (by show 1 * 2 ≤ sizeLine; decide), fun p33 np33 => gen_heap np33 fun H34 sH34 hp33 => ?_⟩
    replace hp33 : H34 p33 = some (.lst [V.str "odd", V.str "odd"]) := hp33
    have h35 := (sH34 _ _ (sH32 _ _ hD))
    refine ⟨(PyData.list [PyData.str "odd", PyData.str "odd"]), (PyData.list [PyData.str "odd", PyData.str "odd"]), (.lst (SqL.of h35) (.cons (.str _) (.cons (.str _) .nil))), (.lst (SqL.of hp33) (.cons (.str _) (.cons (.str _) .nil))), (Sh.list (.cons (sh_flat (x := V.str "odd") (by decide +kernel) 0) (.cons (sh_flat (x := V.str "odd") (by decide +kernel) 0) (.nil 0)))).shaped (by decide), (Sh.list (.cons (sh_flat (x := V.str "odd") (by decide +kernel) 0) (.cons (sh_flat (x := V.str "odd") (by decide +kernel) 0) (.nil 0)))).shaped (by decide), _, rfl, ?_⟩
    refine iteFb (not_t (eqv_same ((Sh.list (.cons (sh_flat (x := V.str "odd") (by decide +kernel) 0) (.cons (sh_flat (x := V.str "odd") (by decide +kernel) 0) (.nil 0)))).shaped (by decide)))) ?_
    refine ⟨(by show 2 ≤ sizeLine; decide), fun p36 np36 => gen_heap np36 fun H37 sH37 hp36 => ?_⟩
    refine ⟨_, rfl, .inl ⟨[1, 1], ⟨p36, rfl, (SqL.of hp36), ⟨by decide, by decide⟩⟩, fun H38 p39 sH38 np39 hp39 => ?_⟩⟩
    refine ⟨(by show 3 ≤ sizeLine; decide), fun p40 np40 => gen_heap np40 fun H41 sH41 hp40 => ?_⟩
    refine ⟨_, rfl, .inl ⟨[1, 5, 2], ⟨p40, rfl, (SqL.of hp40), ⟨by decide, by decide⟩⟩, fun H42 p43 sH42 np43 hp43 => ?_⟩⟩
    refine ⟨Nat.zero_le _, fun p44 np44 => gen_heap np44 fun H45 sH45 hp44 => ?_⟩
    refine ⟨_, rfl, .inl ⟨[], ⟨p44, rfl, (SqL.of hp44), ⟨by decide, fun z hz => (nomatch hz)⟩⟩, fun H46 p47 sH46 np47 hp47 => ?_⟩⟩
    refine ⟨(by show 3 ≤ sizeLine; decide), fun p48 np48 => gen_heap np48 fun H49 sH49 hp48 => ?_⟩
    refine ⟨_, rfl, _, rfl, (by show 2 ≤ sizeLine; decide), fun p50 np50 => gen_heap np50 fun H51 sH51 hp50 => ?_⟩
    refine ⟨_, rfl, _, rfl, _, rfl, (by show 3 ≤ sizeLine; decide), fun p52 np52 => gen_heap np52 fun H53 sH53 hp52 => ?_⟩
    refine ⟨Nat.zero_le _, fun p54 np54 => gen_heap np54 fun H55 sH55 hp54 => ?_⟩
    refine ⟨(by show 3 ≤ sizeLine; decide), fun p56 np56 => gen_heap np56 fun H57 sH57 hp56 => ?_⟩
    have h58 := (sH57 _ _ (sH55 _ _ (sH53 _ _ (sH51 _ _ (sH49 _ _ (sH46 _ _ (sH45 _ _ (sH42 _ _ (sH41 _ _ hp39)))))))))
    have h59 := (sH57 _ _ (sH55 _ _ (sH53 _ _ (sH51 _ _ (sH49 _ _ (sH46 _ _ (sH45 _ _ hp43)))))))
    have h60 := (sH57 _ _ (sH55 _ _ (sH53 _ _ (sH51 _ _ (sH49 _ _ hp47)))))
    have h61 := (sH57 _ _ (sH55 _ _ (sH53 _ _ (sH51 _ _ hp48))))
    have h62 := (sH57 _ _ (sH55 _ _ (sH53 _ _ hp50)))
    have h63 := (sH57 _ _ (sH55 _ _ hp52))
    have h64 := (sH57 _ _ hp54)
    refine ⟨(PyData.list [PyData.list ((sidesV (greedyV ([1, 1]) ([1, 1] : List Int).length 0)).map vD), PyData.list ((sidesV (greedyV ([1, 5, 2]) ([1, 5, 2] : List Int).length 0)).map vD), PyData.list ((sidesV (greedyV [] ([] : List Int).length 0)).map vD)]), (PyData.list [PyData.list [PyData.str "left", PyData.str "left"], PyData.list [PyData.str "right", PyData.str "right", PyData.str "left"], PyData.list []]), (.lst (SqL.of h61) (.cons (dp_lst (SqL.of h58) (sidesV_ok (greedyV ([1, 1]) ([1, 1] : List Int).length 0))) (.cons (dp_lst (SqL.of h59) (sidesV_ok (greedyV ([1, 5, 2]) ([1, 5, 2] : List Int).length 0))) (.cons (dp_lst (SqL.of h60) (sidesV_ok (greedyV [] ([] : List Int).length 0))) .nil)))), (.lst (SqL.of hp56) (.cons (.lst (SqL.of h62) (.cons (.str _) (.cons (.str _) .nil))) (.cons (.lst (SqL.of h63) (.cons (.str _) (.cons (.str _) (.cons (.str _) .nil)))) (.cons (.lst (SqL.of h64) .nil) .nil)))), (Sh.list (.cons (Sh.list (sha_flat (sidesV_ok (greedyV ([1, 1]) ([1, 1] : List Int).length 0)) 0)) (.cons (Sh.list (sha_flat (sidesV_ok (greedyV ([1, 5, 2]) ([1, 5, 2] : List Int).length 0)) 0)) (.cons (Sh.list (sha_flat (sidesV_ok (greedyV [] ([] : List Int).length 0)) 0)) (.nil 1))))).shaped (by decide), (Sh.list (.cons (Sh.list (.cons (sh_flat (x := V.str "left") (by decide +kernel) 0) (.cons (sh_flat (x := V.str "left") (by decide +kernel) 0) (.nil 0)))) (.cons (Sh.list (.cons (sh_flat (x := V.str "right") (by decide +kernel) 0) (.cons (sh_flat (x := V.str "right") (by decide +kernel) 0) (.cons (sh_flat (x := V.str "left") (by decide +kernel) 0) (.nil 0))))) (.cons (Sh.list (.nil 0)) (.nil 1))))).shaped (by decide), _, rfl, ?_⟩
    refine iteFb (not_t (eqv_eq ((Sh.list (.cons (Sh.list (sha_flat (sidesV_ok (greedyV ([1, 1]) ([1, 1] : List Int).length 0)) 0)) (.cons (Sh.list (sha_flat (sidesV_ok (greedyV ([1, 5, 2]) ([1, 5, 2] : List Int).length 0)) 0)) (.cons (Sh.list (sha_flat (sidesV_ok (greedyV [] ([] : List Int).length 0)) 0)) (.nil 1))))).shaped (by decide)) (by rfl))) ?_
    refine ⟨_, rfl, (by show 1 ≤ sizeLine; decide), fun p65 np65 => gen_heap np65 fun H66 sH66 hp65 => ?_⟩
    refine ⟨_, rfl, .inl ⟨[n], ⟨p65, rfl, (SqL.of hp65), ⟨by show 1 ≤ 12; decide, fun z hz => by simp only [List.mem_cons, List.not_mem_nil, or_false] at hz; omega⟩⟩, fun H67 p68 sH67 np68 hp68 => ?_⟩⟩
    refine ⟨(by show 4 ≤ sizeLine; decide), fun p69 np69 => gen_heap np69 fun H70 sH70 hp69 => ?_⟩
    refine ⟨_, rfl, .inl ⟨[2, 9, 1, 2], ⟨p69, rfl, (SqL.of hp69), ⟨by decide, by decide⟩⟩, fun H71 p72 sH71 np72 hp72 => ?_⟩⟩
    refine ⟨(by show 2 ≤ sizeLine; decide), fun p73 np73 => gen_heap np73 fun H74 sH74 hp73 => ?_⟩
    refine ⟨_, rfl, (by show 1 ≤ sizeLine; decide), fun p75 np75 => gen_heap np75 fun H76 sH76 hp75 => ?_⟩
    refine ⟨_, rfl, _, rfl, _, rfl, _, rfl, (by show 4 ≤ sizeLine; decide), fun p77 np77 => gen_heap np77 fun H78 sH78 hp77 => ?_⟩
    refine ⟨(by show 2 ≤ sizeLine; decide), fun p79 np79 => gen_heap np79 fun H80 sH80 hp79 => ?_⟩
    have h81 := (sH80 _ _ (sH78 _ _ (sH76 _ _ (sH74 _ _ (sH71 _ _ (sH70 _ _ hp68))))))
    have h82 := (sH80 _ _ (sH78 _ _ (sH76 _ _ (sH74 _ _ hp72))))
    have h83 := (sH80 _ _ (sH78 _ _ (sH76 _ _ hp73)))
    have h84 := (sH80 _ _ (sH78 _ _ hp75))
    have h85 := (sH80 _ _ hp77)
    refine ⟨(PyData.list [PyData.list ((sidesV (greedyV [n] ([n] : List Int).length 0)).map vD), PyData.list ((sidesV (greedyV ([2, 9, 1, 2]) ([2, 9, 1, 2] : List Int).length 0)).map vD)]), (PyData.list [PyData.list [PyData.str "left"], PyData.list [PyData.str "left", PyData.str "left", PyData.str "right", PyData.str "left"]]), (.lst (SqL.of h83) (.cons (dp_lst (SqL.of h81) (sidesV_ok (greedyV [n] ([n] : List Int).length 0))) (.cons (dp_lst (SqL.of h82) (sidesV_ok (greedyV ([2, 9, 1, 2]) ([2, 9, 1, 2] : List Int).length 0))) .nil))), (.lst (SqL.of hp79) (.cons (.lst (SqL.of h84) (.cons (.str _) .nil)) (.cons (.lst (SqL.of h85) (.cons (.str _) (.cons (.str _) (.cons (.str _) (.cons (.str _) .nil))))) .nil))), (Sh.list (.cons (Sh.list (sha_flat (sidesV_ok (greedyV [n] ([n] : List Int).length 0)) 0)) (.cons (Sh.list (sha_flat (sidesV_ok (greedyV ([2, 9, 1, 2]) ([2, 9, 1, 2] : List Int).length 0)) 0)) (.nil 1)))).shaped (by decide), (Sh.list (.cons (Sh.list (.cons (sh_flat (x := V.str "left") (by decide +kernel) 0) (.nil 0))) (.cons (Sh.list (.cons (sh_flat (x := V.str "left") (by decide +kernel) 0) (.cons (sh_flat (x := V.str "left") (by decide +kernel) 0) (.cons (sh_flat (x := V.str "right") (by decide +kernel) 0) (.cons (sh_flat (x := V.str "left") (by decide +kernel) 0) (.nil 0)))))) (.nil 1)))).shaped (by decide), _, rfl, ?_⟩
    refine iteFb (not_t (eqv_eq ((Sh.list (.cons (Sh.list (sha_flat (sidesV_ok (greedyV [n] ([n] : List Int).length 0)) 0)) (.cons (Sh.list (sha_flat (sidesV_ok (greedyV ([2, 9, 1, 2]) ([2, 9, 1, 2] : List Int).length 0)) 0)) (.nil 1)))).shaped (by decide)) (by rw [show greedyV [n] ([n] : List Int).length 0 = [true] by simp [greedyV], show greedyV [2, 9, 1, 2] ([2, 9, 1, 2] : List Int).length 0 = [true, true, false, true] by decide +kernel]; rfl))) ?_
    refine ⟨_, rfl, (by show 1 ≤ sizeLine; decide), fun p86 np86 => gen_heap np86 fun H87 sH87 hp86 => ?_⟩
    refine ⟨p86, 12, _, rfl, rfl, hp86, (by decide), (by decide), (by show 1 * 12 ≤ sizeLine; decide), fun p88 np88 => gen_heap np88 fun H89 sH89 hp88 => ?_⟩
    replace hp88 : H89 p88 = some (.lst [V.int n, V.int n, V.int n, V.int n, V.int n, V.int n, V.int n, V.int n, V.int n, V.int n, V.int n, V.int n]) := hp88
    refine ⟨_, rfl, .inl ⟨[n, n, n, n, n, n, n, n, n, n, n, n], ⟨p88, rfl, (SqL.of hp88), ⟨by show 12 ≤ 12; decide, fun z hz => by simp only [List.mem_cons, List.not_mem_nil, or_false] at hz; omega⟩⟩, fun H90 sH90 => ?_⟩⟩
    refine ⟨rfl, _, rfl, ?_⟩
    refine iteTb (decide_eq_true (congrArg V.int (same_wv (c := n) (n := 12) 12 0 (by decide)))) ?_
    refine ⟨_, rfl, _, _, rfl, rfl, (by show 2 ≤ sizeLine; decide), fun p91 np91 => gen_heap np91 fun H92 sH92 hp91 => ?_⟩
    refine ⟨p91, 6, _, rfl, rfl, hp91, (by decide), (by decide), (by show 2 * 6 ≤ sizeLine; decide), fun p93 np93 => gen_heap np93 fun H94 sH94 hp93 => ?_⟩
    replace hp93 : H94 p93 = some (.lst [V.int 1, V.int (n + 1), V.int 1, V.int (n + 1), V.int 1, V.int (n + 1), V.int 1, V.int (n + 1), V.int 1, V.int (n + 1), V.int 1, V.int (n + 1)]) := hp93
    refine ⟨_, rfl, .inl ⟨[1, (n + 1), 1, (n + 1), 1, (n + 1), 1, (n + 1), 1, (n + 1), 1, (n + 1)], ⟨p93, rfl, (SqL.of hp93), ⟨by show 12 ≤ 12; decide, fun z hz => by simp only [List.mem_cons, List.not_mem_nil, or_false] at hz; omega⟩⟩, fun H95 sH95 => ?_⟩⟩
    refine ⟨_, rfl, _, _, rfl, rfl, .inl ⟨by decide, by decide⟩, rfl, _, rfl, ?_⟩
    refine iteTb (decide_eq_true (congrArg V.int (turns12 (by omega)))) ?_
    refine ⟨_, rfl, (by show 1 ≤ sizeLine; decide), fun p96 np96 => gen_heap np96 fun H97 sH97 hp96 => ?_⟩
    refine ⟨p96, 12, _, rfl, rfl, hp96, (by decide), (by decide), (by show 1 * 12 ≤ sizeLine; decide), fun p98 np98 => gen_heap np98 fun H99 sH99 hp98 => ?_⟩
    replace hp98 : H99 p98 = some (.lst [V.int n, V.int n, V.int n, V.int n, V.int n, V.int n, V.int n, V.int n, V.int n, V.int n, V.int n, V.int n]) := hp98
    refine ⟨_, rfl, .inl ⟨[n, n, n, n, n, n, n, n, n, n, n, n], ⟨p98, rfl, (SqL.of hp98), ⟨by show 12 ≤ 12; decide, fun z hz => by simp only [List.mem_cons, List.not_mem_nil, or_false] at hz; omega⟩⟩, fun H100 p101 sH100 np101 hp101 => ?_⟩⟩
    refine ⟨_, rfl, _, rfl, (by show 2 ≤ sizeLine; decide), fun p102 np102 => gen_heap np102 fun H103 sH103 hp102 => ?_⟩
    have h104 := (sH103 _ _ hp101)
    refine ⟨(PyData.list ((sidesV (ends ([n, n, n, n, n, n, n, n, n, n, n, n]) ([n, n, n, n, n, n, n, n, n, n, n, n] : List Int).length 0)).map vD)), (PyData.list [PyData.str "left", PyData.str "right"]), (dp_lst (SqL.of h104) (sidesV_ok (ends ([n, n, n, n, n, n, n, n, n, n, n, n]) ([n, n, n, n, n, n, n, n, n, n, n, n] : List Int).length 0))), (.lst (SqL.of hp102) (.cons (.str _) (.cons (.str _) .nil))), (Sh.list (sha_flat (sidesV_ok (ends ([n, n, n, n, n, n, n, n, n, n, n, n]) ([n, n, n, n, n, n, n, n, n, n, n, n] : List Int).length 0)) 0)).shaped (by decide), (Sh.list (.cons (sh_flat (x := V.str "left") (by decide +kernel) 0) (.cons (sh_flat (x := V.str "right") (by decide +kernel) 0) (.nil 0)))).shaped (by decide), ?_⟩
    rw [show PyData.eqv (PyData.list ((sidesV (ends ([n, n, n, n, n, n, n, n, n, n, n, n]) ([n, n, n, n, n, n, n, n, n, n, n, n] : List Int).length 0)).map vD)) (PyData.list [PyData.str "left", PyData.str "right"]) = true from eqv_eq ((Sh.list (sha_flat (sidesV_ok (ends ([n, n, n, n, n, n, n, n, n, n, n, n]) ([n, n, n, n, n, n, n, n, n, n, n, n] : List Int).length 0)) 0)).shaped (by decide)) (congrArg (fun z => PyData.list ((sidesV z).map vD)) (same_ends (c := n) (n := 12) 11 0 (by decide)))]
    exact q _ (fun b o e => (sH103 _ _ (sH100 _ _ (sH99 _ _ (sH97 _ _ (sH95 _ _ (sH94 _ _ (sH92 _ _ (sH90 _ _ (sH89 _ _ (sH87 _ _ (sH80 _ _ (sH78 _ _ (sH76 _ _ (sH74 _ _ (sH71 _ _ (sH70 _ _ (sH67 _ _ (sH66 _ _ (sH57 _ _ (sH55 _ _ (sH53 _ _ (sH51 _ _ (sH49 _ _ (sH46 _ _ (sH45 _ _ (sH42 _ _ (sH41 _ _ (sH38 _ _ (sH37 _ _ (sH34 _ _ (sH32 _ _ (sd _ _ (sH28 _ _ (sH26 _ _ (sH24 _ _ (sH21 _ _ (sH19 _ _ (sH17 _ _ (sH16 _ _ (sH14 _ _ (sH13 _ _ (sH11 _ _ (sH10 _ _ (sH8 _ _ (sH7 _ _ (sH5 _ _ (sH4 _ _ (sH2 _ _ e)))))))))))))))))))))))))))))))))))))))))))))))))
end
end K09
namespace K09
open PySem PySem.Spec PyProof.Rows L2 LamX NdefX RE
section
variable {P : Program} {w : World} {K : PySem.W.Frag} {mg : Str → Option Value} {base : Heap} {A : Ad}
theorem ok__law_plans_right (T : Tx K mg A) : FnOk P w K mg base CX0 31 A.f__law_plans_right A.d__law_plans_right ["_law_n"] spSure9 := by
  have Gworth : FnOk P w K mg base (L2.CX P w) 14 A.f_worth A.d_worth ["row"] (spWorth K A.C_BadRow) := ok_worth T
  have Gjudged : FnOk P w K mg base (L2.CX P w) 16 A.f_judged A.d_judged ["row", "least"] (spJudged K A.C_BadRow A.C_BadNumber A.C_Gets A.C_Held) := ok_judged T
  have GGets_init : FnOk P w K mg base CX0 1 A.f_Gets_init A.d_Gets_init ["self", "plan"] (spInit K A.C_Gets) := ok_Gets_init T
  have GHeld_init : FnOk P w K mg base CX0 1 A.f_Held_init A.d_Held_init ["self", "plan"] (spInit K A.C_Held) := ok_Held_init T
  have GGets_shows : FnOk P w K mg base CX0 16 A.f_Gets_shows A.d_Gets_shows ["self", "row", "least"] (spShows K A.C_Gets true) := ok_Gets_shows T
  have GHeld_shows : FnOk P w K mg base CX0 16 A.f_Held_shows A.d_Held_shows ["self", "row", "least"] (spShows K A.C_Held false) := ok_Held_shows T
  refine T.F_law_plans_right.ok sc__law_plans_right (fun vs H Q E h => ?_) (fun cdv A' outer s H vs Q E hr h => ?_)
  · obtain ⟨n, rfl, _⟩ := h
    rfl
  · obtain ⟨n, rfl, hlo, hhi, q⟩ := h
    refine ⟨_, (pss_mid (ps_asg (pe_tup (pa_cons pe_str (pa_cons pe_str (pa_cons (pe_lst (pa_cons pe_int (pa_cons pe_int (pa_cons pe_int pa_nil)))) pa_nil)))) (pg_tup rfl (pgs_cons (pg_name (i := 1) sc__law_plans_right.nd rfl (Or.inl rfl)) (pgs_cons (pg_name (i := 2) sc__law_plans_right.nd rfl (Or.inl rfl)) (pgs_cons (pg_name (i := 3) sc__law_plans_right.nd rfl (Or.inr rfl)) pgs_nil)))))
      (pss_mid (ps_par (i := 4) (j := 5) rfl sc__law_plans_right.nd rfl rfl (by decide) rfl rfl (pa_cons (pe_lst (pa_cons (pe_tup (pa_cons pe_int (pa_cons pe_int (pa_cons (pv 1) pa_nil)))) (pa_cons (pe_tup (pa_cons pe_int (pa_cons pe_int (pa_cons (pv 1) pa_nil)))) (pa_cons (pe_tup (pa_cons pe_int (pa_cons pe_int (pa_cons (pv 2) pa_nil)))) pa_nil)))) (pa_cons (pe_lst (pa_cons (pe_tup (pa_cons pe_int (pa_cons pe_int (pa_cons (pv 1) pa_nil)))) (pa_cons (pe_tup (pa_cons pe_int (pa_cons pe_int (pa_cons (pv 2) pa_nil)))) pa_nil))) pa_nil)) (by rfl))
      (pss_mid (ps_set (i := 6) sc__law_plans_right.nd rfl (Or.inl rfl) (pe_lst (pa_cons (pe_tup (pa_cons (pe_make T.MGets GGets_init (hr.mono (by first | decide | omega)) (by rfl) T.gGets T.bGets_init .nil pass0 (pa_cons (pv 4) pa_nil)) (pa_cons pe_int (pa_cons pe_bl pa_nil)))) (pa_cons (pe_tup (pa_cons (pe_make T.MGets GGets_init (hr.mono (by first | decide | omega)) (by rfl) T.gGets T.bGets_init .nil pass0 (pa_cons (pv 4) pa_nil)) (pa_cons pe_int (pa_cons pe_bl pa_nil)))) (pa_cons (pe_tup (pa_cons (pe_make T.MGets GGets_init (hr.mono (by first | decide | omega)) (by rfl) T.gGets T.bGets_init .nil pass0 (pa_cons (pv 4) pa_nil)) (pa_cons (pe_un un_neg (pv 0)) (pa_cons pe_bl pa_nil)))) pa_nil)))))
      (pss_mid (ps_set (i := 6) sc__law_plans_right.nd rfl (Or.inl rfl) (pe_op op_cat (pv 6) (pe_lst (pa_cons (pe_tup (pa_cons (pe_make T.MGets GGets_init (hr.mono (by first | decide | omega)) (by rfl) T.gGets T.bGets_init .nil pass0 (pa_cons (pe_slice sl_list (pv 4) po_none (po_some pe_int)) pa_nil)) (pa_cons pe_int (pa_cons pe_bl pa_nil)))) (pa_cons (pe_tup (pa_cons (pe_make T.MGets GGets_init (hr.mono (by first | decide | omega)) (by rfl) T.gGets T.bGets_init .nil pass0 (pa_cons (pe_revL (pv 4)) pa_nil)) (pa_cons pe_int (pa_cons pe_bl pa_nil)))) pa_nil)))))
      (pss_mid (ps_set (i := 6) sc__law_plans_right.nd rfl (Or.inl rfl) (pe_op op_cat (pv 6) (pe_lst (pa_cons (pe_tup (pa_cons (pe_make T.MGets GGets_init (hr.mono (by first | decide | omega)) (by rfl) T.gGets T.bGets_init .nil pass0 (pa_cons (pe_op op_cat (pv 4) (pe_slice sl_list (pv 4) (po_some pe_int) po_none)) pa_nil)) (pa_cons pe_int (pa_cons pe_bl pa_nil)))) (pa_cons (pe_tup (pa_cons (pe_make T.MGets GGets_init (hr.mono (by first | decide | omega)) (by rfl) T.gGets T.bGets_init .nil pass0 (pa_cons (pe_op op_cat (pe_lst (pa_cons (pe_tup (pa_cons pe_int (pa_cons pe_int (pa_cons (pv 1) pa_nil)))) pa_nil)) (pv 4)) pa_nil)) (pa_cons pe_int (pa_cons pe_bl pa_nil)))) pa_nil)))))
      (pss_mid (ps_set (i := 6) sc__law_plans_right.nd rfl (Or.inl rfl) (pe_op op_cat (pv 6) (pe_lst (pa_cons (pe_tup (pa_cons (pe_make T.MGets GGets_init (hr.mono (by first | decide | omega)) (by rfl) T.gGets T.bGets_init .nil pass0 (pa_cons (pe_op op_cat (pe_lst (pa_cons (pe_tup (pa_cons pe_int (pa_cons pe_int (pa_cons (pv 1) pa_nil)))) pa_nil)) (pv 4)) pa_nil)) (pa_cons pe_int (pa_cons pe_bl pa_nil)))) pa_nil))))
      (pss_mid (ps_set (i := 6) sc__law_plans_right.nd rfl (Or.inl rfl) (pe_op op_cat (pv 6) (pe_lst (pa_cons (pe_tup (pa_cons (pe_make T.MGets GGets_init (hr.mono (by first | decide | omega)) (by rfl) T.gGets T.bGets_init .nil pass0 (pa_cons (pe_op op_cat (pe_op op_cat (pe_slice sl_list (pv 4) po_none (po_some pe_int)) (pe_lst (pa_cons (pe_tup (pa_cons pe_int (pa_cons pe_int (pa_cons (pv 1) pa_nil)))) pa_nil))) (pe_slice sl_list (pv 4) (po_some pe_int) po_none)) pa_nil)) (pa_cons pe_int (pa_cons pe_bl pa_nil)))) pa_nil))))
      (pss_mid (ps_set (i := 6) sc__law_plans_right.nd rfl (Or.inl rfl) (pe_op op_cat (pv 6) (pe_lst (pa_cons (pe_tup (pa_cons (pe_make T.MGets GGets_init (hr.mono (by first | decide | omega)) (by rfl) T.gGets T.bGets_init .nil pass0 (pa_cons (pe_op op_cat (pe_slice sl_list (pv 4) po_none (po_some pe_int)) (pe_lst (pa_cons (pe_tup (pa_cons pe_int (pa_cons pe_int (pa_cons pe_str pa_nil)))) pa_nil))) pa_nil)) (pa_cons pe_int (pa_cons pe_bl pa_nil)))) pa_nil))))
      (pss_mid (ps_set (i := 6) sc__law_plans_right.nd rfl (Or.inl rfl) (pe_op op_cat (pv 6) (pe_lst (pa_cons (pe_tup (pa_cons (pe_make T.MGets GGets_init (hr.mono (by first | decide | omega)) (by rfl) T.gGets T.bGets_init .nil pass0 (pa_cons (pe_op op_cat (pe_lst (pa_cons (pe_tup (pa_cons pe_int (pa_cons pe_int (pa_cons (pv 2) pa_nil)))) pa_nil)) (pe_slice sl_list (pv 4) (po_some pe_int) po_none)) pa_nil)) (pa_cons pe_int (pa_cons pe_bl pa_nil)))) (pa_cons (pe_tup (pa_cons (pe_make T.MGets GGets_init (hr.mono (by first | decide | omega)) (by rfl) T.gGets T.bGets_init .nil pass0 (pa_cons (pe_lst pa_nil) pa_nil)) (pa_cons pe_int (pa_cons pe_bl pa_nil)))) pa_nil)))))
      (pss_mid (ps_set (i := 6) sc__law_plans_right.nd rfl (Or.inl rfl) (pe_op op_cat (pv 6) (pe_lst (pa_cons (pe_tup (pa_cons (pe_make T.MGets GGets_init (hr.mono (by first | decide | omega)) (by rfl) T.gGets T.bGets_init .nil pass0 (pa_cons (pe_op op_cat (pe_lst (pa_cons (pe_tup (pa_cons (pe_un un_neg pe_int) (pa_cons pe_int (pa_cons (pv 1) pa_nil)))) pa_nil)) (pv 4)) pa_nil)) (pa_cons pe_int (pa_cons pe_bl pa_nil)))) (pa_cons (pe_tup (pa_cons (pe_make T.MGets GGets_init (hr.mono (by first | decide | omega)) (by rfl) T.gGets T.bGets_init .nil pass0 (pa_cons (pv 5) pa_nil)) (pa_cons pe_int (pa_cons pe_bl pa_nil)))) pa_nil)))))
      (pss_mid (ps_set (i := 6) sc__law_plans_right.nd rfl (Or.inl rfl) (pe_op op_cat (pv 6) (pe_lst (pa_cons (pe_tup (pa_cons (pe_make T.MGets GGets_init (hr.mono (by first | decide | omega)) (by rfl) T.gGets T.bGets_init .nil pass0 (pa_cons (pe_op op_cat (pe_slice sl_list (pv 4) po_none (po_some pe_int)) (pe_lst (pa_cons (pe_tup (pa_cons pe_int (pa_cons pe_int (pa_cons (pv 2) pa_nil)))) (pa_cons (pe_tup (pa_cons pe_int (pa_cons pe_int (pa_cons (pv 1) pa_nil)))) pa_nil)))) pa_nil)) (pa_cons pe_int (pa_cons pe_bl pa_nil)))) pa_nil))))
      (pss_mid (ps_set (i := 6) sc__law_plans_right.nd rfl (Or.inl rfl) (pe_op op_cat (pv 6) (pe_lst (pa_cons (pe_tup (pa_cons (pe_make T.MHeld GHeld_init (hr.mono (by first | decide | omega)) (by rfl) T.gHeld T.bHeld_init .nil pass0 (pa_cons (pv 5) pa_nil)) (pa_cons pe_int (pa_cons pe_bl pa_nil)))) (pa_cons (pe_tup (pa_cons (pe_make T.MHeld GHeld_init (hr.mono (by first | decide | omega)) (by rfl) T.gHeld T.bHeld_init .nil pass0 (pa_cons (pv 5) pa_nil)) (pa_cons pe_int (pa_cons pe_bl pa_nil)))) (pa_cons (pe_tup (pa_cons (pe_make T.MHeld GHeld_init (hr.mono (by first | decide | omega)) (by rfl) T.gHeld T.bHeld_init .nil pass0 (pa_cons (pv 5) pa_nil)) (pa_cons (pe_op op_add (pv 0) pe_int) (pa_cons pe_bl pa_nil)))) pa_nil))))))
      (pss_mid (ps_set (i := 6) sc__law_plans_right.nd rfl (Or.inl rfl) (pe_op op_cat (pv 6) (pe_lst (pa_cons (pe_tup (pa_cons (pe_make T.MHeld GHeld_init (hr.mono (by first | decide | omega)) (by rfl) T.gHeld T.bHeld_init .nil pass0 (pa_cons (pe_slice sl_list (pv 5) po_none (po_some pe_int)) pa_nil)) (pa_cons pe_int (pa_cons pe_bl pa_nil)))) (pa_cons (pe_tup (pa_cons (pe_make T.MHeld GHeld_init (hr.mono (by first | decide | omega)) (by rfl) T.gHeld T.bHeld_init .nil pass0 (pa_cons (pe_revL (pv 5)) pa_nil)) (pa_cons pe_int (pa_cons pe_bl pa_nil)))) pa_nil)))))
      (pss_mid (ps_set (i := 6) sc__law_plans_right.nd rfl (Or.inl rfl) (pe_op op_cat (pv 6) (pe_lst (pa_cons (pe_tup (pa_cons (pe_make T.MHeld GHeld_init (hr.mono (by first | decide | omega)) (by rfl) T.gHeld T.bHeld_init .nil pass0 (pa_cons (pe_lst (pa_cons (pe_tup (pa_cons pe_int (pa_cons pe_int (pa_cons (pv 1) pa_nil)))) (pa_cons (pe_tup (pa_cons pe_int (pa_cons pe_int (pa_cons (pv 1) pa_nil)))) pa_nil))) pa_nil)) (pa_cons pe_int (pa_cons pe_bl pa_nil)))) pa_nil))))
      (pss_mid (ps_set (i := 6) sc__law_plans_right.nd rfl (Or.inl rfl) (pe_op op_cat (pv 6) (pe_lst (pa_cons (pe_tup (pa_cons (pe_make T.MHeld GHeld_init (hr.mono (by first | decide | omega)) (by rfl) T.gHeld T.bHeld_init .nil pass0 (pa_cons (pe_lst (pa_cons (pe_tup (pa_cons pe_int (pa_cons pe_int (pa_cons (pv 1) pa_nil)))) (pa_cons (pe_tup (pa_cons pe_int (pa_cons pe_int (pa_cons (pv 1) pa_nil)))) pa_nil))) pa_nil)) (pa_cons pe_int (pa_cons pe_bl pa_nil)))) (pa_cons (pe_tup (pa_cons (pe_make T.MHeld GHeld_init (hr.mono (by first | decide | omega)) (by rfl) T.gHeld T.bHeld_init .nil pass0 (pa_cons (pe_lst pa_nil) pa_nil)) (pa_cons (pe_op op_add (pv 0) pe_int) (pa_cons pe_bl pa_nil)))) pa_nil)))))
      (pss_mid (ps_set (i := 6) sc__law_plans_right.nd rfl (Or.inl rfl) (pe_op op_cat (pv 6) (pe_lst (pa_cons (pe_tup (pa_cons (pe_make T.MHeld GHeld_init (hr.mono (by first | decide | omega)) (by rfl) T.gHeld T.bHeld_init .nil pass0 (pa_cons (pe_op op_cat (pv 5) (pe_lst (pa_cons (pe_tup (pa_cons pe_int (pa_cons pe_int (pa_cons (pv 1) pa_nil)))) pa_nil))) pa_nil)) (pa_cons pe_int (pa_cons pe_bl pa_nil)))) pa_nil))))
      (pss_mid (ps_if (pt_val (pe_callB (cr_any rfl) (by rfl) T.bany (by decide +kernel) (pa_cons (pe_lc (own := [("_law_answer", 10), ("_law_least", 7), ("_law_due", 11)]) (by rfl) sc__law_plans_right.nd (pi_list (pv 6)) (blkOk_by (own := [("_law_answer", 10), ("_law_least", 7), ("_law_due", 11)]) (N := N__law_plans_right) (sc := defScope s__law_plans_right) (by decide +kernel)) (fun _ _ _ _ _ => (show PG _ _ (gTup K 3 _) from pg_tup rfl (pgs_cons (pg_name (i := 10) sc__law_plans_right.nd rfl (Or.inl rfl)) (pgs_cons (pg_name (i := 7) sc__law_plans_right.nd rfl (Or.inl rfl)) (pgs_cons (pg_name (i := 11) sc__law_plans_right.nd rfl (Or.inl rfl)) pgs_nil))))) (fun _ _ _ _ _ => pts_nil) (fun _ _ _ _ _ => (pe_cmpR op_ne (pe_meth2 (pv 10) T.clGets T.mGets_shows GGets_shows T.bGets_shows T.clHeld T.mHeld_shows GHeld_shows T.bHeld_shows (hr.mono (by first | decide | omega)) pass0 (pa_cons (pv 3) (pa_cons (pv 7) pa_nil))) (pv 11) (nomark _)))) pa_nil))) (pss_one (ps_ret pe_bl)) pss_nil)
      (pss_mid (ps_set (i := 6) sc__law_plans_right.nd rfl (Or.inl rfl) (pe_lst (pa_cons (pe_tup (pa_cons (pe_make T.MGets GGets_init (hr.mono (by first | decide | omega)) (by rfl) T.gGets T.bGets_init .nil pass0 (pa_cons (pe_lst pa_nil) pa_nil)) (pa_cons pe_int (pa_cons pe_bl pa_nil)))) (pa_cons (pe_tup (pa_cons (pe_make T.MGets GGets_init (hr.mono (by first | decide | omega)) (by rfl) T.gGets T.bGets_init .nil pass0 (pa_cons (pe_lst pa_nil) pa_nil)) (pa_cons pe_int (pa_cons pe_bl pa_nil)))) (pa_cons (pe_tup (pa_cons (pe_make T.MHeld GHeld_init (hr.mono (by first | decide | omega)) (by rfl) T.gHeld T.bHeld_init .nil pass0 (pa_cons (pe_lst pa_nil) pa_nil)) (pa_cons pe_int (pa_cons pe_bl pa_nil)))) pa_nil)))))
      (pss_mid (ps_set (i := 6) sc__law_plans_right.nd rfl (Or.inl rfl) (pe_op op_cat (pv 6) (pe_lst (pa_cons (pe_tup (pa_cons (pe_make T.MHeld GHeld_init (hr.mono (by first | decide | omega)) (by rfl) T.gHeld T.bHeld_init .nil pass0 (pa_cons (pe_lst pa_nil) pa_nil)) (pa_cons pe_int (pa_cons pe_bl pa_nil)))) (pa_cons (pe_tup (pa_cons (pe_make T.MGets GGets_init (hr.mono (by first | decide | omega)) (by rfl) T.gGets T.bGets_init .nil pass0 (pa_cons (pe_lst pa_nil) pa_nil)) (pa_cons (pe_un un_neg (pv 0)) (pa_cons pe_bl pa_nil)))) (pa_cons (pe_tup (pa_cons (pe_make T.MGets GGets_init (hr.mono (by first | decide | omega)) (by rfl) T.gGets T.bGets_init .nil pass0 (pa_cons (pe_lst (pa_cons (pe_tup (pa_cons pe_int (pa_cons pe_int (pa_cons (pv 1) pa_nil)))) pa_nil)) pa_nil)) (pa_cons pe_int (pa_cons pe_bl pa_nil)))) pa_nil))))))
      (pss_mid (ps_if (pt_val (pe_callB (cr_any rfl) (by rfl) T.bany (by decide +kernel) (pa_cons (pe_lc (own := [("_law_answer", 10), ("_law_least", 7), ("_law_due", 11)]) (by rfl) sc__law_plans_right.nd (pi_list (pv 6)) (blkOk_by (own := [("_law_answer", 10), ("_law_least", 7), ("_law_due", 11)]) (N := N__law_plans_right) (sc := defScope s__law_plans_right) (by decide +kernel)) (fun _ _ _ _ _ => (show PG _ _ (gTup K 3 _) from pg_tup rfl (pgs_cons (pg_name (i := 10) sc__law_plans_right.nd rfl (Or.inl rfl)) (pgs_cons (pg_name (i := 7) sc__law_plans_right.nd rfl (Or.inl rfl)) (pgs_cons (pg_name (i := 11) sc__law_plans_right.nd rfl (Or.inl rfl)) pgs_nil))))) (fun _ _ _ _ _ => pts_nil) (fun _ _ _ _ _ => (pe_cmpR op_ne (pe_meth2 (pv 10) T.clGets T.mGets_shows GGets_shows T.bGets_shows T.clHeld T.mHeld_shows GHeld_shows T.bHeld_shows (hr.mono (by first | decide | omega)) pass0 (pa_cons (pe_lst pa_nil) (pa_cons (pv 7) pa_nil))) (pv 11) (nomark _)))) pa_nil))) (pss_one (ps_ret pe_bl)) pss_nil)
      (pss_mid (ps_if (PW.pt (pw_or (pt_not (pt_val (pe_meth2 (pe_make T.MGets GGets_init (hr.mono (by first | decide | omega)) (by rfl) T.gGets T.bGets_init .nil pass0 (pa_cons (pe_lst (pa_cons (pe_tup (pa_cons pe_int (pa_cons pe_int (pa_cons (pv 2) pa_nil)))) pa_nil)) pa_nil)) T.clGets T.mGets_shows GGets_shows T.bGets_shows T.clHeld T.mHeld_shows GHeld_shows T.bHeld_shows (hr.mono (by first | decide | omega)) pass0 (pa_cons (pe_lst (pa_cons (pv 0) pa_nil)) (pa_cons (pv 0) pa_nil))))) (pw_or1 (pt_not (pt_val (pe_meth2 (pe_make T.MHeld GHeld_init (hr.mono (by first | decide | omega)) (by rfl) T.gHeld T.bHeld_init .nil pass0 (pa_cons (pe_lst pa_nil) pa_nil)) T.clGets T.mGets_shows GGets_shows T.bGets_shows T.clHeld T.mHeld_shows GHeld_shows T.bHeld_shows (hr.mono (by first | decide | omega)) pass0 (pa_cons (pe_lst (pa_cons (pv 0) pa_nil)) (pa_cons (pe_op op_add (pv 0) pe_int) pa_nil)))))))) (pss_one (ps_ret pe_bl)) pss_nil)
      (pss_mid (ps_if (pt_val (pe_meth2 (pe_make T.MGets GGets_init (hr.mono (by first | decide | omega)) (by rfl) T.gGets T.bGets_init .nil pass0 (pa_cons (pe_lst (pa_cons (pe_tup (pa_cons pe_int (pa_cons pe_int (pa_cons (pv 1) pa_nil)))) pa_nil)) pa_nil)) T.clGets T.mGets_shows GGets_shows T.bGets_shows T.clHeld T.mHeld_shows GHeld_shows T.bHeld_shows (hr.mono (by first | decide | omega)) pass0 (pa_cons (pe_lst (pa_cons (pv 0) pa_nil)) (pa_cons (pe_op op_add (pv 0) pe_int) pa_nil)))) (pss_one (ps_ret pe_bl)) pss_nil)
      (pss_mid (ps_for PassesOwn.never rfl (pi_tup (pe_tup (pa_cons (pv 3) (pa_cons (pe_lst pa_nil) (pa_cons (pe_lst (pa_cons (pv 0) pa_nil)) (pa_cons (pe_lst (pa_cons pe_int (pa_cons pe_int (pa_cons pe_int pa_nil)))) (pa_cons (pe_lst (pa_cons (pv 0) (pa_cons pe_int (pa_cons (pv 0) (pa_cons pe_int pa_nil))))) (pa_cons (pe_lst (pa_cons pe_int (pa_cons pe_int (pa_cons pe_int (pa_cons pe_int (pa_cons pe_int (pa_cons pe_int (pa_cons pe_int (pa_cons pe_int (pa_cons pe_int (pa_cons pe_int (pa_cons pe_int (pa_cons pe_int pa_nil))))))))))))) pa_nil)))))))) (pg_name (i := 8) sc__law_plans_right.nd rfl (Or.inl rfl))
      (pss_one (ps_for PassesOwn.never rfl (pi_tup (pe_tup (pa_cons (pe_call Gworth (hr.mono (by first | decide | omega)) (by rfl) T.gworth T.Fworth.kp T.bworth .nil passL (pa_cons (pv 8) pa_nil)) (pa_cons (pe_op op_add (pe_call Gworth (hr.mono (by first | decide | omega)) (by rfl) T.gworth T.Fworth.kp T.bworth .nil passL (pa_cons (pv 8) pa_nil)) pe_int) (pa_cons (pe_un un_neg (pe_op op_pow pe_int pe_int)) (pa_cons (pe_op op_pow pe_int pe_int) (pa_cons pe_int pa_nil))))))) (pg_name (i := 7) sc__law_plans_right.nd rfl (Or.inl rfl))
      (pss_mid (ps_set (i := 9) sc__law_plans_right.nd rfl (Or.inl rfl) (pe_call Gjudged (hr.mono (by first | decide | omega)) (by rfl) T.gjudged T.Fjudged.kp T.bjudged .nil passL (pa_cons (pv 8) (pa_cons (pv 7) pa_nil))))
      (pss_one (ps_if (PW.pt (pw_or (pt_cmpR op_ne (pe_callB call_isi (by rfl) T.bisinstance (by decide +kernel) (pa_cons (pv 9) (pa_cons (pe_glob (v := .ref A.C_Gets) (by rfl) T.gGets rfl) pa_nil))) (pe_cmpR op_le (pv 7) (pe_call Gworth (hr.mono (by first | decide | omega)) (by rfl) T.gworth T.Fworth.kp T.bworth .nil passL (pa_cons (pv 8) pa_nil)) (nomark _)) (nomark _)) (pw_or1 (pt_not (pt_val (pe_meth2 (pv 9) T.clGets T.mGets_shows GGets_shows T.bGets_shows T.clHeld T.mHeld_shows GHeld_shows T.bHeld_shows (hr.mono (by first | decide | omega)) pass0 (pa_cons (pv 8) (pa_cons (pv 7) pa_nil)))))))) (pss_one (ps_ret pe_bl)) pss_nil))))))
      (pss_one (ps_ret pe_bl))))))))))))))))))))))))), ?_⟩
    refine ⟨_, ?_, fun _ _ h => h⟩
    refine ⟨(by show 3 ≤ sizeLine; decide), fun p1 np1 => gen_heap np1 fun H2 sH2 hp1 => ?_⟩
    refine ⟨(by show 3 ≤ sizeLine; decide), fun p3 np3 => gen_heap np3 fun H4 sH4 hp3 => ?_⟩
    refine ⟨p3, _, rfl, (SqT.of hp3), rfl, _, _, rfl, _, _, rfl, _, _, rfl, rfl, ?_⟩
    refine ⟨_, ?_, fun _ _ h => h⟩
    refine ⟨_, rfl, (by show 3 ≤ sizeLine; decide), fun p5 np5 => gen_heap np5 fun H6 sH6 hp5 => ?_⟩
    refine ⟨_, rfl, (by show 3 ≤ sizeLine; decide), fun p7 np7 => gen_heap np7 fun H8 sH8 hp7 => ?_⟩
    refine ⟨_, rfl, (by show 3 ≤ sizeLine; decide), fun p9 np9 => gen_heap np9 fun H10 sH10 hp9 => ?_⟩
    refine ⟨(by show 3 ≤ sizeLine; decide), fun p11 np11 => gen_heap np11 fun H12 sH12 hp11 => ?_⟩
    refine ⟨_, rfl, (by show 3 ≤ sizeLine; decide), fun p13 np13 => gen_heap np13 fun H14 sH14 hp13 => ?_⟩
    refine ⟨_, rfl, (by show 3 ≤ sizeLine; decide), fun p15 np15 => gen_heap np15 fun H16 sH16 hp15 => ?_⟩
    refine ⟨(by show 2 ≤ sizeLine; decide), fun p17 np17 => gen_heap np17 fun H18 sH18 hp17 => ?_⟩
    refine ⟨_, _, rfl, ?_⟩
    have h19 := (sH18 _ _ (sH16 _ _ (sH14 _ _ (sH12 _ _ (sH10 _ _ (sH8 _ _ (sH6 _ _ (sH4 _ _ hp1))))))))
    have h20 := (sH18 _ _ (sH16 _ _ (sH14 _ _ (sH12 _ _ (sH10 _ _ (sH8 _ _ hp5))))))
    have h21 := (sH18 _ _ (sH16 _ _ (sH14 _ _ (sH12 _ _ (sH10 _ _ hp7)))))
    have h22 := (sH18 _ _ (sH16 _ _ (sH14 _ _ (sH12 _ _ hp9))))
    have h23 := (sH18 _ _ (sH16 _ _ (sH14 _ _ hp11)))
    have h24 := (sH18 _ _ (sH16 _ _ hp13))
    have h25 := (sH18 _ _ hp15)
    refine ⟨fun σ1 K1 => ∃ (cs : Addr) (xs : List V), σ1 = [some (V.int n), some (V.str "left"), some (V.str "right"), some (V.ref p1), some (V.ref p11), some (V.ref p17), some (V.ref cs), none, none, none, none, none] ∧ Same H18 K1 ∧ K1 cs = some (.lst xs) ∧ (∀ x ∈ xs, PCase A.C_Gets A.C_Held [3, 1, 2] K1 x) ∧ xs.length = 3, ?_, ?_⟩
    · skip
      refine ⟨_, rfl, fun o26 dx27 no26 ndx27 neo26 => ?_⟩
      have smo26 := same_make (C := A.C_Gets) no26 ndx27
      refine ⟨o26, p11, dx27, _, rfl, upd_same, smo26.seq (SqL.of h23), fun H29 m28 bH29 nm28 ho26 hm28 => ⟨rfl, ?_⟩⟩
      have sH29 : Same H18 H29 := fun b u e => bH29 _ _ (ne_of_none e no26) (smo26 _ _ e)
      have nnm28 : H18 m28 = none := smo26.free nm28
      refine ⟨(by show 3 ≤ sizeLine; decide), fun p30 np30 => gen_heap np30 fun H31 sH31 hp30 => ?_⟩
      have h36 := (sH31 _ _ (sH29 _ _ h23))
      refine ⟨_, rfl, fun o32 dx33 no32 ndx33 neo32 => ?_⟩
      have smo32 := same_make (C := A.C_Gets) no32 ndx33
      refine ⟨o32, p11, dx33, _, rfl, upd_same, smo32.seq (SqL.of h36), fun H35 m34 bH35 nm34 ho32 hm34 => ⟨rfl, ?_⟩⟩
      have sH35 : Same H31 H35 := fun b u e => bH35 _ _ (ne_of_none e no32) (smo32 _ _ e)
      have nnm34 : H31 m34 = none := smo32.free nm34
      refine ⟨(by show 3 ≤ sizeLine; decide), fun p37 np37 => gen_heap np37 fun H38 sH38 hp37 => ?_⟩
      have h43 := (sH38 _ _ (sH35 _ _ h36))
      refine ⟨_, rfl, fun o39 dx40 no39 ndx40 neo39 => ?_⟩
      have smo39 := same_make (C := A.C_Gets) no39 ndx40
      refine ⟨o39, p11, dx40, _, rfl, upd_same, smo39.seq (SqL.of h43), fun H42 m41 bH42 nm41 ho39 hm41 => ⟨rfl, ?_⟩⟩
      have sH42 : Same H38 H42 := fun b u e => bH42 _ _ (ne_of_none e no39) (smo39 _ _ e)
      have nnm41 : H38 m41 = none := smo39.free nm41
      refine ⟨_, rfl, _, rfl, (by show 3 ≤ sizeLine; decide), fun p44 np44 => gen_heap np44 fun H45 sH45 hp44 => ?_⟩
      refine ⟨(by show 3 ≤ sizeLine; decide), fun p46 np46 => gen_heap np46 fun H47 sH47 hp46 => ?_⟩
      have h48 := (sH47 _ _ (sH45 _ _ (sH42 _ _ (sH38 _ _ (sH35 _ _ (sH31 _ _ (sH29 _ _ h22)))))))
      have h49 := (sH47 _ _ (sH45 _ _ (sH42 _ _ (sH38 _ _ (sH35 _ _ (sH31 _ _ (sH29 _ _ h21)))))))
      have h50 := (sH47 _ _ (sH45 _ _ (sH42 _ _ (sH38 _ _ (sH35 _ _ (sH31 _ _ (sH29 _ _ h20)))))))
      have h51 := (sH47 _ _ (sH45 _ _ (sH42 _ _ (sH38 _ _ (sH35 _ _ hp30)))))
      have h52 := (sH47 _ _ (sH45 _ _ (sH42 _ _ (sH38 _ _ (sH35 _ _ (sH31 _ _ ho26))))))
      have h53 := (sH47 _ _ (sH45 _ _ (sH42 _ _ (sH38 _ _ (sH35 _ _ (sH31 _ _ hm28))))))
      have h54 := (sH47 _ _ (sH45 _ _ (sH42 _ _ hp37)))
      have h55 := (sH47 _ _ (sH45 _ _ (sH42 _ _ (sH38 _ _ ho32))))
      have h56 := (sH47 _ _ (sH45 _ _ (sH42 _ _ (sH38 _ _ hm34))))
      have e57 : showsV [3, 1, 2] ([(0, 3, "left"), (1, 2, "left"), (2, 3, "right")] : List Tri) true (-n) = true := by
        have e0 : plannedV [3, 1, 2] ([(0, 3, "left"), (1, 2, "left"), (2, 3, "right")] : List Tri) true = some 2 := by decide +kernel
        unfold showsV
        rw [e0]
        first | done | rfl | (simp; done) | (simp; omega)
      have h58 := (sH47 _ _ hp44)
      have h59 := (sH47 _ _ (sH45 _ _ ho39))
      have h60 := (sH47 _ _ (sH45 _ _ hm41))
      exact ⟨p46, _, rfl, (fun b o e => (sH47 _ _ (sH45 _ _ (sH42 _ _ (sH38 _ _ (sH35 _ _ (sH31 _ _ (sH29 _ _ e)))))))), hp46, (each_cons ⟨p30, o26, m28, _, _, ([(0, 3, "left"), (1, 2, "left"), (2, 3, "right")] : List Tri), true, 2, true, rfl, h51, h52, h53, (Tris.cons (t := ((0, 3, "left") : Tri)) h50 (Tris.cons (t := ((1, 2, "left") : Tri)) h49 (Tris.cons (t := ((2, 3, "right") : Tri)) h48 Tris.nil))), (by show 3 ≤ 10000; decide), (by decide +kernel)⟩ (each_cons ⟨p37, o32, m34, _, _, ([(0, 3, "left"), (1, 2, "left"), (2, 3, "right")] : List Tri), true, 3, false, rfl, h54, h55, h56, (Tris.cons (t := ((0, 3, "left") : Tri)) h50 (Tris.cons (t := ((1, 2, "left") : Tri)) h49 (Tris.cons (t := ((2, 3, "right") : Tri)) h48 Tris.nil))), (by show 3 ≤ 10000; decide), (by decide +kernel)⟩ (each_cons ⟨p44, o39, m41, _, _, ([(0, 3, "left"), (1, 2, "left"), (2, 3, "right")] : List Tri), true, (-n), true, rfl, h58, h59, h60, (Tris.cons (t := ((0, 3, "left") : Tri)) h50 (Tris.cons (t := ((1, 2, "left") : Tri)) h49 (Tris.cons (t := ((2, 3, "right") : Tri)) h48 Tris.nil))), (by show 3 ≤ 10000; decide), e57⟩ each_nil))), rfl⟩
    rintro σ1 Hm ⟨cs, xs, rfl, sm, hcs, hP, hlen⟩
    refine ⟨fun σ1 K1 => ∃ (cs : Addr) (xs : List V), σ1 = [some (V.int n), some (V.str "left"), some (V.str "right"), some (V.ref p1), some (V.ref p11), some (V.ref p17), some (V.ref cs), none, none, none, none, none] ∧ Same H18 K1 ∧ K1 cs = some (.lst xs) ∧ (∀ x ∈ xs, PCase A.C_Gets A.C_Held [3, 1, 2] K1 x) ∧ xs.length = 5, ?_, ?_⟩
    · skip
      have h61 := (sm _ _ h23)
      refine ⟨_, rfl, _, rfl, 2, rfl, p11, _, rfl, (SqL.of h61), fun p62 np62 => gen_heap np62 fun H63 sH63 hp62 => ?_⟩
      replace hp62 : H63 p62 = some (.lst [V.ref p5, V.ref p7]) := hp62
      refine fun o64 dx65 no64 ndx65 neo64 => ?_
      have smo64 := same_make (C := A.C_Gets) no64 ndx65
      refine ⟨o64, p62, dx65, _, rfl, upd_same, smo64.seq (SqL.of hp62), fun H67 m66 bH67 nm66 ho64 hm66 => ⟨rfl, ?_⟩⟩
      have sH67 : Same H63 H67 := fun b u e => bH67 _ _ (ne_of_none e no64) (smo64 _ _ e)
      have nnm66 : H63 m66 = none := smo64.free nm66
      refine ⟨(by show 3 ≤ sizeLine; decide), fun p68 np68 => gen_heap np68 fun H69 sH69 hp68 => ?_⟩
      have h70 := (sH69 _ _ (sH67 _ _ (sH63 _ _ h61)))
      refine ⟨_, rfl, p11, _, rfl, (SqL.of h70), fun p71 np71 => gen_heap np71 fun H72 sH72 hp71 => ?_⟩
      refine fun o73 dx74 no73 ndx74 neo73 => ?_
      have smo73 := same_make (C := A.C_Gets) no73 ndx74
      refine ⟨o73, p71, dx74, _, rfl, upd_same, smo73.seq (SqL.of hp71), fun H76 m75 bH76 nm75 ho73 hm75 => ⟨rfl, ?_⟩⟩
      have sH76 : Same H72 H76 := fun b u e => bH76 _ _ (ne_of_none e no73) (smo73 _ _ e)
      have nnm75 : H72 m75 = none := smo73.free nm75
      refine ⟨(by show 3 ≤ sizeLine; decide), fun p77 np77 => gen_heap np77 fun H78 sH78 hp77 => ?_⟩
      refine ⟨(by show 2 ≤ sizeLine; decide), fun p79 np79 => gen_heap np79 fun H80 sH80 hp79 => ?_⟩
      have h81 := (sH80 _ _ (sH78 _ _ (sH76 _ _ (sH72 _ _ (sH69 _ _ (sH67 _ _ (sH63 _ _ hcs)))))))
      refine ⟨cs, p79, _, _, rfl, rfl, h81, hp79, (by show xs.length + 2 ≤ sizeLine; rw [hlen]; decide), fun p82 np82 => gen_heap np82 fun H83 sH83 hp82 => ?_⟩
      have h84 := (sH83 _ _ (sH80 _ _ (sH78 _ _ (sH76 _ _ (sH72 _ _ (sH69 _ _ (sH67 _ _ (sH63 _ _ (sm _ _ h21)))))))))
      have h85 := (sH83 _ _ (sH80 _ _ (sH78 _ _ (sH76 _ _ (sH72 _ _ (sH69 _ _ (sH67 _ _ (sH63 _ _ (sm _ _ h20)))))))))
      have h86 := (sH83 _ _ (sH80 _ _ (sH78 _ _ (sH76 _ _ (sH72 _ _ hp68)))))
      have h87 := (sH83 _ _ (sH80 _ _ (sH78 _ _ (sH76 _ _ (sH72 _ _ (sH69 _ _ ho64))))))
      have h88 := (sH83 _ _ (sH80 _ _ (sH78 _ _ (sH76 _ _ (sH72 _ _ (sH69 _ _ hm66))))))
      have h89 := (sH83 _ _ (sH80 _ _ (sH78 _ _ (sH76 _ _ (sH72 _ _ (sH69 _ _ (sH67 _ _ (sH63 _ _ (sm _ _ h22)))))))))
      have h90 := (sH83 _ _ (sH80 _ _ hp77))
      have h91 := (sH83 _ _ (sH80 _ _ (sH78 _ _ ho73)))
      have h92 := (sH83 _ _ (sH80 _ _ (sH78 _ _ hm75)))
      exact ⟨p82, _, rfl, (fun b o e => (sH83 _ _ (sH80 _ _ (sH78 _ _ (sH76 _ _ (sH72 _ _ (sH69 _ _ (sH67 _ _ (sH63 _ _ (sm _ _ e)))))))))), hp82, each_app (fun x hx => (hP x hx).mono (fun b o e => (sH83 _ _ (sH80 _ _ (sH78 _ _ (sH76 _ _ (sH72 _ _ (sH69 _ _ (sH67 _ _ (sH63 _ _ e)))))))))) (each_cons ⟨p68, o64, m66, _, _, ([(0, 3, "left"), (1, 2, "left")] : List Tri), true, 2, false, rfl, h86, h87, h88, (Tris.cons (t := ((0, 3, "left") : Tri)) h85 (Tris.cons (t := ((1, 2, "left") : Tri)) h84 Tris.nil)), (by show 2 ≤ 10000; decide), (by decide +kernel)⟩ (each_cons ⟨p77, o73, m75, _, _, ([(2, 3, "right"), (1, 2, "left"), (0, 3, "left")] : List Tri), true, 2, false, rfl, h90, h91, h92, (Tris.cons (t := ((2, 3, "right") : Tri)) h89 (Tris.cons (t := ((1, 2, "left") : Tri)) h84 (Tris.cons (t := ((0, 3, "left") : Tri)) h85 Tris.nil))), (by show 3 ≤ 10000; decide), (by decide +kernel)⟩ each_nil)), (by rw [List.length_append, hlen]; rfl)⟩
    rintro σ1 Hm ⟨cs, xs, rfl, sm, hcs, hP, hlen⟩
    refine ⟨fun σ1 K1 => ∃ (cs : Addr) (xs : List V), σ1 = [some (V.int n), some (V.str "left"), some (V.str "right"), some (V.ref p1), some (V.ref p11), some (V.ref p17), some (V.ref cs), none, none, none, none, none] ∧ Same H18 K1 ∧ K1 cs = some (.lst xs) ∧ (∀ x ∈ xs, PCase A.C_Gets A.C_Held [3, 1, 2] K1 x) ∧ xs.length = 7, ?_, ?_⟩
    · skip
      have h93 := (sm _ _ h23)
      refine ⟨_, rfl, _, rfl, _, rfl, 2, rfl, p11, _, rfl, (SqL.of h93), fun p94 np94 => gen_heap np94 fun H95 sH95 hp94 => ?_⟩
      replace hp94 : H95 p94 = some (.lst [V.ref p9]) := hp94
      have h96 := (sH95 _ _ h93)
      refine ⟨p11, p94, _, _, rfl, rfl, h96, hp94, (by show 3 + 1 ≤ sizeLine; decide), fun p97 np97 => gen_heap np97 fun H98 sH98 hp97 => ?_⟩
      refine fun o99 dx100 no99 ndx100 neo99 => ?_
      have smo99 := same_make (C := A.C_Gets) no99 ndx100
      refine ⟨o99, p97, dx100, _, rfl, upd_same, smo99.seq (SqL.of hp97), fun H102 m101 bH102 nm101 ho99 hm101 => ⟨rfl, ?_⟩⟩
      have sH102 : Same H98 H102 := fun b u e => bH102 _ _ (ne_of_none e no99) (smo99 _ _ e)
      have nnm101 : H98 m101 = none := smo99.free nm101
      refine ⟨(by show 3 ≤ sizeLine; decide), fun p103 np103 => gen_heap np103 fun H104 sH104 hp103 => ?_⟩
      refine ⟨_, rfl, (by show 3 ≤ sizeLine; decide), fun p105 np105 => gen_heap np105 fun H106 sH106 hp105 => ?_⟩
      refine ⟨(by show 1 ≤ sizeLine; decide), fun p107 np107 => gen_heap np107 fun H108 sH108 hp107 => ?_⟩
      have h109 := (sH108 _ _ (sH106 _ _ (sH104 _ _ (sH102 _ _ (sH98 _ _ h96)))))
      refine ⟨_, rfl, p107, p11, _, _, rfl, rfl, hp107, h109, (by show 1 + 3 ≤ sizeLine; decide), fun p110 np110 => gen_heap np110 fun H111 sH111 hp110 => ?_⟩
      refine fun o112 dx113 no112 ndx113 neo112 => ?_
      have smo112 := same_make (C := A.C_Gets) no112 ndx113
      refine ⟨o112, p110, dx113, _, rfl, upd_same, smo112.seq (SqL.of hp110), fun H115 m114 bH115 nm114 ho112 hm114 => ⟨rfl, ?_⟩⟩
      have sH115 : Same H111 H115 := fun b u e => bH115 _ _ (ne_of_none e no112) (smo112 _ _ e)
      have nnm114 : H111 m114 = none := smo112.free nm114
      refine ⟨(by show 3 ≤ sizeLine; decide), fun p116 np116 => gen_heap np116 fun H117 sH117 hp116 => ?_⟩
      refine ⟨(by show 2 ≤ sizeLine; decide), fun p118 np118 => gen_heap np118 fun H119 sH119 hp118 => ?_⟩
      have h120 := (sH119 _ _ (sH117 _ _ (sH115 _ _ (sH111 _ _ (sH108 _ _ (sH106 _ _ (sH104 _ _ (sH102 _ _ (sH98 _ _ (sH95 _ _ hcs))))))))))
      refine ⟨cs, p118, _, _, rfl, rfl, h120, hp118, (by show xs.length + 2 ≤ sizeLine; rw [hlen]; decide), fun p121 np121 => gen_heap np121 fun H122 sH122 hp121 => ?_⟩
      have h123 := (sH122 _ _ (sH119 _ _ (sH117 _ _ (sH115 _ _ (sH111 _ _ (sH108 _ _ (sH106 _ _ (sH104 _ _ (sH102 _ _ (sH98 _ _ (sH95 _ _ (sm _ _ h22))))))))))))
      have h124 := (sH122 _ _ (sH119 _ _ (sH117 _ _ (sH115 _ _ (sH111 _ _ (sH108 _ _ (sH106 _ _ (sH104 _ _ (sH102 _ _ (sH98 _ _ (sH95 _ _ (sm _ _ h21))))))))))))
      have h125 := (sH122 _ _ (sH119 _ _ (sH117 _ _ (sH115 _ _ (sH111 _ _ (sH108 _ _ (sH106 _ _ (sH104 _ _ (sH102 _ _ (sH98 _ _ (sH95 _ _ (sm _ _ h20))))))))))))
      have h126 := (sH122 _ _ (sH119 _ _ (sH117 _ _ (sH115 _ _ (sH111 _ _ (sH108 _ _ (sH106 _ _ hp103)))))))
      have h127 := (sH122 _ _ (sH119 _ _ (sH117 _ _ (sH115 _ _ (sH111 _ _ (sH108 _ _ (sH106 _ _ (sH104 _ _ ho99))))))))
      have h128 := (sH122 _ _ (sH119 _ _ (sH117 _ _ (sH115 _ _ (sH111 _ _ (sH108 _ _ (sH106 _ _ (sH104 _ _ hm101))))))))
      have h129 := (sH122 _ _ (sH119 _ _ (sH117 _ _ (sH115 _ _ (sH111 _ _ (sH108 _ _ hp105))))))
      have h130 := (sH122 _ _ (sH119 _ _ hp116))
      have h131 := (sH122 _ _ (sH119 _ _ (sH117 _ _ ho112)))
      have h132 := (sH122 _ _ (sH119 _ _ (sH117 _ _ hm114)))
      exact ⟨p121, _, rfl, (fun b o e => (sH122 _ _ (sH119 _ _ (sH117 _ _ (sH115 _ _ (sH111 _ _ (sH108 _ _ (sH106 _ _ (sH104 _ _ (sH102 _ _ (sH98 _ _ (sH95 _ _ (sm _ _ e))))))))))))), hp121, each_app (fun x hx => (hP x hx).mono (fun b o e => (sH122 _ _ (sH119 _ _ (sH117 _ _ (sH115 _ _ (sH111 _ _ (sH108 _ _ (sH106 _ _ (sH104 _ _ (sH102 _ _ (sH98 _ _ (sH95 _ _ e))))))))))))) (each_cons ⟨p103, o99, m101, _, _, ([(0, 3, "left"), (1, 2, "left"), (2, 3, "right"), (2, 3, "right")] : List Tri), true, 2, false, rfl, h126, h127, h128, (Tris.cons (t := ((0, 3, "left") : Tri)) h125 (Tris.cons (t := ((1, 2, "left") : Tri)) h124 (Tris.cons (t := ((2, 3, "right") : Tri)) h123 (Tris.cons (t := ((2, 3, "right") : Tri)) h123 Tris.nil)))), (by show 4 ≤ 10000; decide), (by decide +kernel)⟩ (each_cons ⟨p116, o112, m114, _, _, ([(0, 1, "left"), (0, 3, "left"), (1, 2, "left"), (2, 3, "right")] : List Tri), true, 2, true, rfl, h130, h131, h132, (Tris.cons (t := ((0, 1, "left") : Tri)) h129 (Tris.cons (t := ((0, 3, "left") : Tri)) h125 (Tris.cons (t := ((1, 2, "left") : Tri)) h124 (Tris.cons (t := ((2, 3, "right") : Tri)) h123 Tris.nil)))), (by show 4 ≤ 10000; decide), (by decide +kernel)⟩ each_nil)), (by rw [List.length_append, hlen]; rfl)⟩
    rintro σ1 Hm ⟨cs, xs, rfl, sm, hcs, hP, hlen⟩
    refine ⟨fun σ1 K1 => ∃ (cs : Addr) (xs : List V), σ1 = [some (V.int n), some (V.str "left"), some (V.str "right"), some (V.ref p1), some (V.ref p11), some (V.ref p17), some (V.ref cs), none, none, none, none, none] ∧ Same H18 K1 ∧ K1 cs = some (.lst xs) ∧ (∀ x ∈ xs, PCase A.C_Gets A.C_Held [3, 1, 2] K1 x) ∧ xs.length = 8, ?_, ?_⟩
    · skip
      refine ⟨_, rfl, _, rfl, (by show 3 ≤ sizeLine; decide), fun p133 np133 => gen_heap np133 fun H134 sH134 hp133 => ?_⟩
      refine ⟨(by show 1 ≤ sizeLine; decide), fun p135 np135 => gen_heap np135 fun H136 sH136 hp135 => ?_⟩
      have h137 := (sH136 _ _ (sH134 _ _ (sm _ _ h23)))
      refine ⟨_, rfl, p135, p11, _, _, rfl, rfl, hp135, h137, (by show 1 + 3 ≤ sizeLine; decide), fun p138 np138 => gen_heap np138 fun H139 sH139 hp138 => ?_⟩
      refine fun o140 dx141 no140 ndx141 neo140 => ?_
      have smo140 := same_make (C := A.C_Gets) no140 ndx141
      refine ⟨o140, p138, dx141, _, rfl, upd_same, smo140.seq (SqL.of hp138), fun H143 m142 bH143 nm142 ho140 hm142 => ⟨rfl, ?_⟩⟩
      have sH143 : Same H139 H143 := fun b u e => bH143 _ _ (ne_of_none e no140) (smo140 _ _ e)
      have nnm142 : H139 m142 = none := smo140.free nm142
      refine ⟨(by show 3 ≤ sizeLine; decide), fun p144 np144 => gen_heap np144 fun H145 sH145 hp144 => ?_⟩
      refine ⟨(by show 1 ≤ sizeLine; decide), fun p146 np146 => gen_heap np146 fun H147 sH147 hp146 => ?_⟩
      have h148 := (sH147 _ _ (sH145 _ _ (sH143 _ _ (sH139 _ _ (sH136 _ _ (sH134 _ _ hcs))))))
      refine ⟨cs, p146, _, _, rfl, rfl, h148, hp146, (by show xs.length + 1 ≤ sizeLine; rw [hlen]; decide), fun p149 np149 => gen_heap np149 fun H150 sH150 hp149 => ?_⟩
      have h151 := (sH150 _ _ (sH147 _ _ (sH145 _ _ (sH143 _ _ (sH139 _ _ (sH136 _ _ (sH134 _ _ (sm _ _ h22))))))))
      have h152 := (sH150 _ _ (sH147 _ _ (sH145 _ _ (sH143 _ _ (sH139 _ _ (sH136 _ _ (sH134 _ _ (sm _ _ h21))))))))
      have h153 := (sH150 _ _ (sH147 _ _ (sH145 _ _ (sH143 _ _ (sH139 _ _ (sH136 _ _ (sH134 _ _ (sm _ _ h20))))))))
      have h154 := (sH150 _ _ (sH147 _ _ (sH145 _ _ (sH143 _ _ (sH139 _ _ (sH136 _ _ hp133))))))
      have h155 := (sH150 _ _ (sH147 _ _ hp144))
      have h156 := (sH150 _ _ (sH147 _ _ (sH145 _ _ ho140)))
      have h157 := (sH150 _ _ (sH147 _ _ (sH145 _ _ hm142)))
      exact ⟨p149, _, rfl, (fun b o e => (sH150 _ _ (sH147 _ _ (sH145 _ _ (sH143 _ _ (sH139 _ _ (sH136 _ _ (sH134 _ _ (sm _ _ e))))))))), hp149, each_app (fun x hx => (hP x hx).mono (fun b o e => (sH150 _ _ (sH147 _ _ (sH145 _ _ (sH143 _ _ (sH139 _ _ (sH136 _ _ (sH134 _ _ e))))))))) (each_cons ⟨p144, o140, m142, _, _, ([(0, 4, "left"), (0, 3, "left"), (1, 2, "left"), (2, 3, "right")] : List Tri), true, 2, false, rfl, h155, h156, h157, (Tris.cons (t := ((0, 4, "left") : Tri)) h154 (Tris.cons (t := ((0, 3, "left") : Tri)) h153 (Tris.cons (t := ((1, 2, "left") : Tri)) h152 (Tris.cons (t := ((2, 3, "right") : Tri)) h151 Tris.nil)))), (by show 4 ≤ 10000; decide), (by decide +kernel)⟩ each_nil), (by rw [List.length_append, hlen]; rfl)⟩
    rintro σ1 Hm ⟨cs, xs, rfl, sm, hcs, hP, hlen⟩
    refine ⟨fun σ1 K1 => ∃ (cs : Addr) (xs : List V), σ1 = [some (V.int n), some (V.str "left"), some (V.str "right"), some (V.ref p1), some (V.ref p11), some (V.ref p17), some (V.ref cs), none, none, none, none, none] ∧ Same H18 K1 ∧ K1 cs = some (.lst xs) ∧ (∀ x ∈ xs, PCase A.C_Gets A.C_Held [3, 1, 2] K1 x) ∧ xs.length = 9, ?_, ?_⟩
    · skip
      have h158 := (sm _ _ h23)
      refine ⟨_, rfl, _, rfl, 1, rfl, p11, _, rfl, (SqL.of h158), fun p159 np159 => gen_heap np159 fun H160 sH160 hp159 => ?_⟩
      replace hp159 : H160 p159 = some (.lst [V.ref p5]) := hp159
      refine ⟨_, rfl, (by show 3 ≤ sizeLine; decide), fun p161 np161 => gen_heap np161 fun H162 sH162 hp161 => ?_⟩
      refine ⟨(by show 1 ≤ sizeLine; decide), fun p163 np163 => gen_heap np163 fun H164 sH164 hp163 => ?_⟩
      have h165 := (sH164 _ _ (sH162 _ _ hp159))
      refine ⟨p159, p163, _, _, rfl, rfl, h165, hp163, (by show 1 + 1 ≤ sizeLine; decide), fun p166 np166 => gen_heap np166 fun H167 sH167 hp166 => ?_⟩
      have h168 := (sH167 _ _ (sH164 _ _ (sH162 _ _ (sH160 _ _ h158))))
      refine ⟨_, rfl, 1, rfl, p11, _, rfl, (SqL.of h168), fun p169 np169 => gen_heap np169 fun H170 sH170 hp169 => ?_⟩
      replace hp169 : H170 p169 = some (.lst [V.ref p7, V.ref p9]) := hp169
      have h171 := (sH170 _ _ hp166)
      refine ⟨p166, p169, _, _, rfl, rfl, h171, hp169, (by show 2 + 2 ≤ sizeLine; decide), fun p172 np172 => gen_heap np172 fun H173 sH173 hp172 => ?_⟩
      refine fun o174 dx175 no174 ndx175 neo174 => ?_
      have smo174 := same_make (C := A.C_Gets) no174 ndx175
      refine ⟨o174, p172, dx175, _, rfl, upd_same, smo174.seq (SqL.of hp172), fun H177 m176 bH177 nm176 ho174 hm176 => ⟨rfl, ?_⟩⟩
      have sH177 : Same H173 H177 := fun b u e => bH177 _ _ (ne_of_none e no174) (smo174 _ _ e)
      have nnm176 : H173 m176 = none := smo174.free nm176
      refine ⟨(by show 3 ≤ sizeLine; decide), fun p178 np178 => gen_heap np178 fun H179 sH179 hp178 => ?_⟩
      refine ⟨(by show 1 ≤ sizeLine; decide), fun p180 np180 => gen_heap np180 fun H181 sH181 hp180 => ?_⟩
      have h182 := (sH181 _ _ (sH179 _ _ (sH177 _ _ (sH173 _ _ (sH170 _ _ (sH167 _ _ (sH164 _ _ (sH162 _ _ (sH160 _ _ hcs)))))))))
      refine ⟨cs, p180, _, _, rfl, rfl, h182, hp180, (by show xs.length + 1 ≤ sizeLine; rw [hlen]; decide), fun p183 np183 => gen_heap np183 fun H184 sH184 hp183 => ?_⟩
      have h185 := (sH184 _ _ (sH181 _ _ (sH179 _ _ (sH177 _ _ (sH173 _ _ (sH170 _ _ (sH167 _ _ (sH164 _ _ (sH162 _ _ (sH160 _ _ (sm _ _ h22)))))))))))
      have h186 := (sH184 _ _ (sH181 _ _ (sH179 _ _ (sH177 _ _ (sH173 _ _ (sH170 _ _ (sH167 _ _ (sH164 _ _ (sH162 _ _ (sH160 _ _ (sm _ _ h21)))))))))))
      have h187 := (sH184 _ _ (sH181 _ _ (sH179 _ _ (sH177 _ _ (sH173 _ _ (sH170 _ _ (sH167 _ _ (sH164 _ _ hp161))))))))
      have h188 := (sH184 _ _ (sH181 _ _ (sH179 _ _ (sH177 _ _ (sH173 _ _ (sH170 _ _ (sH167 _ _ (sH164 _ _ (sH162 _ _ (sH160 _ _ (sm _ _ h20)))))))))))
      have h189 := (sH184 _ _ (sH181 _ _ hp178))
      have h190 := (sH184 _ _ (sH181 _ _ (sH179 _ _ ho174)))
      have h191 := (sH184 _ _ (sH181 _ _ (sH179 _ _ hm176)))
      exact ⟨p183, _, rfl, (fun b o e => (sH184 _ _ (sH181 _ _ (sH179 _ _ (sH177 _ _ (sH173 _ _ (sH170 _ _ (sH167 _ _ (sH164 _ _ (sH162 _ _ (sH160 _ _ (sm _ _ e)))))))))))), hp183, each_app (fun x hx => (hP x hx).mono (fun b o e => (sH184 _ _ (sH181 _ _ (sH179 _ _ (sH177 _ _ (sH173 _ _ (sH170 _ _ (sH167 _ _ (sH164 _ _ (sH162 _ _ (sH160 _ _ e)))))))))))) (each_cons ⟨p178, o174, m176, _, _, ([(0, 3, "left"), (1, 1, "left"), (1, 2, "left"), (2, 3, "right")] : List Tri), true, 2, false, rfl, h189, h190, h191, (Tris.cons (t := ((0, 3, "left") : Tri)) h188 (Tris.cons (t := ((1, 1, "left") : Tri)) h187 (Tris.cons (t := ((1, 2, "left") : Tri)) h186 (Tris.cons (t := ((2, 3, "right") : Tri)) h185 Tris.nil)))), (by show 4 ≤ 10000; decide), (by decide +kernel)⟩ each_nil), (by rw [List.length_append, hlen]; rfl)⟩
    rintro σ1 Hm ⟨cs, xs, rfl, sm, hcs, hP, hlen⟩
    refine ⟨fun σ1 K1 => ∃ (cs : Addr) (xs : List V), σ1 = [some (V.int n), some (V.str "left"), some (V.str "right"), some (V.ref p1), some (V.ref p11), some (V.ref p17), some (V.ref cs), none, none, none, none, none] ∧ Same H18 K1 ∧ K1 cs = some (.lst xs) ∧ (∀ x ∈ xs, PCase A.C_Gets A.C_Held [3, 1, 2] K1 x) ∧ xs.length = 10, ?_, ?_⟩
    · skip
      have h192 := (sm _ _ h23)
      refine ⟨_, rfl, _, rfl, 2, rfl, p11, _, rfl, (SqL.of h192), fun p193 np193 => gen_heap np193 fun H194 sH194 hp193 => ?_⟩
      replace hp193 : H194 p193 = some (.lst [V.ref p5, V.ref p7]) := hp193
      refine ⟨(by show 3 ≤ sizeLine; decide), fun p195 np195 => gen_heap np195 fun H196 sH196 hp195 => ?_⟩
      refine ⟨(by show 1 ≤ sizeLine; decide), fun p197 np197 => gen_heap np197 fun H198 sH198 hp197 => ?_⟩
      have h199 := (sH198 _ _ (sH196 _ _ hp193))
      refine ⟨p193, p197, _, _, rfl, rfl, h199, hp197, (by show 2 + 1 ≤ sizeLine; decide), fun p200 np200 => gen_heap np200 fun H201 sH201 hp200 => ?_⟩
      refine fun o202 dx203 no202 ndx203 neo202 => ?_
      have smo202 := same_make (C := A.C_Gets) no202 ndx203
      refine ⟨o202, p200, dx203, _, rfl, upd_same, smo202.seq (SqL.of hp200), fun H205 m204 bH205 nm204 ho202 hm204 => ⟨rfl, ?_⟩⟩
      have sH205 : Same H201 H205 := fun b u e => bH205 _ _ (ne_of_none e no202) (smo202 _ _ e)
      have nnm204 : H201 m204 = none := smo202.free nm204
      refine ⟨(by show 3 ≤ sizeLine; decide), fun p206 np206 => gen_heap np206 fun H207 sH207 hp206 => ?_⟩
      refine ⟨(by show 1 ≤ sizeLine; decide), fun p208 np208 => gen_heap np208 fun H209 sH209 hp208 => ?_⟩
      have h210 := (sH209 _ _ (sH207 _ _ (sH205 _ _ (sH201 _ _ (sH198 _ _ (sH196 _ _ (sH194 _ _ hcs)))))))
      refine ⟨cs, p208, _, _, rfl, rfl, h210, hp208, (by show xs.length + 1 ≤ sizeLine; rw [hlen]; decide), fun p211 np211 => gen_heap np211 fun H212 sH212 hp211 => ?_⟩
      have h213 := (sH212 _ _ (sH209 _ _ (sH207 _ _ (sH205 _ _ (sH201 _ _ (sH198 _ _ hp195))))))
      have h214 := (sH212 _ _ (sH209 _ _ (sH207 _ _ (sH205 _ _ (sH201 _ _ (sH198 _ _ (sH196 _ _ (sH194 _ _ (sm _ _ h21)))))))))
      have h215 := (sH212 _ _ (sH209 _ _ (sH207 _ _ (sH205 _ _ (sH201 _ _ (sH198 _ _ (sH196 _ _ (sH194 _ _ (sm _ _ h20)))))))))
      have h216 := (sH212 _ _ (sH209 _ _ hp206))
      have h217 := (sH212 _ _ (sH209 _ _ (sH207 _ _ ho202)))
      have h218 := (sH212 _ _ (sH209 _ _ (sH207 _ _ hm204)))
      exact ⟨p211, _, rfl, (fun b o e => (sH212 _ _ (sH209 _ _ (sH207 _ _ (sH205 _ _ (sH201 _ _ (sH198 _ _ (sH196 _ _ (sH194 _ _ (sm _ _ e)))))))))), hp211, each_app (fun x hx => (hP x hx).mono (fun b o e => (sH212 _ _ (sH209 _ _ (sH207 _ _ (sH205 _ _ (sH201 _ _ (sH198 _ _ (sH196 _ _ (sH194 _ _ e)))))))))) (each_cons ⟨p206, o202, m204, _, _, ([(0, 3, "left"), (1, 2, "left"), (2, 3, "up")] : List Tri), true, 2, false, rfl, h216, h217, h218, (Tris.cons (t := ((0, 3, "left") : Tri)) h215 (Tris.cons (t := ((1, 2, "left") : Tri)) h214 (Tris.cons (t := ((2, 3, "up") : Tri)) h213 Tris.nil))), (by show 3 ≤ 10000; decide), (by decide +kernel)⟩ each_nil), (by rw [List.length_append, hlen]; rfl)⟩
    rintro σ1 Hm ⟨cs, xs, rfl, sm, hcs, hP, hlen⟩
    refine ⟨fun σ1 K1 => ∃ (cs : Addr) (xs : List V), σ1 = [some (V.int n), some (V.str "left"), some (V.str "right"), some (V.ref p1), some (V.ref p11), some (V.ref p17), some (V.ref cs), none, none, none, none, none] ∧ Same H18 K1 ∧ K1 cs = some (.lst xs) ∧ (∀ x ∈ xs, PCase A.C_Gets A.C_Held [3, 1, 2] K1 x) ∧ xs.length = 12, ?_, ?_⟩
    · skip
      refine ⟨_, rfl, _, rfl, (by show 3 ≤ sizeLine; decide), fun p219 np219 => gen_heap np219 fun H220 sH220 hp219 => ?_⟩
      refine ⟨(by show 1 ≤ sizeLine; decide), fun p221 np221 => gen_heap np221 fun H222 sH222 hp221 => ?_⟩
      have h223 := (sH222 _ _ (sH220 _ _ (sm _ _ h23)))
      refine ⟨_, rfl, 1, rfl, p11, _, rfl, (SqL.of h223), fun p224 np224 => gen_heap np224 fun H225 sH225 hp224 => ?_⟩
      replace hp224 : H225 p224 = some (.lst [V.ref p7, V.ref p9]) := hp224
      have h226 := (sH225 _ _ hp221)
      refine ⟨p221, p224, _, _, rfl, rfl, h226, hp224, (by show 1 + 2 ≤ sizeLine; decide), fun p227 np227 => gen_heap np227 fun H228 sH228 hp227 => ?_⟩
      refine fun o229 dx230 no229 ndx230 neo229 => ?_
      have smo229 := same_make (C := A.C_Gets) no229 ndx230
      refine ⟨o229, p227, dx230, _, rfl, upd_same, smo229.seq (SqL.of hp227), fun H232 m231 bH232 nm231 ho229 hm231 => ⟨rfl, ?_⟩⟩
      have sH232 : Same H228 H232 := fun b u e => bH232 _ _ (ne_of_none e no229) (smo229 _ _ e)
      have nnm231 : H228 m231 = none := smo229.free nm231
      refine ⟨(by show 3 ≤ sizeLine; decide), fun p233 np233 => gen_heap np233 fun H234 sH234 hp233 => ?_⟩
      refine ⟨Nat.zero_le _, fun p235 np235 => gen_heap np235 fun H236 sH236 hp235 => ?_⟩
      refine fun o237 dx238 no237 ndx238 neo237 => ?_
      have smo237 := same_make (C := A.C_Gets) no237 ndx238
      refine ⟨o237, p235, dx238, _, rfl, upd_same, smo237.seq (SqL.of hp235), fun H240 m239 bH240 nm239 ho237 hm239 => ⟨rfl, ?_⟩⟩
      have sH240 : Same H236 H240 := fun b u e => bH240 _ _ (ne_of_none e no237) (smo237 _ _ e)
      have nnm239 : H236 m239 = none := smo237.free nm239
      refine ⟨(by show 3 ≤ sizeLine; decide), fun p241 np241 => gen_heap np241 fun H242 sH242 hp241 => ?_⟩
      refine ⟨(by show 2 ≤ sizeLine; decide), fun p243 np243 => gen_heap np243 fun H244 sH244 hp243 => ?_⟩
      have h245 := (sH244 _ _ (sH242 _ _ (sH240 _ _ (sH236 _ _ (sH234 _ _ (sH232 _ _ (sH228 _ _ (sH225 _ _ (sH222 _ _ (sH220 _ _ hcs))))))))))
      refine ⟨cs, p243, _, _, rfl, rfl, h245, hp243, (by show xs.length + 2 ≤ sizeLine; rw [hlen]; decide), fun p246 np246 => gen_heap np246 fun H247 sH247 hp246 => ?_⟩
      have h248 := (sH247 _ _ (sH244 _ _ (sH242 _ _ (sH240 _ _ (sH236 _ _ (sH234 _ _ (sH232 _ _ (sH228 _ _ (sH225 _ _ (sH222 _ _ (sH220 _ _ (sm _ _ h22))))))))))))
      have h249 := (sH247 _ _ (sH244 _ _ (sH242 _ _ (sH240 _ _ (sH236 _ _ (sH234 _ _ (sH232 _ _ (sH228 _ _ (sH225 _ _ (sH222 _ _ (sH220 _ _ (sm _ _ h21))))))))))))
      have h250 := (sH247 _ _ (sH244 _ _ (sH242 _ _ (sH240 _ _ (sH236 _ _ (sH234 _ _ (sH232 _ _ (sH228 _ _ (sH225 _ _ (sH222 _ _ hp219))))))))))
      have h251 := (sH247 _ _ (sH244 _ _ (sH242 _ _ (sH240 _ _ (sH236 _ _ hp233)))))
      have h252 := (sH247 _ _ (sH244 _ _ (sH242 _ _ (sH240 _ _ (sH236 _ _ (sH234 _ _ ho229))))))
      have h253 := (sH247 _ _ (sH244 _ _ (sH242 _ _ (sH240 _ _ (sH236 _ _ (sH234 _ _ hm231))))))
      have h254 := (sH247 _ _ (sH244 _ _ hp241))
      have h255 := (sH247 _ _ (sH244 _ _ (sH242 _ _ ho237)))
      have h256 := (sH247 _ _ (sH244 _ _ (sH242 _ _ hm239)))
      exact ⟨p246, _, rfl, (fun b o e => (sH247 _ _ (sH244 _ _ (sH242 _ _ (sH240 _ _ (sH236 _ _ (sH234 _ _ (sH232 _ _ (sH228 _ _ (sH225 _ _ (sH222 _ _ (sH220 _ _ (sm _ _ e))))))))))))), hp246, each_app (fun x hx => (hP x hx).mono (fun b o e => (sH247 _ _ (sH244 _ _ (sH242 _ _ (sH240 _ _ (sH236 _ _ (sH234 _ _ (sH232 _ _ (sH228 _ _ (sH225 _ _ (sH222 _ _ (sH220 _ _ e))))))))))))) (each_cons ⟨p233, o229, m231, _, _, ([(0, 3, "right"), (1, 2, "left"), (2, 3, "right")] : List Tri), true, 2, false, rfl, h251, h252, h253, (Tris.cons (t := ((0, 3, "right") : Tri)) h250 (Tris.cons (t := ((1, 2, "left") : Tri)) h249 (Tris.cons (t := ((2, 3, "right") : Tri)) h248 Tris.nil))), (by show 3 ≤ 10000; decide), (by decide +kernel)⟩ (each_cons ⟨p241, o237, m239, _, _, ([] : List Tri), true, 0, false, rfl, h254, h255, h256, Tris.nil, (by show 0 ≤ 10000; decide), (by decide +kernel)⟩ each_nil)), (by rw [List.length_append, hlen]; rfl)⟩
    rintro σ1 Hm ⟨cs, xs, rfl, sm, hcs, hP, hlen⟩
    refine ⟨fun σ1 K1 => ∃ (cs : Addr) (xs : List V), σ1 = [some (V.int n), some (V.str "left"), some (V.str "right"), some (V.ref p1), some (V.ref p11), some (V.ref p17), some (V.ref cs), none, none, none, none, none] ∧ Same H18 K1 ∧ K1 cs = some (.lst xs) ∧ (∀ x ∈ xs, PCase A.C_Gets A.C_Held [3, 1, 2] K1 x) ∧ xs.length = 14, ?_, ?_⟩
    · skip
      refine ⟨_, rfl, _, rfl, _, rfl, (by show 3 ≤ sizeLine; decide), fun p257 np257 => gen_heap np257 fun H258 sH258 hp257 => ?_⟩
      refine ⟨(by show 1 ≤ sizeLine; decide), fun p259 np259 => gen_heap np259 fun H260 sH260 hp259 => ?_⟩
      have h261 := (sH260 _ _ (sH258 _ _ (sm _ _ h23)))
      refine ⟨_, rfl, p259, p11, _, _, rfl, rfl, hp259, h261, (by show 1 + 3 ≤ sizeLine; decide), fun p262 np262 => gen_heap np262 fun H263 sH263 hp262 => ?_⟩
      refine fun o264 dx265 no264 ndx265 neo264 => ?_
      have smo264 := same_make (C := A.C_Gets) no264 ndx265
      refine ⟨o264, p262, dx265, _, rfl, upd_same, smo264.seq (SqL.of hp262), fun H267 m266 bH267 nm266 ho264 hm266 => ⟨rfl, ?_⟩⟩
      have sH267 : Same H263 H267 := fun b u e => bH267 _ _ (ne_of_none e no264) (smo264 _ _ e)
      have nnm266 : H263 m266 = none := smo264.free nm266
      refine ⟨(by show 3 ≤ sizeLine; decide), fun p268 np268 => gen_heap np268 fun H269 sH269 hp268 => ?_⟩
      have h274 := (sH269 _ _ (sH267 _ _ (sH263 _ _ (sH260 _ _ (sH258 _ _ (sm _ _ hp17))))))
      refine ⟨_, rfl, fun o270 dx271 no270 ndx271 neo270 => ?_⟩
      have smo270 := same_make (C := A.C_Gets) no270 ndx271
      refine ⟨o270, p17, dx271, _, rfl, upd_same, smo270.seq (SqL.of h274), fun H273 m272 bH273 nm272 ho270 hm272 => ⟨rfl, ?_⟩⟩
      have sH273 : Same H269 H273 := fun b u e => bH273 _ _ (ne_of_none e no270) (smo270 _ _ e)
      have nnm272 : H269 m272 = none := smo270.free nm272
      refine ⟨(by show 3 ≤ sizeLine; decide), fun p275 np275 => gen_heap np275 fun H276 sH276 hp275 => ?_⟩
      refine ⟨(by show 2 ≤ sizeLine; decide), fun p277 np277 => gen_heap np277 fun H278 sH278 hp277 => ?_⟩
      have h279 := (sH278 _ _ (sH276 _ _ (sH273 _ _ (sH269 _ _ (sH267 _ _ (sH263 _ _ (sH260 _ _ (sH258 _ _ hcs))))))))
      refine ⟨cs, p277, _, _, rfl, rfl, h279, hp277, (by show xs.length + 2 ≤ sizeLine; rw [hlen]; decide), fun p280 np280 => gen_heap np280 fun H281 sH281 hp280 => ?_⟩
      have h282 := (sH281 _ _ (sH278 _ _ (sH276 _ _ (sH273 _ _ (sH269 _ _ (sH267 _ _ (sH263 _ _ (sH260 _ _ (sH258 _ _ (sm _ _ h22))))))))))
      have h283 := (sH281 _ _ (sH278 _ _ (sH276 _ _ (sH273 _ _ (sH269 _ _ (sH267 _ _ (sH263 _ _ (sH260 _ _ (sH258 _ _ (sm _ _ h21))))))))))
      have h284 := (sH281 _ _ (sH278 _ _ (sH276 _ _ (sH273 _ _ (sH269 _ _ (sH267 _ _ (sH263 _ _ (sH260 _ _ (sH258 _ _ (sm _ _ h20))))))))))
      have h285 := (sH281 _ _ (sH278 _ _ (sH276 _ _ (sH273 _ _ (sH269 _ _ (sH267 _ _ (sH263 _ _ (sH260 _ _ hp257))))))))
      have h286 := (sH281 _ _ (sH278 _ _ (sH276 _ _ (sH273 _ _ hp268))))
      have h287 := (sH281 _ _ (sH278 _ _ (sH276 _ _ (sH273 _ _ (sH269 _ _ ho264)))))
      have h288 := (sH281 _ _ (sH278 _ _ (sH276 _ _ (sH273 _ _ (sH269 _ _ hm266)))))
      have h289 := (sH281 _ _ (sH278 _ _ (sH276 _ _ (sH273 _ _ (sH269 _ _ (sH267 _ _ (sH263 _ _ (sH260 _ _ (sH258 _ _ (sm _ _ h25))))))))))
      have h290 := (sH281 _ _ (sH278 _ _ (sH276 _ _ (sH273 _ _ (sH269 _ _ (sH267 _ _ (sH263 _ _ (sH260 _ _ (sH258 _ _ (sm _ _ h24))))))))))
      have h291 := (sH281 _ _ (sH278 _ _ hp275))
      have h292 := (sH281 _ _ (sH278 _ _ (sH276 _ _ ho270)))
      have h293 := (sH281 _ _ (sH278 _ _ (sH276 _ _ hm272)))
      exact ⟨p280, _, rfl, (fun b o e => (sH281 _ _ (sH278 _ _ (sH276 _ _ (sH273 _ _ (sH269 _ _ (sH267 _ _ (sH263 _ _ (sH260 _ _ (sH258 _ _ (sm _ _ e))))))))))), hp280, each_app (fun x hx => (hP x hx).mono (fun b o e => (sH281 _ _ (sH278 _ _ (sH276 _ _ (sH273 _ _ (sH269 _ _ (sH267 _ _ (sH263 _ _ (sH260 _ _ (sH258 _ _ e))))))))))) (each_cons ⟨p268, o264, m266, _, _, ([((-1), 3, "left"), (0, 3, "left"), (1, 2, "left"), (2, 3, "right")] : List Tri), true, 2, false, rfl, h286, h287, h288, (Tris.cons (t := (((-1), 3, "left") : Tri)) h285 (Tris.cons (t := ((0, 3, "left") : Tri)) h284 (Tris.cons (t := ((1, 2, "left") : Tri)) h283 (Tris.cons (t := ((2, 3, "right") : Tri)) h282 Tris.nil)))), (by show 4 ≤ 10000; decide), (by decide +kernel)⟩ (each_cons ⟨p275, o270, m272, _, _, ([(0, 2, "left"), (1, 3, "right")] : List Tri), true, 0, false, rfl, h291, h292, h293, (Tris.cons (t := ((0, 2, "left") : Tri)) h290 (Tris.cons (t := ((1, 3, "right") : Tri)) h289 Tris.nil)), (by show 2 ≤ 10000; decide), (by decide +kernel)⟩ each_nil)), (by rw [List.length_append, hlen]; rfl)⟩
    rintro σ1 Hm ⟨cs, xs, rfl, sm, hcs, hP, hlen⟩
    refine ⟨fun σ1 K1 => ∃ (cs : Addr) (xs : List V), σ1 = [some (V.int n), some (V.str "left"), some (V.str "right"), some (V.ref p1), some (V.ref p11), some (V.ref p17), some (V.ref cs), none, none, none, none, none] ∧ Same H18 K1 ∧ K1 cs = some (.lst xs) ∧ (∀ x ∈ xs, PCase A.C_Gets A.C_Held [3, 1, 2] K1 x) ∧ xs.length = 15, ?_, ?_⟩
    · skip
      have h294 := (sm _ _ h23)
      refine ⟨_, rfl, _, rfl, 1, rfl, p11, _, rfl, (SqL.of h294), fun p295 np295 => gen_heap np295 fun H296 sH296 hp295 => ?_⟩
      replace hp295 : H296 p295 = some (.lst [V.ref p5]) := hp295
      refine ⟨_, rfl, (by show 3 ≤ sizeLine; decide), fun p297 np297 => gen_heap np297 fun H298 sH298 hp297 => ?_⟩
      refine ⟨_, rfl, (by show 3 ≤ sizeLine; decide), fun p299 np299 => gen_heap np299 fun H300 sH300 hp299 => ?_⟩
      refine ⟨(by show 2 ≤ sizeLine; decide), fun p301 np301 => gen_heap np301 fun H302 sH302 hp301 => ?_⟩
      have h303 := (sH302 _ _ (sH300 _ _ (sH298 _ _ hp295)))
      refine ⟨p295, p301, _, _, rfl, rfl, h303, hp301, (by show 1 + 2 ≤ sizeLine; decide), fun p304 np304 => gen_heap np304 fun H305 sH305 hp304 => ?_⟩
      refine fun o306 dx307 no306 ndx307 neo306 => ?_
      have smo306 := same_make (C := A.C_Gets) no306 ndx307
      refine ⟨o306, p304, dx307, _, rfl, upd_same, smo306.seq (SqL.of hp304), fun H309 m308 bH309 nm308 ho306 hm308 => ⟨rfl, ?_⟩⟩
      have sH309 : Same H305 H309 := fun b u e => bH309 _ _ (ne_of_none e no306) (smo306 _ _ e)
      have nnm308 : H305 m308 = none := smo306.free nm308
      refine ⟨(by show 3 ≤ sizeLine; decide), fun p310 np310 => gen_heap np310 fun H311 sH311 hp310 => ?_⟩
      refine ⟨(by show 1 ≤ sizeLine; decide), fun p312 np312 => gen_heap np312 fun H313 sH313 hp312 => ?_⟩
      have h314 := (sH313 _ _ (sH311 _ _ (sH309 _ _ (sH305 _ _ (sH302 _ _ (sH300 _ _ (sH298 _ _ (sH296 _ _ hcs))))))))
      refine ⟨cs, p312, _, _, rfl, rfl, h314, hp312, (by show xs.length + 1 ≤ sizeLine; rw [hlen]; decide), fun p315 np315 => gen_heap np315 fun H316 sH316 hp315 => ?_⟩
      have h317 := (sH316 _ _ (sH313 _ _ (sH311 _ _ (sH309 _ _ (sH305 _ _ (sH302 _ _ hp299))))))
      have h318 := (sH316 _ _ (sH313 _ _ (sH311 _ _ (sH309 _ _ (sH305 _ _ (sH302 _ _ (sH300 _ _ hp297)))))))
      have h319 := (sH316 _ _ (sH313 _ _ (sH311 _ _ (sH309 _ _ (sH305 _ _ (sH302 _ _ (sH300 _ _ (sH298 _ _ (sH296 _ _ (sm _ _ h20))))))))))
      have h320 := (sH316 _ _ (sH313 _ _ hp310))
      have h321 := (sH316 _ _ (sH313 _ _ (sH311 _ _ ho306)))
      have h322 := (sH316 _ _ (sH313 _ _ (sH311 _ _ hm308)))
      exact ⟨p315, _, rfl, (fun b o e => (sH316 _ _ (sH313 _ _ (sH311 _ _ (sH309 _ _ (sH305 _ _ (sH302 _ _ (sH300 _ _ (sH298 _ _ (sH296 _ _ (sm _ _ e))))))))))), hp315, each_app (fun x hx => (hP x hx).mono (fun b o e => (sH316 _ _ (sH313 _ _ (sH311 _ _ (sH309 _ _ (sH305 _ _ (sH302 _ _ (sH300 _ _ (sH298 _ _ (sH296 _ _ e))))))))))) (each_cons ⟨p310, o306, m308, _, _, ([(0, 3, "left"), (1, 2, "right"), (2, 3, "left")] : List Tri), true, 2, true, rfl, h320, h321, h322, (Tris.cons (t := ((0, 3, "left") : Tri)) h319 (Tris.cons (t := ((1, 2, "right") : Tri)) h318 (Tris.cons (t := ((2, 3, "left") : Tri)) h317 Tris.nil))), (by show 3 ≤ 10000; decide), (by decide +kernel)⟩ each_nil), (by rw [List.length_append, hlen]; rfl)⟩
    rintro σ1 Hm ⟨cs, xs, rfl, sm, hcs, hP, hlen⟩
    refine ⟨fun σ1 K1 => ∃ (cs : Addr) (xs : List V), σ1 = [some (V.int n), some (V.str "left"), some (V.str "right"), some (V.ref p1), some (V.ref p11), some (V.ref p17), some (V.ref cs), none, none, none, none, none] ∧ Same H18 K1 ∧ K1 cs = some (.lst xs) ∧ (∀ x ∈ xs, PCase A.C_Gets A.C_Held [3, 1, 2] K1 x) ∧ xs.length = 18, ?_, ?_⟩
    · skip
      have h327 := (sm _ _ hp17)
      refine ⟨_, rfl, _, rfl, fun o323 dx324 no323 ndx324 neo323 => ?_⟩
      have smo323 := same_make (C := A.C_Held) no323 ndx324
      refine ⟨o323, p17, dx324, _, rfl, upd_same, smo323.seq (SqL.of h327), fun H326 m325 bH326 nm325 ho323 hm325 => ⟨rfl, ?_⟩⟩
      have sH326 : Same Hm H326 := fun b u e => bH326 _ _ (ne_of_none e no323) (smo323 _ _ e)
      have nnm325 : Hm m325 = none := smo323.free nm325
      refine ⟨(by show 3 ≤ sizeLine; decide), fun p328 np328 => gen_heap np328 fun H329 sH329 hp328 => ?_⟩
      have h334 := (sH329 _ _ (sH326 _ _ h327))
      refine ⟨_, rfl, fun o330 dx331 no330 ndx331 neo330 => ?_⟩
      have smo330 := same_make (C := A.C_Held) no330 ndx331
      refine ⟨o330, p17, dx331, _, rfl, upd_same, smo330.seq (SqL.of h334), fun H333 m332 bH333 nm332 ho330 hm332 => ⟨rfl, ?_⟩⟩
      have sH333 : Same H329 H333 := fun b u e => bH333 _ _ (ne_of_none e no330) (smo330 _ _ e)
      have nnm332 : H329 m332 = none := smo330.free nm332
      refine ⟨(by show 3 ≤ sizeLine; decide), fun p335 np335 => gen_heap np335 fun H336 sH336 hp335 => ?_⟩
      have h341 := (sH336 _ _ (sH333 _ _ h334))
      refine ⟨_, rfl, fun o337 dx338 no337 ndx338 neo337 => ?_⟩
      have smo337 := same_make (C := A.C_Held) no337 ndx338
      refine ⟨o337, p17, dx338, _, rfl, upd_same, smo337.seq (SqL.of h341), fun H340 m339 bH340 nm339 ho337 hm339 => ⟨rfl, ?_⟩⟩
      have sH340 : Same H336 H340 := fun b u e => bH340 _ _ (ne_of_none e no337) (smo337 _ _ e)
      have nnm339 : H336 m339 = none := smo337.free nm339
      refine ⟨_, rfl, _, _, rfl, rfl, (by show 3 ≤ sizeLine; decide), fun p342 np342 => gen_heap np342 fun H343 sH343 hp342 => ?_⟩
      refine ⟨(by show 3 ≤ sizeLine; decide), fun p344 np344 => gen_heap np344 fun H345 sH345 hp344 => ?_⟩
      have h346 := (sH345 _ _ (sH343 _ _ (sH340 _ _ (sH336 _ _ (sH333 _ _ (sH329 _ _ (sH326 _ _ hcs)))))))
      refine ⟨cs, p344, _, _, rfl, rfl, h346, hp344, (by show xs.length + 3 ≤ sizeLine; rw [hlen]; decide), fun p347 np347 => gen_heap np347 fun H348 sH348 hp347 => ?_⟩
      have h349 := (sH348 _ _ (sH345 _ _ (sH343 _ _ (sH340 _ _ (sH336 _ _ (sH333 _ _ (sH329 _ _ (sH326 _ _ (sm _ _ h25)))))))))
      have h350 := (sH348 _ _ (sH345 _ _ (sH343 _ _ (sH340 _ _ (sH336 _ _ (sH333 _ _ (sH329 _ _ (sH326 _ _ (sm _ _ h24)))))))))
      have h351 := (sH348 _ _ (sH345 _ _ (sH343 _ _ (sH340 _ _ (sH336 _ _ (sH333 _ _ hp328))))))
      have h352 := (sH348 _ _ (sH345 _ _ (sH343 _ _ (sH340 _ _ (sH336 _ _ (sH333 _ _ (sH329 _ _ ho323)))))))
      have h353 := (sH348 _ _ (sH345 _ _ (sH343 _ _ (sH340 _ _ (sH336 _ _ (sH333 _ _ (sH329 _ _ hm325)))))))
      have h354 := (sH348 _ _ (sH345 _ _ (sH343 _ _ (sH340 _ _ hp335))))
      have h355 := (sH348 _ _ (sH345 _ _ (sH343 _ _ (sH340 _ _ (sH336 _ _ ho330)))))
      have h356 := (sH348 _ _ (sH345 _ _ (sH343 _ _ (sH340 _ _ (sH336 _ _ hm332)))))
      have e357 : showsV [3, 1, 2] ([(0, 2, "left"), (1, 3, "right")] : List Tri) false (n + 3) = true := by
        have e0 : plannedV [3, 1, 2] ([(0, 2, "left"), (1, 3, "right")] : List Tri) false = some (-2) := by decide +kernel
        unfold showsV
        rw [e0]
        first | done | rfl | (simp; done) | (simp; omega)
      have h358 := (sH348 _ _ (sH345 _ _ hp342))
      have h359 := (sH348 _ _ (sH345 _ _ (sH343 _ _ ho337)))
      have h360 := (sH348 _ _ (sH345 _ _ (sH343 _ _ hm339)))
      exact ⟨p347, _, rfl, (fun b o e => (sH348 _ _ (sH345 _ _ (sH343 _ _ (sH340 _ _ (sH336 _ _ (sH333 _ _ (sH329 _ _ (sH326 _ _ (sm _ _ e)))))))))), hp347, each_app (fun x hx => (hP x hx).mono (fun b o e => (sH348 _ _ (sH345 _ _ (sH343 _ _ (sH340 _ _ (sH336 _ _ (sH333 _ _ (sH329 _ _ (sH326 _ _ e)))))))))) (each_cons ⟨p328, o323, m325, _, _, ([(0, 2, "left"), (1, 3, "right")] : List Tri), false, 3, true, rfl, h351, h352, h353, (Tris.cons (t := ((0, 2, "left") : Tri)) h350 (Tris.cons (t := ((1, 3, "right") : Tri)) h349 Tris.nil)), (by show 2 ≤ 10000; decide), (by decide +kernel)⟩ (each_cons ⟨p335, o330, m332, _, _, ([(0, 2, "left"), (1, 3, "right")] : List Tri), false, 2, false, rfl, h354, h355, h356, (Tris.cons (t := ((0, 2, "left") : Tri)) h350 (Tris.cons (t := ((1, 3, "right") : Tri)) h349 Tris.nil)), (by show 2 ≤ 10000; decide), (by decide +kernel)⟩ (each_cons ⟨p342, o337, m339, _, _, ([(0, 2, "left"), (1, 3, "right")] : List Tri), false, (n + 3), true, rfl, h358, h359, h360, (Tris.cons (t := ((0, 2, "left") : Tri)) h350 (Tris.cons (t := ((1, 3, "right") : Tri)) h349 Tris.nil)), (by show 2 ≤ 10000; decide), e357⟩ each_nil))), (by rw [List.length_append, hlen]; rfl)⟩
    rintro σ1 Hm ⟨cs, xs, rfl, sm, hcs, hP, hlen⟩
    refine ⟨fun σ1 K1 => ∃ (cs : Addr) (xs : List V), σ1 = [some (V.int n), some (V.str "left"), some (V.str "right"), some (V.ref p1), some (V.ref p11), some (V.ref p17), some (V.ref cs), none, none, none, none, none] ∧ Same H18 K1 ∧ K1 cs = some (.lst xs) ∧ (∀ x ∈ xs, PCase A.C_Gets A.C_Held [3, 1, 2] K1 x) ∧ xs.length = 20, ?_, ?_⟩
    · skip
      have h361 := (sm _ _ hp17)
      refine ⟨_, rfl, _, rfl, 1, rfl, p17, _, rfl, (SqL.of h361), fun p362 np362 => gen_heap np362 fun H363 sH363 hp362 => ?_⟩
      replace hp362 : H363 p362 = some (.lst [V.ref p13]) := hp362
      refine fun o364 dx365 no364 ndx365 neo364 => ?_
      have smo364 := same_make (C := A.C_Held) no364 ndx365
      refine ⟨o364, p362, dx365, _, rfl, upd_same, smo364.seq (SqL.of hp362), fun H367 m366 bH367 nm366 ho364 hm366 => ⟨rfl, ?_⟩⟩
      have sH367 : Same H363 H367 := fun b u e => bH367 _ _ (ne_of_none e no364) (smo364 _ _ e)
      have nnm366 : H363 m366 = none := smo364.free nm366
      refine ⟨(by show 3 ≤ sizeLine; decide), fun p368 np368 => gen_heap np368 fun H369 sH369 hp368 => ?_⟩
      have h370 := (sH369 _ _ (sH367 _ _ (sH363 _ _ h361)))
      refine ⟨_, rfl, p17, _, rfl, (SqL.of h370), fun p371 np371 => gen_heap np371 fun H372 sH372 hp371 => ?_⟩
      refine fun o373 dx374 no373 ndx374 neo373 => ?_
      have smo373 := same_make (C := A.C_Held) no373 ndx374
      refine ⟨o373, p371, dx374, _, rfl, upd_same, smo373.seq (SqL.of hp371), fun H376 m375 bH376 nm375 ho373 hm375 => ⟨rfl, ?_⟩⟩
      have sH376 : Same H372 H376 := fun b u e => bH376 _ _ (ne_of_none e no373) (smo373 _ _ e)
      have nnm375 : H372 m375 = none := smo373.free nm375
      refine ⟨(by show 3 ≤ sizeLine; decide), fun p377 np377 => gen_heap np377 fun H378 sH378 hp377 => ?_⟩
      refine ⟨(by show 2 ≤ sizeLine; decide), fun p379 np379 => gen_heap np379 fun H380 sH380 hp379 => ?_⟩
      have h381 := (sH380 _ _ (sH378 _ _ (sH376 _ _ (sH372 _ _ (sH369 _ _ (sH367 _ _ (sH363 _ _ hcs)))))))
      refine ⟨cs, p379, _, _, rfl, rfl, h381, hp379, (by show xs.length + 2 ≤ sizeLine; rw [hlen]; decide), fun p382 np382 => gen_heap np382 fun H383 sH383 hp382 => ?_⟩
      have h384 := (sH383 _ _ (sH380 _ _ (sH378 _ _ (sH376 _ _ (sH372 _ _ (sH369 _ _ (sH367 _ _ (sH363 _ _ (sm _ _ h24)))))))))
      have h385 := (sH383 _ _ (sH380 _ _ (sH378 _ _ (sH376 _ _ (sH372 _ _ hp368)))))
      have h386 := (sH383 _ _ (sH380 _ _ (sH378 _ _ (sH376 _ _ (sH372 _ _ (sH369 _ _ ho364))))))
      have h387 := (sH383 _ _ (sH380 _ _ (sH378 _ _ (sH376 _ _ (sH372 _ _ (sH369 _ _ hm366))))))
      have h388 := (sH383 _ _ (sH380 _ _ (sH378 _ _ (sH376 _ _ (sH372 _ _ (sH369 _ _ (sH367 _ _ (sH363 _ _ (sm _ _ h25)))))))))
      have h389 := (sH383 _ _ (sH380 _ _ hp377))
      have h390 := (sH383 _ _ (sH380 _ _ (sH378 _ _ ho373)))
      have h391 := (sH383 _ _ (sH380 _ _ (sH378 _ _ hm375)))
      exact ⟨p382, _, rfl, (fun b o e => (sH383 _ _ (sH380 _ _ (sH378 _ _ (sH376 _ _ (sH372 _ _ (sH369 _ _ (sH367 _ _ (sH363 _ _ (sm _ _ e)))))))))), hp382, each_app (fun x hx => (hP x hx).mono (fun b o e => (sH383 _ _ (sH380 _ _ (sH378 _ _ (sH376 _ _ (sH372 _ _ (sH369 _ _ (sH367 _ _ (sH363 _ _ e)))))))))) (each_cons ⟨p368, o364, m366, _, _, ([(0, 2, "left")] : List Tri), false, 3, false, rfl, h385, h386, h387, (Tris.cons (t := ((0, 2, "left") : Tri)) h384 Tris.nil), (by show 1 ≤ 10000; decide), (by decide +kernel)⟩ (each_cons ⟨p377, o373, m375, _, _, ([(1, 3, "right"), (0, 2, "left")] : List Tri), false, 3, false, rfl, h389, h390, h391, (Tris.cons (t := ((1, 3, "right") : Tri)) h388 (Tris.cons (t := ((0, 2, "left") : Tri)) h384 Tris.nil)), (by show 2 ≤ 10000; decide), (by decide +kernel)⟩ each_nil)), (by rw [List.length_append, hlen]; rfl)⟩
    rintro σ1 Hm ⟨cs, xs, rfl, sm, hcs, hP, hlen⟩
    refine ⟨fun σ1 K1 => ∃ (cs : Addr) (xs : List V), σ1 = [some (V.int n), some (V.str "left"), some (V.str "right"), some (V.ref p1), some (V.ref p11), some (V.ref p17), some (V.ref cs), none, none, none, none, none] ∧ Same H18 K1 ∧ K1 cs = some (.lst xs) ∧ (∀ x ∈ xs, PCase A.C_Gets A.C_Held [3, 1, 2] K1 x) ∧ xs.length = 21, ?_, ?_⟩
    · skip
      refine ⟨_, rfl, _, rfl, (by show 3 ≤ sizeLine; decide), fun p392 np392 => gen_heap np392 fun H393 sH393 hp392 => ?_⟩
      refine ⟨_, rfl, (by show 3 ≤ sizeLine; decide), fun p394 np394 => gen_heap np394 fun H395 sH395 hp394 => ?_⟩
      refine ⟨(by show 2 ≤ sizeLine; decide), fun p396 np396 => gen_heap np396 fun H397 sH397 hp396 => ?_⟩
      refine fun o398 dx399 no398 ndx399 neo398 => ?_
      have smo398 := same_make (C := A.C_Held) no398 ndx399
      refine ⟨o398, p396, dx399, _, rfl, upd_same, smo398.seq (SqL.of hp396), fun H401 m400 bH401 nm400 ho398 hm400 => ⟨rfl, ?_⟩⟩
      have sH401 : Same H397 H401 := fun b u e => bH401 _ _ (ne_of_none e no398) (smo398 _ _ e)
      have nnm400 : H397 m400 = none := smo398.free nm400
      refine ⟨(by show 3 ≤ sizeLine; decide), fun p402 np402 => gen_heap np402 fun H403 sH403 hp402 => ?_⟩
      refine ⟨(by show 1 ≤ sizeLine; decide), fun p404 np404 => gen_heap np404 fun H405 sH405 hp404 => ?_⟩
      have h406 := (sH405 _ _ (sH403 _ _ (sH401 _ _ (sH397 _ _ (sH395 _ _ (sH393 _ _ hcs))))))
      refine ⟨cs, p404, _, _, rfl, rfl, h406, hp404, (by show xs.length + 1 ≤ sizeLine; rw [hlen]; decide), fun p407 np407 => gen_heap np407 fun H408 sH408 hp407 => ?_⟩
      have h409 := (sH408 _ _ (sH405 _ _ (sH403 _ _ (sH401 _ _ (sH397 _ _ hp394)))))
      have h410 := (sH408 _ _ (sH405 _ _ (sH403 _ _ (sH401 _ _ (sH397 _ _ (sH395 _ _ hp392))))))
      have h411 := (sH408 _ _ (sH405 _ _ hp402))
      have h412 := (sH408 _ _ (sH405 _ _ (sH403 _ _ ho398)))
      have h413 := (sH408 _ _ (sH405 _ _ (sH403 _ _ hm400)))
      exact ⟨p407, _, rfl, (fun b o e => (sH408 _ _ (sH405 _ _ (sH403 _ _ (sH401 _ _ (sH397 _ _ (sH395 _ _ (sH393 _ _ (sm _ _ e))))))))), hp407, each_app (fun x hx => (hP x hx).mono (fun b o e => (sH408 _ _ (sH405 _ _ (sH403 _ _ (sH401 _ _ (sH397 _ _ (sH395 _ _ (sH393 _ _ e))))))))) (each_cons ⟨p402, o398, m400, _, _, ([(0, 2, "left"), (1, 3, "left")] : List Tri), false, 5, true, rfl, h411, h412, h413, (Tris.cons (t := ((0, 2, "left") : Tri)) h410 (Tris.cons (t := ((1, 3, "left") : Tri)) h409 Tris.nil)), (by show 2 ≤ 10000; decide), (by decide +kernel)⟩ each_nil), (by rw [List.length_append, hlen]; rfl)⟩
    rintro σ1 Hm ⟨cs, xs, rfl, sm, hcs, hP, hlen⟩
    refine ⟨fun σ1 K1 => ∃ (cs : Addr) (xs : List V), σ1 = [some (V.int n), some (V.str "left"), some (V.str "right"), some (V.ref p1), some (V.ref p11), some (V.ref p17), some (V.ref cs), none, none, none, none, none] ∧ Same H18 K1 ∧ K1 cs = some (.lst xs) ∧ (∀ x ∈ xs, PCase A.C_Gets A.C_Held [3, 1, 2] K1 x) ∧ xs.length = 23, ?_, ?_⟩
    · skip
      refine ⟨_, rfl, _, rfl, (by show 3 ≤ sizeLine; decide), fun p414 np414 => gen_heap np414 fun H415 sH415 hp414 => ?_⟩
      refine ⟨_, rfl, (by show 3 ≤ sizeLine; decide), fun p416 np416 => gen_heap np416 fun H417 sH417 hp416 => ?_⟩
      refine ⟨(by show 2 ≤ sizeLine; decide), fun p418 np418 => gen_heap np418 fun H419 sH419 hp418 => ?_⟩
      refine fun o420 dx421 no420 ndx421 neo420 => ?_
      have smo420 := same_make (C := A.C_Held) no420 ndx421
      refine ⟨o420, p418, dx421, _, rfl, upd_same, smo420.seq (SqL.of hp418), fun H423 m422 bH423 nm422 ho420 hm422 => ⟨rfl, ?_⟩⟩
      have sH423 : Same H419 H423 := fun b u e => bH423 _ _ (ne_of_none e no420) (smo420 _ _ e)
      have nnm422 : H419 m422 = none := smo420.free nm422
      refine ⟨(by show 3 ≤ sizeLine; decide), fun p424 np424 => gen_heap np424 fun H425 sH425 hp424 => ?_⟩
      refine ⟨Nat.zero_le _, fun p426 np426 => gen_heap np426 fun H427 sH427 hp426 => ?_⟩
      refine fun o428 dx429 no428 ndx429 neo428 => ?_
      have smo428 := same_make (C := A.C_Held) no428 ndx429
      refine ⟨o428, p426, dx429, _, rfl, upd_same, smo428.seq (SqL.of hp426), fun H431 m430 bH431 nm430 ho428 hm430 => ⟨rfl, ?_⟩⟩
      have sH431 : Same H427 H431 := fun b u e => bH431 _ _ (ne_of_none e no428) (smo428 _ _ e)
      have nnm430 : H427 m430 = none := smo428.free nm430
      refine ⟨_, rfl, _, _, rfl, rfl, (by show 3 ≤ sizeLine; decide), fun p432 np432 => gen_heap np432 fun H433 sH433 hp432 => ?_⟩
      refine ⟨(by show 2 ≤ sizeLine; decide), fun p434 np434 => gen_heap np434 fun H435 sH435 hp434 => ?_⟩
      have h436 := (sH435 _ _ (sH433 _ _ (sH431 _ _ (sH427 _ _ (sH425 _ _ (sH423 _ _ (sH419 _ _ (sH417 _ _ (sH415 _ _ hcs)))))))))
      refine ⟨cs, p434, _, _, rfl, rfl, h436, hp434, (by show xs.length + 2 ≤ sizeLine; rw [hlen]; decide), fun p437 np437 => gen_heap np437 fun H438 sH438 hp437 => ?_⟩
      have h439 := (sH438 _ _ (sH435 _ _ (sH433 _ _ (sH431 _ _ (sH427 _ _ (sH425 _ _ (sH423 _ _ (sH419 _ _ hp416))))))))
      have h440 := (sH438 _ _ (sH435 _ _ (sH433 _ _ (sH431 _ _ (sH427 _ _ (sH425 _ _ (sH423 _ _ (sH419 _ _ (sH417 _ _ hp414)))))))))
      have h441 := (sH438 _ _ (sH435 _ _ (sH433 _ _ (sH431 _ _ (sH427 _ _ hp424)))))
      have h442 := (sH438 _ _ (sH435 _ _ (sH433 _ _ (sH431 _ _ (sH427 _ _ (sH425 _ _ ho420))))))
      have h443 := (sH438 _ _ (sH435 _ _ (sH433 _ _ (sH431 _ _ (sH427 _ _ (sH425 _ _ hm422))))))
      have e444 : showsV [3, 1, 2] ([] : List Tri) false (n + 9) = false := by
        have e0 : plannedV [3, 1, 2] ([] : List Tri) false = none := by decide +kernel
        unfold showsV
        rw [e0]
        first | done | rfl | (simp; done) | (simp; omega)
      have h445 := (sH438 _ _ (sH435 _ _ hp432))
      have h446 := (sH438 _ _ (sH435 _ _ (sH433 _ _ ho428)))
      have h447 := (sH438 _ _ (sH435 _ _ (sH433 _ _ hm430)))
      exact ⟨p437, _, rfl, (fun b o e => (sH438 _ _ (sH435 _ _ (sH433 _ _ (sH431 _ _ (sH427 _ _ (sH425 _ _ (sH423 _ _ (sH419 _ _ (sH417 _ _ (sH415 _ _ (sm _ _ e)))))))))))), hp437, each_app (fun x hx => (hP x hx).mono (fun b o e => (sH438 _ _ (sH435 _ _ (sH433 _ _ (sH431 _ _ (sH427 _ _ (sH425 _ _ (sH423 _ _ (sH419 _ _ (sH417 _ _ (sH415 _ _ e)))))))))))) (each_cons ⟨p424, o420, m422, _, _, ([(0, 2, "left"), (1, 3, "left")] : List Tri), false, 4, false, rfl, h441, h442, h443, (Tris.cons (t := ((0, 2, "left") : Tri)) h440 (Tris.cons (t := ((1, 3, "left") : Tri)) h439 Tris.nil)), (by show 2 ≤ 10000; decide), (by decide +kernel)⟩ (each_cons ⟨p432, o428, m430, _, _, ([] : List Tri), false, (n + 9), false, rfl, h445, h446, h447, Tris.nil, (by show 0 ≤ 10000; decide), e444⟩ each_nil)), (by rw [List.length_append, hlen]; rfl)⟩
    rintro σ1 Hm ⟨cs, xs, rfl, sm, hcs, hP, hlen⟩
    refine ⟨fun σ1 K1 => ∃ (cs : Addr) (xs : List V), σ1 = [some (V.int n), some (V.str "left"), some (V.str "right"), some (V.ref p1), some (V.ref p11), some (V.ref p17), some (V.ref cs), none, none, none, none, none] ∧ Same H18 K1 ∧ K1 cs = some (.lst xs) ∧ (∀ x ∈ xs, PCase A.C_Gets A.C_Held [3, 1, 2] K1 x) ∧ xs.length = 24, ?_, ?_⟩
    · skip
      refine ⟨_, rfl, _, rfl, _, rfl, (by show 3 ≤ sizeLine; decide), fun p448 np448 => gen_heap np448 fun H449 sH449 hp448 => ?_⟩
      refine ⟨(by show 1 ≤ sizeLine; decide), fun p450 np450 => gen_heap np450 fun H451 sH451 hp450 => ?_⟩
      have h452 := (sH451 _ _ (sH449 _ _ (sm _ _ hp17)))
      refine ⟨p17, p450, _, _, rfl, rfl, h452, hp450, (by show 2 + 1 ≤ sizeLine; decide), fun p453 np453 => gen_heap np453 fun H454 sH454 hp453 => ?_⟩
      refine fun o455 dx456 no455 ndx456 neo455 => ?_
      have smo455 := same_make (C := A.C_Held) no455 ndx456
      refine ⟨o455, p453, dx456, _, rfl, upd_same, smo455.seq (SqL.of hp453), fun H458 m457 bH458 nm457 ho455 hm457 => ⟨rfl, ?_⟩⟩
      have sH458 : Same H454 H458 := fun b u e => bH458 _ _ (ne_of_none e no455) (smo455 _ _ e)
      have nnm457 : H454 m457 = none := smo455.free nm457
      refine ⟨(by show 3 ≤ sizeLine; decide), fun p459 np459 => gen_heap np459 fun H460 sH460 hp459 => ?_⟩
      refine ⟨(by show 1 ≤ sizeLine; decide), fun p461 np461 => gen_heap np461 fun H462 sH462 hp461 => ?_⟩
      have h463 := (sH462 _ _ (sH460 _ _ (sH458 _ _ (sH454 _ _ (sH451 _ _ (sH449 _ _ hcs))))))
      refine ⟨cs, p461, _, _, rfl, rfl, h463, hp461, (by show xs.length + 1 ≤ sizeLine; rw [hlen]; decide), fun p464 np464 => gen_heap np464 fun H465 sH465 hp464 => ?_⟩
      have h466 := (sH465 _ _ (sH462 _ _ (sH460 _ _ (sH458 _ _ (sH454 _ _ (sH451 _ _ hp448))))))
      have h467 := (sH465 _ _ (sH462 _ _ (sH460 _ _ (sH458 _ _ (sH454 _ _ (sH451 _ _ (sH449 _ _ (sm _ _ h25))))))))
      have h468 := (sH465 _ _ (sH462 _ _ (sH460 _ _ (sH458 _ _ (sH454 _ _ (sH451 _ _ (sH449 _ _ (sm _ _ h24))))))))
      have h469 := (sH465 _ _ (sH462 _ _ hp459))
      have h470 := (sH465 _ _ (sH462 _ _ (sH460 _ _ ho455)))
      have h471 := (sH465 _ _ (sH462 _ _ (sH460 _ _ hm457)))
      exact ⟨p464, _, rfl, (fun b o e => (sH465 _ _ (sH462 _ _ (sH460 _ _ (sH458 _ _ (sH454 _ _ (sH451 _ _ (sH449 _ _ (sm _ _ e))))))))), hp464, each_app (fun x hx => (hP x hx).mono (fun b o e => (sH465 _ _ (sH462 _ _ (sH460 _ _ (sH458 _ _ (sH454 _ _ (sH451 _ _ (sH449 _ _ e))))))))) (each_cons ⟨p459, o455, m457, _, _, ([(0, 2, "left"), (1, 3, "right"), (2, 3, "left")] : List Tri), false, 3, true, rfl, h469, h470, h471, (Tris.cons (t := ((0, 2, "left") : Tri)) h468 (Tris.cons (t := ((1, 3, "right") : Tri)) h467 (Tris.cons (t := ((2, 3, "left") : Tri)) h466 Tris.nil))), (by show 3 ≤ 10000; decide), (by decide +kernel)⟩ each_nil), (by rw [List.length_append, hlen]; rfl)⟩
    rintro σ1 Hm ⟨cs, xs, rfl, sm, hcs, hP, hlen⟩
    refine ⟨fun σ1 K1 => σ1 = [some (V.int n), some (V.str "left"), some (V.str "right"), some (V.ref p1), some (V.ref p11), some (V.ref p17), some (V.ref cs), none, none, none, none, none] ∧ Same H18 K1, ?_, ?_⟩
    · skip
      have h472 := (sm _ _ h19)
      refine ⟨_, rfl, cs, rfl, ⟨_, SqL.of hcs⟩, fun D nD => ?_⟩
      refine lc_list (K := K) (a := cs) (xs := xs) (fun i Hx => Same Hm Hx ∧ Hx D = some (.lst (List.replicate i (V.bl false)))) ⟨same_new nD _, upd_same⟩ (fun i Hx _ h => SqL.of (h.1 _ _ hcs)) ?_ ?_
      · rintro i x Hx hi ⟨sx, hD⟩
        have hil := (List.getElem?_eq_some_iff.mp hi).1
        rw [hlen] at hil
        obtain ⟨q', o, l, dx, ys, p, f, k, due, rfl, hq, ho, hl, ht, hp, hsh⟩ := (hP x (List.mem_of_getElem? hi)).mono sx
        refine ⟨q', _, rfl, SqT.of hq, rfl, _, _, rfl, _, _, rfl, _, _, rfl, rfl, rfl, ?_⟩
        cases f with
        | true =>
          refine ⟨_, rfl, o, _, _, rfl, rfl, .inl ⟨ho, ?_⟩⟩
          refine ⟨_, rfl, _, rfl, o, p1, l, _, [3, 1, 2], _, _, _, rfl, ho, SqL.of (sx _ _ h472), hl, ht, hp, (by decide), fun Hy sy => ?_⟩
          refine ⟨_, rfl, rfl, ?_⟩
          rw [ne_same hsh]
          exact rp_step nD sx hD sy (by omega)
        | false =>
          refine ⟨_, rfl, o, _, _, rfl, rfl, .inr ⟨ho, ?_⟩⟩
          refine ⟨_, rfl, _, rfl, o, p1, l, _, [3, 1, 2], _, _, _, rfl, ho, SqL.of (sx _ _ h472), hl, ht, hp, (by decide), fun Hy sy => ?_⟩
          refine ⟨_, rfl, rfl, ?_⟩
          rw [ne_same hsh]
          exact rp_step nD sx hD sy (by omega)
      rintro Hd ⟨sd, hD⟩
      rw [rep_bl] at hD
      refine ⟨D, _, rfl, SqL.of hD, _, rfl, ?_⟩
      rw [any_false]
      refine iteF ?_
      exact ⟨rfl, (fun b o e => (sd _ _ (sm _ _ e)))⟩
    rintro σ1 Hn ⟨rfl, sn1⟩
    clear hcs hP hlen
    have scs : cs = cs := rfl
    refine ⟨fun σ1 K1 => ∃ (cs : Addr) (xs : List V), σ1 = [some (V.int n), some (V.str "left"), some (V.str "right"), some (V.ref p1), some (V.ref p11), some (V.ref p17), some (V.ref cs), none, none, none, none, none] ∧ Same H18 K1 ∧ K1 cs = some (.lst xs) ∧ (∀ x ∈ xs, PCase A.C_Gets A.C_Held [] K1 x) ∧ xs.length = 3, ?_, ?_⟩
    · skip
      refine ⟨Nat.zero_le _, fun p473 np473 => gen_heap np473 fun H474 sH474 hp473 => ?_⟩
      refine fun o475 dx476 no475 ndx476 neo475 => ?_
      have smo475 := same_make (C := A.C_Gets) no475 ndx476
      refine ⟨o475, p473, dx476, _, rfl, upd_same, smo475.seq (SqL.of hp473), fun H478 m477 bH478 nm477 ho475 hm477 => ⟨rfl, ?_⟩⟩
      have sH478 : Same H474 H478 := fun b u e => bH478 _ _ (ne_of_none e no475) (smo475 _ _ e)
      have nnm477 : H474 m477 = none := smo475.free nm477
      refine ⟨(by show 3 ≤ sizeLine; decide), fun p479 np479 => gen_heap np479 fun H480 sH480 hp479 => ?_⟩
      refine ⟨Nat.zero_le _, fun p481 np481 => gen_heap np481 fun H482 sH482 hp481 => ?_⟩
      refine fun o483 dx484 no483 ndx484 neo483 => ?_
      have smo483 := same_make (C := A.C_Gets) no483 ndx484
      refine ⟨o483, p481, dx484, _, rfl, upd_same, smo483.seq (SqL.of hp481), fun H486 m485 bH486 nm485 ho483 hm485 => ⟨rfl, ?_⟩⟩
      have sH486 : Same H482 H486 := fun b u e => bH486 _ _ (ne_of_none e no483) (smo483 _ _ e)
      have nnm485 : H482 m485 = none := smo483.free nm485
      refine ⟨(by show 3 ≤ sizeLine; decide), fun p487 np487 => gen_heap np487 fun H488 sH488 hp487 => ?_⟩
      refine ⟨Nat.zero_le _, fun p489 np489 => gen_heap np489 fun H490 sH490 hp489 => ?_⟩
      refine fun o491 dx492 no491 ndx492 neo491 => ?_
      have smo491 := same_make (C := A.C_Held) no491 ndx492
      refine ⟨o491, p489, dx492, _, rfl, upd_same, smo491.seq (SqL.of hp489), fun H494 m493 bH494 nm493 ho491 hm493 => ⟨rfl, ?_⟩⟩
      have sH494 : Same H490 H494 := fun b u e => bH494 _ _ (ne_of_none e no491) (smo491 _ _ e)
      have nnm493 : H490 m493 = none := smo491.free nm493
      refine ⟨(by show 3 ≤ sizeLine; decide), fun p495 np495 => gen_heap np495 fun H496 sH496 hp495 => ?_⟩
      refine ⟨(by show 3 ≤ sizeLine; decide), fun p497 np497 => gen_heap np497 fun H498 sH498 hp497 => ?_⟩
      have h499 := (sH498 _ _ (sH496 _ _ (sH494 _ _ (sH490 _ _ (sH488 _ _ (sH486 _ _ (sH482 _ _ hp479)))))))
      have h500 := (sH498 _ _ (sH496 _ _ (sH494 _ _ (sH490 _ _ (sH488 _ _ (sH486 _ _ (sH482 _ _ (sH480 _ _ ho475))))))))
      have h501 := (sH498 _ _ (sH496 _ _ (sH494 _ _ (sH490 _ _ (sH488 _ _ (sH486 _ _ (sH482 _ _ (sH480 _ _ hm477))))))))
      have h502 := (sH498 _ _ (sH496 _ _ (sH494 _ _ (sH490 _ _ hp487))))
      have h503 := (sH498 _ _ (sH496 _ _ (sH494 _ _ (sH490 _ _ (sH488 _ _ ho483)))))
      have h504 := (sH498 _ _ (sH496 _ _ (sH494 _ _ (sH490 _ _ (sH488 _ _ hm485)))))
      have h505 := (sH498 _ _ hp495)
      have h506 := (sH498 _ _ (sH496 _ _ ho491))
      have h507 := (sH498 _ _ (sH496 _ _ hm493))
      exact ⟨p497, _, rfl, (fun b o e => (sH498 _ _ (sH496 _ _ (sH494 _ _ (sH490 _ _ (sH488 _ _ (sH486 _ _ (sH482 _ _ (sH480 _ _ (sH478 _ _ (sH474 _ _ (sn1 _ _ e)))))))))))), hp497, (each_cons ⟨p479, o475, m477, _, _, ([] : List Tri), true, 0, true, rfl, h499, h500, h501, Tris.nil, (by show 0 ≤ 10000; decide), (by decide +kernel)⟩ (each_cons ⟨p487, o483, m485, _, _, ([] : List Tri), true, 1, false, rfl, h502, h503, h504, Tris.nil, (by show 0 ≤ 10000; decide), (by decide +kernel)⟩ (each_cons ⟨p495, o491, m493, _, _, ([] : List Tri), false, 1, true, rfl, h505, h506, h507, Tris.nil, (by show 0 ≤ 10000; decide), (by decide +kernel)⟩ each_nil))), rfl⟩
    rintro σ1 Hm ⟨cs, xs, rfl, sm, hcs, hP, hlen⟩
    refine ⟨fun σ1 K1 => ∃ (cs : Addr) (xs : List V), σ1 = [some (V.int n), some (V.str "left"), some (V.str "right"), some (V.ref p1), some (V.ref p11), some (V.ref p17), some (V.ref cs), none, none, none, none, none] ∧ Same H18 K1 ∧ K1 cs = some (.lst xs) ∧ (∀ x ∈ xs, PCase A.C_Gets A.C_Held [] K1 x) ∧ xs.length = 6, ?_, ?_⟩
    · skip
      refine ⟨_, rfl, Nat.zero_le _, fun p508 np508 => gen_heap np508 fun H509 sH509 hp508 => ?_⟩
      refine fun o510 dx511 no510 ndx511 neo510 => ?_
      have smo510 := same_make (C := A.C_Held) no510 ndx511
      refine ⟨o510, p508, dx511, _, rfl, upd_same, smo510.seq (SqL.of hp508), fun H513 m512 bH513 nm512 ho510 hm512 => ⟨rfl, ?_⟩⟩
      have sH513 : Same H509 H513 := fun b u e => bH513 _ _ (ne_of_none e no510) (smo510 _ _ e)
      have nnm512 : H509 m512 = none := smo510.free nm512
      refine ⟨(by show 3 ≤ sizeLine; decide), fun p514 np514 => gen_heap np514 fun H515 sH515 hp514 => ?_⟩
      refine ⟨Nat.zero_le _, fun p516 np516 => gen_heap np516 fun H517 sH517 hp516 => ?_⟩
      refine fun o518 dx519 no518 ndx519 neo518 => ?_
      have smo518 := same_make (C := A.C_Gets) no518 ndx519
      refine ⟨o518, p516, dx519, _, rfl, upd_same, smo518.seq (SqL.of hp516), fun H521 m520 bH521 nm520 ho518 hm520 => ⟨rfl, ?_⟩⟩
      have sH521 : Same H517 H521 := fun b u e => bH521 _ _ (ne_of_none e no518) (smo518 _ _ e)
      have nnm520 : H517 m520 = none := smo518.free nm520
      refine ⟨_, rfl, _, rfl, (by show 3 ≤ sizeLine; decide), fun p522 np522 => gen_heap np522 fun H523 sH523 hp522 => ?_⟩
      refine ⟨_, rfl, (by show 3 ≤ sizeLine; decide), fun p524 np524 => gen_heap np524 fun H525 sH525 hp524 => ?_⟩
      refine ⟨(by show 1 ≤ sizeLine; decide), fun p526 np526 => gen_heap np526 fun H527 sH527 hp526 => ?_⟩
      refine fun o528 dx529 no528 ndx529 neo528 => ?_
      have smo528 := same_make (C := A.C_Gets) no528 ndx529
      refine ⟨o528, p526, dx529, _, rfl, upd_same, smo528.seq (SqL.of hp526), fun H531 m530 bH531 nm530 ho528 hm530 => ⟨rfl, ?_⟩⟩
      have sH531 : Same H527 H531 := fun b u e => bH531 _ _ (ne_of_none e no528) (smo528 _ _ e)
      have nnm530 : H527 m530 = none := smo528.free nm530
      refine ⟨(by show 3 ≤ sizeLine; decide), fun p532 np532 => gen_heap np532 fun H533 sH533 hp532 => ?_⟩
      refine ⟨(by show 3 ≤ sizeLine; decide), fun p534 np534 => gen_heap np534 fun H535 sH535 hp534 => ?_⟩
      have h536 := (sH535 _ _ (sH533 _ _ (sH531 _ _ (sH527 _ _ (sH525 _ _ (sH523 _ _ (sH521 _ _ (sH517 _ _ (sH515 _ _ (sH513 _ _ (sH509 _ _ hcs)))))))))))
      refine ⟨cs, p534, _, _, rfl, rfl, h536, hp534, (by show xs.length + 3 ≤ sizeLine; rw [hlen]; decide), fun p537 np537 => gen_heap np537 fun H538 sH538 hp537 => ?_⟩
      have h539 := (sH538 _ _ (sH535 _ _ (sH533 _ _ (sH531 _ _ (sH527 _ _ (sH525 _ _ (sH523 _ _ (sH521 _ _ (sH517 _ _ hp514)))))))))
      have h540 := (sH538 _ _ (sH535 _ _ (sH533 _ _ (sH531 _ _ (sH527 _ _ (sH525 _ _ (sH523 _ _ (sH521 _ _ (sH517 _ _ (sH515 _ _ ho510))))))))))
      have h541 := (sH538 _ _ (sH535 _ _ (sH533 _ _ (sH531 _ _ (sH527 _ _ (sH525 _ _ (sH523 _ _ (sH521 _ _ (sH517 _ _ (sH515 _ _ hm512))))))))))
      have e542 : showsV [] ([] : List Tri) true (-n) = true := by
        have e0 : plannedV [] ([] : List Tri) true = some 0 := by decide +kernel
        unfold showsV
        rw [e0]
        first | done | rfl | (simp; done) | (simp; omega)
      have h543 := (sH538 _ _ (sH535 _ _ (sH533 _ _ (sH531 _ _ (sH527 _ _ (sH525 _ _ hp522))))))
      have h544 := (sH538 _ _ (sH535 _ _ (sH533 _ _ (sH531 _ _ (sH527 _ _ (sH525 _ _ (sH523 _ _ ho518)))))))
      have h545 := (sH538 _ _ (sH535 _ _ (sH533 _ _ (sH531 _ _ (sH527 _ _ (sH525 _ _ (sH523 _ _ hm520)))))))
      have h546 := (sH538 _ _ (sH535 _ _ (sH533 _ _ (sH531 _ _ (sH527 _ _ hp524)))))
      have h547 := (sH538 _ _ (sH535 _ _ hp532))
      have h548 := (sH538 _ _ (sH535 _ _ (sH533 _ _ ho528)))
      have h549 := (sH538 _ _ (sH535 _ _ (sH533 _ _ hm530)))
      exact ⟨p537, _, rfl, (fun b o e => (sH538 _ _ (sH535 _ _ (sH533 _ _ (sH531 _ _ (sH527 _ _ (sH525 _ _ (sH523 _ _ (sH521 _ _ (sH517 _ _ (sH515 _ _ (sH513 _ _ (sH509 _ _ (sm _ _ e)))))))))))))), hp537, each_app (fun x hx => (hP x hx).mono (fun b o e => (sH538 _ _ (sH535 _ _ (sH533 _ _ (sH531 _ _ (sH527 _ _ (sH525 _ _ (sH523 _ _ (sH521 _ _ (sH517 _ _ (sH515 _ _ (sH513 _ _ (sH509 _ _ e)))))))))))))) (each_cons ⟨p514, o510, m512, _, _, ([] : List Tri), false, 0, false, rfl, h539, h540, h541, Tris.nil, (by show 0 ≤ 10000; decide), (by decide +kernel)⟩ (each_cons ⟨p522, o518, m520, _, _, ([] : List Tri), true, (-n), true, rfl, h543, h544, h545, Tris.nil, (by show 0 ≤ 10000; decide), e542⟩ (each_cons ⟨p532, o528, m530, _, _, ([(0, 1, "left")] : List Tri), true, 0, false, rfl, h547, h548, h549, (Tris.cons (t := ((0, 1, "left") : Tri)) h546 Tris.nil), (by show 1 ≤ 10000; decide), (by decide +kernel)⟩ each_nil))), (by rw [List.length_append, hlen]; rfl)⟩
    rintro σ1 Hm ⟨cs, xs, rfl, sm, hcs, hP, hlen⟩
    refine ⟨fun σ1 K1 => σ1 = [some (V.int n), some (V.str "left"), some (V.str "right"), some (V.ref p1), some (V.ref p11), some (V.ref p17), some (V.ref cs), none, none, none, none, none] ∧ Same H18 K1, ?_, ?_⟩
    · skip
      refine ⟨_, rfl, cs, rfl, ⟨_, SqL.of hcs⟩, fun D nD => ?_⟩
      refine lc_list (K := K) (a := cs) (xs := xs) (fun i Hx => Same Hm Hx ∧ Hx D = some (.lst (List.replicate i (V.bl false)))) ⟨same_new nD _, upd_same⟩ (fun i Hx _ h => SqL.of (h.1 _ _ hcs)) ?_ ?_
      · rintro i x Hx hi ⟨sx, hD⟩
        have hil := (List.getElem?_eq_some_iff.mp hi).1
        rw [hlen] at hil
        obtain ⟨q', o, l, dx, ys, p, f, k, due, rfl, hq, ho, hl, ht, hp, hsh⟩ := (hP x (List.mem_of_getElem? hi)).mono sx
        refine ⟨q', _, rfl, SqT.of hq, rfl, _, _, rfl, _, _, rfl, _, _, rfl, rfl, rfl, ?_⟩
        cases f with
        | true =>
          refine ⟨_, rfl, o, _, _, rfl, rfl, .inl ⟨ho, ?_⟩⟩
          refine ⟨Nat.zero_le _, fun p0 np0 => gen_heap np0 fun Hz sz hz => ?_⟩
          refine ⟨_, rfl, o, p0, l, _, ([] : List Int), _, _, _, rfl, sz _ _ ho, SqL.of hz, sz _ _ hl, ht.mono sz, hp, (by decide), fun Hy sy => ?_⟩
          refine ⟨_, rfl, rfl, ?_⟩
          rw [ne_same hsh]
          exact rp_step nD sx hD (sz.trans sy) (by omega)
        | false =>
          refine ⟨_, rfl, o, _, _, rfl, rfl, .inr ⟨ho, ?_⟩⟩
          refine ⟨Nat.zero_le _, fun p0 np0 => gen_heap np0 fun Hz sz hz => ?_⟩
          refine ⟨_, rfl, o, p0, l, _, ([] : List Int), _, _, _, rfl, sz _ _ ho, SqL.of hz, sz _ _ hl, ht.mono sz, hp, (by decide), fun Hy sy => ?_⟩
          refine ⟨_, rfl, rfl, ?_⟩
          rw [ne_same hsh]
          exact rp_step nD sx hD (sz.trans sy) (by omega)
      rintro Hd ⟨sd, hD⟩
      rw [rep_bl] at hD
      refine ⟨D, _, rfl, SqL.of hD, _, rfl, ?_⟩
      rw [any_false]
      refine iteF ?_
      exact ⟨rfl, (fun b o e => (sd _ _ (sm _ _ e)))⟩
    rintro σ1 Hn ⟨rfl, sn2⟩
    clear hcs hP hlen
    have scs : cs = cs := rfl
    refine ⟨fun σ1 K1 => σ1 = [some (V.int n), some (V.str "left"), some (V.str "right"), some (V.ref p1), some (V.ref p11), some (V.ref p17), some (V.ref cs), none, none, none, none, none] ∧ Same H18 K1, ?_, ?_⟩
    · skip
      refine ⟨_, rfl, (by show 3 ≤ sizeLine; decide), fun p550 np550 => gen_heap np550 fun H551 sH551 hp550 => ?_⟩
      refine ⟨(by show 1 ≤ sizeLine; decide), fun p552 np552 => gen_heap np552 fun H553 sH553 hp552 => ?_⟩
      refine fun o554 dx555 no554 ndx555 neo554 => ?_
      have smo554 := same_make (C := A.C_Gets) no554 ndx555
      refine ⟨o554, p552, dx555, _, rfl, upd_same, smo554.seq (SqL.of hp552), fun H557 m556 bH557 nm556 ho554 hm556 => ⟨rfl, ?_⟩⟩
      have sH557 : Same H553 H557 := fun b u e => bH557 _ _ (ne_of_none e no554) (smo554 _ _ e)
      have nnm556 : H553 m556 = none := smo554.free nm556
      refine ⟨o554, _, _, rfl, rfl, .inl ⟨ho554, ?_⟩⟩
      refine ⟨_, rfl, (by show 1 ≤ sizeLine; decide), fun p558 np558 => gen_heap np558 fun H559 sH559 hp558 => ?_⟩
      have h561 := (sH559 _ _ ho554)
      have h562 := (sH559 _ _ hm556)
      have h563 := (sH559 _ _ (sH557 _ _ (sH553 _ _ hp550)))
      refine ⟨_, rfl, o554, p558, m556, _, [n], _, _, _, rfl, h561, (SqL.of hp558), h562, (Tris.cons (t := ((0, 1, "right") : Tri)) h563 Tris.nil), (by show 1 ≤ 10000; decide), (by show 1 ≤ 12; decide), fun H560 sH560 => ?_⟩
      refine ⟨_, rfl, ?_⟩
      refine iteFb (not_t ((one_shows n n false).trans (decide_eq_true (Int.le_refl _)))) ?_
      refine ⟨Nat.zero_le _, fun p564 np564 => gen_heap np564 fun H565 sH565 hp564 => ?_⟩
      refine fun o566 dx567 no566 ndx567 neo566 => ?_
      have smo566 := same_make (C := A.C_Held) no566 ndx567
      refine ⟨o566, p564, dx567, _, rfl, upd_same, smo566.seq (SqL.of hp564), fun H569 m568 bH569 nm568 ho566 hm568 => ⟨rfl, ?_⟩⟩
      have sH569 : Same H565 H569 := fun b u e => bH569 _ _ (ne_of_none e no566) (smo566 _ _ e)
      have nnm568 : H565 m568 = none := smo566.free nm568
      refine ⟨o566, _, _, rfl, rfl, .inr ⟨ho566, ?_⟩⟩
      refine ⟨_, rfl, (by show 1 ≤ sizeLine; decide), fun p570 np570 => gen_heap np570 fun H571 sH571 hp570 => ?_⟩
      have h573 := (sH571 _ _ ho566)
      have h574 := (sH571 _ _ hm568)
      refine ⟨_, rfl, _, _, rfl, rfl, o566, p570, m568, _, [n], _, _, _, rfl, h573, (SqL.of hp570), h574, Tris.nil, (by decide), (by show 1 ≤ 12; decide), fun H572 sH572 => ?_⟩
      refine ⟨_, rfl, ?_⟩
      refine iteFb (not_t ((held_one n (n + 1)).trans (decide_eq_true (by omega)))) ?_
      exact ⟨rfl, (fun b o e => (sH572 _ _ (sH571 _ _ (sH569 _ _ (sH565 _ _ (sH560 _ _ (sH559 _ _ (sH557 _ _ (sH553 _ _ (sH551 _ _ (sn2 _ _ e)))))))))))⟩
    rintro σ1 Hn ⟨rfl, so20⟩
    refine ⟨fun σ1 K1 => σ1 = [some (V.int n), some (V.str "left"), some (V.str "right"), some (V.ref p1), some (V.ref p11), some (V.ref p17), some (V.ref cs), none, none, none, none, none] ∧ Same H18 K1, ?_, ?_⟩
    · skip
      refine ⟨_, rfl, (by show 3 ≤ sizeLine; decide), fun p575 np575 => gen_heap np575 fun H576 sH576 hp575 => ?_⟩
      refine ⟨(by show 1 ≤ sizeLine; decide), fun p577 np577 => gen_heap np577 fun H578 sH578 hp577 => ?_⟩
      refine fun o579 dx580 no579 ndx580 neo579 => ?_
      have smo579 := same_make (C := A.C_Gets) no579 ndx580
      refine ⟨o579, p577, dx580, _, rfl, upd_same, smo579.seq (SqL.of hp577), fun H582 m581 bH582 nm581 ho579 hm581 => ⟨rfl, ?_⟩⟩
      have sH582 : Same H578 H582 := fun b u e => bH582 _ _ (ne_of_none e no579) (smo579 _ _ e)
      have nnm581 : H578 m581 = none := smo579.free nm581
      refine ⟨o579, _, _, rfl, rfl, .inl ⟨ho579, ?_⟩⟩
      refine ⟨_, rfl, (by show 1 ≤ sizeLine; decide), fun p583 np583 => gen_heap np583 fun H584 sH584 hp583 => ?_⟩
      have h586 := (sH584 _ _ ho579)
      have h587 := (sH584 _ _ hm581)
      have h588 := (sH584 _ _ (sH582 _ _ (sH578 _ _ hp575)))
      refine ⟨_, rfl, _, _, rfl, rfl, o579, p583, m581, _, [n], _, _, _, rfl, h586, (SqL.of hp583), h587, (Tris.cons (t := ((0, 1, "left") : Tri)) h588 Tris.nil), (by show 1 ≤ 10000; decide), (by show 1 ≤ 12; decide), fun H585 sH585 => ?_⟩
      refine ⟨_, rfl, ?_⟩
      refine iteFb ((one_shows n (n + 1) true).trans (decide_eq_false (by omega))) ?_
      exact ⟨rfl, (fun b o e => (sH585 _ _ (sH584 _ _ (sH582 _ _ (sH578 _ _ (sH576 _ _ (so20 _ _ e)))))))⟩
    rintro σ1 Hn ⟨rfl, so21⟩
    refine ⟨_, ?_, fun _ _ h => h⟩
    refine ⟨_, rfl, Nat.zero_le _, fun p589 np589 => gen_heap np589 fun H590 sH590 hp589 => ?_⟩
    refine ⟨_, rfl, (by show 1 ≤ sizeLine; decide), fun p591 np591 => gen_heap np591 fun H592 sH592 hp591 => ?_⟩
    refine ⟨(by show 3 ≤ sizeLine; decide), fun p593 np593 => gen_heap np593 fun H594 sH594 hp593 => ?_⟩
    refine ⟨_, rfl, _, rfl, (by show 4 ≤ sizeLine; decide), fun p595 np595 => gen_heap np595 fun H596 sH596 hp595 => ?_⟩
    refine ⟨(by show 12 ≤ sizeLine; decide), fun p597 np597 => gen_heap np597 fun H598 sH598 hp597 => ?_⟩
    refine ⟨(by show 6 ≤ sizeLine; decide), fun p599 np599 => gen_heap np599 fun H600 sH600 hp599 => ?_⟩
    have h601 := (sH600 _ _ hp597)
    have h602 := (sH600 _ _ (sH598 _ _ hp595))
    have h603 := (sH600 _ _ (sH598 _ _ (sH596 _ _ hp593)))
    have h604 := (sH600 _ _ (sH598 _ _ (sH596 _ _ (sH594 _ _ hp591))))
    have h605 := (sH600 _ _ (sH598 _ _ (sH596 _ _ (sH594 _ _ (sH592 _ _ hp589)))))
    have h606 := (sH600 _ _ (sH598 _ _ (sH596 _ _ (sH594 _ _ (sH592 _ _ (sH590 _ _ (so21 _ _ h19)))))))
    have hW : ∀ x ∈ [V.ref p1, V.ref p589, V.ref p591, V.ref p593, V.ref p595, V.ref p597], WCase H600 x := (each_cons ⟨p1, ([3, 1, 2] : List Int), rfl, h606, ⟨by show 3 ≤ 12; decide, fun z hz => by simp only [List.mem_cons, List.not_mem_nil, or_false] at hz; omega⟩⟩ (each_cons ⟨p589, ([] : List Int), rfl, h605, ⟨by decide, fun z hz => (nomatch hz)⟩⟩ (each_cons ⟨p591, ([n] : List Int), rfl, h604, ⟨by show 1 ≤ 12; decide, fun z hz => by simp only [List.mem_cons, List.not_mem_nil, or_false] at hz; omega⟩⟩ (each_cons ⟨p593, ([1, 9, 1] : List Int), rfl, h603, ⟨by show 3 ≤ 12; decide, fun z hz => by simp only [List.mem_cons, List.not_mem_nil, or_false] at hz; omega⟩⟩ (each_cons ⟨p595, ([n, 0, n, 4] : List Int), rfl, h602, ⟨by show 4 ≤ 12; decide, fun z hz => by simp only [List.mem_cons, List.not_mem_nil, or_false] at hz; omega⟩⟩ (each_cons ⟨p597, ([1, 2, 3, 4, 5, 6, 7, 8, 9, 10, 11, 12] : List Int), rfl, h601, ⟨by show 12 ≤ 12; decide, fun z hz => by simp only [List.mem_cons, List.not_mem_nil, or_false] at hz; omega⟩⟩ each_nil))))))
    refine ⟨p599, rfl, ⟨_, SqT.of hp599⟩, ?_⟩
    refine for_tup (K := K) (a := p599) (xs := [V.ref p1, V.ref p589, V.ref p591, V.ref p593, V.ref p595, V.ref p597]) (fun i σ Hx => ∃ (x7 x8 x9 : Option V), σ = [some (V.int n), some (V.str "left"), some (V.str "right"), some (V.ref p1), some (V.ref p11), some (V.ref p17), some (V.ref cs), x7, x8, x9, none, none] ∧ Same H600 Hx) ⟨_, _, _, rfl, Same.refl _⟩ ?_ ?_ ?_
    · rintro i σ Hb _ ⟨x7, x8, x9, rfl, sb⟩
      exact SqT.of (sb _ _ hp599)
    · rintro i y σ Hb hi ⟨x7, x8, x9, rfl, sb⟩
      obtain ⟨r, ns, rfl, hr0, ok⟩ := (hW y (List.mem_of_getElem? hi)).mono sb
      refine ⟨_, rfl, _, rfl, .inl ⟨ns, ⟨r, rfl, (SqL.of hr0), ok⟩, fun Hb1 sHb1 => ?_⟩⟩
      have hb2 := (sHb1 _ _ hr0)
      refine ⟨_, rfl, _, rfl, .inl ⟨ns, ⟨r, rfl, (SqL.of hb2), ok⟩, fun Hb3 sHb3 => ?_⟩⟩
      refine ⟨_, _, rfl, rfl, _, _, rfl, rfl, ⟨by decide, by decide, by decide⟩, _, rfl, _, _, rfl, rfl, ⟨by decide, by decide, by decide⟩, (by show 5 ≤ sizeLine; decide), fun pb4 npb4 => gen_heap npb4 fun Hb5 sHb5 hpb4 => ?_⟩
      have hI : ∀ x ∈ [V.int (wv ns ns.length 0), V.int ((wv ns ns.length 0) + 1), V.int (-(10 ^ (30 : Int).toNat)), V.int (10 ^ (30 : Int).toNat), V.int 0], ∃ k : Int, x = V.int k := (each_cons ⟨_, rfl⟩ (each_cons ⟨_, rfl⟩ (each_cons ⟨_, rfl⟩ (each_cons ⟨_, rfl⟩ (each_cons ⟨_, rfl⟩ each_nil)))))
      have hb6 := (sHb5 _ _ (sHb3 _ _ hb2))
      refine ⟨pb4, rfl, ⟨_, SqT.of hpb4⟩, ?_⟩
      refine for_tup (K := K) (a := pb4) (xs := [V.int (wv ns ns.length 0), V.int ((wv ns ns.length 0) + 1), V.int (-(10 ^ (30 : Int).toNat)), V.int (10 ^ (30 : Int).toNat), V.int 0]) (fun i σ Hx => ∃ (y7 y9 : Option V), σ = [some (V.int n), some (V.str "left"), some (V.str "right"), some (V.ref p1), some (V.ref p11), some (V.ref p17), some (V.ref cs), y7, some (V.ref r), y9, none, none] ∧ Same Hb5 Hx) ⟨_, _, rfl, Same.refl _⟩ ?_ ?_ ?_
      · rintro i σ Hc _ ⟨y7, y9, rfl, sc⟩
        exact SqT.of (sc _ _ hpb4)
      · rintro i y σ Hc hi ⟨y7, y9, rfl, sc⟩
        obtain ⟨k, rfl⟩ := hI y (List.mem_of_getElem? hi)
        have hrc := sc _ _ hb6
        cases hb : decide (k ≤ wv ns ns.length 0) with
        | true =>
          refine ⟨_, ?_, fun _ _ h => h⟩
          refine ⟨_, rfl, _, rfl, _, _, rfl, .inr ⟨ns, ⟨r, rfl, (SqL.of hrc), ok⟩, .inr ⟨_, rfl, fun Hc1 oc2 dxc3 lc4 xsc5 sHc1 noc2 nlc4 hoc2 hlc4 Tlc4 => ?_⟩⟩⟩
          rw [show decide (k ≤ wv ns ns.length 0) = true from hb] at hoc2 Tlc4
          rw [if_pos rfl] at hoc2
          have hc6 := (sHc1 _ _ hrc)
          refine ⟨_, rfl, _, _, _, _, _, rfl, .own _, ty_ins hoc2 T.clGets T.tyGets, T.kitGets_Gets, _, rfl, _, rfl, _, rfl, .inl ⟨ns, ⟨r, rfl, (SqL.of hc6), ok⟩, fun Hc7 sHc7 => ?_⟩⟩
          refine ⟨_, _, rfl, rfl, rfl, _, rfl, ?_⟩
          refine iteFb (not_t (decide_eq_true (congrArg V.bl hb.symm))) ?_
          have hc8 := (sHc7 _ _ hoc2)
          refine ⟨_, rfl, oc2, _, _, rfl, rfl, .inl ⟨hc8, ?_⟩⟩
          have hc10 := (sHc7 _ _ hc6)
          have hc11 := (sHc7 _ _ hlc4)
          have tc12 := (Tris.mono sHc7 Tlc4)
          refine ⟨_, rfl, _, rfl, oc2, r, lc4, _, ns, _, _, _, rfl, hc8, (SqL.of hc10), hc11, tc12, planV_len ok.1, ok.1, fun Hc9 sHc9 => ?_⟩
          refine ⟨_, rfl, ?_⟩
          refine iteFb (not_t ((shows_first _ _).trans hb)) ?_
          exact ⟨_, _, rfl, sc.trans (fun b o e => (sHc9 _ _ (sHc7 _ _ (sHc1 _ _ e))))⟩
        | false =>
          refine ⟨_, ?_, fun _ _ h => h⟩
          refine ⟨_, rfl, _, rfl, _, _, rfl, .inr ⟨ns, ⟨r, rfl, (SqL.of hrc), ok⟩, .inr ⟨_, rfl, fun Hc1 oc2 dxc3 lc4 xsc5 sHc1 noc2 nlc4 hoc2 hlc4 Tlc4 => ?_⟩⟩⟩
          rw [show decide (k ≤ wv ns ns.length 0) = false from hb] at hoc2 Tlc4
          rw [if_neg Bool.false_ne_true] at hoc2
          have hc6 := (sHc1 _ _ hrc)
          refine ⟨_, rfl, _, _, _, _, _, rfl, .own _, ty_ins hoc2 T.clHeld T.tyHeld, T.kitHeld_Gets, _, rfl, _, rfl, _, rfl, .inl ⟨ns, ⟨r, rfl, (SqL.of hc6), ok⟩, fun Hc7 sHc7 => ?_⟩⟩
          refine ⟨_, _, rfl, rfl, rfl, _, rfl, ?_⟩
          refine iteFb (not_t (decide_eq_true (congrArg V.bl hb.symm))) ?_
          have hc8 := (sHc7 _ _ hoc2)
          refine ⟨_, rfl, oc2, _, _, rfl, rfl, .inr ⟨hc8, ?_⟩⟩
          have hc10 := (sHc7 _ _ hc6)
          have hc11 := (sHc7 _ _ hlc4)
          have tc12 := (Tris.mono sHc7 Tlc4)
          refine ⟨_, rfl, _, rfl, oc2, r, lc4, _, ns, _, _, _, rfl, hc8, (SqL.of hc10), hc11, tc12, planV_len ok.1, ok.1, fun Hc9 sHc9 => ?_⟩
          refine ⟨_, rfl, ?_⟩
          refine iteFb (not_t ((shows_other _ _).trans (decide_eq_true (by have := of_decide_eq_false hb; omega)))) ?_
          exact ⟨_, _, rfl, sc.trans (fun b o e => (sHc9 _ _ (sHc7 _ _ (sHc1 _ _ e))))⟩
      · rintro σ Hc ⟨y7, y9, rfl, sc⟩
        exact ⟨_, _, _, rfl, (sb.trans (fun b o e => (sHb5 _ _ (sHb3 _ _ (sHb1 _ _ e))))).trans sc⟩
    rintro σ Hz ⟨x7, x8, x9, rfl, sz⟩
    exact q _ ((show Same H H600 from (fun b o e => (sH600 _ _ (sH598 _ _ (sH596 _ _ (sH594 _ _ (sH592 _ _ (sH590 _ _ (so21 _ _ (sH18 _ _ (sH16 _ _ (sH14 _ _ (sH12 _ _ (sH10 _ _ (sH8 _ _ (sH6 _ _ (sH4 _ _ (sH2 _ _ e)))))))))))))))))).trans sz)
end
end K09
namespace K09
open PySem PySem.Spec PyProof.Rows L2 LamX NdefX RE
section
variable {P : Program} {w : World} {K : PySem.W.Frag} {mg : Str → Option Value} {base : Heap} {A : Ad}
theorem ok__law_refused_right (T : Tx K mg A) (TB : TabB base mg A.c__law_refused_right A.P__law_refused_right) : FnOk P w K mg base CX0 31 A.f__law_refused_right A.d__law_refused_right [] (spRefused9 (tabs A)) := by
  have G_law_word : FnOk P w K mg base CX0 30 A.f__law_word A.d__law_word ["_law_ask", "_law_thing"] (spWord P w K mg base [(A.C_BadNumber, "number"), (A.C_BadRow, "row"), (A.C_BadTakes, "takes"), (A.C_Odd, "odd")]) := ok__law_word T
  have Gplay_by : FnOk P w K mg base (L2.CX P w) 28 A.f_play_by A.d_play_by ["row", "number"] (spPlayBy K A.C_BadRow A.C_BadNumber) := ok_play_by T
  have Ghow_many : FnOk P w K mg base (L2.CX P w) 28 A.f_how_many A.d_how_many ["row"] (spHowMany K A.C_BadRow) := ok_how_many T
  have Gworth : FnOk P w K mg base (L2.CX P w) 14 A.f_worth A.d_worth ["row"] (spWorth K A.C_BadRow) := ok_worth T
  have Gbest : FnOk P w K mg base (L2.CX P w) 15 A.f_best A.d_best ["row"] (spBest K A.C_BadRow) := ok_best T
  have Gsure : FnOk P w K mg base (L2.CX P w) 3 A.f_sure A.d_sure ["row"] (spSure K A.C_BadRow A.C_Odd) := ok_sure T
  have Ggreedy : FnOk P w K mg base (L2.CX P w) 3 A.f_greedy A.d_greedy ["row"] (spGreedy K A.C_BadRow) := ok_greedy T
  have Gled : FnOk P w K mg base (L2.CX P w) 3 A.f_led A.d_led ["row", "takes"] (spLed K A.C_BadRow A.C_BadTakes) := ok_led T
  have Gjudged : FnOk P w K mg base (L2.CX P w) 16 A.f_judged A.d_judged ["row", "least"] (spJudged K A.C_BadRow A.C_BadNumber A.C_Gets A.C_Held) := ok_judged T
  have mem__law_refused_right := memt__law_refused_right A
  have hu__law_refused_right := hut__law_refused_right T
  refine T.FC_law_refused_right.ok sc__law_refused_right (fun vs H Q E h => ?_) (fun A' outer s H vs Q E hr h => ?_)
  · obtain ⟨rfl, _⟩ := h
    rfl
  · obtain ⟨rfl, hT0, q⟩ := h
    refine ⟨_, (pss_mid (ps_for PassesOwn.never rfl (pi_tup (pe_tup (pa_cons (pe_op op_rep (pe_lst (pa_cons pe_int pa_nil)) pe_int) (pa_cons (pe_lst (pa_cons (pe_un un_neg pe_int) pa_nil)) (pa_cons (pe_lst (pa_cons pe_int pa_nil)) (pa_cons (pe_lst (pa_cons pe_bl pa_nil)) (pa_cons (pe_tup (pa_cons pe_int (pa_cons pe_int pa_nil))) (pa_cons pe_non (pa_cons (pe_lst (pa_cons pe_str pa_nil)) (pa_cons (pe_lst (pa_cons pe_non pa_nil)) pa_nil)))))))))) (pg_name (i := 0) sc__law_refused_right.nd rfl (Or.inr rfl))
      (pss_mid (ps_set (i := 1) sc__law_refused_right.nd rfl (Or.inl rfl) (pe_lst (pa_cons (pe_lam (T := tabs A) TB rfl mem__law_refused_right hu__law_refused_right (free_by (sc := defScope s__law_refused_right) (by decide +kernel))) (pa_cons (pe_lam (T := tabs A) TB rfl mem__law_refused_right hu__law_refused_right (free_by (sc := defScope s__law_refused_right) (by decide +kernel))) (pa_cons (pe_lam (T := tabs A) TB rfl mem__law_refused_right hu__law_refused_right (free_by (sc := defScope s__law_refused_right) (by decide +kernel))) (pa_cons (pe_lam (T := tabs A) TB rfl mem__law_refused_right hu__law_refused_right (free_by (sc := defScope s__law_refused_right) (by decide +kernel))) pa_nil))))))
      (pss_mid (ps_set (i := 1) sc__law_refused_right.nd rfl (Or.inl rfl) (pe_op op_cat (pv 1) (pe_lst (pa_cons (pe_lam (T := tabs A) TB rfl mem__law_refused_right hu__law_refused_right (free_by (sc := defScope s__law_refused_right) (by decide +kernel))) (pa_cons (pe_lam (T := tabs A) TB rfl mem__law_refused_right hu__law_refused_right (free_by (sc := defScope s__law_refused_right) (by decide +kernel))) pa_nil)))))
      (pss_mid (ps_set (i := 1) sc__law_refused_right.nd rfl (Or.inl rfl) (pe_op op_cat (pv 1) (pe_lst (pa_cons (pe_lam (T := tabs A) TB rfl mem__law_refused_right hu__law_refused_right (free_by (sc := defScope s__law_refused_right) (by decide +kernel))) (pa_cons (pe_lam (T := tabs A) TB rfl mem__law_refused_right hu__law_refused_right (free_by (sc := defScope s__law_refused_right) (by decide +kernel))) pa_nil)))))
      (pss_one (ps_if (pt_cmpR (op_neD hr.units) (pe_lc (own := [("_law_ask", 3)]) (by rfl) sc__law_refused_right.nd (pi_list (pv 1)) (blkOk_by (own := [("_law_ask", 3)]) (N := N__law_refused_right) (sc := defScope s__law_refused_right) (by decide +kernel)) (fun _ _ _ _ _ => (pg_name (i := 3) sc__law_refused_right.nd rfl (Or.inl rfl))) (fun _ _ _ _ _ => pts_nil) (fun _ _ _ _ _ => (pe_call G_law_word (hr.mono (by first | decide | omega)) (by rfl) T.g_law_word T.F_law_word.kp T.b_law_word .nil pass0 (pa_cons (pv 3) (pa_cons (pv 0) pa_nil))))) (pe_op op_rep (pe_lst (pa_cons pe_str pa_nil)) pe_int) (nomark _)) (pss_one (ps_ret pe_bl)) pss_nil))))))
      (pss_mid (ps_set (i := 2) sc__law_refused_right.nd rfl (Or.inl rfl) (pe_lst (pa_cons (pe_op op_rep (pe_lst (pa_cons pe_str pa_nil)) pe_int) (pa_cons (pe_lst (pa_cons pe_str pa_nil)) (pa_cons (pe_tup (pa_cons pe_str pa_nil)) (pa_cons pe_non (pa_cons (pe_lst (pa_cons pe_bl pa_nil)) (pa_cons (pe_lst (pa_cons pe_str pa_nil)) (pa_cons (pe_lst (pa_cons pe_non pa_nil)) (pa_cons pe_str pa_nil))))))))))
      (pss_mid (ps_if (pt_cmpR (op_neD hr.units) (pe_lc (own := [("_law_bad", 0)]) (by rfl) sc__law_refused_right.nd (pi_list (pv 2)) (blkOk_by (own := [("_law_bad", 0)]) (N := N__law_refused_right) (sc := defScope s__law_refused_right) (by decide +kernel)) (fun _ _ _ _ _ => (pg_name (i := 0) sc__law_refused_right.nd rfl (Or.inl rfl))) (fun _ _ _ _ _ => pts_nil) (fun _ _ _ _ _ => (pe_call G_law_word (hr.mono (by first | decide | omega)) (by rfl) T.g_law_word T.F_law_word.kp T.b_law_word .nil pass0 (pa_cons (show PE _ _ (tLamV (tabs A) _ fun c1 => ⟨"<lambda>", (("_law_refused_right" : Str) ++ ".<locals>.") ++ "<lambda>", _, [], _, [], c1⟩) from pe_lam (T := tabs A) TB rfl mem__law_refused_right hu__law_refused_right (free_none (by decide +kernel))) (pa_cons (pv 0) pa_nil))))) (pe_op op_rep (pe_lst (pa_cons pe_str pa_nil)) pe_int) (nomark _)) (pss_one (ps_ret pe_bl)) pss_nil)
      (pss_mid (ps_if (pt_cmpR (op_neD hr.units) (pe_lc (own := [("_law_bad", 0)]) (by rfl) sc__law_refused_right.nd (pi_tup (pe_tup (pa_cons pe_non (pa_cons pe_bl (pa_cons pe_str (pa_cons (pe_lst (pa_cons pe_int pa_nil)) pa_nil)))))) (blkOk_by (own := [("_law_bad", 0)]) (N := N__law_refused_right) (sc := defScope s__law_refused_right) (by decide +kernel)) (fun _ _ _ _ _ => (pg_name (i := 0) sc__law_refused_right.nd rfl (Or.inl rfl))) (fun _ _ _ _ _ => pts_nil) (fun _ _ _ _ _ => (pe_call G_law_word (hr.mono (by first | decide | omega)) (by rfl) T.g_law_word T.F_law_word.kp T.b_law_word .nil pass0 (pa_cons (show PE _ _ (tLamV (tabs A) _ fun c1 => ⟨"<lambda>", (("_law_refused_right" : Str) ++ ".<locals>.") ++ "<lambda>", _, [], _, [], c1⟩) from pe_lam (T := tabs A) TB rfl mem__law_refused_right hu__law_refused_right (free_none (by decide +kernel))) (pa_cons (pv 0) pa_nil))))) (pe_op op_rep (pe_lst (pa_cons pe_str pa_nil)) pe_int) (nomark _)) (pss_one (ps_ret pe_bl)) pss_nil)
      (pss_one (ps_ret (pe_cmpR (op_eqD hr.units) (pe_lc (own := [("_law_bad", 0)]) (by rfl) sc__law_refused_right.nd (pi_tup (pe_tup (pa_cons (pe_un un_neg pe_int) (pa_cons pe_int (pa_cons pe_bl (pa_cons pe_non pa_nil)))))) (blkOk_by (own := [("_law_bad", 0)]) (N := N__law_refused_right) (sc := defScope s__law_refused_right) (by decide +kernel)) (fun _ _ _ _ _ => (pg_name (i := 0) sc__law_refused_right.nd rfl (Or.inl rfl))) (fun _ _ _ _ _ => pts_nil) (fun _ _ _ _ _ => (pe_call G_law_word (hr.mono (by first | decide | omega)) (by rfl) T.g_law_word T.F_law_word.kp T.b_law_word .nil pass0 (pa_cons (show PE _ _ (tLamV (tabs A) _ fun c1 => ⟨"<lambda>", (("_law_refused_right" : Str) ++ ".<locals>.") ++ "<lambda>", _, [], _, [], c1⟩) from pe_lam (T := tabs A) TB rfl mem__law_refused_right hu__law_refused_right (free_none (by decide +kernel))) (pa_cons (pv 0) pa_nil))))) (pe_op op_rep (pe_lst (pa_cons pe_str pa_nil)) pe_int) (nomark _)))))))), ?_⟩
    refine ⟨_, ?_, fun _ _ h => h⟩
    refine ⟨(by show 1 ≤ sizeLine; decide), fun p1 np1 => gen_heap np1 fun H2 sH2 hp1 => ?_⟩
    refine ⟨p1, 13, _, rfl, rfl, hp1, (by decide), (by decide), (by show 1 * 13 ≤ sizeLine; decide), fun p3 np3 => gen_heap np3 fun H4 sH4 hp3 => ?_⟩
    replace hp3 : H4 p3 = some (.lst [V.int 0, V.int 0, V.int 0, V.int 0, V.int 0, V.int 0, V.int 0, V.int 0, V.int 0, V.int 0, V.int 0, V.int 0, V.int 0]) := hp3
    refine ⟨_, rfl, (by show 1 ≤ sizeLine; decide), fun p5 np5 => gen_heap np5 fun H6 sH6 hp5 => ?_⟩
    refine ⟨(by show 1 ≤ sizeLine; decide), fun p7 np7 => gen_heap np7 fun H8 sH8 hp7 => ?_⟩
    refine ⟨(by show 1 ≤ sizeLine; decide), fun p9 np9 => gen_heap np9 fun H10 sH10 hp9 => ?_⟩
    refine ⟨(by show 2 ≤ sizeLine; decide), fun p11 np11 => gen_heap np11 fun H12 sH12 hp11 => ?_⟩
    refine ⟨(by show 1 ≤ sizeLine; decide), fun p13 np13 => gen_heap np13 fun H14 sH14 hp13 => ?_⟩
    refine ⟨(by show 1 ≤ sizeLine; decide), fun p15 np15 => gen_heap np15 fun H16 sH16 hp15 => ?_⟩
    refine ⟨(by show 8 ≤ sizeLine; decide), fun p17 np17 => gen_heap np17 fun H18 sH18 hp17 => ?_⟩
    have h19 := (sH18 _ _ hp15)
    have h20 := (sH18 _ _ (sH16 _ _ hp13))
    have h21 := (sH18 _ _ (sH16 _ _ (sH14 _ _ hp11)))
    have h22 := (sH18 _ _ (sH16 _ _ (sH14 _ _ (sH12 _ _ hp9))))
    have h23 := (sH18 _ _ (sH16 _ _ (sH14 _ _ (sH12 _ _ (sH10 _ _ hp7)))))
    have h24 := (sH18 _ _ (sH16 _ _ (sH14 _ _ (sH12 _ _ (sH10 _ _ (sH8 _ _ hp5))))))
    have h25 := (sH18 _ _ (sH16 _ _ (sH14 _ _ (sH12 _ _ (sH10 _ _ (sH8 _ _ (sH6 _ _ hp3)))))))
    have hB : ∀ x ∈ [V.ref p3, V.ref p5, V.ref p7, V.ref p9, V.ref p11, V.non, V.ref p13, V.ref p15], NoRow K (noTab H18) x := (each_cons (.inr ⟨p3, [V.int 0, V.int 0, V.int 0, V.int 0, V.int 0, V.int 0, V.int 0, V.int 0, V.int 0, V.int 0, V.int 0, V.int 0, V.int 0], rfl, SqL.of (noTab_lst h25), .inl (by show 12 < 13; decide)⟩) (each_cons (.inr ⟨p5, [V.int (-1)], rfl, SqL.of (noTab_lst h24), .inr ⟨(by show 1 ≤ 12; decide), (pvs_cons (pv_int _) pvs_nil), (by decide +kernel)⟩⟩) (each_cons (.inr ⟨p7, [V.int 1000001], rfl, SqL.of (noTab_lst h23), .inr ⟨(by show 1 ≤ 12; decide), (pvs_cons (pv_int _) pvs_nil), (by decide +kernel)⟩⟩) (each_cons (.inr ⟨p9, [V.bl true], rfl, SqL.of (noTab_lst h22), .inr ⟨(by show 1 ≤ 12; decide), (pvs_cons (pv_bl _) pvs_nil), (by decide +kernel)⟩⟩) (each_cons (.inl ⟨_, pv_tup (noTab_tup h21), rfl⟩) (each_cons (.inl ⟨_, pv_non, rfl⟩) (each_cons (.inr ⟨p13, [V.str "1"], rfl, SqL.of (noTab_lst h20), .inr ⟨(by show 1 ≤ 12; decide), (pvs_cons (pv_str _) pvs_nil), (by decide +kernel)⟩⟩) (each_cons (.inr ⟨p15, [V.non], rfl, SqL.of (noTab_lst h19), .inr ⟨(by show 1 ≤ 12; decide), (pvs_cons pv_non pvs_nil), (by decide +kernel)⟩⟩) each_nil))))))))
    have hTh : Tabs (tabs A) H18 := hT0.ext (fun b o e => (sH18 _ _ (sH16 _ _ (sH14 _ _ (sH12 _ _ (sH10 _ _ (sH8 _ _ (sH6 _ _ (sH4 _ _ (sH2 _ _ e))))))))))
    refine ⟨p17, rfl, ⟨_, SqT.of hp17⟩, ?_⟩
    refine for_tup (K := K) (a := p17) (xs := [V.ref p3, V.ref p5, V.ref p7, V.ref p9, V.ref p11, V.non, V.ref p13, V.ref p15]) (fun i σ Hx => ∃ (x0 x1 : Option V), σ = [x0, x1, none, none] ∧ ExtN H18 Hx ∧ Tabs (tabs A) Hx) ⟨_, _, rfl, ExtN.refl _, hTh⟩ ?_ ?_ ?_
    · rintro i σ Hb _ ⟨x0, x1, rfl, eb, _⟩
      exact SqT.of (extN_tup eb hp17)
    · rintro i y σ Hb hi ⟨x0, x1, rfl, eb, hTb⟩
      have hbad : NoRow K Hb y := (hB y (List.mem_of_getElem? hi)).mono (noTab_ext eb)
      refine ⟨_, ?_, fun _ _ h => h⟩
      refine ⟨hTb, fun f1 c1 J1 e1 _ hT1 g1 nf1 hf1 hc1 => ?_⟩
      have a1 : AskR P w K mg base A.C_BadRow (NoRow K) J1 (.ref f1) := by
        refine ⟨_, _, fun vs H Q E => ∃ y, vs = [y] ∧ NoRow K H y ∧ ∀ H', Same H H' → E (.ref A.C_BadRow) none H', rfl, lamD_sub hf1 hc1, ?_, lamD_hard, fun H2 y hy Q E h => ⟨y, rfl, hy, h⟩⟩
        refine callable_lam (k := 28) (N := ["_law_one"]) (ps := ["_law_one"]) (nscope_by (by first | (dsimp only; decide +kernel) | rfl)) rfl nf1 (fun pm ctv us hl => match us, hl with | [_], _ => rfl) (fun vs H Q E h => by obtain ⟨y, rfl, _⟩ := h; rfl) (fun A1 o1 s1 H1 vs1 Q1 E1 hr1 h1 => ?_)
        obtain ⟨y, rfl, hy, h1⟩ := h1
        exact ⟨_, pe_call Gworth (hr1.mono (by first | decide | omega)) (by rfl) T.gworth T.Fworth.kp T.bworth .nil (passes_call (takes_of rfl rfl rfl rfl) (fun _ _ _ _ h => h)) (pa_cons (pv 0) pa_nil), ⟨_, rfl, _, rfl, .inr ⟨hy, h1⟩⟩⟩
      refine ⟨hT1, fun f2 c2 J2 e2 _ hT2 g2 nf2 hf2 hc2 => ?_⟩
      have a2 : AskR P w K mg base A.C_BadRow (NoRow K) J2 (.ref f2) := by
        refine ⟨_, _, fun vs H Q E => ∃ y, vs = [y] ∧ NoRow K H y ∧ ∀ H', Same H H' → E (.ref A.C_BadRow) none H', rfl, lamD_sub hf2 hc2, ?_, lamD_hard, fun H2 y hy Q E h => ⟨y, rfl, hy, h⟩⟩
        refine callable_lam (k := 28) (N := ["_law_two"]) (ps := ["_law_two"]) (nscope_by (by first | (dsimp only; decide +kernel) | rfl)) rfl nf2 (fun pm ctv us hl => match us, hl with | [_], _ => rfl) (fun vs H Q E h => by obtain ⟨y, rfl, _⟩ := h; rfl) (fun A1 o1 s1 H1 vs1 Q1 E1 hr1 h1 => ?_)
        obtain ⟨y, rfl, hy, h1⟩ := h1
        exact ⟨_, pe_call Gbest (hr1.mono (by first | decide | omega)) (by rfl) T.gbest T.Fbest.kp T.bbest .nil (passes_call (takes_of rfl rfl rfl rfl) (fun _ _ _ _ h => h)) (pa_cons (pv 0) pa_nil), ⟨_, rfl, _, rfl, .inr ⟨hy, h1⟩⟩⟩
      refine ⟨hT2, fun f3 c3 J3 e3 _ hT3 g3 nf3 hf3 hc3 => ?_⟩
      have a3 : AskR P w K mg base A.C_BadRow (NoRow K) J3 (.ref f3) := by
        refine ⟨_, _, fun vs H Q E => ∃ y, vs = [y] ∧ NoRow K H y ∧ ∀ H', Same H H' → E (.ref A.C_BadRow) none H', rfl, lamD_sub hf3 hc3, ?_, lamD_hard, fun H2 y hy Q E h => ⟨y, rfl, hy, h⟩⟩
        refine callable_lam (k := 28) (N := ["_law_six"]) (ps := ["_law_six"]) (nscope_by (by first | (dsimp only; decide +kernel) | rfl)) rfl nf3 (fun pm ctv us hl => match us, hl with | [_], _ => rfl) (fun vs H Q E h => by obtain ⟨y, rfl, _⟩ := h; rfl) (fun A1 o1 s1 H1 vs1 Q1 E1 hr1 h1 => ?_)
        obtain ⟨y, rfl, hy, h1⟩ := h1
        exact ⟨_, pe_call Ggreedy (hr1.mono (by first | decide | omega)) (by rfl) T.ggreedy T.Fgreedy.kp T.bgreedy .nil (passes_call (takes_of rfl rfl rfl rfl) (fun _ _ _ _ h => h)) (pa_cons (pv 0) pa_nil), ⟨_, rfl, _, rfl, .inr ⟨hy, h1⟩⟩⟩
      refine ⟨hT3, fun f4 c4 J4 e4 _ hT4 g4 nf4 hf4 hc4 => ?_⟩
      have a4 : AskR P w K mg base A.C_BadRow (NoRow K) J4 (.ref f4) := by
        refine ⟨_, _, fun vs H Q E => ∃ y, vs = [y] ∧ NoRow K H y ∧ ∀ H', Same H H' → E (.ref A.C_BadRow) none H', rfl, lamD_sub hf4 hc4, ?_, lamD_hard, fun H2 y hy Q E h => ⟨y, rfl, hy, h⟩⟩
        refine callable_lam (k := 28) (N := ["_law_it"]) (ps := ["_law_it"]) (nscope_by (by first | (dsimp only; decide +kernel) | rfl)) rfl nf4 (fun pm ctv us hl => match us, hl with | [_], _ => rfl) (fun vs H Q E h => by obtain ⟨y, rfl, _⟩ := h; rfl) (fun A1 o1 s1 H1 vs1 Q1 E1 hr1 h1 => ?_)
        obtain ⟨y, rfl, hy, h1⟩ := h1
        exact ⟨_, pe_call Gsure (hr1.mono (by first | decide | omega)) (by rfl) T.gsure T.Fsure.kp T.bsure .nil (passes_call (takes_of rfl rfl rfl rfl) (fun _ _ _ _ h => h)) (pa_cons (pv 0) pa_nil), ⟨_, rfl, _, rfl, .inr ⟨hy, h1⟩⟩⟩
      refine ⟨(by show 4 ≤ sizeLine; decide), fun u0 nu0 => gen_heap nu0 fun U0 su0 hu0 => ?_⟩
      have hTu0 := hT4.ext su0
      refine ⟨_, ?_, fun _ _ h => h⟩
      refine ⟨_, rfl, hTu0, fun f5 c5 J5 e5 _ hT5 g5 nf5 hf5 hc5 => ?_⟩
      have a5 : AskR P w K mg base A.C_BadRow (NoRow K) J5 (.ref f5) := by
        refine ⟨_, _, fun vs H Q E => ∃ y, vs = [y] ∧ NoRow K H y ∧ ∀ H', Same H H' → E (.ref A.C_BadRow) none H', rfl, lamD_sub hf5 hc5, ?_, lamD_hard, fun H2 y hy Q E h => ⟨y, rfl, hy, h⟩⟩
        refine callable_lam (k := 28) (N := ["_law_me"]) (ps := ["_law_me"]) (nscope_by (by first | (dsimp only; decide +kernel) | rfl)) rfl nf5 (fun pm ctv us hl => match us, hl with | [_], _ => rfl) (fun vs H Q E h => by obtain ⟨y, rfl, _⟩ := h; rfl) (fun A1 o1 s1 H1 vs1 Q1 E1 hr1 h1 => ?_)
        obtain ⟨y, rfl, hy, h1⟩ := h1
        exact ⟨_, pe_call Gled (hr1.mono (by first | decide | omega)) (by rfl) T.gled T.Fled.kp T.bled .nil (passes_call (takes_of rfl rfl rfl rfl) (fun _ _ _ _ h => h)) (pa_cons (pv 0) (pa_cons pe_non pa_nil)), ⟨_, rfl, _, _, rfl, .inl ⟨hy, h1⟩⟩⟩
      refine ⟨hT5, fun f6 c6 J6 e6 _ hT6 g6 nf6 hf6 hc6 => ?_⟩
      have a6 : AskR P w K mg base A.C_BadRow (NoRow K) J6 (.ref f6) := by
        refine ⟨_, _, fun vs H Q E => ∃ y, vs = [y] ∧ NoRow K H y ∧ ∀ H', Same H H' → E (.ref A.C_BadRow) none H', rfl, lamD_sub hf6 hc6, ?_, lamD_hard, fun H2 y hy Q E h => ⟨y, rfl, hy, h⟩⟩
        refine callable_lam (k := 28) (N := ["_law_us"]) (ps := ["_law_us"]) (nscope_by (by first | (dsimp only; decide +kernel) | rfl)) rfl nf6 (fun pm ctv us hl => match us, hl with | [_], _ => rfl) (fun vs H Q E h => by obtain ⟨y, rfl, _⟩ := h; rfl) (fun A1 o1 s1 H1 vs1 Q1 E1 hr1 h1 => ?_)
        obtain ⟨y, rfl, hy, h1⟩ := h1
        exact ⟨_, pe_call Gjudged (hr1.mono (by first | decide | omega)) (by rfl) T.gjudged T.Fjudged.kp T.bjudged .nil (passes_call (takes_of rfl rfl rfl rfl) (fun _ _ _ _ h => h)) (pa_cons (pv 0) (pa_cons pe_non pa_nil)), ⟨_, rfl, _, _, rfl, .inl ⟨hy, h1⟩⟩⟩
      refine ⟨(by show 2 ≤ sizeLine; decide), fun u1 nu1 => gen_heap nu1 fun U1 su1 hu1 => ?_⟩
      have hTu1 := hT6.ext su1
      refine ⟨u0, u1, _, _, rfl, rfl, (su1 _ _ (extN_lst e6 (extN_lst e5 hu0))), hu1, (by show 4 + 2 ≤ sizeLine; decide), fun v1 nv1 => gen_heap nv1 fun V1 sv1 hv1 => ?_⟩
      have hTv1 := hTu1.ext sv1
      refine ⟨_, ?_, fun _ _ h => h⟩
      refine ⟨_, rfl, hTv1, fun f7 c7 J7 e7 _ hT7 g7 nf7 hf7 hc7 => ?_⟩
      have a7 : AskR P w K mg base A.C_BadRow (NoRow K) J7 (.ref f7) := by
        refine ⟨_, _, fun vs H Q E => ∃ y, vs = [y] ∧ NoRow K H y ∧ ∀ H', Same H H' → E (.ref A.C_BadRow) none H', rfl, lamD_sub hf7 hc7, ?_, lamD_hard, fun H2 y hy Q E h => ⟨y, rfl, hy, h⟩⟩
        refine callable_lam (k := 28) (N := ["_law_them"]) (ps := ["_law_them"]) (nscope_by (by first | (dsimp only; decide +kernel) | rfl)) rfl nf7 (fun pm ctv us hl => match us, hl with | [_], _ => rfl) (fun vs H Q E h => by obtain ⟨y, rfl, _⟩ := h; rfl) (fun A1 o1 s1 H1 vs1 Q1 E1 hr1 h1 => ?_)
        obtain ⟨y, rfl, hy, h1⟩ := h1
        exact ⟨_, pe_call Ghow_many (hr1.mono (by first | decide | omega)) (by rfl) T.ghow_many T.Fhow_many.kp T.bhow_many .nil (passes_call (takes_of rfl rfl rfl rfl) (fun _ _ _ _ h => h)) (pa_cons (pv 0) pa_nil), ⟨_, rfl, _, rfl, .inr ⟨hy, h1⟩⟩⟩
      refine ⟨hT7, fun f8 c8 J8 e8 _ hT8 g8 nf8 hf8 hc8 => ?_⟩
      have a8 : AskR P w K mg base A.C_BadRow (NoRow K) J8 (.ref f8) := by
        refine ⟨_, _, fun vs H Q E => ∃ y, vs = [y] ∧ NoRow K H y ∧ ∀ H', Same H H' → E (.ref A.C_BadRow) none H', rfl, lamD_sub hf8 hc8, ?_, lamD_hard, fun H2 y hy Q E h => ⟨y, rfl, hy, h⟩⟩
        refine callable_lam (k := 28) (N := ["_law_her"]) (ps := ["_law_her"]) (nscope_by (by first | (dsimp only; decide +kernel) | rfl)) rfl nf8 (fun pm ctv us hl => match us, hl with | [_], _ => rfl) (fun vs H Q E h => by obtain ⟨y, rfl, _⟩ := h; rfl) (fun A1 o1 s1 H1 vs1 Q1 E1 hr1 h1 => ?_)
        obtain ⟨y, rfl, hy, h1⟩ := h1
        exact ⟨_, pe_call Gplay_by (hr1.mono (by first | decide | omega)) (by rfl) T.gplay_by T.Fplay_by.kp T.bplay_by .nil (passes_call (takes_of rfl rfl rfl rfl) (fun _ _ _ _ h => h)) (pa_cons (pv 0) (pa_cons pe_non pa_nil)), ⟨_, rfl, _, _, rfl, .inl ⟨hy, h1⟩⟩⟩
      refine ⟨(by show 2 ≤ sizeLine; decide), fun u2 nu2 => gen_heap nu2 fun U2 su2 hu2 => ?_⟩
      have hTu2 := hT8.ext su2
      refine ⟨v1, u2, _, _, rfl, rfl, (su2 _ _ (extN_lst e8 (extN_lst e7 hv1))), hu2, (by show 6 + 2 ≤ sizeLine; decide), fun v2 nv2 => gen_heap nv2 fun V2 sv2 hv2 => ?_⟩
      have hTv2 := hTu2.ext sv2
      have eall : ExtN Hb V2 := (e1.trans (e2.trans (e3.trans (e4.trans ((ExtN.of su0).trans (e5.trans (e6.trans ((ExtN.of su1).trans ((ExtN.of sv1).trans (e7.trans (e8.trans ((ExtN.of su2).trans (ExtN.of sv2)))))))))))))
      have hA : ∀ x ∈ [V.ref f1, V.ref f2, V.ref f3, V.ref f4, V.ref f5, V.ref f6, V.ref f7, V.ref f8], AskR P w K mg base A.C_BadRow (NoRow K) V2 x := (each_cons (a1.ext (e2.trans (e3.trans (e4.trans ((ExtN.of su0).trans (e5.trans (e6.trans ((ExtN.of su1).trans ((ExtN.of sv1).trans (e7.trans (e8.trans ((ExtN.of su2).trans (ExtN.of sv2))))))))))))) (each_cons (a2.ext (e3.trans (e4.trans ((ExtN.of su0).trans (e5.trans (e6.trans ((ExtN.of su1).trans ((ExtN.of sv1).trans (e7.trans (e8.trans ((ExtN.of su2).trans (ExtN.of sv2)))))))))))) (each_cons (a3.ext (e4.trans ((ExtN.of su0).trans (e5.trans (e6.trans ((ExtN.of su1).trans ((ExtN.of sv1).trans (e7.trans (e8.trans ((ExtN.of su2).trans (ExtN.of sv2))))))))))) (each_cons (a4.ext ((ExtN.of su0).trans (e5.trans (e6.trans ((ExtN.of su1).trans ((ExtN.of sv1).trans (e7.trans (e8.trans ((ExtN.of su2).trans (ExtN.of sv2)))))))))) (each_cons (a5.ext (e6.trans ((ExtN.of su1).trans ((ExtN.of sv1).trans (e7.trans (e8.trans ((ExtN.of su2).trans (ExtN.of sv2)))))))) (each_cons (a6.ext ((ExtN.of su1).trans ((ExtN.of sv1).trans (e7.trans (e8.trans ((ExtN.of su2).trans (ExtN.of sv2))))))) (each_cons (a7.ext (e8.trans ((ExtN.of su2).trans (ExtN.of sv2)))) (each_cons (a8.ext ((ExtN.of su2).trans (ExtN.of sv2))) each_nil))))))))
      have hbv : NoRow K V2 y := (hB y (List.mem_of_getElem? hi)).mono (noTab_ext (eb.trans eall))
      refine ⟨_, rfl, v2, rfl, ⟨_, SqL.of hv2⟩, fun D nD => ?_⟩
      refine lc_list (K := K) (a := v2) (xs := [V.ref f1, V.ref f2, V.ref f3, V.ref f4, V.ref f5, V.ref f6, V.ref f7, V.ref f8]) (fun i Hx => Same V2 Hx ∧ Hx D = some (.lst (List.replicate i (V.str "row")))) ⟨same_new nD _, upd_same⟩ (fun i Hx _ h => SqL.of (h.1 _ _ hv2)) ?_ ?_
      · rintro i x Hx hi ⟨sx, hD⟩
        have hil : i < 8 := (List.getElem?_eq_some_iff.mp hi).1
        obtain ⟨f, D', sp, rfl, hD', hcall, _, hsp⟩ := (hA x (List.mem_of_getElem? hi)).ext (ExtN.of sx)
        exact ⟨rfl, _, rfl, _, rfl, f, A.C_BadRow, D', sp, y, 1, "row", rfl, hcall, hD', rfl, fun Q' E' hE => hsp _ _ (hbv.mono sx) Q' E' hE, fun Hy sy => rp_step nD sx hD sy (by omega)⟩
      rintro Hd ⟨sd, hD⟩
      refine ⟨(by show 1 ≤ sizeLine; decide), fun pd1 npd1 => gen_heap npd1 fun Hd2 sHd2 hpd1 => ?_⟩
      refine ⟨pd1, 8, _, rfl, rfl, hpd1, (by decide), (by decide), (by show 1 * 8 ≤ sizeLine; decide), fun pd3 npd3 => gen_heap npd3 fun Hd4 sHd4 hpd3 => ?_⟩
      replace hpd3 : Hd4 pd3 = some (.lst [V.str "row", V.str "row", V.str "row", V.str "row", V.str "row", V.str "row", V.str "row", V.str "row"]) := hpd3
      have hd5 := (sHd4 _ _ (sHd2 _ _ hD))
      refine ⟨(PyData.list [PyData.str "row", PyData.str "row", PyData.str "row", PyData.str "row", PyData.str "row", PyData.str "row", PyData.str "row", PyData.str "row"]), (PyData.list [PyData.str "row", PyData.str "row", PyData.str "row", PyData.str "row", PyData.str "row", PyData.str "row", PyData.str "row", PyData.str "row"]), (.lst (SqL.of hd5) (.cons (.str _) (.cons (.str _) (.cons (.str _) (.cons (.str _) (.cons (.str _) (.cons (.str _) (.cons (.str _) (.cons (.str _) .nil))))))))), (.lst (SqL.of hpd3) (.cons (.str _) (.cons (.str _) (.cons (.str _) (.cons (.str _) (.cons (.str _) (.cons (.str _) (.cons (.str _) (.cons (.str _) .nil))))))))), (Sh.list (.cons (sh_flat (x := V.str "row") (by decide +kernel) 0) (.cons (sh_flat (x := V.str "row") (by decide +kernel) 0) (.cons (sh_flat (x := V.str "row") (by decide +kernel) 0) (.cons (sh_flat (x := V.str "row") (by decide +kernel) 0) (.cons (sh_flat (x := V.str "row") (by decide +kernel) 0) (.cons (sh_flat (x := V.str "row") (by decide +kernel) 0) (.cons (sh_flat (x := V.str "row") (by decide +kernel) 0) (.cons (sh_flat (x := V.str "row") (by decide +kernel) 0) (.nil 0)))))))))).shaped (by decide), (Sh.list (.cons (sh_flat (x := V.str "row") (by decide +kernel) 0) (.cons (sh_flat (x := V.str "row") (by decide +kernel) 0) (.cons (sh_flat (x := V.str "row") (by decide +kernel) 0) (.cons (sh_flat (x := V.str "row") (by decide +kernel) 0) (.cons (sh_flat (x := V.str "row") (by decide +kernel) 0) (.cons (sh_flat (x := V.str "row") (by decide +kernel) 0) (.cons (sh_flat (x := V.str "row") (by decide +kernel) 0) (.cons (sh_flat (x := V.str "row") (by decide +kernel) 0) (.nil 0)))))))))).shaped (by decide), _, rfl, ?_⟩
      refine iteFb (not_t (eqv_same ((Sh.list (.cons (sh_flat (x := V.str "row") (by decide +kernel) 0) (.cons (sh_flat (x := V.str "row") (by decide +kernel) 0) (.cons (sh_flat (x := V.str "row") (by decide +kernel) 0) (.cons (sh_flat (x := V.str "row") (by decide +kernel) 0) (.cons (sh_flat (x := V.str "row") (by decide +kernel) 0) (.cons (sh_flat (x := V.str "row") (by decide +kernel) 0) (.cons (sh_flat (x := V.str "row") (by decide +kernel) 0) (.cons (sh_flat (x := V.str "row") (by decide +kernel) 0) (.nil 0)))))))))).shaped (by decide)))) ?_
      have sl : Same V2 Hd4 := sd.trans (fun b o e => (sHd4 _ _ (sHd2 _ _ e)))
      exact ⟨_, _, rfl, eb.trans (eall.trans (ExtN.of sl)), hTv2.ext sl⟩
    rintro σ Hz ⟨x0, x1, rfl, _, hTz⟩
    clear hB hTh
    refine ⟨_, ?_, fun _ _ h => h⟩
    refine ⟨(by show 1 ≤ sizeLine; decide), fun p26 np26 => gen_heap np26 fun H27 sH27 hp26 => ?_⟩
    refine ⟨p26, 3, _, rfl, rfl, hp26, (by decide), (by decide), (by show 1 * 3 ≤ sizeLine; decide), fun p28 np28 => gen_heap np28 fun H29 sH29 hp28 => ?_⟩
    replace hp28 : H29 p28 = some (.lst [V.str "left", V.str "left", V.str "left"]) := hp28
    refine ⟨(by show 1 ≤ sizeLine; decide), fun p30 np30 => gen_heap np30 fun H31 sH31 hp30 => ?_⟩
    refine ⟨(by show 1 ≤ sizeLine; decide), fun p32 np32 => gen_heap np32 fun H33 sH33 hp32 => ?_⟩
    refine ⟨(by show 1 ≤ sizeLine; decide), fun p34 np34 => gen_heap np34 fun H35 sH35 hp34 => ?_⟩
    refine ⟨(by show 1 ≤ sizeLine; decide), fun p36 np36 => gen_heap np36 fun H37 sH37 hp36 => ?_⟩
    refine ⟨(by show 1 ≤ sizeLine; decide), fun p38 np38 => gen_heap np38 fun H39 sH39 hp38 => ?_⟩
    refine ⟨(by show 8 ≤ sizeLine; decide), fun p40 np40 => gen_heap np40 fun H41 sH41 hp40 => ?_⟩
    refine ⟨_, ?_, fun _ _ h => h⟩
    have h42 := (sH41 _ _ hp38)
    have h43 := (sH41 _ _ (sH39 _ _ hp36))
    have h44 := (sH41 _ _ (sH39 _ _ (sH37 _ _ hp34)))
    have h45 := (sH41 _ _ (sH39 _ _ (sH37 _ _ (sH35 _ _ hp32))))
    have h46 := (sH41 _ _ (sH39 _ _ (sH37 _ _ (sH35 _ _ (sH33 _ _ hp30)))))
    have h47 := (sH41 _ _ (sH39 _ _ (sH37 _ _ (sH35 _ _ (sH33 _ _ (sH31 _ _ hp28))))))
    have hB : ∀ x ∈ [V.ref p28, V.ref p30, V.ref p32, V.non, V.ref p34, V.ref p36, V.ref p38, V.str "left"], NoTakes K (noTab H41) x 2 := (each_cons (.inr ⟨p28, [V.str "left", V.str "left", V.str "left"], rfl, SqL.of (noTab_lst h47), .inl (by show 2 < 3; decide)⟩) (each_cons (.inr ⟨p30, [V.str "up"], rfl, SqL.of (noTab_lst h46), .inr ⟨(by show 1 ≤ 2; decide), (pvs_cons (pv_str _) pvs_nil), (by decide +kernel)⟩⟩) (each_cons (.inl ⟨_, pv_tup (noTab_tup h45), rfl⟩) (each_cons (.inl ⟨_, pv_non, rfl⟩) (each_cons (.inr ⟨p34, [V.bl true], rfl, SqL.of (noTab_lst h44), .inr ⟨(by show 1 ≤ 2; decide), (pvs_cons (pv_bl _) pvs_nil), (by decide +kernel)⟩⟩) (each_cons (.inr ⟨p36, [V.str "Left"], rfl, SqL.of (noTab_lst h43), .inr ⟨(by show 1 ≤ 2; decide), (pvs_cons (pv_str _) pvs_nil), (by decide +kernel)⟩⟩) (each_cons (.inr ⟨p38, [V.non], rfl, SqL.of (noTab_lst h42), .inr ⟨(by show 1 ≤ 2; decide), (pvs_cons pv_non pvs_nil), (by decide +kernel)⟩⟩) (each_cons (.inl ⟨_, (pv_str _), rfl⟩) each_nil))))))))
    have hT1 : Tabs (tabs A) H41 := hTz.ext (fun b o e => (sH41 _ _ (sH39 _ _ (sH37 _ _ (sH35 _ _ (sH33 _ _ (sH31 _ _ (sH29 _ _ (sH27 _ _ e)))))))))
    refine ⟨_, rfl, ⟨p40, rfl, ⟨_, SqL.of hp40⟩, fun D nD => ?_⟩⟩
    refine lc_list (K := K) (a := p40) (xs := [V.ref p28, V.ref p30, V.ref p32, V.non, V.ref p34, V.ref p36, V.ref p38, V.str "left"]) (fun i Hx => ExtN H41 Hx ∧ Tabs (tabs A) Hx ∧ Hx D = some (.lst (List.replicate i (V.str "takes")))) ⟨ExtN.of (same_new nD _), hT1.ext (same_new nD _), upd_same⟩ (fun i Hx _ h => SqL.of (extN_lst h.1 hp40)) ?_ ?_
    · rintro i y Hx hi ⟨ex, hTx, hD⟩
      have hil : i < 8 := (List.getElem?_eq_some_iff.mp hi).1
      refine ⟨rfl, hTx, fun f c' Hl el _ hTl f0 nfc hf hc => ?_⟩
      have a1 : AskR P w K mg base A.C_BadTakes (fun H y => NoTakes K H y 2) Hl (.ref f) := by
        refine ⟨_, _, fun vs H Q E => ∃ y, vs = [y] ∧ NoTakes K H y 2 ∧ ∀ H', Same H H' → E (.ref A.C_BadTakes) none H', rfl, lamD_sub hf hc, ?_, lamD_hard, fun H2 y hy Q E h => ⟨y, rfl, hy, h⟩⟩
        refine callable_lam (k := 28) (N := ["_law_it"]) (ps := ["_law_it"]) (nscope_by (by first | (dsimp only; decide +kernel) | rfl)) rfl nfc (fun pm ctv us hl => match us, hl with | [_], _ => rfl) (fun vs H Q E h => by obtain ⟨y, rfl, _⟩ := h; rfl) (fun A1 o1 s1 H1 vs1 Q1 E1 hr1 h1 => ?_)
        obtain ⟨y, rfl, hy, h1⟩ := h1
        exact ⟨_, pe_call Gled (hr1.mono (by first | decide | omega)) (by rfl) T.gled T.Fled.kp T.bled .nil (passes_call (takes_of rfl rfl rfl rfl) (fun _ _ _ _ h => h)) (pa_cons (pe_lst (pa_cons pe_int (pa_cons pe_int pa_nil))) (pa_cons (pv 0) pa_nil)), ⟨(by show 2 ≤ sizeLine; decide), fun p np => gen_heap np fun H2 s2 hp => ⟨_, rfl, _, _, rfl, .inr ⟨[1, 2], ⟨p, rfl, SqL.of hp, ⟨by decide, by decide⟩⟩, .inl ⟨hy.mono s2, fun H' s' => h1 H' (s2.trans s')⟩⟩⟩⟩⟩
      obtain ⟨f', D', sp, ef, hD', hcall, _, hsp⟩ := a1
      cases ef
      have hbad : NoTakes K Hl y 2 := (hB y (List.mem_of_getElem? hi)).mono (noTab_ext (ex.trans el))
      exact ⟨_, rfl, f, A.C_BadTakes, D', sp, y, 2, "takes", rfl, hcall, hD', rfl, fun Q' E' hE => hsp _ _ hbad Q' E' hE, fun Hy sy => rp_stepT nD (ex.trans (el.trans (ExtN.of sy))) (hTl.ext sy) (sy _ _ (extN_lst el hD)) (by omega)⟩
    rintro Hda ⟨_, hTa, hD⟩
    clear hB hT1
    refine ⟨(by show 1 ≤ sizeLine; decide), fun p48 np48 => gen_heap np48 fun H49 sH49 hp48 => ?_⟩
    refine ⟨p48, 8, _, rfl, rfl, hp48, (by decide), (by decide), (by show 1 * 8 ≤ sizeLine; decide), fun p50 np50 => gen_heap np50 fun H51 sH51 hp50 => ?_⟩
    replace hp50 : H51 p50 = some (.lst [V.str "takes", V.str "takes", V.str "takes", V.str "takes", V.str "takes", V.str "takes", V.str "takes", V.str "takes"]) := hp50
    have h52 := (sH51 _ _ (sH49 _ _ hD))
    refine ⟨(PyData.list [PyData.str "takes", PyData.str "takes", PyData.str "takes", PyData.str "takes", PyData.str "takes", PyData.str "takes", PyData.str "takes", PyData.str "takes"]), (PyData.list [PyData.str "takes", PyData.str "takes", PyData.str "takes", PyData.str "takes", PyData.str "takes", PyData.str "takes", PyData.str "takes", PyData.str "takes"]), (.lst (SqL.of h52) (.cons (.str _) (.cons (.str _) (.cons (.str _) (.cons (.str _) (.cons (.str _) (.cons (.str _) (.cons (.str _) (.cons (.str _) .nil))))))))), (.lst (SqL.of hp50) (.cons (.str _) (.cons (.str _) (.cons (.str _) (.cons (.str _) (.cons (.str _) (.cons (.str _) (.cons (.str _) (.cons (.str _) .nil))))))))), (Sh.list (.cons (sh_flat (x := V.str "takes") (by decide +kernel) 0) (.cons (sh_flat (x := V.str "takes") (by decide +kernel) 0) (.cons (sh_flat (x := V.str "takes") (by decide +kernel) 0) (.cons (sh_flat (x := V.str "takes") (by decide +kernel) 0) (.cons (sh_flat (x := V.str "takes") (by decide +kernel) 0) (.cons (sh_flat (x := V.str "takes") (by decide +kernel) 0) (.cons (sh_flat (x := V.str "takes") (by decide +kernel) 0) (.cons (sh_flat (x := V.str "takes") (by decide +kernel) 0) (.nil 0)))))))))).shaped (by decide), (Sh.list (.cons (sh_flat (x := V.str "takes") (by decide +kernel) 0) (.cons (sh_flat (x := V.str "takes") (by decide +kernel) 0) (.cons (sh_flat (x := V.str "takes") (by decide +kernel) 0) (.cons (sh_flat (x := V.str "takes") (by decide +kernel) 0) (.cons (sh_flat (x := V.str "takes") (by decide +kernel) 0) (.cons (sh_flat (x := V.str "takes") (by decide +kernel) 0) (.cons (sh_flat (x := V.str "takes") (by decide +kernel) 0) (.cons (sh_flat (x := V.str "takes") (by decide +kernel) 0) (.nil 0)))))))))).shaped (by decide), _, rfl, ?_⟩
    refine iteFb (not_t (eqv_same ((Sh.list (.cons (sh_flat (x := V.str "takes") (by decide +kernel) 0) (.cons (sh_flat (x := V.str "takes") (by decide +kernel) 0) (.cons (sh_flat (x := V.str "takes") (by decide +kernel) 0) (.cons (sh_flat (x := V.str "takes") (by decide +kernel) 0) (.cons (sh_flat (x := V.str "takes") (by decide +kernel) 0) (.cons (sh_flat (x := V.str "takes") (by decide +kernel) 0) (.cons (sh_flat (x := V.str "takes") (by decide +kernel) 0) (.cons (sh_flat (x := V.str "takes") (by decide +kernel) 0) (.nil 0)))))))))).shaped (by decide)))) ?_
    have hTz := hTa.ext (fun b o e => (sH51 _ _ (sH49 _ _ e)))
    refine ⟨_, ?_, fun _ _ h => h⟩
    refine ⟨(by show 1 ≤ sizeLine; decide), fun p53 np53 => gen_heap np53 fun H54 sH54 hp53 => ?_⟩
    refine ⟨(by show 4 ≤ sizeLine; decide), fun p55 np55 => gen_heap np55 fun H56 sH56 hp55 => ?_⟩
    have h57 := (sH56 _ _ hp53)
    have hB : ∀ x ∈ [V.non, V.bl true, V.str "1", V.ref p53], NoWhole K (noTab H56) x := (each_cons ⟨_, pv_non, rfl⟩ (each_cons ⟨_, (pv_bl _), rfl⟩ (each_cons ⟨_, (pv_str _), rfl⟩ (each_cons ⟨_, pv_sq (SqL.of (noTab_lst h57)), rfl⟩ each_nil))))
    have hT1 : Tabs (tabs A) H56 := hTz.ext (fun b o e => (sH56 _ _ (sH54 _ _ e)))
    refine ⟨p55, rfl, ⟨_, SqT.of hp55⟩, fun D nD => ?_⟩
    refine lc_tup (K := K) (a := p55) (xs := [V.non, V.bl true, V.str "1", V.ref p53]) (fun i Hx => ExtN H56 Hx ∧ Tabs (tabs A) Hx ∧ Hx D = some (.lst (List.replicate i (V.str "number")))) ⟨ExtN.of (same_new nD _), hT1.ext (same_new nD _), upd_same⟩ (fun i Hx _ h => SqT.of (extN_tup h.1 hp55)) ?_ ?_
    · rintro i y Hx hi ⟨ex, hTx, hD⟩
      have hil : i < 4 := (List.getElem?_eq_some_iff.mp hi).1
      refine ⟨rfl, hTx, fun f c' Hl el _ hTl f0 nfc hf hc => ?_⟩
      have a1 : AskR P w K mg base A.C_BadNumber (fun H y => NoWhole K H y) Hl (.ref f) := by
        refine ⟨_, _, fun vs H Q E => ∃ y, vs = [y] ∧ NoWhole K H y ∧ ∀ H', Same H H' → E (.ref A.C_BadNumber) none H', rfl, lamD_sub hf hc, ?_, lamD_hard, fun H2 y hy Q E h => ⟨y, rfl, hy, h⟩⟩
        refine callable_lam (k := 28) (N := ["_law_it"]) (ps := ["_law_it"]) (nscope_by (by first | (dsimp only; decide +kernel) | rfl)) rfl nfc (fun pm ctv us hl => match us, hl with | [_], _ => rfl) (fun vs H Q E h => by obtain ⟨y, rfl, _⟩ := h; rfl) (fun A1 o1 s1 H1 vs1 Q1 E1 hr1 h1 => ?_)
        obtain ⟨y, rfl, hy, h1⟩ := h1
        exact ⟨_, pe_call Gjudged (hr1.mono (by first | decide | omega)) (by rfl) T.gjudged T.Fjudged.kp T.bjudged .nil (passes_call (takes_of rfl rfl rfl rfl) (fun _ _ _ _ h => h)) (pa_cons (pe_lst (pa_cons pe_int (pa_cons pe_int pa_nil))) (pa_cons (pv 0) pa_nil)), ⟨(by show 2 ≤ sizeLine; decide), fun p np => gen_heap np fun H2 s2 hp => ⟨_, rfl, _, _, rfl, .inr ⟨[1, 2], ⟨p, rfl, SqL.of hp, ⟨by decide, by decide⟩⟩, .inl ⟨hy.mono s2, fun H' s' => h1 H' (s2.trans s')⟩⟩⟩⟩⟩
      obtain ⟨f', D', sp, ef, hD', hcall, _, hsp⟩ := a1
      cases ef
      have hbad : NoWhole K Hl y := (hB y (List.mem_of_getElem? hi)).mono (noTab_ext (ex.trans el))
      exact ⟨_, rfl, f, A.C_BadNumber, D', sp, y, 0, "number", rfl, hcall, hD', rfl, fun Q' E' hE => hsp _ _ hbad Q' E' hE, fun Hy sy => rp_stepT nD (ex.trans (el.trans (ExtN.of sy))) (hTl.ext sy) (sy _ _ (extN_lst el hD)) (by omega)⟩
    rintro Hdb ⟨_, hTb, hD⟩
    clear hB hT1
    refine ⟨(by show 1 ≤ sizeLine; decide), fun p58 np58 => gen_heap np58 fun H59 sH59 hp58 => ?_⟩
    refine ⟨p58, 4, _, rfl, rfl, hp58, (by decide), (by decide), (by show 1 * 4 ≤ sizeLine; decide), fun p60 np60 => gen_heap np60 fun H61 sH61 hp60 => ?_⟩
    replace hp60 : H61 p60 = some (.lst [V.str "number", V.str "number", V.str "number", V.str "number"]) := hp60
    have h62 := (sH61 _ _ (sH59 _ _ hD))
    refine ⟨(PyData.list [PyData.str "number", PyData.str "number", PyData.str "number", PyData.str "number"]), (PyData.list [PyData.str "number", PyData.str "number", PyData.str "number", PyData.str "number"]), (.lst (SqL.of h62) (.cons (.str _) (.cons (.str _) (.cons (.str _) (.cons (.str _) .nil))))), (.lst (SqL.of hp60) (.cons (.str _) (.cons (.str _) (.cons (.str _) (.cons (.str _) .nil))))), (Sh.list (.cons (sh_flat (x := V.str "number") (by decide +kernel) 0) (.cons (sh_flat (x := V.str "number") (by decide +kernel) 0) (.cons (sh_flat (x := V.str "number") (by decide +kernel) 0) (.cons (sh_flat (x := V.str "number") (by decide +kernel) 0) (.nil 0)))))).shaped (by decide), (Sh.list (.cons (sh_flat (x := V.str "number") (by decide +kernel) 0) (.cons (sh_flat (x := V.str "number") (by decide +kernel) 0) (.cons (sh_flat (x := V.str "number") (by decide +kernel) 0) (.cons (sh_flat (x := V.str "number") (by decide +kernel) 0) (.nil 0)))))).shaped (by decide), _, rfl, ?_⟩
    refine iteFb (not_t (eqv_same ((Sh.list (.cons (sh_flat (x := V.str "number") (by decide +kernel) 0) (.cons (sh_flat (x := V.str "number") (by decide +kernel) 0) (.cons (sh_flat (x := V.str "number") (by decide +kernel) 0) (.cons (sh_flat (x := V.str "number") (by decide +kernel) 0) (.nil 0)))))).shaped (by decide)))) ?_
    have hTz := hTb.ext (fun b o e => (sH61 _ _ (sH59 _ _ e)))
    refine ⟨_, rfl, (by show 4 ≤ sizeLine; decide), fun p63 np63 => gen_heap np63 fun H64 sH64 hp63 => ?_⟩
    have hB : ∀ x ∈ [V.int (-1), V.int 2, V.bl true, V.non], NoNum K (noTab H64) x (many [1, 2] 2 0) := (each_cons (.inr ⟨(-1), rfl, (by rw [show many [1, 2] 2 0 = 2 by decide +kernel]; decide)⟩) (each_cons (.inr ⟨2, rfl, (by rw [show many [1, 2] 2 0 = 2 by decide +kernel]; decide)⟩) (each_cons (.inl ⟨_, (pv_bl _), rfl⟩) (each_cons (.inl ⟨_, pv_non, rfl⟩) each_nil))))
    have hT1 : Tabs (tabs A) H64 := hTz.ext (fun b o e => (sH64 _ _ e))
    refine ⟨p63, rfl, ⟨_, SqT.of hp63⟩, fun D nD => ?_⟩
    refine lc_tup (K := K) (a := p63) (xs := [V.int (-1), V.int 2, V.bl true, V.non]) (fun i Hx => ExtN H64 Hx ∧ Tabs (tabs A) Hx ∧ Hx D = some (.lst (List.replicate i (V.str "number")))) ⟨ExtN.of (same_new nD _), hT1.ext (same_new nD _), upd_same⟩ (fun i Hx _ h => SqT.of (extN_tup h.1 hp63)) ?_ ?_
    · rintro i y Hx hi ⟨ex, hTx, hD⟩
      have hil : i < 4 := (List.getElem?_eq_some_iff.mp hi).1
      refine ⟨rfl, hTx, fun f c' Hl el _ hTl f0 nfc hf hc => ?_⟩
      have a1 : AskR P w K mg base A.C_BadNumber (fun H y => NoNum K H y (many [1, 2] 2 0)) Hl (.ref f) := by
        refine ⟨_, _, fun vs H Q E => ∃ y, vs = [y] ∧ NoNum K H y (many [1, 2] 2 0) ∧ ∀ H', Same H H' → E (.ref A.C_BadNumber) none H', rfl, lamD_sub hf hc, ?_, lamD_hard, fun H2 y hy Q E h => ⟨y, rfl, hy, h⟩⟩
        refine callable_lam (k := 28) (N := ["_law_it"]) (ps := ["_law_it"]) (nscope_by (by first | (dsimp only; decide +kernel) | rfl)) rfl nfc (fun pm ctv us hl => match us, hl with | [_], _ => rfl) (fun vs H Q E h => by obtain ⟨y, rfl, _⟩ := h; rfl) (fun A1 o1 s1 H1 vs1 Q1 E1 hr1 h1 => ?_)
        obtain ⟨y, rfl, hy, h1⟩ := h1
        exact ⟨_, pe_call Gplay_by (hr1.mono (by first | decide | omega)) (by rfl) T.gplay_by T.Fplay_by.kp T.bplay_by .nil (passes_call (takes_of rfl rfl rfl rfl) (fun _ _ _ _ h => h)) (pa_cons (pe_lst (pa_cons pe_int (pa_cons pe_int pa_nil))) (pa_cons (pv 0) pa_nil)), ⟨(by show 2 ≤ sizeLine; decide), fun p np => gen_heap np fun H2 s2 hp => ⟨_, rfl, _, _, rfl, .inr ⟨[1, 2], ⟨p, rfl, SqL.of hp, ⟨by decide, by decide⟩⟩, .inl ⟨hy.mono s2, fun H' s' => h1 H' (s2.trans s')⟩⟩⟩⟩⟩
      obtain ⟨f', D', sp, ef, hD', hcall, _, hsp⟩ := a1
      cases ef
      have hbad : NoNum K Hl y (many [1, 2] 2 0) := (hB y (List.mem_of_getElem? hi)).mono (noTab_ext (ex.trans el))
      exact ⟨_, rfl, f, A.C_BadNumber, D', sp, y, 0, "number", rfl, hcall, hD', rfl, fun Q' E' hE => hsp _ _ hbad Q' E' hE, fun Hy sy => rp_stepT nD (ex.trans (el.trans (ExtN.of sy))) (hTl.ext sy) (sy _ _ (extN_lst el hD)) (by omega)⟩
    rintro Hdc ⟨_, hTc, hD⟩
    clear hB hT1
    refine ⟨(by show 1 ≤ sizeLine; decide), fun p65 np65 => gen_heap np65 fun H66 sH66 hp65 => ?_⟩
    refine ⟨p65, 4, _, rfl, rfl, hp65, (by decide), (by decide), (by show 1 * 4 ≤ sizeLine; decide), fun p67 np67 => gen_heap np67 fun H68 sH68 hp67 => ?_⟩
    replace hp67 : H68 p67 = some (.lst [V.str "number", V.str "number", V.str "number", V.str "number"]) := hp67
    have h69 := (sH68 _ _ (sH66 _ _ hD))
    refine ⟨(PyData.list [PyData.str "number", PyData.str "number", PyData.str "number", PyData.str "number"]), (PyData.list [PyData.str "number", PyData.str "number", PyData.str "number", PyData.str "number"]), (.lst (SqL.of h69) (.cons (.str _) (.cons (.str _) (.cons (.str _) (.cons (.str _) .nil))))), (.lst (SqL.of hp67) (.cons (.str _) (.cons (.str _) (.cons (.str _) (.cons (.str _) .nil))))), (Sh.list (.cons (sh_flat (x := V.str "number") (by decide +kernel) 0) (.cons (sh_flat (x := V.str "number") (by decide +kernel) 0) (.cons (sh_flat (x := V.str "number") (by decide +kernel) 0) (.cons (sh_flat (x := V.str "number") (by decide +kernel) 0) (.nil 0)))))).shaped (by decide), (Sh.list (.cons (sh_flat (x := V.str "number") (by decide +kernel) 0) (.cons (sh_flat (x := V.str "number") (by decide +kernel) 0) (.cons (sh_flat (x := V.str "number") (by decide +kernel) 0) (.cons (sh_flat (x := V.str "number") (by decide +kernel) 0) (.nil 0)))))).shaped (by decide), ?_⟩
    rw [show PyData.eqv (PyData.list [PyData.str "number", PyData.str "number", PyData.str "number", PyData.str "number"]) (PyData.list [PyData.str "number", PyData.str "number", PyData.str "number", PyData.str "number"]) = true from eqv_same ((Sh.list (.cons (sh_flat (x := V.str "number") (by decide +kernel) 0) (.cons (sh_flat (x := V.str "number") (by decide +kernel) 0) (.cons (sh_flat (x := V.str "number") (by decide +kernel) 0) (.cons (sh_flat (x := V.str "number") (by decide +kernel) 0) (.nil 0)))))).shaped (by decide))]
    exact q _
end
end K09
namespace K09
open PySem PySem.Spec PyProof.Rows L2 LamX RE
theorem cut_two (xs : List V) : cutV xs none (some 2) = xs.take 2 := by
  unfold cutV
  rw [show HT.sIx xs.length xs.length (some 2) = min 2 xs.length from HT.sIx_nat _ _ 2, HT.sIx_none]
  rw [Nat.sub_zero, List.drop_zero]
  by_cases c : 2 ≤ xs.length
  · rw [Nat.min_eq_left c]
  · rw [Nat.min_eq_right (by omega), List.take_length, List.take_of_length_le (by omega)]
section
variable {P : Program} {w : World} {K : PySem.W.Frag} {mg : Str → Option Value} {base : Heap} {A : Ad}
theorem ok_law (T : Tx K mg A) (TB1 : TabB base mg A.c__law_rows_right A.P__law_rows_right) (TB2 : TabB base mg A.c__law_refused_right A.P__law_refused_right) : FnOk P w K mg base CX0 32 A.f_law A.d_law ["_law_script"] (spLawT K (tabs A)) := by
  have G_law_rows_right : FnOk P w K mg base CX0 31 A.f__law_rows_right A.d__law_rows_right ["_law_n"] (spRows9 (tabs A)) := ok__law_rows_right T TB1
  have G_law_sure_right : FnOk P w K mg base CX0 31 A.f__law_sure_right A.d__law_sure_right ["_law_n"] spSure9 := ok__law_sure_right T
  have G_law_plans_right : FnOk P w K mg base CX0 31 A.f__law_plans_right A.d__law_plans_right ["_law_n"] spSure9 := ok__law_plans_right T
  have G_law_refused_right : FnOk P w K mg base CX0 31 A.f__law_refused_right A.d__law_refused_right [] (spRefused9 (tabs A)) := ok__law_refused_right T TB2
  refine T.Flaw.ok sc_law (fun vs H Q E h => ?_) (fun cdv A' outer s H vs Q E hr h => ?_)
  · obtain ⟨a, cs, rfl, _⟩ := h
    rfl
  · obtain ⟨a, cs, rfl, hS, h63, hbits, hTb, q⟩ := h
    refine ⟨_, (pss_cons (ps_set (i := 1) sc_law.nd rfl (Or.inl rfl) (pe_op op_add pe_int (pe_op op_mod (pe_callB call_abs (by rfl) T.babs (by decide +kernel) (pa_cons (pe_callB (cr_sum rfl) (by rfl) T.bsum (by decide +kernel) (pa_cons (pe_slice sl_list (pv 0) po_none (po_some pe_int)) pa_nil)) pa_nil)) pe_int)))
      (pss_one (ps_ret (pe_and (pe_call G_law_rows_right (hr.mono (by first | decide | omega)) (by rfl) T.g_law_rows_right T.F_law_rows_right.kp T.b_law_rows_right .nil pass0 (pa_cons (pv 1) pa_nil)) (pe_and (pe_call G_law_sure_right (hr.mono (by first | decide | omega)) (by rfl) T.g_law_sure_right T.F_law_sure_right.kp T.b_law_sure_right .nil pass0 (pa_cons (pv 1) pa_nil)) (pe_and (pe_call G_law_plans_right (hr.mono (by first | decide | omega)) (by rfl) T.g_law_plans_right T.F_law_plans_right.kp T.b_law_plans_right .nil pass0 (pa_cons (pv 1) pa_nil)) (pe_one (pe_call0 G_law_refused_right (hr.mono (by first | decide | omega)) (by rfl) T.g_law_refused_right T.F_law_refused_right.kp T.b_law_refused_right .nil pass0)))))))), ?_⟩
    refine ⟨_, rfl, 2, rfl, a, _, rfl, hS, fun c nc => gen_heap nc fun H1 s1 hc => ?_⟩
    rw [cut_two, ← List.map_take] at hc
    refine ⟨c, _, rfl, SqL.of hc, _, rfl, _, _, rfl, rfl, (by show (0 : Int) < 900000; decide), _, _, rfl, rfl, ?_⟩
    generalize (if (cs.take 2).sum < 0 then -(cs.take 2).sum else (cs.take 2).sum) = z
    have hz0 : 0 ≤ z % 900000 := Int.emod_nonneg _ (by decide)
    have hz1 : z % 900000 < 900000 := Int.emod_lt_of_pos _ (by decide)
    refine ⟨_, rfl, _, rfl, (by omega), (by omega), hTb.ext s1, fun H2 hT2 => ⟨_, rfl, iteT ?_⟩⟩
    refine ⟨_, rfl, _, rfl, (by omega), (by omega), fun H3 s3 => ⟨_, rfl, iteT ?_⟩⟩
    refine ⟨_, rfl, _, rfl, (by omega), (by omega), fun H4 s4 => ⟨_, rfl, iteT ?_⟩⟩
    exact ⟨rfl, hT2.ext (s3.trans s4), fun H5 => q H5⟩
end
end K09
namespace K09
open PySem PySem.Spec PyProof.Rows L2 LamX RE
theorem all_mk {l : PySem.W.OpenLaw} {w : World} {K : PySem.W.Frag} {h : Heap} {mg : Str → Option Value} {fa : Addr} (X : K.In h) (G : h.Ns mainGlobals mg) (hfa : mg "law" = some (.ref fa))
    {f_is_whole f_check_row f_is_side f_worth_of f_after f_best_of f_worth f_best f_led f_greedy f_sure f_table_of f_got f_planned f_plan_of f_judged f_plays_of f_how_many f_play_by f__law_word f__law_rows_right f__law_sure_right f__law_plans_right f__law_refused_right f_law f_Gets_init f_Gets_shows f_Held_init f_Held_shows C_EndError C_BadRow C_BadTakes C_BadNumber C_Odd C_Answer C_Gets C_Held ca__law_rows_right Pa__law_rows_right ca__law_refused_right Pa__law_refused_right : Addr} {od_is_whole an_is_whole od_check_row an_check_row od_is_side an_is_side od_worth_of an_worth_of od_after an_after od_best_of an_best_of od_worth an_worth od_best an_best od_led an_led od_greedy an_greedy od_sure an_sure od_table_of an_table_of od_got an_got od_planned an_planned od_plan_of an_plan_of od_judged an_judged od_plays_of an_plays_of od_how_many an_how_many od_play_by an_play_by od__law_word an__law_word od__law_rows_right an__law_rows_right od__law_sure_right an__law_sure_right od__law_plans_right an__law_plans_right od__law_refused_right an__law_refused_right od_law an_law od_Gets_init an_Gets_init od_Gets_shows an_Gets_shows od_Held_init an_Held_init od_Held_shows an_Held_shows : Option Addr} {sl_is_whole sl_check_row sl_is_side sl_worth_of sl_after sl_best_of sl_worth sl_best sl_led sl_greedy sl_sure sl_table_of sl_got sl_planned sl_plan_of sl_judged sl_plays_of sl_how_many sl_play_by sl__law_word sl__law_rows_right sl__law_sure_right sl__law_plans_right sl__law_refused_right sl_law sl_Gets_init sl_Gets_shows sl_Held_init sl_Held_shows : Array (Option Value)} {oc_is_whole kV_is_whole dc_is_whole pm_is_whole ct_is_whole cd_is_whole oc_check_row kV_check_row dc_check_row pm_check_row ct_check_row cd_check_row oc_is_side kV_is_side dc_is_side pm_is_side ct_is_side cd_is_side oc_worth_of kV_worth_of dc_worth_of pm_worth_of ct_worth_of cd_worth_of oc_after kV_after dc_after pm_after ct_after cd_after oc_best_of kV_best_of dc_best_of pm_best_of ct_best_of cd_best_of oc_worth kV_worth dc_worth pm_worth ct_worth cd_worth oc_best kV_best dc_best pm_best ct_best cd_best oc_led kV_led dc_led pm_led ct_led cd_led oc_greedy kV_greedy dc_greedy pm_greedy ct_greedy cd_greedy oc_sure kV_sure dc_sure pm_sure ct_sure cd_sure oc_table_of kV_table_of dc_table_of pm_table_of ct_table_of cd_table_of oc_got kV_got dc_got pm_got ct_got cd_got oc_planned kV_planned dc_planned pm_planned ct_planned cd_planned oc_plan_of kV_plan_of dc_plan_of pm_plan_of ct_plan_of cd_plan_of oc_judged kV_judged dc_judged pm_judged ct_judged cd_judged oc_plays_of kV_plays_of dc_plays_of pm_plays_of ct_plays_of cd_plays_of oc_how_many kV_how_many dc_how_many pm_how_many ct_how_many cd_how_many oc_play_by kV_play_by dc_play_by pm_play_by ct_play_by cd_play_by oc__law_word kV__law_word dc__law_word pm__law_word ct__law_word cd__law_word oc__law_rows_right kV__law_rows_right dc__law_rows_right pm__law_rows_right ct__law_rows_right oc__law_sure_right kV__law_sure_right dc__law_sure_right pm__law_sure_right ct__law_sure_right cd__law_sure_right oc__law_plans_right kV__law_plans_right dc__law_plans_right pm__law_plans_right ct__law_plans_right cd__law_plans_right oc__law_refused_right kV__law_refused_right dc__law_refused_right pm__law_refused_right ct__law_refused_right oc_law kV_law dc_law pm_law ct_law cd_law oc_Gets_init kV_Gets_init dc_Gets_init pm_Gets_init ct_Gets_init cd_Gets_init oc_Gets_shows kV_Gets_shows dc_Gets_shows pm_Gets_shows ct_Gets_shows cd_Gets_shows oc_Held_init kV_Held_init dc_Held_init pm_Held_init ct_Held_init cd_Held_init oc_Held_shows kV_Held_shows dc_Held_shows pm_Held_shows ct_Held_shows cd_Held_shows : Value} {t_MOST t_GREATEST t_LEFT t_RIGHT : Tok}
    (tb__law_rows_right : PySem.W.tabIn K "_law_rows_right" = some (ca__law_rows_right, Pa__law_rows_right))
    (tb__law_refused_right : PySem.W.tabIn K "_law_refused_right" = some (ca__law_refused_right, Pa__law_refused_right))
    (n_EndError : PySem.W.nsIn K mainGlobals "EndError" = some (some (.ref C_EndError)))
    (n_BadRow : PySem.W.nsIn K mainGlobals "BadRow" = some (some (.ref C_BadRow)))
    (n_BadTakes : PySem.W.nsIn K mainGlobals "BadTakes" = some (some (.ref C_BadTakes)))
    (n_BadNumber : PySem.W.nsIn K mainGlobals "BadNumber" = some (some (.ref C_BadNumber)))
    (n_Odd : PySem.W.nsIn K mainGlobals "Odd" = some (some (.ref C_Odd)))
    (n_Answer : PySem.W.nsIn K mainGlobals "Answer" = some (some (.ref C_Answer)))
    (n_Gets : PySem.W.nsIn K mainGlobals "Gets" = some (some (.ref C_Gets)))
    (n_Held : PySem.W.nsIn K mainGlobals "Held" = some (some (.ref C_Held)))
    (at_Gets_init : PySem.W.findIn K (.ref C_Gets) "__init__" = some (some (.ref f_Gets_init)))
    (at_Gets_shows : PySem.W.findIn K (.ref C_Gets) "shows" = some (some (.ref f_Gets_shows)))
    (at_Held_init : PySem.W.findIn K (.ref C_Held) "__init__" = some (some (.ref f_Held_init)))
    (at_Held_shows : PySem.W.findIn K (.ref C_Held) "shows" = some (some (.ref f_Held_shows)))
    (a_is_whole : PySem.W.nsIn K mainGlobals "is_whole" = some (some (.ref f_is_whole)))
    (l_is_whole : K.lookup f_is_whole = some ⟨oc_is_whole, od_is_whole, .func (PySem.W.fnOf "is_whole" "is_whole" (defArgs s_is_whole) (defBody s_is_whole) (defScope s_is_whole) .none kV_is_whole dc_is_whole pm_is_whole an_is_whole cd_is_whole ct_is_whole), sl_is_whole⟩)
    (c_is_whole : PySem.W.codeIn K cd_is_whole "is_whole" = true)
    (k_is_whole : PySem.W.keepIn K (.ref f_is_whole) = true)
    (a_check_row : PySem.W.nsIn K mainGlobals "check_row" = some (some (.ref f_check_row)))
    (l_check_row : K.lookup f_check_row = some ⟨oc_check_row, od_check_row, .func (PySem.W.fnOf "check_row" "check_row" (defArgs s_check_row) (defBody s_check_row) (defScope s_check_row) .none kV_check_row dc_check_row pm_check_row an_check_row cd_check_row ct_check_row), sl_check_row⟩)
    (c_check_row : PySem.W.codeIn K cd_check_row "check_row" = true)
    (k_check_row : PySem.W.keepIn K (.ref f_check_row) = true)
    (a_is_side : PySem.W.nsIn K mainGlobals "is_side" = some (some (.ref f_is_side)))
    (l_is_side : K.lookup f_is_side = some ⟨oc_is_side, od_is_side, .func (PySem.W.fnOf "is_side" "is_side" (defArgs s_is_side) (defBody s_is_side) (defScope s_is_side) .none kV_is_side dc_is_side pm_is_side an_is_side cd_is_side ct_is_side), sl_is_side⟩)
    (c_is_side : PySem.W.codeIn K cd_is_side "is_side" = true)
    (k_is_side : PySem.W.keepIn K (.ref f_is_side) = true)
    (a_worth_of : PySem.W.nsIn K mainGlobals "worth_of" = some (some (.ref f_worth_of)))
    (l_worth_of : K.lookup f_worth_of = some ⟨oc_worth_of, od_worth_of, .func (PySem.W.fnOf "worth_of" "worth_of" (defArgs s_worth_of) (defBody s_worth_of) (defScope s_worth_of) .none kV_worth_of dc_worth_of pm_worth_of an_worth_of cd_worth_of ct_worth_of), sl_worth_of⟩)
    (c_worth_of : PySem.W.codeIn K cd_worth_of "worth_of" = true)
    (k_worth_of : PySem.W.keepIn K (.ref f_worth_of) = true)
    (a_after : PySem.W.nsIn K mainGlobals "after" = some (some (.ref f_after)))
    (l_after : K.lookup f_after = some ⟨oc_after, od_after, .func (PySem.W.fnOf "after" "after" (defArgs s_after) (defBody s_after) (defScope s_after) .none kV_after dc_after pm_after an_after cd_after ct_after), sl_after⟩)
    (c_after : PySem.W.codeIn K cd_after "after" = true)
    (k_after : PySem.W.keepIn K (.ref f_after) = true)
    (a_best_of : PySem.W.nsIn K mainGlobals "best_of" = some (some (.ref f_best_of)))
    (l_best_of : K.lookup f_best_of = some ⟨oc_best_of, od_best_of, .func (PySem.W.fnOf "best_of" "best_of" (defArgs s_best_of) (defBody s_best_of) (defScope s_best_of) .none kV_best_of dc_best_of pm_best_of an_best_of cd_best_of ct_best_of), sl_best_of⟩)
    (c_best_of : PySem.W.codeIn K cd_best_of "best_of" = true)
    (k_best_of : PySem.W.keepIn K (.ref f_best_of) = true)
    (a_worth : PySem.W.nsIn K mainGlobals "worth" = some (some (.ref f_worth)))
    (l_worth : K.lookup f_worth = some ⟨oc_worth, od_worth, .func (PySem.W.fnOf "worth" "worth" (defArgs s_worth) (defBody s_worth) (defScope s_worth) .none kV_worth dc_worth pm_worth an_worth cd_worth ct_worth), sl_worth⟩)
    (c_worth : PySem.W.codeIn K cd_worth "worth" = true)
    (k_worth : PySem.W.keepIn K (.ref f_worth) = true)
    (a_best : PySem.W.nsIn K mainGlobals "best" = some (some (.ref f_best)))
    (l_best : K.lookup f_best = some ⟨oc_best, od_best, .func (PySem.W.fnOf "best" "best" (defArgs s_best) (defBody s_best) (defScope s_best) .none kV_best dc_best pm_best an_best cd_best ct_best), sl_best⟩)
    (c_best : PySem.W.codeIn K cd_best "best" = true)
    (k_best : PySem.W.keepIn K (.ref f_best) = true)
    (a_led : PySem.W.nsIn K mainGlobals "led" = some (some (.ref f_led)))
    (l_led : K.lookup f_led = some ⟨oc_led, od_led, .func (PySem.W.fnOf "led" "led" (defArgs s_led) (defBody s_led) (defScope s_led) .none kV_led dc_led pm_led an_led cd_led ct_led), sl_led⟩)
    (c_led : PySem.W.codeIn K cd_led "led" = true)
    (k_led : PySem.W.keepIn K (.ref f_led) = true)
    (a_greedy : PySem.W.nsIn K mainGlobals "greedy" = some (some (.ref f_greedy)))
    (l_greedy : K.lookup f_greedy = some ⟨oc_greedy, od_greedy, .func (PySem.W.fnOf "greedy" "greedy" (defArgs s_greedy) (defBody s_greedy) (defScope s_greedy) .none kV_greedy dc_greedy pm_greedy an_greedy cd_greedy ct_greedy), sl_greedy⟩)
    (c_greedy : PySem.W.codeIn K cd_greedy "greedy" = true)
    (k_greedy : PySem.W.keepIn K (.ref f_greedy) = true)
    (a_sure : PySem.W.nsIn K mainGlobals "sure" = some (some (.ref f_sure)))
    (l_sure : K.lookup f_sure = some ⟨oc_sure, od_sure, .func (PySem.W.fnOf "sure" "sure" (defArgs s_sure) (defBody s_sure) (defScope s_sure) .none kV_sure dc_sure pm_sure an_sure cd_sure ct_sure), sl_sure⟩)
    (c_sure : PySem.W.codeIn K cd_sure "sure" = true)
    (k_sure : PySem.W.keepIn K (.ref f_sure) = true)
    (a_table_of : PySem.W.nsIn K mainGlobals "table_of" = some (some (.ref f_table_of)))
    (l_table_of : K.lookup f_table_of = some ⟨oc_table_of, od_table_of, .func (PySem.W.fnOf "table_of" "table_of" (defArgs s_table_of) (defBody s_table_of) (defScope s_table_of) .none kV_table_of dc_table_of pm_table_of an_table_of cd_table_of ct_table_of), sl_table_of⟩)
    (c_table_of : PySem.W.codeIn K cd_table_of "table_of" = true)
    (k_table_of : PySem.W.keepIn K (.ref f_table_of) = true)
    (a_got : PySem.W.nsIn K mainGlobals "got" = some (some (.ref f_got)))
    (l_got : K.lookup f_got = some ⟨oc_got, od_got, .func (PySem.W.fnOf "got" "got" (defArgs s_got) (defBody s_got) (defScope s_got) .none kV_got dc_got pm_got an_got cd_got ct_got), sl_got⟩)
    (c_got : PySem.W.codeIn K cd_got "got" = true)
    (k_got : PySem.W.keepIn K (.ref f_got) = true)
    (a_planned : PySem.W.nsIn K mainGlobals "planned" = some (some (.ref f_planned)))
    (l_planned : K.lookup f_planned = some ⟨oc_planned, od_planned, .func (PySem.W.fnOf "planned" "planned" (defArgs s_planned) (defBody s_planned) (defScope s_planned) .none kV_planned dc_planned pm_planned an_planned cd_planned ct_planned), sl_planned⟩)
    (c_planned : PySem.W.codeIn K cd_planned "planned" = true)
    (k_planned : PySem.W.keepIn K (.ref f_planned) = true)
    (a_plan_of : PySem.W.nsIn K mainGlobals "plan_of" = some (some (.ref f_plan_of)))
    (l_plan_of : K.lookup f_plan_of = some ⟨oc_plan_of, od_plan_of, .func (PySem.W.fnOf "plan_of" "plan_of" (defArgs s_plan_of) (defBody s_plan_of) (defScope s_plan_of) .none kV_plan_of dc_plan_of pm_plan_of an_plan_of cd_plan_of ct_plan_of), sl_plan_of⟩)
    (c_plan_of : PySem.W.codeIn K cd_plan_of "plan_of" = true)
    (k_plan_of : PySem.W.keepIn K (.ref f_plan_of) = true)
    (a_judged : PySem.W.nsIn K mainGlobals "judged" = some (some (.ref f_judged)))
    (l_judged : K.lookup f_judged = some ⟨oc_judged, od_judged, .func (PySem.W.fnOf "judged" "judged" (defArgs s_judged) (defBody s_judged) (defScope s_judged) .none kV_judged dc_judged pm_judged an_judged cd_judged ct_judged), sl_judged⟩)
    (c_judged : PySem.W.codeIn K cd_judged "judged" = true)
    (k_judged : PySem.W.keepIn K (.ref f_judged) = true)
    (a_plays_of : PySem.W.nsIn K mainGlobals "plays_of" = some (some (.ref f_plays_of)))
    (l_plays_of : K.lookup f_plays_of = some ⟨oc_plays_of, od_plays_of, .func (PySem.W.fnOf "plays_of" "plays_of" (defArgs s_plays_of) (defBody s_plays_of) (defScope s_plays_of) .none kV_plays_of dc_plays_of pm_plays_of an_plays_of cd_plays_of ct_plays_of), sl_plays_of⟩)
    (c_plays_of : PySem.W.codeIn K cd_plays_of "plays_of" = true)
    (k_plays_of : PySem.W.keepIn K (.ref f_plays_of) = true)
    (a_how_many : PySem.W.nsIn K mainGlobals "how_many" = some (some (.ref f_how_many)))
    (l_how_many : K.lookup f_how_many = some ⟨oc_how_many, od_how_many, .func (PySem.W.fnOf "how_many" "how_many" (defArgs s_how_many) (defBody s_how_many) (defScope s_how_many) .none kV_how_many dc_how_many pm_how_many an_how_many cd_how_many ct_how_many), sl_how_many⟩)
    (c_how_many : PySem.W.codeIn K cd_how_many "how_many" = true)
    (k_how_many : PySem.W.keepIn K (.ref f_how_many) = true)
    (a_play_by : PySem.W.nsIn K mainGlobals "play_by" = some (some (.ref f_play_by)))
    (l_play_by : K.lookup f_play_by = some ⟨oc_play_by, od_play_by, .func (PySem.W.fnOf "play_by" "play_by" (defArgs s_play_by) (defBody s_play_by) (defScope s_play_by) .none kV_play_by dc_play_by pm_play_by an_play_by cd_play_by ct_play_by), sl_play_by⟩)
    (c_play_by : PySem.W.codeIn K cd_play_by "play_by" = true)
    (k_play_by : PySem.W.keepIn K (.ref f_play_by) = true)
    (a__law_word : PySem.W.nsIn K mainGlobals "_law_word" = some (some (.ref f__law_word)))
    (l__law_word : K.lookup f__law_word = some ⟨oc__law_word, od__law_word, .func (PySem.W.fnOf "_law_word" "_law_word" (defArgs s__law_word) (defBody s__law_word) (defScope s__law_word) .none kV__law_word dc__law_word pm__law_word an__law_word cd__law_word ct__law_word), sl__law_word⟩)
    (c__law_word : PySem.W.codeIn K cd__law_word "_law_word" = true)
    (k__law_word : PySem.W.keepIn K (.ref f__law_word) = true)
    (a__law_rows_right : PySem.W.nsIn K mainGlobals "_law_rows_right" = some (some (.ref f__law_rows_right)))
    (l__law_rows_right : K.lookup f__law_rows_right = some ⟨oc__law_rows_right, od__law_rows_right, .func (PySem.W.fnOf "_law_rows_right" "_law_rows_right" (defArgs s__law_rows_right) (defBody s__law_rows_right) (defScope s__law_rows_right) .none kV__law_rows_right dc__law_rows_right pm__law_rows_right an__law_rows_right (.ref ca__law_rows_right) ct__law_rows_right), sl__law_rows_right⟩)
    (c__law_rows_right : PySem.W.codeIn K (.ref ca__law_rows_right) "_law_rows_right" = true)
    (th__law_rows_right : PySem.W.codeHdIn K ca__law_rows_right Pa__law_rows_right = true)
    (tn__law_rows_right : K.lookup Pa__law_rows_right = none)
    (tt__law_rows_right : h.get? Pa__law_rows_right = some (PySem.W.tabObj #[]))
    (k__law_rows_right : PySem.W.keepIn K (.ref f__law_rows_right) = true)
    (a__law_sure_right : PySem.W.nsIn K mainGlobals "_law_sure_right" = some (some (.ref f__law_sure_right)))
    (l__law_sure_right : K.lookup f__law_sure_right = some ⟨oc__law_sure_right, od__law_sure_right, .func (PySem.W.fnOf "_law_sure_right" "_law_sure_right" (defArgs s__law_sure_right) (defBody s__law_sure_right) (defScope s__law_sure_right) .none kV__law_sure_right dc__law_sure_right pm__law_sure_right an__law_sure_right cd__law_sure_right ct__law_sure_right), sl__law_sure_right⟩)
    (c__law_sure_right : PySem.W.codeIn K cd__law_sure_right "_law_sure_right" = true)
    (k__law_sure_right : PySem.W.keepIn K (.ref f__law_sure_right) = true)
    (a__law_plans_right : PySem.W.nsIn K mainGlobals "_law_plans_right" = some (some (.ref f__law_plans_right)))
    (l__law_plans_right : K.lookup f__law_plans_right = some ⟨oc__law_plans_right, od__law_plans_right, .func (PySem.W.fnOf "_law_plans_right" "_law_plans_right" (defArgs s__law_plans_right) (defBody s__law_plans_right) (defScope s__law_plans_right) .none kV__law_plans_right dc__law_plans_right pm__law_plans_right an__law_plans_right cd__law_plans_right ct__law_plans_right), sl__law_plans_right⟩)
    (c__law_plans_right : PySem.W.codeIn K cd__law_plans_right "_law_plans_right" = true)
    (k__law_plans_right : PySem.W.keepIn K (.ref f__law_plans_right) = true)
    (a__law_refused_right : PySem.W.nsIn K mainGlobals "_law_refused_right" = some (some (.ref f__law_refused_right)))
    (l__law_refused_right : K.lookup f__law_refused_right = some ⟨oc__law_refused_right, od__law_refused_right, .func (PySem.W.fnOf "_law_refused_right" "_law_refused_right" (defArgs s__law_refused_right) (defBody s__law_refused_right) (defScope s__law_refused_right) .none kV__law_refused_right dc__law_refused_right pm__law_refused_right an__law_refused_right (.ref ca__law_refused_right) ct__law_refused_right), sl__law_refused_right⟩)
    (c__law_refused_right : PySem.W.codeIn K (.ref ca__law_refused_right) "_law_refused_right" = true)
    (th__law_refused_right : PySem.W.codeHdIn K ca__law_refused_right Pa__law_refused_right = true)
    (tn__law_refused_right : K.lookup Pa__law_refused_right = none)
    (tt__law_refused_right : h.get? Pa__law_refused_right = some (PySem.W.tabObj #[]))
    (k__law_refused_right : PySem.W.keepIn K (.ref f__law_refused_right) = true)
    (a_law : PySem.W.nsIn K mainGlobals "law" = some (some (.ref f_law)))
    (l_law : K.lookup f_law = some ⟨oc_law, od_law, .func (PySem.W.fnOf "law" "law" (defArgs s_law) (defBody s_law) (defScope s_law) .none kV_law dc_law pm_law an_law cd_law ct_law), sl_law⟩)
    (c_law : PySem.W.codeIn K cd_law "law" = true)
    (k_law : PySem.W.keepIn K (.ref f_law) = true)
    (l_Gets_init : K.lookup f_Gets_init = some ⟨oc_Gets_init, od_Gets_init, .func (PySem.W.fnOf "__init__" "Gets.__init__" (defArgs s_Gets_init) (defBody s_Gets_init) (defScope s_Gets_init) .none kV_Gets_init dc_Gets_init pm_Gets_init an_Gets_init cd_Gets_init ct_Gets_init), sl_Gets_init⟩)
    (c_Gets_init : PySem.W.codeIn K cd_Gets_init "Gets.__init__" = true)
    (k_Gets_init : PySem.W.keepIn K (.ref f_Gets_init) = true)
    (l_Gets_shows : K.lookup f_Gets_shows = some ⟨oc_Gets_shows, od_Gets_shows, .func (PySem.W.fnOf "shows" "Gets.shows" (defArgs s_Gets_shows) (defBody s_Gets_shows) (defScope s_Gets_shows) .none kV_Gets_shows dc_Gets_shows pm_Gets_shows an_Gets_shows cd_Gets_shows ct_Gets_shows), sl_Gets_shows⟩)
    (c_Gets_shows : PySem.W.codeIn K cd_Gets_shows "Gets.shows" = true)
    (k_Gets_shows : PySem.W.keepIn K (.ref f_Gets_shows) = true)
    (l_Held_init : K.lookup f_Held_init = some ⟨oc_Held_init, od_Held_init, .func (PySem.W.fnOf "__init__" "Held.__init__" (defArgs s_Held_init) (defBody s_Held_init) (defScope s_Held_init) .none kV_Held_init dc_Held_init pm_Held_init an_Held_init cd_Held_init ct_Held_init), sl_Held_init⟩)
    (c_Held_init : PySem.W.codeIn K cd_Held_init "Held.__init__" = true)
    (k_Held_init : PySem.W.keepIn K (.ref f_Held_init) = true)
    (l_Held_shows : K.lookup f_Held_shows = some ⟨oc_Held_shows, od_Held_shows, .func (PySem.W.fnOf "shows" "Held.shows" (defArgs s_Held_shows) (defBody s_Held_shows) (defScope s_Held_shows) .none kV_Held_shows dc_Held_shows pm_Held_shows an_Held_shows cd_Held_shows ct_Held_shows), sl_Held_shows⟩)
    (c_Held_shows : PySem.W.codeIn K cd_Held_shows "Held.shows" = true)
    (k_Held_shows : PySem.W.keepIn K (.ref f_Held_shows) = true)
    (q_MOST : PySem.W.nsIn K mainGlobals "MOST" = some (some (.int 12 t_MOST)))
    (q_GREATEST : PySem.W.nsIn K mainGlobals "GREATEST" = some (some (.int 1000000 t_GREATEST)))
    (q_LEFT : PySem.W.nsIn K mainGlobals "LEFT" = some (some (.str "left" t_LEFT)))
    (q_RIGHT : PySem.W.nsIn K mainGlobals "RIGHT" = some (some (.str "right" t_RIGHT)))
    (z_abs : PySem.W.nsIn K mainGlobals "abs" = some none)
    (z_all : PySem.W.nsIn K mainGlobals "all" = some none)
    (z_any : PySem.W.nsIn K mainGlobals "any" = some none)
    (z_bool : PySem.W.nsIn K mainGlobals "bool" = some none)
    (z_enumerate : PySem.W.nsIn K mainGlobals "enumerate" = some none)
    (z_int : PySem.W.nsIn K mainGlobals "int" = some none)
    (z_isinstance : PySem.W.nsIn K mainGlobals "isinstance" = some none)
    (z_len : PySem.W.nsIn K mainGlobals "len" = some none)
    (z_list : PySem.W.nsIn K mainGlobals "list" = some none)
    (z_max : PySem.W.nsIn K mainGlobals "max" = some none)
    (z_range : PySem.W.nsIn K mainGlobals "range" = some none)
    (z_sorted : PySem.W.nsIn K mainGlobals "sorted" = some none)
    (z_str : PySem.W.nsIn K mainGlobals "str" = some none)
    (z_sum : PySem.W.nsIn K mainGlobals "sum" = some none)
    (kc_EndError : PySem.W.keepIn K (.ref C_EndError) = true)
    (xc_EndError : PySem.W.excIn K C_EndError [.type "ValueError", .type "Exception", .type "BaseException", .type "object"] "ValueError.__new__" = true)
    (Bc_EndError : PySem.W.subIn K (.ref C_EndError) (.type "BaseException") = some true)
    (tc_EndError : PySem.W.typeIn K (.ref C_EndError) = some (.type "type"))
    (kc_BadRow : PySem.W.keepIn K (.ref C_BadRow) = true)
    (xc_BadRow : PySem.W.excIn K C_BadRow [.type "ValueError", .type "Exception", .type "BaseException", .type "object"] "ValueError.__new__" = true)
    (Bc_BadRow : PySem.W.subIn K (.ref C_BadRow) (.type "BaseException") = some true)
    (tc_BadRow : PySem.W.typeIn K (.ref C_BadRow) = some (.type "type"))
    (kc_BadTakes : PySem.W.keepIn K (.ref C_BadTakes) = true)
    (xc_BadTakes : PySem.W.excIn K C_BadTakes [.type "ValueError", .type "Exception", .type "BaseException", .type "object"] "ValueError.__new__" = true)
    (Bc_BadTakes : PySem.W.subIn K (.ref C_BadTakes) (.type "BaseException") = some true)
    (tc_BadTakes : PySem.W.typeIn K (.ref C_BadTakes) = some (.type "type"))
    (kc_BadNumber : PySem.W.keepIn K (.ref C_BadNumber) = true)
    (xc_BadNumber : PySem.W.excIn K C_BadNumber [.type "ValueError", .type "Exception", .type "BaseException", .type "object"] "ValueError.__new__" = true)
    (Bc_BadNumber : PySem.W.subIn K (.ref C_BadNumber) (.type "BaseException") = some true)
    (tc_BadNumber : PySem.W.typeIn K (.ref C_BadNumber) = some (.type "type"))
    (kc_Odd : PySem.W.keepIn K (.ref C_Odd) = true)
    (xc_Odd : PySem.W.excIn K C_Odd [.type "ValueError", .type "Exception", .type "BaseException", .type "object"] "ValueError.__new__" = true)
    (Bc_Odd : PySem.W.subIn K (.ref C_Odd) (.type "BaseException") = some true)
    (tc_Odd : PySem.W.typeIn K (.ref C_Odd) = some (.type "type"))
    (pg_Gets : PySem.W.plainGet K C_Gets Str.empty = true)
    (hd_Gets : PySem.W.hasDictIn K C_Gets = true)
    (po_Gets : PySem.W.plainOver K C_Gets = true)
    (sa_Gets : PySem.W.findIn K (.ref C_Gets) "__setattr__" = some (some (.builtin "object.__setattr__")))
    (mkc_Gets : PySem.W.makesIn K C_Gets = true)
    (kc_Gets : PySem.W.keepIn K (.ref C_Gets) = true)
    (np_Gets : PySem.W.findIn K (.ref C_Gets) "plan" = some none)
    (ha_Gets : PySem.W.findIn K (.ref C_Gets) "__class__" = some (some (.builtin "object.__class__")))
    (hm_Gets : PySem.W.mroIn K C_Gets (.type "object") = some true)
    (hn_Gets : PySem.W.specialIn K (.builtin "object.__class__") "__get__" = some (some (.builtin "getset_descriptor.__get__")))
    (ht_Gets : PySem.W.takesIn K (.builtin "object.__class__") = some true)
    (kit_Gets_Answer : PySem.W.kitOne K (.ref C_Gets) (.ref C_Answer) = some true)
    (kit_Gets_Gets : PySem.W.kitOne K (.ref C_Gets) (.ref C_Gets) = some true)
    (kit_Gets_Held : PySem.W.kitOne K (.ref C_Gets) (.ref C_Held) = some false)
    (fn_Gets_init : PySem.W.isFn K (.ref f_Gets_init) = true)
    (fn_Gets_shows : PySem.W.isFn K (.ref f_Gets_shows) = true)
    (pg_Held : PySem.W.plainGet K C_Held Str.empty = true)
    (hd_Held : PySem.W.hasDictIn K C_Held = true)
    (po_Held : PySem.W.plainOver K C_Held = true)
    (sa_Held : PySem.W.findIn K (.ref C_Held) "__setattr__" = some (some (.builtin "object.__setattr__")))
    (mkc_Held : PySem.W.makesIn K C_Held = true)
    (kc_Held : PySem.W.keepIn K (.ref C_Held) = true)
    (np_Held : PySem.W.findIn K (.ref C_Held) "plan" = some none)
    (ha_Held : PySem.W.findIn K (.ref C_Held) "__class__" = some (some (.builtin "object.__class__")))
    (hm_Held : PySem.W.mroIn K C_Held (.type "object") = some true)
    (hn_Held : PySem.W.specialIn K (.builtin "object.__class__") "__get__" = some (some (.builtin "getset_descriptor.__get__")))
    (ht_Held : PySem.W.takesIn K (.builtin "object.__class__") = some true)
    (kit_Held_Answer : PySem.W.kitOne K (.ref C_Held) (.ref C_Answer) = some true)
    (kit_Held_Gets : PySem.W.kitOne K (.ref C_Held) (.ref C_Gets) = some false)
    (kit_Held_Held : PySem.W.kitOne K (.ref C_Held) (.ref C_Held) = some true)
    (fn_Held_init : PySem.W.isFn K (.ref f_Held_init) = true)
    (fn_Held_shows : PySem.W.isFn K (.ref f_Held_shows) = true)
    (ehg_BadRow : PySem.W.findIn K (.ref C_BadRow) "__getattribute__" = some (some (.builtin "BaseException.__getattribute__")))
    (ehk_BadRow : PySem.W.findIn K (.ref C_BadRow) "__getattr__" = some none)
    (ehs_BadRow : PySem.W.subIn K (.ref C_BadRow) (.type "BaseException") = some true)
    (ehd_BadRow : PySem.W.hasDictIn K C_BadRow = true)
    (eha_BadRow : PySem.W.findIn K (.ref C_BadRow) "__class__" = some (some (.builtin "object.__class__")))
    (ehn_BadRow : PySem.W.specialIn K (.builtin "object.__class__") "__get__" = some (some (.builtin "getset_descriptor.__get__")))
    (eht_BadRow : PySem.W.takesIn K (.builtin "object.__class__") = some true)
    (ehm_BadRow : PySem.W.mroIn K C_BadRow (.type "object") = some true)
    (exm_BadRow : PySem.W.exmOne K (.ref C_BadRow) (.ref C_EndError) = some true)
    (kx_BadRow_BadRow : PySem.W.kitOne K (.ref C_BadRow) (.ref C_BadRow) = some true)
    (kx_BadRow_BadTakes : PySem.W.kitOne K (.ref C_BadRow) (.ref C_BadTakes) = some false)
    (kx_BadRow_BadNumber : PySem.W.kitOne K (.ref C_BadRow) (.ref C_BadNumber) = some false)
    (kx_BadRow_Odd : PySem.W.kitOne K (.ref C_BadRow) (.ref C_Odd) = some false)
    (ehg_BadTakes : PySem.W.findIn K (.ref C_BadTakes) "__getattribute__" = some (some (.builtin "BaseException.__getattribute__")))
    (ehk_BadTakes : PySem.W.findIn K (.ref C_BadTakes) "__getattr__" = some none)
    (ehs_BadTakes : PySem.W.subIn K (.ref C_BadTakes) (.type "BaseException") = some true)
    (ehd_BadTakes : PySem.W.hasDictIn K C_BadTakes = true)
    (eha_BadTakes : PySem.W.findIn K (.ref C_BadTakes) "__class__" = some (some (.builtin "object.__class__")))
    (ehn_BadTakes : PySem.W.specialIn K (.builtin "object.__class__") "__get__" = some (some (.builtin "getset_descriptor.__get__")))
    (eht_BadTakes : PySem.W.takesIn K (.builtin "object.__class__") = some true)
    (ehm_BadTakes : PySem.W.mroIn K C_BadTakes (.type "object") = some true)
    (exm_BadTakes : PySem.W.exmOne K (.ref C_BadTakes) (.ref C_EndError) = some true)
    (kx_BadTakes_BadRow : PySem.W.kitOne K (.ref C_BadTakes) (.ref C_BadRow) = some false)
    (kx_BadTakes_BadTakes : PySem.W.kitOne K (.ref C_BadTakes) (.ref C_BadTakes) = some true)
    (kx_BadTakes_BadNumber : PySem.W.kitOne K (.ref C_BadTakes) (.ref C_BadNumber) = some false)
    (kx_BadTakes_Odd : PySem.W.kitOne K (.ref C_BadTakes) (.ref C_Odd) = some false)
    (ehg_BadNumber : PySem.W.findIn K (.ref C_BadNumber) "__getattribute__" = some (some (.builtin "BaseException.__getattribute__")))
    (ehk_BadNumber : PySem.W.findIn K (.ref C_BadNumber) "__getattr__" = some none)
    (ehs_BadNumber : PySem.W.subIn K (.ref C_BadNumber) (.type "BaseException") = some true)
    (ehd_BadNumber : PySem.W.hasDictIn K C_BadNumber = true)
    (eha_BadNumber : PySem.W.findIn K (.ref C_BadNumber) "__class__" = some (some (.builtin "object.__class__")))
    (ehn_BadNumber : PySem.W.specialIn K (.builtin "object.__class__") "__get__" = some (some (.builtin "getset_descriptor.__get__")))
    (eht_BadNumber : PySem.W.takesIn K (.builtin "object.__class__") = some true)
    (ehm_BadNumber : PySem.W.mroIn K C_BadNumber (.type "object") = some true)
    (exm_BadNumber : PySem.W.exmOne K (.ref C_BadNumber) (.ref C_EndError) = some true)
    (kx_BadNumber_BadRow : PySem.W.kitOne K (.ref C_BadNumber) (.ref C_BadRow) = some false)
    (kx_BadNumber_BadTakes : PySem.W.kitOne K (.ref C_BadNumber) (.ref C_BadTakes) = some false)
    (kx_BadNumber_BadNumber : PySem.W.kitOne K (.ref C_BadNumber) (.ref C_BadNumber) = some true)
    (kx_BadNumber_Odd : PySem.W.kitOne K (.ref C_BadNumber) (.ref C_Odd) = some false)
    (ehg_Odd : PySem.W.findIn K (.ref C_Odd) "__getattribute__" = some (some (.builtin "BaseException.__getattribute__")))
    (ehk_Odd : PySem.W.findIn K (.ref C_Odd) "__getattr__" = some none)
    (ehs_Odd : PySem.W.subIn K (.ref C_Odd) (.type "BaseException") = some true)
    (ehd_Odd : PySem.W.hasDictIn K C_Odd = true)
    (eha_Odd : PySem.W.findIn K (.ref C_Odd) "__class__" = some (some (.builtin "object.__class__")))
    (ehn_Odd : PySem.W.specialIn K (.builtin "object.__class__") "__get__" = some (some (.builtin "getset_descriptor.__get__")))
    (eht_Odd : PySem.W.takesIn K (.builtin "object.__class__") = some true)
    (ehm_Odd : PySem.W.mroIn K C_Odd (.type "object") = some true)
    (exm_Odd : PySem.W.exmOne K (.ref C_Odd) (.ref C_EndError) = some true)
    (kx_Odd_BadRow : PySem.W.kitOne K (.ref C_Odd) (.ref C_BadRow) = some false)
    (kx_Odd_BadTakes : PySem.W.kitOne K (.ref C_Odd) (.ref C_BadTakes) = some false)
    (kx_Odd_BadNumber : PySem.W.kitOne K (.ref C_Odd) (.ref C_BadNumber) = some false)
    (kx_Odd_Odd : PySem.W.kitOne K (.ref C_Odd) (.ref C_Odd) = some true)
    (pne__law_rows_right__law_refused_right : Pa__law_rows_right ≠ Pa__law_refused_right)
    : LamX.LawAtS l w K CX0 32 63 "_law_script" mg fa h := by
  have e := hfa.symm.trans (PySem.W.mg_of X G a_law)
  have e2 : f_law = fa := by
    have e3 := Option.some.inj e
    injection e3 with e4
    exact e4.symm
  subst e2
  have F_is_whole := fun_mk (st := s_is_whole) l_is_whole c_is_whole k_is_whole
  have b_is_whole := F_is_whole.binds (ps := ["thing"]) fun _ _ _ _ _ _ us hl => match us, hl with | [_], _ => rfl
  have F_check_row := fun_mk (st := s_check_row) l_check_row c_check_row k_check_row
  have b_check_row := F_check_row.binds (ps := ["row"]) fun _ _ _ _ _ _ us hl => match us, hl with | [_], _ => rfl
  have F_is_side := fun_mk (st := s_is_side) l_is_side c_is_side k_is_side
  have b_is_side := F_is_side.binds (ps := ["thing"]) fun _ _ _ _ _ _ us hl => match us, hl with | [_], _ => rfl
  have F_worth_of := fun_mk (st := s_worth_of) l_worth_of c_worth_of k_worth_of
  have b_worth_of := F_worth_of.binds (ps := ["row", "low", "behind", "known"]) fun _ _ _ _ _ _ us hl => match us, hl with | [_, _, _, _], _ => rfl
  have F_after := fun_mk (st := s_after) l_after c_after k_after
  have b_after := F_after.binds (ps := ["row", "low", "behind", "side"]) fun _ _ _ _ _ _ us hl => match us, hl with | [_, _, _, _], _ => rfl
  have F_best_of := fun_mk (st := s_best_of) l_best_of c_best_of k_best_of
  have b_best_of := F_best_of.binds (ps := ["row", "low", "behind", "known"]) fun _ _ _ _ _ _ us hl => match us, hl with | [_, _, _, _], _ => rfl
  have F_worth := fun_mk (st := s_worth) l_worth c_worth k_worth
  have b_worth := F_worth.binds (ps := ["row"]) fun _ _ _ _ _ _ us hl => match us, hl with | [_], _ => rfl
  have F_best := fun_mk (st := s_best) l_best c_best k_best
  have b_best := F_best.binds (ps := ["row"]) fun _ _ _ _ _ _ us hl => match us, hl with | [_], _ => rfl
  have F_led := fun_mk (st := s_led) l_led c_led k_led
  have b_led := F_led.binds (ps := ["row", "takes"]) fun _ _ _ _ _ _ us hl => match us, hl with | [_, _], _ => rfl
  have F_greedy := fun_mk (st := s_greedy) l_greedy c_greedy k_greedy
  have b_greedy := F_greedy.binds (ps := ["row"]) fun _ _ _ _ _ _ us hl => match us, hl with | [_], _ => rfl
  have F_sure := fun_mk (st := s_sure) l_sure c_sure k_sure
  have b_sure := F_sure.binds (ps := ["row"]) fun _ _ _ _ _ _ us hl => match us, hl with | [_], _ => rfl
  have F_table_of := fun_mk (st := s_table_of) l_table_of c_table_of k_table_of
  have b_table_of := F_table_of.binds (ps := ["row", "plan"]) fun _ _ _ _ _ _ us hl => match us, hl with | [_, _], _ => rfl
  have F_got := fun_mk (st := s_got) l_got c_got k_got
  have b_got := F_got.binds (ps := ["row", "low", "behind", "table", "mine"]) fun _ _ _ _ _ _ us hl => match us, hl with | [_, _, _, _, _], _ => rfl
  have F_planned := fun_mk (st := s_planned) l_planned c_planned k_planned
  have b_planned := F_planned.binds (ps := ["row", "plan", "mine"]) fun _ _ _ _ _ _ us hl => match us, hl with | [_, _, _], _ => rfl
  have F_plan_of := fun_mk (st := s_plan_of) l_plan_of c_plan_of k_plan_of
  have b_plan_of := F_plan_of.binds (ps := ["row", "first"]) fun _ _ _ _ _ _ us hl => match us, hl with | [_, _], _ => rfl
  have F_judged := fun_mk (st := s_judged) l_judged c_judged k_judged
  have b_judged := F_judged.binds (ps := ["row", "least"]) fun _ _ _ _ _ _ us hl => match us, hl with | [_, _], _ => rfl
  have F_plays_of := fun_mk (st := s_plays_of) l_plays_of c_plays_of k_plays_of
  have b_plays_of := F_plays_of.binds (ps := ["row", "low", "behind", "known"]) fun _ _ _ _ _ _ us hl => match us, hl with | [_, _, _, _], _ => rfl
  have F_how_many := fun_mk (st := s_how_many) l_how_many c_how_many k_how_many
  have b_how_many := F_how_many.binds (ps := ["row"]) fun _ _ _ _ _ _ us hl => match us, hl with | [_], _ => rfl
  have F_play_by := fun_mk (st := s_play_by) l_play_by c_play_by k_play_by
  have b_play_by := F_play_by.binds (ps := ["row", "number"]) fun _ _ _ _ _ _ us hl => match us, hl with | [_, _], _ => rfl
  have F__law_word := fun_mk (st := s__law_word) l__law_word c__law_word k__law_word
  have b__law_word := F__law_word.binds (ps := ["_law_ask", "_law_thing"]) fun _ _ _ _ _ _ us hl => match us, hl with | [_, _], _ => rfl
  have F__law_rows_right := fun_mk (st := s__law_rows_right) l__law_rows_right c__law_rows_right k__law_rows_right
  have b__law_rows_right := F__law_rows_right.binds (ps := ["_law_n"]) fun _ _ _ _ _ _ us hl => match us, hl with | [_], _ => rfl
  have F__law_sure_right := fun_mk (st := s__law_sure_right) l__law_sure_right c__law_sure_right k__law_sure_right
  have b__law_sure_right := F__law_sure_right.binds (ps := ["_law_n"]) fun _ _ _ _ _ _ us hl => match us, hl with | [_], _ => rfl
  have F__law_plans_right := fun_mk (st := s__law_plans_right) l__law_plans_right c__law_plans_right k__law_plans_right
  have b__law_plans_right := F__law_plans_right.binds (ps := ["_law_n"]) fun _ _ _ _ _ _ us hl => match us, hl with | [_], _ => rfl
  have F__law_refused_right := fun_mk (st := s__law_refused_right) l__law_refused_right c__law_refused_right k__law_refused_right
  have b__law_refused_right := F__law_refused_right.binds (ps := []) fun _ _ _ _ _ _ us hl => match us, hl with | [], _ => rfl
  have F_law := fun_mk (st := s_law) l_law c_law k_law
  have b_law := F_law.binds (ps := ["_law_script"]) fun _ _ _ _ _ _ us hl => match us, hl with | [_], _ => rfl
  have F_Gets_init := fun_mk (st := s_Gets_init) l_Gets_init c_Gets_init k_Gets_init
  have b_Gets_init := F_Gets_init.binds (ps := ["self", "plan"]) fun _ _ _ _ _ _ us hl => match us, hl with | [_, _], _ => rfl
  have F_Gets_shows := fun_mk (st := s_Gets_shows) l_Gets_shows c_Gets_shows k_Gets_shows
  have b_Gets_shows := F_Gets_shows.binds (ps := ["self", "row", "least"]) fun _ _ _ _ _ _ us hl => match us, hl with | [_, _, _], _ => rfl
  have F_Held_init := fun_mk (st := s_Held_init) l_Held_init c_Held_init k_Held_init
  have b_Held_init := F_Held_init.binds (ps := ["self", "plan"]) fun _ _ _ _ _ _ us hl => match us, hl with | [_, _], _ => rfl
  have F_Held_shows := fun_mk (st := s_Held_shows) l_Held_shows c_Held_shows k_Held_shows
  have b_Held_shows := F_Held_shows.binds (ps := ["self", "row", "least"]) fun _ _ _ _ _ _ us hl => match us, hl with | [_, _, _], _ => rfl
  have T : Tx K mg { f_is_whole := f_is_whole, d_is_whole := _, f_check_row := f_check_row, d_check_row := _, f_is_side := f_is_side, d_is_side := _, f_worth_of := f_worth_of, d_worth_of := _, f_after := f_after, d_after := _, f_best_of := f_best_of, d_best_of := _, f_worth := f_worth, d_worth := _, f_best := f_best, d_best := _, f_led := f_led, d_led := _, f_greedy := f_greedy, d_greedy := _, f_sure := f_sure, d_sure := _, f_table_of := f_table_of, d_table_of := _, f_got := f_got, d_got := _, f_planned := f_planned, d_planned := _, f_plan_of := f_plan_of, d_plan_of := _, f_judged := f_judged, d_judged := _, f_plays_of := f_plays_of, d_plays_of := _, f_how_many := f_how_many, d_how_many := _, f_play_by := f_play_by, d_play_by := _, f__law_word := f__law_word, d__law_word := _, f__law_rows_right := f__law_rows_right, d__law_rows_right := _, f__law_sure_right := f__law_sure_right, d__law_sure_right := _, f__law_plans_right := f__law_plans_right, d__law_plans_right := _, f__law_refused_right := f__law_refused_right, d__law_refused_right := _, f_law := f_law, d_law := _, f_Gets_init := f_Gets_init, d_Gets_init := _, f_Gets_shows := f_Gets_shows, d_Gets_shows := _, f_Held_init := f_Held_init, d_Held_init := _, f_Held_shows := f_Held_shows, d_Held_shows := _, C_EndError := C_EndError, C_BadRow := C_BadRow, C_BadTakes := C_BadTakes, C_BadNumber := C_BadNumber, C_Odd := C_Odd, C_Answer := C_Answer, C_Gets := C_Gets, C_Held := C_Held, t_MOST := t_MOST, t_GREATEST := t_GREATEST, t_LEFT := t_LEFT, t_RIGHT := t_RIGHT, c__law_rows_right := ca__law_rows_right, P__law_rows_right := Pa__law_rows_right, c__law_refused_right := ca__law_refused_right, P__law_refused_right := Pa__law_refused_right } := {
    babs := PySem.W.mg_none_of X G z_abs,
    ball := PySem.W.mg_none_of X G z_all,
    bany := PySem.W.mg_none_of X G z_any,
    bbool := PySem.W.mg_none_of X G z_bool,
    benumerate := PySem.W.mg_none_of X G z_enumerate,
    bint := PySem.W.mg_none_of X G z_int,
    bisinstance := PySem.W.mg_none_of X G z_isinstance,
    blen := PySem.W.mg_none_of X G z_len,
    blist := PySem.W.mg_none_of X G z_list,
    bmax := PySem.W.mg_none_of X G z_max,
    brange := PySem.W.mg_none_of X G z_range,
    bsorted := PySem.W.mg_none_of X G z_sorted,
    bstr := PySem.W.mg_none_of X G z_str,
    bsum := PySem.W.mg_none_of X G z_sum,
    gMOST := PySem.W.mg_of X G q_MOST,
    gGREATEST := PySem.W.mg_of X G q_GREATEST,
    gLEFT := PySem.W.mg_of X G q_LEFT,
    gRIGHT := PySem.W.mg_of X G q_RIGHT,
    gis_whole := PySem.W.mg_of X G a_is_whole, Fis_whole := F_is_whole, bis_whole := b_is_whole,
    gcheck_row := PySem.W.mg_of X G a_check_row, Fcheck_row := F_check_row, bcheck_row := b_check_row,
    gis_side := PySem.W.mg_of X G a_is_side, Fis_side := F_is_side, bis_side := b_is_side,
    gworth_of := PySem.W.mg_of X G a_worth_of, Fworth_of := F_worth_of, bworth_of := b_worth_of,
    gafter := PySem.W.mg_of X G a_after, Fafter := F_after, bafter := b_after,
    gbest_of := PySem.W.mg_of X G a_best_of, Fbest_of := F_best_of, bbest_of := b_best_of,
    gworth := PySem.W.mg_of X G a_worth, Fworth := F_worth, bworth := b_worth,
    gbest := PySem.W.mg_of X G a_best, Fbest := F_best, bbest := b_best,
    gled := PySem.W.mg_of X G a_led, Fled := F_led, bled := b_led,
    ggreedy := PySem.W.mg_of X G a_greedy, Fgreedy := F_greedy, bgreedy := b_greedy,
    gsure := PySem.W.mg_of X G a_sure, Fsure := F_sure, bsure := b_sure,
    gtable_of := PySem.W.mg_of X G a_table_of, Ftable_of := F_table_of, btable_of := b_table_of,
    ggot := PySem.W.mg_of X G a_got, Fgot := F_got, bgot := b_got,
    gplanned := PySem.W.mg_of X G a_planned, Fplanned := F_planned, bplanned := b_planned,
    gplan_of := PySem.W.mg_of X G a_plan_of, Fplan_of := F_plan_of, bplan_of := b_plan_of,
    gjudged := PySem.W.mg_of X G a_judged, Fjudged := F_judged, bjudged := b_judged,
    gplays_of := PySem.W.mg_of X G a_plays_of, Fplays_of := F_plays_of, bplays_of := b_plays_of,
    ghow_many := PySem.W.mg_of X G a_how_many, Fhow_many := F_how_many, bhow_many := b_how_many,
    gplay_by := PySem.W.mg_of X G a_play_by, Fplay_by := F_play_by, bplay_by := b_play_by,
    g_law_word := PySem.W.mg_of X G a__law_word, F_law_word := F__law_word, b_law_word := b__law_word,
    g_law_rows_right := PySem.W.mg_of X G a__law_rows_right, F_law_rows_right := F__law_rows_right, b_law_rows_right := b__law_rows_right,
    g_law_sure_right := PySem.W.mg_of X G a__law_sure_right, F_law_sure_right := F__law_sure_right, b_law_sure_right := b__law_sure_right,
    g_law_plans_right := PySem.W.mg_of X G a__law_plans_right, F_law_plans_right := F__law_plans_right, b_law_plans_right := b__law_plans_right,
    g_law_refused_right := PySem.W.mg_of X G a__law_refused_right, F_law_refused_right := F__law_refused_right, b_law_refused_right := b__law_refused_right,
    glaw := PySem.W.mg_of X G a_law, Flaw := F_law, blaw := b_law,
    gEndError := PySem.W.mg_of X G n_EndError,
    kEndError := kc_EndError, xEndError := xc_EndError, BEndError := Bc_EndError, tEndError := tc_EndError,
    gBadRow := PySem.W.mg_of X G n_BadRow,
    kBadRow := kc_BadRow, xBadRow := xc_BadRow, BBadRow := Bc_BadRow, tBadRow := tc_BadRow,
    gBadTakes := PySem.W.mg_of X G n_BadTakes,
    kBadTakes := kc_BadTakes, xBadTakes := xc_BadTakes, BBadTakes := Bc_BadTakes, tBadTakes := tc_BadTakes,
    gBadNumber := PySem.W.mg_of X G n_BadNumber,
    kBadNumber := kc_BadNumber, xBadNumber := xc_BadNumber, BBadNumber := Bc_BadNumber, tBadNumber := tc_BadNumber,
    gOdd := PySem.W.mg_of X G n_Odd,
    kOdd := kc_Odd, xOdd := xc_Odd, BOdd := Bc_Odd, tOdd := tc_Odd,
    gAnswer := PySem.W.mg_of X G n_Answer,
    gGets := PySem.W.mg_of X G n_Gets,
    gHeld := PySem.W.mg_of X G n_Held,
    FGets_init := F_Gets_init, bGets_init := b_Gets_init,
    MGets := ⟨mkc_Gets, at_Gets_init, fn_Gets_init, kc_Gets⟩,
    FGets_shows := F_Gets_shows, bGets_shows := b_Gets_shows,
    mGets_shows := ⟨at_Gets_shows, fn_Gets_shows, k_Gets_shows⟩,
    FHeld_init := F_Held_init, bHeld_init := b_Held_init,
    MHeld := ⟨mkc_Held, at_Held_init, fn_Held_init, kc_Held⟩,
    FHeld_shows := F_Held_shows, bHeld_shows := b_Held_shows,
    mHeld_shows := ⟨at_Held_shows, fn_Held_shows, k_Held_shows⟩,
    clGets := ⟨pg_Gets, hd_Gets, po_Gets, sa_Gets⟩, npGets := np_Gets, tyGets := ⟨ha_Gets, hn_Gets, ht_Gets, hm_Gets⟩,
    kitGets_Answer := kit_Gets_Answer,
    kitGets_Gets := kit_Gets_Gets,
    kitGets_Held := kit_Gets_Held,
    clHeld := ⟨pg_Held, hd_Held, po_Held, sa_Held⟩, npHeld := np_Held, tyHeld := ⟨ha_Held, hn_Held, ht_Held, hm_Held⟩,
    kitHeld_Answer := kit_Held_Answer,
    kitHeld_Gets := kit_Held_Gets,
    kitHeld_Held := kit_Held_Held,
    ecBadRow := ⟨ehg_BadRow, ehk_BadRow, ehs_BadRow, ehd_BadRow, eha_BadRow, ehn_BadRow, eht_BadRow, ehm_BadRow⟩, exBadRow := exm_BadRow,
    keBadRow_BadRow := kx_BadRow_BadRow,
    keBadRow_BadTakes := kx_BadRow_BadTakes,
    keBadRow_BadNumber := kx_BadRow_BadNumber,
    keBadRow_Odd := kx_BadRow_Odd,
    ecBadTakes := ⟨ehg_BadTakes, ehk_BadTakes, ehs_BadTakes, ehd_BadTakes, eha_BadTakes, ehn_BadTakes, eht_BadTakes, ehm_BadTakes⟩, exBadTakes := exm_BadTakes,
    keBadTakes_BadRow := kx_BadTakes_BadRow,
    keBadTakes_BadTakes := kx_BadTakes_BadTakes,
    keBadTakes_BadNumber := kx_BadTakes_BadNumber,
    keBadTakes_Odd := kx_BadTakes_Odd,
    ecBadNumber := ⟨ehg_BadNumber, ehk_BadNumber, ehs_BadNumber, ehd_BadNumber, eha_BadNumber, ehn_BadNumber, eht_BadNumber, ehm_BadNumber⟩, exBadNumber := exm_BadNumber,
    keBadNumber_BadRow := kx_BadNumber_BadRow,
    keBadNumber_BadTakes := kx_BadNumber_BadTakes,
    keBadNumber_BadNumber := kx_BadNumber_BadNumber,
    keBadNumber_Odd := kx_BadNumber_Odd,
    ecOdd := ⟨ehg_Odd, ehk_Odd, ehs_Odd, ehd_Odd, eha_Odd, ehn_Odd, eht_Odd, ehm_Odd⟩, exOdd := exm_Odd,
    keOdd_BadRow := kx_Odd_BadRow,
    keOdd_BadTakes := kx_Odd_BadTakes,
    keOdd_BadNumber := kx_Odd_BadNumber,
    keOdd_Odd := kx_Odd_Odd,
    FC_law_rows_right := ⟨⟨_, _, _, _, _, _, _, _, rfl, l__law_rows_right, c__law_rows_right⟩⟩,
    FC_law_refused_right := ⟨⟨_, _, _, _, _, _, _, _, rfl, l__law_refused_right, c__law_refused_right⟩⟩,
    pne__law_rows_right__law_refused_right := pne__law_rows_right__law_refused_right }
  refine ⟨_, [(ca__law_rows_right, Pa__law_rows_right), (ca__law_refused_right, Pa__law_refused_right)], spLawT K (tabs _), (List.forall_mem_cons.mpr ⟨tt__law_rows_right, (List.forall_mem_cons.mpr ⟨tt__law_refused_right, (fun _ hx => (nomatch hx))⟩)⟩), (List.forall_mem_cons.mpr ⟨tn__law_rows_right, (List.forall_mem_cons.mpr ⟨tn__law_refused_right, (fun _ hx => (nomatch hx))⟩)⟩), (List.forall_mem_cons.mpr ⟨PySem.W.codeHd_of_K X th__law_rows_right, (List.forall_mem_cons.mpr ⟨PySem.W.codeHd_of_K X th__law_refused_right, (fun _ hx => (nomatch hx))⟩)⟩), fun s v => .of_eq rfl, fun H a ns hl hb hH hS => ⟨a, ns, rfl, hS, hl, fun z hz => lt_of_bits (hb z hz), (List.forall_mem_cons.mpr ⟨TabS.nil (hH _ (List.mem_cons_self)), (List.forall_mem_cons.mpr ⟨TabS.nil (hH _ ((List.mem_cons_of_mem _ List.mem_cons_self))), (fun _ hx => (nomatch hx))⟩)⟩), fun _ => rfl⟩, fun base _ _ hTB => ok_law T (hTB _ (List.mem_cons_self)) (hTB _ ((List.mem_cons_of_mem _ List.mem_cons_self)))⟩
theorem bits_of {ns : List Int} (h : ∀ z ∈ ns, Builtin.Int.intBits z ≤ 1048576) : ∀ z ∈ ns, z.natAbs < 2 ^ 1048576 := fun z hz => lt_of_bits (h z hz)
end K09
open PySem PySem.W PyProof.Rows
set_option maxRecDepth 100000 in
set_option maxHeartbeats 0 in
theorem PySem.Challenge.cw_rowends_k09_promises_by_hand_holds : PySem.Challenge.rw_rowends_k09_promises_by_hand.Holds := by
  w_on; o_law; k_head; (case hw => w_witness2)
  k_fill
  refine LamX.walk_ofTs (l := PySem.Challenge.rw_rowends_k09_promises_by_hand) (n := 63) (k := 32) (x := "_law_script") (CX := fun _ => L2.CX0) rfl (by decide) rfl ⟨rfl, by decide, by decide⟩ (fun w h Y => PySem.W.km_in_of Y) ?F (fun _ _ _ _ _ h => h)
  case F =>
    intro w mg fa h Y KX G hmg
    have hT8 := PySem.W.km_tabs_of Y
    refine' K09.all_mk KX G hmg ?tb__law_rows_right ?tb__law_refused_right ?n_EndError ?n_BadRow ?n_BadTakes ?n_BadNumber ?n_Odd ?n_Answer ?n_Gets ?n_Held ?at_Gets_init ?at_Gets_shows ?at_Held_init ?at_Held_shows ?a_is_whole ?l_is_whole ?c_is_whole ?k_is_whole ?a_check_row ?l_check_row ?c_check_row ?k_check_row ?a_is_side ?l_is_side ?c_is_side ?k_is_side ?a_worth_of ?l_worth_of ?c_worth_of ?k_worth_of ?a_after ?l_after ?c_after ?k_after ?a_best_of ?l_best_of ?c_best_of ?k_best_of ?a_worth ?l_worth ?c_worth ?k_worth ?a_best ?l_best ?c_best ?k_best ?a_led ?l_led ?c_led ?k_led ?a_greedy ?l_greedy ?c_greedy ?k_greedy ?a_sure ?l_sure ?c_sure ?k_sure ?a_table_of ?l_table_of ?c_table_of ?k_table_of ?a_got ?l_got ?c_got ?k_got ?a_planned ?l_planned ?c_planned ?k_planned ?a_plan_of ?l_plan_of ?c_plan_of ?k_plan_of ?a_judged ?l_judged ?c_judged ?k_judged ?a_plays_of ?l_plays_of ?c_plays_of ?k_plays_of ?a_how_many ?l_how_many ?c_how_many ?k_how_many ?a_play_by ?l_play_by ?c_play_by ?k_play_by ?a__law_word ?l__law_word ?c__law_word ?k__law_word ?a__law_rows_right ?l__law_rows_right ?c__law_rows_right ?th__law_rows_right ?tn__law_rows_right ?tt__law_rows_right ?k__law_rows_right ?a__law_sure_right ?l__law_sure_right ?c__law_sure_right ?k__law_sure_right ?a__law_plans_right ?l__law_plans_right ?c__law_plans_right ?k__law_plans_right ?a__law_refused_right ?l__law_refused_right ?c__law_refused_right ?th__law_refused_right ?tn__law_refused_right ?tt__law_refused_right ?k__law_refused_right ?a_law ?l_law ?c_law ?k_law ?l_Gets_init ?c_Gets_init ?k_Gets_init ?l_Gets_shows ?c_Gets_shows ?k_Gets_shows ?l_Held_init ?c_Held_init ?k_Held_init ?l_Held_shows ?c_Held_shows ?k_Held_shows ?q_MOST ?q_GREATEST ?q_LEFT ?q_RIGHT ?z_abs ?z_all ?z_any ?z_bool ?z_enumerate ?z_int ?z_isinstance ?z_len ?z_list ?z_max ?z_range ?z_sorted ?z_str ?z_sum ?kc_EndError ?xc_EndError ?Bc_EndError ?tc_EndError ?kc_BadRow ?xc_BadRow ?Bc_BadRow ?tc_BadRow ?kc_BadTakes ?xc_BadTakes ?Bc_BadTakes ?tc_BadTakes ?kc_BadNumber ?xc_BadNumber ?Bc_BadNumber ?tc_BadNumber ?kc_Odd ?xc_Odd ?Bc_Odd ?tc_Odd ?pg_Gets ?hd_Gets ?po_Gets ?sa_Gets ?mkc_Gets ?kc_Gets ?np_Gets ?ha_Gets ?hm_Gets ?hn_Gets ?ht_Gets ?kit_Gets_Answer ?kit_Gets_Gets ?kit_Gets_Held ?fn_Gets_init ?fn_Gets_shows ?pg_Held ?hd_Held ?po_Held ?sa_Held ?mkc_Held ?kc_Held ?np_Held ?ha_Held ?hm_Held ?hn_Held ?ht_Held ?kit_Held_Answer ?kit_Held_Gets ?kit_Held_Held ?fn_Held_init ?fn_Held_shows ?ehg_BadRow ?ehk_BadRow ?ehs_BadRow ?ehd_BadRow ?eha_BadRow ?ehn_BadRow ?eht_BadRow ?ehm_BadRow ?exm_BadRow ?kx_BadRow_BadRow ?kx_BadRow_BadTakes ?kx_BadRow_BadNumber ?kx_BadRow_Odd ?ehg_BadTakes ?ehk_BadTakes ?ehs_BadTakes ?ehd_BadTakes ?eha_BadTakes ?ehn_BadTakes ?eht_BadTakes ?ehm_BadTakes ?exm_BadTakes ?kx_BadTakes_BadRow ?kx_BadTakes_BadTakes ?kx_BadTakes_BadNumber ?kx_BadTakes_Odd ?ehg_BadNumber ?ehk_BadNumber ?ehs_BadNumber ?ehd_BadNumber ?eha_BadNumber ?ehn_BadNumber ?eht_BadNumber ?ehm_BadNumber ?exm_BadNumber ?kx_BadNumber_BadRow ?kx_BadNumber_BadTakes ?kx_BadNumber_BadNumber ?kx_BadNumber_Odd ?ehg_Odd ?ehk_Odd ?ehs_Odd ?ehd_Odd ?eha_Odd ?ehn_Odd ?eht_Odd ?ehm_Odd ?exm_Odd ?kx_Odd_BadRow ?kx_Odd_BadTakes ?kx_Odd_BadNumber ?kx_Odd_Odd ?pne__law_rows_right__law_refused_right
    (case tb__law_rows_right => first | k_is | rfl)
    (case tb__law_refused_right => first | k_is | rfl)
    (case n_EndError => first | k_is | rfl)
    (case n_BadRow => first | k_is | rfl)
    (case n_BadTakes => first | k_is | rfl)
    (case n_BadNumber => first | k_is | rfl)
    (case n_Odd => first | k_is | rfl)
    (case n_Answer => first | k_is | rfl)
    (case n_Gets => first | k_is | rfl)
    (case n_Held => first | k_is | rfl)
    (case at_Gets_init => first | k_is | rfl)
    (case at_Gets_shows => first | k_is | rfl)
    (case at_Held_init => first | k_is | rfl)
    (case at_Held_shows => first | k_is | rfl)
    (case a_is_whole => first | k_is | rfl)
    (case l_is_whole => first | k_is | rfl)
    (case c_is_whole => first | k_is | rfl)
    (case k_is_whole => first | k_is | rfl)
    (case a_check_row => first | k_is | rfl)
    (case l_check_row => first | k_is | rfl)
    (case c_check_row => first | k_is | rfl)
    (case k_check_row => first | k_is | rfl)
    (case a_is_side => first | k_is | rfl)
    (case l_is_side => first | k_is | rfl)
    (case c_is_side => first | k_is | rfl)
    (case k_is_side => first | k_is | rfl)
    (case a_worth_of => first | k_is | rfl)
    (case l_worth_of => first | k_is | rfl)
    (case c_worth_of => first | k_is | rfl)
    (case k_worth_of => first | k_is | rfl)
    (case a_after => first | k_is | rfl)
    (case l_after => first | k_is | rfl)
    (case c_after => first | k_is | rfl)
    (case k_after => first | k_is | rfl)
    (case a_best_of => first | k_is | rfl)
    (case l_best_of => first | k_is | rfl)
    (case c_best_of => first | k_is | rfl)
    (case k_best_of => first | k_is | rfl)
    (case a_worth => first | k_is | rfl)
    (case l_worth => first | k_is | rfl)
    (case c_worth => first | k_is | rfl)
    (case k_worth => first | k_is | rfl)
    (case a_best => first | k_is | rfl)
    (case l_best => first | k_is | rfl)
    (case c_best => first | k_is | rfl)
    (case k_best => first | k_is | rfl)
    (case a_led => first | k_is | rfl)
    (case l_led => first | k_is | rfl)
    (case c_led => first | k_is | rfl)
    (case k_led => first | k_is | rfl)
    (case a_greedy => first | k_is | rfl)
    (case l_greedy => first | k_is | rfl)
    (case c_greedy => first | k_is | rfl)
    (case k_greedy => first | k_is | rfl)
    (case a_sure => first | k_is | rfl)
    (case l_sure => first | k_is | rfl)
    (case c_sure => first | k_is | rfl)
    (case k_sure => first | k_is | rfl)
    (case a_table_of => first | k_is | rfl)
    (case l_table_of => first | k_is | rfl)
    (case c_table_of => first | k_is | rfl)
    (case k_table_of => first | k_is | rfl)
    (case a_got => first | k_is | rfl)
    (case l_got => first | k_is | rfl)
    (case c_got => first | k_is | rfl)
    (case k_got => first | k_is | rfl)
    (case a_planned => first | k_is | rfl)
    (case l_planned => first | k_is | rfl)
    (case c_planned => first | k_is | rfl)
    (case k_planned => first | k_is | rfl)
    (case a_plan_of => first | k_is | rfl)
    (case l_plan_of => first | k_is | rfl)
    (case c_plan_of => first | k_is | rfl)
    (case k_plan_of => first | k_is | rfl)
    (case a_judged => first | k_is | rfl)
    (case l_judged => first | k_is | rfl)
    (case c_judged => first | k_is | rfl)
    (case k_judged => first | k_is | rfl)
    (case a_plays_of => first | k_is | rfl)
    (case l_plays_of => first | k_is | rfl)
    (case c_plays_of => first | k_is | rfl)
    (case k_plays_of => first | k_is | rfl)
    (case a_how_many => first | k_is | rfl)
    (case l_how_many => first | k_is | rfl)
    (case c_how_many => first | k_is | rfl)
    (case k_how_many => first | k_is | rfl)
    (case a_play_by => first | k_is | rfl)
    (case l_play_by => first | k_is | rfl)
    (case c_play_by => first | k_is | rfl)
    (case k_play_by => first | k_is | rfl)
    (case a__law_word => first | k_is | rfl)
    (case l__law_word => first | k_is | rfl)
    (case c__law_word => first | k_is | rfl)
    (case k__law_word => first | k_is | rfl)
    (case a__law_rows_right => first | k_is | rfl)
    (case l__law_rows_right => first | k_is | rfl)
    (case c__law_rows_right => first | k_is | rfl)
    (case th__law_rows_right => first | k_is | rfl)
    (case tn__law_rows_right => first | k_is | rfl)
    (case tt__law_rows_right => exact hT8 _ (by first | decide | simp | k_mem))
    (case k__law_rows_right => first | k_is | rfl)
    (case a__law_sure_right => first | k_is | rfl)
    (case l__law_sure_right => first | k_is | rfl)
    (case c__law_sure_right => first | k_is | rfl)
    (case k__law_sure_right => first | k_is | rfl)
    (case a__law_plans_right => first | k_is | rfl)
    (case l__law_plans_right => first | k_is | rfl)
    (case c__law_plans_right => first | k_is | rfl)
    (case k__law_plans_right => first | k_is | rfl)
    (case a__law_refused_right => first | k_is | rfl)
    (case l__law_refused_right => first | k_is | rfl)
    (case c__law_refused_right => first | k_is | rfl)
    (case th__law_refused_right => first | k_is | rfl)
    (case tn__law_refused_right => first | k_is | rfl)
    (case tt__law_refused_right => exact hT8 _ (by first | decide | simp | k_mem))
    (case k__law_refused_right => first | k_is | rfl)
    (case a_law => first | k_is | rfl)
    (case l_law => first | k_is | rfl)
    (case c_law => first | k_is | rfl)
    (case k_law => first | k_is | rfl)
    (case l_Gets_init => first | k_is | rfl)
    (case c_Gets_init => first | k_is | rfl)
    (case k_Gets_init => first | k_is | rfl)
    (case l_Gets_shows => first | k_is | rfl)
    (case c_Gets_shows => first | k_is | rfl)
    (case k_Gets_shows => first | k_is | rfl)
    (case l_Held_init => first | k_is | rfl)
    (case c_Held_init => first | k_is | rfl)
    (case k_Held_init => first | k_is | rfl)
    (case l_Held_shows => first | k_is | rfl)
    (case c_Held_shows => first | k_is | rfl)
    (case k_Held_shows => first | k_is | rfl)
    (case q_MOST => first | k_is | rfl)
    (case q_GREATEST => first | k_is | rfl)
    (case q_LEFT => first | k_is | rfl)
    (case q_RIGHT => first | k_is | rfl)
    (case z_abs => first | k_is | rfl)
    (case z_all => first | k_is | rfl)
    (case z_any => first | k_is | rfl)
    (case z_bool => first | k_is | rfl)
    (case z_enumerate => first | k_is | rfl)
    (case z_int => first | k_is | rfl)
    (case z_isinstance => first | k_is | rfl)
    (case z_len => first | k_is | rfl)
    (case z_list => first | k_is | rfl)
    (case z_max => first | k_is | rfl)
    (case z_range => first | k_is | rfl)
    (case z_sorted => first | k_is | rfl)
    (case z_str => first | k_is | rfl)
    (case z_sum => first | k_is | rfl)
    (case kc_EndError => first | k_is | rfl)
    (case xc_EndError => k_exc)
    (case Bc_EndError => first | k_is | rfl)
    (case tc_EndError => first | k_is | rfl)
    (case kc_BadRow => first | k_is | rfl)
    (case xc_BadRow => k_exc)
    (case Bc_BadRow => first | k_is | rfl)
    (case tc_BadRow => first | k_is | rfl)
    (case kc_BadTakes => first | k_is | rfl)
    (case xc_BadTakes => k_exc)
    (case Bc_BadTakes => first | k_is | rfl)
    (case tc_BadTakes => first | k_is | rfl)
    (case kc_BadNumber => first | k_is | rfl)
    (case xc_BadNumber => k_exc)
    (case Bc_BadNumber => first | k_is | rfl)
    (case tc_BadNumber => first | k_is | rfl)
    (case kc_Odd => first | k_is | rfl)
    (case xc_Odd => k_exc)
    (case Bc_Odd => first | k_is | rfl)
    (case tc_Odd => first | k_is | rfl)
    (case pg_Gets => first | k_is | rfl)
    (case hd_Gets => first | k_is | rfl)
    (case po_Gets => first | k_is | rfl)
    (case sa_Gets => first | k_is | rfl)
    (case mkc_Gets => first | k_is | rfl)
    (case kc_Gets => first | k_is | rfl)
    (case np_Gets => first | k_is | rfl)
    (case ha_Gets => first | k_is | rfl)
    (case hm_Gets => first | k_is | rfl)
    (case hn_Gets => first | k_is | rfl)
    (case ht_Gets => first | k_is | rfl)
    (case kit_Gets_Answer => first | k_is | rfl)
    (case kit_Gets_Gets => first | k_is | rfl)
    (case kit_Gets_Held => first | k_is | rfl)
    (case fn_Gets_init => first | k_is | rfl)
    (case fn_Gets_shows => first | k_is | rfl)
    (case pg_Held => first | k_is | rfl)
    (case hd_Held => first | k_is | rfl)
    (case po_Held => first | k_is | rfl)
    (case sa_Held => first | k_is | rfl)
    (case mkc_Held => first | k_is | rfl)
    (case kc_Held => first | k_is | rfl)
    (case np_Held => first | k_is | rfl)
    (case ha_Held => first | k_is | rfl)
    (case hm_Held => first | k_is | rfl)
    (case hn_Held => first | k_is | rfl)
    (case ht_Held => first | k_is | rfl)
    (case kit_Held_Answer => first | k_is | rfl)
    (case kit_Held_Gets => first | k_is | rfl)
    (case kit_Held_Held => first | k_is | rfl)
    (case fn_Held_init => first | k_is | rfl)
    (case fn_Held_shows => first | k_is | rfl)
    (case ehg_BadRow => first | k_is | rfl)
    (case ehk_BadRow => first | k_is | rfl)
    (case ehs_BadRow => first | k_is | rfl)
    (case ehd_BadRow => first | k_is | rfl)
    (case eha_BadRow => first | k_is | rfl)
    (case ehn_BadRow => first | k_is | rfl)
    (case eht_BadRow => first | k_is | rfl)
    (case ehm_BadRow => first | k_is | rfl)
    (case exm_BadRow => first | k_is | rfl)
    (case kx_BadRow_BadRow => first | k_is | rfl)
    (case kx_BadRow_BadTakes => first | k_is | rfl)
    (case kx_BadRow_BadNumber => first | k_is | rfl)
    (case kx_BadRow_Odd => first | k_is | rfl)
    (case ehg_BadTakes => first | k_is | rfl)
    (case ehk_BadTakes => first | k_is | rfl)
    (case ehs_BadTakes => first | k_is | rfl)
    (case ehd_BadTakes => first | k_is | rfl)
    (case eha_BadTakes => first | k_is | rfl)
    (case ehn_BadTakes => first | k_is | rfl)
    (case eht_BadTakes => first | k_is | rfl)
    (case ehm_BadTakes => first | k_is | rfl)
    (case exm_BadTakes => first | k_is | rfl)
    (case kx_BadTakes_BadRow => first | k_is | rfl)
    (case kx_BadTakes_BadTakes => first | k_is | rfl)
    (case kx_BadTakes_BadNumber => first | k_is | rfl)
    (case kx_BadTakes_Odd => first | k_is | rfl)
    (case ehg_BadNumber => first | k_is | rfl)
    (case ehk_BadNumber => first | k_is | rfl)
    (case ehs_BadNumber => first | k_is | rfl)
    (case ehd_BadNumber => first | k_is | rfl)
    (case eha_BadNumber => first | k_is | rfl)
    (case ehn_BadNumber => first | k_is | rfl)
    (case eht_BadNumber => first | k_is | rfl)
    (case ehm_BadNumber => first | k_is | rfl)
    (case exm_BadNumber => first | k_is | rfl)
    (case kx_BadNumber_BadRow => first | k_is | rfl)
    (case kx_BadNumber_BadTakes => first | k_is | rfl)
    (case kx_BadNumber_BadNumber => first | k_is | rfl)
    (case kx_BadNumber_Odd => first | k_is | rfl)
    (case ehg_Odd => first | k_is | rfl)
    (case ehk_Odd => first | k_is | rfl)
    (case ehs_Odd => first | k_is | rfl)
    (case ehd_Odd => first | k_is | rfl)
    (case eha_Odd => first | k_is | rfl)
    (case ehn_Odd => first | k_is | rfl)
    (case eht_Odd => first | k_is | rfl)
    (case ehm_Odd => first | k_is | rfl)
    (case exm_Odd => first | k_is | rfl)
    (case kx_Odd_BadRow => first | k_is | rfl)
    (case kx_Odd_BadTakes => first | k_is | rfl)
    (case kx_Odd_BadNumber => first | k_is | rfl)
    (case kx_Odd_Odd => first | k_is | rfl)
    (case pne__law_rows_right__law_refused_right => decide)
