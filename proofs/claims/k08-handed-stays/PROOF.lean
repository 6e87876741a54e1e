import PyProof.Rows.All
import Wide.All
import OpenK.AllK
import Wide.FinOn
import HandS.ForMost
import HandS.ForExc
import HandS.IsInst
import HandS.Style
import HandS.Flow
import HandS.TupLe
import HandS.TupLen
import HandS.EndBits
import HandS.SortRule
import KE.SortData
import HandS.Lambda
import HandS.Nested
import HandS.EndTab
import HandS.ExcIs
import HandS.ExcOwn
import HandS.Comp
import HandS.SetFor
import HandS.Strs
import PySem.Challenge.RW_rowends_k08_handed_stays
set_option Elab.async false
set_option linter.all false
set_option maxRecDepth 100000
set_option maxHeartbeats 4000000
/-! the mathematics of rows: plain Lean -/
namespace RE
/-- the worth of the stretch of n coins from low on -/
def wv (row : List Int) : Nat → Nat → Int
  | 0, _ => 0
  | n + 1, low => if row.getD (low + n) 0 - wv row n low > row.getD low 0 - wv row n (low + 1) then row.getD (low + n) 0 - wv row n low else row.getD low 0 - wv row n (low + 1)
theorem wv_zero (row : List Int) (low : Nat) : wv row 0 low = 0 := by unfold wv; rfl
theorem wv_succ (row : List Int) (n low : Nat) : wv row (n + 1) low = if row.getD (low + n) 0 - wv row n low > row.getD low 0 - wv row n (low + 1) then row.getD (low + n) 0 - wv row n low else row.getD low 0 - wv row n (low + 1) := by
  rw [wv]
theorem wv_ge1 (row : List Int) (n low : Nat) : row.getD low 0 - wv row n (low + 1) ≤ wv row (n + 1) low := by
  rw [wv_succ]
  split <;> omega
theorem wv_ge2 (row : List Int) (n low : Nat) : row.getD (low + n) 0 - wv row n low ≤ wv row (n + 1) low := by
  rw [wv_succ]
  split <;> omega
theorem wv_one_of (row : List Int) (n low : Nat) : wv row (n + 1) low = row.getD low 0 - wv row n (low + 1) ∨ wv row (n + 1) low = row.getD (low + n) 0 - wv row n low := by
  rw [wv_succ]
  split
  · exact .inr rfl
  · exact .inl rfl
/-- the sum of a stretch -/
def seg (row : List Int) : Nat → Nat → Int
  | 0, _ => 0
  | n + 1, low => row.getD low 0 + seg row n (low + 1)
theorem seg_succ (row : List Int) (n low : Nat) : seg row (n + 1) low = row.getD low 0 + seg row n (low + 1) := by rw [seg]
theorem seg_last (row : List Int) : ∀ (n low : Nat), seg row (n + 1) low = seg row n low + row.getD (low + n) 0
  | 0, low => by simp [seg]
  | n + 1, low => by
    rw [seg_succ, seg_last row n (low + 1), seg_succ]
    have e : low + 1 + n = low + (n + 1) := by omega
    rw [e]
    omega
theorem wv_parity (row : List Int) : ∀ (n low : Nat), (wv row n low - seg row n low) % 2 = 0
  | 0, low => by simp [wv, seg]
  | n + 1, low => by
    have h1 := wv_parity row n (low + 1)
    have h2 := wv_parity row n low
    have h3 := seg_succ row n low
    have h4 := seg_last row n low
    rcases wv_one_of row n low with h | h <;> omega
theorem seg_all : ∀ (row : List Int), seg row row.length 0 = row.sum := by
  have shift : ∀ (a : Int) (r : List Int) (n low : Nat), seg (a :: r) n (low + 1) = seg r n low := by
    intro a r n
    induction n with
    | zero => intro low; simp [seg]
    | succ n ih =>
      intro low
      rw [seg_succ, seg_succ, ih]
      simp
  intro row
  induction row with
  | nil => rfl
  | cons a r ih =>
    rw [List.length_cons, seg_succ, shift, ih, List.sum_cons]
    simp
/-- turned about -/
theorem getD_rev (row : List Int) (i : Nat) (h : i < row.length) : row.reverse.getD i 0 = row.getD (row.length - 1 - i) 0 := by
  rw [List.getD_eq_getElem?_getD, List.getD_eq_getElem?_getD, List.getElem?_reverse h]
theorem wv_rev (row : List Int) : ∀ (n low : Nat), low + n ≤ row.length → wv row.reverse n low = wv row n (row.length - low - n)
  | 0, low, _ => by simp [wv]
  | n + 1, low, h => by
    have h1 := wv_rev row n (low + 1) (by omega)
    have h2 := wv_rev row n low (by omega)
    have e1 : row.length - (low + 1) - n = row.length - low - (n + 1) := by omega
    have e2 : row.length - low - n = row.length - low - (n + 1) + 1 := by omega
    rw [e1] at h1
    rw [e2] at h2
    have g1 := getD_rev row low (by omega)
    have g2 := getD_rev row (low + n) (by omega)
    have e3 : row.length - 1 - low = row.length - low - (n + 1) + n := by omega
    have e4 : row.length - 1 - (low + n) = row.length - low - (n + 1) := by omega
    rw [e3] at g1
    rw [e4] at g2
    rw [wv_succ, wv_succ, h1, h2, g1, g2]
    generalize row.getD (row.length - low - (n + 1) + n) 0 = a
    generalize row.getD (row.length - low - (n + 1)) 0 = b
    generalize wv row n (row.length - low - (n + 1)) = c
    generalize wv row n (row.length - low - (n + 1) + 1) = d
    split <;> split <;> omega
theorem worth_rev (row : List Int) : wv row.reverse row.length 0 = wv row row.length 0 := by
  have h := wv_rev row row.length 0 (by omega)
  simpa using h
/-- the alternating sum of a stretch -/
def alt (row : List Int) : Nat → Nat → Int
  | 0, _ => 0
  | n + 1, low => row.getD low 0 - alt row n (low + 1)
theorem alt_succ (row : List Int) (n low : Nat) : alt row (n + 1) low = row.getD low 0 - alt row n (low + 1) := by rw [alt]
theorem alt_last (row : List Int) : ∀ (n low : Nat), alt row (n + 1) low = if n % 2 = 0 then alt row n low + row.getD (low + n) 0 else alt row n low - row.getD (low + n) 0
  | 0, low => by simp [alt]
  | n + 1, low => by
    have h := alt_last row n (low + 1)
    have e : low + 1 + n = low + (n + 1) := by omega
    rw [e] at h
    rw [alt_succ, h, alt_succ]
    by_cases c : n % 2 = 0
    · rw [if_pos c, if_neg (by omega)]
      omega
    · rw [if_neg c, if_pos (by omega)]
      omega
theorem wv_alt (row : List Int) : ∀ (n low : Nat), (n % 2 = 0 → alt row n low ≤ wv row n low ∧ - alt row n low ≤ wv row n low) ∧ (n % 2 = 1 → wv row n low ≤ alt row n low)
  | 0, low => by simp [wv, alt]
  | n + 1, low => by
    have h1 := wv_alt row n (low + 1)
    have h2 := wv_alt row n low
    have g1 := wv_ge1 row n low
    have g2 := wv_ge2 row n low
    have a1 := alt_succ row n low
    have a2 := alt_last row n low
    constructor
    · intro c
      rw [if_neg (by omega)] at a2
      have q1 := h1.2 (by omega)
      have q2 := h2.2 (by omega)
      omega
    · intro c
      rw [if_pos (by omega)] at a2
      have q1 := h1.1 (by omega)
      have q2 := h2.1 (by omega)
      rcases wv_one_of row n low with h | h <;> omega
/-- the coins of places 0, 2, 4 .. -/
def evens {α : Type} : List α → List α
  | [] => []
  | [a] => [a]
  | a :: _ :: r => a :: evens r
theorem evens_map {α β : Type} (f : α → β) : ∀ l : List α, evens (l.map f) = (evens l).map f
  | [] => rfl
  | [_] => rfl
  | a :: b :: r => by
    show f a :: evens (r.map f) = f a :: (evens r).map f
    rw [evens_map f r]
theorem evens_le {α : Type} : ∀ l : List α, (evens l).length ≤ l.length
  | [] => Nat.le_refl _
  | [_] => Nat.le_refl _
  | a :: b :: r => by
    have := evens_le r
    show (evens r).length + 1 ≤ r.length + 1 + 1
    omega
theorem alt_shift (a : Int) (r : List Int) : ∀ (n low : Nat), alt (a :: r) n (low + 1) = alt r n low
  | 0, low => by simp [alt]
  | n + 1, low => by
    rw [alt_succ, alt_succ, alt_shift a r n (low + 1)]
    simp
theorem alt_evens : ∀ row : List Int, alt row row.length 0 = (evens row).sum - (evens (row.drop 1)).sum
  | [] => rfl
  | [a] => by simp [alt, evens]
  | a :: b :: r => by
    have ih := alt_evens r
    have e1 : alt (a :: b :: r) (a :: b :: r).length 0 = a - (b - alt r r.length 0) := by
      show alt (a :: b :: r) (r.length + 1 + 1) 0 = _
      rw [alt_succ, alt_shift, alt_succ, alt_shift]
      simp
    rw [e1, ih]
    have e2 : evens (a :: b :: r) = a :: evens r := rfl
    have e3 : (a :: b :: r).drop 1 = b :: r := rfl
    rw [e2, e3]
    cases r with
    | nil => simp [evens]
    | cons c s =>
      have e4 : evens (b :: c :: s) = b :: evens s := rfl
      have e5 : (c :: s).drop 1 = s := rfl
      rw [e4, e5, List.sum_cons, List.sum_cons]
      omega
theorem sure_le (row : List Int) (h : row.length % 2 = 0) : (if (evens row).sum - (evens (row.drop 1)).sum < 0 then -((evens row).sum - (evens (row.drop 1)).sum) else (evens row).sum - (evens (row.drop 1)).sum) ≤ wv row row.length 0 := by
  have h1 := (wv_alt row row.length 0).1 h
  rw [alt_evens] at h1
  split <;> omega
theorem wv_bound (row : List Int) : ∀ (n low : Nat), (∀ i, 0 ≤ row.getD i 0 ∧ row.getD i 0 ≤ 1000000) → -(1000000 * (n : Int)) ≤ wv row n low ∧ wv row n low ≤ 1000000 * (n : Int)
  | 0, low, _ => by simp [wv]
  | n + 1, low, h => by
    have h1 := wv_bound row n (low + 1) h
    have h2 := wv_bound row n low h
    have h3 := h low
    have h4 := h (low + n)
    rcases wv_one_of row n low with e | e <;> omega
/-- the best ends of a stretch -/
def ends (row : List Int) : Nat → Nat → List Bool
  | 0, _ => []
  | n + 1, low => (if row.getD low 0 - wv row n (low + 1) = wv row (n + 1) low then [true] else []) ++ (if row.getD (low + n) 0 - wv row n low = wv row (n + 1) low then [false] else [])
theorem ends_succ (row : List Int) (n low : Nat) : ends row (n + 1) low = (if row.getD low 0 - wv row n (low + 1) = wv row (n + 1) low then [true] else []) ++ (if row.getD (low + n) 0 - wv row n low = wv row (n + 1) low then [false] else []) := by
  first
    | rfl
    | (rw [ends])
theorem ends_ne (row : List Int) (n low : Nat) : ends row (n + 1) low ≠ [] := by
  rw [ends_succ]
  rcases wv_one_of row n low with h | h
  · rw [if_pos h.symm]
    simp
  · rw [if_pos (c := row.getD (low + n) 0 - wv row n low = wv row (n + 1) low) h.symm]
    simp
end RE
/-! rules of our own over the layer -/
namespace RE
open PySem PySem.Spec PyProof.Rows L2
/-! ### great numbers -/
def CMulB (i j : Int) : Prop := ∃ a b : Nat, i.natAbs < 2 ^ a ∧ j.natAbs < 2 ^ b ∧ a + b ≤ 100000000
theorem bits_le {x : Int} {a : Nat} (h : x.natAbs < 2 ^ a) : Builtin.Int.intBits x ≤ a := by
  unfold Builtin.Int.intBits
  split
  · exact Nat.zero_le _
  · rename_i h0
    have hx : x.natAbs ≠ 0 := fun e => h0 (by
      have : x = 0 := Int.natAbs_eq_zero.mp e
      rw [this]
      rfl)
    exact (Nat.log2_lt hx).mpr h
theorem CMulB.ok {i j : Int} (h : CMulB i j) : IntMulOk i j := by
  obtain ⟨a, b, h1, h2, h3⟩ := h
  have e1 := bits_le h1
  have e2 := bits_le h2
  have e : bitsLine = 134217728 := by decide
  unfold IntMulOk
  intro z
  rw [Bool.and_eq_true] at z
  have z2 := z.2
  unfold Builtin.Int.intTooBig at z2
  have z3 := of_decide_eq_true z2
  rw [e] at z3
  omega
theorem lt_of_bits {x : Int} {a : Nat} (h : Builtin.Int.intBits x ≤ a) : x.natAbs < 2 ^ a := by
  unfold Builtin.Int.intBits at h
  by_cases h0 : x = 0
  · subst h0
    exact Nat.pow_pos (by decide)
  · have hb : ¬ ((x == 0) = true) := by simpa using h0
    rw [if_neg hb] at h
    have hx : x.natAbs ≠ 0 := fun e => h0 (Int.natAbs_eq_zero.mp e)
    have h1 : x.natAbs.log2 < a := by omega
    exact (Nat.log2_lt hx).mp h1
theorem pw_add {x y : Int} {a b : Nat} (h1 : x.natAbs < 2 ^ a) (h2 : y.natAbs < 2 ^ b) (h : b ≤ a) : (x + y).natAbs < 2 ^ (a + 1) := by
  have e : 2 ^ (a + 1) = 2 ^ a + 2 ^ a := by rw [Nat.pow_succ]; omega
  have l : 2 ^ b ≤ 2 ^ a := Nat.pow_le_pow_right (by decide) h
  have q := Int.natAbs_add_le x y
  omega
theorem pw_mul {x y : Int} {a b : Nat} (h1 : x.natAbs < 2 ^ a) (h2 : y.natAbs < 2 ^ b) : (x * y).natAbs < 2 ^ (a + b) := by
  rw [Int.natAbs_mul, Nat.pow_add]
  exact Nat.mul_lt_mul'' h1 h2
theorem pw_mono {x : Int} {a b : Nat} (h1 : x.natAbs < 2 ^ a) (h : a ≤ b) : x.natAbs < 2 ^ b := Nat.lt_of_lt_of_le h1 (Nat.pow_le_pow_right (by decide) h)
section
variable {X : Cx}
theorem op_mulB : OpR X (binaryOp .Mult) (rI CMulB fun i j => .int (i * j)) := opI fun _ _ _ _ _ _ _ hc q => mul_int q hc.ok
/-! ### xs[i] op= e -/
theorem get_list : PGet X (rIxL X.K) := by
  intro pins s σ H o i ov iv Q I ro ri h
  obtain ⟨p, xs, k, z, rfl, rfl, hq, he, q⟩ := h
  cases ro
  obtain ⟨t, rfl⟩ := ri
  obtain ⟨its, r, pl, hz⟩ := I.list hq
  obtain ⟨j, h1, h2, h3, h4, h5⟩ := atI_get he
  obtain ⟨w, ew, rw'⟩ := r.get h2
  have hl := r.length
  have hn := line63
  have fin : EP X pins σ Q w s := ⟨z, H, I, rw', q⟩
  by_cases h0 : 0 ≤ k
  · have hj : k.toNat = j := by
      rw [seqIndex_of h0 h5] at h1
      exact Option.some.inj h1
    exact wpAny_getItem_list pl.isList h0 (by omega) (by rw [hj]; simpa using ew) fin
  · have hj : (k + (its.toArray.size : Int)).toNat = j := by
      rw [seqIndex_neg (by omega) h4] at h1
      rw [List.size_toArray, ← hl]
      exact Option.some.inj h1
    exact wpAny_getItem_list_neg pl.isList (by omega) (by rw [List.size_toArray] <;> omega) (by omega) (by rw [hj]; simpa using ew) fin
/-! ### d[k] = e as one of several targets -/
def rSetD : V → V → V → Hp → (Hp → Prop) → Prop := fun o i v H Q => ∃ a H', o = .ref a ∧ DPut H a i v H' ∧ Q H'
theorem set_dT (hu : X.A.units + 1 < cLine) : PSet X rSetD := by
  intro pins s σ H o i v ov iv u Q I ro ri rv h
  obtain ⟨a, H', rfl, g, q⟩ := h
  cases ro
  exact d_setItem hu I g ri rv fun s' I' => ⟨H', I', q⟩
/-! ### xs[a::2] -/
theorem evens_pick {α : Type} : ∀ l : List α, ((List.range ((l.length + 1) / 2)).map (fun k => 2 * k)).filterMap (l[·]?) = evens l
  | [] => by simp [evens]
  | [a] => by
    have e : ([a].length + 1) / 2 = 1 := by
      show (0 + 1 + 1) / 2 = 1
      decide
    rw [e]
    simp [List.range_succ, evens]
  | a :: b :: r => by
    have ih := evens_pick r
    have e : ((a :: b :: r).length + 1) / 2 = (r.length + 1) / 2 + 1 := by
      rw [List.length_cons, List.length_cons]
      omega
    rw [e, List.range_succ_eq_map, List.map_cons, List.filterMap_cons]
    show a :: _ = a :: evens r
    rw [← ih, List.map_map, List.filterMap_map, List.filterMap_map]
    congr 1
theorem evens_from {α : Type} (xs : List α) (a : Nat) : ((List.range ((xs.length - a + 1) / 2)).map (fun k => a + 2 * k)).filterMap (xs[·]?) = evens (xs.drop a) := by
  rw [← evens_pick, List.length_drop, List.filterMap_map, List.filterMap_map]
  congr 1
  funext k
  simp [List.getElem?_drop]
theorem stepRange (a n : Nat) (h : a ≤ n) : sliceRange (a : Int) (n : Int) 2 = (List.range ((n - a + 1) / 2)).map (fun k => a + 2 * k) := by
  unfold sliceRange
  have e : (if (2 : Int) > 0 then (if (a : Int) < n then ((n : Int) - a + 2 - 1) / 2 else 0) else (if (a : Int) > n then ((a : Int) - n - 2 - 1) / (-2) else 0)).toNat = (n - a + 1) / 2 := by
    rw [if_pos (by decide)]
    by_cases c : (a : Int) < n
    · rw [if_pos c]
      omega
    · rw [if_neg c]
      omega
  show (List.range (if (2 : Int) > 0 then (if (a : Int) < n then ((n : Int) - a + 2 - 1) / 2 else 0) else (if (a : Int) > n then ((a : Int) - n - 2 - 1) / (-2) else 0)).toNat).map _ = _
  rw [e]
  refine List.map_congr_left fun k _ => ?_
  omega
def stepLo : Option Int → Nat
  | none => 0
  | some i => i.toNat
theorem step_pick (its : List Value) (lo : Option Int) (h : lo = none ∨ ∃ i, lo = some i ∧ 0 ≤ i) : slicePick its.toArray lo none (some 2) = (evens (its.drop (stepLo lo))).toArray := by
  have key : ∀ a : Nat, sliceBounds lo none (some 2) its.toArray.size = (((min a its.length : Nat) : Int), (its.length : Int), 2) → a = stepLo lo → slicePick its.toArray lo none (some 2) = (evens (its.drop (stepLo lo))).toArray := by
    intro a e ea
    unfold slicePick
    rw [e]
    show ((sliceRange ((min a its.length : Nat) : Int) (its.length : Int) 2).filterMap (its.toArray[·]?)).toArray = _
    rw [stepRange _ _ (Nat.min_le_right _ _)]
    have z : (fun k : Nat => its.toArray[k]?) = (fun k : Nat => its[k]?) := funext fun k => by simp
    rw [z, evens_from, ← ea]
    congr 1
    by_cases c : a ≤ its.length
    · rw [Nat.min_eq_left c]
    · rw [Nat.min_eq_right (by omega), List.drop_length, List.drop_eq_nil_of_le (by omega)]
  rcases h with rfl | ⟨i, rfl, hi⟩
  · exact key 0 (by simp [sliceBounds]) rfl
  · refine key i.toNat ?_ rfl
    have h1 : ¬ i < 0 := by omega
    simp only [sliceBounds, Option.getD_some, List.size_toArray, h1, if_false, show (2 : Int) > 0 by decide, if_true]
    congr 1
    omega
theorem Vals_evens : ∀ {xs : List V} {us : List Value}, Vals xs us → Vals (evens xs) (evens us)
  | _, _, .nil => .nil
  | _, _, .cons r .nil => .cons r .nil
  | _, _, .cons r (.cons _ t) => .cons r (Vals_evens t)
def tStepL (K : PySem.W.Frag) (te : TE) (tl : TO) : TE := fun σ H Q => te σ H fun x H1 => tl σ H1 fun lo H2 => (lo = none ∨ ∃ i, lo = some i ∧ 0 ≤ i) ∧ ∃ a xs, x = .ref a ∧ SqL K H2 a xs ∧ ∀ p, H2 p = none → Q (.ref p) (upd H2 p (.lst (evens (xs.drop (stepLo lo)))))
theorem pe_stepL {e : Expr} {lo : Option Expr} {te : TE} {tl : TO} {k : Nat} {p1 p3 pos : Pos} (he : PE X e te) (hl : PO X lo tl)
    (hsb : ∀ ov iv, subscripted (.Slice lo none (some (.Constant (.int 2) k p1)) p3) false ov iv = operate [ov, iv] (getItem ov iv) := by intro _ _; with_unfolding_all rfl) :
    PE X (.Subscript e (.Slice lo none (some (.Constant (.int 2) k p1)) p3) pos) (tStepL X.K te tl) := by
  refine ⟨fun pins s σ H Q I h => ?_⟩
  refine Subscript_ (thn (he.run pins s σ H _ I h) fun v s1 ⟨x, H1, I1, r1, q1⟩ => ?_)
  have hst : PO X (some (.Constant (.int 2) k p1)) (tPart (tC (.int 2))) := po_some pe_int
  refine wpAny_Slice (thn (hl.run pins s1 σ H1 _ I1 q1) fun vl s2 ⟨l, H2, I2, pl, q2⟩ => ?_)
  obtain ⟨hlo, a, xs, ex, hx, q⟩ := q2
  subst ex
  cases r1
  refine thn (po_none.run pins s2 σ H2 (fun o H3 => o = none ∧ H3 = H2) I2 ⟨rfl, rfl⟩) fun vu s3 ⟨u, H3, I3, pu, eu, e3⟩ => ?_
  subst eu e3
  refine thn (hst.run pins s3 σ H3 (fun o H4 => o = some 2 ∧ H4 = H3) I3 ⟨2, rfl, rfl, rfl⟩) fun vs s4 ⟨o, H4, I4, ps, eo, e4⟩ => ?_
  subst eo e4
  have I5 : Inv X pins σ H4 { s4 with heap := s4.heap.push { cls := .type "slice", data := .fields #[vl, vu, vs] } } := I4.kept (t' := s4.toks) fun b ob q => Heap.get?_push_of_some _ q
  obtain ⟨its, r, ht, hz⟩ := I5.list hx
  have hlen := r.length
  show wpAny (model X.prog X.w) X.A (subscriptTail e (.Slice lo none (some (.Constant (.int 2) k p1)) p3) (.ref a) (.ref s4.heap.objs.size)) (EP X pins σ Q) X.xe { s4 with heap := s4.heap.push { cls := .type "slice", data := .fields #[vl, vu, vs] } }
  refine tail_any (ops := [.ref a, .ref s4.heap.objs.size]) ht.isList.typeIs (PySem.slot_list_getitem.lookup) ?_ (hsb _ _)
  refine wpAny_getItem_list_slice ht.isList (Heap.IsSliceOf.new _ vl vu vs) pl pu ps (by decide) ?_ (by rw [List.size_toArray]; omega)
  rw [step_pick its l hlo]
  refine ⟨.ref _, _, I5.laid (t' := s4.toks) (o := .lst (evens (xs.drop (stepLo l)))) (fun b ob q => Heap.get?_push_of_some _ q) (Nat.le_refl _) ?_, rfl, q _ (I5.hok.fresh (Nat.le_refl _))⟩
  refine ⟨?_, _, 0, Vals_evens (r.drop (stepLo l)), Heap.get?_push_size _ rfl⟩
  have e1 := evens_le (xs.drop (stepLo l))
  rw [List.length_drop] at e1
  omega
/-! ### ways joined behind a statement -/
def tMid (t u : TS) : TS := fun D σ H => ∃ Mid : L2.St → Hp → Prop, t { D with nx := Mid } σ H ∧ ∀ σ' H', Mid σ' H' → u D σ' H'
theorem pss_mid {st : Stmt} {rest : List Stmt} {t u : TS} (h1 : PS X st t) (h2 : PSs X rest u) : PSs X (st :: rest) (tMid t u) := by
  refine ⟨fun pins s σ H D I h => ?_⟩
  obtain ⟨Mid, h, hm⟩ := h
  refine wpAny_execs_cons (thn (h1.run pins s σ H { D with nx := Mid } I h) fun f s1 q => ?_)
  cases f with
  | next =>
    obtain ⟨σ', H', I', q⟩ := q
    exact h2.run pins s1 σ' H' D I' (hm σ' H' q)
  | ret v => exact q
  | brk => exact q
  | cont => exact q
end
end RE
/-! heaps, known worths, kinds of values -/
namespace RE
open PySem PySem.Spec PyProof.Rows L2
theorem iteFb {b : Bool} {A B : Prop} (hb : b = false) (h : B) : if b = true then A else B := by
  subst hb
  exact iteF h
theorem iteTb {b : Bool} {A B : Prop} (hb : b = true) (h : A) : if b = true then A else B := by
  subst hb
  exact iteT h
theorem same_new {H : Hp} {p : Addr} (h : H p = none) (o : HO) : Same H (upd H p o) := fun b u q => by rw [upd_ne (ne_of_none q h)]; exact q
/-- all but the object at d is as it was -/
def SameBut (d : Addr) (H H' : Hp) : Prop := ∀ b o, b ≠ d → H b = some o → H' b = some o
theorem SameBut.refl (d : Addr) (H : Hp) : SameBut d H H := fun _ _ _ h => h
theorem SameBut.trans {d : Addr} {H H1 H2 : Hp} (a : SameBut d H H1) (b : SameBut d H1 H2) : SameBut d H H2 := fun c o n h => b c o n (a c o n h)
theorem SameBut.of {d : Addr} {H H' : Hp} (h : Same H H') : SameBut d H H' := fun b o _ e => h b o e
theorem SameBut.put {d : Addr} {H : Hp} (o : HO) : SameBut d H (upd H d o) := fun b u n e => by rw [upd_ne n]; exact e
theorem SameBut.free {d : Addr} {H H' : Hp} (s : SameBut d H H') (hd : H d = none) : Same H H' := fun b o e => s b o (ne_of_none e hd) e
theorem SameBut.seq {K : PySem.W.Frag} {d : Addr} {H H' : Hp} {a : Addr} {xs : List V} {kvs : List (List Key × V)} (e : SameBut d H H') (hd : H d = some (.dT kvs)) (h : SqL K H a xs) : SqL K H' a xs := by
  rcases h with (h | ⟨o, h⟩) | h
  · exact .inl (.inl (e _ _ (ne_of h hd (by intro z; cases z)) h))
  · exact .inl (.inr ⟨o, e _ _ (ne_of h hd (by intro z; cases z)) h⟩)
  · exact .inr h
theorem SameBut.seqL {K : PySem.W.Frag} {d : Addr} {H H' : Hp} {a : Addr} {xs : List V} (e : SameBut d H H') (hd : a ≠ d) (h : SqL K H a xs) : SqL K H' a xs := by
  rcases h with (h | ⟨o, h⟩) | h
  · exact .inl (.inl (e _ _ hd h))
  · exact .inl (.inr ⟨o, e _ _ hd h⟩)
  · exact .inr h
theorem size_le {n : Nat} (h : n ≤ 100000) : n ≤ sizeLine := Nat.le_trans h (by decide)
theorem size_lt {n : Nat} (h : n < 100000) : n < sizeLine := Nat.lt_of_lt_of_le h (by decide)
/-! ### kinds -/
def kinds : List String := ["NoneType", "bool", "int", "str", "list", "tuple", "dict"]
structure PV (K : PySem.W.Frag) (H : Hp) (x : V) (T : String) : Prop where
  ty : TyX K H x (.type T)
  mem : T ∈ kinds
theorem kinds_all {p : String → Prop} (h1 : p "NoneType") (h2 : p "bool") (h3 : p "int") (h4 : p "str") (h5 : p "list") (h6 : p "tuple") (h7 : p "dict") : ∀ T ∈ kinds, p T := by
  intro T h
  simp only [kinds, List.mem_cons, List.not_mem_nil, or_false] at h
  rcases h with rfl | rfl | rfl | rfl | rfl | rfl | rfl <;> assumption
theorem kit_int {K : PySem.W.Frag} {T : String} (m : T ∈ kinds) : PySem.W.kitOne K (.type T) (.type "int") = some (T == "int" || T == "bool") :=
  kinds_all (p := fun T => PySem.W.kitOne K (.type T) (.type "int") = some (T == "int" || T == "bool")) (kit_ty (by decide +kernel)) (kit_ty (by decide +kernel)) (kit_ty (by decide +kernel)) (kit_ty (by decide +kernel)) (kit_ty (by decide +kernel)) (kit_ty (by decide +kernel)) (kit_ty (by decide +kernel)) T m
theorem kit_bool {K : PySem.W.Frag} {T : String} (m : T ∈ kinds) : PySem.W.kitOne K (.type T) (.type "bool") = some (T == "bool") :=
  kinds_all (p := fun T => PySem.W.kitOne K (.type T) (.type "bool") = some (T == "bool")) (kit_ty (by decide +kernel)) (kit_ty (by decide +kernel)) (kit_ty (by decide +kernel)) (kit_ty (by decide +kernel)) (kit_ty (by decide +kernel)) (kit_ty (by decide +kernel)) (kit_ty (by decide +kernel)) T m
theorem kit_list {K : PySem.W.Frag} {T : String} (m : T ∈ kinds) : PySem.W.kitOne K (.type T) (.type "list") = some (T == "list") :=
  kinds_all (p := fun T => PySem.W.kitOne K (.type T) (.type "list") = some (T == "list")) (kit_ty (by decide +kernel)) (kit_ty (by decide +kernel)) (kit_ty (by decide +kernel)) (kit_ty (by decide +kernel)) (kit_ty (by decide +kernel)) (kit_ty (by decide +kernel)) (kit_ty (by decide +kernel)) T m
theorem kit_tuple {K : PySem.W.Frag} {T : String} (m : T ∈ kinds) : PySem.W.kitOne K (.type T) (.type "tuple") = some (T == "tuple") :=
  kinds_all (p := fun T => PySem.W.kitOne K (.type T) (.type "tuple") = some (T == "tuple")) (kit_ty (by decide +kernel)) (kit_ty (by decide +kernel)) (kit_ty (by decide +kernel)) (kit_ty (by decide +kernel)) (kit_ty (by decide +kernel)) (kit_ty (by decide +kernel)) (kit_ty (by decide +kernel)) T m
theorem kit_str {K : PySem.W.Frag} {T : String} (m : T ∈ kinds) : PySem.W.kitOne K (.type T) (.type "str") = some (T == "str") :=
  kinds_all (p := fun T => PySem.W.kitOne K (.type T) (.type "str") = some (T == "str")) (kit_ty (by decide +kernel)) (kit_ty (by decide +kernel)) (kit_ty (by decide +kernel)) (kit_ty (by decide +kernel)) (kit_ty (by decide +kernel)) (kit_ty (by decide +kernel)) (kit_ty (by decide +kernel)) T m
section
variable {K : PySem.W.Frag} {H H' : Hp}
theorem pv_non : PV K H .non "NoneType" := ⟨.base .non, by decide⟩
theorem pv_bl (b : Bool) : PV K H (.bl b) "bool" := ⟨.base (.bl b), by decide⟩
theorem pv_int (i : Int) : PV K H (.int i) "int" := ⟨.base (.int i), by decide⟩
theorem pv_str (x : Str) : PV K H (.str x) "str" := ⟨.base (.str x), by decide⟩
theorem pv_tup {a : Addr} {xs : List V} (e : H a = some (.tup xs)) : PV K H (.ref a) "tuple" := ⟨.base (.tup e), by decide⟩
theorem pv_dT {a : Addr} {kvs : List (List Key × V)} (e : H a = some (.dT kvs)) : PV K H (.ref a) "dict" := ⟨.base (.dT e), by decide⟩
theorem pv_dK {a : Addr} {kvs : List (Key × V)} (e : H a = some (.dK kvs)) : PV K H (.ref a) "dict" := ⟨.base (.dK e), by decide⟩
theorem pv_sq {a : Addr} {xs : List V} (h : SqL K H a xs) : PV K H (.ref a) "list" := by
  refine ⟨?_, by decide⟩
  rcases h with (h | ⟨o, h⟩) | ⟨o, its, n, h, hc, _⟩
  · exact .base (.lst h)
  · exact .base (.frz h)
  · exact .kList h hc
theorem tyx_mono {x : V} {t : Value} (s : Same H H') (h : TyX K H x t) : TyX K H' x t := by
  cases h with
  | base b =>
    cases b with
    | non => exact .base .non
    | bl y => exact .base (.bl y)
    | int i => exact .base (.int i)
    | str y => exact .base (.str y)
    | flt y => exact .base (.flt y)
    | lst e => exact .base (.lst (s _ _ e))
    | frz e => exact .base (.frz (s _ _ e))
    | tup e => exact .base (.tup (s _ _ e))
    | dK e => exact .base (.dK (s _ _ e))
    | dT e => exact .base (.dT (s _ _ e))
    | ins e cl ha hn htk hm => exact .base (.ins (s _ _ e) cl ha hn htk hm)
  | byt b => exact .byt b
  | set e => exact .set (s _ _ e)
  | kList e c => exact .kList e c
  | kTuple e c => exact .kTuple e c
  | kDict e c => exact .kDict e c
  | fTuple e => exact .fTuple (s _ _ e)
  | fDict e => exact .fDict (s _ _ e)
theorem PV.mono {x : V} {T : String} (s : Same H H') (h : PV K H x T) : PV K H' x T := ⟨tyx_mono s h.ty, h.mem⟩
theorem PV.int_of {x : V} {T : String} (h : PV K H x T) (e : T = "int") : ∃ i, x = .int i := by
  obtain ⟨ty, m⟩ := h
  subst e
  generalize ht : (Value.type "int") = t at ty
  cases ty with
  | base b => cases b <;> first | exact ⟨_, rfl⟩ | exact absurd (Value.type.inj ht) (by decide) | cases ht
  | byt b => exact absurd (Value.type.inj ht) (by decide)
  | set e => exact absurd (Value.type.inj ht) (by decide)
  | kList e c => exact absurd (Value.type.inj ht) (by decide)
  | kTuple e c => exact absurd (Value.type.inj ht) (by decide)
  | kDict e c => exact absurd (Value.type.inj ht) (by decide)
  | fTuple e => exact absurd (Value.type.inj ht) (by decide)
  | fDict e => exact absurd (Value.type.inj ht) (by decide)
theorem PV.str_of {x : V} {T : String} (h : PV K H x T) (e : T = "str") : ∃ i, x = .str i := by
  obtain ⟨ty, m⟩ := h
  subst e
  generalize ht : (Value.type "str") = t at ty
  cases ty with
  | base b => cases b <;> first | exact ⟨_, rfl⟩ | exact absurd (Value.type.inj ht) (by decide) | cases ht
  | byt b => exact absurd (Value.type.inj ht) (by decide)
  | set e => exact absurd (Value.type.inj ht) (by decide)
  | kList e c => exact absurd (Value.type.inj ht) (by decide)
  | kTuple e c => exact absurd (Value.type.inj ht) (by decide)
  | kDict e c => exact absurd (Value.type.inj ht) (by decide)
  | fTuple e => exact absurd (Value.type.inj ht) (by decide)
  | fDict e => exact absurd (Value.type.inj ht) (by decide)
theorem PV.of_int {i : Int} {T : String} (h : PV K H (.int i) T) : T = "int" := by
  obtain ⟨ty, m⟩ := h
  generalize ht : (Value.type T) = t at ty
  cases ty with
  | base b => cases b; exact Value.type.inj ht
theorem PV.of_str {i : Str} {T : String} (h : PV K H (.str i) T) : T = "str" := by
  obtain ⟨ty, m⟩ := h
  generalize ht : (Value.type T) = t at ty
  cases ty with
  | base b => cases b; exact Value.type.inj ht
end
/-! ### rows -/
def coinB : V → Bool
  | .int i => decide (0 ≤ i) && decide (i ≤ 1000000)
  | _ => false
def RowOk (ns : List Int) : Prop := ns.length ≤ 12 ∧ ∀ z ∈ ns, 0 ≤ z ∧ z ≤ 1000000
theorem RowOk.all {ns : List Int} (h : RowOk ns) : (ns.map V.int).all coinB = true := by
  rw [List.all_eq_true]
  intro x hx
  obtain ⟨z, hz, rfl⟩ := List.mem_map.mp hx
  have q := h.2 z hz
  simp [coinB, q.1, q.2]
theorem RowOk.rev {ns : List Int} (h : RowOk ns) : RowOk ns.reverse := ⟨by rw [List.length_reverse]; exact h.1, fun z hz => h.2 z (List.mem_reverse.mp hz)⟩
theorem RowOk.getD {ns : List Int} (h : RowOk ns) (i : Nat) : 0 ≤ ns.getD i 0 ∧ ns.getD i 0 ≤ 1000000 := by
  rw [List.getD_eq_getElem?_getD]
  cases e : ns[i]? with
  | none => simp
  | some z => exact h.2 z (List.mem_of_getElem? e)
theorem at_get {ns : List Int} {i : Int} {j : Nat} (e : i = (j : Int)) (h : j < ns.length) : atI (ns.map V.int) i = some (.int (ns.getD j 0)) := by
  subst e
  refine atI_nat ?_
  rw [List.getElem?_map, List.getElem?_eq_getElem h, List.getD_eq_getElem?_getD, List.getElem?_eq_getElem h]
  rfl
/-! ### the worths that are known -/
def keyOf (low n : Nat) : List Key := [Sum.inl (low : Int), Sum.inl ((low + n : Nat) : Int)]
theorem keyOf_inj {a b c d : Nat} (h : keyOf a b = keyOf c d) : a = c ∧ b = d := by
  have h1 : ((a : Int) = (c : Int)) := Sum.inl.inj (List.cons.inj h).1
  have h2 : (((a + b : Nat) : Int) = ((c + d : Nat) : Int)) := Sum.inl.inj (List.cons.inj (List.cons.inj h).2).1
  omega
structure Known (row : List Int) (kvs : List (List Key × V)) : Prop where
  val : ∀ p ∈ kvs, ∃ low n, low + n ≤ row.length ∧ p = (keyOf low n, V.int (wv row n low))
  nd : (kvs.map (·.1)).Nodup
theorem Known.nil (row : List Int) : Known row [] := ⟨fun _ h => (nomatch h), List.nodup_nil⟩
theorem valV_mem {kvs : List (List Key × V)} {k : List Key} {v : V} (h : valV kvs k = some v) : (k, v) ∈ kvs := by
  unfold valV at h
  obtain ⟨p, hp, rfl⟩ := Option.map_eq_some_iff.mp h
  have h1 := List.find?_some hp
  have h2 := List.mem_of_find?_eq_some hp
  have h3 : p.1 = k := of_decide_eq_true h1
  subst h3
  exact h2
theorem Known.get {row : List Int} {kvs : List (List Key × V)} (h : Known row kvs) {low n : Nat} {v : V} (e : valV kvs (keyOf low n) = some v) : v = .int (wv row n low) := by
  obtain ⟨a, b, _, q⟩ := h.val _ (valV_mem e)
  have q1 := congrArg Prod.fst q
  have q2 := congrArg Prod.snd q
  obtain ⟨rfl, rfl⟩ := keyOf_inj q1
  exact q2
theorem Known.put {row : List Int} {kvs : List (List Key × V)} (h : Known row kvs) {low n : Nat} (hl : low + n ≤ row.length) : Known row (putK kvs (keyOf low n) (.int (wv row n low))) := by
  unfold putK
  split
  · rename_i c
    refine ⟨fun p hp => ?_, ?_⟩
    · obtain ⟨q, hq, rfl⟩ := List.mem_map.mp hp
      obtain ⟨a, b, l, e⟩ := h.val q hq
      refine ⟨a, b, l, ?_⟩
      split
      · rename_i ek
        rw [e] at ek ⊢
        obtain ⟨rfl, rfl⟩ := keyOf_inj ek
        rfl
      · exact e
    · have e : (kvs.map fun kv => if kv.1 = keyOf low n then (kv.1, V.int (wv row n low)) else kv).map (·.1) = kvs.map (·.1) := by
        rw [List.map_map]
        refine List.map_congr_left fun q _ => ?_
        show (if q.1 = keyOf low n then (q.1, V.int (wv row n low)) else q).1 = q.1
        split <;> rfl
      rw [e]
      exact h.nd
  · rename_i c
    refine ⟨fun p hp => ?_, ?_⟩
    · rcases List.mem_append.mp hp with hp | hp
      · exact h.val p hp
      · rw [List.mem_singleton] at hp
        exact ⟨low, n, hl, hp⟩
    · rw [List.map_append, List.nodup_append]
      refine ⟨h.nd, by simp, fun x hx y hy => ?_⟩
      obtain ⟨q, hq, rfl⟩ := List.mem_map.mp hx
      have e : y = keyOf low n := by simpa using hy
      subst e
      intro z
      exact c (List.any_eq_true.mpr ⟨q, hq, decide_eq_true z⟩)
theorem nodup_le {α : Type} [DecidableEq α] : ∀ (l u : List α), l.Nodup → (∀ x ∈ l, x ∈ u) → l.length ≤ u.length
  | [], u, _, _ => Nat.zero_le _
  | a :: l, u, hn, hs => by
    have ha : a ∈ u := hs a List.mem_cons_self
    have hn' := List.nodup_cons.mp hn
    have ih := nodup_le l (u.erase a) hn'.2 fun x hx => by
      have hx' : x ∈ u := hs x (List.mem_cons_of_mem _ hx)
      have ne : x ≠ a := fun e => hn'.1 (e ▸ hx)
      exact (List.mem_erase_of_ne ne).mpr hx'
    rw [List.length_erase_of_mem ha] at ih
    have : 0 < u.length := List.length_pos_of_mem ha
    rw [List.length_cons]
    omega
theorem Known.len {row : List Int} {kvs : List (List Key × V)} (h : Known row kvs) (hr : row.length ≤ 12) : kvs.length ≤ 1000 := by
  have q := nodup_le (kvs.map (·.1)) ((List.range 13).flatMap fun a => (List.range 13).map fun b => keyOf a b) h.nd fun x hx => by
    obtain ⟨p, hp, rfl⟩ := List.mem_map.mp hx
    obtain ⟨a, b, l, e⟩ := h.val p hp
    rw [e]
    exact List.mem_flatMap.mpr ⟨a, List.mem_range.mpr (by omega), List.mem_map.mpr ⟨b, List.mem_range.mpr (by omega), rfl⟩⟩
  rw [List.length_map] at q
  have z : ((List.range 13).flatMap fun a => (List.range 13).map fun b => keyOf a b).length = 169 := by
    rw [List.length_flatMap]
    simp [List.range_succ]
  omega
def sideS : Bool → Str
  | true => "left"
  | false => "right"
end RE
/-! data in the heap, for == -/
namespace RE
open PySem PySem.Spec PyProof.Rows L2
def vD : V → PyData
  | .bl b => .bool b
  | .int i => .int i
  | .str s => .str s
  | _ => .none
def okF : V → Bool
  | .non => true
  | .bl _ => true
  | .int _ => true
  | .str s => PyData.strOk s
  | _ => false
/-- data of a bounded depth -/
structure Sh (d : PyData) (n : Nat) : Prop where
  can : d.canLay0 = true
  dep : d.depth ≤ n
structure ShA (ds : List PyData) (n : Nat) : Prop where
  can : PyData.canLayAll0 ds = true
  dep : PyData.depthAll ds ≤ n
theorem Sh.shaped {d : PyData} {n : Nat} (h : Sh d n) (hn : n ≤ 64) : SeqAt.shaped d = true := by
  unfold SeqAt.shaped
  rw [h.can, decide_eq_true (Nat.le_trans h.dep hn)]
  rfl
theorem ShA.nil (n : Nat) : ShA [] n := ⟨rfl, by simp [PyData.depthAll]⟩
theorem ShA.cons {d : PyData} {ds : List PyData} {n : Nat} (h : Sh d n) (t : ShA ds n) : ShA (d :: ds) n :=
  ⟨by simp only [PyData.canLayAll0, h.can, t.can, Bool.and_self], by have := h.dep; have := t.dep; simp only [PyData.depthAll]; omega⟩
theorem Sh.list {ds : List PyData} {n : Nat} (h : ShA ds n) : Sh (.list ds) (n + 1) := ⟨by simp only [PyData.canLay0]; exact h.can, by have := h.dep; simp only [PyData.depth]; omega⟩
theorem Sh.tuple {ds : List PyData} {n : Nat} (h : ShA ds n) : Sh (.tuple ds) (n + 1) := ⟨by simp only [PyData.canLay0]; exact h.can, by have := h.dep; simp only [PyData.depth]; omega⟩
theorem Sh.mono {d : PyData} {n m : Nat} (h : Sh d n) (l : n ≤ m) : Sh d m := ⟨h.can, Nat.le_trans h.dep l⟩
theorem sh_flat {x : V} (h : okF x = true) (n : Nat) : Sh (vD x) n := by
  cases x with
  | str s => exact ⟨by simp only [vD, PyData.canLay0]; exact h, by simp [vD, PyData.depth]⟩
  | non => exact ⟨by simp [vD, PyData.canLay0], by simp [vD, PyData.depth]⟩
  | bl b => exact ⟨by simp [vD, PyData.canLay0], by simp [vD, PyData.depth]⟩
  | int b => exact ⟨by simp [vD, PyData.canLay0], by simp [vD, PyData.depth]⟩
  | byt b => cases h
  | flt b => cases h
  | ref b => cases h
  | ty b => cases h
theorem sha_flat : ∀ {xs : List V}, xs.all okF = true → ∀ n, ShA (xs.map vD) n
  | [], _, n => .nil n
  | x :: xs, h, n => by
    have h' := Bool.and_eq_true_iff.mp (show (okF x && xs.all okF) = true from h)
    exact .cons (sh_flat h'.1 n) (sha_flat h'.2 n)
section
variable {K : PySem.W.Frag} {H H' : Hp}
theorem dp_flat {x : V} (h : okF x = true) : Dp K H x (vD x) := by
  cases x with
  | str s => exact .str s
  | non => exact .non
  | bl b => exact .bl b
  | int b => exact .int b
  | byt b => cases h
  | flt b => cases h
  | ref b => cases h
  | ty b => cases h
theorem dps_flat : ∀ {xs : List V}, xs.all okF = true → DpAll K H xs (xs.map vD)
  | [], _ => .nil
  | x :: xs, h => by
    have h' := Bool.and_eq_true_iff.mp (show (okF x && xs.all okF) = true from h)
    exact .cons (dp_flat h'.1) (dps_flat h'.2)
theorem dp_lst {a : Addr} {xs : List V} (h : SqL K H a xs) (hf : xs.all okF = true) : Dp K H (.ref a) (.list (xs.map vD)) := .lst h (dps_flat hf)
theorem dp_tup {a : Addr} {xs : List V} (h : SqT K H a xs) (hf : xs.all okF = true) : Dp K H (.ref a) (.tuple (xs.map vD)) := .tup h (dps_flat hf)
end
theorem ok_ints (ns : List Int) : (ns.map V.int).all okF = true := by
  rw [List.all_map]
  exact List.all_eq_true.mpr fun _ _ => rfl
theorem ok_strs (bs : List Bool) : (bs.map fun b => V.str (sideS b)).all okF = true := by
  rw [List.all_map]
  refine List.all_eq_true.mpr fun b _ => ?_
  cases b <;> decide +kernel
theorem shl_flat {xs : List V} (h : xs.all okF = true) : SeqAt.shaped (.list (xs.map vD)) = true := (Sh.list (sha_flat h 0)).shaped (by decide)
theorem sht_flat {xs : List V} (h : xs.all okF = true) : SeqAt.shaped (.tuple (xs.map vD)) = true := (Sh.tuple (sha_flat h 0)).shaped (by decide)
theorem eqv_same {d : PyData} (h : SeqAt.shaped d = true) : PyData.eqv d d = true := SeqAt.eqv_refl d (SeqAt.canLay_of_shaped h)
theorem eqvAll_ints : ∀ ns ms : List Int, PyData.eqvAll ((ns.map V.int).map vD) ((ms.map V.int).map vD) = decide (ns = ms)
  | [], [] => by simp [PyData.eqvAll]
  | [], _ :: _ => by simp [PyData.eqvAll]
  | _ :: _, [] => by simp [PyData.eqvAll]
  | n :: ns, m :: ms => by
    have ih := eqvAll_ints ns ms
    simp only [List.map_cons, PyData.eqvAll, vD, PyData.eqv, ih]
    by_cases c : n = m <;> by_cases c2 : ns = ms <;> simp [c, c2]
theorem eqv_ints (ns ms : List Int) : PyData.eqv (.list ((ns.map V.int).map vD)) (.list ((ms.map V.int).map vD)) = decide (ns = ms) := by
  rw [PyData.eqv]
  exact eqvAll_ints ns ms
theorem eqv_nil_r (x : V) (xs : List V) : PyData.eqv (.list ((x :: xs).map vD)) (.list []) = false := by
  rw [PyData.eqv]
  rfl
end RE
/-! the promises of the program's defs -/
namespace RE
open PySem PySem.Spec PyProof.Rows L2
def spWhole (K : PySem.W.Frag) : Sp := fun vs H Q _ => ∃ x T, vs = [x] ∧ PV K H x T ∧ Q (.bl (T == "int")) H
/-- what is no row -/
def NoRow (K : PySem.W.Frag) (H : Hp) (x : V) : Prop := (∃ T, PV K H x T ∧ (T == "list") = false) ∨
  ∃ a xs, x = .ref a ∧ SqL K H a xs ∧ (12 < xs.length ∨ (xs.length ≤ 12 ∧ (∀ y ∈ xs, ∃ T, PV K H y T) ∧ xs.all coinB = false))
def IsRow (K : PySem.W.Frag) (H : Hp) (x : V) (ns : List Int) : Prop := ∃ a, x = .ref a ∧ SqL K H a (ns.map V.int) ∧ RowOk ns
/-- a row: go on; none: the refusal -/
def spCheck (K : PySem.W.Frag) (C : Addr) : Sp := fun vs H Q E => ∃ x, vs = [x] ∧
  ((∃ ns, IsRow K H x ns ∧ ∀ H', Same H H' → Q .non H') ∨ (NoRow K H x ∧ ∀ H', Same H H' → E (.ref C) none H'))
/-- a def of a row alone -/
def spRow (K : PySem.W.Frag) (C : Addr) (R : List Int → Hp → VK → XK → Prop) : Sp := fun vs H Q E => ∃ x, vs = [x] ∧
  ((∃ ns, IsRow K H x ns ∧ R ns H Q E) ∨ (NoRow K H x ∧ ∀ H', Same H H' → E (.ref C) none H'))
def spWorthOf (K : PySem.W.Frag) (n : Nat) : Sp := fun vs H Q _ => ∃ (a d : Addr) (ns : List Int) (low m : Nat) (i j : Int) (kvs : List (List Key × V)), vs = [.ref a, .int i, .int j, .ref d] ∧ i = (low : Int) ∧ j = ((low + m : Nat) : Int) ∧
  SqL K H a (ns.map V.int) ∧ H d = some (.dT kvs) ∧ Known ns kvs ∧ ns.length ≤ 12 ∧ low + m ≤ ns.length ∧ m < n ∧
  ∀ H' kvs', SameBut d H H' → H' d = some (.dT kvs') → Known ns kvs' → Q (.int (wv ns m low)) H'
def coinOf (ns : List Int) (b : Bool) (low m : Nat) : Int := if b then ns.getD low 0 else ns.getD (low + m) 0
def lowOf (b : Bool) (low : Nat) : Nat := if b then low + 1 else low
theorem lowOf_le (b : Bool) (low m : Nat) : lowOf b low + m ≤ low + (m + 1) := by cases b <;> simp [lowOf] <;> omega
def spAfter (K : PySem.W.Frag) : Sp := fun vs H Q _ => ∃ (a : Addr) (ns : List Int) (low m : Nat) (i j : Int) (b : Bool), vs = [.ref a, .int i, .int j, .str (sideS b)] ∧ i = (low : Int) ∧ j = ((low + (m + 1) : Nat) : Int) ∧
  SqL K H a (ns.map V.int) ∧ low + (m + 1) ≤ ns.length ∧
  ∀ p, H p = none → Q (.ref p) (upd H p (.tup [.int (coinOf ns b low m), .int (lowOf b low : Nat), .int ((lowOf b low + m : Nat) : Int)]))
/-- an end is best -/
def bestB (ns : List Int) (low m : Nat) (b : Bool) : Bool := decide (coinOf ns b low m - wv ns m (lowOf b low) = wv ns (m + 1) low)
theorem ends_filter (ns : List Int) (low m : Nat) : ends ns (m + 1) low = [true, false].filter (bestB ns low m) := by
  rw [ends_succ]
  have h1 : bestB ns low m true = decide (ns.getD low 0 - wv ns m (low + 1) = wv ns (m + 1) low) := rfl
  have h2 : bestB ns low m false = decide (ns.getD (low + m) 0 - wv ns m low = wv ns (m + 1) low) := rfl
  rw [List.filter_cons, List.filter_cons, List.filter_nil, h1, h2]
  by_cases c1 : ns.getD low 0 - wv ns m (low + 1) = wv ns (m + 1) low
  · rw [if_pos c1, decide_eq_true c1, if_pos rfl]
    by_cases c2 : ns.getD (low + m) 0 - wv ns m low = wv ns (m + 1) low
    · rw [if_pos c2, decide_eq_true c2, if_pos rfl]
      rfl
    · rw [if_neg c2, decide_eq_false c2, if_neg Bool.false_ne_true]
      rfl
  · rw [if_neg c1, decide_eq_false c1, if_neg Bool.false_ne_true]
    by_cases c2 : ns.getD (low + m) 0 - wv ns m low = wv ns (m + 1) low
    · rw [if_pos c2, decide_eq_true c2, if_pos rfl]
      rfl
    · rw [if_neg c2, decide_eq_false c2, if_neg Bool.false_ne_true]
      rfl
theorem ends_le (ns : List Int) (n low : Nat) : (ends ns n low).length ≤ 2 := by
  cases n with
  | zero => exact Nat.zero_le _
  | succ m =>
    rw [ends_filter]
    exact List.length_filter_le _ _
def spBestOf (K : PySem.W.Frag) : Sp := fun vs H Q _ => ∃ (a d : Addr) (ns : List Int) (low m : Nat) (i j : Int) (kvs : List (List Key × V)), vs = [.ref a, .int i, .int j, .ref d] ∧ i = (low : Int) ∧ j = ((low + (m + 1) : Nat) : Int) ∧
  SqL K H a (ns.map V.int) ∧ H d = some (.dT kvs) ∧ Known ns kvs ∧ ns.length ≤ 12 ∧ low + (m + 1) ≤ ns.length ∧
  ∀ H' kvs' p, SameBut d H H' → H' d = some (.dT kvs') → Known ns kvs' → H p = none → H' p = some (.lst ((ends ns (m + 1) low).map fun b => V.str (sideS b))) → Q (.ref p) H'
def spWorth (K : PySem.W.Frag) (C : Addr) : Sp := spRow K C fun ns H Q _ => ∀ H', Same H H' → Q (.int (wv ns ns.length 0)) H'
def spBest (K : PySem.W.Frag) (C : Addr) : Sp := spRow K C fun ns H Q _ => ∀ H' p, Same H H' → H p = none → H' p = some (.lst ((ends ns ns.length 0).map fun b => V.str (sideS b))) → Q (.ref p) H'
def absI (i : Int) : Int := if i < 0 then -i else i
def sureV (ns : List Int) : Int := absI ((evens ns).sum - (evens (ns.drop 1)).sum)
def spSure (K : PySem.W.Frag) (C D : Addr) : Sp := spRow K C fun ns H Q E => (ns.length % 2 = 1 → ∀ H', Same H H' → E (.ref D) none H') ∧ (ns.length % 2 = 0 → ∀ H', Same H H' → Q (.int (sureV ns)) H')
end RE
/-! the promises of the laws' own defs -/
namespace RE
open PySem PySem.Spec PyProof.Rows L2
/-- some number comes -/
def spNumber : Sp := fun vs H Q _ => ∃ c a z : Int, vs = [.int c, .int a, .int z] ∧ c.natAbs < 2 ^ 2000000 ∧ a.natAbs < 2 ^ 30 ∧ ∀ r : Int, Q (.int r) H
/-- a row comes -/
def spLRow (K : PySem.W.Frag) : Sp := fun vs H Q _ => ∃ (a : Addr) (cs : List Int) (by' most : Int), vs = [.ref a, .int by', .int most] ∧ SqL K H a (cs.map V.int) ∧ cs.length ≤ 63 ∧ (∀ z ∈ cs, z.natAbs < 2 ^ 1048576) ∧ 0 ≤ by' ∧ by' ≤ 100 ∧ 0 ≤ most ∧ most ≤ 12 ∧
  ∀ (ns : List Int) (p : Addr) (H' : Hp), RowOk ns → (ns.length : Int) ≤ most → Same H H' → H p = none → H' p = some (.lst (ns.map V.int)) → Q (.ref p) H'
/-- all worths of a row -/
structure Worths (ns : List Int) (kvs : List (List Key × V)) : Prop where
  val : ∀ low n, low + n ≤ ns.length → valV kvs (keyOf low n) = some (.int (wv ns n low))
/-- the worths of stretches shorter than i, and of those of i coins that begin ahead of j -/
def Done (ns : List Int) (kvs : List (List Key × V)) (i j : Nat) : Prop := ∀ m low, low + m ≤ ns.length → (m < i ∨ (m = i ∧ low < j)) → valV kvs (keyOf low m) = some (.int (wv ns m low))
theorem Done.nil (ns : List Int) : Done ns [] 0 0 := fun m low _ h => by omega
theorem keyEq {i j : Int} {low n : Nat} (h1 : i = (low : Int)) (h2 : j = ((low + n : Nat) : Int)) : [V.int i, V.int j] = (keyOf low n).map kV := by
  show [V.int i, V.int j] = [V.int (low : Int), V.int ((low + n : Nat) : Int)]
  rw [h1, h2]
def spWorths (K : PySem.W.Frag) : Sp := fun vs H Q _ => ∃ (a : Addr) (ns : List Int), vs = [.ref a] ∧ SqL K H a (ns.map V.int) ∧ ns.length ≤ 12 ∧
  ∀ (kvs : List (List Key × V)) (d : Addr) (H' : Hp), Worths ns kvs → Same H H' → H d = none → H' d = some (.dT kvs) → Q (.ref d) H'
def spEnds (K : PySem.W.Frag) : Sp := fun vs H Q _ => ∃ (a d : Addr) (ns : List Int) (low m : Nat) (i j : Int) (kvs : List (List Key × V)), vs = [.ref a, .int i, .int j, .ref d] ∧ i = (low : Int) ∧ j = ((low + m : Nat) : Int) ∧ SqL K H a (ns.map V.int) ∧ H d = some (.dT kvs) ∧ Worths ns kvs ∧ low + m ≤ ns.length ∧
  ∀ H' p, Same H H' → H p = none → H' p = some (.lst ((ends ns m low).map fun b => V.str (sideS b))) → Q (.ref p) H'
def spLaw (K : PySem.W.Frag) : Sp := fun vs H Q _ => ∃ (a : Addr) (ns : List Int), vs = [.ref a] ∧ SqL K H a (ns.map V.int) ∧ ns.length ≤ 63 ∧ (∀ z ∈ ns, z.natAbs < 2 ^ 1048576) ∧ ∀ H', Q (.bl true) H'
/-- a sum of few great numbers -/
theorem sum_bits : ∀ (l : List Int) (k : Nat), (∀ z ∈ l, z.natAbs < 2 ^ k) → l.sum.natAbs < 2 ^ (k + l.length)
  | [], k, _ => by
    rw [List.sum_nil]
    exact Nat.pow_pos (by decide)
  | a :: l, k, h => by
    have ih := sum_bits l k fun z hz => h z (List.mem_cons_of_mem _ hz)
    have ha := pw_mono (h a List.mem_cons_self) (Nat.le_add_right k l.length)
    rw [List.sum_cons, List.length_cons, ← Nat.add_assoc]
    exact pw_add ha ih (Nat.le_refl _)
/-- the first 63 of a list that is not longer -/
theorem cut63 {xs : List V} (h : xs.length ≤ 63) : cutV xs none (some 63) = xs := by
  unfold cutV
  rw [show HT.sIx xs.length xs.length (some 63) = min 63 xs.length from HT.sIx_nat xs.length xs.length 63, HT.sIx_none, Nat.min_eq_right h, List.drop_zero, Nat.sub_zero, List.take_length]
end RE
/-! takes, greedy hands, best plays -/
namespace RE
open PySem PySem.Spec PyProof.Rows L2
/-- the coins of a stretch -/
def stretch (ns : List Int) (low n : Nat) : List Int := (ns.drop low).take n
/-- what takes give the hand that takes next, and the other one -/
def ledR (ns : List Int) : Nat → Nat → List Bool → Int × Int
  | m + 1, low, b :: bs => (coinOf ns b low m + (ledR ns m (lowOf b low) bs).2, (ledR ns m (lowOf b low) bs).1)
  | _, _, _ => (0, 0)
theorem ledR_nil (ns : List Int) (n low : Nat) : ledR ns n low [] = (0, 0) := by cases n <;> rfl
theorem ledR_cons (ns : List Int) (m low : Nat) (b : Bool) (bs : List Bool) : ledR ns (m + 1) low (b :: bs) = (coinOf ns b low m + (ledR ns m (lowOf b low) bs).2, (ledR ns m (lowOf b low) bs).1) := rfl
/-- where the stretch begins that takes leave -/
def ledLow : Nat → List Bool → Nat
  | low, [] => low
  | low, b :: bs => ledLow (lowOf b low) bs
def sidesV (bs : List Bool) : List V := bs.map fun b => V.str (sideS b)
theorem sidesV_len (bs : List Bool) : (sidesV bs).length = bs.length := List.length_map _
theorem sidesV_ok (bs : List Bool) : (sidesV bs).all okF = true := ok_strs bs
/-- greedy takes -/
def greedyV (ns : List Int) : Nat → Nat → List Bool
  | 0, _ => []
  | m + 1, low => decide (ns.getD (low + m) 0 ≤ ns.getD low 0) :: greedyV ns m (lowOf (decide (ns.getD (low + m) 0 ≤ ns.getD low 0)) low)
theorem greedyV_succ (ns : List Int) (m low : Nat) : greedyV ns (m + 1) low = decide (ns.getD (low + m) 0 ≤ ns.getD low 0) :: greedyV ns m (lowOf (decide (ns.getD (low + m) 0 ≤ ns.getD low 0)) low) := rfl
/-- all best plays of a stretch, in order -/
def plays (ns : List Int) : Nat → Nat → List (List Bool)
  | 0, _ => [[]]
  | m + 1, low => (ends ns (m + 1) low).flatMap fun b => (plays ns m (lowOf b low)).map fun p => b :: p
theorem plays_zero (ns : List Int) (low : Nat) : plays ns 0 low = [[]] := rfl
theorem plays_succ (ns : List Int) (m low : Nat) : plays ns (m + 1) low = (ends ns (m + 1) low).flatMap fun b => (plays ns m (lowOf b low)).map fun p => b :: p := rfl
def many (ns : List Int) (n low : Nat) : Int := ((plays ns n low).length : Nat)
theorem flat_len (f : Bool → List (List Bool)) : ∀ l : List Bool, (l.flatMap f).length = (l.map fun b => (f b).length).sum
  | [] => rfl
  | a :: l => by
    rw [List.flatMap_cons, List.length_append, flat_len f l, List.map_cons, List.sum_cons]
theorem plays_le (ns : List Int) : ∀ n low, (plays ns n low).length ≤ 2 ^ n
  | 0, low => by rw [plays_zero]; exact Nat.le_refl _
  | m + 1, low => by
    rw [plays_succ, flat_len]
    have h1 : ∀ l : List Bool, (l.map fun b => ((plays ns m (lowOf b low)).map fun p => b :: p).length).sum ≤ l.length * 2 ^ m := by
      intro l
      induction l with
      | nil => simp
      | cons b l ih =>
        rw [List.map_cons, List.sum_cons, List.length_map, List.length_cons, Nat.succ_mul]
        have := plays_le ns m (lowOf b low)
        omega
    have h2 := h1 (ends ns (m + 1) low)
    have h3 := ends_le ns (m + 1) low
    have h4 : (ends ns (m + 1) low).length * 2 ^ m ≤ 2 * 2 ^ m := Nat.mul_le_mul_right _ h3
    rw [Nat.pow_succ]
    omega
theorem plays_pos (ns : List Int) : ∀ n low, 0 < (plays ns n low).length
  | 0, low => by rw [plays_zero]; exact Nat.succ_pos _
  | m + 1, low => by
    rw [plays_succ]
    cases e : ends ns (m + 1) low with
    | nil => exact absurd e (ends_ne ns m low)
    | cons b l =>
      rw [List.flatMap_cons, List.length_append, List.length_map]
      have := plays_pos ns m (lowOf b low)
      omega
theorem plays_length (ns : List Int) : ∀ n low, ∀ p ∈ plays ns n low, p.length = n
  | 0, low, p, h => by
    rw [plays_zero, List.mem_singleton] at h
    rw [h]
    rfl
  | m + 1, low, p, h => by
    rw [plays_succ] at h
    obtain ⟨b, _, h⟩ := List.mem_flatMap.mp h
    obtain ⟨q, hq, rfl⟩ := List.mem_map.mp h
    rw [List.length_cons, plays_length ns m _ q hq]
theorem ends_best {ns : List Int} {m low : Nat} {b : Bool} (h : b ∈ ends ns (m + 1) low) : coinOf ns b low m - wv ns m (lowOf b low) = wv ns (m + 1) low := by
  rw [ends_filter] at h
  exact of_decide_eq_true (List.mem_filter.mp h).2
theorem plays_worth (ns : List Int) : ∀ n low, ∀ p ∈ plays ns n low, (ledR ns n low p).1 - (ledR ns n low p).2 = wv ns n low
  | 0, low, p, h => by
    rw [plays_zero, List.mem_singleton] at h
    rw [h, ledR_nil, wv_zero]
    rfl
  | m + 1, low, p, h => by
    rw [plays_succ] at h
    obtain ⟨b, hb, h⟩ := List.mem_flatMap.mp h
    obtain ⟨q, hq, rfl⟩ := List.mem_map.mp h
    have ih := plays_worth ns m _ q hq
    have e := ends_best hb
    rw [ledR_cons]
    show coinOf ns b low m + (ledR ns m (lowOf b low) q).2 - (ledR ns m (lowOf b low) q).1 = _
    omega
theorem sum_take1 {l : List Bool} {t : Nat} {b : Bool} (f : Bool → Int) (h : l[t]? = some b) : ((l.take (t + 1)).map f).sum = ((l.take t).map f).sum + f b := by
  rw [List.take_add_one, h, List.map_append, List.sum_append]
  simp
theorem many_succ (ns : List Int) (m low : Nat) : many ns (m + 1) low = ((ends ns (m + 1) low).map fun b => many ns m (lowOf b low)).sum := by
  unfold many
  rw [plays_succ, flat_len]
  generalize ends ns (m + 1) low = l
  induction l with
  | nil => rfl
  | cons b l ih =>
    rw [List.map_cons, List.sum_cons, List.map_cons, List.sum_cons, List.length_map, ← ih]
    omega
/-! ### stretches as lists -/
theorem stretch_len {ns : List Int} {low n : Nat} (h : low + n ≤ ns.length) : (stretch ns low n).length = n := by
  unfold stretch
  rw [List.length_take, List.length_drop]
  omega
theorem stretch_get {ns : List Int} {low n i : Nat} (h : i < n) : (stretch ns low n)[i]? = ns[low + i]? := by
  unfold stretch
  rw [List.getElem?_take, if_pos h, List.getElem?_drop]
theorem stretch_first {ns : List Int} {low m : Nat} (h : low + (m + 1) ≤ ns.length) : stretch ns low (m + 1) = ns.getD low 0 :: stretch ns (low + 1) m := by
  unfold stretch
  have hl : low < ns.length := by omega
  rw [List.drop_eq_getElem_cons hl, List.take_succ_cons, List.getD_eq_getElem?_getD, List.getElem?_eq_getElem hl]
  rfl
theorem stretch_last {ns : List Int} {low m : Nat} (h : low + (m + 1) ≤ ns.length) : stretch ns low (m + 1) = stretch ns low m ++ [ns.getD (low + m) 0] := by
  unfold stretch
  have hl : low + m < ns.length := by omega
  rw [List.take_add_one, List.getElem?_drop, List.getElem?_eq_getElem hl, List.getD_eq_getElem?_getD, List.getElem?_eq_getElem hl]
  rfl
theorem stretch_all (ns : List Int) : stretch ns 0 ns.length = ns := by
  unfold stretch
  rw [List.drop_zero, List.take_length]
theorem stretch_zero (ns : List Int) (low : Nat) : stretch ns low 0 = [] := by
  unfold stretch
  rw [List.take_zero]
theorem stretch_cut {ns : List Int} {low n : Nat} (h : low + n ≤ ns.length) {i j : Int} (ei : i = (low : Int)) (ej : j = ((low + n : Nat) : Int)) : cutV (ns.map V.int) (some i) (some j) = (stretch ns low n).map V.int := by
  subst ei ej
  unfold cutV stretch
  rw [show HT.sIx (ns.map V.int).length 0 (some ((low : Nat) : Int)) = min low (ns.map V.int).length from HT.sIx_nat _ 0 low, show HT.sIx (ns.map V.int).length (ns.map V.int).length (some ((low + n : Nat) : Int)) = min (low + n) (ns.map V.int).length from HT.sIx_nat _ _ (low + n), List.length_map, Nat.min_eq_left h, Nat.min_eq_left (show low ≤ ns.length by omega), ← List.map_drop, ← List.map_take]
  congr 2
  omega
end RE
/-! promises about takes and plays -/
namespace RE
open PySem PySem.Spec PyProof.Rows L2
def isSideB : V → Bool
  | .str s => decide (s = "left") || decide (s = "right")
  | _ => false
theorem isSide_side (b : Bool) : isSideB (.str (sideS b)) = true := by cases b <;> decide +kernel
def spSide (K : PySem.W.Frag) : Sp := fun vs H Q _ => ∃ x T, vs = [x] ∧ PV K H x T ∧ ∀ H', Same H H' → Q (.bl (isSideB x)) H'
def NoTakes (K : PySem.W.Frag) (H : Hp) (x : V) (n : Nat) : Prop := (∃ T, PV K H x T ∧ (T == "list") = false) ∨
  ∃ a xs, x = .ref a ∧ SqL K H a xs ∧ (n < xs.length ∨ (xs.length ≤ n ∧ (∀ y ∈ xs, ∃ T, PV K H y T) ∧ xs.all isSideB = false))
theorem all_sides (bs : List Bool) : (sidesV bs).all isSideB = true := by
  unfold sidesV
  rw [List.all_map]
  exact List.all_eq_true.mpr fun b _ => isSide_side b
def spLed (K : PySem.W.Frag) (C D : Addr) : Sp := fun vs H Q E => ∃ x t, vs = [x, t] ∧ ((NoRow K H x ∧ ∀ H', Same H H' → E (.ref C) none H') ∨ ∃ ns, IsRow K H x ns ∧
  ((NoTakes K H t ns.length ∧ ∀ H', Same H H' → E (.ref D) none H') ∨ ∃ a bs, t = .ref a ∧ SqL K H a (sidesV bs) ∧ bs.length ≤ ns.length ∧
    ∀ H' p l, Same H H' → H p = none → H l = none → H' p = some (.tup [.int (ledR ns ns.length 0 bs).1, .int (ledR ns ns.length 0 bs).2, .ref l]) → H' l = some (.lst ((stretch ns (ledLow 0 bs) (ns.length - bs.length)).map V.int)) → Q (.ref p) H'))
def spGreedy (K : PySem.W.Frag) (C : Addr) : Sp := spRow K C fun ns H Q _ => ∀ H' p, Same H H' → H p = none → H' p = some (.lst (sidesV (greedyV ns ns.length 0))) → Q (.ref p) H'
def spPlaysOf (K : PySem.W.Frag) (n : Nat) : Sp := fun vs H Q _ => ∃ (a d : Addr) (ns : List Int) (low m : Nat) (i j : Int) (kvs : List (List Key × V)), vs = [.ref a, .int i, .int j, .ref d] ∧ i = (low : Int) ∧ j = ((low + m : Nat) : Int) ∧
  SqL K H a (ns.map V.int) ∧ H d = some (.dT kvs) ∧ Known ns kvs ∧ ns.length ≤ 12 ∧ low + m ≤ ns.length ∧ m < n ∧
  ∀ H' kvs', SameBut d H H' → H' d = some (.dT kvs') → Known ns kvs' → Q (.int (many ns m low)) H'
def spHowMany (K : PySem.W.Frag) (C : Addr) : Sp := spRow K C fun ns H Q _ => ∀ H', Same H H' → Q (.int (many ns ns.length 0)) H'
/-- what is no number of a best play -/
def NoNum (K : PySem.W.Frag) (H : Hp) (x : V) (n : Int) : Prop := (∃ T, PV K H x T ∧ (T == "int") = false) ∨ ∃ k, x = .int k ∧ ¬ (0 ≤ k ∧ k < n)
def spPlayBy (K : PySem.W.Frag) (C D : Addr) : Sp := fun vs H Q E => ∃ x t, vs = [x, t] ∧ ((NoRow K H x ∧ ∀ H', Same H H' → E (.ref C) none H') ∨ ∃ ns, IsRow K H x ns ∧
  ((NoNum K H t (many ns ns.length 0) ∧ ∀ H', Same H H' → E (.ref D) none H') ∨ ∃ (k : Nat) (pl : List Bool), t = .int (k : Int) ∧ (plays ns ns.length 0)[k]? = some pl ∧
    ∀ H' p, Same H H' → H p = none → H' p = some (.lst (sidesV pl)) → Q (.ref p) H'))
/-- enumerate over a list that stays -/
theorem for_enum {K : PySem.W.Frag} {a : Addr} {xs : List V} {g : TG} {tb : TS} {D : Ends} {σ : L2.St} {H : Hp} (Pv : Nat → L2.St → Hp → Prop) (h0 : Pv 0 σ H) (hq : ∀ i σ H, Pv i σ H → SqL K H a xs)
    (hs : ∀ (i : Nat) (x : V) (T : Addr) (σ : L2.St) (H : Hp), xs[i]? = some x → Pv i σ H → H T = none → g (.ref T) σ (upd H T (.tup [.int (i : Nat), x])) fun σ2 H2 => tb { D with nx := Pv (i + 1), ct := Pv (i + 1), bk := D.nx } σ2 H2) (hd : ∀ σ H, Pv xs.length σ H → D.nx σ H) :
    ∃ W : Nat → Nat → L2.St → Hp → Prop, (∃ m, W 0 m σ H) ∧ ∀ i m σ H, W i m σ H →
      ((Ite K a).stop i H ∧ D.nx σ H) ∨ ((Ite K a).go i H ∧ ∃ N : L2.St → Hp → Prop, (∀ σ' H', N σ' H' → ∃ m', m' < m ∧ W (i + 1) m' σ' H') ∧ ∀ v H', (Ite K a).yld i H v H' → g v σ H' fun σ2 H2 => tb { D with nx := N, ct := N, bk := D.nx } σ2 H2) := by
  refine ⟨fun i m σ H => m = xs.length - i ∧ i ≤ xs.length ∧ Pv i σ H, ⟨xs.length, rfl, Nat.zero_le _, h0⟩, ?_⟩
  rintro i m σ H ⟨rfl, hi, p⟩
  have qx := hq i σ H p
  by_cases hlt : i < xs.length
  · have hx : xs[i]? = some xs[i] := List.getElem?_eq_getElem hlt
    refine .inr ⟨⟨xs, _, qx, hx⟩, Pv (i + 1), fun σ' H' p' => ⟨xs.length - (i + 1), by omega, rfl, hlt, p'⟩, fun v H' y => ?_⟩
    obtain ⟨T, x', rfl, hT, rfl, f1⟩ := y
    exact hs i x' T σ H (f1 xs qx) p hT
  · have e : i = xs.length := by omega
    subst e
    exact .inl ⟨⟨xs, qx, Nat.le_refl _⟩, hd σ H p⟩
end RE
/-! lists of takes; promises of the law's own defs about plays -/
namespace RE
open PySem PySem.Spec PyProof.Rows L2
/-- a list of lists of ends -/
inductive Lsts (H : Hp) : List V → List (List Bool) → Prop
  | nil : Lsts H [] []
  | cons {q : Addr} {pl : List Bool} {xs : List V} {pls : List (List Bool)} (h : H q = some (.lst (sidesV pl))) (t : Lsts H xs pls) : Lsts H (.ref q :: xs) (pl :: pls)
theorem Lsts.mono {H H' : Hp} (s : Same H H') : ∀ {xs : List V} {pls : List (List Bool)}, Lsts H xs pls → Lsts H' xs pls
  | _, _, .nil => .nil
  | _, _, .cons h t => .cons (s _ _ h) (t.mono s)
theorem Lsts.app {H : Hp} {ys : List V} {qls : List (List Bool)} (b : Lsts H ys qls) : ∀ {xs : List V} {pls : List (List Bool)}, Lsts H xs pls → Lsts H (xs ++ ys) (pls ++ qls)
  | _, _, .nil => b
  | _, _, .cons h t => .cons h (b.app t)
theorem Lsts.len {H : Hp} : ∀ {xs : List V} {pls : List (List Bool)}, Lsts H xs pls → xs.length = pls.length
  | _, _, .nil => rfl
  | _, _, .cons _ t => by rw [List.length_cons, List.length_cons, t.len]
theorem Lsts.get {H : Hp} : ∀ {xs : List V} {pls : List (List Bool)} {i : Nat} {pl : List Bool}, Lsts H xs pls → pls[i]? = some pl → ∃ q, xs[i]? = some (.ref q) ∧ H q = some (.lst (sidesV pl))
  | _, _, i, pl, .nil, e => by simp at e
  | _, _, 0, pl, .cons h t, e => by
    have e' := Option.some.inj e
    subst e'
    exact ⟨_, rfl, h⟩
  | _, _, i + 1, pl, .cons h t, e => by
    obtain ⟨q, h1, h2⟩ := t.get (i := i) (pl := pl) (by simpa using e)
    exact ⟨q, by simpa using h1, h2⟩
theorem Lsts.getX {H : Hp} : ∀ {xs : List V} {pls : List (List Bool)} {i : Nat} {x : V}, Lsts H xs pls → xs[i]? = some x → ∃ q pl, x = .ref q ∧ pls[i]? = some pl ∧ H q = some (.lst (sidesV pl))
  | _, _, i, x, .nil, e => by simp at e
  | _, _, 0, x, .cons h t, e => by
    have e' := Option.some.inj e
    subst e'
    exact ⟨_, _, rfl, rfl, h⟩
  | _, _, i + 1, x, .cons h t, e => by
    obtain ⟨q, pl, h1, h2, h3⟩ := t.getX (i := i) (x := x) (by simpa using e)
    exact ⟨q, pl, h1, by simpa using h2, h3⟩
/-- all but the object at D -/
def hide (D : Addr) (H : Hp) : Hp := fun a => if a = D then none else H a
theorem hide_ne {D a : Addr} {H : Hp} (h : a ≠ D) : hide D H a = H a := if_neg h
theorem hide_of (D : Addr) (H : Hp) : Same (hide D H) H := fun b o e => by
  by_cases c : b = D
  · rw [c, show hide D H D = none from if_pos rfl] at e
    cases e
  · rw [hide_ne c] at e
    exact e
theorem hide_same {D : Addr} {H H' : Hp} (s : SameBut D H H') : Same (hide D H) (hide D H') := fun b o e => by
  by_cases c : b = D
  · rw [c, show hide D H D = none from if_pos rfl] at e
    cases e
  · rw [hide_ne c] at e ⊢
    exact s b o c e
def spLPlays (K : PySem.W.Frag) (n : Nat) : Sp := fun vs H Q _ => ∃ (a d : Addr) (ns : List Int) (low m : Nat) (i j : Int) (kvs : List (List Key × V)), vs = [.ref a, .int i, .int j, .ref d] ∧ i = (low : Int) ∧ j = ((low + m : Nat) : Int) ∧
  SqL K H a (ns.map V.int) ∧ H d = some (.dT kvs) ∧ Worths ns kvs ∧ ns.length ≤ 12 ∧ low + m ≤ ns.length ∧ m < n ∧
  ∀ H' p xs, Same H H' → H p = none → H' p = some (.lst xs) → Lsts H' xs (plays ns m low) → Q (.ref p) H'
def spLLed (K : PySem.W.Frag) : Sp := fun vs H Q _ => ∃ (r a : Addr) (ns : List Int) (bs : List Bool), vs = [.ref r, .ref a] ∧ SqL K H r (ns.map V.int) ∧ SqL K H a (sidesV bs) ∧ bs.length ≤ ns.length ∧
  ∀ H' p l, Same H H' → H p = none → H l = none → H' p = some (.tup [.int (ledR ns ns.length 0 bs).1, .int (ledR ns ns.length 0 bs).2, .ref l]) → H' l = some (.lst ((stretch ns (ledLow 0 bs) (ns.length - bs.length)).map V.int)) → Q (.ref p) H'
def spLGreedy (K : PySem.W.Frag) : Sp := fun vs H Q _ => ∃ (r : Addr) (ns : List Int), vs = [.ref r] ∧ SqL K H r (ns.map V.int) ∧ ns.length ≤ 12 ∧
  ∀ H' p, Same H H' → H p = none → H' p = some (.lst (sidesV (greedyV ns ns.length 0))) → Q (.ref p) H'
theorem pop_first {ns : List Int} {low m : Nat} (h : low + (m + 1) ≤ ns.length) : ((stretch ns low (m + 1)).map V.int).eraseIdx 0 = (stretch ns (low + 1) m).map V.int ∧ ((stretch ns low (m + 1)).map V.int)[0]? = some (.int (ns.getD low 0)) := by
  rw [stretch_first h]
  exact ⟨rfl, rfl⟩
theorem pop_last {ns : List Int} {low m : Nat} (h : low + (m + 1) ≤ ns.length) : ((stretch ns low (m + 1)).map V.int).eraseIdx m = (stretch ns low m).map V.int ∧ ((stretch ns low (m + 1)).map V.int)[m]? = some (.int (ns.getD (low + m) 0)) := by
  have hl : (stretch ns low m).length = m := stretch_len (by omega)
  rw [stretch_last h, List.map_append]
  constructor
  · rw [List.eraseIdx_append_of_length_le (by rw [List.length_map]; omega), List.length_map, hl, Nat.sub_self]
    simp
  · rw [List.getElem?_append_right (by rw [List.length_map]; omega), List.length_map, hl, Nat.sub_self]
    rfl
theorem cut_tail (x : V) (xs : List V) : cutV (x :: xs) (some 1) none = xs := by
  unfold cutV
  rw [show HT.sIx (x :: xs).length 0 (some 1) = min 1 (x :: xs).length from HT.sIx_nat _ 0 1, HT.sIx_none, List.length_cons, Nat.min_eq_left (by omega)]
  simp
theorem cut_init (xs : List V) (x : V) : cutV (xs ++ [x]) none (some (-1)) = xs := by
  have e : HT.sIx (xs ++ [x]).length (xs ++ [x]).length (some (-1)) = xs.length := by
    unfold HT.sIx
    simp
    try omega
  unfold cutV
  rw [e, HT.sIx_none]
  simp
/-- the walk over a range with a step -/
theorem rgc_of {j c : Int} (h0 : 0 ≤ j) (h1 : j < 1000000) (c0 : 1 ≤ c) (c1 : c < 1000000) : ∃ n : Nat, RgC 0 j c n ∧ ∀ i : Nat, i < n → 0 ≤ (i : Int) * c ∧ (i : Int) * c < j := by
  have e : Builtin.Range.rangeSize 0 j c = (j + c - 1) / c := rangeSize_pos c0 h0
  have q0 : 0 ≤ (j + c - 1) / c := Int.ediv_nonneg (by omega) (by omega)
  have q1 : (j + c - 1) / c ≤ j + c - 1 := Int.ediv_le_self _ (by omega)
  refine ⟨((j + c - 1) / c).toNat, ⟨by omega, by omega, ?_, ?_⟩, fun i hi => ?_⟩
  · unfold Builtin.Range.small
    rw [e]
    generalize (j + c - 1) / c = q at q0 q1
    rw [if_pos (show c > 0 by omega)]
    simp only [Builtin.Range.rangeFitsLong, Bool.and_eq_true, Bool.or_eq_true, decide_eq_true_eq, beq_iff_eq]
    omega
  · rw [e, Int.toNat_of_nonneg q0]
  · exact start_inside c0 h0 (by omega) (by rw [e]; omega)
end RE
/-! heaps as letters: for printed readings -/
namespace RE
open PySem PySem.Spec PyProof.Rows L2
/-- a new object: the heap behind it is a letter -/
@[elab_as_elim] theorem gen_heap {H : Hp} {p : Addr} {o : HO} {G : Hp → Prop} (np : H p = none) (h : ∀ H', Same H H' → H' p = some o → G H') : G (upd H p o) := h _ (same_new np o) upd_same
/-- an object that is changed -/
@[elab_as_elim] theorem gen_put {H : Hp} {p : Addr} {o u : HO} {G : Hp → Prop} (hp : H p = some u) (h : ∀ H', SameBut p H H' → H' p = some o → G H') : G (upd H p o) := h _ (SameBut.put o) upd_same
theorem seqT_same {K : PySem.W.Frag} {H H' : Hp} {a : Addr} {xs : List V} (e : Same H H') (h : SqT K H a xs) : SqT K H' a xs := by
  rcases h with h | h
  · rcases h with h | ⟨o, h⟩
    · exact .inl (.inl (e _ _ h))
    · exact .inl (.inr ⟨o, e _ _ h⟩)
  · exact .inr h
theorem eqv_eq {d e : PyData} (h : SeqAt.shaped d = true) (q : d = e) : PyData.eqv d e = true := by
  subst q
  exact eqv_same h
/-- a op1 b op2 c op3 d -/
def tChain3 (r r' r'' : R2) (ta tb tc td : TE) : TE := fun σ H Q => ta σ H fun x H1 => tb σ H1 fun y H2 => r x y H2 fun z H3 => ∃ k, z = .bl k ∧
  (if k = true then tc σ H3 fun u H4 => r' y u H4 fun z' H5 => ∃ k', z' = .bl k' ∧ (if k' = true then td σ H5 fun u' H6 => r'' u u' H6 Q else Q (.bl false) H5) else Q (.bl false) H3)
section
variable {X : Cx} {a b c d : Expr} {ta tb tc td : TE} {pos : Pos}
theorem pt_chain3 {op op' op'' : CmpOp} {r r' r'' : R2} (ho : OpR X (compareOp op) r) (ho' : OpR X (compareOp op') r') (ho'' : OpR X (compareOp op'') r'') (ha : PE X a ta) (hb : PE X b tb) (hc : PE X c tc) (hd : PE X d td)
    (hm : lastMarks [op, op', op''] [b, c, d] = false := by with_unfolding_all rfl) : PT X (.Compare a [op, op', op''] [b, c, d] pos) (tTest (tChain3 r r' r'' ta tb tc td)) := by
  refine ⟨fun pins s σ H Q I h => ?_⟩
  refine isTrue_chain (thn (ha.run pins s σ H _ I h) fun v s1 ⟨x, H1, I1, r1, q1⟩ => test_link (thn (hb.run pins s1 σ H1 _ I1 q1) fun u s2 ⟨y, H2, I2, r2, q2⟩ =>
    thn (ho pins s2 σ H2 x y v u _ I2 r1 r2 q2) fun d s3 ⟨z, H3, I3, r3, k, e, q3⟩ => ?_)) hm
  subst e
  cases r3
  refine wpAny_truthy_bool ?_
  cases k with
  | false =>
    obtain ⟨k', e', q'⟩ := q3
    cases e'
    exact ite_ff ⟨H3, I3, q'⟩
  | true =>
    refine ite_tt (test_link (thn (hc.run pins s3 σ H3 _ I3 q3) fun w' s4 ⟨z', H4, I4, r4, q4⟩ => thn (ho' pins s4 σ H4 y z' u w' _ I4 r2 r4 q4) fun d' s5 ⟨z2, H5, I5, r5, k2, e2, q5⟩ => ?_))
    subst e2
    cases r5
    refine wpAny_truthy_bool ?_
    cases k2 with
    | false =>
      obtain ⟨k', e', q'⟩ := q5
      cases e'
      exact ite_ff ⟨H5, I5, q'⟩
    | true =>
      refine ite_tt (test_last (thn (hd.run pins s5 σ H5 _ I5 q5) fun w2 s6 ⟨z3, H6, I6, r6, q6⟩ => thn (ho'' pins s6 σ H6 z' z3 w' w2 _ I6 r4 r6 q6) fun d2 s7 ⟨z4, H7, I7, r7, k3, e3, q7⟩ => ?_))
      subst e3
      cases r7
      exact wpAny_truthy_bool ⟨H7, I7, q7⟩
end
theorem lex2 (a b c d : Int) : Ob.lexAt (fun j => decide (([a, b] : List Int).getD j 0 = ([c, d] : List Int).getD j 0)) (fun j => decide (([a, b] : List Int).getD j 0 ≤ ([c, d] : List Int).getD j 0)) (decide (([a, b] : List Int).length ≤ ([c, d] : List Int).length)) 0 (min ([a, b] : List Int).length ([c, d] : List Int).length) = (if a = c then decide (b ≤ d) else decide (a ≤ c)) := by
  show (if decide (a = c) = true then (if decide (b = d) = true then true else decide (b ≤ d)) else decide (a ≤ c)) = _
  by_cases h : a = c
  · rw [if_pos h, if_pos (decide_eq_true h)]
    by_cases h2 : b = d
    · rw [if_pos (decide_eq_true h2)]
      exact (decide_eq_true (by omega)).symm
    · rw [if_neg (by simpa using h2)]
  · rw [if_neg h, if_neg (by simpa using h)]
/-- what isinstance asks of an own class -/
structure OwnTy (K : PySem.W.Frag) (C : Addr) : Prop where
  ha : PySem.W.findIn K (.ref C) "__class__" = some (some (.builtin "object.__class__"))
  hn : PySem.W.specialIn K (.builtin "object.__class__") "__get__" = some (some (.builtin "getset_descriptor.__get__"))
  htk : PySem.W.takesIn K (.builtin "object.__class__") = some true
  hm : PySem.W.mroIn K C (.type "object") = some true
theorem ty_ins {K : PySem.W.Frag} {H : Hp} {a C dx : Addr} {fs : List (Str × V)} (e : H a = some (.ins C dx fs)) (cl : Cls K C) (o : OwnTy K C) : TyX K H (.ref a) (.ref C) := .base (.ins e cl o.ha o.hn o.htk o.hm)
/-- a new instance -/
theorem same_make {H : Hp} {x dx C : Addr} (nx : H x = none) (nd : H dx = none) : Same H (upd (upd H dx (.own x)) x (.ins C dx [])) := fun b o e => by
  rw [upd_ne (ne_of_none e nx), upd_ne (ne_of_none e nd)]
  exact e
/-- o.m(e, ..), o of one of two classes -/
def tMeth2 (C C' : Addr) (m : Str) (sp sp' : Sp) (E : XK) (ta : TE) (t : TA) : TE := fun σ H Q => ta σ H fun x H1 => ∃ a dx fs, x = .ref a ∧ fs.lookup m = none ∧
  ((H1 a = some (.ins C dx fs) ∧ t σ H1 fun vs H2 => sp (x :: (vs ++ [])) H2 Q E) ∨ (H1 a = some (.ins C' dx fs) ∧ t σ H1 fun vs H2 => sp' (x :: (vs ++ [])) H2 Q E))
section
variable {X : Cx} {o e : Expr} {es : List Expr} {ta : TE} {t : TA} {pos apos : Pos} {m : Str} {C C' f f' : Addr} {fd fd' : FuncData} {ps : List Str} {sp sp' : Sp} {k : Nat} {CX : L2.CXT} {E : XK}
theorem pe_meth2 {pl : Sem Bool} (he : PE X o ta) (c : Cls X.K C) (hm : Meth X.K C m f) (F : FnOk X.prog X.w X.K X.mg X.base CX k f fd ps sp) (hb : Binds X.K fd ps []) (c' : Cls X.K C') (hm' : Meth X.K C' m f') (F' : FnOk X.prog X.w X.K X.mg X.base CX k f' fd' ps sp') (hb' : Binds X.K fd' ps [])
    (hr : Room k X.A) (hx : Passes CX X E) (ha : PA X (e :: es) t)
    (hst : starEach (e :: es) X.env = (false, eval e X.env) :: starEach es X.env := by rfl) (hpl : (backTo pos (starEach es X.env)).any (·.1) = false := by rfl)
    (ht : eval (.Call (.Attribute o m apos) (e :: es) [] pos) X.env = (do
      let ov ← eval o X.env
      standAt apos.atName
      let (f, first) ← holding [ov] (getMethod ov m pl)
      callWith pos f first (backTo pos (starEach (e :: es) X.env)) (backToKw pos (keywordEach [] X.env))) := by rfl) :
    PE X (.Call (.Attribute o m apos) (e :: es) [] pos) (tMeth2 C C' m sp sp' E ta t) := by
  refine ⟨fun pins s σ H Q I h => ?_⟩
  refine PySem.W.methodCall_KW (pl := pl) (thn (he.run pins s σ H _ I h) fun u s1 ⟨x, H1, I1, rx, a, dx, fs, ex, l, q⟩ => ?_) ht
  subst ex
  obtain rfl : u = Value.ref a := rx
  rcases q with ⟨ea, q⟩ | ⟨ea, q⟩
  · refine getmeth_ok I1 ea c hm l ?_
    refine PySem.W.callWith_K (first := [.ref a]) (h₀ := X.base) I.ok.mod.kin hm.kp (thn (ha.run pos pins s1 σ H1 _ I1 q) fun us s2 ⟨vs, H2, I2, r, q2⟩ => ⟨I2.kIn, ?_⟩) hst hpl
    exact run_fn (us := .ref a :: us) (vs := .ref a :: vs) (dvs := []) F hr hb .nil hx I2 (.cons rfl r) q2
  · refine getmeth_ok I1 ea c' hm' l ?_
    refine PySem.W.callWith_K (first := [.ref a]) (h₀ := X.base) I.ok.mod.kin hm'.kp (thn (ha.run pos pins s1 σ H1 _ I1 q) fun us s2 ⟨vs, H2, I2, r, q2⟩ => ⟨I2.kIn, ?_⟩) hst hpl
    exact run_fn (us := .ref a :: us) (vs := .ref a :: vs) (dvs := []) F' hr hb' .nil hx I2 (.cons rfl r) q2
end
theorem not_t {b : Bool} (h : b = true) : (!b) = false := by rw [h]; rfl
theorem not_f {b : Bool} (h : b = false) : (!b) = true := by rw [h]; rfl
theorem isb {a b c d : Bool} (h : a = c) (h2 : decide (c = b) = d) : decide (a = b) = d := by rw [h]; exact h2
end RE
/-! sorted(xs) of data that stand in order -/
namespace RE
open PySem PySem.Spec PyProof.Rows L2
theorem each_of_vals {xs : List V} {us : List Value} (r : Vals xs us) : PySem.W.EachIs (fun (u : Value) (x : V) => RelV x u) us xs := by
  induction r with
  | nil => exact .nil
  | cons h _ ih => exact .cons h ih
theorem vals_of_each {xs : List V} {us : List Value} (r : PySem.W.EachIs (fun (u : Value) (x : V) => RelV x u) us xs) : Vals xs us := by
  induction r with
  | nil => exact .nil
  | cons h _ ih => exact .cons h ih
/-- sorted of a list that is in order: a new list of the same -/
def rSortedD (K : PySem.W.Frag) : List V → Hp → VK → Prop := fun vs H Q => ∃ (a : Addr) (xs : List V) (k : V → PyData), vs = [V.ref a] ∧ SqL K H a xs ∧ (∀ x ∈ xs, Dp K H x (k x)) ∧ PySem.W.AllAlike (xs.map k) ∧ PySem.W.Sortable (xs.map k) ∧ (∀ x ∈ xs, (k x).depth ≤ 8) ∧
  xs.Pairwise (fun x y => PySem.W.dataLe false k x y = true) ∧ ∀ p, H p = none → Q (.ref p) (upd H p (.lst xs))
theorem each_reads {X : Cx} {pins : List (Addr × Obj)} {σ : L2.St} {H : Hp} {s : Shared} {k : V → PyData} (I : Inv X pins σ H s) : ∀ {xs : List V} {us : List Value}, Vals xs us → (∀ x ∈ xs, Dp X.K H x (k x)) → PySem.W.EachIs (fun (u : Value) (x : V) => ∃ as, Reads s.heap u (k x) as) us xs := by
  intro xs us r
  induction r with
  | nil => exact fun _ => .nil
  | cons h _ ih => exact fun hd => .cons (Dp.reads I _ _ _ (hd _ List.mem_cons_self) h) (ih fun x hx => hd x (List.mem_cons_of_mem _ hx))
theorem cr_sortedD {X : Cx} (hu : X.A.units + 64 < cLine) : CallR X (.builtin "sorted") (rSortedD X.K) := by
  intro pins s σ H vs us Q I r h
  obtain ⟨a, xs, k, rfl, hs, hd, hal, hso, hdep, hord, q⟩ := h
  obtain ⟨its, rv, hl, hz⟩ := I.list hs
  obtain ⟨u, rfl, ru⟩ := vals1 r
  obtain rfl : u = Value.ref a := ru
  refine PySem.W.sorted_data (enc := k) hl.isList (each_of_vals rv) (each_reads I rv hd) hal hso (by first | exact hz | (rw [rv.length]; exact hz)) (fun x hx => by have := hdep x hx; omega) fun out hlen hout => ?_
  have es : xs.mergeSort (PySem.W.dataLe false k) = xs := by
    first
    | exact List.mergeSort_of_pairwise hord
    | exact List.mergeSort_of_sorted hord
  rw [es] at hout
  obtain ⟨n, hn⟩ := sortedAll_at s.heap its out.toArray
  refine ⟨.ref (s.heap.objs.size + 1), upd H (s.heap.objs.size + 1) (.lst xs), I.laid (t' := s.toks) (fun b o e => sortedAll_old e) (Nat.le_succ _) ⟨hz, out, n, vals_of_each hout, hn⟩, rfl, q _ (I.hok.fresh (Nat.le_succ _))⟩
end RE
/-! functions as values: lambdas made, handed on, called -/
namespace RE
open PySem PySem.Spec PyProof.Rows L2 LamX NdefX
/-- the object at f is the lambda with the words of F and the body e -/
def LamO (f : Addr) (F : NF) (e : Expr) : HO := .ext fun h => ∃ pm ctv : Value, h.get? f = some (PySem.W.kla_obj "<lambda>" F.qual F.params e F.scope F.cl pm F.c ctv)
theorem lamO_at {P : Program} {w : World} {H : Hp} {h : Heap} {f : Addr} {F : NF} {e : Expr} (hok : HOk P w H h) (q : H f = some (LamO f F e)) : ∃ pm ctv : Value, h.get? f = some (PySem.W.kla_obj "<lambda>" F.qual F.params e F.scope F.cl pm F.c ctv) := by
  obtain ⟨z, _, _⟩ := hok f _ q
  exact z
section
variable {X : Cx} {pins : List (Addr × Obj)} {σ : L2.St} {H : Hp} {s : Shared}
/-- the lambda's object, laid at the heap's end, is known -/
theorem lam_laid {F : NF} {e : Expr} {tk : Nat} {pm ctv : Value} (I : Inv X pins σ H s) :
    Inv X pins σ (upd H s.heap.objs.size (LamO s.heap.objs.size F e)) { s with heap := s.heap.push (PySem.W.kla_obj "<lambda>" F.qual F.params e F.scope F.cl pm F.c ctv), toks := tk } := by
  have q : (s.heap.push (PySem.W.kla_obj "<lambda>" F.qual F.params e F.scope F.cl pm F.c ctv)).get? s.heap.objs.size = some (PySem.W.kla_obj "<lambda>" F.qual F.params e F.scope F.cl pm F.c ctv) := Heap.get?_push_size _ rfl
  exact I.laid (a := s.heap.objs.size) (fun _ _ z => Heap.get?_push_of_some _ z) (Nat.le_refl _) ⟨⟨pm, ctv, q⟩, ⟨_, q⟩, fun _ _ ⟨a, b, z⟩ st => ⟨a, b, st _ z⟩⟩
/-- a table that tells one more code object -/
theorem tabs_more {T : List (Addr × Str)} {P c' : Addr} {q : Str} {ps : Array Value} {pos : Pos} (hT : Tabs T H) (hP : H P = some (.tbl ps)) (nC : H c' = none) (hm : (P, q) ∈ T) (hu : ∀ p ∈ T, p.1 = P → p.2 = q) :
    Tabs T (upd (upd H P (.tbl (ps ++ #[rawInt pos.line, rawInt pos.col, .ref c']))) c' (CodeO c' q)) ∧ ExtN H (upd (upd H P (.tbl (ps ++ #[rawInt pos.line, rawInt pos.col, .ref c']))) c' (CodeO c' q)) := by
  have ext : ExtN H (upd (upd H P (.tbl (ps ++ #[rawInt pos.line, rawInt pos.col, .ref c']))) c' (CodeO c' q)) := by
    intro b o hb no
    have n1 : b ≠ c' := ne_of_none hb nC
    have n2 : b ≠ P := fun z => by
      subst z
      rw [hP] at hb
      exact no ps (Option.some.inj hb).symm
    rw [upd_ne n1, upd_ne n2]
    exact hb
  refine ⟨?_, ext⟩
  obtain ⟨ps0, hP0, ht0, ha0⟩ := hT _ hm
  have e0 : ps0 = ps := by
    have z := hP0.symm.trans hP
    have z2 := Option.some.inj z
    injection z2
  subst e0
  have el : (ps0 ++ #[rawInt pos.line, rawInt pos.col, .ref c']).toList = ps0.toList ++ [rawInt pos.line, rawInt pos.col, .ref c'] := by simp
  rintro ⟨P', q'⟩ hp
  by_cases hb : P' = P
  · have eq := hu _ hp hb
    subst hb
    have eq' : q' = q := eq
    subst eq'
    refine ⟨_, (upd_ne (ne_of_none hP nC)).trans upd_same, ?_, ?_⟩
    · rw [el]
      exact PySem.TriplesOk_snoc _ _ _ _ ht0
    · intro p' cv hcv
      rw [el] at hcv
      rcases among_app _ ht0 hcv with z | z
      · obtain ⟨c0, z1, z2⟩ := ha0 p' cv z
        exact ⟨c0, z1, ext _ _ z2 codeO_ne⟩
      · exact ⟨c', z, upd_same⟩
  · obtain ⟨ps', a1, a2, a3⟩ := hT _ hp
    refine ⟨ps', ?_, a2, ?_⟩
    · rw [upd_ne (ne_of_none a1 nC), upd_ne hb]
      exact a1
    · intro p' cv hcv
      obtain ⟨c0, z1, z2⟩ := a3 p' cv hcv
      exact ⟨c0, z1, ext _ _ z2 codeO_ne⟩
end
def freeB (sc scope : Scope) : Bool := scope.names.all fun y => !decide (y.2 = .free) || (decide (sc.names.lookup y.1 = some .cell) || decide (sc.names.lookup y.1 = some .free))
theorem free_by {sc scope : Scope} (h : freeB sc scope = true) : ∀ y ∈ scope.names, y.2 = .free → sc.names.lookup y.1 = some .cell ∨ sc.names.lookup y.1 = some .free := by
  intro y hy e
  have q := List.all_eq_true.mp h y hy
  rw [decide_eq_true e] at q
  rcases Bool.or_eq_true_iff.mp q with z | z
  · cases z
  · exact (Bool.or_eq_true_iff.mp z).elim (fun z => .inl (of_decide_eq_true z)) (fun z => .inr (of_decide_eq_true z))
/-- a lambda as a value: a new function object -/
def tLamV (T : List (Addr × Str)) (e : Expr) (mk : Addr → NF) : TE := fun _ H Q => Tabs T H ∧ ∀ (f c' : Addr) (H1 : Hp), ExtN H H1 → (∀ b, H1 b = none → H b = none) → Tabs T H1 → H f = none → f ≠ c' → H1 f = some (LamO f (mk c') e) → H1 c' = some (CodeO c' (mk c').qual) → Q (.ref f) H1
section
variable {X : Cx}
theorem pe_lam {T : List (Addr × Str)} {c P : Addr} {params : Arguments} {body : Expr} {scope : Scope} {pos : Pos} (TB : TabB X.base X.mg c P) (hcode : X.env.code = .ref c) (hm : (P, X.env.qual ++ "<lambda>") ∈ T) (hu : ∀ p ∈ T, p.1 = P → p.2 = X.env.qual ++ "<lambda>")
    (hfree : ∀ y ∈ scope.names, y.2 = .free → X.env.scope.names.lookup y.1 = some .cell ∨ X.env.scope.names.lookup y.1 = some .free) (hdef : defaultsOf params X.env = ([], []) := by rfl) :
    PE X (.Lambda params body scope pos) (tLamV T body fun c' => ⟨"<lambda>", X.env.qual ++ "<lambda>", params, [], scope, cloFrom X.env.cells scope.names [], c'⟩) := by
  refine ⟨fun pins s σ H Q I ⟨hT, h⟩ => PySem.W.kla_eval hdef ?_⟩
  have hcl : ∀ y ∈ scope.names, y.2 = .free → ∃ c, X.env.cells.lookup y.1 = some c := fun y hy ey => (hfree y hy ey).elim (fun z => I.ok.has _ (.inl z)) fun z => I.ok.has _ (.inr z)
  obtain ⟨ps, hP, ht, ha⟩ := hT _ hm
  have bP : s.heap.BuiltinsAt X.mg P := TB.bm.keeps I.bk
  have gP : s.heap.get? P = some { cls := .none, data := .fields ps } := I.hok P _ hP
  cases hc : codeAmong pos ps.toList with
  | some cv =>
    obtain ⟨c', ec, hco⟩ := ha pos cv hc
    subst ec
    refine PySem.W.kla_makeFunctionHit (mg := X.mg) (c := c) (P := P) (ps := ps) (closure_ok hcl) I.ok.glob (I.mod.glob.keeps I.bk) hcode (TB.code.keeps I.bk) gP ht hc bP fun ctv h' tk hx hsz => ?_
    have I1 : Inv X pins σ H { s with heap := h', toks := tk } := I.kept hx
    have nF := I1.hok.fresh (Nat.le_refl _)
    have ext : Same H (upd H h'.objs.size (LamO h'.objs.size ⟨"<lambda>", X.env.qual ++ "<lambda>", params, [], scope, cloFrom X.env.cells scope.names [], c'⟩ body)) := same_new nF _
    exact ⟨.ref h'.objs.size, _, lam_laid (tk := tk) (F := ⟨"<lambda>", X.env.qual ++ "<lambda>", params, [], scope, cloFrom X.env.cells scope.names [], c'⟩) I1, rfl, h _ c' _ (ExtN.of ext) (fun b z => upd_none z) (hT.ext ext) nF (ne_of_none hco nF).symm upd_same (ext _ _ hco)⟩
  | none =>
    refine PySem.W.kla_makeFunction (mg := X.mg) (c := c) (P := P) (ps := ps) (closure_ok hcl) I.ok.glob (I.mod.glob.keeps I.bk) hcode (TB.code.keeps I.bk) gP ht hc TB.gP bP fun c' ctv h' tk hx hge hlt hrec htb => ?_
    obtain ⟨c2, oc, vs, t, e2, hoc, hd, hv⟩ := hrec
    cases e2
    have nC : H c' = none := I.hok.fresh hge
    have I1 := inv_table (t' := tk) (more := #[rawInt pos.line, rawInt pos.col, .ref c']) (h' := h') I hP (fun b o hb z => hx b o hb z) htb hge ⟨oc, vs, t, hoc, hd, hv⟩
    obtain ⟨T1, ext1⟩ := tabs_more (pos := pos) hT hP nC hm hu
    have nF := I1.hok.fresh (Nat.le_refl _)
    have ext2 := same_new nF (LamO h'.objs.size ⟨"<lambda>", X.env.qual ++ "<lambda>", params, [], scope, cloFrom X.env.cells scope.names [], c'⟩ body)
    exact ⟨.ref h'.objs.size, _, lam_laid (tk := tk) (F := ⟨"<lambda>", X.env.qual ++ "<lambda>", params, [], scope, cloFrom X.env.cells scope.names [], c'⟩) I1, rfl, h _ c' _ (ext1.trans (ExtN.of ext2)) (fun b z => upd_none (upd_none (upd_none z))) (T1.ext ext2) (I.hok.fresh (Nat.le_trans hge (Nat.le_of_lt hlt))) (Nat.ne_of_gt hlt) upd_same (ext2 _ _ upd_same)⟩
end
/-! ### what may be called -/
/-- f keeps the promise sp wherever the objects of D stand -/
structure Callable (P : Program) (w : World) (K : PySem.W.Frag) (mg : Str → Option Value) (base : Heap) (k : Nat) (f : Addr) (D : Hp) (sp : Sp) : Prop where
  at_ : ∀ (h : Heap) (H : Hp), K.In h → HOk P w H h → Same D H → PySem.W.FnAt f h
  run : ∀ (A : Around) (outer : List Env) (s : Shared) (H : Hp) (us : List Value) (vs : List V) (Q : VK) (E : XK), Room k A → Env0 P w K mg base A outer s H → Same D H → Vals vs us → sp vs H Q E →
    codeAny (model P w) A (.call (.ref f) ⟨us, []⟩) (CR (L2.CX P w) outer P w H s Q E) s
theorem Callable.mono {P : Program} {w : World} {K : PySem.W.Frag} {mg : Str → Option Value} {base : Heap} {j k : Nat} {f : Addr} {D : Hp} {sp : Sp} (c : Callable P w K mg base j f D sp) (h : j ≤ k) : Callable P w K mg base k f D sp :=
  ⟨c.at_, fun A outer s H us vs Q E hr => c.run A outer s H us vs Q E (hr.mono h)⟩
def noH : Hp := fun _ => none
theorem noH_sub (H : Hp) : Same noH H := fun _ _ e => by cases e
/-- a def of the module -/
theorem callable_fn {P : Program} {w : World} {K : PySem.W.Frag} {mg : Str → Option Value} {base : Heap} {k : Nat} {f : Addr} {fd : FuncData} {ps : List Str} {sp : Sp} {name qual : Str} {st : Stmt} (F : FnOk P w K mg base (L2.CX P w) k f fd ps sp) (G : L2.Fun K name qual st f fd) (hb : Binds K fd ps []) : Callable P w K mg base k f noH sp := by
  refine ⟨fun h H hK _ _ => ?_, fun A outer s H us vs Q E hr e0 _ r q => ?_⟩
  · obtain ⟨oc, od, kV, doc, pm, an, cdv, ct, osl, _, e, _⟩ := G.ex
    exact ⟨oc, od, _, osl, hK _ _ e⟩
  · have KX : K.In s.heap := e0.mod.kin.keeps fun b o e => (e0.bs b o e).1
    have hl : us.length = ps.length := by rw [← r.length]; exact F.len _ _ _ _ q
    have b := hb s us KX (by rw [List.append_nil]; exact hl)
    rw [List.append_nil] at b
    exact F.run A outer s H ⟨us, []⟩ us vs Q E hr e0 b r q
/-- the objects that a lambda without captured names needs -/
def lamD (f : Addr) (F : NF) (e : Expr) : Hp := upd (upd noH f (LamO f F e)) F.c (CodeO F.c F.qual)
theorem lamD_sub {f : Addr} {F : NF} {e : Expr} {H : Hp} (h1 : H f = some (LamO f F e)) (h2 : H F.c = some (CodeO F.c F.qual)) : Same (lamD f F e) H := by
  intro b o q
  unfold lamD at q
  by_cases hb : b = F.c
  · subst hb
    rw [upd_same] at q
    rw [h2]
    exact q
  · rw [upd_ne hb] at q
    by_cases hf : b = f
    · subst hf
      rw [upd_same] at q
      rw [h1]
      exact q
    · rw [upd_ne hf] at q
      cases q
theorem lamO_ne_code {f c : Addr} {F : NF} {e : Expr} {H : Hp} {q : Str} (h1 : H f = some (LamO f F e)) (h2 : H c = some (CodeO c q)) {P : Program} {w : World} {h : Heap} (hok : HOk P w H h) : f ≠ c := fun z => by
  subst z
  obtain ⟨pm, ctv, o1⟩ := lamO_at hok h1
  obtain ⟨⟨oc, vs, t, o2, d2, _⟩, _, _⟩ := hok f _ h2
  rw [o1] at o2
  cases o2
  cases d2
/-- a lambda by its body -/
theorem callable_lam {P : Program} {w : World} {K : PySem.W.Frag} {mg : Str → Option Value} {base : Heap} {k : Nat} {f : Addr} {F : NF} {e : Expr} {N ps : List Str} {sp : Sp} (S : NScope N ps [] F.scope) (hcl : F.cl = []) (hfc : f ≠ F.c)
    (hb : ∀ (pm ctv : Value) (us : List Value), us.length = ps.length → bindArgs (PySem.W.kla_fn "<lambda>" F.qual F.params e F.scope F.cl pm (.ref F.c) ctv) ⟨us, []⟩ = pure (ps.zip us)) (len : ∀ vs H Q E, sp vs H Q E → vs.length = ps.length)
    (hbody : ∀ (A : Around) (outer : List Env) (s : Shared) (H : Hp) (vs : List V) (Q : VK) (E : XK), Room k (A.deeper (envF F f s.heap.objs.size)) → sp vs H Q E →
      ∃ t, PE (ncx (L2.CX P w) P w K mg base N F f A outer s H E) e t ∧ t (startF N vs []) H Q) : Callable P w K mg base (k + 1) f (lamD f F e) sp := by
  have d1 : ∀ {H : Hp}, Same (lamD f F e) H → H f = some (LamO f F e) := fun {H} q => q _ _ (by unfold lamD; rw [upd_ne hfc, upd_same])
  have d2 : ∀ {H : Hp}, Same (lamD f F e) H → H F.c = some (CodeO F.c F.qual) := fun {H} q => q _ _ (by unfold lamD; rw [upd_same])
  refine ⟨fun h H _ hok hs => ?_, fun A outer s H us vs Q E hr e0 hs r q => ?_⟩
  · obtain ⟨pm, ctv, z⟩ := lamO_at hok (d1 hs)
    exact ⟨_, _, _, _, z⟩
  · have hl := len _ _ _ _ q
    obtain ⟨pm, ctv, ho⟩ := lamO_at e0.hok (d1 hs)
    have lim : s.heap.NoLimit := e0.mod.nolimit.keeps fun b o z => (e0.bs b o z).1
    refine PySem.W.kla_callFunE hr.depth ho rfl S.co S.gen rfl (codeO_at e0.hok (d2 hs)) ?_
    rw [hb pm ctv us (by rw [← r.length]; exact hl)]
    refine wpAny_pure (wpAny_newFunctionEnv S.nocell (fun ⟨n, _⟩ hy => S.par n (List.of_mem_zip hy).1) (fun h₁ hns hsb => ⟨lim.fresh _ hsb, ?_⟩) S.kind)
    show codeAny _ _ (.expr e (envF F f s.heap.objs.size)) _ _
    have kp : ∀ b o, s.heap.get? b = some o → h₁.get? b = some o := fun b o z => hsb.extBut b o (Nat.ne_of_lt (Heap.lt_size z)) (Heap.get?_push_of_some _ z)
    obtain ⟨t, ht, hq⟩ := hbody A outer s H vs Q E (hr.deeper _) q
    have C : CellsAt F.cl [] [] s.heap H := by
      rw [hcl]
      exact ⟨rfl, fun y c z => (nomatch z), fun x y c z => (nomatch z), fun i y z => by simp at z⟩
    have I : Inv (ncx (L2.CX P w) P w K mg base N F f A outer s H E) [] (startF N vs []) H { s with heap := h₁, toks := s.toks + (ps.zip us).length } := inv_startN S hr.hd e0 hl r C hns kp
    refine PySem.W.kla_codeExpr (wpAny_mono (ht.run [] _ (startF N vs []) H Q I hq) (fun v s' hv => ?_) fun _ _ z => z)
    obtain ⟨v', H', J, rv, q'⟩ := hv
    exact ⟨v', H', J.os, J.bare, J.base, J.hok, rv, q'⟩
/-! ### calls of a name that holds a function -/
section
variable {X : Cx} {k i : Nat} {E : L2.St → XK} {x : Str} {p pos : Pos} {e : Expr} {es : List Expr} {t : TA}
theorem run_callable {pins : List (Addr × Obj)} {σ : L2.St} {H D : Hp} {s : Shared} {f : Addr} {sp : Sp} {Q : VK} {us : List Value} {vs : List V} (c : Callable X.prog X.w X.K X.mg X.base k f D sp) (hr : Room k X.A) (hx : PassesAt (L2.CX X.prog X.w) X σ (E σ)) (I : Inv X pins σ H s) (hD : Same D H) (r : Vals vs us) (h : sp vs H Q (E σ)) :
    wpAny (model X.prog X.w) X.A (call (.ref f) us) (EP X pins σ Q) X.xe s := by
  refine wpAny_call (codeAny_mono (c.run X.A X.stack s H us vs Q (E σ) hr I.env0 hD r h) fun z s' hq => ?_)
  cases z with
  | error er => exact hx pins H s er s' I hq
  | ok fl =>
    cases fl with
    | ret u => exact I.after hq
    | next => exact hq.elim
    | brk => exact hq.elim
    | cont => exact hq.elim
/-- x(..): what x holds may be called -/
def tCallF (P : Program) (w : World) (K : PySem.W.Frag) (mg : Str → Option Value) (base : Heap) (k i : Nat) (E : L2.St → XK) (t : TA) : TE := fun σ H Q => ∃ (f : Addr) (D : Hp) (sp : Sp), σ[i]? = some (some (.ref f)) ∧ Callable P w K mg base k f D sp ∧ Same D H ∧ t σ H fun vs H1 => Same D H1 ∧ sp vs H1 Q (E σ)
theorem pe_callF (hr : Room k X.A) (hN : X.N[i]? = some x) (hv : Vis X.env.scope x) (hx : ∀ σ, PassesAt (L2.CX X.prog X.w) X σ (E σ)) (ha : PA X (e :: es) t) (hdb : (x == ("__debug__" : Str)) = false := by decide) (hcd : (x == ("__classdict__" : Str)) = false := by decide)
    (he : starEach (e :: es) X.env = (false, eval e X.env) :: starEach es X.env := by rfl) (hpl : (backTo pos (starEach es X.env)).any (·.1) = false := by rfl) :
    PE X (.Call (.Name x p) (e :: es) [] pos) (tCallF X.prog X.w X.K X.mg X.base k i E t) := by
  refine ⟨fun pins s σ H Q I ⟨f, D, sp, hs, c, hD, ht⟩ => ?_⟩
  refine wpAny_Call_Name_kw (thn ((pe_var (pos := p) hN hv hdb hcd).run pins s σ H (fun v H1 => v = .ref f ∧ H1 = H) I ⟨.ref f, hs, rfl, rfl⟩) fun u s1 ⟨v, H1, I1, r1, q1⟩ => ?_)
  obtain ⟨rfl, rfl⟩ := q1
  cases r1
  refine PySem.W.callWith_F (c.at_ _ _ I1.kIn I1.hok hD) (thn (ha.run pos pins s1 σ _ _ I1 ht) fun us s2 ⟨vs, H2, I2, r, hD2, q⟩ => ⟨c.at_ _ _ I2.kIn I2.hok hD2, ?_⟩) he hpl
  exact run_callable c hr (hx σ) I2 hD2 r q
/-- x() -/
def tCallF0 (P : Program) (w : World) (K : PySem.W.Frag) (mg : Str → Option Value) (base : Heap) (k i : Nat) (E : L2.St → XK) : TE := fun σ H Q => ∃ (f : Addr) (D : Hp) (sp : Sp), σ[i]? = some (some (.ref f)) ∧ Callable P w K mg base k f D sp ∧ Same D H ∧ sp [] H Q (E σ)
theorem pe_callF0 (hr : Room k X.A) (hN : X.N[i]? = some x) (hv : Vis X.env.scope x) (hx : ∀ σ, PassesAt (L2.CX X.prog X.w) X σ (E σ)) (hdb : (x == ("__debug__" : Str)) = false := by decide) (hcd : (x == ("__classdict__" : Str)) = false := by decide) :
    PE X (.Call (.Name x p) [] [] pos) (tCallF0 X.prog X.w X.K X.mg X.base k i E) := by
  refine ⟨fun pins s σ H Q I ⟨f, D, sp, hs, c, hD, ht⟩ => ?_⟩
  refine wpAny_Call_Name_kw (thn ((pe_var (pos := p) hN hv hdb hcd).run pins s σ H (fun v H1 => v = .ref f ∧ H1 = H) I ⟨.ref f, hs, rfl, rfl⟩) fun u s1 ⟨v, H1, I1, r1, q1⟩ => ?_)
  obtain ⟨rfl, rfl⟩ := q1
  cases r1
  exact PySem.W.callWith_F0 (c.at_ _ _ I1.kIn I1.hok hD) (run_callable c hr (hx σ) I1 hD .nil ht)
end
/-! ### a def whose code object is known -/
structure FunC (K : PySem.W.Frag) (x qual : Str) (st : Stmt) (f : Addr) (fd : FuncData) (c : Addr) : Prop where
  ex : ∃ (oc : Value) (od : Option Addr) (kV doc pm : Value) (an : Option Addr) (ct : Value) (osl : Array (Option Value)), fd = PySem.W.fnOf x qual (defArgs st) (defBody st) (defScope st) .none kV doc pm an (.ref c) ct ∧ K.lookup f = some ⟨oc, od, .func fd, osl⟩ ∧ PySem.W.codeIn K (.ref c) qual = true
theorem FunC.ok {P : Program} {w : World} {K : PySem.W.Frag} {mg : Str → Option Value} {base : Heap} {x qual : Str} {st : Stmt} {f c : Addr} {fd : FuncData} {N ps : List Str} {k : Nat} {sp : Sp} (F : FunC K x qual st f fd c) (S : FnScope N ps (defScope st)) (len : ∀ vs H Q E, sp vs H Q E → vs.length = ps.length)
    (hb : ∀ (A : Around) (outer : List Env) (s : Shared) (H : Hp) (vs : List V) (Q : VK) (E : XK), Room k (A.deeper (envOfC qual (defScope st) s.heap.objs.size f (.ref c))) → sp vs H Q E →
      ∃ t, PSs (cxOf CX0 P w K mg base N qual (defScope st) f (.ref c) A outer s H E).nox (defBody st) t ∧ t { nx := fun _ H' => Q .non H', rt := Q } (start N vs) H) : FnOk P w K mg base CX0 (k + 1) f fd ps sp := by
  obtain ⟨oc, od, kV, doc, pm, an, ct, osl, rfl, lk, hcd⟩ := F.ex
  exact fn_of lk hcd S len fun A outer s H vs Q E hr hsp => let ⟨t, h, q⟩ := hb A outer s H vs Q E hr hsp; ⟨t, h.nox, q⟩
def rLenK (K : PySem.W.Frag) : List V → Hp → VK → Prop := fun xs H Q => ∃ p ys, xs = [.ref p] ∧ (SqL K H p ys ∨ SqT K H p ys) ∧ Q (.int ys.length) H
theorem call_lenK {X : Cx} : CallR X (.builtin "len") (rLenK X.K) := call_len_seq
theorem extN_lst {H H' : Hp} (e : ExtN H H') {a : Addr} {xs : List V} (h : H a = some (.lst xs)) : H' a = some (.lst xs) := e _ _ h (by intro _ z; cases z)
theorem extN_tup {H H' : Hp} (e : ExtN H H') {a : Addr} {xs : List V} (h : H a = some (.tup xs)) : H' a = some (.tup xs) := e _ _ h (by intro _ z; cases z)
theorem extN_seq {K : PySem.W.Frag} {H H' : Hp} (e : ExtN H H') {a : Addr} {xs : List V} (h : SqL K H a xs) : SqL K H' a xs := by
  rcases h with (h | ⟨o, h⟩) | h
  · exact .inl (.inl (extN_lst e h))
  · exact .inl (.inr ⟨o, e _ _ h (by intro _ z; cases z)⟩)
  · exact .inr h
theorem extN_same {H H' : Hp} (s : Same H H') : ExtN H H' := ExtN.of s
/-- the law, with the tables of its lambdas -/
def spLawT (K : PySem.W.Frag) (T : List (Addr × Str)) : Sp := fun vs H Q _ => ∃ (a : Addr) (ns : List Int), vs = [.ref a] ∧ SqL K H a (ns.map V.int) ∧ ns.length ≤ 63 ∧ (∀ z ∈ ns, z.natAbs < 2 ^ 1048576) ∧ Tabs T H ∧ ∀ H', Q (.bl true) H'
/-! ### what is caught -/
/-- isinstance(error, c), whatever was caught -/
def rIsA (K : PySem.W.Frag) (cls : Value) (d : Option Addr) (a : Addr) : List V → Hp → VK → Prop := fun xs H Q => ∃ (D : Addr) (c : V) (cv : Value) (b : Bool), cls = .ref D ∧ d = none ∧ ExcC K D ∧ xs = [.ref a, c] ∧ ClsV c cv ∧ PySem.W.kitOne K (.ref D) cv = some b ∧ Q (.bl b) H
/-- what is asked: refused by one class alone -/
def spRefused (P : Program) (w : World) (K : PySem.W.Frag) (mg : Str → Option Value) (base : Heap) (k : Nat) (Cs : List Addr) : Sp := fun vs H Q _ => ∃ (f C : Addr) (D : Hp) (sp : Sp) (due : Nat), vs = [.ref f, .int (due : Int)] ∧ Callable P w K mg base k f D sp ∧ Same D H ∧ Cs[due]? = some C ∧
  (∀ H2, Same H H2 → ∀ Q' E', (∀ H', Same H2 H' → E' (.ref C) none H') → sp [] H2 Q' E') ∧ ∀ H', Same H H' → Q (.bl true) H'
theorem call_isA {X : Cx} {a : Addr} {cls : Value} {d : Option Addr} {oe : Obj} {pn : List (Addr × Obj)} (hz : Zc cls d oe) (hf : ∃ vs, oe.data = .fields vs) : CallR (X.suite a ((a, oe) :: pn)) (.builtin "isinstance") (rIsA X.K cls d a) := by
  intro pins s σ H xs us Q I r ⟨D, c, cv, b, e1, e2, C, ex, hc, hk, q⟩
  subst e1 e2
  exact call_isE C hz hf pins s σ H xs us Q I r ⟨c, cv, b, ex, fun u ru => hc.eq ru, hk, q⟩
end RE
/-! a captured cell that is known -/
namespace RE
open PySem PySem.Spec PyProof.Rows L2 LamX NdefX
/-- the object at c is o, a cell -/
def CellO (c : Addr) (o : Obj) : HO := .ext fun h => h.get? c = some o
theorem objOk_swap {P : Program} {w : World} {H H' : Hp} {h : Heap} (ht : ∀ b xs, H b = some (.tup xs) → H' b = some (.tup xs)) (hw : ∀ b x, H b = some (.own x) → H' b = some (.own x)) {a : Addr} : ∀ {o : HO}, ObjOk P w H h a o → ObjOk P w H' h a o := by
  intro o
  induction o with
  | dT kvs =>
    rintro ⟨h1, h2, xs, hp, r⟩
    exact ⟨h1, h2, xs, Paired.mapP hp fun _ _ ⟨e1, e2, e3⟩ => ⟨e1, ht _ _ e2, e3⟩, r⟩
  | ins C dx fs =>
    rintro ⟨h1, r⟩
    exact ⟨hw _ _ h1, r⟩
  | frz ob u ih =>
    rintro ⟨h1, h2⟩
    exact ⟨h1, ih h2⟩
  | _ => exact id
def lessH (H : Hp) (c : Addr) : Hp := fun b => if b = c then none else H b
theorem lessH_ne {H : Hp} {c b : Addr} (n : b ≠ c) : lessH H c b = H b := if_neg n
theorem lessH_eq {H : Hp} {c : Addr} : lessH H c c = none := if_pos rfl
theorem hok_less {P : Program} {w : World} {H : Hp} {h : Heap} {c : Addr} {o : Obj} (hok : HOk P w H h) (hc : H c = some (CellO c o)) : HOk P w (lessH H c) h := by
  intro b u e
  have n : b ≠ c := fun z => by subst z; rw [lessH_eq] at e; cases e
  rw [lessH_ne n] at e
  refine objOk_swap (fun b xs q => ?_) (fun b x q => ?_) (hok b u e)
  · rw [lessH_ne (fun z => by subst z; rw [hc] at q; cases q)]
    exact q
  · rw [lessH_ne (fun z => by subst z; rw [hc] at q; cases q)]
    exact q
theorem hok_put {P : Program} {w : World} {H : Hp} {h : Heap} {c : Addr} {o : Obj} (hok : HOk P w H h) (hc : H c = none) (ho : h.get? c = some o) : HOk P w (upd H c (CellO c o)) h := by
  intro b u e
  by_cases n : b = c
  · subst n
    rw [upd_same] at e
    cases e
    exact ⟨ho, ⟨_, ho⟩, fun _ _ z st => st _ z⟩
  · rw [upd_ne n] at e
    refine objOk_swap (fun b xs q => ?_) (fun b x q => ?_) (hok b u e)
    · rw [upd_ne (ne_of_none q hc)]
      exact q
    · rw [upd_ne (ne_of_none q hc)]
      exact q
theorem un_put {fs : List Addr} {H H' : Hp} {h h' : Heap} {c : Addr} {o : Obj} (u : Un fs [] (lessH H c) H' h h') (hc : H c = some (CellO c o)) (ho : h.get? c = some o) (nf : c ∉ fs) : h'.get? c = some o ∧ H' c = none ∧ Un fs [] H (upd H' c (CellO c o)) h h' := by
  have no : c ∉ ([] : List Addr) := by simp
  have k1 := u.keep c o ho lessH_eq nf no
  have k2 := u.free c o ho lessH_eq no
  have ne : ∀ {b : Addr}, H b = none → b ≠ c := fun {b} q z => by subst z; rw [hc] at q; cases q
  have le : ∀ {b : Addr}, H b = none → lessH H c b = none := fun {b} q => by rw [lessH_ne (ne q)]; exact q
  refine ⟨k1, k2, fun b ob q n => u.keep b ob q (le n), fun b ob q n => u.slot b ob q (le n), fun b ob q n z => ?_, u.there, fun b xs q => ?_, fun b ob v q => ?_, fun b ps q => ?_⟩
  · rw [upd_ne (ne n)]
    exact u.free b ob q (le n) z
  · have n : b ≠ c := fun z => by subst z; rw [hc] at q; cases q
    rw [upd_ne n]
    exact u.tups b xs (by rw [lessH_ne n]; exact q)
  · have n : b ≠ c := fun z => by subst z; rw [hc] at q; cases q
    rw [upd_ne n]
    exact u.frzs b ob v (by rw [lessH_ne n]; exact q)
  · have n : b ≠ c := fun z => by subst z; rw [hc] at q; cases q
    rw [upd_ne n]
    exact u.tbls b ps (by rw [lessH_ne n]; exact q)
theorem un_less {fs : List Addr} {H H' : Hp} {h h' : Heap} {c : Addr} {o : Obj} (u : Un fs [] (upd H c (CellO c o)) H' h h') (hc : H c = none) (ho : h.get? c = some o) (ho' : h'.get? c = some o) (nf : c ∉ fs) : Un fs [] H (lessH H' c) h h' := by
  refine ⟨fun b ob q n f z => ?_, fun b ob q n f z => ?_, fun b ob q n z => ?_, u.there, fun b xs q => ?_, fun b ob v q => ?_, fun b ps q => ?_⟩
  · by_cases e : b = c
    · subst e
      rw [ho] at q
      rw [ho', q]
    · exact u.keep b ob q (by rw [upd_ne e]; exact n) f z
  · have e : b ≠ c := fun e => nf (e ▸ f)
    exact u.slot b ob q (by rw [upd_ne e]; exact n) f z
  · by_cases e : b = c
    · subst e
      exact lessH_eq
    · rw [lessH_ne e]
      exact u.free b ob q (by rw [upd_ne e]; exact n) z
  · have n := ne_of_none q hc
    rw [lessH_ne n]
    exact u.tups b xs (by rw [upd_ne n]; exact q)
  · have n := ne_of_none q hc
    rw [lessH_ne n]
    exact u.frzs b ob v (by rw [upd_ne n]; exact q)
  · have n := ne_of_none q hc
    rw [lessH_ne n]
    exact u.tbls b ps (by rw [upd_ne n]; exact q)
theorem ub_put {fs : List Addr} {H H' : Hp} {h B h' : Heap} {c : Addr} {o : Obj} (u : UB fs (lessH H c) H' h B h') (hc : H c = some (CellO c o)) (ho : h.get? c = some o) (nf : c ∉ fs) : B.get? c = some o ∧ H' c = none ∧ UB fs H (upd H' c (CellO c o)) h B h' := by
  have k1 := u.keep c o ho lessH_eq nf
  have k2 := u.free c o ho lessH_eq
  have ne : ∀ {b : Addr}, H b = none → b ≠ c := fun {b} q z => by subst z; rw [hc] at q; cases q
  have le : ∀ {b : Addr}, H b = none → lessH H c b = none := fun {b} q => by rw [lessH_ne (ne q)]; exact q
  refine ⟨k1, k2, fun b ob q n => u.keep b ob q (le n), u.slot, fun b ob q n => ?_, u.there, fun b xs q => ?_, fun b ob v q => ?_, fun b ps q => ?_⟩
  · rw [upd_ne (ne n)]
    exact u.free b ob q (le n)
  · have n : b ≠ c := fun z => by subst z; rw [hc] at q; cases q
    rw [upd_ne n]
    exact u.tups b xs (by rw [lessH_ne n]; exact q)
  · have n : b ≠ c := fun z => by subst z; rw [hc] at q; cases q
    rw [upd_ne n]
    exact u.frzs b ob v (by rw [lessH_ne n]; exact q)
  · have n : b ≠ c := fun z => by subst z; rw [hc] at q; cases q
    rw [upd_ne n]
    exact u.tbls b ps (by rw [lessH_ne n]; exact q)
theorem look1 {y z : Str} {c d : Addr} (q : List.lookup z [(y, c)] = some d) : z = y ∧ d = c := by
  rw [List.lookup_cons] at q
  cases h : z == y with
  | true =>
    rw [h] at q
    exact ⟨by simpa using h, (Option.some.inj q).symm⟩
  | false =>
    rw [h] at q
    cases q
theorem at1 {y z : Str} {i : Nat} (q : [y][i]? = some z) : z = y ∧ i = 0 := by
  cases i with
  | zero => exact ⟨(Option.some.inj q).symm, rfl⟩
  | succ i => simp at q
/-- the objects that a lambda with one captured name needs -/
def capD (f : Addr) (F : NF) (e : Expr) (c : Addr) (o : Obj) : Hp := upd (lamD f F e) c (CellO c o)
theorem capD_sub {f c : Addr} {F : NF} {e : Expr} {o : Obj} {H : Hp} (h1 : H f = some (LamO f F e)) (h2 : H F.c = some (CodeO F.c F.qual)) (h3 : H c = some (CellO c o)) : Same (capD f F e c o) H := by
  intro b u q
  unfold capD at q
  by_cases hb : b = c
  · subst hb
    rw [upd_same] at q
    rw [h3]
    exact q
  · rw [upd_ne hb] at q
    exact lamD_sub h1 h2 b u q
theorem env0_less {P : Program} {w : World} {K : PySem.W.Frag} {mg : Str → Option Value} {base : Heap} {A : Around} {outer : List Env} {s : Shared} {H : Hp} {c : Addr} {o : Obj} (e0 : Env0 P w K mg base A outer s H) (hc : H c = some (CellO c o)) : Env0 P w K mg base A outer s (lessH H c) := by
  have le : ∀ {b : Addr}, H b = none → lessH H c b = none := fun {b} q => by
    rw [lessH_ne (fun z => by subst z; rw [hc] at q; cases q)]
    exact q
  exact ⟨e0.frames, e0.mod, fun b u q => ⟨(e0.bs b u q).1, le (e0.bs b u q).2⟩, e0.bsz, e0.funs, fun b q => le (e0.frf b q), hok_less e0.hok hc, e0.bare⟩
/-- a lambda with one captured name, by its body -/
theorem callable_cap {P : Program} {w : World} {K : PySem.W.Frag} {mg : Str → Option Value} {base : Heap} {k : Nat} {f c : Addr} {F : NF} {e : Expr} {N ps : List Str} {sp : Sp} {y : Str} {o : Obj} {v : V} {u : Value} (S : NScope N ps [y] F.scope) (hcl : F.cl = [(y, c)]) (hfc : f ≠ F.c) (hcf : f ≠ c) (hcc : F.c ≠ c)
    (hod : o.data = .cell (some u)) (rv : RelV v u)
    (hb : ∀ (pm ctv : Value) (us : List Value), us.length = ps.length → bindArgs (PySem.W.kla_fn "<lambda>" F.qual F.params e F.scope F.cl pm (.ref F.c) ctv) ⟨us, []⟩ = pure (ps.zip us)) (len : ∀ vs H Q E, sp vs H Q E → vs.length = ps.length)
    (hbody : ∀ (A : Around) (outer : List Env) (s : Shared) (H : Hp) (vs : List V) (Q : VK) (E : XK), Room k (A.deeper (envF F f s.heap.objs.size)) → sp vs H Q E →
      ∃ t, PE (ncx (L2.CX P w) P w K mg base N F f A outer s (lessH H c) (fun cls d H' => E cls d (upd H' c (CellO c o)))) e t ∧ t (startF N vs [some v]) (lessH H c) (fun x H' => Q x (upd H' c (CellO c o)))) : Callable P w K mg base (k + 1) f (capD f F e c o) sp := by
  have d1 : ∀ {H : Hp}, Same (capD f F e c o) H → H f = some (LamO f F e) := fun {H} q => q _ _ (by unfold capD lamD; rw [upd_ne hcf, upd_ne hfc, upd_same])
  have d2 : ∀ {H : Hp}, Same (capD f F e c o) H → H F.c = some (CodeO F.c F.qual) := fun {H} q => q _ _ (by unfold capD lamD; rw [upd_ne hcc, upd_same])
  have d3 : ∀ {H : Hp}, Same (capD f F e c o) H → H c = some (CellO c o) := fun {H} q => q _ _ (by unfold capD; rw [upd_same])
  refine ⟨fun h H _ hok hs => ?_, fun A outer s H us vs Q E hr e0 hs r q => ?_⟩
  · obtain ⟨pm, ctv, z⟩ := lamO_at hok (d1 hs)
    exact ⟨_, _, _, _, z⟩
  · have hl := len _ _ _ _ q
    have hc := d3 hs
    have ho : s.heap.get? c = some o := (e0.hok c _ hc).1
    have nf : c ∉ frs outer := fun z => by rw [e0.frf c z] at hc; cases hc
    obtain ⟨pm, ctv, hof⟩ := lamO_at e0.hok (d1 hs)
    have lim : s.heap.NoLimit := e0.mod.nolimit.keeps fun b o z => (e0.bs b o z).1
    refine PySem.W.kla_callFunE hr.depth hof rfl S.co S.gen rfl (codeO_at e0.hok (d2 hs)) ?_
    rw [hb pm ctv us (by rw [← r.length]; exact hl)]
    refine wpAny_pure (wpAny_newFunctionEnv S.nocell (fun ⟨n, _⟩ hy => S.par n (List.of_mem_zip hy).1) (fun h₁ hns hsb => ⟨lim.fresh _ hsb, ?_⟩) S.kind)
    show codeAny _ _ (.expr e (envF F f s.heap.objs.size)) _ _
    have kp : ∀ b o, s.heap.get? b = some o → h₁.get? b = some o := fun b o z => hsb.extBut b o (Nat.ne_of_lt (Heap.lt_size z)) (Heap.get?_push_of_some _ z)
    obtain ⟨t, ht, hq⟩ := hbody A outer s H vs Q E (hr.deeper _) q
    have ic : s.heap.IsCell c (some u) := ⟨o, ho, hod⟩
    have C : CellsAt F.cl [y] [some v] s.heap (lessH H c) := by
      rw [hcl]
      refine ⟨rfl, fun z d q => ?_, fun x z d q1 q2 => ?_, fun i z q => ?_⟩
      · obtain ⟨_, rfl⟩ := look1 q
        exact ⟨lessH_eq, _, ic⟩
      · rw [(look1 q1).1, (look1 q2).1]
      · obtain ⟨rfl, rfl⟩ := at1 q
        exact ⟨c, by simp, fun v' q' => by cases q'; exact ⟨u, rv, ic⟩⟩
    have I : Inv (ncx (L2.CX P w) P w K mg base N F f A outer s (lessH H c) (fun cls d H' => E cls d (upd H' c (CellO c o)))) [] (startF N vs [some v]) (lessH H c) { s with heap := h₁, toks := s.toks + (ps.zip us).length } := inv_startN S hr.hd (env0_less e0 hc) hl r C hns kp
    refine PySem.W.kla_codeExpr (wpAny_mono (ht.run [] _ (startF N vs [some v]) (lessH H c) _ I hq) (fun v s' hv => ?_) fun er s' z => ?_)
    · obtain ⟨v', H', J, rv', q'⟩ := hv
      obtain ⟨k1, k2, un⟩ := un_put J.base hc ho nf
      exact ⟨v', upd H' c (CellO c o), J.os, J.bare, un, hok_put J.hok k2 k1, rv', q'⟩
    · have conv : ∀ (er : Value) (s'' : Shared), L2.CX P w outer (lessH H c) s (fun cls d H' => E cls d (upd H' c (CellO c o))) er s'' → L2.CX P w outer H s E er s'' := by
        rintro er s'' ⟨a, B, H', cls, d, rfl, fl, hok, ub, na, os, ag, hE⟩
        obtain ⟨k1, k2, ub2⟩ := ub_put ub hc ho nf
        have ne : a ≠ c := fun z => by subst z; rw [fl.2.1] at k1; cases k1
        exact ⟨a, B, upd H' c (CellO c o), cls, d, rfl, fl, hok_put hok k2 k1, ub2, by rw [upd_ne ne]; exact na, os, ag, hE⟩
      exact wpAny_mono z (fun _ s'' z => conv _ _ z) (fun _ s'' z => conv _ _ z)
/-- f(..) where one of the caller's own cells is made known to f -/
def tCallC (cells : List (Str × Addr)) (y : Str) (i : Nat) (sp : Sp) (t : TA) : TE := fun σ H Q => t σ H fun vs H1 => ∃ v, σ[i]? = some (some v) ∧ ∀ (c : Addr) (o : Obj) (u : Value), cells.lookup y = some c → H1 c = none → o.data = .cell (some u) → RelV v u →
  sp vs (upd H1 c (CellO c o)) (fun x H' => H' c = some (CellO c o) ∧ Q x (lessH H' c)) E0
theorem pe_callC {X : Cx} {k i : Nat} {f : Addr} {fd : FuncData} {ps : List Str} {sp : Sp} {x y : Str} {p pos : Pos} {e : Expr} {es : List Expr} {t : TA} (F : FnOk X.prog X.w X.K X.mg X.base CX0 k f fd ps sp) (hr : Room k X.A) (hg : Gl X x) (hm : X.mg x = some (.ref f)) (hk : PySem.W.keepIn X.K (.ref f) = true) (hb : Binds X.K fd ps [])
    (hi : X.N[i]? = some y) (hy : X.env.scope.names.lookup y = some .cell) (hfn : X.fn y = true) (ha : PA X (e :: es) t) (hdb : (x == ("__debug__" : Str)) = false := by decide) (he : starEach (e :: es) X.env = (false, eval e X.env) :: starEach es X.env := by rfl) (hpl : (backTo pos (starEach es X.env)).any (·.1) = false := by rfl) :
    PE X (.Call (.Name x p) (e :: es) [] pos) (tCallC X.env.cells y i sp t) := by
  refine ⟨fun pins s σ H Q I h => ?_⟩
  refine wpAny_Call_Name_kw (ld_glob I hg hm ?_ hdb)
  refine PySem.W.callWith_K (h₀ := X.base) I.ok.mod.kin hk (thn (ha.run pos pins s σ H _ I h) fun us s1 ⟨vs, H1, I1, r, v, hv, z⟩ => ⟨I1.kIn, ?_⟩) he hpl
  obtain ⟨m, hn, hl⟩ := I1.loc
  obtain ⟨u, ru, lk⟩ := hl i y v hi hv (.inr (.inl hy))
  rcases lk with ⟨kl, _⟩ | ⟨_, c, hcc, o, ho, hod⟩
  · have kl : X.env.scope.names.lookup y = some .local := kl
    rw [hy] at kl
    cases kl
  have nc : H1 c = none := I1.freeC y c hcc
  have h := z c o u hcc nc hod ru
  have cge : X.s_0.heap.objs.size ≤ c := I1.ok.cab y c hfn hcc
  have nloc : c ≠ X.env.locals := fun q => by
    obtain ⟨es', ep, o', e', hd', _⟩ := hn
    subst q
    rw [ho] at e'
    cases e'
    rw [hod] at hd'
    cases hd'
  have nfs : c ∉ frs X.stack := fun hmm => by
    rcases List.mem_cons.mp (I1.stkSub c hmm) with q | q
    · exact nloc q
    · obtain ⟨_, o', e', _⟩ := I1.ok.funs.mem q
      exact absurd (Heap.lt_size e') (Nat.not_lt.mpr cge)
  have E := I1.env0
  have le : ∀ {b : Addr}, H1 b = none → b ≠ c → upd H1 c (CellO c o) b = none := fun {b} q n => by
    rw [upd_ne n]
    exact q
  have e0 : Env0 X.prog X.w X.K X.mg X.base X.A X.stack s1 (upd H1 c (CellO c o)) := ⟨E.frames, E.mod, fun b ob q => ⟨(E.bs b ob q).1, le (E.bs b ob q).2 (fun w => by
    have h1 := Heap.lt_size q
    have h2 := I1.ok.bsz
    rw [w] at h1
    exact absurd (Nat.lt_of_lt_of_le h1 (Nat.le_trans h2 cge)) (Nat.lt_irrefl _))⟩, E.bsz, E.funs, fun b q => le (E.frf b q) (fun w => nfs (w ▸ q)), hok_put E.hok nc ho, E.bare⟩
  have hl2 : us.length = ps.length := r.length.symm.trans (F.len _ _ _ _ h)
  have bb := hb s1 us I1.kIn (by rw [List.append_nil]; exact hl2)
  rw [List.append_nil] at bb
  refine wpAny_call (codeAny_mono (F.run X.A X.stack s1 _ ⟨us, []⟩ us vs _ E0 hr e0 bb r h) fun z s' hq => ?_)
  cases z with
  | error er => exact False.elim hq
  | ok fl =>
    cases fl with
    | ret u' =>
      obtain ⟨v', H', os, bare, un, hok, rv, hHc, q⟩ := hq
      exact I1.after ⟨v', lessH H' c, os, bare, un_less un nc ho (hok c _ hHc).1 nfs, hok_less hok hHc, rv, q⟩
    | next => exact hq.elim
    | brk => exact hq.elim
    | cont => exact hq.elim
end RE
/-! cells made known: of a comprehension's block, two at once, of a def that is left -/
namespace RE
open PySem PySem.Spec PyProof.Rows L2 LamX NdefX
section
variable {X : Cx}
/-- no cell of the context is of the base, none is a frame -/
def Away (X : Cx) : Prop := ∀ (pins : List (Addr × Obj)) (σ : L2.St) (H : Hp) (s : Shared), Inv X pins σ H s → ∀ y c, X.env.cells.lookup y = some c → X.base.objs.size ≤ c ∧ c ∉ frs X.stack
theorem away_def (hfn : ∀ y, X.fn y = true) : Away X := by
  intro pins σ H s I y c hcc
  have cge := I.ok.cab y c (hfn y) hcc
  obtain ⟨v, o, ho, hod⟩ := I.cell y c hcc
  obtain ⟨m, hn, _⟩ := I.loc
  refine ⟨Nat.le_trans I.ok.bsz cge, fun hm => ?_⟩
  rcases List.mem_cons.mp (I.stkSub c hm) with q | q
  · obtain ⟨es', ep, o', e', hd', _⟩ := hn
    subst q
    rw [ho] at e'
    cases e'
    rw [hod] at hd'
    cases hd'
  · obtain ⟨_, o', e', _⟩ := I.ok.funs.mem q
    exact absurd (Heap.lt_size e') (Nat.not_lt.mpr cge)
theorem env0_put {P : Program} {w : World} {K : PySem.W.Frag} {mg : Str → Option Value} {base : Heap} {A : Around} {outer : List Env} {s : Shared} {H : Hp} {c : Addr} {o : Obj} (e : Env0 P w K mg base A outer s H) (nc : H c = none) (ho : s.heap.get? c = some o) (hb : base.objs.size ≤ c) (hf : c ∉ frs outer) : Env0 P w K mg base A outer s (upd H c (CellO c o)) :=
  ⟨e.frames, e.mod, fun b ob q => ⟨(e.bs b ob q).1, by
    have nb : b ≠ c := fun z => by
      have h1 := Heap.lt_size q
      rw [z] at h1
      exact absurd (Nat.lt_of_lt_of_le h1 hb) (Nat.lt_irrefl _)
    rw [upd_ne nb]
    exact (e.bs b ob q).2⟩, e.bsz, e.funs, fun b q => by
    have nb : b ≠ c := fun z => hf (by rw [← z]; exact q)
    rw [upd_ne nb]
    exact e.frf b q, hok_put e.hok nc ho, e.bare⟩
/-- the reading for all cells there may be -/
theorem pe_any {e : Expr} {te : List (Str × Addr) → TE} (h : PE X e (te X.env.cells)) : PE X e (fun σ H Q => ∀ cells, te cells σ H Q) := ⟨fun pins s σ H Q I q => h.run pins s σ H Q I (q _)⟩
theorem cell_at {pins : List (Addr × Obj)} {σ : L2.St} {H : Hp} {s : Shared} {i : Nat} {y : Str} {v : V} (I : Inv X pins σ H s) (hi : X.N[i]? = some y) (hy : X.env.scope.names.lookup y = some .cell ∨ X.env.scope.names.lookup y = some .free) (hv : σ[i]? = some (some v)) :
    ∃ c o u, X.env.cells.lookup y = some c ∧ s.heap.get? c = some o ∧ o.data = .cell (some u) ∧ RelV v u ∧ H c = none := by
  obtain ⟨m, hn, hl⟩ := I.loc
  obtain ⟨u, ru, lk⟩ := hl i y v hi hv (.inr hy)
  rcases lk with ⟨kl, _⟩ | ⟨_, c, hcc, o, ho, hod⟩
  · have kl : X.env.scope.names.lookup y = some .local := kl
    rcases hy with z | z <;> (rw [z] at kl; cases kl)
  · exact ⟨c, o, u, hcc, ho, hod, ru, I.freeC y c hcc⟩
variable {k i j : Nat} {f : Addr} {fd : FuncData} {ps : List Str} {sp : Sp} {x y z : Str} {p pos : Pos} {e : Expr} {es : List Expr} {t : TA}
/-- pe_callC where the cell may be a comprehension's or one that it shares -/
theorem pe_callC1 (hA : Away X) (F : FnOk X.prog X.w X.K X.mg X.base CX0 k f fd ps sp) (hr : Room k X.A) (hg : Gl X x) (hm : X.mg x = some (.ref f)) (hk : PySem.W.keepIn X.K (.ref f) = true) (hb : Binds X.K fd ps [])
    (hi : X.N[i]? = some y) (hy : X.env.scope.names.lookup y = some .cell ∨ X.env.scope.names.lookup y = some .free) (ha : PA X (e :: es) t) (hdb : (x == ("__debug__" : Str)) = false := by decide) (he : starEach (e :: es) X.env = (false, eval e X.env) :: starEach es X.env := by rfl) (hpl : (backTo pos (starEach es X.env)).any (·.1) = false := by rfl) :
    PE X (.Call (.Name x p) (e :: es) [] pos) (tCallC X.env.cells y i sp t) := by
  refine ⟨fun pins s σ H Q I h => wpAny_Call_Name_kw (ld_glob I hg hm ?_ hdb)⟩
  refine PySem.W.callWith_K (h₀ := X.base) I.ok.mod.kin hk (thn (ha.run pos pins s σ H _ I h) fun us s1 ⟨vs, H1, I1, r, v, hv, z⟩ => ⟨I1.kIn, ?_⟩) he hpl
  obtain ⟨c, o, u, hcc, ho, hod, ru, nc⟩ := cell_at I1 hi hy hv
  obtain ⟨hbc, hfc⟩ := hA _ _ _ _ I1 _ _ hcc
  have h := z c o u hcc nc hod ru
  have e0 := env0_put I1.env0 nc ho hbc hfc
  have hl2 : us.length = ps.length := r.length.symm.trans (F.len _ _ _ _ h)
  have bb := hb s1 us I1.kIn (by rw [List.append_nil]; exact hl2)
  rw [List.append_nil] at bb
  refine wpAny_call (codeAny_mono (F.run X.A X.stack s1 _ ⟨us, []⟩ us vs _ E0 hr e0 bb r h) fun q s' hq => ?_)
  cases q with
  | error er => exact False.elim hq
  | ok fl =>
    cases fl with
    | ret u' =>
      obtain ⟨v', H', os, bare, un, hok, rv, hHc, q⟩ := hq
      exact I1.after ⟨v', lessH H' c, os, bare, un_less un nc ho (hok c _ hHc).1 hfc, hok_less hok hHc, rv, q⟩
    | next => exact hq.elim
    | brk => exact hq.elim
    | cont => exact hq.elim
/-- two cells made known -/
def tCallC2 (cells : List (Str × Addr)) (y : Str) (i : Nat) (z : Str) (j : Nat) (sp : Sp) (t : TA) : TE := fun σ H Q => t σ H fun vs H1 => ∃ v v', σ[i]? = some (some v) ∧ σ[j]? = some (some v') ∧ ∀ (c : Addr) (o : Obj) (u : Value) (c' : Addr) (o' : Obj) (u' : Value), cells.lookup y = some c → cells.lookup z = some c' → c ≠ c' → H1 c = none → H1 c' = none →
  o.data = .cell (some u) → RelV v u → o'.data = .cell (some u') → RelV v' u' → sp vs (upd (upd H1 c (CellO c o)) c' (CellO c' o')) (fun x H' => H' c = some (CellO c o) ∧ H' c' = some (CellO c' o') ∧ Q x (lessH (lessH H' c') c)) E0
theorem pe_callC2 (hA : Away X) (F : FnOk X.prog X.w X.K X.mg X.base CX0 k f fd ps sp) (hr : Room k X.A) (hg : Gl X x) (hm : X.mg x = some (.ref f)) (hk : PySem.W.keepIn X.K (.ref f) = true) (hb : Binds X.K fd ps [])
    (hi : X.N[i]? = some y) (hy : X.env.scope.names.lookup y = some .cell ∨ X.env.scope.names.lookup y = some .free) (hj : X.N[j]? = some z) (hz : X.env.scope.names.lookup z = some .cell ∨ X.env.scope.names.lookup z = some .free) (hyz : y ≠ z) (ha : PA X (e :: es) t)
    (hdb : (x == ("__debug__" : Str)) = false := by decide) (he : starEach (e :: es) X.env = (false, eval e X.env) :: starEach es X.env := by rfl) (hpl : (backTo pos (starEach es X.env)).any (·.1) = false := by rfl) :
    PE X (.Call (.Name x p) (e :: es) [] pos) (tCallC2 X.env.cells y i z j sp t) := by
  refine ⟨fun pins s σ H Q I h => wpAny_Call_Name_kw (ld_glob I hg hm ?_ hdb)⟩
  refine PySem.W.callWith_K (h₀ := X.base) I.ok.mod.kin hk (thn (ha.run pos pins s σ H _ I h) fun us s1 ⟨vs, H1, I1, r, v, v', hv, hv', zz⟩ => ⟨I1.kIn, ?_⟩) he hpl
  obtain ⟨c, o, u, hcc, ho, hod, ru, nc⟩ := cell_at I1 hi hy hv
  obtain ⟨c', o', u', hcc', ho', hod', ru', nc'⟩ := cell_at I1 hj hz hv'
  have ne : c ≠ c' := fun q => hyz (I1.ok.inj y z c hcc (q ▸ hcc'))
  obtain ⟨hbc, hfc⟩ := hA _ _ _ _ I1 _ _ hcc
  obtain ⟨hbc', hfc'⟩ := hA _ _ _ _ I1 _ _ hcc'
  have h := zz c o u c' o' u' hcc hcc' ne nc nc' hod ru hod' ru'
  have n2 : upd H1 c (CellO c o) c' = none := by
    rw [upd_ne ne.symm]
    exact nc'
  have e0 := env0_put (env0_put I1.env0 nc ho hbc hfc) n2 ho' hbc' hfc'
  have hl2 : us.length = ps.length := r.length.symm.trans (F.len _ _ _ _ h)
  have bb := hb s1 us I1.kIn (by rw [List.append_nil]; exact hl2)
  rw [List.append_nil] at bb
  refine wpAny_call (codeAny_mono (F.run X.A X.stack s1 _ ⟨us, []⟩ us vs _ E0 hr e0 bb r h) fun q s' hq => ?_)
  cases q with
  | error er => exact False.elim hq
  | ok fl =>
    cases fl with
    | ret u1 =>
      obtain ⟨v1, H', os, bare, un, hok, rv, hHc, hHc', q⟩ := hq
      have h1 : lessH H' c' c = some (CellO c o) := (lessH_ne ne).trans hHc
      have un1 := un_less un n2 ho' (hok c' _ hHc').1 hfc'
      have hok1 := hok_less hok hHc'
      exact I1.after ⟨v1, lessH (lessH H' c') c, os, bare, un_less un1 nc ho (hok1 c _ h1).1 hfc, hok_less hok1 h1, rv, q⟩
    | next => exact hq.elim
    | brk => exact hq.elim
    | cont => exact hq.elim
end
/-! ### lambdas with two captured names -/
theorem look2 {y z q : Str} {c c' d : Addr} (h : List.lookup q [(y, c), (z, c')] = some d) : (q = y ∧ d = c) ∨ (q = z ∧ d = c') := by
  rw [List.lookup_cons] at h
  cases e : q == y with
  | true =>
    rw [e] at h
    exact .inl ⟨by simpa using e, (Option.some.inj h).symm⟩
  | false =>
    rw [e] at h
    exact .inr (look1 h)
def capD2 (f : Addr) (F : NF) (e : Expr) (c : Addr) (o : Obj) (c' : Addr) (o' : Obj) : Hp := upd (upd (lamD f F e) c (CellO c o)) c' (CellO c' o')
theorem capD2_sub {f c c' : Addr} {F : NF} {e : Expr} {o o' : Obj} {H : Hp} (h1 : H f = some (LamO f F e)) (h2 : H F.c = some (CodeO F.c F.qual)) (h3 : H c = some (CellO c o)) (h4 : H c' = some (CellO c' o')) : Same (capD2 f F e c o c' o') H := by
  intro b u q
  unfold capD2 at q
  by_cases hb : b = c'
  · subst hb
    rw [upd_same] at q
    rw [h4]
    exact q
  · rw [upd_ne hb] at q
    exact capD_sub h1 h2 h3 b u q
theorem callable_cap2 {P : Program} {w : World} {K : PySem.W.Frag} {mg : Str → Option Value} {base : Heap} {k : Nat} {f c c' : Addr} {F : NF} {e : Expr} {N ps : List Str} {sp : Sp} {y z : Str} {o o' : Obj} {v v' : V} {u u' : Value} (S : NScope N ps [y, z] F.scope) (hcl : F.cl = [(y, c), (z, c')] ∨ F.cl = [(z, c'), (y, c)]) (hyz : y ≠ z) (hfc : f ≠ F.c) (hcf : f ≠ c) (hcc : F.c ≠ c) (hcf' : f ≠ c') (hcc' : F.c ≠ c') (hne : c ≠ c')
    (hod : o.data = .cell (some u)) (rv : RelV v u) (hod' : o'.data = .cell (some u')) (rv' : RelV v' u')
    (hb : ∀ (pm ctv : Value) (us : List Value), us.length = ps.length → bindArgs (PySem.W.kla_fn "<lambda>" F.qual F.params e F.scope F.cl pm (.ref F.c) ctv) ⟨us, []⟩ = pure (ps.zip us)) (len : ∀ vs H Q E, sp vs H Q E → vs.length = ps.length)
    (hbody : ∀ (A : Around) (outer : List Env) (s : Shared) (H : Hp) (vs : List V) (Q : VK) (E : XK), Room k (A.deeper (envF F f s.heap.objs.size)) → sp vs H Q E →
      ∃ t, PE (ncx (L2.CX P w) P w K mg base N F f A outer s (lessH (lessH H c') c) (fun cls d H' => E cls d (upd (upd H' c (CellO c o)) c' (CellO c' o')))) e t ∧ t (startF N vs [some v, some v']) (lessH (lessH H c') c) (fun x H' => H' c = none → H' c' = none → Q x (upd (upd H' c (CellO c o)) c' (CellO c' o')))) :
    Callable P w K mg base (k + 1) f (capD2 f F e c o c' o') sp := by
  have d1 : ∀ {H : Hp}, Same (capD2 f F e c o c' o') H → H f = some (LamO f F e) := fun {H} q => q _ _ (by unfold capD2 lamD; rw [upd_ne hcf', upd_ne hcf, upd_ne hfc, upd_same])
  have d2 : ∀ {H : Hp}, Same (capD2 f F e c o c' o') H → H F.c = some (CodeO F.c F.qual) := fun {H} q => q _ _ (by unfold capD2 lamD; rw [upd_ne hcc', upd_ne hcc, upd_same])
  have d3 : ∀ {H : Hp}, Same (capD2 f F e c o c' o') H → H c = some (CellO c o) := fun {H} q => q _ _ (by unfold capD2; rw [upd_ne hne, upd_same])
  have d4 : ∀ {H : Hp}, Same (capD2 f F e c o c' o') H → H c' = some (CellO c' o') := fun {H} q => q _ _ (by unfold capD2; rw [upd_same])
  refine ⟨fun h H _ hok hs => ?_, fun A outer s H us vs Q E hr e0 hs r q => ?_⟩
  · obtain ⟨pm, ctv, z⟩ := lamO_at hok (d1 hs)
    exact ⟨_, _, _, _, z⟩
  · have hl := len _ _ _ _ q
    have hc := d3 hs
    have hc' := d4 hs
    have hc1 : lessH H c' c = some (CellO c o) := (lessH_ne hne).trans hc
    have ho : s.heap.get? c = some o := (e0.hok c _ hc).1
    have ho' : s.heap.get? c' = some o' := (e0.hok c' _ hc').1
    have nf : c ∉ frs outer := fun z => by rw [e0.frf c z] at hc; cases hc
    have nf' : c' ∉ frs outer := fun z => by rw [e0.frf c' z] at hc'; cases hc'
    obtain ⟨pm, ctv, hof⟩ := lamO_at e0.hok (d1 hs)
    have lim : s.heap.NoLimit := e0.mod.nolimit.keeps fun b o z => (e0.bs b o z).1
    refine PySem.W.kla_callFunE hr.depth hof rfl S.co S.gen rfl (codeO_at e0.hok (d2 hs)) ?_
    rw [hb pm ctv us (by rw [← r.length]; exact hl)]
    refine wpAny_pure (wpAny_newFunctionEnv S.nocell (fun ⟨n, _⟩ hy => S.par n (List.of_mem_zip hy).1) (fun h₁ hns hsb => ⟨lim.fresh _ hsb, ?_⟩) S.kind)
    show codeAny _ _ (.expr e (envF F f s.heap.objs.size)) _ _
    have kp : ∀ b o, s.heap.get? b = some o → h₁.get? b = some o := fun b o z => hsb.extBut b o (Nat.ne_of_lt (Heap.lt_size z)) (Heap.get?_push_of_some _ z)
    obtain ⟨t, ht, hq⟩ := hbody A outer s H vs Q E (hr.deeper _) q
    have ic : s.heap.IsCell c (some u) := ⟨o, ho, hod⟩
    have ic' : s.heap.IsCell c' (some u') := ⟨o', ho', hod'⟩
    have lk : ∀ {q : Str} {d : Addr}, F.cl.lookup q = some d → (q = y ∧ d = c) ∨ (q = z ∧ d = c') := fun {q d} h => by
      rcases hcl with w | w
      · rw [w] at h
        exact look2 h
      · rw [w] at h
        exact (look2 h).symm
    have ly : F.cl.lookup y = some c := by
      rcases hcl with w | w
      · rw [w]
        simp
      · rw [w, List.lookup_cons, show (y == z) = false by simpa using hyz]
        simp
    have lz : F.cl.lookup z = some c' := by
      rcases hcl with w | w
      · rw [w, List.lookup_cons, show (z == y) = false by simpa using hyz.symm]
        simp
      · rw [w]
        simp
    have lc : lessH (lessH H c') c c' = none := by
      rw [lessH_ne hne.symm]
      exact lessH_eq
    have C : CellsAt F.cl [y, z] [some v, some v'] s.heap (lessH (lessH H c') c) := by
      refine ⟨rfl, fun q d h => ?_, fun a b d q1 q2 => ?_, fun i q h => ?_⟩
      · rcases lk h with ⟨_, rfl⟩ | ⟨_, rfl⟩
        · exact ⟨lessH_eq, _, ic⟩
        · exact ⟨lc, _, ic'⟩
      · rcases lk q1 with ⟨e1, d1⟩ | ⟨e1, d1⟩ <;> rcases lk q2 with ⟨e2, d2⟩ | ⟨e2, d2⟩
        · rw [e1, e2]
        · exact absurd (d1.symm.trans d2) hne
        · exact absurd (d2.symm.trans d1) hne
        · rw [e1, e2]
      · match i, h with
        | 0, h =>
          obtain rfl : y = q := by simpa using h
          exact ⟨c, ly, fun v1 q' => by
            obtain rfl : v = v1 := by simpa using q'
            exact ⟨u, rv, ic⟩⟩
        | 1, h =>
          obtain rfl : z = q := by simpa using h
          exact ⟨c', lz, fun v1 q' => by
            obtain rfl : v' = v1 := by simpa using q'
            exact ⟨u', rv', ic'⟩⟩
        | n + 2, h => simp at h
    have e1 := env0_less e0 hc'
    have e2 := env0_less e1 hc1
    have I : Inv (ncx (L2.CX P w) P w K mg base N F f A outer s (lessH (lessH H c') c) (fun cls d H' => E cls d (upd (upd H' c (CellO c o)) c' (CellO c' o')))) [] (startF N vs [some v, some v']) (lessH (lessH H c') c) { s with heap := h₁, toks := s.toks + (ps.zip us).length } := inv_startN S hr.hd e2 hl r C hns kp
    refine PySem.W.kla_codeExpr (wpAny_mono (ht.run [] _ (startF N vs [some v, some v']) _ _ I hq) (fun v s' hv => ?_) fun er s' z => ?_)
    · obtain ⟨v', H', J, rv', q'⟩ := hv
      obtain ⟨k1, k2, un⟩ := un_put J.base hc1 ho nf
      have hok1 := hok_put J.hok k2 k1
      obtain ⟨k3, k4, un2⟩ := un_put un hc' ho' nf'
      exact ⟨v', _, J.os, J.bare, un2, hok_put hok1 k4 k3, rv', q' k2 ((upd_ne hne.symm).symm.trans k4)⟩
    · have conv : ∀ (er : Value) (s'' : Shared), L2.CX P w outer (lessH (lessH H c') c) s (fun cls d H' => E cls d (upd (upd H' c (CellO c o)) c' (CellO c' o'))) er s'' → L2.CX P w outer H s E er s'' := by
        rintro er s'' ⟨a, B, H', cls, d, rfl, fl, hok, ub, na, os, ag, hE⟩
        obtain ⟨k1, k2, ub2⟩ := ub_put ub hc1 ho nf
        have ne : a ≠ c := fun z => by subst z; rw [fl.2.1] at k1; cases k1
        have hok1 := hok_put hok k2 k1
        obtain ⟨k3, k4, ub3⟩ := ub_put ub2 hc' ho' nf'
        have ne' : a ≠ c' := fun z => by subst z; rw [fl.2.1] at k3; cases k3
        exact ⟨a, B, _, cls, d, rfl, fl, hok_put hok1 k4 k3, ub3, by rw [upd_ne ne', upd_ne ne]; exact na, os, ag, hE⟩
      exact wpAny_mono z (fun _ s'' z => conv _ _ z) (fun _ s'' z => conv _ _ z)
end RE
/-! comprehensions whose block shares cells; a def that hands back lambdas over its own cell -/
namespace RE
open PySem PySem.Spec PyProof.Rows L2 LamX NdefX
theorem cellsFrom_in : ∀ {names : List (Str × NameKind)} {n : Nat} {acc : List (Str × Addr)} {p : Str × Addr}, p ∈ cellsFrom n names acc → p ∈ acc ∨ n ≤ p.2
  | [], n, acc, p, h => .inl h
  | (m, kd) :: r, n, acc, p, h => by
    unfold cellsFrom at h
    by_cases c : (kd == NameKind.cell) = true
    · rw [if_pos c] at h
      rcases cellsFrom_in h with q | q
      · rcases List.mem_cons.mp q with q | q
        · rw [q]
          exact .inr (Nat.le_refl _)
        · exact .inl q
      · exact .inr (Nat.le_of_succ_le q)
    · rw [if_neg c] at h
      exact cellsFrom_in h
section
variable {X : Cx} {pins : List (Addr × Obj)} {σ : L2.St} {H : Hp} {s : Shared}
/-- a comprehension whose cells are told of -/
theorem pe_lcC {elt tg iter : Expr} {ifs : List Expr} {scope : Scope} {own : List (Str × Nat)} {pos : Pos} {wi : TI} {g : TG} {tt : TT} {te : TE} (hc : X.calm = true) (hA : Away X) (hN : X.N.Nodup) (hi : PI X tg iter wi) (ok : BlkOk X.N X.env.scope scope own)
    (hg : ∀ (s : Shared) (H : Hp) (C : Addr) (cl : List (Str × Addr)) (fp : List Addr), PG (X.blk s H scope (compEnvC scope cl C X.env) fp) tg g)
    (ht : ∀ (s : Shared) (H : Hp) (C : Addr) (cl : List (Str × Addr)) (fp : List Addr), PTs (X.blk s H scope (compEnvC scope cl C X.env) fp) ifs tt)
    (he : ∀ (s : Shared) (H : Hp) (C : Addr) (cl : List (Str × Addr)) (fp : List Addr), (∀ y c, cl.lookup y = some c → X.base.objs.size ≤ c ∧ c ∉ frs X.stack) → PE (X.blk s H scope (compEnvC scope cl C X.env) fp) elt te) (hs : ∀ x, foldedSetIterable iter X.env x = pure x := by intro _; rfl) :
    PE X (.ListComp elt [⟨tg, iter, ifs, 0⟩] scope pos) (tLc wi g tt te (own.map (·.2))) := by
  refine ⟨fun pins s σ H Q I h => ?_⟩
  rw [eval_ListComp]
  have free1 : ∀ y ∈ scope.names, y.2 = .free → ∃ c, X.env.cells.lookup y.1 = some c := fun y hy e => (ok.free y hy e).elim (fun k => I.ok.has _ (.inl k)) (fun k => I.ok.has _ (.inr k))
  refine wpAny_comprehension_free (use := none) rfl hs (closure_ok free1) ok.kind (fun y hy e => by rw [ok.uniq y hy, e]) (thn (hi.run pins s σ H _ I h) fun xv sA hx => thn hx fun itv sB hB => ?_)
  obtain ⟨it, fp, tn, J, HB, e, IB, T, stB, fB, rest⟩ := hB
  subst e
  refine wpAny_newObj_type (newEnv_comp ?_) (by show 0 ≤ sizeLine; decide)
  generalize hD : sB.heap.objs.size = D
  have hDn : HB D = none := IB.hok.fresh (Nat.le_of_eq hD)
  obtain ⟨W, ⟨m0, w0⟩, turn⟩ := rest D hDn
  generalize hsC : ({ sB with heap := sB.heap.push { cls := .type "list", data := .seq ([] : List Value).toArray } } : Shared) = sC
  have hhC : sC.heap = sB.heap.push { cls := .type "list", data := .seq ([] : List Value).toArray } := by rw [← hsC]
  have IC : Inv X pins σ (upd HB D (.lst [])) sC := by
    rw [← hsC]
    refine IB.laid (t' := sB.toks) (fun b o e => Heap.get?_push_of_some _ e) (Nat.le_of_eq hD) ⟨Nat.zero_le _, [], 0, .nil, ?_⟩
    rw [← hD]
    exact Heap.get?_push_size _ rfl
  have below : ∀ b ∈ fp, b < sB.heap.objs.size := fun b hb => let ⟨_, e, _⟩ := T.obj _ _ stB b hb; Heap.lt_size e
  have fC : ∀ b ∈ fp, FpOk X pins (upd HB D (.lst [])) b ∧ b < sC.heap.objs.size := fun b hb => by
    have lt := below b hb
    refine ⟨⟨?_, (fB b hb).2⟩, by rw [hhC, Heap.size_push]; exact Nat.lt_succ_of_lt lt⟩
    rw [upd_ne (by rw [← hD]; exact Nat.ne_of_lt lt)]
    exact (fB b hb).1
  have stC : tn 0 sC.heap := T.keep _ _ _ stB fun b _ o e => by rw [hhC]; exact Heap.get?_push_of_some _ e
  have ID := block_start IC ok hN fC
  have good : ∀ y c, (cellsFrom (sC.heap.objs.size + 1) scope.names (cloFrom X.env.cells scope.names [])).lookup y = some c → X.base.objs.size ≤ c ∧ c ∉ frs X.stack := fun y c hcy => by
    rcases cellsFrom_in (PySem.mem_of_lookup hcy) with hm | hm
    · rcases cloFrom_mem hm with hm | ⟨h1, rfl⟩
      · cases hm
      · obtain ⟨c, hcc⟩ := free1 _ h1 rfl
        rw [hcc]
        exact hA _ _ _ _ IC _ _ hcc
    · refine ⟨Nat.le_trans (Nat.le_trans IC.ok.bsz IC.sz) (Nat.le_of_succ_le hm), fun hf => ?_⟩
      obtain ⟨_, o, e, _⟩ := IC.stack.mem hf
      exact absurd (Heap.lt_size e) (Nat.not_lt.mpr (Nat.le_of_succ_le hm))
  have pg := hg sC (upd HB D (.lst [])) sC.heap.objs.size (cellsFrom (sC.heap.objs.size + 1) scope.names (cloFrom X.env.cells scope.names [])) fp
  have pt := ht sC (upd HB D (.lst [])) sC.heap.objs.size (cellsFrom (sC.heap.objs.size + 1) scope.names (cloFrom X.env.cells scope.names [])) fp
  have pe := he sC (upd HB D (.lst [])) sC.heap.objs.size (cellsFrom (sC.heap.objs.size + 1) scope.names (cloFrom X.env.cells scope.names [])) fp good
  show codeAny _ _ (.compStart (.ListComp elt [⟨tg, iter, ifs, 0⟩] scope pos) 0 (.ref it) (.ref D) (compEnvC scope (cellsFrom (sC.heap.objs.size + 1) scope.names (cloFrom X.env.cells scope.names [])) sC.heap.objs.size X.env)) (compPost (model X.prog X.w) X.A X.xe none (EP X pins σ Q) (.ref D) sC.heap.objs.size) { sC with heap := pushCells (sC.heap.push { cls := .type "dict", data := .dict #[] }) scope.names }
  have nofp : ∀ b ∈ fp, (upd HB D (.lst [])) b = none := fun b hb => (fC b hb).1.1
  generalize hce : compEnvC scope (cellsFrom (sC.heap.objs.size + 1) scope.names (cloFrom X.env.cells scope.names [])) sC.heap.objs.size X.env = ce at ID pg pt pe ⊢
  have cL : ce.locals = sC.heap.objs.size := by subst hce; rfl
  generalize hHC : upd HB D (.lst []) = HC at IC ID pg pt pe w0 nofp fC
  generalize hsD : ({ sC with heap := pushCells (sC.heap.push { cls := .type "dict", data := .dict #[] }) scope.names } : Shared) = sD at ID ⊢
  have stD : tn 0 sD.heap := T.keep _ _ _ stC fun b _ o e => by rw [← hsD]; exact pushCells_keeps _ _ _ _ (Heap.get?_push_of_some _ e)
  have fix : ∀ {σ' : L2.St} {H' : Hp} {s' : Shared}, Inv (X.blk sC HC scope ce fp) [] σ' H' s' → (∀ b ∈ fp, H' b = none) → ∀ b ∈ fp, FpOk (X.blk sC HC scope ce fp) [] H' b := fun {σ' H' s'} I' hn b hb =>
    ⟨hn b hb, (I'.ok.exf b hb).1, I'.ok.exfs b hb, .inl hb, fun x c e => (I'.ok.exf b hb).2 x c e, fun z hz => absurd (show z ∈ ([] : List (Addr × Obj)) ++ [] from hz) (List.not_mem_nil)⟩
  have loop : codeAny (model X.prog X.w) X.A (.compLoop (.ListComp elt [⟨tg, iter, ifs, 0⟩] scope pos) 0 (.ref it) (.ref D) ce) (compPost (model X.prog X.w) X.A X.xe none (EP X pins σ Q) (.ref D) sC.heap.objs.size) sD := by
    refine compLoop_any (fun n s' => ∃ i H', Inv (X.blk sC HC scope ce fp) [] (wipe σ (own.map (·.2))) H' s' ∧ tn i s'.heap ∧ (∀ b ∈ fp, H' b = none) ∧ W i n H') ?_ m0 ⟨0, HC, ID, stD, nofp, w0⟩
    rintro n s5 ⟨i, H5, I5, st5, n5, w5⟩
    rcases turn i n H5 w5 with ⟨stop, qq⟩ | ⟨go, Nx, hNx, step⟩
    · refine thnF (T.done (X.blk sC HC scope ce fp) rfl rfl rfl hc i [] s5 _ H5 (fun _ _ => False) I5 (fix I5 n5) st5 stop) fun r s6 ⟨hr, I6⟩ => ?_
      subst hr
      have I7 : Inv X pins σ H5 s6 := IC.call' (ch := fp) I6.os I6.base I6.hok I6.bare fun b hb => ⟨(fC b hb).1.2.2.2.1, (fC b hb).1.2.1, (fC b hb).1.2.2.2.2.1, (fC b hb).1.2.2.2.2.2⟩
      have nC : H5 sC.heap.objs.size = none := by
        have z : H5 ce.locals = none := I6.free
        rw [cL] at z
        exact z
      obtain ⟨m, hn, _⟩ := I6.loc
      have hn : s6.heap.Ns ce.locals m := hn
      rw [cL] at hn
      obtain ⟨f0, f1, f2, f3, f4, f5⟩ := IC.fpOk (Nat.le_refl _) nC
      exact ⟨m, hn, fun h'' sb => ⟨.ref D, H5, I7.turned (t' := s6.toks) (fun b o hb e => (sb.2 b hb).trans e) f0 f1 f3 f4 f5, rfl, qq⟩⟩
    · refine thnF (T.item (X.blk sC HC scope ce fp) rfl rfl rfl hc i [] s5 _ H5 (fun _ _ => False) I5 (fix I5 n5) st5 go) fun r s6 ⟨u, hr, h6⟩ => ?_
      subst hr
      refine thnF h6 fun _ s7 ⟨x, H7, I7, r7, y7, st7, n7⟩ => ?_
      have I7' := I7.pinned (fix I7 n7) (T.obj _ _ st7)
      refine thnF (pg.run _ s7 _ H7 x u _ I7' r7 (step x H7 y7)) fun _ s8 ⟨σ8, H8, I8, hw8, q8⟩ => ?_
      refine thnF (pt.run _ s8 σ8 H8 _ I8 q8) fun b s9 ⟨H9, I9, q9⟩ => ?_
      have fin : ∀ {s' : Shared} {H' : Hp}, Inv (X.blk sC HC scope ce fp) ([] ++ pinsAt fp s7.heap) σ8 H' s' → Nx H' → ∃ m, m < n ∧ ∃ i H', Inv (X.blk sC HC scope ce fp) [] (wipe σ (own.map (·.2))) H' s' ∧ tn i s'.heap ∧ (∀ b ∈ fp, H' b = none) ∧ W i m H' := fun {s' H'} I' nx => by
        obtain ⟨m', hm, w'⟩ := hNx H' nx
        have still : ∀ b ∈ fp, ∀ o, s7.heap.get? b = some o → s'.heap.get? b = some o ∧ H' b = none := fun b hb o e =>
          let z := I'.pin (b, o) (List.mem_append_right _ (List.mem_append_right _ (mem_pinsAt hb e)))
          ⟨z.1, z.2.1⟩
        have hl : (wipe σ (own.map (·.2))).length = σ8.length := by rw [← hw8, wipe_length]
        refine ⟨m', hm, i + 1, H', (I'.unpinned (pins := [])).weak hl (fun j v e => ?_), T.keep _ _ _ st7 fun b hb o e => (still b hb o e).1, fun b hb => ?_, w'⟩
        · rw [← hw8] at e
          exact (wipe_some e).1
        · obtain ⟨o, e, _⟩ := T.obj _ _ st7 b hb
          exact (still b hb o e).2
      cases b with
      | false =>
        simp only [Bool.false_eq_true, if_false] at q9 ⊢
        exact fin I9 q9
      | true =>
        simp only [if_true] at q9 ⊢
        refine thnF (pe.run _ s9 σ8 H9 _ I9 q9) fun z s10 ⟨yv, H10, I10, r10, acc, hD10, hz10, nx⟩ => ?_
        exact app_ok (X := X.blk sC HC scope ce fp) I10 hD10 hz10 r10 fun s11 I11 => fin I11 nx
  exact codeAny_compStart_list loop (T.self X.A 0 _ _ _ stD loop)
end
/-! ### the way to a return, the slots told -/
structure PSsR (X : Cx) (body : List Stmt) (t : (L2.St → V → Hp → Prop) → L2.St → Hp → Prop) : Prop where
  run : ∀ (pins : List (Addr × Obj)) (s : Shared) (σ : L2.St) (H : Hp) (R : L2.St → V → Hp → Prop), Inv X pins σ H s → t R σ H →
    wpAny (model X.prog X.w) X.A (execs body X.env) (fun fl s' => ∃ u, fl = .ret u ∧ ∃ v σ' H', Inv X pins σ' H' s' ∧ RelV v u ∧ R σ' v H') X.xe s
section
variable {X : Cx}
theorem pr_ret {e : Expr} {te : TE} {pos : Pos} (he : PE X e te) : PSsR X [.Return (some e) pos] (fun R σ H => te σ H (R σ)) := by
  refine ⟨fun pins s σ H R I h => wpAny_execs_cons (wpAny_Return_some (thn (he.run pins s σ H _ I h) fun v s1 ⟨x, H1, I1, r1, q1⟩ => ?_))⟩
  exact ⟨v, rfl, x, σ, H1, I1, r1, q1⟩
theorem pr_cons {st : Stmt} {rest : List Stmt} {t : TS} {u : (L2.St → V → Hp → Prop) → L2.St → Hp → Prop} (h1 : PS X st t) (h2 : PSsR X rest u) : PSsR X (st :: rest) (fun R σ H => t { nx := fun σ' H' => u R σ' H', rt := fun _ _ => False } σ H) := by
  refine ⟨fun pins s σ H R I h => wpAny_execs_cons (thn (h1.run pins s σ H _ I h) fun f s1 q => ?_)⟩
  cases f with
  | next =>
    obtain ⟨σ', H', I', q⟩ := q
    exact h2.run pins s1 σ' H' R I' q
  | ret v =>
    obtain ⟨_, _, _, _, _, q⟩ := q
    exact q.elim
  | brk =>
    obtain ⟨_, _, _, q⟩ := q
    exact False.elim q
  | cont =>
    obtain ⟨_, _, _, q⟩ := q
    exact False.elim q
end
/-- a def without an error that hands back what shares its own cell y: the cell is known behind it -/
theorem FunC.okR {P : Program} {w : World} {K : PySem.W.Frag} {mg : Str → Option Value} {base : Heap} {x qual y : Str} {st : Stmt} {f c : Addr} {fd : FuncData} {N ps : List Str} {k i : Nat} {sp : Sp} (F : FunC K x qual st f fd c) (S : FnScope N ps (defScope st)) (hi : N[i]? = some y) (hy : (defScope st).names.lookup y = some .cell) (len : ∀ vs H Q E, sp vs H Q E → vs.length = ps.length)
    (hb : ∀ (A : Around) (outer : List Env) (s : Shared) (H : Hp) (vs : List V) (Q : VK) (E : XK), Room k (A.deeper (envOfC qual (defScope st) s.heap.objs.size f (.ref c))) → sp vs H Q E →
      ∃ t, PSsR (cxOf CX0 P w K mg base N qual (defScope st) f (.ref c) A outer s H E) (defBody st) t ∧ t (fun σ v H1 => ∃ v0, σ[i]? = some (some v0) ∧ ∀ (d : Addr) (o : Obj) (u : Value), (cxOf CX0 P w K mg base N qual (defScope st) f (.ref c) A outer s H E).env.cells.lookup y = some d → H1 d = none → o.data = .cell (some u) → RelV v0 u → Q v (upd H1 d (CellO d o))) (start N vs) H) : FnOk P w K mg base CX0 (k + 1) f fd ps sp := by
  obtain ⟨oc, od, kV, doc, pm, an, ct, osl, rfl, lk, hcd⟩ := F.ex
  refine ⟨len, fun A outer s H args us vs Q E hr e0 hbi r hsp => ?_⟩
  have hlen := len _ _ _ _ hsp
  have stay : ∀ b o, base.get? b = some o → s.heap.get? b = some o := fun b o q => (e0.bs b o q).1
  have kin : K.In s.heap := e0.mod.kin.keeps stay
  have kinds : ∀ z ∈ ps.zip us, (defScope st).names.lookup z.1 = some .local ∨ ((defScope st).names.lookup z.1 = some .cell ∧ ((cellsFrom (s.heap.objs.size + 1) (defScope st).names []).lookup z.1).isSome = true) := fun ⟨n, v⟩ hz =>
    (S.par n (List.of_mem_zip hz).1).imp id fun q => ⟨q, PySem.W.cellsFrom_some _ _ _ (.inl q)⟩
  refine codeAny_call_function hr.depth (kin _ _ lk) rfl S.co S.gen rfl (PySem.W.codeRec_of kin hcd) (hbi _ _ _ _ (wpAny_newFunctionEnv_cells S.kind kinds fun env henv s1 made => ?_))
  subst henv
  refine ⟨(e0.mod.nolimit.keeps stay).keeps made.toInCall.keep, codeAny_func ?_⟩
  obtain ⟨t, ht, hq⟩ := hb A outer s H vs Q E (hr.deeper _) hsp
  have J0 : Inv (cxOf CX0 P w K mg base N qual (defScope st) f (.ref c) A outer s H E) [] (start N vs) H s1 := inv_start S hr.hd e0 hlen r made
  refine wpAny_mono (ht.run [] s1 (start N vs) H _ J0 hq) (fun fl s' hs => ?_) fun er s' hs => hs
  obtain ⟨u, rfl, v, σ', H', J, rv, v0, hv0, q⟩ := hs
  obtain ⟨d, o, u0, hd, ho, hod, ru, nd⟩ := cell_at J hi (.inl hy) hv0
  have dge : s.heap.objs.size ≤ d := J.ok.cab y d rfl hd
  have nold : ∀ {b : Addr} {ob : Obj}, s.heap.get? b = some ob → b ≠ d := fun {b ob} e z => by
    have l := Heap.lt_size e
    rw [z] at l
    exact absurd (Nat.lt_of_lt_of_le l dge) (Nat.lt_irrefl _)
  have B := J.base
  refine ⟨v, upd H' d (CellO d o), J.os, J.bare, ⟨B.keep, B.slot, fun b ob e1 e2 e3 => ?_, B.there, fun b xs e => ?_, fun b ob z e => ?_, fun b ps' e => ?_⟩, hok_put J.hok nd ho, rv, q d o u0 hd nd hod ru⟩
  · rw [upd_ne (nold e1)]
    exact B.free b ob e1 e2 e3
  · have z := B.tups b xs e
    rw [upd_ne (ne_of_none z nd)]
    exact z
  · have z' := B.frzs b ob z e
    rw [upd_ne (ne_of_none z' nd)]
    exact z'
  · obtain ⟨more, z⟩ := B.tbls b ps' e
    exact ⟨more, by rw [upd_ne (ne_of_none z nd)]; exact z⟩
end RE
/-! sorted(set(xs)), xs a list of few whole numbers -/
namespace RE
open PySem PySem.Spec PyProof.Rows L2
abbrev emptySet (w : World) : Obj := { cls := .type "set", dict := none, data := .set #[] 0 (.fresh 0 0 (!w.params.followText "set-order")) }
section
variable {P : Program} {w : World} {A : Around} {E : Value → Shared → Prop} {s : Shared}
theorem call_set_few {l : Addr} {xs : Array Value} (ns : List Int) {Q : Value → Shared → Prop} (calm : A.handled = none) (at_ : s.heap.IsList l xs) (are : IntsAre xs.toList ns) (few : ns.length + 1 < scanBound)
    (then_ : ∀ (h' : Heap) (tk c : Nat), SetR w h' s.heap.objs.size (fun j => decide (j ∈ ns)) c → c ≤ ns.length → (∀ b o, s.heap.get? b = some o → h'.get? b = some o) → Q (.ref s.heap.objs.size) { s with heap := h', toks := tk }) :
    wpAny (model P w) A (call (.type "set") [.ref l]) Q E s := by
  have xsn : xs.size = ns.length := by have q := IntsAre.length are; rw [Array.length_toList] at q; exact q
  obtain ⟨c, tl, hmro⟩ := F.called_set.mro
  have made := F.called_set.made; have sub := F.called_set.sub
  refine wpAny_call (codeAny_of_tree ?_); show wpAny _ _ (callAny (.type "set") _) _ _ _
  refine wpAny_pure ⟨Code.quiet_builtin _ (by decide +kernel), codeAny_builtin F.entry_type_call ?_⟩; rw [Around.under_plain (weight_type_call_type "set" [.ref l] []) rfl]
  have n1 := F.called_set.notType; have n2 := F.called_set.canCreate; have n3 := F.typeCall_set_1 (.ref l)
  repeat (any_goals (first | assumption | wp_step))
  refine codeAny_mono (code_set_led1 (.ref l) (E := E) (Q₁ := fun z sz => z = .ref s.heap.objs.size ∧ sz = { s with heap := s.heap.push (emptySet w) }) ⟨rfl, rfl⟩) fun r1 sr hr => ?_
  cases r1 with
  | error e => exact hr
  | ok fl =>
    cases fl with
    | ret z =>
      obtain ⟨rfl, rfl⟩ := hr
      have gS : (s.heap.push (emptySet w)).get? s.heap.objs.size = some (emptySet w) := Heap.get?_push_size _ rfl
      have tS : Shared.TypeIs { s with heap := s.heap.push (emptySet w) } (.ref s.heap.objs.size) "set" := ⟨_, gS, rfl⟩
      have i1 := F.called_set.init.lookup; have i2 := F.called_set.init.bind (.ref s.heap.objs.size)
      repeat (any_goals (first | assumption | wp_step))
      refine codeAny_mono (codeAny_call_builtin (R := wants (fun r sr => r = .none ∧ ∃ h' tk c, sr = { s with heap := h', toks := tk } ∧ SetR w h' s.heap.objs.size (fun j => decide (j ∈ ns)) c ∧ c ≤ ns.length ∧ (∀ b o, s.heap.get? b = some o → h'.get? b = some o)) E) F.called_set.init.plain F.entry_set_init (check_set_init_1 tS ?_)) fun r2 s2 hr2 => ?_
      · obtain ⟨⟨ocls, odict, odata, oslots⟩, hol, hcl, nl, hdl⟩ := at_
        simp only at hcl hdl; subst hcl hdl
        have hol2 : (s.heap.push (emptySet w)).get? l = some { cls := .type "list", dict := odict, data := .seq xs nl, slots := oslots } := Heap.get?_push_of_some _ hol
        have s1 := F.sub_list_set; have s2 := F.sub_list_frozenset; have s3 : (Value.type "list" == Value.type "dict") = false := by decide
        have isl : (s.heap.push (emptySet w)).IsList l xs := ⟨_, hol2, rfl, nl, rfl⟩
        unfold Builtin.«set.__init__» noKeywords Builtin.Frozenset.updateFrom; generalize hPI : pyIter = PI; wp_walk; subst hPI
        refine wpAny_pyIter_list isl (wpAny_bind (wpAny_runValue ?_))
        have lS : l < s.heap.objs.size := Heap.lt_size hol
        have calm3 : A.in1.in1.in1.handled = none := by simp [calm]
        have neI : l ≠ (s.heap.push (emptySet w)).objs.size := by rw [Heap.size_push]; exact Nat.ne_of_lt (Nat.lt_succ_of_lt lS)
        have out : s.heap.objs.size ∉ [(s.heap.push (emptySet w)).objs.size, l] := by rw [Heap.size_push]; simp only [List.mem_cons, List.mem_singleton, List.not_mem_nil, or_false, not_or]; exact ⟨Nat.ne_of_lt (Nat.lt_succ_self _), Nat.ne_of_gt lS⟩
        have vals : ∀ (i : Nat) (v : Value), xs[i]? = some v → ∃ k t, ns[i]? = some k ∧ v = .int k t := fun i v hv => by
          have hi : i < ns.length := by rw [← xsn]; exact (Array.getElem?_eq_some_iff.mp hv).1
          obtain ⟨t, e⟩ := PyProof.Rows.IntsAre.int_at are i v (by rw [Array.getElem?_toList]; exact hv); refine ⟨ns[i], t, List.getElem?_eq_getElem hi, ?_⟩
          rw [e, List.getD_eq_getElem?_getD, List.getElem?_eq_getElem hi] <;> rfl
        refine set_update_ints ((Walks.list calm3 _ l neI xs).toS) s.heap.objs.size out ns xsn few vals (xs.size - 0) 0 _ (by omega) (Nat.zero_le _) ⟨⟨_, Heap.get?_push_size _ rfl, rfl, rfl⟩, isl.push _⟩ ⟨0, Nat.le_refl 0, setR_new_at (Heap.get?_push_of_some _ gS)⟩ ?_
        rintro ⟨h', g2, d2, tk2, os2⟩ c2 hm hc2 hS2
        obtain rfl : g2 = s.gens := hm.gens
        obtain rfl : d2 = s.drawn := hm.drawn
        obtain rfl : os2 = s.os := hm.os
        show wpAny _ _ _ _ _ _; refine wpAny_pure ?_; show wpAny _ _ (ret Value.none) _ _ _; rw [xsn] at hc2
        refine wpAny_pure ⟨rfl, h', tk2, c2, rfl, hS2, hc2, fun b o e => hm.heap b o ?_ (Heap.get?_push_of_some _ (Heap.get?_push_of_some _ e))⟩
        have lb : b < s.heap.objs.size := Heap.lt_size e
        rw [Heap.size_push]; simp only [List.mem_cons, List.mem_singleton, List.not_mem_nil, or_false, not_or]; exact ⟨Nat.ne_of_lt lb, Nat.ne_of_lt (Nat.lt_succ_of_lt lb)⟩
      · cases r2 with
        | error e => exact hr2
        | ok fl2 =>
          cases fl2 with
          | ret r =>
            obtain ⟨rfl, h', tk, c2, rfl, hS2, hc2, hk2⟩ := hr2
            repeat (any_goals (first | assumption | wp_step))
            exact then_ _ _ _ hS2 hc2 hk2
          | _ => exact hr2.elim
    | _ => exact hr.elim
end
/-- sorted(set(xs)) -/
def rSetI (K : PySem.W.Frag) (w : World) : List V → Hp → VK → Prop := fun vs H Q => ∃ (a : Addr) (ns : List Int), vs = [V.ref a] ∧ SqL K H a (ns.map V.int) ∧ ns.length < 60 ∧ ∀ (p : Addr) (n : Nat), H p = none → n ≤ ns.length → Q (.ref p) (upd H p (SetO w p (fun j => decide (j ∈ ns)) n))
theorem cr_setI {X : Cx} (hc : X.calm = true) : CallR X (.type "set") (rSetI X.K X.w) := by
  intro pins s σ H vs us Q I r h
  obtain ⟨a, ns, rfl, hs, h60, q⟩ := h
  obtain ⟨its, rv, pl, hz⟩ := I.list hs
  obtain ⟨u, rfl, ru⟩ := vals1 r
  obtain rfl : u = Value.ref a := ru
  refine call_set_few (P := X.prog) (w := X.w) ns (I.ok.hd hc) pl.isList (by simpa using rv.ints) (by unfold scanBound; omega) fun h' tk c R hcn k => ?_
  have nH : H s.heap.objs.size = none := I.hok.fresh (Nat.le_refl _)
  exact ⟨.ref s.heap.objs.size, _, I.laid (t' := tk) k (Nat.le_refl _) (setO_new R), rfl, q _ c nH hcn⟩
end RE
/-! a def called with a lambda that captures -/
namespace RE
open PySem PySem.Spec PyProof.Rows L2 LamX NdefX
section
variable {X : Cx} {k i j : Nat} {f cd pt : Addr} {fd : FuncData} {ps : List Str} {sp : Sp} {x y z q : Str} {p pos lpos : Pos} {es : List Expr} {tes : TA} {params : Arguments} {body : Expr} {scope : Scope} {T : List (Addr × Str)}
def tCallL1 (T : List (Addr × Str)) (q : Str) (params : Arguments) (body : Expr) (scope : Scope) (y : Str) (i : Nat) (sp : Sp) (tes : TA) : TE := fun σ H Q => ∀ cells, tCallC cells y i sp (tCons (tLamV T body fun c' => ⟨"<lambda>", q, params, [], scope, cloFrom cells scope.names [], c'⟩) tes) σ H Q
theorem pe_callL1 (hA : Away X) (F : FnOk X.prog X.w X.K X.mg X.base CX0 k f fd ps sp) (hr : Room k X.A) (hg : Gl X x) (hm : X.mg x = some (.ref f)) (hk : PySem.W.keepIn X.K (.ref f) = true) (hb : Binds X.K fd ps [])
    (hi : X.N[i]? = some y) (hy : X.env.scope.names.lookup y = some .cell ∨ X.env.scope.names.lookup y = some .free) (TB : TabB X.base X.mg cd pt) (hcode : X.env.code = .ref cd) (hq : X.env.qual ++ "<lambda>" = q) (hmT : (pt, q) ∈ T) (hu : ∀ p ∈ T, p.1 = pt → p.2 = q)
    (hfree : ∀ y ∈ scope.names, y.2 = .free → X.env.scope.names.lookup y.1 = some .cell ∨ X.env.scope.names.lookup y.1 = some .free) (hes : PA X es tes) (hdef : defaultsOf params X.env = ([], []) := by rfl) (hdb : (x == ("__debug__" : Str)) = false := by decide)
    (he : starEach (.Lambda params body scope lpos :: es) X.env = (false, eval (.Lambda params body scope lpos) X.env) :: starEach es X.env := by rfl) (hpl : (backTo pos (starEach es X.env)).any (·.1) = false := by rfl) :
    PE X (.Call (.Name x p) (.Lambda params body scope lpos :: es) [] pos) (tCallL1 T q params body scope y i sp tes) := by
  subst hq
  exact pe_any (te := fun cells => tCallC cells y i sp (tCons (tLamV T body fun c' => ⟨"<lambda>", X.env.qual ++ "<lambda>", params, [], scope, cloFrom cells scope.names [], c'⟩) tes)) (pe_callC1 hA F hr hg hm hk hb hi hy (pa_cons (pe_lam TB hcode hmT hu hfree hdef) hes) hdb he hpl)
def tCallL2 (T : List (Addr × Str)) (q : Str) (params : Arguments) (body : Expr) (scope : Scope) (y : Str) (i : Nat) (z : Str) (j : Nat) (sp : Sp) (tes : TA) : TE := fun σ H Q => ∀ cells, tCallC2 cells y i z j sp (tCons (tLamV T body fun c' => ⟨"<lambda>", q, params, [], scope, cloFrom cells scope.names [], c'⟩) tes) σ H Q
theorem pe_callL2 (hA : Away X) (F : FnOk X.prog X.w X.K X.mg X.base CX0 k f fd ps sp) (hr : Room k X.A) (hg : Gl X x) (hm : X.mg x = some (.ref f)) (hk : PySem.W.keepIn X.K (.ref f) = true) (hb : Binds X.K fd ps [])
    (hi : X.N[i]? = some y) (hy : X.env.scope.names.lookup y = some .cell ∨ X.env.scope.names.lookup y = some .free) (hj : X.N[j]? = some z) (hz : X.env.scope.names.lookup z = some .cell ∨ X.env.scope.names.lookup z = some .free) (hyz : y ≠ z)
    (TB : TabB X.base X.mg cd pt) (hcode : X.env.code = .ref cd) (hq : X.env.qual ++ "<lambda>" = q) (hmT : (pt, q) ∈ T) (hu : ∀ p ∈ T, p.1 = pt → p.2 = q)
    (hfree : ∀ y ∈ scope.names, y.2 = .free → X.env.scope.names.lookup y.1 = some .cell ∨ X.env.scope.names.lookup y.1 = some .free) (hes : PA X es tes) (hdef : defaultsOf params X.env = ([], []) := by rfl) (hdb : (x == ("__debug__" : Str)) = false := by decide)
    (he : starEach (.Lambda params body scope lpos :: es) X.env = (false, eval (.Lambda params body scope lpos) X.env) :: starEach es X.env := by rfl) (hpl : (backTo pos (starEach es X.env)).any (·.1) = false := by rfl) :
    PE X (.Call (.Name x p) (.Lambda params body scope lpos :: es) [] pos) (tCallL2 T q params body scope y i z j sp tes) := by
  subst hq
  exact pe_any (te := fun cells => tCallC2 cells y i z j sp (tCons (tLamV T body fun c' => ⟨"<lambda>", X.env.qual ++ "<lambda>", params, [], scope, cloFrom cells scope.names [], c'⟩) tes)) (pe_callC2 hA F hr hg hm hk hb hi hy hj hz hyz (pa_cons (pe_lam TB hcode hmT hu hfree hdef) hes) hdb he hpl)
end
end RE
/-! cells of the def told of in a comprehension's block that does not share them -/
namespace RE
open PySem PySem.Spec PyProof.Rows L2 LamX NdefX
/-- the cell y of the context X holds v, in the state s -/
def KC (X : Cx) (v : V) (y : Str) (s : Shared) (H : Hp) (fp : List Addr) : Prop := ∃ (c : Addr) (o : Obj) (u : Value), X.env.cells.lookup y = some c ∧ s.heap.get? c = some o ∧ o.data = .cell (some u) ∧ RelV v u ∧ H c = none ∧ X.base.objs.size ≤ c ∧ c ∉ frs X.stack ∧ c ∉ fp
def tLcK (i j : Nat) (wi : TI) (g : TG) (tt : TT) (te : V → V → TE) (vs : List Nat) : TE := fun σ H Q => ∃ v1 v2, σ[i]? = some (some v1) ∧ σ[j]? = some (some v2) ∧ tLc wi g tt (te v1 v2) vs σ H Q
section
variable {X : Cx} {pins : List (Addr × Obj)} {σ : L2.St} {H : Hp} {s : Shared}
/-- a comprehension in whose block two cells of the def are told of -/
theorem pe_lcK {elt tg iter : Expr} {ifs : List Expr} {scope : Scope} {own : List (Str × Nat)} {pos : Pos} {wi : TI} {g : TG} {tt : TT} {te : V → V → TE} {i j : Nat} {y1 y2 : Str} (hi1 : X.N[i]? = some y1) (hk1 : X.env.scope.names.lookup y1 = some .cell ∨ X.env.scope.names.lookup y1 = some .free) (hi2 : X.N[j]? = some y2) (hk2 : X.env.scope.names.lookup y2 = some .cell ∨ X.env.scope.names.lookup y2 = some .free) (hyz : y1 ≠ y2) (hc : X.calm = true) (hA : Away X) (hN : X.N.Nodup) (hi : PI X tg iter wi) (ok : BlkOk X.N X.env.scope scope own)
    (hg : ∀ (s : Shared) (H : Hp) (C : Addr) (cl : List (Str × Addr)) (fp : List Addr), PG (X.blk s H scope (compEnvC scope cl C X.env) fp) tg g)
    (ht : ∀ (s : Shared) (H : Hp) (C : Addr) (cl : List (Str × Addr)) (fp : List Addr), PTs (X.blk s H scope (compEnvC scope cl C X.env) fp) ifs tt)
    (he : ∀ (v1 v2 : V) (s : Shared) (H : Hp) (C : Addr) (cl : List (Str × Addr)) (fp : List Addr), KC X v1 y1 s H fp → KC X v2 y2 s H fp → (∀ c, X.env.cells.lookup y1 = some c → X.env.cells.lookup y2 ≠ some c) → PE (X.blk s H scope (compEnvC scope cl C X.env) fp) elt (te v1 v2)) (hs : ∀ x, foldedSetIterable iter X.env x = pure x := by intro _; rfl) :
    PE X (.ListComp elt [⟨tg, iter, ifs, 0⟩] scope pos) (tLcK i j wi g tt te (own.map (·.2))) := by
  refine ⟨fun pins s σ H Q I ⟨v1, v2, hv1, hv2, h⟩ => ?_⟩
  rw [eval_ListComp]
  have free1 : ∀ y ∈ scope.names, y.2 = .free → ∃ c, X.env.cells.lookup y.1 = some c := fun y hy e => (ok.free y hy e).elim (fun k => I.ok.has _ (.inl k)) (fun k => I.ok.has _ (.inr k))
  refine wpAny_comprehension_free (use := none) rfl hs (closure_ok free1) ok.kind (fun y hy e => by rw [ok.uniq y hy, e]) (thn (hi.run pins s σ H _ I h) fun xv sA hx => thn hx fun itv sB hB => ?_)
  obtain ⟨it, fp, tn, J, HB, e, IB, T, stB, fB, rest⟩ := hB
  subst e
  refine wpAny_newObj_type (newEnv_comp ?_) (by show 0 ≤ sizeLine; decide)
  generalize hD : sB.heap.objs.size = D
  have hDn : HB D = none := IB.hok.fresh (Nat.le_of_eq hD)
  obtain ⟨W, ⟨m0, w0⟩, turn⟩ := rest D hDn
  generalize hsC : ({ sB with heap := sB.heap.push { cls := .type "list", data := .seq ([] : List Value).toArray } } : Shared) = sC
  have hhC : sC.heap = sB.heap.push { cls := .type "list", data := .seq ([] : List Value).toArray } := by rw [← hsC]
  have IC : Inv X pins σ (upd HB D (.lst [])) sC := by
    rw [← hsC]
    refine IB.laid (t' := sB.toks) (fun b o e => Heap.get?_push_of_some _ e) (Nat.le_of_eq hD) ⟨Nat.zero_le _, [], 0, .nil, ?_⟩
    rw [← hD]
    exact Heap.get?_push_size _ rfl
  have below : ∀ b ∈ fp, b < sB.heap.objs.size := fun b hb => let ⟨_, e, _⟩ := T.obj _ _ stB b hb; Heap.lt_size e
  have fC : ∀ b ∈ fp, FpOk X pins (upd HB D (.lst [])) b ∧ b < sC.heap.objs.size := fun b hb => by
    have lt := below b hb
    refine ⟨⟨?_, (fB b hb).2⟩, by rw [hhC, Heap.size_push]; exact Nat.lt_succ_of_lt lt⟩
    rw [upd_ne (by rw [← hD]; exact Nat.ne_of_lt lt)]
    exact (fB b hb).1
  have stC : tn 0 sC.heap := T.keep _ _ _ stB fun b _ o e => by rw [hhC]; exact Heap.get?_push_of_some _ e
  have ID := block_start IC ok hN fC
  have kc : ∀ (v : V) (y : Str) (l : Nat), X.N[l]? = some y → (X.env.scope.names.lookup y = some .cell ∨ X.env.scope.names.lookup y = some .free) → σ[l]? = some (some v) → KC X v y sC (upd HB D (.lst [])) fp := fun v y l hl hk hv => by
    obtain ⟨c, o, u, hcc, ho, hod, ru, nc⟩ := cell_at IC hl hk hv
    obtain ⟨hbc, hfc⟩ := hA _ _ _ _ IC _ _ hcc
    exact ⟨c, o, u, hcc, ho, hod, ru, nc, hbc, hfc, fun hb => (fC c hb).1.2.2.2.2.1 y c hcc rfl⟩
  have pg := hg sC (upd HB D (.lst [])) sC.heap.objs.size (cellsFrom (sC.heap.objs.size + 1) scope.names (cloFrom X.env.cells scope.names [])) fp
  have pt := ht sC (upd HB D (.lst [])) sC.heap.objs.size (cellsFrom (sC.heap.objs.size + 1) scope.names (cloFrom X.env.cells scope.names [])) fp
  have pe := he v1 v2 sC (upd HB D (.lst [])) sC.heap.objs.size (cellsFrom (sC.heap.objs.size + 1) scope.names (cloFrom X.env.cells scope.names [])) fp (kc v1 y1 i hi1 hk1 hv1) (kc v2 y2 j hi2 hk2 hv2) (fun c h1 h2 => hyz (IC.ok.inj y1 y2 c h1 h2))
  show codeAny _ _ (.compStart (.ListComp elt [⟨tg, iter, ifs, 0⟩] scope pos) 0 (.ref it) (.ref D) (compEnvC scope (cellsFrom (sC.heap.objs.size + 1) scope.names (cloFrom X.env.cells scope.names [])) sC.heap.objs.size X.env)) (compPost (model X.prog X.w) X.A X.xe none (EP X pins σ Q) (.ref D) sC.heap.objs.size) { sC with heap := pushCells (sC.heap.push { cls := .type "dict", data := .dict #[] }) scope.names }
  have nofp : ∀ b ∈ fp, (upd HB D (.lst [])) b = none := fun b hb => (fC b hb).1.1
  generalize hce : compEnvC scope (cellsFrom (sC.heap.objs.size + 1) scope.names (cloFrom X.env.cells scope.names [])) sC.heap.objs.size X.env = ce at ID pg pt pe ⊢
  have cL : ce.locals = sC.heap.objs.size := by subst hce; rfl
  generalize hHC : upd HB D (.lst []) = HC at IC ID pg pt pe w0 nofp fC
  generalize hsD : ({ sC with heap := pushCells (sC.heap.push { cls := .type "dict", data := .dict #[] }) scope.names } : Shared) = sD at ID ⊢
  have stD : tn 0 sD.heap := T.keep _ _ _ stC fun b _ o e => by rw [← hsD]; exact pushCells_keeps _ _ _ _ (Heap.get?_push_of_some _ e)
  have fix : ∀ {σ' : L2.St} {H' : Hp} {s' : Shared}, Inv (X.blk sC HC scope ce fp) [] σ' H' s' → (∀ b ∈ fp, H' b = none) → ∀ b ∈ fp, FpOk (X.blk sC HC scope ce fp) [] H' b := fun {σ' H' s'} I' hn b hb =>
    ⟨hn b hb, (I'.ok.exf b hb).1, I'.ok.exfs b hb, .inl hb, fun x c e => (I'.ok.exf b hb).2 x c e, fun z hz => absurd (show z ∈ ([] : List (Addr × Obj)) ++ [] from hz) (List.not_mem_nil)⟩
  have loop : codeAny (model X.prog X.w) X.A (.compLoop (.ListComp elt [⟨tg, iter, ifs, 0⟩] scope pos) 0 (.ref it) (.ref D) ce) (compPost (model X.prog X.w) X.A X.xe none (EP X pins σ Q) (.ref D) sC.heap.objs.size) sD := by
    refine compLoop_any (fun n s' => ∃ i H', Inv (X.blk sC HC scope ce fp) [] (wipe σ (own.map (·.2))) H' s' ∧ tn i s'.heap ∧ (∀ b ∈ fp, H' b = none) ∧ W i n H') ?_ m0 ⟨0, HC, ID, stD, nofp, w0⟩
    rintro n s5 ⟨i, H5, I5, st5, n5, w5⟩
    rcases turn i n H5 w5 with ⟨stop, qq⟩ | ⟨go, Nx, hNx, step⟩
    · refine thnF (T.done (X.blk sC HC scope ce fp) rfl rfl rfl hc i [] s5 _ H5 (fun _ _ => False) I5 (fix I5 n5) st5 stop) fun r s6 ⟨hr, I6⟩ => ?_
      subst hr
      have I7 : Inv X pins σ H5 s6 := IC.call' (ch := fp) I6.os I6.base I6.hok I6.bare fun b hb => ⟨(fC b hb).1.2.2.2.1, (fC b hb).1.2.1, (fC b hb).1.2.2.2.2.1, (fC b hb).1.2.2.2.2.2⟩
      have nC : H5 sC.heap.objs.size = none := by
        have z : H5 ce.locals = none := I6.free
        rw [cL] at z
        exact z
      obtain ⟨m, hn, _⟩ := I6.loc
      have hn : s6.heap.Ns ce.locals m := hn
      rw [cL] at hn
      obtain ⟨f0, f1, f2, f3, f4, f5⟩ := IC.fpOk (Nat.le_refl _) nC
      exact ⟨m, hn, fun h'' sb => ⟨.ref D, H5, I7.turned (t' := s6.toks) (fun b o hb e => (sb.2 b hb).trans e) f0 f1 f3 f4 f5, rfl, qq⟩⟩
    · refine thnF (T.item (X.blk sC HC scope ce fp) rfl rfl rfl hc i [] s5 _ H5 (fun _ _ => False) I5 (fix I5 n5) st5 go) fun r s6 ⟨u, hr, h6⟩ => ?_
      subst hr
      refine thnF h6 fun _ s7 ⟨x, H7, I7, r7, y7, st7, n7⟩ => ?_
      have I7' := I7.pinned (fix I7 n7) (T.obj _ _ st7)
      refine thnF (pg.run _ s7 _ H7 x u _ I7' r7 (step x H7 y7)) fun _ s8 ⟨σ8, H8, I8, hw8, q8⟩ => ?_
      refine thnF (pt.run _ s8 σ8 H8 _ I8 q8) fun b s9 ⟨H9, I9, q9⟩ => ?_
      have fin : ∀ {s' : Shared} {H' : Hp}, Inv (X.blk sC HC scope ce fp) ([] ++ pinsAt fp s7.heap) σ8 H' s' → Nx H' → ∃ m, m < n ∧ ∃ i H', Inv (X.blk sC HC scope ce fp) [] (wipe σ (own.map (·.2))) H' s' ∧ tn i s'.heap ∧ (∀ b ∈ fp, H' b = none) ∧ W i m H' := fun {s' H'} I' nx => by
        obtain ⟨m', hm, w'⟩ := hNx H' nx
        have still : ∀ b ∈ fp, ∀ o, s7.heap.get? b = some o → s'.heap.get? b = some o ∧ H' b = none := fun b hb o e =>
          let z := I'.pin (b, o) (List.mem_append_right _ (List.mem_append_right _ (mem_pinsAt hb e)))
          ⟨z.1, z.2.1⟩
        have hl : (wipe σ (own.map (·.2))).length = σ8.length := by rw [← hw8, wipe_length]
        refine ⟨m', hm, i + 1, H', (I'.unpinned (pins := [])).weak hl (fun j v e => ?_), T.keep _ _ _ st7 fun b hb o e => (still b hb o e).1, fun b hb => ?_, w'⟩
        · rw [← hw8] at e
          exact (wipe_some e).1
        · obtain ⟨o, e, _⟩ := T.obj _ _ st7 b hb
          exact (still b hb o e).2
      cases b with
      | false =>
        simp only [Bool.false_eq_true, if_false] at q9 ⊢
        exact fin I9 q9
      | true =>
        simp only [if_true] at q9 ⊢
        refine thnF (pe.run _ s9 σ8 H9 _ I9 q9) fun z s10 ⟨yv, H10, I10, r10, acc, hD10, hz10, nx⟩ => ?_
        exact app_ok (X := X.blk sC HC scope ce fp) I10 hD10 hz10 r10 fun s11 I11 => fin I11 nx
  exact codeAny_compStart_list loop (T.self X.A 0 _ _ _ stD loop)
/-- a call in the block, the two cells made known -/
def tCallK (cells : List (Str × Addr)) (y z : Str) (v v' : V) (sp : Sp) (t : TA) : TE := fun σ H Q => t σ H fun vs H1 => ∀ (c : Addr) (o : Obj) (u : Value) (c' : Addr) (o' : Obj) (u' : Value), cells.lookup y = some c → cells.lookup z = some c' → c ≠ c' → H1 c = none → H1 c' = none →
  o.data = .cell (some u) → RelV v u → o'.data = .cell (some u') → RelV v' u' → sp vs (upd (upd H1 c (CellO c o)) c' (CellO c' o')) (fun x H' => H' c = some (CellO c o) ∧ H' c' = some (CellO c' o') ∧ Q x (lessH (lessH H' c') c)) E0
theorem pe_callK {k : Nat} {f : Addr} {fd : FuncData} {ps : List Str} {sp : Sp} {x y z : Str} {p pos : Pos} {e : Expr} {es : List Expr} {t : TA} {v v' : V} {s0 : Shared} {H0 : Hp} {scope : Scope} {cenv : Env} {fp : List Addr} (hk1 : KC X v y s0 H0 fp) (hk2 : KC X v' z s0 H0 fp) (hne : ∀ c, X.env.cells.lookup y = some c → X.env.cells.lookup z ≠ some c)
    (F : FnOk X.prog X.w X.K X.mg X.base CX0 k f fd ps sp) (hr : Room k X.A) (hg : Gl (X.blk s0 H0 scope cenv fp) x) (hm : X.mg x = some (.ref f)) (hk : PySem.W.keepIn X.K (.ref f) = true) (hb : Binds X.K fd ps []) (ha : PA (X.blk s0 H0 scope cenv fp) (e :: es) t)
    (hdb : (x == ("__debug__" : Str)) = false := by decide) (he : starEach (e :: es) cenv = (false, eval e cenv) :: starEach es cenv := by rfl) (hpl : (backTo pos (starEach es cenv)).any (·.1) = false := by rfl) :
    PE (X.blk s0 H0 scope cenv fp) (.Call (.Name x p) (e :: es) [] pos) (tCallK X.env.cells y z v v' sp t) := by
  refine ⟨fun pins s σ H Q I h => wpAny_Call_Name_kw (ld_glob I hg hm ?_ hdb)⟩
  refine PySem.W.callWith_K (h₀ := X.base) I.ok.mod.kin hk (thn (ha.run pos pins s σ H _ I h) fun us s1 ⟨vs, H1, I1, r, zz⟩ => ⟨I1.kIn, ?_⟩) he hpl
  obtain ⟨c, o, u, hcc, ho0, hod, ru, nc0, hbc, hfc, hpc⟩ := hk1
  obtain ⟨c', o', u', hcc', ho0', hod', ru', nc0', hbc', hfc', hpc'⟩ := hk2
  have ho : s1.heap.get? c = some o := I1.base.keep c o ho0 nc0 hfc hpc
  have nc : H1 c = none := I1.base.free c o ho0 nc0 hpc
  have ho' : s1.heap.get? c' = some o' := I1.base.keep c' o' ho0' nc0' hfc' hpc'
  have nc' : H1 c' = none := I1.base.free c' o' ho0' nc0' hpc'
  have ne : c ≠ c' := fun q => hne c hcc (by rw [q]; exact hcc')
  have h := zz c o u c' o' u' hcc hcc' ne nc nc' hod ru hod' ru'
  have n2 : upd H1 c (CellO c o) c' = none := (upd_ne ne.symm).trans nc'
  have e0 := env0_put (env0_put I1.env0 nc ho hbc hfc) n2 ho' hbc' hfc'
  have hl2 : us.length = ps.length := r.length.symm.trans (F.len _ _ _ _ h)
  have bb := hb s1 us I1.kIn (by rw [List.append_nil]; exact hl2)
  rw [List.append_nil] at bb
  refine wpAny_call (codeAny_mono (F.run X.A X.stack s1 _ ⟨us, []⟩ us vs _ E0 hr e0 bb r h) fun q s' hq => ?_)
  cases q with
  | error er => exact False.elim hq
  | ok fl =>
    cases fl with
    | ret u1 =>
      obtain ⟨v1, H', os, bare, un, hok, rv, hHc, hHc', q⟩ := hq
      have h1 : lessH H' c' c = some (CellO c o) := (lessH_ne ne).trans hHc
      have un1 := un_less un n2 ho' (hok c' _ hHc').1 hfc'
      have hok1 := hok_less hok hHc'
      exact I1.after ⟨v1, lessH (lessH H' c') c, os, bare, un_less un1 nc ho (hok1 c _ h1).1 hfc, hok_less hok1 h1, rv, q⟩
    | next => exact hq.elim
    | brk => exact hq.elim
    | cont => exact hq.elim
end
end RE
/-! plans: plain -/
namespace RE
open PySem PySem.Spec PyProof.Rows L2
/-- a line of a plan: where the stretch begins, where it ends, which end -/
abbrev Tri := Int × Int × Str
def triV (t : Tri) : List V := [.int t.1, .int t.2.1, .str t.2.2]
def sideOk (s : Str) : Bool := decide (s = "left") || decide (s = "right")
def triOk (n : Nat) (t : Tri) : Bool := decide (0 ≤ t.1) && (decide (t.1 < t.2.1) && (decide (t.2.1 ≤ (n : Int)) && sideOk t.2.2))
/-- not behind, by both numbers -/
def notAfter (a b : Int × Int) : Bool := if a.1 = b.1 then decide (a.2 ≤ b.2) else decide (a.1 ≤ b.1)
def lastBad (t : Tri) : Option (Int × Int) → Bool
  | none => false
  | some l => notAfter (t.1, t.2.1) l
def tabOk (n : Nat) : Option (Int × Int) → List Tri → Bool
  | _, [] => true
  | last, t :: r => triOk n t && (!lastBad t last && tabOk n (some (t.1, t.2.1)) r)
theorem tabOk_nil (n : Nat) (l : Option (Int × Int)) : tabOk n l [] = true := rfl
theorem tabOk_cons (n : Nat) (l : Option (Int × Int)) (t : Tri) (r : List Tri) : tabOk n l (t :: r) = (triOk n t && (!lastBad t l && tabOk n (some (t.1, t.2.1)) r)) := rfl
/-- the end that a plan tells for a stretch -/
def look (p : List Tri) (a b : Int) : Option Str := (p.reverse.find? fun t => decide (t.1 = a) && decide (t.2.1 = b)).map (·.2.2)
theorem look_nil (a b : Int) : look [] a b = none := rfl
theorem look_app (p : List Tri) (t : Tri) (a b : Int) : look (p ++ [t]) a b = if t.1 = a ∧ t.2.1 = b then some t.2.2 else look p a b := by
  unfold look
  rw [List.reverse_append, List.reverse_singleton, List.singleton_append, List.find?_cons]
  by_cases h : t.1 = a ∧ t.2.1 = b
  · rw [if_pos h, decide_eq_true h.1, decide_eq_true h.2]
    rfl
  · rw [if_neg h]
    have e : (decide (t.1 = a) && decide (t.2.1 = b)) = false := by
      by_cases c1 : t.1 = a
      · rw [decide_eq_false (fun c2 => h ⟨c1, c2⟩), Bool.and_false]
      · rw [decide_eq_false c1, Bool.false_and]
    rw [e]
theorem look_mem {p : List Tri} {a b : Int} {s : Str} (h : look p a b = some s) : (a, b, s) ∈ p := by
  unfold look at h
  obtain ⟨t, ht, rfl⟩ := Option.map_eq_some_iff.mp h
  have h1 := List.find?_some ht
  have h2 := List.mem_reverse.mp (List.mem_of_find?_eq_some ht)
  have h3 := Bool.and_eq_true_iff.mp h1
  have e1 : t.1 = a := of_decide_eq_true h3.1
  have e2 : t.2.1 = b := of_decide_eq_true h3.2
  subst e1 e2
  exact h2
theorem look_of {p : List Tri} {a b : Int} {s : Str} (h : (a, b, s) ∈ p) (u : ∀ s', (a, b, s') ∈ p → s' = s) : look p a b = some s := by
  cases e : look p a b with
  | some s' => rw [u s' (look_mem e)]
  | none =>
    unfold look at e
    have e' := Option.map_eq_none_iff.mp e
    have q := List.find?_eq_none.mp e' (a, b, s) (List.mem_reverse.mpr h)
    simp at q
def sideB (s : Str) : Bool := decide (s = "left")
theorem side_of {s : Str} (h : sideOk s = true) : s = sideS (sideB s) := by
  unfold sideOk at h
  unfold sideB
  by_cases c : s = "left"
  · rw [decide_eq_true c]
    exact c
  · rw [decide_eq_false c] at h ⊢
    exact of_decide_eq_true h
theorem sideB_sideS (b : Bool) : sideB (sideS b) = b := by cases b <;> decide +kernel
theorem sideOk_sideS (b : Bool) : sideOk (sideS b) = true := by cases b <;> decide +kernel
theorem tabOk_all {n : Nat} : ∀ {p : List Tri} {l : Option (Int × Int)}, tabOk n l p = true → ∀ t ∈ p, triOk n t = true
  | [], _, _, t, h => (nomatch h)
  | u :: r, l, h, t, ht => by
    rw [tabOk_cons] at h
    have h1 := Bool.and_eq_true_iff.mp h
    rcases List.mem_cons.mp ht with rfl | ht
    · exact h1.1
    · exact tabOk_all (Bool.and_eq_true_iff.mp h1.2).2 t ht
theorem triOk_side {n : Nat} {t : Tri} (h : triOk n t = true) : sideOk t.2.2 = true := (Bool.and_eq_true_iff.mp (Bool.and_eq_true_iff.mp (Bool.and_eq_true_iff.mp h).2).2).2
/-- the table as ends -/
def tabF (p : List Tri) (low behind : Nat) : Option Bool := (look p (low : Int) (behind : Int)).map sideB
/-- how much more the planner gets from a stretch at the least -/
def gotV (ns : List Int) (f : Nat → Nat → Option Bool) : Nat → Nat → Bool → Option Int
  | 0, _, _ => some 0
  | m + 1, low, true => (f low (low + (m + 1))).bind fun b => (gotV ns f m (lowOf b low) false).bind fun r => some (r + coinOf ns b low m)
  | m + 1, low, false => (gotV ns f m (low + 1) true).bind fun r1 => (gotV ns f m low true).bind fun r2 =>
      some (if r2 + -coinOf ns false low m < r1 + -coinOf ns true low m then r2 + -coinOf ns false low m else r1 + -coinOf ns true low m)
theorem gotV_zero (ns : List Int) (f : Nat → Nat → Option Bool) (low : Nat) (b : Bool) : gotV ns f 0 low b = some 0 := rfl
theorem gotV_mine (ns : List Int) (f : Nat → Nat → Option Bool) (m low : Nat) : gotV ns f (m + 1) low true = (f low (low + (m + 1))).bind fun b => (gotV ns f m (lowOf b low) false).bind fun r => some (r + coinOf ns b low m) := rfl
theorem gotV_his (ns : List Int) (f : Nat → Nat → Option Bool) (m low : Nat) : gotV ns f (m + 1) low false = (gotV ns f m (low + 1) true).bind fun r1 => (gotV ns f m low true).bind fun r2 =>
      some (if r2 + -coinOf ns false low m < r1 + -coinOf ns true low m then r2 + -coinOf ns false low m else r1 + -coinOf ns true low m) := rfl
def optV : Option Int → V
  | none => .non
  | some i => .int i
def plannedV (ns : List Int) (p : List Tri) (mine : Bool) : Option Int := if tabOk ns.length none p = true then gotV ns (tabF p) ns.length 0 mine else none
def showsV (ns : List Int) (p : List Tri) (first : Bool) (least : Int) : Bool :=
  match plannedV ns p first with
  | none => false
  | some v => if first then decide (least ≤ v) else decide (-v < least)
/-! ### plans that are told -/
def bestEnd (ns : List Int) (low m : Nat) : Bool := (ends ns (m + 1) low).headD true
theorem bestEnd_mem (ns : List Int) (low m : Nat) : bestEnd ns low m ∈ ends ns (m + 1) low := by
  unfold bestEnd
  cases e : ends ns (m + 1) low with
  | nil => exact absurd e (ends_ne ns m low)
  | cons b l => exact List.mem_cons_self
theorem bestEnd_at (ns : List Int) (low m : Nat) : (sidesV (ends ns (m + 1) low))[0]? = some (.str (sideS (bestEnd ns low m))) := by
  unfold bestEnd
  cases e : ends ns (m + 1) low with
  | nil => exact absurd e (ends_ne ns m low)
  | cons b l => rfl
def parOf (first : Bool) : Nat := if first then 0 else 1
/-- whether a line stands for the stretch of k + 1 coins from low on -/
def lineB (n : Nat) (first : Bool) (k : Nat) : Bool := decide ((n - (k + 1)) % 2 = parOf first)
def lineV (ns : List Int) (low k : Nat) : Tri := ((low : Int), ((low + (k + 1) : Nat) : Int), sideS (bestEnd ns low k))
def chunk (ns : List Int) (first : Bool) (low : Nat) (j : Nat) : List Tri := ((List.range j).filter (lineB ns.length first)).map (lineV ns low)
def planTo (ns : List Int) (first : Bool) (i : Nat) : List Tri := (List.range i).flatMap fun low => chunk ns first low (ns.length - low)
def planV (ns : List Int) (first : Bool) : List Tri := planTo ns first ns.length
theorem planTo_succ (ns : List Int) (first : Bool) (i : Nat) : planTo ns first (i + 1) = planTo ns first i ++ chunk ns first i (ns.length - i) := by
  unfold planTo
  rw [List.range_succ, List.flatMap_append]
  simp
theorem chunk_succ (ns : List Int) (first : Bool) (low j : Nat) : chunk ns first low (j + 1) = chunk ns first low j ++ (if lineB ns.length first j = true then [lineV ns low j] else []) := by
  unfold chunk
  rw [List.range_succ, List.filter_append, List.map_append]
  congr 1
  by_cases c : lineB ns.length first j = true
  · rw [if_pos c]
    simp [c]
  · rw [if_neg c]
    simp [c]
theorem chunk_zero (ns : List Int) (first : Bool) (low : Nat) : chunk ns first low 0 = [] := rfl
theorem mem_planV {ns : List Int} {first : Bool} {t : Tri} : t ∈ planV ns first ↔ ∃ low k, low + (k + 1) ≤ ns.length ∧ lineB ns.length first k = true ∧ t = lineV ns low k := by
  unfold planV planTo chunk
  constructor
  · intro h
    obtain ⟨low, h1, h⟩ := List.mem_flatMap.mp h
    obtain ⟨k, h2, rfl⟩ := List.mem_map.mp h
    have h3 := List.mem_filter.mp h2
    have h4 := List.mem_range.mp h3.1
    have h5 := List.mem_range.mp h1
    exact ⟨low, k, by omega, h3.2, rfl⟩
  · rintro ⟨low, k, h, hb, rfl⟩
    exact List.mem_flatMap.mpr ⟨low, List.mem_range.mpr (by omega), List.mem_map.mpr ⟨k, List.mem_filter.mpr ⟨List.mem_range.mpr (by omega), hb⟩, rfl⟩⟩
theorem chunk_le (ns : List Int) (first : Bool) (low j : Nat) : (chunk ns first low j).length ≤ j := by
  unfold chunk
  rw [List.length_map]
  have := List.length_filter_le (lineB ns.length first) (List.range j)
  rw [List.length_range] at this
  exact this
theorem planTo_le (ns : List Int) (first : Bool) : ∀ i, (planTo ns first i).length ≤ i * ns.length
  | 0 => Nat.zero_le _
  | i + 1 => by
    rw [planTo_succ, List.length_append, Nat.succ_mul]
    have h1 := planTo_le ns first i
    have h2 := chunk_le ns first i (ns.length - i)
    omega
/-- strictly ahead -/
def ahead (s t : Tri) : Prop := s.1 < t.1 ∨ (s.1 = t.1 ∧ s.2.1 < t.2.1)
theorem ahead_ok {s t : Tri} (h : ahead s t) : lastBad t (some (s.1, s.2.1)) = false := by
  unfold lastBad notAfter
  show (if t.1 = s.1 then decide (t.2.1 ≤ s.2.1) else decide (t.1 ≤ s.1)) = false
  rcases h with h | ⟨h1, h2⟩
  · rw [if_neg (by omega)]
    exact decide_eq_false (by omega)
  · rw [if_pos h1.symm]
    exact decide_eq_false (by omega)
theorem tabOk_of {n : Nat} : ∀ {p : List Tri} {l : Option (Int × Int)}, (∀ t ∈ p, triOk n t = true) → p.Pairwise ahead → (∀ t ∈ p, lastBad t l = false) → tabOk n l p = true
  | [], _, _, _, _ => rfl
  | t :: r, l, h1, h2, h3 => by
    have h2' := List.pairwise_cons.mp h2
    rw [tabOk_cons, h1 t List.mem_cons_self, h3 t List.mem_cons_self, tabOk_of (fun u hu => h1 u (List.mem_cons_of_mem _ hu)) h2'.2 (fun u hu => ahead_ok (h2'.1 u hu))]
    rfl
theorem planV_ahead (ns : List Int) (first : Bool) : (planV ns first).Pairwise ahead := by
  unfold planV planTo
  rw [List.pairwise_flatMap]
  refine ⟨fun low _ => ?_, ?_⟩
  · unfold chunk
    rw [List.pairwise_map]
    refine (List.Pairwise.filter _ List.pairwise_lt_range).imp ?_
    intro a b h
    exact .inr ⟨rfl, by show ((low + (a + 1) : Nat) : Int) < ((low + (b + 1) : Nat) : Int); omega⟩
  · refine List.pairwise_lt_range.imp ?_
    intro a b h x hx y hy
    unfold chunk at hx hy
    obtain ⟨k, _, rfl⟩ := List.mem_map.mp hx
    obtain ⟨k', _, rfl⟩ := List.mem_map.mp hy
    exact .inl (by show (a : Int) < (b : Int); omega)
theorem planV_ok (ns : List Int) (first : Bool) : tabOk ns.length none (planV ns first) = true := by
  refine tabOk_of (fun t ht => ?_) (planV_ahead ns first) (fun _ _ => rfl)
  obtain ⟨low, k, h, _, rfl⟩ := mem_planV.mp ht
  unfold triOk lineV
  show (decide ((0 : Int) ≤ (low : Int)) && (decide ((low : Int) < ((low + (k + 1) : Nat) : Int)) && (decide (((low + (k + 1) : Nat) : Int) ≤ (ns.length : Int)) && sideOk (sideS (bestEnd ns low k))))) = true
  rw [decide_eq_true (by omega), decide_eq_true (by omega), decide_eq_true (by omega), sideOk_sideS]
  rfl
theorem planV_look {ns : List Int} {first : Bool} {low k : Nat} (h : low + (k + 1) ≤ ns.length) (hb : lineB ns.length first k = true) : tabF (planV ns first) low (low + (k + 1)) = some (bestEnd ns low k) := by
  unfold tabF
  have e : look (planV ns first) (low : Int) ((low + (k + 1) : Nat) : Int) = some (sideS (bestEnd ns low k)) := by
    refine look_of (mem_planV.mpr ⟨low, k, h, hb, rfl⟩) fun s' hs => ?_
    obtain ⟨low', k', _, _, e⟩ := mem_planV.mp hs
    have e1 : (low : Int) = (low' : Int) := congrArg (fun t : Tri => t.1) e
    have e2 : ((low + (k + 1) : Nat) : Int) = ((low' + (k' + 1) : Nat) : Int) := congrArg (fun t : Tri => t.2.1) e
    have e3 : s' = sideS (bestEnd ns low' k') := congrArg (fun t : Tri => t.2.2) e
    have e4 : low' = low := by omega
    have e5 : k' = k := by omega
    rw [e3, e4, e5]
  rw [e]
  exact congrArg some (sideB_sideS _)
theorem gotV_plan (ns : List Int) (first : Bool) : ∀ m low, low + m ≤ ns.length →
    ((ns.length - m) % 2 = parOf first → gotV ns (tabF (planV ns first)) m low true = some (wv ns m low)) ∧
    (¬ (ns.length - m) % 2 = parOf first → gotV ns (tabF (planV ns first)) m low false = some (-wv ns m low))
  | 0, low, _ => by
    rw [wv_zero, gotV_zero, gotV_zero]
    exact ⟨fun _ => rfl, fun _ => rfl⟩
  | m + 1, low, h => by
    have hp : parOf first < 2 := by cases first <;> decide
    constructor
    · intro hpar
      rw [gotV_mine, planV_look h (decide_eq_true hpar)]
      have hb := ends_best (bestEnd_mem ns low m)
      have hl := lowOf_le (bestEnd ns low m) low m
      have ih := (gotV_plan ns first m (lowOf (bestEnd ns low m) low) (by omega)).2 (by omega)
      show ((gotV ns (tabF (planV ns first)) m (lowOf (bestEnd ns low m) low) false).bind fun r => some (r + coinOf ns (bestEnd ns low m) low m)) = _
      rw [ih]
      show some (-wv ns m (lowOf (bestEnd ns low m) low) + coinOf ns (bestEnd ns low m) low m) = _
      congr 1
      omega
    · intro hpar
      have ih1 := (gotV_plan ns first m (low + 1) (by omega)).1 (by omega)
      have ih2 := (gotV_plan ns first m low (by omega)).1 (by omega)
      rw [gotV_his, ih1, ih2]
      show some (if wv ns m low + -coinOf ns false low m < wv ns m (low + 1) + -coinOf ns true low m then wv ns m low + -coinOf ns false low m else wv ns m (low + 1) + -coinOf ns true low m) = _
      have e1 : coinOf ns true low m = ns.getD low 0 := rfl
      have e2 : coinOf ns false low m = ns.getD (low + m) 0 := rfl
      rw [wv_succ, e1, e2]
      congr 1
      split <;> split <;> omega
theorem planned_first (ns : List Int) : plannedV ns (planV ns true) true = some (wv ns ns.length 0) := by
  unfold plannedV
  rw [if_pos (planV_ok ns true)]
  exact (gotV_plan ns true ns.length 0 (by omega)).1 (by rw [Nat.sub_self]; rfl)
theorem planned_other (ns : List Int) : plannedV ns (planV ns false) false = some (-wv ns ns.length 0) := by
  unfold plannedV
  rw [if_pos (planV_ok ns false)]
  exact (gotV_plan ns false ns.length 0 (by omega)).2 (by rw [Nat.sub_self]; show ¬ (0 % 2 = 1); decide)
/-- a plan told for a row shows what it tells -/
theorem shows_first (ns : List Int) (least : Int) : showsV ns (planV ns true) true least = decide (least ≤ wv ns ns.length 0) := by
  unfold showsV
  rw [planned_first]
  rfl
theorem shows_other (ns : List Int) (least : Int) : showsV ns (planV ns false) false least = decide (wv ns ns.length 0 < least) := by
  unfold showsV
  rw [planned_other]
  show decide (- -wv ns ns.length 0 < least) = _
  rw [Int.neg_neg]
theorem shows_bad {ns : List Int} {p : List Tri} (h : tabOk ns.length none p = false) (first : Bool) (least : Int) : showsV ns p first least = false := by
  unfold showsV plannedV
  rw [h]
  rfl
theorem tabOk_bad {n : Nat} : ∀ {p : List Tri} {l : Option (Int × Int)}, (∃ t ∈ p, triOk n t = false) → tabOk n l p = false
  | [], _, h => by
    obtain ⟨_, h, _⟩ := h
    exact (nomatch h)
  | u :: r, l, h => by
    obtain ⟨t, ht, hb⟩ := h
    rw [tabOk_cons]
    rcases List.mem_cons.mp ht with rfl | ht
    · rw [hb]
      rfl
    · rw [tabOk_bad ⟨t, ht, hb⟩, Bool.and_false, Bool.and_false]
/-! ### lines in the heap -/
inductive Tris (H : Hp) : List V → List Tri → Prop
  | nil : Tris H [] []
  | cons {q : Addr} {t : Tri} {xs : List V} {p : List Tri} (h : H q = some (.tup (triV t))) (r : Tris H xs p) : Tris H (.ref q :: xs) (t :: p)
theorem Tris.mono {H H' : Hp} (s : Same H H') : ∀ {xs : List V} {p : List Tri}, Tris H xs p → Tris H' xs p
  | _, _, .nil => .nil
  | _, _, .cons h t => .cons (s _ _ h) (t.mono s)
theorem Tris.app {H : Hp} {ys : List V} {q : List Tri} (b : Tris H ys q) : ∀ {xs : List V} {p : List Tri}, Tris H xs p → Tris H (xs ++ ys) (p ++ q)
  | _, _, .nil => b
  | _, _, .cons h t => .cons h (b.app t)
theorem Tris.len {H : Hp} : ∀ {xs : List V} {p : List Tri}, Tris H xs p → xs.length = p.length
  | _, _, .nil => rfl
  | _, _, .cons _ t => by rw [List.length_cons, List.length_cons, t.len]
theorem Tris.getX {H : Hp} : ∀ {xs : List V} {p : List Tri} {i : Nat} {x : V}, Tris H xs p → xs[i]? = some x → ∃ q t, x = .ref q ∧ p[i]? = some t ∧ H q = some (.tup (triV t))
  | _, _, i, x, .nil, e => by simp at e
  | _, _, 0, x, .cons h t, e => by
    have e' := Option.some.inj e
    subst e'
    exact ⟨_, _, rfl, rfl, h⟩
  | _, _, i + 1, x, .cons h t, e => by
    obtain ⟨q, pl, h1, h2, h3⟩ := t.getX (i := i) (x := x) (by simpa using e)
    exact ⟨q, pl, h1, by simpa using h2, h3⟩
/-- what is a list is no line: a change of lists leaves lines -/
theorem Tris.butO {H H' : Hp} {l : Addr} {o : HO} (s : SameBut l H H') (hl : H l = some o) (ho : ∀ ys, HO.tup ys ≠ o) : ∀ {xs : List V} {p : List Tri}, Tris H xs p → Tris H' xs p
  | _, _, .nil => .nil
  | _, _, .cons h t => .cons (s _ _ (ne_of h hl (ho _)) h) (t.butO s hl ho)
theorem Tris.but {H H' : Hp} {l : Addr} {ys : List V} (s : SameBut l H H') (hl : H l = some (.lst ys)) {xs : List V} {p : List Tri} (h : Tris H xs p) : Tris H' xs p := h.butO s hl (by intro _ z; cases z)
/-- the table in the heap -/
structure Tab (p : List Tri) (kvs : List (List Key × V)) : Prop where
  val : ∀ a b : Int, valV kvs [Sum.inl a, Sum.inl b] = (look p a b).map V.str
  len : kvs.length ≤ p.length
theorem Tab.nil : Tab [] [] := ⟨fun _ _ => rfl, Nat.le_refl _⟩
theorem putK_len (kvs : List (List Key × V)) (k : List Key) (v : V) : (putK kvs k v).length ≤ kvs.length + 1 := by
  unfold putK
  split
  · rw [List.length_map]
    omega
  · rw [List.length_append]
    exact Nat.le_refl _
theorem Tab.put {p : List Tri} {kvs : List (List Key × V)} (h : Tab p kvs) (t : Tri) : Tab (p ++ [t]) (putK kvs [Sum.inl t.1, Sum.inl t.2.1] (.str t.2.2)) := by
  refine ⟨fun a b => ?_, ?_⟩
  · rw [valV_put, look_app, h.val]
    by_cases c : t.1 = a ∧ t.2.1 = b
    · rw [if_pos c, if_pos (by rw [c.1, c.2])]
      rfl
    · rw [if_neg c, if_neg]
      intro z
      have z1 := List.cons.inj z
      have z2 := List.cons.inj z1.2
      exact c ⟨(Sum.inl.inj z1.1).symm, (Sum.inl.inj z2.1).symm⟩
  · have := putK_len kvs [Sum.inl t.1, Sum.inl t.2.1] (.str t.2.2)
    have := h.len
    rw [List.length_append]
    show _ ≤ p.length + 1
    omega
end RE
/-! promises about plans -/
namespace RE
open PySem PySem.Spec PyProof.Rows L2
def spTable (K : PySem.W.Frag) : Sp := fun vs H Q _ => ∃ (a l : Addr) (ns : List Int) (xs : List V) (p : List Tri), vs = [.ref a, .ref l] ∧ SqL K H a (ns.map V.int) ∧ SqL K H l xs ∧ Tris H xs p ∧ p.length ≤ 10000 ∧
  (tabOk ns.length none p = false → ∀ H', Same H H' → Q .non H') ∧ (tabOk ns.length none p = true → ∀ H' d kvs, Same H H' → H d = none → H' d = some (.dT kvs) → Tab p kvs → Q (.ref d) H')
def spGot (K : PySem.W.Frag) (n : Nat) : Sp := fun vs H Q _ => ∃ (a d : Addr) (ns : List Int) (p : List Tri) (low m : Nat) (i j : Int) (kvs : List (List Key × V)) (mine : Bool), vs = [.ref a, .int i, .int j, .ref d, .bl mine] ∧ i = (low : Int) ∧ j = ((low + m : Nat) : Int) ∧
  SqL K H a (ns.map V.int) ∧ H d = some (.dT kvs) ∧ Tab p kvs ∧ (∀ t ∈ p, sideOk t.2.2 = true) ∧ low + m ≤ ns.length ∧ m < n ∧ ∀ H', Same H H' → Q (optV (gotV ns (tabF p) m low mine)) H'
def spPlanned (K : PySem.W.Frag) : Sp := fun vs H Q _ => ∃ (a l : Addr) (ns : List Int) (xs : List V) (p : List Tri) (mine : Bool), vs = [.ref a, .ref l, .bl mine] ∧ SqL K H a (ns.map V.int) ∧ SqL K H l xs ∧ Tris H xs p ∧ p.length ≤ 10000 ∧ ns.length ≤ 12 ∧
  ∀ H', Same H H' → Q (optV (plannedV ns p mine)) H'
/-- C(plan) -/
def spInit (K : PySem.W.Frag) (C : Addr) : Sp := fun vs H Q _ => ∃ (x l dx : Addr) (xs : List V), vs = [.ref x, .ref l] ∧ H x = some (.ins C dx []) ∧ SqL K H l xs ∧
  ∀ H' m, SameBut x H H' → H m = none → H' x = some (.ins C dx [("plan", .ref m)]) → H' m = some (.lst xs) → Q .non H'
def spShows (K : PySem.W.Frag) (C : Addr) (first : Bool) : Sp := fun vs H Q _ => ∃ (x a l dx : Addr) (ns : List Int) (xs : List V) (p : List Tri) (least : Int), vs = [.ref x, .ref a, .int least] ∧ H x = some (.ins C dx [("plan", .ref l)]) ∧ SqL K H a (ns.map V.int) ∧ H l = some (.lst xs) ∧ Tris H xs p ∧ p.length ≤ 10000 ∧ ns.length ≤ 12 ∧
  ∀ H', Same H H' → Q (.bl (showsV ns p first least)) H'
def spPlanOf (K : PySem.W.Frag) : Sp := fun vs H Q _ => ∃ (a : Addr) (ns : List Int) (first : Bool), vs = [.ref a, .bl first] ∧ SqL K H a (ns.map V.int) ∧ ns.length ≤ 12 ∧
  ∀ H' l xs, Same H H' → H l = none → H' l = some (.lst xs) → Tris H' xs (planV ns first) → Q (.ref l) H'
def NoWhole (K : PySem.W.Frag) (H : Hp) (x : V) : Prop := ∃ T, PV K H x T ∧ (T == "int") = false
def spJudged (K : PySem.W.Frag) (R N G D : Addr) : Sp := fun vs H Q E => ∃ x t, vs = [x, t] ∧ ((NoRow K H x ∧ ∀ H', Same H H' → E (.ref R) none H') ∨ ∃ ns, IsRow K H x ns ∧
  ((NoWhole K H t ∧ ∀ H', Same H H' → E (.ref N) none H') ∨ ∃ k : Int, t = .int k ∧
    ∀ H' o dx l xs, Same H H' → H o = none → H l = none → H' o = some (.ins (if decide (k ≤ wv ns ns.length 0) = true then G else D) dx [("plan", .ref l)]) → H' l = some (.lst xs) → Tris H' xs (planV ns (decide (k ≤ wv ns ns.length 0))) → Q (.ref o) H'))
/-- the lesser one -/
def minO : Option Int → Int → Int
  | none, z => z
  | some l, z => if z < l then z else l
def forMe (mine : Bool) (c : Int) : Int := if mine then c else -c
/-- what is left of a turn of got -/
def cont (ns : List Int) (f : Nat → Nat → Option Bool) (m low : Nat) (mine : Bool) : List Bool → Option Int → Option Int
  | [], lv => lv
  | b :: r, lv => (gotV ns f m (lowOf b low) (!mine)).bind fun x => cont ns f m low mine r (some (minO lv (x + forMe mine (coinOf ns b low m))))
theorem cont_nil (ns : List Int) (f : Nat → Nat → Option Bool) (m low : Nat) (mine : Bool) (lv : Option Int) : cont ns f m low mine [] lv = lv := rfl
theorem cont_cons (ns : List Int) (f : Nat → Nat → Option Bool) (m low : Nat) (mine b : Bool) (r : List Bool) (lv : Option Int) : cont ns f m low mine (b :: r) lv = (gotV ns f m (lowOf b low) (!mine)).bind fun x => cont ns f m low mine r (some (minO lv (x + forMe mine (coinOf ns b low m)))) := rfl
theorem cont_none {ns : List Int} {f : Nat → Nat → Option Bool} {m low : Nat} {mine b : Bool} {r : List Bool} {lv : Option Int} (h : gotV ns f m (lowOf b low) (!mine) = none) : cont ns f m low mine (b :: r) lv = none := by
  rw [cont_cons, h]
  rfl
theorem cont_some {ns : List Int} {f : Nat → Nat → Option Bool} {m low : Nat} {mine b : Bool} {r : List Bool} {lv : Option Int} {x : Int} (h : gotV ns f m (lowOf b low) (!mine) = some x) : cont ns f m low mine (b :: r) lv = cont ns f m low mine r (some (minO lv (x + forMe mine (coinOf ns b low m)))) := by
  rw [cont_cons, h]
  rfl
theorem cont_mine {ns : List Int} {f : Nat → Nat → Option Bool} {m low : Nat} {b : Bool} (h : f low (low + (m + 1)) = some b) : cont ns f m low true [b] none = gotV ns f (m + 1) low true := by
  rw [gotV_mine, h]
  show _ = (gotV ns f m (lowOf b low) false).bind _
  cases e : gotV ns f m (lowOf b low) false with
  | none => exact cont_none (mine := true) e
  | some x =>
    rw [cont_some (mine := true) e, cont_nil]
    rfl
theorem cont_his {ns : List Int} {f : Nat → Nat → Option Bool} {m low : Nat} : cont ns f m low false [true, false] none = gotV ns f (m + 1) low false := by
  rw [gotV_his]
  cases e : gotV ns f m (low + 1) true with
  | none => exact cont_none (mine := false) (b := true) e
  | some x =>
    rw [cont_some (mine := false) (b := true) e]
    show _ = (gotV ns f m low true).bind _
    cases e2 : gotV ns f m low true with
    | none => exact cont_none (mine := false) (b := false) e2
    | some y =>
      rw [cont_some (mine := false) (b := false) e2, cont_nil]
      rfl
end RE
/-! the laws' own walk of a plan: a line of stretches that wait -/
namespace RE
open PySem PySem.Spec PyProof.Rows L2
/-- where a stretch begins, how many coins, what was got before, whose turn -/
abbrev Ent := Nat × Nat × Int × Bool
def entV (e : Ent) : List V := [.int (e.1 : Int), .int ((e.1 + e.2.1 : Nat) : Int), .int e.2.2.1, .bl e.2.2.2]
inductive Stk (H : Hp) : List V → List Ent → Prop
  | nil : Stk H [] []
  | cons {q : Addr} {e : Ent} {xs : List V} {p : List Ent} (h : H q = some (.tup (entV e))) (r : Stk H xs p) : Stk H (.ref q :: xs) (e :: p)
theorem Stk.mono {H H' : Hp} (s : Same H H') : ∀ {xs : List V} {p : List Ent}, Stk H xs p → Stk H' xs p
  | _, _, .nil => .nil
  | _, _, .cons h t => .cons (s _ _ h) (t.mono s)
theorem Stk.butO {H H' : Hp} {l : Addr} {o : HO} (s : SameBut l H H') (hl : H l = some o) (ho : ∀ ys, HO.tup ys ≠ o) : ∀ {xs : List V} {p : List Ent}, Stk H xs p → Stk H' xs p
  | _, _, .nil => .nil
  | _, _, .cons h t => .cons (s _ _ (ne_of h hl (ho _)) h) (t.butO s hl ho)
theorem Stk.app {H : Hp} {ys : List V} {q : List Ent} (b : Stk H ys q) : ∀ {xs : List V} {p : List Ent}, Stk H xs p → Stk H (xs ++ ys) (p ++ q)
  | _, _, .nil => b
  | _, _, .cons h t => .cons h (b.app t)
theorem Stk.len {H : Hp} : ∀ {xs : List V} {p : List Ent}, Stk H xs p → xs.length = p.length
  | _, _, .nil => rfl
  | _, _, .cons _ t => by rw [List.length_cons, List.length_cons, t.len]
theorem Stk.snoc {H : Hp} : ∀ {p : List Ent} {e : Ent} {xs : List V}, Stk H xs (p ++ [e]) → ∃ ys q, xs = ys ++ [.ref q] ∧ Stk H ys p ∧ H q = some (.tup (entV e))
  | [], e, _, .cons h .nil => ⟨[], _, rfl, .nil, h⟩
  | f :: p, e, _, .cons h t => by
    obtain ⟨ys, q, rfl, h1, h2⟩ := t.snoc
    exact ⟨_ :: ys, q, rfl, .cons h h1, h2⟩
def entD (e : Ent) : PyData := .tuple [.int (e.1 : Int), .int ((e.1 + e.2.1 : Nat) : Int), .int e.2.2.1, .bool e.2.2.2]
theorem Stk.dp {K : PySem.W.Frag} {H : Hp} : ∀ {xs : List V} {p : List Ent}, Stk H xs p → DpAll K H xs (p.map entD)
  | _, _, .nil => .nil
  | _, _, .cons h t => .cons (.tup (SqT.of h) (.cons (.int _) (.cons (.int _) (.cons (.int _) (.cons (.bl _) .nil))))) t.dp
theorem sha_ents : ∀ p : List Ent, ShA (p.map entD) 1
  | [] => .nil 1
  | e :: p => .cons (Sh.tuple (.cons (sh_flat (x := .int _) rfl 0) (.cons (sh_flat (x := .int _) rfl 0) (.cons (sh_flat (x := .int _) rfl 0) (.cons (sh_flat (x := .bl _) rfl 0) (.nil 0)))))) (sha_ents p)
theorem eqv_ents (e : Ent) (p : List Ent) : PyData.eqv (.list ((e :: p).map entD)) (.list []) = false := by
  rw [PyData.eqv]
  rfl
theorem min3 (a b l : Int) : (if (if a < b then a else b) < l then (if a < b then a else b) else l) = (if b < (if a < l then a else l) then b else (if a < l then a else l)) := by
  by_cases h1 : a < b
  · rw [if_pos h1]
    by_cases h2 : a < l
    · rw [if_pos h2, if_neg (by omega)]
    · rw [if_neg h2, if_neg (by omega)]
  · rw [if_neg h1]
    by_cases h2 : a < l
    · rw [if_pos h2, if_pos (by omega)]
      by_cases h4 : b < a
      · rw [if_pos h4]
      · rw [if_neg h4]
        omega
    · rw [if_neg h2]
def resE (ns : List Int) (f : Nat → Nat → Option Bool) (e : Ent) : Option Int := (gotV ns f e.2.1 e.1 e.2.2.2).bind fun v => some (v + e.2.2.1)
/-- what comes of what was found and the stretches that wait, the next one first -/
def comb (ns : List Int) (f : Nat → Nat → Option Bool) : Option Int → List Ent → Option (Option Int)
  | found, [] => some found
  | found, e :: r => (resE ns f e).bind fun v => comb ns f (some (minO found v)) r
theorem comb_nil (ns : List Int) (f : Nat → Nat → Option Bool) (found : Option Int) : comb ns f found [] = some found := rfl
theorem comb_cons (ns : List Int) (f : Nat → Nat → Option Bool) (found : Option Int) (e : Ent) (r : List Ent) : comb ns f found (e :: r) = (resE ns f e).bind fun v => comb ns f (some (minO found v)) r := rfl
def child (ns : List Int) (low m : Nat) (sum : Int) (turn b : Bool) : Ent := (lowOf b low, m, sum + forMe turn (coinOf ns b low m), !turn)
theorem comb_leaf (ns : List Int) (f : Nat → Nat → Option Bool) (found : Option Int) (low : Nat) (sum : Int) (turn : Bool) (r : List Ent) : comb ns f found ((low, 0, sum, turn) :: r) = comb ns f (some (minO found sum)) r := by
  rw [comb_cons]
  show comb ns f (some (minO found (0 + sum))) r = _
  rw [Int.zero_add]
theorem comb_lacks {ns : List Int} {f : Nat → Nat → Option Bool} {found : Option Int} {low m : Nat} {sum : Int} {r : List Ent} (h : f low (low + (m + 1)) = none) : comb ns f found ((low, m + 1, sum, true) :: r) = none := by
  rw [comb_cons]
  unfold resE
  show ((gotV ns f (m + 1) low true).bind _).bind _ = none
  rw [gotV_mine, h]
  rfl
theorem comb_mine {ns : List Int} {f : Nat → Nat → Option Bool} {found : Option Int} {low m : Nat} {sum : Int} {r : List Ent} {b : Bool} (h : f low (low + (m + 1)) = some b) : comb ns f found ((low, m + 1, sum, true) :: r) = comb ns f found (child ns low m sum true b :: r) := by
  rw [comb_cons, comb_cons]
  unfold resE
  show ((gotV ns f (m + 1) low true).bind fun v => some (v + sum)).bind _ = ((gotV ns f m (lowOf b low) false).bind fun v => some (v + (sum + forMe true (coinOf ns b low m)))).bind _
  rw [gotV_mine, h]
  show (((gotV ns f m (lowOf b low) false).bind fun r => some (r + coinOf ns b low m)).bind fun v => some (v + sum)).bind _ = _
  cases gotV ns f m (lowOf b low) false with
  | none => rfl
  | some v =>
    show comb ns f (some (minO found (v + coinOf ns b low m + sum))) r = comb ns f (some (minO found (v + (sum + forMe true (coinOf ns b low m))))) r
    have e : v + coinOf ns b low m + sum = v + (sum + forMe true (coinOf ns b low m)) := by
      show v + coinOf ns b low m + sum = v + (sum + coinOf ns b low m)
      omega
    rw [e]
theorem comb_his {ns : List Int} {f : Nat → Nat → Option Bool} {found : Option Int} {low m : Nat} {sum : Int} {r : List Ent} : comb ns f found ((low, m + 1, sum, false) :: r) = comb ns f found (child ns low m sum false false :: child ns low m sum false true :: r) := by
  rw [comb_cons, comb_cons]
  unfold resE
  show ((gotV ns f (m + 1) low false).bind fun v => some (v + sum)).bind _ = ((gotV ns f m low true).bind fun v => some (v + (sum + forMe false (coinOf ns false low m)))).bind fun v => comb ns f (some (minO found v)) (child ns low m sum false true :: r)
  rw [gotV_his]
  cases e2 : gotV ns f m low true with
  | none =>
    cases gotV ns f m (low + 1) true with
    | none => rfl
    | some x => rfl
  | some y =>
    show _ = comb ns f (some (minO found (y + (sum + forMe false (coinOf ns false low m))))) (child ns low m sum false true :: r)
    rw [comb_cons]
    unfold resE
    show _ = ((gotV ns f m (low + 1) true).bind fun v => some (v + (sum + forMe false (coinOf ns true low m)))).bind _
    cases gotV ns f m (low + 1) true with
    | none => rfl
    | some x =>
      show comb ns f (some (minO found ((if y + -coinOf ns false low m < x + -coinOf ns true low m then y + -coinOf ns false low m else x + -coinOf ns true low m) + sum))) r = comb ns f (some (minO (some (minO found (y + (sum + -coinOf ns false low m)))) (x + (sum + -coinOf ns true low m)))) r
      congr 2
      cases found with
      | none =>
        show ((if y + -coinOf ns false low m < x + -coinOf ns true low m then y + -coinOf ns false low m else x + -coinOf ns true low m) + sum) = (if x + (sum + -coinOf ns true low m) < y + (sum + -coinOf ns false low m) then x + (sum + -coinOf ns true low m) else y + (sum + -coinOf ns false low m))
        split <;> split <;> omega
      | some l =>
        show (if (if y + -coinOf ns false low m < x + -coinOf ns true low m then y + -coinOf ns false low m else x + -coinOf ns true low m) + sum < l then (if y + -coinOf ns false low m < x + -coinOf ns true low m then y + -coinOf ns false low m else x + -coinOf ns true low m) + sum else l) =
          (if x + (sum + -coinOf ns true low m) < (if y + (sum + -coinOf ns false low m) < l then y + (sum + -coinOf ns false low m) else l) then x + (sum + -coinOf ns true low m) else (if y + (sum + -coinOf ns false low m) < l then y + (sum + -coinOf ns false low m) else l))
        generalize coinOf ns false low m = c1
        generalize coinOf ns true low m = c2
        have e3 : (if y + -c1 < x + -c2 then y + -c1 else x + -c2) + sum = (if y + (sum + -c1) < x + (sum + -c2) then y + (sum + -c1) else x + (sum + -c2)) := by
          split <;> split <;> omega
        rw [e3]
        exact min3 _ _ _
/-- how many stretches may come of one -/
def wt : Nat → Nat
  | 0 => 1
  | n + 1 => 2 * wt n + 1
theorem wt_pos : ∀ n, 0 < wt n
  | 0 => Nat.one_pos
  | n + 1 => Nat.succ_pos _
theorem wt_le : ∀ n, n ≤ 12 → wt n ≤ 8191
  | n, h => by
    have mono : ∀ k, k ≤ 12 → wt k ≤ 8191 := by decide
    exact mono n h
def wts : List Ent → Nat
  | [] => 0
  | e :: r => wt e.2.1 + wts r
theorem wts_len : ∀ st : List Ent, st.length ≤ wts st
  | [] => Nat.le_refl _
  | e :: r => by
    have h1 := wts_len r
    have h2 := wt_pos e.2.1
    show r.length + 1 ≤ wt e.2.1 + wts r
    omega
theorem all_true (n : Nat) : (List.replicate n true).all id = true := by
  induction n with
  | zero => rfl
  | succ n ih =>
    rw [List.replicate_succ, List.all_cons, ih]
    rfl
theorem planV_len {ns : List Int} {first : Bool} (h : ns.length ≤ 12) : (planV ns first).length ≤ 10000 := by
  have h1 := planTo_le ns first ns.length
  have h2 : ns.length * ns.length ≤ 12 * 12 := Nat.mul_le_mul h h
  show (planTo ns first ns.length).length ≤ 10000
  omega
theorem planV_len1 {ns : List Int} {first : Bool} (h : ns.length ≤ 12) (t : Tri) : (planV ns first ++ [t]).length ≤ 10000 := by
  have h1 := planTo_le ns first ns.length
  have h2 : ns.length * ns.length ≤ 12 * 12 := Nat.mul_le_mul h h
  rw [List.length_append]
  show (planTo ns first ns.length).length + 1 ≤ 10000
  omega
theorem tris_tuples {K : PySem.W.Frag} {H : Hp} {xs : List V} {p : List Tri} (h : Tris H xs p) {i : Nat} {x : V} (e : xs[i]? = some x) : TyX K H x (.type "tuple") := by
  obtain ⟨q, t, rfl, _, hq⟩ := h.getX e
  exact (pv_tup hq).ty
/-- a line for a stretch beyond -/
def farT : Tri := (0, 99, "left")
theorem far_bad {n : Nat} (h : n ≤ 12) (p : List Tri) : tabOk n none (p ++ [farT]) = false := by
  refine tabOk_bad ⟨farT, List.mem_append_right _ List.mem_cons_self, ?_⟩
  unfold triOk
  rw [show decide (farT.2.1 ≤ (n : Int)) = false from decide_eq_false (by show ¬ ((99 : Int) ≤ (n : Int)); omega)]
  rw [Bool.false_and, Bool.and_false, Bool.and_false]
def spLRight (K : PySem.W.Frag) : Sp := fun vs H Q _ => ∃ (r o : Addr) (ns ms : List Int) (least due : Int), vs = [.ref r, .int least, .int due, .ref o] ∧ H r = some (.lst (ns.map V.int)) ∧ RowOk ns ∧ H o = some (.lst (ms.map V.int)) ∧ RowOk ms ∧ due = wv ns ns.length 0 ∧ ∀ H', Same H H' → Q (.bl true) H'
def spSays : Sp := fun vs H Q _ => ∃ a : Bool, vs = [.bl a, .bl a] ∧ Q (.bl true) H
def spLGot (K : PySem.W.Frag) : Sp := spPlanned K
def spLShows (K : PySem.W.Frag) : Sp := fun vs H Q _ => ∃ (a l : Addr) (ns : List Int) (xs : List V) (p : List Tri) (mine : Bool) (least : Int), vs = [.ref a, .int least, .ref l, .bl mine] ∧ SqL K H a (ns.map V.int) ∧ SqL K H l xs ∧ Tris H xs p ∧ p.length ≤ 10000 ∧ ns.length ≤ 12 ∧
  ∀ H', Same H H' → Q (.bl (showsV ns p mine least)) H'
theorem inV_side (s : Str) : inV (.str s) [V.str "left", V.str "right"] = sideOk s := by
  unfold inV sideOk eqV
  by_cases h1 : s = "left"
  · subst h1
    decide +kernel
  · by_cases h2 : s = "right"
    · subst h2
      decide +kernel
    · have e1 : ¬ (("left" : Str) = s) := fun z => h1 z.symm
      have e2 : ¬ (("right" : Str) = s) := fun z => h2 z.symm
      simp [h1, h2, e1, e2]
end RE
/-! plans made by hand: all stretches with one end; parts of plans; plans as data -/
namespace RE
open PySem PySem.Spec PyProof.Rows L2
def allRow (side : Str) (low k : Nat) : Tri := ((low : Int), ((low + (k + 1) : Nat) : Int), side)
def allCh (side : Str) (low j : Nat) : List Tri := (List.range j).map (allRow side low)
def allTo (side : Str) (n i : Nat) : List Tri := (List.range i).flatMap fun low => allCh side low (n - low)
theorem allCh_zero (side : Str) (low : Nat) : allCh side low 0 = [] := rfl
theorem allCh_succ (side : Str) (low j : Nat) : allCh side low (j + 1) = allCh side low j ++ [allRow side low j] := by
  unfold allCh
  rw [List.range_succ, List.map_append]
  rfl
theorem allTo_succ (side : Str) (n i : Nat) : allTo side n (i + 1) = allTo side n i ++ allCh side i (n - i) := by
  unfold allTo
  rw [List.range_succ, List.flatMap_append]
  simp
theorem allCh_len (side : Str) (low j : Nat) : (allCh side low j).length = j := by
  unfold allCh
  rw [List.length_map, List.length_range]
theorem allTo_le (side : Str) (n : Nat) : ∀ i, (allTo side n i).length ≤ i * n
  | 0 => Nat.zero_le _
  | i + 1 => by
    rw [allTo_succ, List.length_append, allCh_len, Nat.succ_mul]
    have := allTo_le side n i
    omega
theorem allTo_side (side : Str) (n i : Nat) : ∀ t ∈ allTo side n i, t.2.2 = side := by
  intro t h
  unfold allTo allCh at h
  obtain ⟨low, _, h⟩ := List.mem_flatMap.mp h
  obtain ⟨k, _, rfl⟩ := List.mem_map.mp h
  rfl
def spLAll (K : PySem.W.Frag) : Sp := fun vs H Q _ => ∃ (a : Addr) (ns : List Int) (side : Str), vs = [.ref a, .str side] ∧ SqL K H a (ns.map V.int) ∧ ns.length ≤ 12 ∧
  ∀ H' l xs, Same H H' → H l = none → H' l = some (.lst xs) → Tris H' xs (allTo side ns.length ns.length) → Q (.ref l) H'
def spMAll (K : PySem.W.Frag) : Sp := fun vs H Q _ => ∃ (n : Nat) (side : Str), vs = [.int (n : Int), .str side] ∧ n ≤ 12 ∧
  ∀ H' l xs, Same H H' → H l = none → H' l = some (.lst xs) → Tris H' xs (allTo side n n) → Q (.ref l) H'
/-! ### parts -/
theorem Tris.drop {H : Hp} : ∀ (k : Nat) {xs : List V} {p : List Tri}, Tris H xs p → Tris H (xs.drop k) (p.drop k)
  | 0, _, _, h => h
  | _ + 1, _, _, .nil => .nil
  | k + 1, _, _, .cons _ t => t.drop k
theorem Tris.take {H : Hp} : ∀ (k : Nat) {xs : List V} {p : List Tri}, Tris H xs p → Tris H (xs.take k) (p.take k)
  | 0, _, _, _ => .nil
  | _ + 1, _, _, .nil => .nil
  | k + 1, _, _, .cons h t => .cons h (t.take k)
theorem Tris.rev {H : Hp} : ∀ {xs : List V} {p : List Tri}, Tris H xs p → Tris H xs.reverse p.reverse
  | _, _, .nil => .nil
  | _, _, .cons h t => by
    rw [List.reverse_cons, List.reverse_cons]
    exact Tris.app (.cons h .nil) t.rev
/-- a plan whose texts are plain -/
structure PlanIn (H : Hp) (xs : List V) (p : List Tri) : Prop where
  tris : Tris H xs p
  len : p.length ≤ 1000
  txt : ∀ t ∈ p, PyData.strOk t.2.2 = true
theorem PlanIn.mono {H H' : Hp} (s : Same H H') {xs : List V} {p : List Tri} (h : PlanIn H xs p) : PlanIn H' xs p := ⟨h.tris.mono s, h.len, h.txt⟩
theorem PlanIn.nil (H : Hp) : PlanIn H [] [] := ⟨.nil, Nat.zero_le _, fun _ h => (nomatch h)⟩
theorem PlanIn.cut {H : Hp} {xs : List V} {p : List Tri} (h : PlanIn H xs p) (lo hi : Option Int) : ∃ p', PlanIn H (cutV xs lo hi) p' ∧ p'.length ≤ p.length := by
  unfold cutV
  refine ⟨_, ⟨(h.tris.drop _).take _, ?_, fun t ht => h.txt t (List.mem_of_mem_drop (List.mem_of_mem_take ht))⟩, ?_⟩
  · rw [List.length_take, List.length_drop]
    have := h.len
    omega
  · rw [List.length_take, List.length_drop]
    omega
theorem planV_144 {ns : List Int} {first : Bool} (h : ns.length ≤ 12) : (planV ns first).length ≤ 144 := by
  have h1 := planTo_le ns first ns.length
  have h2 : ns.length * ns.length ≤ 12 * 12 := Nat.mul_le_mul h h
  show (planTo ns first ns.length).length ≤ 144
  omega
theorem PlanIn.rev {H : Hp} {xs : List V} {p : List Tri} (h : PlanIn H xs p) : PlanIn H xs.reverse p.reverse := ⟨h.tris.rev, by rw [List.length_reverse]; exact h.len, fun t ht => h.txt t (List.mem_reverse.mp ht)⟩
theorem strOk_side (b : Bool) : PyData.strOk (sideS b) = true := by cases b <;> decide +kernel
theorem plan_in {H : Hp} {ns : List Int} {first : Bool} {xs : List V} (h : ns.length ≤ 12) (t : Tris H xs (planV ns first)) : PlanIn H xs (planV ns first) := by
  refine ⟨t, ?_, fun t ht => ?_⟩
  · have h1 := planTo_le ns first ns.length
    have h2 : ns.length * ns.length ≤ 12 * 12 := Nat.mul_le_mul h h
    show (planTo ns first ns.length).length ≤ 1000
    omega
  · obtain ⟨low, k, _, _, rfl⟩ := mem_planV.mp ht
    exact strOk_side _
theorem all_in {H : Hp} {n : Nat} {side : Str} {xs : List V} (h : n ≤ 12) (hs : PyData.strOk side = true) (t : Tris H xs (allTo side n n)) : PlanIn H xs (allTo side n n) := by
  refine ⟨t, ?_, fun t ht => ?_⟩
  · have h1 := allTo_le side n n
    have h2 : n * n ≤ 12 * 12 := Nat.mul_le_mul h h
    omega
  · rw [allTo_side side n n t ht]
    exact hs
theorem one_in {H : Hp} {q : Addr} {a b : Int} {s : Str} (h : H q = some (.tup [.int a, .int b, .str s])) (hs : PyData.strOk s = true) : PlanIn H [.ref q] [(a, b, s)] :=
  ⟨.cons (t := (a, b, s)) h .nil, by show 1 ≤ 1000; decide, fun t ht => by rw [List.mem_singleton] at ht; subst ht; exact hs⟩
theorem PlanIn.app {H : Hp} {xs ys : List V} {p q : List Tri} (h : PlanIn H xs p) (k : PlanIn H ys q) (l : p.length + q.length ≤ 1000) : PlanIn H (xs ++ ys) (p ++ q) :=
  ⟨Tris.app k.tris h.tris, by rw [List.length_append]; exact l, fun t ht => (List.mem_append.mp ht).elim (h.txt t) (k.txt t)⟩
theorem PlanIn.but {H H' : Hp} {l : Addr} {ys : List V} (s : SameBut l H H') (hl : H l = some (.lst ys)) {xs : List V} {p : List Tri} (h : PlanIn H xs p) : PlanIn H' xs p := ⟨h.tris.but s hl, h.len, h.txt⟩
theorem PlanIn.butO {H H' : Hp} {l : Addr} {o : HO} (s : SameBut l H H') (hl : H l = some o) (ho : ∀ ys, HO.tup ys ≠ o) {xs : List V} {p : List Tri} (h : PlanIn H xs p) : PlanIn H' xs p := ⟨h.tris.butO s hl ho, h.len, h.txt⟩
/-! ### as data -/
def triD (t : Tri) : PyData := .tuple [.int t.1, .int t.2.1, .str t.2.2]
theorem dp_tris {K : PySem.W.Frag} {H : Hp} : ∀ {xs : List V} {p : List Tri}, Tris H xs p → DpAll K H xs (p.map triD)
  | _, _, .nil => .nil
  | _, _, .cons h t => .cons (.tup (SqT.of h) (.cons (.int _) (.cons (.int _) (.cons (.str _) .nil)))) (dp_tris t)
theorem sha_tris : ∀ (p : List Tri), (∀ t ∈ p, PyData.strOk t.2.2 = true) → ShA (p.map triD) 1
  | [], _ => .nil 1
  | t :: p, h => .cons (Sh.tuple (.cons (sh_flat (x := .int _) rfl 0) (.cons (sh_flat (x := .int _) rfl 0) (.cons (sh_flat (x := .str t.2.2) (h t List.mem_cons_self) 0) (.nil 0))))) (sha_tris p fun u hu => h u (List.mem_cons_of_mem _ hu))
/-- a list of plans -/
inductive Plans (H : Hp) : List V → Prop
  | nil : Plans H []
  | cons {l : Addr} {ys xs : List V} {p : List Tri} (h : H l = some (.lst ys)) (i : PlanIn H ys p) (t : Plans H xs) : Plans H (.ref l :: xs)
theorem Plans.mono {H H' : Hp} (s : Same H H') : ∀ {xs : List V}, Plans H xs → Plans H' xs
  | _, .nil => .nil
  | _, .cons h i t => .cons (s _ _ h) (i.mono s) (t.mono s)
theorem Plans.get {H : Hp} : ∀ {xs : List V} {i : Nat} {x : V}, Plans H xs → xs[i]? = some x → ∃ l ys p, x = .ref l ∧ H l = some (.lst ys) ∧ PlanIn H ys p
  | _, i, x, .nil, e => by simp at e
  | _, 0, x, .cons h i t, e => by
    have e' := Option.some.inj e
    subst e'
    exact ⟨_, _, _, rfl, h, i⟩
  | _, i + 1, x, .cons h _ t, e => t.get (i := i) (x := x) (by simpa using e)
end RE
/-! rows that rise by as much, alike ones: plain -/
namespace RE
open PySem PySem.Spec PyProof.Rows L2
/-- coins that rise by s from c on -/
def riseRow (c s : Int) (n : Nat) : List Int := (List.range n).map fun (i : Nat) => c + s * (i : Int)
theorem rise_len (c s : Int) (n : Nat) : (riseRow c s n).length = n := by
  unfold riseRow
  rw [List.length_map, List.length_range]
theorem rise_get {c s : Int} {n i : Nat} (h : i < n) : (riseRow c s n).getD i 0 = c + s * (i : Int) := by
  unfold riseRow
  rw [List.getD_eq_getElem?_getD, List.getElem?_map, List.getElem?_range h]
  rfl
theorem half (n : Nat) : ∃ k, n = 2 * k ∨ n = 2 * k + 1 := ⟨n / 2, by omega⟩
/-- k times s, as a sum -/
def tms (k : Nat) (s : Int) : Int := (k : Int) * s
theorem tms_zero (s : Int) : tms 0 s = 0 := by unfold tms; simp
theorem tms_succ (k : Nat) (s : Int) : tms (k + 1) s = tms k s + s := by
  unfold tms
  rw [show ((k + 1 : Nat) : Int) = (k : Int) + 1 by omega, Int.add_mul, Int.one_mul]
theorem tms_add (a b : Nat) (s : Int) : tms (a + b) s = tms a s + tms b s := by
  unfold tms
  rw [show ((a + b : Nat) : Int) = (a : Int) + (b : Int) by omega, Int.add_mul]
theorem tms_pos {k : Nat} {s : Int} (h : 0 < s) : 0 ≤ tms k s := Int.mul_nonneg (by omega) (by omega)
theorem tms_pos1 {k : Nat} {s : Int} (h : 0 < s) : 0 < tms (k + 1) s := by
  rw [tms_succ]
  have := tms_pos (k := k) h
  omega
theorem rise_at {c s : Int} {n i : Nat} (h : i < n) : (riseRow c s n).getD i 0 = c + tms i s := by
  rw [rise_get h]
  unfold tms
  rw [Int.mul_comm]
/-- both ways' worths -/
theorem rise_wv {c s : Int} {n : Nat} (hs : 0 < s) : ∀ k low, (low + 2 * k ≤ n → wv (riseRow c s n) (2 * k) low = tms k s) ∧ (low + (2 * k + 1) ≤ n → wv (riseRow c s n) (2 * k + 1) low = c + tms (low + k) s)
  | 0, low => by
    refine ⟨fun _ => by rw [tms_zero]; exact wv_zero _ _, fun h => ?_⟩
    show wv (riseRow c s n) (0 + 1) low = _
    rw [wv_succ, wv_zero, wv_zero, Nat.add_zero, rise_at (by omega), if_neg (by omega)]
    simp
  | k + 1, low => by
    have even : low + 2 * (k + 1) ≤ n → wv (riseRow c s n) (2 * (k + 1)) low = tms (k + 1) s := by
      intro h
      show wv (riseRow c s n) (2 * k + 1 + 1) low = _
      have h1 := (rise_wv (c := c) (n := n) hs k low).2 (by omega)
      have h2 := (rise_wv (c := c) (n := n) hs k (low + 1)).2 (by omega)
      rw [wv_succ, h1, h2, rise_at (by omega), rise_at (by omega)]
      have e1 : tms (low + (2 * k + 1)) s = tms low s + tms k s + tms (k + 1) s := by rw [show low + (2 * k + 1) = low + k + (k + 1) by omega, tms_add, tms_add]
      have e2 : tms (low + k) s = tms low s + tms k s := tms_add _ _ _
      have e3 : tms (low + 1 + k) s = tms low s + tms (k + 1) s := by rw [show low + 1 + k = low + (k + 1) by omega, tms_add]
      have p := tms_pos1 (k := k) hs
      rw [e1, e2, e3, if_pos (by omega)]
      omega
    refine ⟨even, fun h => ?_⟩
    have g1 := even (by omega)
    have g2 : wv (riseRow c s n) (2 * (k + 1)) (low + 1) = tms (k + 1) s := by
      show wv (riseRow c s n) (2 * k + 1 + 1) (low + 1) = _
      have h1 := (rise_wv (c := c) (n := n) hs k (low + 1)).2 (by omega)
      have h2 := (rise_wv (c := c) (n := n) hs k (low + 1 + 1)).2 (by omega)
      rw [wv_succ, h1, h2, rise_at (by omega), rise_at (by omega)]
      have e1 : tms (low + 1 + (2 * k + 1)) s = tms (low + 1) s + tms k s + tms (k + 1) s := by rw [show low + 1 + (2 * k + 1) = low + 1 + k + (k + 1) by omega, tms_add, tms_add]
      have e2 : tms (low + 1 + k) s = tms (low + 1) s + tms k s := tms_add _ _ _
      have e3 : tms (low + 1 + 1 + k) s = tms (low + 1) s + tms (k + 1) s := by rw [show low + 1 + 1 + k = low + 1 + (k + 1) by omega, tms_add]
      have p := tms_pos1 (k := k) hs
      rw [e1, e2, e3, if_pos (by omega)]
      omega
    rw [wv_succ, g1, g2, rise_at (by omega), rise_at (by omega)]
    have e1 : tms (low + 2 * (k + 1)) s = tms low s + tms (k + 1) s + tms (k + 1) s := by rw [show low + 2 * (k + 1) = low + (k + 1) + (k + 1) by omega, tms_add, tms_add]
    have e2 : tms (low + (k + 1)) s = tms low s + tms (k + 1) s := tms_add _ _ _
    have p := tms_pos1 (k := k) hs
    rw [e1, e2, if_pos (by omega)]
    omega
/-- the right end is best of each stretch -/
theorem rise_right {c s : Int} {n : Nat} (hs : 0 < s) (m low : Nat) (h : low + (m + 1) ≤ n) : coinOf (riseRow c s n) false low m - wv (riseRow c s n) m (lowOf false low) = wv (riseRow c s n) (m + 1) low := by
  show (riseRow c s n).getD (low + m) 0 - wv (riseRow c s n) m low = _
  obtain ⟨k, rfl | rfl⟩ := half m
  · have h1 := (rise_wv (c := c) (n := n) hs k low).1 (by omega)
    have h2 := (rise_wv (c := c) (n := n) hs k low).2 (by omega)
    rw [h1, h2, rise_at (by omega)]
    have e1 : tms (low + 2 * k) s = tms low s + tms k s + tms k s := by rw [show low + 2 * k = low + k + k by omega, tms_add, tms_add]
    have e2 : tms (low + k) s = tms low s + tms k s := tms_add _ _ _
    omega
  · have h1 := (rise_wv (c := c) (n := n) hs k low).2 (by omega)
    have h2 := (rise_wv (c := c) (n := n) hs (k + 1) low).1 (by omega)
    have h2' : wv (riseRow c s n) (2 * k + 1 + 1) low = tms (k + 1) s := h2
    rw [h1, h2', rise_at (by omega)]
    have e1 : tms (low + (2 * k + 1)) s = tms low s + tms k s + tms (k + 1) s := by rw [show low + (2 * k + 1) = low + k + (k + 1) by omega, tms_add, tms_add]
    have e2 : tms (low + k) s = tms low s + tms k s := tms_add _ _ _
    omega
/-- the left one is not, but of one coin -/
theorem rise_left {c s : Int} {n : Nat} (hs : 0 < s) (m low : Nat) (h : low + (m + 1 + 1) ≤ n) : ¬ coinOf (riseRow c s n) true low (m + 1) - wv (riseRow c s n) (m + 1) (lowOf true low) = wv (riseRow c s n) (m + 1 + 1) low := by
  show ¬ (riseRow c s n).getD low 0 - wv (riseRow c s n) (m + 1) (low + 1) = _
  obtain ⟨k, rfl | rfl⟩ := half m
  · have h1 := (rise_wv (c := c) (n := n) hs k (low + 1)).2 (by omega)
    have h2 : wv (riseRow c s n) (2 * k + 1 + 1) low = tms (k + 1) s := (rise_wv (c := c) (n := n) hs (k + 1) low).1 (by omega)
    rw [h1, h2, rise_at (by omega)]
    have e3 : tms (low + 1 + k) s = tms low s + tms (k + 1) s := by rw [show low + 1 + k = low + (k + 1) by omega, tms_add]
    have p := tms_pos1 (k := k) hs
    omega
  · have h1 : wv (riseRow c s n) (2 * k + 1 + 1) (low + 1) = tms (k + 1) s := (rise_wv (c := c) (n := n) hs (k + 1) (low + 1)).1 (by omega)
    have h2 : wv (riseRow c s n) (2 * k + 1 + 1 + 1) low = c + tms (low + (k + 1)) s := (rise_wv (c := c) (n := n) hs (k + 1) low).2 (by omega)
    rw [h1, h2, rise_at (by omega)]
    have e2 : tms (low + (k + 1)) s = tms low s + tms (k + 1) s := tms_add _ _ _
    have p := tms_pos1 (k := k) hs
    omega
theorem rise_ends {c s : Int} {n : Nat} (hs : 0 < s) (m low : Nat) (h : low + (m + 1 + 1) ≤ n) : ends (riseRow c s n) (m + 1 + 1) low = [false] := by
  rw [ends_filter]
  have h1 : bestB (riseRow c s n) low (m + 1) true = false := decide_eq_false (rise_left hs m low h)
  have h2 : bestB (riseRow c s n) low (m + 1) false = true := decide_eq_true (rise_right hs (m + 1) low h)
  simp [List.filter_cons, h1, h2]
theorem one_ends (ns : List Int) (low : Nat) : ends ns 1 low = [true, false] := by
  rw [ends_succ, wv_succ, wv_zero, wv_zero, Nat.add_zero, ite_self, if_pos rfl, if_pos rfl]
  rfl
theorem rise_many {c s : Int} {n : Nat} (hs : 0 < s) : ∀ m low, low + (m + 1) ≤ n → (plays (riseRow c s n) (m + 1) low).length = 2
  | 0, low, _ => by
    rw [plays_succ, one_ends]
    rfl
  | m + 1, low, h => by
    rw [plays_succ, rise_ends hs m low h]
    have ih := rise_many (c := c) (n := n) hs m low (by omega)
    show ([false].flatMap fun b => (plays (riseRow c s n) (m + 1) (lowOf b low)).map fun p => b :: p).length = 2
    rw [List.flatMap_cons, List.flatMap_nil, List.append_nil, List.length_map]
    exact ih
theorem alt_rise {c s : Int} {n : Nat} : ∀ k low, low + 2 * k ≤ n → alt (riseRow c s n) (2 * k) low = - tms k s
  | 0, low, _ => by
    rw [tms_zero]
    rfl
  | k + 1, low, h => by
    show alt (riseRow c s n) (2 * k + 1 + 1) low = _
    rw [alt_succ, alt_succ, alt_rise k (low + 1 + 1) (by omega), rise_at (by omega), rise_at (by omega), tms_succ, tms_succ]
    omega
theorem rise_sure {c s : Int} {k : Nat} (hs : 0 < s) : sureV (riseRow c s (2 * k)) = tms k s := by
  unfold sureV absI
  rw [← alt_evens, rise_len, alt_rise k 0 (by omega)]
  have := tms_pos (k := k) hs
  split <;> omega
/-! ### plans that tell a best end always -/
theorem gotV_best (ns : List Int) (f : Nat → Nat → Option Bool) (hf : ∀ m low, low + (m + 1) ≤ ns.length → ∃ b, f low (low + (m + 1)) = some b ∧ coinOf ns b low m - wv ns m (lowOf b low) = wv ns (m + 1) low) : ∀ m low, low + m ≤ ns.length →
    gotV ns f m low true = some (wv ns m low) ∧ gotV ns f m low false = some (-wv ns m low)
  | 0, low, _ => by
    rw [wv_zero, gotV_zero, gotV_zero]
    exact ⟨rfl, rfl⟩
  | m + 1, low, h => by
    constructor
    · obtain ⟨b, hb, he⟩ := hf m low h
      have hl := lowOf_le b low m
      have ih := (gotV_best ns f hf m (lowOf b low) (by omega)).2
      rw [gotV_mine, hb]
      show ((gotV ns f m (lowOf b low) false).bind fun r => some (r + coinOf ns b low m)) = _
      rw [ih]
      show some (-wv ns m (lowOf b low) + coinOf ns b low m) = _
      congr 1
      omega
    · have ih1 := (gotV_best ns f hf m (low + 1) (by omega)).1
      have ih2 := (gotV_best ns f hf m low (by omega)).1
      rw [gotV_his, ih1, ih2]
      show some (if wv ns m low + -coinOf ns false low m < wv ns m (low + 1) + -coinOf ns true low m then wv ns m low + -coinOf ns false low m else wv ns m (low + 1) + -coinOf ns true low m) = _
      have e1 : coinOf ns true low m = ns.getD low 0 := rfl
      have e2 : coinOf ns false low m = ns.getD (low + m) 0 := rfl
      rw [wv_succ, e1, e2]
      congr 1
      split <;> split <;> omega
theorem allTo_mem {side : Str} {n : Nat} {t : Tri} : t ∈ allTo side n n ↔ ∃ low k, low + (k + 1) ≤ n ∧ t = allRow side low k := by
  unfold allTo allCh
  constructor
  · intro h
    obtain ⟨low, h1, h⟩ := List.mem_flatMap.mp h
    obtain ⟨k, h2, rfl⟩ := List.mem_map.mp h
    have h4 := List.mem_range.mp h2
    have h5 := List.mem_range.mp h1
    exact ⟨low, k, by omega, rfl⟩
  · rintro ⟨low, k, h, rfl⟩
    exact List.mem_flatMap.mpr ⟨low, List.mem_range.mpr (by omega), List.mem_map.mpr ⟨k, List.mem_range.mpr (by omega), rfl⟩⟩
theorem allTo_ahead (side : Str) (n : Nat) : (allTo side n n).Pairwise ahead := by
  unfold allTo
  rw [List.pairwise_flatMap]
  refine ⟨fun low _ => ?_, ?_⟩
  · unfold allCh
    rw [List.pairwise_map]
    refine List.pairwise_lt_range.imp ?_
    intro a b h
    exact .inr ⟨rfl, by show ((low + (a + 1) : Nat) : Int) < ((low + (b + 1) : Nat) : Int); omega⟩
  · refine List.pairwise_lt_range.imp ?_
    intro a b h x hx y hy
    unfold allCh at hx hy
    obtain ⟨k, _, rfl⟩ := List.mem_map.mp hx
    obtain ⟨k', _, rfl⟩ := List.mem_map.mp hy
    exact .inl (by show (a : Int) < (b : Int); omega)
theorem allTo_ok (b : Bool) (n : Nat) : tabOk n none (allTo (sideS b) n n) = true := by
  refine tabOk_of (fun t ht => ?_) (allTo_ahead _ n) (fun _ _ => rfl)
  obtain ⟨low, k, h, rfl⟩ := allTo_mem.mp ht
  unfold triOk allRow
  show (decide ((0 : Int) ≤ (low : Int)) && (decide ((low : Int) < ((low + (k + 1) : Nat) : Int)) && (decide (((low + (k + 1) : Nat) : Int) ≤ (n : Int)) && sideOk (sideS b)))) = true
  rw [decide_eq_true (by omega), decide_eq_true (by omega), decide_eq_true (by omega), sideOk_sideS]
  rfl
theorem allTo_look {b : Bool} {n low k : Nat} (h : low + (k + 1) ≤ n) : tabF (allTo (sideS b) n n) low (low + (k + 1)) = some b := by
  unfold tabF
  have e : look (allTo (sideS b) n n) (low : Int) ((low + (k + 1) : Nat) : Int) = some (sideS b) := by
    refine look_of (allTo_mem.mpr ⟨low, k, h, rfl⟩) fun s' hs => ?_
    exact allTo_side _ _ _ _ hs
  rw [e]
  exact congrArg some (sideB_sideS _)
/-- always the right end of coins that rise -/
theorem shows_right {c s : Int} {n : Nat} (hs : 0 < s) (first : Bool) (least : Int) : showsV (riseRow c s n) (allTo "right" n n) first least = if first then decide (least ≤ wv (riseRow c s n) n 0) else decide (wv (riseRow c s n) n 0 < least) := by
  have g := gotV_best (riseRow c s n) (tabF (allTo (sideS false) n n)) (fun m low h => by
    rw [rise_len] at h
    exact ⟨false, allTo_look h, rise_right hs m low h⟩) n 0 (by rw [rise_len]; omega)
  have ok : tabOk (riseRow c s n).length none (allTo "right" n n) = true := by
    rw [rise_len]
    exact allTo_ok false n
  unfold showsV plannedV
  rw [if_pos ok, rise_len]
  cases first with
  | true =>
    rw [show gotV (riseRow c s n) (tabF (allTo "right" n n)) n 0 true = _ from g.1]
    rfl
  | false =>
    rw [show gotV (riseRow c s n) (tabF (allTo "right" n n)) n 0 false = _ from g.2]
    show decide (- -wv (riseRow c s n) n 0 < least) = _
    rw [Int.neg_neg]
    rfl
/-- always the left one: nothing is won -/
theorem got_left {c s : Int} {n : Nat} (hs : 0 < s) (f : Nat → Nat → Option Bool) (hf : ∀ m low, low + (m + 1) ≤ n → f low (low + (m + 1)) = some true) : ∀ k low v, low + 2 * k ≤ n → gotV (riseRow c s n) f (2 * k) low true = some v → v ≤ 0
  | 0, low, v, _, e => by
    rw [show 2 * 0 = 0 from rfl, gotV_zero] at e
    have := Option.some.inj e
    omega
  | k + 1, low, v, h, e => by
    have e' : gotV (riseRow c s n) f (2 * k + 1 + 1) low true = some v := e
    rw [gotV_mine, hf (2 * k + 1) low (by omega)] at e'
    have e2 : ((gotV (riseRow c s n) f (2 * k + 1) (low + 1) false).bind fun r => some (r + coinOf (riseRow c s n) true low (2 * k + 1))) = some v := e'
    obtain ⟨r, hr, er⟩ := Option.bind_eq_some_iff.mp e2
    have ev := Option.some.inj er
    rw [gotV_his] at hr
    obtain ⟨r1, hr1, hr⟩ := Option.bind_eq_some_iff.mp hr
    obtain ⟨r2, hr2, hr⟩ := Option.bind_eq_some_iff.mp hr
    have ih := got_left (c := c) hs f hf k (low + 1) r2 (by omega) hr2
    have er2 := Option.some.inj hr
    have ec : coinOf (riseRow c s n) false (low + 1) (2 * k) = c + tms (low + 1 + 2 * k) s := rise_at (by omega)
    have ec2 : coinOf (riseRow c s n) true low (2 * k + 1) = c + tms low s := rise_at (by omega)
    have et : tms (low + 1 + 2 * k) s = tms low s + tms (2 * k + 1) s := by rw [show low + 1 + 2 * k = low + (2 * k + 1) by omega, tms_add]
    have p := tms_pos1 (k := 2 * k) hs
    rw [ec] at er2
    rw [ec2] at ev
    split at er2 <;> omega
theorem shows_left {c s : Int} {k : Nat} (hs : 0 < s) {least : Int} (h : 0 < least) : showsV (riseRow c s (2 * k)) (allTo "left" (2 * k) (2 * k)) true least = false := by
  have ok : tabOk (riseRow c s (2 * k)).length none (allTo "left" (2 * k) (2 * k)) = true := by
    rw [rise_len]
    exact allTo_ok true (2 * k)
  unfold showsV plannedV
  rw [if_pos ok, rise_len]
  cases e : gotV (riseRow c s (2 * k)) (tabF (allTo "left" (2 * k) (2 * k))) (2 * k) 0 true with
  | none => rfl
  | some v =>
    have q := got_left (c := c) hs (tabF (allTo (sideS true) (2 * k) (2 * k))) (fun m low h => allTo_look h) k 0 v (by omega) e
    show decide (least ≤ v) = false
    exact decide_eq_false (by omega)
/-! ### alike coins -/
theorem same_get {c : Int} {n i : Nat} (h : i < n) : (List.replicate n c).getD i 0 = c := by
  rw [List.getD_eq_getElem?_getD, List.getElem?_replicate, if_pos h]
  rfl
theorem same_wv {c : Int} {n : Nat} : ∀ m low, low + m ≤ n → wv (List.replicate n c) m low = if m % 2 = 0 then 0 else c
  | 0, low, _ => wv_zero _ _
  | m + 1, low, h => by
    rw [wv_succ, same_wv m low (by omega), same_wv m (low + 1) (by omega), same_get (by omega), same_get (by omega), if_neg (by omega)]
    by_cases e : m % 2 = 0
    · rw [if_pos e, if_neg (by omega)]
      omega
    · rw [if_neg e, if_pos (by omega)]
      omega
theorem same_ends {c : Int} {n : Nat} (m low : Nat) (h : low + (m + 1) ≤ n) : ends (List.replicate n c) (m + 1) low = [true, false] := by
  rw [ends_succ, wv_succ, same_wv m low (by omega), same_wv m (low + 1) (by omega), same_get (by omega), same_get (by omega), ite_self, if_pos rfl, if_pos rfl]
  rfl
theorem same_many {c : Int} {n : Nat} : ∀ m low, low + m ≤ n → (plays (List.replicate n c) m low).length = 2 ^ m
  | 0, low, _ => rfl
  | m + 1, low, h => by
    rw [plays_succ, same_ends m low h]
    have h1 := same_many (c := c) (n := n) m (low + 1) (by omega)
    have h2 := same_many (c := c) (n := n) m low (by omega)
    rw [List.flatMap_cons, List.flatMap_cons, List.flatMap_nil, List.append_nil, List.length_append, List.length_map, List.length_map]
    show (plays (List.replicate n c) m (low + 1)).length + (plays (List.replicate n c) m low).length = _
    rw [h1, h2, Nat.pow_succ]
    omega
end RE
/-! promises of the law of rising and alike rows -/
namespace RE
open PySem PySem.Spec PyProof.Rows L2
/-- True comes -/
def spYes1 (ok : V → Hp → Prop) : Sp := fun vs H Q _ => ∃ x, vs = [x] ∧ ok x H ∧ ∀ H', Same H H' → Q (.bl true) H'
def spTwelve : Sp := fun vs H Q _ => ∃ m : Int, vs = [.int m] ∧ ∀ H', Same H H' → Q (.bl true) H'
def spDoubled : Sp := fun vs H Q _ => ∃ m : Nat, vs = [.int (m : Int)] ∧ m ≤ 12 ∧ ∀ H' p xs, Same H H' → H p = none → H' p = some (.lst xs) → xs.length = 2 ^ m → Q (.ref p) H'
theorem rise_map (s : Int) : ((List.range 12).map fun (i : Nat) => V.int (7 + s * (i : Int))) = (riseRow 7 s 12).map V.int := by
  unfold riseRow
  rw [List.map_map]
  rfl
theorem rise_row {s : Int} (h0 : 1 ≤ s) (h1 : s ≤ 1000) : RowOk (riseRow 7 s 12) := by
  refine ⟨by rw [rise_len]; decide, fun z hz => ?_⟩
  unfold riseRow at hz
  obtain ⟨i, hi, rfl⟩ := List.mem_map.mp hz
  have hi' := List.mem_range.mp hi
  have e1 : 0 ≤ s * (i : Int) := Int.mul_nonneg (by omega) (by omega)
  have e2 : s * (i : Int) ≤ 1000 * 11 := Int.mul_le_mul h1 (by omega) (by omega) (by decide)
  omega
theorem tms6 (s : Int) : tms 6 s = 6 * s := rfl
/-- what is known of the rising row -/
structure Rise (r : List Int) (s : Int) : Prop where
  ok : RowOk r
  wor : wv r r.length 0 = 6 * s
  end_ : ends r r.length 0 = [false]
  sur : sureV r = 6 * s
  man : many r r.length 0 = 2
  len : r.length = 12
  right : ∀ first least, showsV r (allTo "right" 12 12) first least = if first then decide (least ≤ 6 * s) else decide (6 * s < least)
  left : ∀ least, 0 < least → showsV r (allTo "left" 12 12) true least = false
theorem rise_all {s : Int} (h0 : 1 ≤ s) (h1 : s ≤ 1000) : Rise (riseRow 7 s 12) s := by
  have hs : 0 < s := by omega
  have hw : wv (riseRow 7 s 12) 12 0 = 6 * s := (rise_wv (c := 7) (n := 12) hs 6 0).1 (by decide)
  refine ⟨rise_row h0 h1, ?_, ?_, ?_, ?_, rise_len _ _ _, fun first least => ?_, fun least hl => ?_⟩
  · rw [rise_len]
    exact hw
  · rw [rise_len]
    exact rise_ends hs 10 0 (by decide)
  · exact rise_sure (k := 6) hs
  · unfold many
    rw [rise_len, rise_many hs 11 0 (by decide)]
    rfl
  · rw [shows_right hs, hw]
  · exact shows_left (k := 6) hs hl
theorem flat_rep (m : Nat) (c : Int) : (List.replicate m [V.int c]).flatten = (List.replicate m c).map V.int := by
  induction m with
  | zero => rfl
  | succ m ih =>
    rw [List.replicate_succ, List.replicate_succ, List.flatten_cons, ih]
    rfl
theorem same_row {c : Int} (h0 : 0 ≤ c) (h1 : c ≤ 1000000) {m : Nat} (hm : m ≤ 12) : RowOk (List.replicate m c) := by
  refine ⟨by rw [List.length_replicate]; exact hm, fun z hz => ?_⟩
  have e := List.eq_of_mem_replicate hz
  omega
theorem same_man (m : Nat) (c : Int) : many (List.replicate m c) (List.replicate m c).length 0 = ((2 ^ m : Nat) : Int) := by
  unfold many
  rw [List.length_replicate, same_many m 0 (by omega)]
theorem same_wor (m : Nat) (c : Int) : wv (List.replicate m c) (List.replicate m c).length 0 = c * ((m : Int) % 2) := by
  rw [List.length_replicate, same_wv m 0 (by omega)]
  by_cases e : m % 2 = 0
  · rw [if_pos e, show (m : Int) % 2 = 0 by omega, Int.mul_zero]
  · rw [if_neg e, show (m : Int) % 2 = 1 by omega, Int.mul_one]
end RE
/-! plain facts of the rows and plays of k09 -/
namespace RE
open PySem PySem.Spec PyProof.Rows L2
/-! ### stretches as rows -/
theorem stretch_getD {ns : List Int} {lo n i : Nat} (h : i < n) : (stretch ns lo n).getD i 0 = ns.getD (lo + i) 0 := by
  rw [List.getD_eq_getElem?_getD, stretch_get h, List.getD_eq_getElem?_getD]
theorem wv_stretch (ns : List Int) (lo n : Nat) : ∀ m k, k + m ≤ n → wv (stretch ns lo n) m k = wv ns m (lo + k)
  | 0, k, _ => by rw [wv_zero, wv_zero]
  | m + 1, k, h => by
    have h1 := wv_stretch ns lo n m k (by omega)
    have h2 := wv_stretch ns lo n m (k + 1) (by omega)
    rw [wv_succ, wv_succ, h1, h2, stretch_getD (by omega), stretch_getD (by omega), show lo + (k + m) = lo + k + m by omega, show lo + (k + 1) = lo + k + 1 by omega]
theorem ends_stretch (ns : List Int) (lo n m : Nat) (h : m + 1 ≤ n) : ends (stretch ns lo n) (m + 1) 0 = ends ns (m + 1) lo := by
  have h1 := wv_stretch ns lo n m 0 (by omega)
  have h2 := wv_stretch ns lo n m (0 + 1) (by omega)
  have h3 := wv_stretch ns lo n (m + 1) 0 (by omega)
  rw [ends_succ, ends_succ, h1, h2, h3, stretch_getD (by omega), stretch_getD (by omega)]
  simp only [Nat.add_zero, Nat.zero_add]
theorem RowOk.stretch {ns : List Int} (h : RowOk ns) (lo n : Nat) : RowOk (stretch ns lo n) := by
  have hm : ∀ z ∈ RE.stretch ns lo n, z ∈ ns := fun z hz => List.mem_of_mem_drop (List.mem_of_mem_take hz)
  refine ⟨?_, fun z hz => h.2 z (hm z hz)⟩
  unfold RE.stretch
  rw [List.length_take, List.length_drop]
  have := h.1
  omega
theorem ledLow_le : ∀ (bs : List Bool) (low : Nat), ledLow low bs ≤ low + bs.length
  | [], low => Nat.le_refl _
  | b :: bs, low => by
    have h := ledLow_le bs (lowOf b low)
    have e : lowOf b low ≤ low + 1 := by cases b <;> simp [lowOf]
    rw [List.length_cons]
    show ledLow (lowOf b low) bs ≤ _
    omega
/-- each take of a best play is a best end -/
theorem plays_at (ns : List Int) : ∀ n low pl, pl ∈ plays ns n low → ∀ i b, pl[i]? = some b → b ∈ ends ns (n - i) (ledLow low (pl.take i))
  | 0, low, pl, h, i, b, e => by
    rw [plays_zero, List.mem_singleton] at h
    subst h
    simp at e
  | m + 1, low, pl, h, i, b, e => by
    rw [plays_succ] at h
    obtain ⟨c, hc, h⟩ := List.mem_flatMap.mp h
    obtain ⟨q, hq, rfl⟩ := List.mem_map.mp h
    cases i with
    | zero =>
      have e' : c = b := by simpa using e
      subst e'
      exact hc
    | succ i =>
      have ih := plays_at ns m _ q hq i b (by simpa using e)
      rw [show m + 1 - (i + 1) = m - i by omega, List.take_succ_cons]
      exact ih
/-! ### the order of plays -/
def plD (pl : List Bool) : PyData := .list ((sidesV pl).map vD)
def tokP (pl : List Bool) : List (Int ⊕ List Nat) := PySem.W.keyToks (plD pl)
theorem tokP_cons (b : Bool) (p : List Bool) : tokP (b :: p) = [Sum.inl 1, Sum.inr (sideS b).cps.toList] ++ tokP p := by
  unfold tokP plD sidesV
  simp only [List.map_cons, vD, PySem.W.keyToks, PySem.W.keyToksAll]
  rfl
theorem tok_same (b : Bool) (p q : List Bool) : lexLt itemOrd (tokP (b :: p)) (tokP (b :: q)) = lexLt itemOrd (tokP p) (tokP q) := by
  rw [tokP_cons, tokP_cons, PySem.W.lex_pre]
theorem tok_diff (p q : List Bool) : lexLt itemOrd (tokP (true :: p)) (tokP (false :: q)) = true := by
  rw [tokP_cons, tokP_cons]
  show lexLt itemOrd (Sum.inl 1 :: Sum.inr (sideS true).cps.toList :: tokP p) (Sum.inl 1 :: Sum.inr (sideS false).cps.toList :: tokP q) = true
  rw [lex_self, lex_diff (by decide +kernel)]
  decide +kernel
theorem ends_order (ns : List Int) (m low : Nat) : (ends ns (m + 1) low).Pairwise fun a b => a = true ∧ b = false := by
  rw [ends_filter]
  exact List.Pairwise.filter _ (by simp)
theorem plays_order (ns : List Int) : ∀ n low, (plays ns n low).Pairwise fun p q => lexLt itemOrd (tokP p) (tokP q) = true
  | 0, low => by
    rw [plays_zero]
    exact List.pairwise_singleton _ _
  | m + 1, low => by
    rw [plays_succ, List.pairwise_flatMap]
    refine ⟨fun b _ => ?_, ?_⟩
    · rw [List.pairwise_map]
      exact (plays_order ns m (lowOf b low)).imp fun {p q} h => by rw [tok_same]; exact h
    · refine (ends_order ns m low).imp fun {a b} h x hx y hy => ?_
      obtain ⟨p, _, rfl⟩ := List.mem_map.mp hx
      obtain ⟨q, _, rfl⟩ := List.mem_map.mp hy
      rw [h.1, h.2]
      exact tok_diff p q
theorem plays_ne {ns : List Int} {n low i : Nat} {p q : List Bool} (h1 : (plays ns n low)[i]? = some p) (h2 : (plays ns n low)[i + 1]? = some q) : p ≠ q := by
  intro e
  subst e
  have o := plays_order ns n low
  rw [List.pairwise_iff_getElem] at o
  obtain ⟨l1, e1⟩ := List.getElem?_eq_some_iff.mp h1
  obtain ⟨l2, e2⟩ := List.getElem?_eq_some_iff.mp h2
  have z := o i (i + 1) l1 l2 (Nat.lt_succ_self _)
  rw [e1, e2, lex_irrefl] at z
  cases z
/-! ### lists of plays as data -/
def kOf (H : Hp) : V → PyData
  | .ref q => match H q with
    | some (.lst vs) => .list (vs.map vD)
    | _ => .none
  | _ => .none
theorem kOf_at {H : Hp} {q : Addr} {pl : List Bool} (h : H q = some (.lst (sidesV pl))) : kOf H (.ref q) = plD pl := by
  unfold kOf
  simp only [h]
  rfl
theorem lsts_map {H : Hp} : ∀ {xs : List V} {pls : List (List Bool)}, Lsts H xs pls → xs.map (kOf H) = pls.map plD
  | _, _, .nil => rfl
  | _, _, .cons h t => by rw [List.map_cons, List.map_cons, kOf_at h, lsts_map t]
theorem dp_play {K : PySem.W.Frag} {H : Hp} {q : Addr} {pl : List Bool} (h : H q = some (.lst (sidesV pl))) : Dp K H (.ref q) (plD pl) := dp_lst (SqL.of h) (sidesV_ok pl)
theorem lsts_dp {K : PySem.W.Frag} {H : Hp} {xs : List V} {pls : List (List Bool)} (h : Lsts H xs pls) : ∀ x ∈ xs, Dp K H x (kOf H x) := by
  induction h with
  | nil => exact fun _ z => nomatch z
  | cons h t ih =>
    refine List.forall_mem_cons.mpr ⟨?_, ih⟩
    rw [kOf_at h]
    exact dp_play h
theorem dps_lsts {K : PySem.W.Frag} {H : Hp} : ∀ {xs : List V} {pls : List (List Bool)}, Lsts H xs pls → DpAll K H xs (pls.map plD)
  | _, _, .nil => .nil
  | _, _, .cons h t => .cons (dp_play h) (dps_lsts t)
theorem sh_play (pl : List Bool) : Sh (plD pl) 1 := Sh.list (sha_flat (sidesV_ok pl) 0)
theorem sha_lsts : ∀ pls : List (List Bool), ShA (pls.map plD) 1
  | [] => .nil 1
  | p :: ps => .cons (sh_play p) (sha_lsts ps)
theorem alike_sides : ∀ p q : List Bool, PySem.W.alikeAll ((sidesV p).map vD) ((sidesV q).map vD) = true
  | [], q => by
    unfold sidesV
    simp [PySem.W.alikeAll]
  | _ :: _, [] => by
    unfold sidesV
    simp [PySem.W.alikeAll]
  | a :: p, b :: q => by
    have ih := alike_sides p q
    unfold sidesV at ih ⊢
    simp only [List.map_cons, vD, PySem.W.alikeAll, PySem.W.alike, ih, Bool.and_self]
theorem alike_plays (pls : List (List Bool)) : PySem.W.AllAlike (pls.map plD) := by
  intro d hd e he
  obtain ⟨p, _, rfl⟩ := List.mem_map.mp hd
  obtain ⟨q, _, rfl⟩ := List.mem_map.mp he
  unfold plD
  simp only [PySem.W.alike]
  exact alike_sides p q
theorem sortable_plays (pls : List (List Bool)) : PySem.W.Sortable (pls.map plD) := by
  refine .inr fun d hd => ?_
  obtain ⟨p, _, rfl⟩ := List.mem_map.mp hd
  unfold plD
  exact ⟨(by intro z; cases z), (by intro xs z; cases z)⟩
theorem plays_le_data {H : Hp} {xs : List V} {ns : List Int} {n low : Nat} (h : Lsts H xs (plays ns n low)) : xs.Pairwise fun x y => PySem.W.dataLe false (kOf H) x y = true := by
  have o := plays_order ns n low
  have e : (xs.map (kOf H)).Pairwise fun d e => lexLt itemOrd (PySem.W.keyToks d) (PySem.W.keyToks e) = true := by
    rw [lsts_map h, List.pairwise_map]
    exact o
  rw [List.pairwise_map] at e
  refine e.imp fun {x y} z => ?_
  show (!lexLt itemOrd (PySem.W.keyToks (kOf H y)) (PySem.W.keyToks (kOf H x))) = true
  cases c : lexLt itemOrd (PySem.W.keyToks (kOf H y)) (PySem.W.keyToks (kOf H x)) with
  | false => rfl
  | true =>
    have t := lex_trans (O := itemOrd) _ _ _ z c
    rw [lex_irrefl] at t
    cases t
theorem alike9 {H : Hp} {xs : List V} {pls : List (List Bool)} (h : Lsts H xs pls) : PySem.W.AllAlike (xs.map (kOf H)) := by
  rw [lsts_map h]
  exact alike_plays _
theorem sortable9 {H : Hp} {xs : List V} {pls : List (List Bool)} (h : Lsts H xs pls) : PySem.W.Sortable (xs.map (kOf H)) := by
  rw [lsts_map h]
  exact sortable_plays _
theorem depth9 {H : Hp} {xs : List V} {pls : List (List Bool)} (h : Lsts H xs pls) : ∀ x ∈ xs, (kOf H x).depth ≤ 8 := fun x hx => by
  have m : kOf H x ∈ xs.map (kOf H) := List.mem_map.mpr ⟨x, hx, rfl⟩
  rw [lsts_map h] at m
  obtain ⟨p, _, e⟩ := List.mem_map.mp m
  rw [← e]
  exact Nat.le_trans (sh_play p).dep (by decide)
theorem eqvAll_sides : ∀ p q : List Bool, PyData.eqvAll ((sidesV p).map vD) ((sidesV q).map vD) = decide (p = q)
  | [], [] => by simp [sidesV, PyData.eqvAll]
  | [], _ :: _ => by simp [sidesV, PyData.eqvAll]
  | _ :: _, [] => by simp [sidesV, PyData.eqvAll]
  | a :: p, b :: q => by
    have ih := eqvAll_sides p q
    unfold sidesV at ih ⊢
    simp only [List.map_cons, PyData.eqvAll, vD, PyData.eqv, ih]
    have hs : (sideS a == sideS b) = decide (a = b) := by cases a <;> cases b <;> decide +kernel
    rw [hs]
    cases a <;> cases b <;> simp
theorem eqv_sides (p q : List Bool) : PyData.eqv (plD p) (plD q) = decide (p = q) := by
  unfold plD
  rw [PyData.eqv]
  exact eqvAll_sides p q
theorem in_sides {b : Bool} {es : List Bool} (h : b ∈ es) : inV (.str (sideS b)) (sidesV es) = true := by
  unfold inV sidesV
  rw [List.any_map, List.any_eq_true]
  exact ⟨b, h, by cases b <;> decide +kernel⟩
theorem flat_sides (es : List Bool) : (sidesV es).all flatV = true := by
  unfold sidesV
  rw [List.all_map, List.all_eq_true]
  exact fun b _ => rfl
theorem sides_get {pl : List Bool} {j : Nat} {b : Bool} (h : pl[j]? = some b) : (sidesV pl)[j]? = some (.str (sideS b)) := by
  unfold sidesV
  rw [List.getElem?_map, h]
  rfl
theorem sides_take (pl : List Bool) (j : Nat) : sidesV (pl.take j) = (sidesV pl).take j := by
  unfold sidesV
  rw [List.map_take]
theorem cut_to (xs : List V) (j : Nat) (h : j ≤ xs.length) : cutV xs none (some (0 + (j : Int))) = xs.take j := by
  unfold cutV
  rw [Int.zero_add, show HT.sIx xs.length xs.length (some ((j : Nat) : Int)) = min j xs.length from HT.sIx_nat _ _ j, HT.sIx_none, Nat.min_eq_left h]
  simp
theorem best_at {ns : List Int} {pl : List Bool} {j : Nat} {b : Bool} (hp : pl ∈ plays ns ns.length 0) (hb : pl[j]? = some b) :
    b ∈ ends (stretch ns (ledLow 0 (pl.take j)) (ns.length - (pl.take j).length)) (stretch ns (ledLow 0 (pl.take j)) (ns.length - (pl.take j).length)).length 0 := by
  have plen := plays_length ns _ _ pl hp
  obtain ⟨hj, _⟩ := List.getElem?_eq_some_iff.mp hb
  have tl : (pl.take j).length = j := by rw [List.length_take]; omega
  have lo := ledLow_le (pl.take j) 0
  rw [tl, Nat.zero_add] at lo
  rw [tl, stretch_len (by omega)]
  have h := plays_at ns _ _ pl hp j b hb
  obtain ⟨m, hm⟩ : ∃ m, ns.length - j = m + 1 := ⟨ns.length - j - 1, by omega⟩
  rw [hm] at h ⊢
  rw [ends_stretch _ _ _ _ (Nat.le_refl _)]
  exact h
/-! ### rows of two kinds of coins by turns -/
theorem turns_wv {n : Int} (hn : 0 ≤ n) {ns : List Int} {N : Nat} (h : ∀ i, i < N → ns.getD i 0 = if i % 2 = 0 then 1 else n + 1) : ∀ k low, (low + 2 * k ≤ N → wv ns (2 * k) low = tms k n) ∧ (low + (2 * k + 1) ≤ N → wv ns (2 * k + 1) low = (if low % 2 = 0 then 1 else n + 1) - tms k n)
  | 0, low => by
    refine ⟨fun _ => by rw [tms_zero]; exact wv_zero _ _, fun hl => ?_⟩
    show wv ns (0 + 1) low = _
    rw [wv_succ, wv_zero, wv_zero, Nat.add_zero, h low (by omega), if_neg (by omega), tms_zero]
  | k + 1, low => by
    have even : ∀ low, low + 2 * (k + 1) ≤ N → wv ns (2 * (k + 1)) low = tms (k + 1) n := by
      intro low hl
      show wv ns (2 * k + 1 + 1) low = _
      have h1 := (turns_wv hn h k low).2 (by omega)
      have h2 := (turns_wv hn h k (low + 1)).2 (by omega)
      rw [wv_succ, h1, h2, h _ (by omega), h _ (by omega), tms_succ]
      by_cases c : low % 2 = 0
      · rw [if_pos c, if_neg (show ¬ (low + 1) % 2 = 0 by omega), if_neg (show ¬ (low + (2 * k + 1)) % 2 = 0 by omega)]
        split <;> omega
      · rw [if_neg c, if_pos (show (low + 1) % 2 = 0 by omega), if_pos (show (low + (2 * k + 1)) % 2 = 0 by omega)]
        split <;> omega
    refine ⟨even low, fun hl => ?_⟩
    have g1 := even low (by omega)
    have g2 := even (low + 1) (by omega)
    rw [wv_succ, g1, g2, h _ (by omega), h _ (by omega)]
    by_cases c : low % 2 = 0
    · rw [if_pos c, if_pos (show (low + 2 * (k + 1)) % 2 = 0 by omega)]
      split <;> omega
    · rw [if_neg c, if_neg (show ¬ (low + 2 * (k + 1)) % 2 = 0 by omega)]
      split <;> omega
theorem turns12 {n : Int} (hn : 0 ≤ n) : wv [1, n + 1, 1, n + 1, 1, n + 1, 1, n + 1, 1, n + 1, 1, n + 1] 12 0 = 6 * n := by
  have e := (turns_wv (N := 12) (ns := [1, n + 1, 1, n + 1, 1, n + 1, 1, n + 1, 1, n + 1, 1, n + 1]) hn (fun i hi => by
    match i, hi with
    | 0, _ | 1, _ | 2, _ | 3, _ | 4, _ | 5, _ | 6, _ | 7, _ | 8, _ | 9, _ | 10, _ | 11, _ => rfl) 6 0).1 (by decide)
  exact e
/-! ### small rows -/
theorem wv_one (n : Int) : wv [n] 1 0 = n := by
  show wv [n] (0 + 1) 0 = n
  rw [wv_succ, wv_zero, wv_zero]
  show (if n - 0 > n - 0 then n - 0 else n - 0) = n
  split <;> omega
theorem wv_two (a b : Int) : wv [a, b] 2 0 = if b - a > a - b then b - a else a - b := by
  have h1 : wv [a, b] 1 0 = a := by
    show wv [a, b] (0 + 1) 0 = a
    rw [wv_succ, wv_zero, wv_zero]
    show (if a - 0 > a - 0 then a - 0 else a - 0) = a
    split <;> omega
  have h2 : wv [a, b] 1 1 = b := by
    show wv [a, b] (0 + 1) 1 = b
    rw [wv_succ, wv_zero, wv_zero]
    show (if b - 0 > b - 0 then b - 0 else b - 0) = b
    split <;> omega
  show wv [a, b] (1 + 1) 0 = _
  rw [wv_succ, h1, show wv [a, b] 1 (0 + 1) = b from h2]
  rfl
theorem plays_one (n : Int) : plays [n] 1 0 = [[true], [false]] := by
  show plays [n] (0 + 1) 0 = _
  rw [plays_succ, one_ends]
  rfl
theorem ends_two {n : Int} (h : 0 < n) : ends [n, 0] 2 0 = [true] := by
  have h1 : wv [n, 0] 1 0 = n := by
    show wv [n, 0] (0 + 1) 0 = n
    rw [wv_succ, wv_zero, wv_zero]
    show (if n - 0 > n - 0 then n - 0 else n - 0) = n
    split <;> omega
  have h2 : wv [n, 0] 1 (0 + 1) = 0 := by
    show wv [n, 0] (0 + 1) (0 + 1) = 0
    rw [wv_succ, wv_zero, wv_zero]
    show (if (0 : Int) - 0 > 0 - 0 then (0 : Int) - 0 else 0 - 0) = 0
    rfl
  show ends [n, 0] (1 + 1) 0 = _
  have h3 : wv [n, 0] (1 + 1) 0 = n := by
    rw [show wv [n, 0] (1 + 1) 0 = wv [n, 0] 2 0 from rfl, wv_two]
    split <;> omega
  rw [ends_succ, h1, h2, h3]
  show (if n - 0 = n then [true] else []) ++ (if 0 - n = n then [false] else []) = [true]
  rw [if_pos (by omega), if_neg (by omega)]
  rfl
theorem plays_two {n : Int} (h : 0 < n) : plays [n, 0] 2 0 = [[true, true], [true, false]] := by
  show plays [n, 0] (1 + 1) 0 = _
  rw [plays_succ, show ends [n, 0] (1 + 1) 0 = [true] from ends_two h]
  show (plays [n, 0] (0 + 1) (lowOf true 0)).map (fun p => true :: p) ++ [] = _
  rw [plays_succ, one_ends]
  rfl
end RE
/-! what is no row, no takes, no number: general facts (the like of RE5's, for laws without REHot) -/
namespace RE
open PySem PySem.Spec PyProof.Rows L2
variable {K : PySem.W.Frag} {H H' : Hp}
theorem NoRow.mono {x : V} (s : Same H H') (h : NoRow K H x) : NoRow K H' x := by
  rcases h with ⟨T, pv, hT⟩ | ⟨a, xs, rfl, hS, h⟩
  · exact .inl ⟨T, pv.mono s, hT⟩
  · refine .inr ⟨a, xs, rfl, s.seq hS, ?_⟩
    rcases h with h | ⟨h1, h2, h3⟩
    · exact .inl h
    · exact .inr ⟨h1, fun y hy => let ⟨T, p⟩ := h2 y hy; ⟨T, p.mono s⟩, h3⟩
theorem NoTakes.mono {x : V} {n : Nat} (s : Same H H') (h : NoTakes K H x n) : NoTakes K H' x n := by
  rcases h with ⟨T, pv, hT⟩ | ⟨a, xs, rfl, hS, h⟩
  · exact .inl ⟨T, pv.mono s, hT⟩
  · refine .inr ⟨a, xs, rfl, s.seq hS, ?_⟩
    rcases h with h | ⟨h1, h2, h3⟩
    · exact .inl h
    · exact .inr ⟨h1, fun y hy => let ⟨T, p⟩ := h2 y hy; ⟨T, p.mono s⟩, h3⟩
theorem NoWhole.mono {x : V} (s : Same H H') (h : NoWhole K H x) : NoWhole K H' x := let ⟨T, p, e⟩ := h; ⟨T, p.mono s, e⟩
def OddRow (K : PySem.W.Frag) (H : Hp) (x : V) : Prop := ∃ ns, IsRow K H x ns ∧ ns.length % 2 = 1
theorem OddRow.mono {x : V} (s : Same H H') (h : OddRow K H x) : OddRow K H' x := by
  obtain ⟨ns, ⟨a, e, hS, ok⟩, h⟩ := h
  exact ⟨ns, ⟨a, e, s.seq hS, ok⟩, h⟩
theorem all_false_at {p : V → Bool} : ∀ {xs : List V} {y : V}, y ∈ xs → p y = false → xs.all p = false := fun {xs y} hy e => by
  cases h : xs.all p with
  | false => rfl
  | true => rw [List.all_eq_true.mp h y hy] at e; cases e
theorem pvs_nil : ∀ y ∈ ([] : List V), ∃ T, PV K H y T := fun _ z => nomatch z
theorem pvs_cons {x : V} {xs : List V} {T : String} (h : PV K H x T) (t : ∀ y ∈ xs, ∃ T, PV K H y T) : ∀ y ∈ x :: xs, ∃ T, PV K H y T := List.forall_mem_cons.mpr ⟨⟨T, h⟩, t⟩
theorem coin_lo {z : Int} (h : z < 0) : coinB (.int z) = false := by
  unfold coinB; simp; omega
theorem coin_hi {z : Int} (h : 1000000 < z) : coinB (.int z) = false := by
  unfold coinB; simp; omega
theorem ixN_lt {n j : Nat} (h : j < n) : ixN n (j : Int) = some j := by
  unfold ixN
  rw [if_pos (Int.natCast_nonneg j), if_pos (by omega), Int.toNat_natCast]
theorem coin_no {x : V} {T : String} (pv : PV K H x T) (hT : (T == "int") = false) : coinB x = false := by
  cases x with
  | int i =>
    rw [pv.of_int] at hT
    cases hT
  | _ => rfl
/-- a row of four with one bad coin -/
theorem bad4 {r : Addr} {x : V} {T : String} {j : Nat} (hr : H r = some (.lst ([V.int 1, V.int 2, V.int 3, V.int 4].set j x))) (hj : j < 4) (pv : PV K H x T) (hT : (T == "int") = false) : NoRow K H (.ref r) := by
  refine .inr ⟨r, _, rfl, SqL.of hr, .inr ⟨by rw [List.length_set]; decide, fun y hy => ?_, all_false_at (y := x) ?_ (coin_no pv hT)⟩⟩
  · rcases List.mem_or_eq_of_mem_set hy with h | h
    · have : ∃ i, y = .int i := by
        simp only [List.mem_cons, List.not_mem_nil, or_false] at h
        rcases h with rfl | rfl | rfl | rfl <;> exact ⟨_, rfl⟩
      obtain ⟨i, rfl⟩ := this
      exact ⟨_, pv_int i⟩
    · subst h
      exact ⟨T, pv⟩
  · rcases (show j = 0 ∨ j = 1 ∨ j = 2 ∨ j = 3 by omega) with rfl | rfl | rfl | rfl <;> simp
theorem rep_len (k : Nat) (y : V) : (List.replicate k [y]).flatten.length = k := by
  rw [List.length_flatten, List.map_replicate, List.sum_replicate_nat]
  simp
theorem rep_le {k : Int} (h : k ≤ 64) : 1 * k.toNat ≤ sizeLine := Nat.le_trans (show 1 * k.toNat ≤ 64 by omega) (by decide)
theorem rep_gt {k : Int} {y : V} (h : 3 < k) : 3 < ((List.replicate k.toNat [y]).flatten).length := by
  rw [rep_len]
  omega
end RE
/-! what k09's walks use -/
namespace RE
open PySem PySem.Spec PyProof.Rows L2 LamX NdefX
theorem sw_cell {elt : Expr} {gs : List Comprehension} {scope : Scope} {pos py : Pos} {y : Str} {l : Nat} {env : Env} (hy : env.scope.names.lookup y = some .cell) : swapsWith (.ListComp elt gs scope pos) (some (.Name y py)) l env = pure false := by
  have ky : env.kindOf y = some .cell := hy
  unfold swapsWith
  simp only [ky]
  have e : (some NameKind.cell == some NameKind.local) = false := by decide
  simp only [e, Bool.and_false, Bool.false_and]
theorem free_none {sc scope : Scope} (h : (scope.names.all fun y => !decide (y.2 = .free)) = true) : ∀ y ∈ scope.names, y.2 = .free → sc.names.lookup y.1 = some .cell ∨ sc.names.lookup y.1 = some .free := by
  intro y hy e
  have q := List.all_eq_true.mp h y hy
  rw [decide_eq_true e] at q
  cases q
/-! ### heaps without tables -/
def noTab (H : Hp) : Hp := fun b => match H b with
  | some (.tbl _) => none
  | o => o
theorem noTab_at {H : Hp} {a : Addr} {o : HO} (h : H a = some o) (n : ∀ ps, o ≠ .tbl ps) : noTab H a = some o := by
  unfold noTab
  rw [h]
  cases o with
  | tbl ps => exact absurd rfl (n ps)
  | _ => rfl
theorem noTab_lst {H : Hp} {a : Addr} {xs : List V} (h : H a = some (.lst xs)) : noTab H a = some (.lst xs) := noTab_at h (by intro _ z; cases z)
theorem noTab_tup {H : Hp} {a : Addr} {xs : List V} (h : H a = some (.tup xs)) : noTab H a = some (.tup xs) := noTab_at h (by intro _ z; cases z)
theorem noTab_sub (H : Hp) : Same (noTab H) H := by
  intro b o e
  unfold noTab at e
  cases h : H b with
  | none => rw [h] at e; cases e
  | some u =>
    rw [h] at e
    cases u with
    | tbl ps => cases e
    | _ => exact e
theorem noTab_ext {H H' : Hp} (e : ExtN H H') : Same (noTab H) H' := by
  intro b o q
  refine e b o (noTab_sub H b o q) fun ps z => ?_
  subst z
  have h := noTab_sub H b _ q
  unfold noTab at q
  rw [h] at q
  cases q
theorem ext_noTab {H H' : Hp} (s : Same (noTab H) H') : ExtN H H' := fun b o h n => s b o (noTab_at h n)
theorem noTab_none {H : Hp} {a : Addr} (h : H a = none) : noTab H a = none := by
  unfold noTab
  rw [h]
theorem tabs_but {T : List (Addr × Str)} {H H' : Hp} {D : Addr} {xs : List V} (t : Tabs T H) (s : SameBut D H H') (hD : H D = some (.lst xs)) : Tabs T H' := by
  intro p hp
  obtain ⟨ps, h1, h2, h3⟩ := t p hp
  have n1 : p.1 ≠ D := fun z => by
    rw [z, hD] at h1
    cases h1
  refine ⟨ps, s _ _ n1 h1, h2, fun pos cv hc => ?_⟩
  obtain ⟨c, e, hcc⟩ := h3 pos cv hc
  have n2 : c ≠ D := fun z => by
    rw [z, hD] at hcc
    cases hcc
  exact ⟨c, e, s _ _ n2 hcc⟩
/-! ### one more of the same in a list that is being made -/
theorem rp_step {H0 Hx Hy : Hp} {D : Addr} {i : Nat} {y : V} (nD : H0 D = none) (sx : Same H0 Hx) (hD : Hx D = some (.lst (List.replicate i y))) (s : Same Hx Hy) (hi : i < 100000) :
    ∃ acc, Hy D = some (.lst acc) ∧ acc.length < sizeLine ∧ (Same H0 (upd Hy D (.lst (acc ++ [y]))) ∧ upd Hy D (.lst (acc ++ [y])) D = some (.lst (List.replicate (i + 1) y))) := by
  refine ⟨_, s _ _ hD, by rw [List.length_replicate]; exact size_lt hi, fun b o e => ?_, ?_⟩
  · rw [upd_ne (ne_of_none e nD)]
    exact s _ _ (sx _ _ e)
  · rw [upd_same, ← List.replicate_succ']
theorem rp_stepT {T : List (Addr × Str)} {H0 Hy : Hp} {D : Addr} {i : Nat} {y : V} (nD : H0 D = none) (sx : ExtN H0 Hy) (hT : Tabs T Hy) (hD : Hy D = some (.lst (List.replicate i y))) (hi : i < 100000) :
    ∃ acc, Hy D = some (.lst acc) ∧ acc.length < sizeLine ∧ (ExtN H0 (upd Hy D (.lst (acc ++ [y]))) ∧ Tabs T (upd Hy D (.lst (acc ++ [y]))) ∧ upd Hy D (.lst (acc ++ [y])) D = some (.lst (List.replicate (i + 1) y))) := by
  refine ⟨_, hD, by rw [List.length_replicate]; exact size_lt hi, fun b o e n => ?_, tabs_but hT (SameBut.put _) hD, ?_⟩
  · rw [upd_ne (ne_of_none e nD)]
    exact sx _ _ e n
  · rw [upd_same, ← List.replicate_succ']
theorem rep_bl (n : Nat) (b : Bool) : List.replicate n (V.bl b) = (List.replicate n b).map V.bl := by rw [List.map_replicate]
theorem any_false (n : Nat) : (List.replicate n false).any id = false := by
  induction n with
  | zero => rfl
  | succ n ih => rw [List.replicate_succ, List.any_cons, ih]; rfl
/-! ### a cell made known for a while -/
theorem same_back {H H' : Hp} {c : Addr} {o : Obj} (hc : H c = some (CellO c o)) (s : Same (lessH H c) H') : Same H (upd H' c (CellO c o)) := by
  intro b u e
  by_cases h : b = c
  · subst h
    rw [hc] at e
    rw [upd_same]
    exact e
  · rw [upd_ne h]
    exact s b u (by rw [lessH_ne h]; exact e)
theorem same_gone {H H' : Hp} {c : Addr} {o : Obj} (nc : H c = none) (s : Same (upd H c (CellO c o)) H') : Same H (lessH H' c) := by
  intro b u e
  have h := ne_of_none e nc
  rw [lessH_ne h]
  exact s b u (by rw [upd_ne h]; exact e)
theorem gen_less {P : Hp → Prop} {H H' : Hp} {c : Addr} {o : Obj} (nc : H c = none) (s : Same (upd H c (CellO c o)) H') (k : ∀ Hw, Same H Hw → P Hw) : P (lessH H' c) := k _ (same_gone nc s)
/-! ### cases by hand -/
/-- a row, takes, what they give -/
def LCase (H : Hp) (x : V) : Prop := ∃ (q r t d l : Addr) (ns : List Int) (bs : List Bool) (a b : Int) (zs : List Int), x = .ref q ∧ H q = some (.tup [.ref r, .ref t, .ref d]) ∧ H r = some (.lst (ns.map V.int)) ∧ H t = some (.lst (sidesV bs)) ∧ H d = some (.tup [.int a, .int b, .ref l]) ∧ H l = some (.lst (zs.map V.int)) ∧
  RowOk ns ∧ bs.length ≤ ns.length ∧ ledR ns ns.length 0 bs = (a, b) ∧ stretch ns (ledLow 0 bs) (ns.length - bs.length) = zs
theorem LCase.mono {H H' : Hp} {x : V} (s : Same H H') (h : LCase H x) : LCase H' x := by
  obtain ⟨q, r, t, d, l, ns, bs, a, b, zs, e, h1, h2, h3, h4, h5, h⟩ := h
  exact ⟨q, r, t, d, l, ns, bs, a, b, zs, e, s _ _ h1, s _ _ h2, s _ _ h3, s _ _ h4, s _ _ h5, h⟩
/-- a row, its worth, its best ends, how many best plays -/
def RCase (H : Hp) (x : V) : Prop := ∃ (q r e : Addr) (ns : List Int) (due : Int) (es : List Bool) (m : Int), x = .ref q ∧ H q = some (.tup [.ref r, .int due, .ref e, .int m]) ∧ H r = some (.lst (ns.map V.int)) ∧ H e = some (.lst (sidesV es)) ∧
  RowOk ns ∧ wv ns ns.length 0 = due ∧ ends ns ns.length 0 = es ∧ many ns ns.length 0 = m
theorem RCase.ext {H H' : Hp} {x : V} (s : ExtN H H') (h : RCase H x) : RCase H' x := by
  obtain ⟨q, r, e, ns, due, es, m, ex, h1, h2, h3, h⟩ := h
  exact ⟨q, r, e, ns, due, es, m, ex, extN_tup s h1, extN_lst s h2, extN_lst s h3, h⟩
theorem RCase.mono {H H' : Hp} {x : V} (s : Same H H') (h : RCase H x) : RCase H' x := h.ext (ExtN.of s)
/-- an answer by hand, a number, what it shows -/
def PCase (G D : Addr) (ns : List Int) (H : Hp) (x : V) : Prop := ∃ (q o l dx : Addr) (ys : List V) (p : List Tri) (f : Bool) (k : Int) (due : Bool), x = .ref q ∧ H q = some (.tup [.ref o, .int k, .bl due]) ∧ H o = some (.ins (if f = true then G else D) dx [("plan", .ref l)]) ∧ H l = some (.lst ys) ∧ Tris H ys p ∧ p.length ≤ 10000 ∧ showsV ns p f k = due
theorem PCase.mono {G D : Addr} {ns : List Int} {H H' : Hp} {x : V} (s : Same H H') (h : PCase G D ns H x) : PCase G D ns H' x := by
  obtain ⟨q, o, l, dx, ys, p, f, k, due, ex, h1, h2, h3, h4, h⟩ := h
  exact ⟨q, o, l, dx, ys, p, f, k, due, ex, s _ _ h1, s _ _ h2, s _ _ h3, h4.mono s, h⟩
theorem each_cons {p : V → Prop} {x : V} {xs : List V} (h : p x) (t : ∀ y ∈ xs, p y) : ∀ y ∈ x :: xs, p y := List.forall_mem_cons.mpr ⟨h, t⟩
theorem each_app {p : V → Prop} {xs ys : List V} (h : ∀ y ∈ xs, p y) (t : ∀ y ∈ ys, p y) : ∀ y ∈ xs ++ ys, p y := fun y hy => (List.mem_append.mp hy).elim (h y) (t y)
theorem each_nil {p : V → Prop} : ∀ y ∈ ([] : List V), p y := fun _ z => nomatch z
theorem ne_same {a b : Bool} (h : a = b) : (!decide (V.bl a = V.bl b)) = false := by
  subst h
  simp
/-- a row -/
def WCase (H : Hp) (x : V) : Prop := ∃ (r : Addr) (ns : List Int), x = .ref r ∧ H r = some (.lst (ns.map V.int)) ∧ RowOk ns
theorem WCase.mono {H H' : Hp} {x : V} (s : Same H H') (h : WCase H x) : WCase H' x := let ⟨r, ns, e, h1, h2⟩ := h; ⟨r, ns, e, s _ _ h1, h2⟩
theorem one_shows (n least : Int) (b : Bool) : showsV [n] [(0, 1, sideS b)] true least = decide (least ≤ n) := by
  have h1 : tabOk 1 none [(0, 1, sideS b)] = true := by cases b <;> decide +kernel
  have h2 : tabF [(0, 1, sideS b)] 0 (0 + (0 + 1)) = some b := by cases b <;> decide +kernel
  have h3 : plannedV [n] [(0, 1, sideS b)] true = some n := by
    unfold plannedV
    rw [if_pos (show tabOk [n].length none [(0, 1, sideS b)] = true from h1)]
    show gotV [n] (tabF [(0, 1, sideS b)]) (0 + 1) 0 true = some n
    rw [gotV_mine, h2]
    cases b
    · show some (0 + n) = some n
      rw [Int.zero_add]
    · show some (0 + n) = some n
      rw [Int.zero_add]
  unfold showsV
  rw [h3]
  rfl
theorem held_one (n least : Int) : showsV [n] [] false least = decide (n < least) := by
  have h3 : plannedV [n] [] false = some (-n) := by
    unfold plannedV
    rw [if_pos (show tabOk [n].length none [] = true from rfl)]
    show some (if (0 : Int) + -n < 0 + -n then (0 : Int) + -n else 0 + -n) = some (-n)
    simp
  unfold showsV
  rw [h3]
  simp
theorem NoNum.mono {K : PySem.W.Frag} {H H' : Hp} {x : V} {n : Int} (s : Same H H') (h : NoNum K H x n) : NoNum K H' x n := h.imp (fun ⟨T, p, e⟩ => ⟨T, p.mono s, e⟩) id
/-! ### doors as lambdas -/
theorem lamD_hard {f : Addr} {F : NF} {e : Expr} : ∀ b o, lamD f F e b = some o → ∀ ps, o ≠ .tbl ps := by
  intro b o h ps z
  subst z
  unfold lamD at h
  by_cases h1 : b = F.c
  · rw [h1, upd_same] at h
    cases h
  · rw [upd_ne h1] at h
    by_cases h2 : b = f
    · rw [h2, upd_same] at h
      cases h
    · rw [upd_ne h2] at h
      cases h
/-- x is a door that refuses what is bad by the class C -/
def AskR (P : Program) (w : World) (K : PySem.W.Frag) (mg : Str → Option Value) (base : Heap) (C : Addr) (bad : Hp → V → Prop) (H : Hp) (x : V) : Prop := ∃ (f : Addr) (D : Hp) (sp : Sp), x = .ref f ∧ Same D H ∧ Callable P w K mg base 29 f D sp ∧ (∀ b o, D b = some o → ∀ ps, o ≠ .tbl ps) ∧
  ∀ H2 y, bad H2 y → ∀ (Q : VK) (E : XK), (∀ H', Same H2 H' → E (.ref C) none H') → sp [y] H2 Q E
theorem AskR.ext {P : Program} {w : World} {K : PySem.W.Frag} {mg : Str → Option Value} {base : Heap} {C : Addr} {bad : Hp → V → Prop} {H H' : Hp} {x : V} (e : ExtN H H') (h : AskR P w K mg base C bad H x) : AskR P w K mg base C bad H' x := by
  obtain ⟨f, D, sp, ex, hD, hc, hh, h⟩ := h
  exact ⟨f, D, sp, ex, fun b o q => e b o (hD b o q) (hh b o q), hc, hh, h⟩
def spRows9 (T : List (Addr × Str)) : Sp := fun vs H Q _ => ∃ n : Int, vs = [.int n] ∧ 10 ≤ n ∧ n < 900010 ∧ Tabs T H ∧ ∀ H', Tabs T H' → Q (.bl true) H'
def spSure9 : Sp := fun vs H Q _ => ∃ n : Int, vs = [.int n] ∧ 10 ≤ n ∧ n < 900010 ∧ ∀ H', Same H H' → Q (.bl true) H'
def spRefused9 (T : List (Addr × Str)) : Sp := fun vs H Q _ => vs = [] ∧ Tabs T H ∧ ∀ H', Q (.bl true) H'
end RE
/-! what k06's walks use -/
namespace RE
open PySem PySem.Spec PyProof.Rows L2 LamX NdefX
theorem noTab_mono {H H' : Hp} (e : ExtN H H') : Same (noTab H) (noTab H') := by
  intro b o h
  have h1 := noTab_sub H b o h
  have n : ∀ ps, o ≠ .tbl ps := fun ps z => by
    subst z
    unfold noTab at h
    rw [h1] at h
    cases h
  exact noTab_at (e b o h1 n) n
theorem noTab_gone {H H1 : Hp} {d : Addr} (e : ExtN H H1) (n : H1 d = none) : noTab H d = none := by
  cases h : noTab H d with
  | none => rfl
  | some o =>
    have z := noTab_ext e d o h
    rw [n] at z
    cases z
theorem capD_hard {f : Addr} {F : NF} {e : Expr} {c : Addr} {ob : Obj} : ∀ b o, capD f F e c ob b = some o → ∀ ps, o ≠ .tbl ps := by
  intro b o h ps
  unfold capD at h
  by_cases h1 : b = c
  · rw [h1, upd_same] at h
    intro z
    subst z
    cases h
  · rw [upd_ne h1] at h
    exact lamD_hard b o h ps
/-- z is a door that is refused wherever what stands in H0 stands -/
def Ask0 (P : Program) (w : World) (K : PySem.W.Frag) (mg : Str → Option Value) (base : Heap) (C : Addr) (H0 H : Hp) (z : V) : Prop := ∃ (f : Addr) (D : Hp) (sp : Sp), z = .ref f ∧ Same D H ∧ Callable P w K mg base 29 f D sp ∧ (∀ b o, D b = some o → ∀ ps, o ≠ .tbl ps) ∧
  ∀ H2, Same D H2 → Same H0 H2 → ∀ (Q : VK) (E : XK), (∀ H', Same H2 H' → E (.ref C) none H') → sp [] H2 Q E
theorem Ask0.ext {P : Program} {w : World} {K : PySem.W.Frag} {mg : Str → Option Value} {base : Heap} {C : Addr} {H0 H H' : Hp} {z : V} (e : ExtN H H') (h : Ask0 P w K mg base C H0 H z) : Ask0 P w K mg base C H0 H' z := by
  obtain ⟨f, D, sp, ez, hD, hc, hh, h⟩ := h
  exact ⟨f, D, sp, ez, fun b o q => e b o (hD b o q) (hh b o q), hc, hh, h⟩
def spDoors (P : Program) (w : World) (K : PySem.W.Frag) (mg : Str → Option Value) (base : Heap) (T : List (Addr × Str)) (C : Addr) : Sp := fun vs H Q _ => ∃ x, vs = [x] ∧ NoRow K (noTab H) x ∧ Tabs T H ∧
  ∀ H' p xs, ExtN H H' → Tabs T H' → H' p = some (.lst xs) → xs.length = 8 → (∀ z ∈ xs, Ask0 P w K mg base C (noTab H) H' z) → Q (.ref p) H'
theorem same_less {H0 H2 : Hp} {d : Addr} (n : H0 d = none) (s : Same H0 H2) : Same H0 (lessH H2 d) := fun b o e => by
  rw [lessH_ne (ne_of_none e n)]
  exact s b o e
/-- all but l and the tables stay -/
def ExtB (l : Addr) (H H' : Hp) : Prop := ∀ b o, b ≠ l → H b = some o → (∀ ps, o ≠ .tbl ps) → H' b = some o
theorem ExtB.ext {l : Addr} {H H' : Hp} (e : ExtN H H') : ExtB l H H' := fun b o _ h n => e b o h n
theorem ExtB.but {l : Addr} {H H' : Hp} (s : SameBut l H H') : ExtB l H H' := fun b o nb h _ => s b o nb h
theorem ExtB.trans {l : Addr} {H H1 H2 : Hp} (a : ExtB l H H1) (b : ExtB l H1 H2) : ExtB l H H2 := fun c o n h t => b c o n (a c o n h t) t
theorem lamO_hard {f : Addr} {F : NF} {e : Expr} : ∀ ps, LamO f F e ≠ .tbl ps := fun ps z => by cases z
theorem codeO_hard {c : Addr} {q : Str} : ∀ ps, CodeO c q ≠ .tbl ps := fun ps z => by cases z
theorem ne_code_lst {H : Hp} {c l : Addr} {q : Str} {xs : List V} (h1 : H c = some (CodeO c q)) (h2 : H l = some (.lst xs)) : c ≠ l := fun z => by
  subst z
  rw [h1] at h2
  cases h2
/-! ### one bad thing among good ones -/
theorem cut_at (xs : List V) (j : Nat) (h : j ≤ xs.length) : cutV xs none (some ((j : Nat) : Int)) = xs.take j := by
  have e := cut_to xs j h
  rw [Int.zero_add] at e
  exact e
theorem cut_past (xs : List V) (j : Nat) (h : j ≤ xs.length) : cutV xs (some ((j : Nat) : Int)) none = xs.drop j := by
  unfold cutV
  rw [show HT.sIx xs.length 0 (some ((j : Nat) : Int)) = min j xs.length from HT.sIx_nat _ 0 j, HT.sIx_none, Nat.min_eq_left h]
  rw [List.take_of_length_le (by rw [List.length_drop]; omega)]
section
variable {K : PySem.W.Frag} {H : Hp}
def spliced (xs : List V) (j : Nat) (x : V) : List V := xs.take j ++ [x] ++ xs.drop (j + 1)
theorem spliced_len {xs : List V} {j : Nat} {x : V} (h : j < xs.length) : (spliced xs j x).length = xs.length := by
  unfold spliced
  rw [List.length_append, List.length_append, List.length_take, List.length_drop]
  simp
  omega
theorem spliced_mem {xs : List V} {j : Nat} {x y : V} (h : y ∈ spliced xs j x) : y ∈ xs ∨ y = x := by
  unfold spliced at h
  rcases List.mem_append.mp h with h | h
  · rcases List.mem_append.mp h with h | h
    · exact .inl (List.mem_of_mem_take h)
    · exact .inr (List.mem_singleton.mp h)
  · exact .inl (List.mem_of_mem_drop h)
theorem spliced_has {xs : List V} {j : Nat} {x : V} : x ∈ spliced xs j x := by
  unfold spliced
  simp
/-- a thing that is no coin -/
def BadC (K : PySem.W.Frag) (H : Hp) (x : V) : Prop := (∃ T, PV K H x T) ∧ coinB x = false
theorem BadC.mono {H' : Hp} {x : V} (s : Same H H') (h : BadC K H x) : BadC K H' x := ⟨let ⟨T, p⟩ := h.1; ⟨T, p.mono s⟩, h.2⟩
def BadS (K : PySem.W.Frag) (H : Hp) (x : V) : Prop := (∃ T, PV K H x T) ∧ isSideB x = false
theorem BadS.mono {H' : Hp} {x : V} (s : Same H H') (h : BadS K H x) : BadS K H' x := ⟨let ⟨T, p⟩ := h.1; ⟨T, p.mono s⟩, h.2⟩
theorem spliced_row {r : Addr} {ns : List Int} {j : Nat} {x : V} (hr : H r = some (.lst (spliced (ns.map V.int) j x))) (hl : ns.length ≤ 12) (hj : j < ns.length) (hx : BadC K H x) : NoRow K H (.ref r) := by
  refine .inr ⟨r, _, rfl, SqL.of hr, .inr ⟨by rw [spliced_len (by rw [List.length_map]; exact hj), List.length_map]; exact hl, fun y hy => ?_, all_false_at spliced_has hx.2⟩⟩
  rcases spliced_mem hy with h | h
  · obtain ⟨z, _, rfl⟩ := List.mem_map.mp h
    exact ⟨_, pv_int z⟩
  · rw [h]
    exact hx.1
theorem spliced_takes {r : Addr} {bs : List Bool} {j n : Nat} {x : V} (hr : H r = some (.lst (spliced (sidesV bs) j x))) (hl : bs.length ≤ n) (hj : j < bs.length) (hx : BadS K H x) : NoTakes K H (.ref r) n := by
  refine .inr ⟨r, _, rfl, SqL.of hr, .inr ⟨by rw [spliced_len (by rw [sidesV_len]; exact hj), sidesV_len]; exact hl, fun y hy => ?_, all_false_at spliced_has hx.2⟩⟩
  rcases spliced_mem hy with h | h
  · obtain ⟨z, _, rfl⟩ := List.mem_map.mp h
    exact ⟨_, pv_str _⟩
  · rw [h]
    exact hx.1
end
theorem same_back2 {H H' : Hp} {c d : Addr} {o o' : Obj} (hc : H c = some (CellO c o)) (hd : H d = some (CellO d o')) (n : c ≠ d) (s : Same (lessH (lessH H d) c) H') : Same H (upd (upd H' c (CellO c o)) d (CellO d o')) := same_back hd (same_back ((lessH_ne n).trans hc) s)
theorem same_gone2 {H H' : Hp} {c d : Addr} {o o' : Obj} (nc : H c = none) (nd : H d = none) (n : c ≠ d) (s : Same (upd (upd H c (CellO c o)) d (CellO d o')) H') : Same H (lessH (lessH H' d) c) := same_gone nc (same_gone ((upd_ne n.symm).trans nd) s)
theorem same_less2 {H0 H2 : Hp} {c d : Addr} (nc : H0 c = none) (nd : H0 d = none) (s : Same H0 H2) : Same H0 (lessH (lessH H2 d) c) := same_less nc (same_less nd s)
theorem RowOk.take {ns : List Int} (h : RowOk ns) (j : Nat) : RowOk (ns.take j) := ⟨by rw [List.length_take]; have := h.1; omega, fun z hz => h.2 z (List.mem_of_mem_take hz)⟩
theorem cut_map {ns : List Int} (j : Nat) (h : j ≤ ns.length) : cutV (ns.map V.int) none (some ((j : Nat) : Int)) = (ns.take j).map V.int := by
  rw [cut_at _ j (by rw [List.length_map]; exact h), List.map_take]
theorem rep_true (n : Nat) : (List.replicate n true).all id = true := by
  induction n with
  | zero => rfl
  | succ n ih => rw [List.replicate_succ, List.all_cons, ih]; rfl
/-! ### small rows outright -/
theorem wv_abs (a b : Int) : wv [a, b] 2 0 = if a - b < 0 then -(a - b) else a - b := by
  rw [wv_two]
  split <;> split <;> omega
theorem sure_abs (a b : Int) : sureV [a, b] = if a - b < 0 then -(a - b) else a - b := by
  unfold sureV absI
  simp only [evens, List.sum_cons, List.sum_nil, List.drop]
  split <;> split <;> omega
theorem wv_three (a b c : Int) : wv [a, b, c] 3 0 = if c - (if a - b < 0 then -(a - b) else a - b) > a - (if b - c < 0 then -(b - c) else b - c) then c - (if a - b < 0 then -(a - b) else a - b) else a - (if b - c < 0 then -(b - c) else b - c) := by
  have one : ∀ k, wv [a, b, c] 1 k = [a, b, c].getD k 0 := fun k => by
    show wv [a, b, c] (0 + 1) k = _
    rw [wv_succ, wv_zero, wv_zero, Nat.add_zero]
    split <;> omega
  have h0 : wv [a, b, c] 2 0 = if a - b < 0 then -(a - b) else a - b := by
    show wv [a, b, c] (1 + 1) 0 = _
    rw [wv_succ, one, one]
    show (if b - a > a - b then b - a else a - b) = _
    split <;> split <;> omega
  have h1 : wv [a, b, c] 2 (0 + 1) = if b - c < 0 then -(b - c) else b - c := by
    show wv [a, b, c] (1 + 1) (0 + 1) = _
    rw [wv_succ, one, one]
    show (if c - b > b - c then c - b else b - c) = _
    split <;> split <;> omega
  show wv [a, b, c] (2 + 1) 0 = _
  rw [wv_succ, h0, h1]
  rfl
theorem greedy_two (a b : Int) : greedyV [a, b] 2 0 = [decide (b ≤ a), true] := by
  show greedyV [a, b] (1 + 1) 0 = _
  rw [greedyV_succ]
  show decide (b ≤ a) :: greedyV [a, b] (0 + 1) _ = _
  rw [greedyV_succ, Nat.add_zero, decide_eq_true (Int.le_refl _)]
  rfl
theorem gets_none (n least : Int) : showsV [n] [] true least = false := by
  have h : plannedV [n] [] true = none := by
    unfold plannedV
    rw [if_pos (show tabOk [n].length none [] = true from rfl)]
    rfl
  unfold showsV
  rw [h]
/-- an answer by hand, a row, a number, what it shows -/
def SCase (G D : Addr) (H : Hp) (x : V) : Prop := ∃ (q o l r dx : Addr) (ys : List V) (p : List Tri) (ns : List Int) (f : Bool) (k : Int) (due : Bool), x = .ref q ∧ H q = some (.tup [.ref o, .ref r, .int k, .bl due]) ∧ H o = some (.ins (if f = true then G else D) dx [("plan", .ref l)]) ∧ H l = some (.lst ys) ∧ H r = some (.lst (ns.map V.int)) ∧ Tris H ys p ∧ p.length ≤ 10000 ∧ ns.length ≤ 12 ∧ showsV ns p f k = due
theorem SCase.mono {G D : Addr} {H H' : Hp} {x : V} (s : Same H H') (h : SCase G D H x) : SCase G D H' x := by
  obtain ⟨q, o, l, r, dx, ys, p, ns, f, k, due, ex, h1, h2, h3, h4, h5, h⟩ := h
  exact ⟨q, o, l, r, dx, ys, p, ns, f, k, due, ex, s _ _ h1, s _ _ h2, s _ _ h3, s _ _ h4, h5.mono s, h⟩
theorem eq_same {a b : Bool} (h : a = b) : decide (V.bl a = V.bl b) = true := by
  subst h
  simp
/-! ### plans bent and put back -/
theorem Tris.snoc {H : Hp} : ∀ {p : List Tri} {t : Tri} {xs : List V}, Tris H xs (p ++ [t]) → ∃ ys q, xs = ys ++ [.ref q] ∧ Tris H ys p ∧ H q = some (.tup (triV t))
  | [], t, xs, h => by
    cases h with
    | cons h1 h2 =>
      cases h2
      exact ⟨[], _, rfl, .nil, h1⟩
  | s :: p, t, xs, h => by
    cases h with
    | cons h1 h2 =>
      obtain ⟨ys, q, e, h3, h4⟩ := Tris.snoc h2
      exact ⟨_ :: ys, q, by rw [e]; rfl, .cons h1 h3, h4⟩
theorem plan_last {ns : List Int} (h : ns.length = 6) : ∃ p t, planV ns true = p ++ [t] := by
  have m : lineV ns 0 5 ∈ planV ns true := mem_planV.mpr ⟨0, 5, by omega, by rw [h]; decide, rfl⟩
  have ne : planV ns true ≠ [] := fun z => by
    rw [z] at m
    cases m
  exact ⟨(planV ns true).dropLast, (planV ns true).getLast ne, (List.dropLast_concat_getLast ne).symm⟩
theorem wv_far {ns : List Int} (ok : RowOk ns) : -100000000 ≤ wv ns ns.length 0 ∧ wv ns ns.length 0 ≤ 100000000 := by
  have h := wv_bound ns ns.length 0 (fun i => ok.getD i)
  have l := ok.1
  omega
theorem but_free {d a : Addr} {H H' : Hp} (s : SameBut d H H') (n : H' a = none) (ne : a ≠ d) : H a = none := by
  cases h : H a with
  | none => rfl
  | some o =>
    rw [s a o ne h] at n
    cases n
def spTold6 (K : PySem.W.Frag) : Sp := fun vs H Q _ => ∃ (r : Addr) (ns : List Int), vs = [.ref r] ∧ H r = some (.lst (ns.map V.int)) ∧ RowOk ns ∧ ns.length = 6 ∧
  ∀ H' p a b t l, Same H H' → H p = none → H a = none → H b = none → H t = none → H l = none → H' p = some (.lst [.int (wv ns ns.length 0), .ref a, .int (many ns ns.length 0), .ref b, .ref t]) → H' a = some (.lst (sidesV (ends ns ns.length 0))) → H' b = some (.lst (sidesV (greedyV ns ns.length 0))) →
    H' t = some (.tup [.int (ledR ns ns.length 0 [true]).1, .int (ledR ns ns.length 0 [true]).2, .ref l]) → H' l = some (.lst ((stretch ns (ledLow 0 [true]) (ns.length - [true].length)).map V.int)) → Q (.ref p) H'
def spAnew6 : Sp := fun vs H Q _ => ∃ (r o : Addr) (ns ms : List Int), vs = [.ref r, .ref o] ∧ H r = some (.lst (ns.map V.int)) ∧ RowOk ns ∧ H o = some (.lst (ms.map V.int)) ∧ RowOk ms ∧ ns.length = 6 ∧ ms.length = 6 ∧ ∀ H', Same H H' → Q (.bl true) H'
def spBad6 (T : List (Addr × Str)) : Sp := fun vs H Q _ => ∃ n : Int, vs = [.int n] ∧ 0 ≤ n ∧ Tabs T H ∧ ∀ H', ExtN H H' → Q (.bl true) H'
def spSmall6 : Sp := fun vs H Q _ => ∃ a b c : Int, vs = [.int a, .int b, .int c] ∧ 0 ≤ a ∧ a ≤ 1000000 ∧ 0 ≤ b ∧ b ≤ 1000000 ∧ 0 ≤ c ∧ c ≤ 1000000 ∧ ∀ H', Same H H' → Q (.bl true) H'
end RE
/-! things of nested lists: what stands in the heap, which lists it owns -/
namespace RE
open PySem PySem.Spec PyProof.Rows L2
inductive Th
  | leaf (x : V)
  | node (ts : List Th)
/-- no list: a plain value, or a tuple of plain ones -/
def Leaf (H : Hp) (x : V) : Prop := okF x = true ∨ ∃ q ys, x = .ref q ∧ H q = some (.tup ys) ∧ ys.all okF = true
mutual
inductive Holds (H : Hp) : V → Th → List Addr → Prop
  | leaf {x : V} (h : Leaf H x) : Holds H x (.leaf x) []
  | node {a : Addr} {xs : List V} {ts : List Th} {S : List Addr} (h : H a = some (.lst xs)) (t : HoldsAll H xs ts S) : Holds H (.ref a) (.node ts) (a :: S)
inductive HoldsAll (H : Hp) : List V → List Th → List Addr → Prop
  | nil : HoldsAll H [] [] []
  | cons {x : V} {xs : List V} {t : Th} {ts : List Th} {S S' : List Addr} (h : Holds H x t S) (r : HoldsAll H xs ts S') : HoldsAll H (x :: xs) (t :: ts) (S ++ S')
end
/-- all stays but the objects of S -/
def Out (S : List Addr) (H H' : Hp) : Prop := ∀ b o, b ∉ S → H b = some o → H' b = some o
theorem Out.of {S : List Addr} {H H' : Hp} (s : Same H H') : Out S H H' := fun b o _ h => s b o h
theorem Out.refl (S : List Addr) (H : Hp) : Out S H H := fun _ _ _ h => h
theorem Out.trans {S : List Addr} {H H1 H2 : Hp} (a : Out S H H1) (b : Out S H1 H2) : Out S H H2 := fun c o n h => b c o n (a c o n h)
theorem Out.mono {S S' : List Addr} {H H' : Hp} (o : Out S H H') (h : ∀ b ∈ S, b ∈ S') : Out S' H H' := fun c ob n e => o c ob (fun z => n (h c z)) e
theorem Out.but {l : Addr} {S : List Addr} {H H' : Hp} (s : SameBut l H H') (h : l ∈ S) : Out S H H' := fun b o n e => s b o (fun z => n (z ▸ h)) e
/-- what is changed was not there -/
theorem Out.same {S : List Addr} {H0 H H' : Hp} (o : Out S H H') (s : Same H0 H) (n : ∀ b ∈ S, H0 b = none) : Same H0 H' := fun b ob e => o b ob (fun z => by
  rw [n b z] at e
  cases e) (s b ob e)
theorem Leaf.out {S : List Addr} {H H' : Hp} {x : V} (o : Out S H H') (hS : ∀ b ∈ S, ∃ xs, H b = some (.lst xs)) (h : Leaf H x) : Leaf H' x := by
  rcases h with h | ⟨q, ys, rfl, hq, hy⟩
  · exact .inl h
  · refine .inr ⟨q, ys, rfl, o q _ (fun z => ?_) hq, hy⟩
    obtain ⟨xs, e⟩ := hS q z
    rw [hq] at e
    cases e
mutual
theorem Holds.out {S : List Addr} {H H' : Hp} (o : Out S H H') (hS : ∀ b ∈ S, ∃ xs, H b = some (.lst xs)) : ∀ {x : V} {t : Th} {S1 : List Addr}, Holds H x t S1 → (∀ b ∈ S1, b ∉ S) → Holds H' x t S1
  | _, _, _, .leaf h, _ => .leaf (h.out o hS)
  | _, _, _, .node h t, n => .node (o _ _ (n _ List.mem_cons_self) h) (HoldsAll.out o hS t fun b hb => n b (List.mem_cons_of_mem _ hb))
theorem HoldsAll.out {S : List Addr} {H H' : Hp} (o : Out S H H') (hS : ∀ b ∈ S, ∃ xs, H b = some (.lst xs)) : ∀ {xs : List V} {ts : List Th} {S1 : List Addr}, HoldsAll H xs ts S1 → (∀ b ∈ S1, b ∉ S) → HoldsAll H' xs ts S1
  | _, _, _, .nil, _ => .nil
  | _, _, _, .cons h r, n => .cons (Holds.out o hS h fun b hb => n b (List.mem_append_left _ hb)) (HoldsAll.out o hS r fun b hb => n b (List.mem_append_right _ hb))
end
theorem Holds.mono {H H' : Hp} (s : Same H H') {x : V} {t : Th} {S : List Addr} (h : Holds H x t S) : Holds H' x t S := h.out (S := []) (Out.of s) (fun _ z => nomatch z) (fun _ _ z => nomatch z)
theorem HoldsAll.mono {H H' : Hp} (s : Same H H') {xs : List V} {ts : List Th} {S : List Addr} (h : HoldsAll H xs ts S) : HoldsAll H' xs ts S := h.out (S := []) (Out.of s) (fun _ z => nomatch z) (fun _ _ z => nomatch z)
mutual
theorem Holds.lists {H : Hp} : ∀ {x : V} {t : Th} {S : List Addr}, Holds H x t S → ∀ b ∈ S, ∃ xs, H b = some (.lst xs)
  | _, _, _, .leaf _, b, hb => nomatch hb
  | _, _, _, .node h t, b, hb => (List.mem_cons.mp hb).elim (fun e => ⟨_, e ▸ h⟩) (HoldsAll.lists t b)
theorem HoldsAll.lists {H : Hp} : ∀ {xs : List V} {ts : List Th} {S : List Addr}, HoldsAll H xs ts S → ∀ b ∈ S, ∃ xs, H b = some (.lst xs)
  | _, _, _, .nil, b, hb => nomatch hb
  | _, _, _, .cons h r, b, hb => (List.mem_append.mp hb).elim (Holds.lists h b) (HoldsAll.lists r b)
end
theorem HoldsAll.len {H : Hp} : ∀ {xs : List V} {ts : List Th} {S : List Addr}, HoldsAll H xs ts S → xs.length = ts.length
  | _, _, _, .nil => rfl
  | _, _, _, .cons _ r => by rw [List.length_cons, List.length_cons, r.len]
theorem HoldsAll.get {H : Hp} : ∀ {xs : List V} {ts : List Th} {S : List Addr} {i : Nat} {x : V}, HoldsAll H xs ts S → xs[i]? = some x → ∃ t S', ts[i]? = some t ∧ Holds H x t S' ∧ ∀ b ∈ S', b ∈ S
  | _, _, _, _, _, .nil, e => by simp at e
  | _, _, _, 0, x, .cons h r, e => by
    obtain rfl := Option.some.inj e
    exact ⟨_, _, rfl, h, fun b hb => List.mem_append_left _ hb⟩
  | _, _, _, i + 1, x, .cons h r, e => by
    obtain ⟨t, S', h1, h2, h3⟩ := r.get (i := i) (x := x) (by simpa using e)
    exact ⟨t, S', by simpa using h1, h2, fun b hb => List.mem_append_right _ (h3 b hb)⟩
theorem HoldsAll.app {H : Hp} {ys : List V} {us : List Th} {S' : List Addr} (b : HoldsAll H ys us S') : ∀ {xs : List V} {ts : List Th} {S : List Addr}, HoldsAll H xs ts S → HoldsAll H (xs ++ ys) (ts ++ us) (S ++ S')
  | _, _, _, .nil => b
  | _, _, _, .cons h r => by
    rw [List.append_assoc]
    exact .cons h (b.app r)
/-! ### measures -/
mutual
def Th.depth : Th → Nat
  | .leaf _ => 0
  | .node ts => Th.depths ts + 1
def Th.depths : List Th → Nat
  | [] => 0
  | t :: ts => max t.depth (Th.depths ts)
end
mutual
def Th.size : Th → Nat
  | .leaf _ => 1
  | .node ts => Th.sizes ts + 1
def Th.sizes : List Th → Nat
  | [] => 0
  | t :: ts => t.size + Th.sizes ts
end
theorem Th.size_pos : ∀ t : Th, 0 < t.size
  | .leaf _ => by simp [Th.size]
  | .node _ => by simp [Th.size]
theorem Th.sizes_len : ∀ ts : List Th, ts.length ≤ Th.sizes ts
  | [] => Nat.le_refl _
  | t :: ts => by
    have h1 := t.size_pos
    have h2 := Th.sizes_len ts
    rw [List.length_cons, Th.sizes]
    omega
theorem Th.depths_get : ∀ {ts : List Th} {i : Nat} {t : Th}, ts[i]? = some t → t.depth ≤ Th.depths ts
  | [], i, t, e => by simp at e
  | s :: ts, 0, t, e => by
    obtain rfl : s = t := by simpa using e
    rw [Th.depths]
    exact Nat.le_max_left _ _
  | s :: ts, i + 1, t, e => by
    have h := Th.depths_get (ts := ts) (i := i) (t := t) (by simpa using e)
    rw [Th.depths]
    exact Nat.le_trans h (Nat.le_max_right _ _)
theorem Th.sizes_get : ∀ {ts : List Th} {i : Nat} {t : Th}, ts[i]? = some t → t.size ≤ Th.sizes ts
  | [], i, t, e => by simp at e
  | s :: ts, 0, t, e => by
    obtain rfl : s = t := by simpa using e
    rw [Th.sizes]
    omega
  | s :: ts, i + 1, t, e => by
    have h := Th.sizes_get (ts := ts) (i := i) (t := t) (by simpa using e)
    rw [Th.sizes]
    omega
mutual
/-- of one form -/
def Th.like : Th → Th → Prop
  | .leaf _, .leaf _ => True
  | .node ts, .node us => Th.likes ts us
  | _, _ => False
def Th.likes : List Th → List Th → Prop
  | [], [] => True
  | t :: ts, u :: us => Th.like t u ∧ Th.likes ts us
  | _, _ => False
end
theorem Th.likes_len : ∀ {ts us : List Th}, Th.likes ts us → ts.length = us.length
  | [], [], _ => rfl
  | t :: ts, u :: us, h => by rw [List.length_cons, List.length_cons, Th.likes_len h.2]
  | [], _ :: _, h => h.elim
  | _ :: _, [], h => h.elim
/-! ### as data -/
def leafD (H : Hp) : V → PyData
  | .ref q => match H q with
    | some (.tup ys) => .tuple (ys.map vD)
    | _ => .none
  | x => vD x
mutual
def Th.data (H : Hp) : Th → PyData
  | .leaf x => leafD H x
  | .node ts => .list (Th.datas H ts)
def Th.datas (H : Hp) : List Th → List PyData
  | [] => []
  | t :: ts => t.data H :: Th.datas H ts
end
theorem sha_mono {ds : List PyData} {n m : Nat} (h : ShA ds n) (l : n ≤ m) : ShA ds m := ⟨h.can, Nat.le_trans h.dep l⟩
section
variable {K : PySem.W.Frag} {H : Hp}
theorem Leaf.dp {x : V} (h : Leaf H x) : Dp K H x (leafD H x) ∧ Sh (leafD H x) 1 := by
  rcases h with h | ⟨q, ys, rfl, hq, hy⟩
  · have e : leafD H x = vD x := by
      cases x with
      | ref q => cases h
      | _ => rfl
    rw [e]
    exact ⟨dp_flat h, sh_flat h 1⟩
  · have e : leafD H (.ref q) = .tuple (ys.map vD) := by
      unfold leafD
      simp only [hq]
    rw [e]
    exact ⟨dp_tup (SqT.of hq) hy, Sh.tuple (sha_flat hy 0)⟩
theorem Leaf.pv {x : V} (h : Leaf H x) : ∃ T, PV K H x T ∧ (T == "list") = false := by
  rcases h with h | ⟨q, ys, rfl, hq, hy⟩
  · cases x with
    | non => exact ⟨_, pv_non, rfl⟩
    | bl b => exact ⟨_, pv_bl b, rfl⟩
    | int i => exact ⟨_, pv_int i, rfl⟩
    | str s => exact ⟨_, pv_str s, rfl⟩
    | _ => cases h
  · exact ⟨_, pv_tup hq, rfl⟩
mutual
theorem Holds.dp : ∀ {x : V} {t : Th} {S : List Addr}, Holds H x t S → Dp K H x (t.data H) ∧ Sh (t.data H) (t.depth + 1)
  | _, _, _, .leaf h => by
    rw [Th.data, Th.depth]
    exact h.dp
  | _, _, _, .node h t => by
    have r := HoldsAll.dp t
    rw [Th.data, Th.depth]
    exact ⟨.lst (SqL.of h) r.1, Sh.list r.2⟩
theorem HoldsAll.dp : ∀ {xs : List V} {ts : List Th} {S : List Addr}, HoldsAll H xs ts S → DpAll K H xs (Th.datas H ts) ∧ ShA (Th.datas H ts) (Th.depths ts + 1)
  | _, _, _, .nil => ⟨by rw [Th.datas]; exact .nil, by rw [Th.datas]; exact .nil _⟩
  | _, _, _, .cons h r => by
    have a := Holds.dp h
    have b := HoldsAll.dp r
    rw [Th.datas, Th.depths]
    exact ⟨.cons a.1 b.1, .cons (a.2.mono (by omega)) (sha_mono b.2 (by omega))⟩
end
end
/-! ### promises -/
def spCopy (K : PySem.W.Frag) (n : Nat) : Sp := fun vs H Q _ => ∃ (x : V) (t : Th) (S : List Addr), vs = [x] ∧ Holds H x t S ∧ t.depth < n ∧ t.size ≤ 10000 ∧ ∀ H' y S', Same H H' → (∀ b ∈ S', H b = none) → S'.Nodup → Holds H' y t S' → Q y H'
def spSpoil (K : PySem.W.Frag) (n : Nat) : Sp := fun vs H Q _ => ∃ (a : Addr) (ts : List Th) (S : List Addr), vs = [.ref a] ∧ Holds H (.ref a) (.node ts) S ∧ S.Nodup ∧ (Th.node ts).depth < n ∧ (Th.node ts).size ≤ 10000 ∧ ∀ H', Out S H H' → Q .non H'
def spLay (K : PySem.W.Frag) (n : Nat) : Sp := fun vs H Q _ => ∃ (a b : Addr) (ts us : List Th) (S S2 : List Addr), vs = [.ref a, .ref b] ∧ Holds H (.ref a) (.node ts) S ∧ S.Nodup ∧ Holds H (.ref b) (.node us) S2 ∧ (∀ c ∈ S2, c ∉ S) ∧ Th.likes ts us ∧ (Th.node us).depth < n ∧ (Th.node us).size ≤ 10000 ∧
  ∀ H', Out S H H' → Holds H' (.ref a) (.node us) S → Q .non H'
theorem Holds.node_inv {H : Hp} {a : Addr} {ts : List Th} {S : List Addr} (h : Holds H (.ref a) (.node ts) S) : ∃ xs S', S = a :: S' ∧ H a = some (.lst xs) ∧ HoldsAll H xs ts S' := by
  cases h with
  | node h t => exact ⟨_, _, rfl, h, t⟩
theorem hide_out {D : Addr} {H : Hp} (xs : List V) : Out [D] H (hide D (upd H D (.lst xs))) := fun b o n e => by
  have nb : b ≠ D := fun z => n (by rw [z]; exact List.mem_cons_self)
  rw [hide_ne nb, upd_ne nb]
  exact e
/-- one more copy in the new list -/
theorem copy_step {H Hx Hy : Hp} {D : Addr} {ys : List V} {ts : List Th} {S' : List Addr} {y : V} {t : Th} {S2 : List Addr} {i : Nat} (sy : Same Hx Hy) (hD : Hx D = some (.lst ys)) (hA : HoldsAll (hide D Hx) ys (ts.take i) S') (nS : ∀ b ∈ S', H b = none) (nd : S'.Nodup) (ht : ts[i]? = some t)
    (n2 : ∀ b ∈ S2, Hx b = none) (nd2 : S2.Nodup) (hy : Holds Hy y t S2) (sx : Same H Hx) : ∃ S3, HoldsAll (hide D (upd Hy D (.lst (ys ++ [y])))) (ys ++ [y]) (ts.take (i + 1)) S3 ∧ (∀ b ∈ S3, H b = none) ∧ S3.Nodup := by
  have nD2 : D ∉ S2 := fun z => by
    rw [n2 D z] at hD
    cases hD
  have lists := hA.lists
  have inx : ∀ b ∈ S', ∃ xs, Hx b = some (.lst xs) := fun b hb => let ⟨xs, e⟩ := lists b hb; ⟨xs, hide_of D Hx b _ e⟩
  have s1 : Same (hide D Hx) (hide D (upd Hy D (.lst (ys ++ [y])))) := hide_same (fun b u nb e => by rw [upd_ne nb]; exact sy _ _ e)
  have hy2 : Holds (hide D (upd Hy D (.lst (ys ++ [y])))) y t S2 := hy.out (S := [D]) (hide_out _) (fun b hb => ⟨ys, by rw [List.mem_singleton.mp hb]; exact sy _ _ hD⟩) (fun b hb z => nD2 (by rw [← List.mem_singleton.mp z]; exact hb))
  refine ⟨S' ++ (S2 ++ []), ?_, fun b hb => ?_, ?_⟩
  · rw [List.take_add_one, ht]
    exact HoldsAll.app (.cons hy2 .nil) (hA.mono s1)
  · rw [List.append_nil] at hb
    rcases List.mem_append.mp hb with h | h
    · exact nS b h
    · cases e : H b with
      | none => rfl
      | some o =>
        have z := sx b o e
        rw [n2 b h] at z
        cases z
  · rw [List.append_nil]
    refine List.nodup_append.mpr ⟨nd, nd2, fun b hb c hc z => ?_⟩
    obtain ⟨xs, e⟩ := inx b hb
    rw [z, n2 c hc] at e
    cases e
theorem HoldsAll.pop {H : Hp} : ∀ {i : Nat} {xs : List V} {ts : List Th} {S : List Addr} {x : V}, HoldsAll H (xs.drop i) (ts.drop i) S → xs[i]? = some x → ∃ t S1 S2, ts[i]? = some t ∧ S = S1 ++ S2 ∧ Holds H x t S1 ∧ HoldsAll H (xs.drop (i + 1)) (ts.drop (i + 1)) S2
  | 0, xs, ts, S, x, h, e => by
    rw [List.drop_zero, List.drop_zero] at h
    cases h with
    | nil => simp at e
    | cons h1 h2 =>
      obtain rfl := Option.some.inj e
      exact ⟨_, _, _, rfl, rfl, h1, h2⟩
  | i + 1, xs, ts, S, x, h, e => by
    match xs, ts, h, e with
    | [], _, _, e => simp at e
    | y :: xs, [], h, e =>
      have z := h.len
      have l := (List.getElem?_eq_some_iff.mp e).1
      simp at z l
      omega
    | y :: xs, t :: ts, h, e =>
      obtain ⟨t', S1, S2, h1, h2, h3, h4⟩ := HoldsAll.pop (i := i) (xs := xs) (ts := ts) (x := x) (by simpa using h) (by simpa using e)
      exact ⟨t', S1, S2, by simpa using h1, h2, h3, by simpa using h4⟩
theorem Th.likes_get : ∀ {ts us : List Th} {i : Nat} {t u : Th}, Th.likes ts us → ts[i]? = some t → us[i]? = some u → Th.like t u
  | [], [], i, t, u, _, e, _ => by simp at e
  | [], _ :: _, _, _, _, h, _, _ => h.elim
  | _ :: _, [], _, _, _, h, _, _ => h.elim
  | a :: ts, b :: us, 0, t, u, h, e1, e2 => by
    obtain rfl : a = t := by simpa using e1
    obtain rfl : b = u := by simpa using e2
    exact h.1
  | a :: ts, b :: us, i + 1, t, u, h, e1, e2 => Th.likes_get (ts := ts) (us := us) (i := i) h.2 (by simpa using e1) (by simpa using e2)
theorem passAt0 {X : Cx} (σ : L2.St) : PassesAt (L2.CX X.prog X.w) X σ E0 := fun _ _ _ _ _ _ ⟨_, _, _, _, _, _, _, _, _, _, _, _, z⟩ => z.elim
theorem set_mid (zsA : List V) (z y : V) (zr : List V) : (zsA ++ z :: zr).set zsA.length y = (zsA ++ [y]) ++ zr := by
  rw [List.set_append_right _ _ (Nat.le_refl _), Nat.sub_self]
  simp
theorem at_mid (zsA : List V) (z : V) (zr : List V) : (zsA ++ z :: zr)[zsA.length]? = some z := by
  rw [List.getElem?_append_right (Nat.le_refl _), Nat.sub_self]
  rfl
end RE
/-! doors that are handed lists and tell lists -/
namespace RE
open PySem PySem.Spec PyProof.Rows L2 LamX NdefX
theorem apart {H : Hp} {S S' : List Addr} (h : ∀ b ∈ S, ∃ xs, H b = some (.lst xs)) (n : ∀ b ∈ S', H b = none) : ∀ b ∈ S, b ∉ S' := fun b hb z => by
  obtain ⟨xs, e⟩ := h b hb
  rw [n b z] at e
  cases e
theorem none_back {H H1 : Hp} {S : List Addr} (s : Same H H1) (n : ∀ b ∈ S, H1 b = none) : ∀ b ∈ S, H b = none := fun b hb => s.free (n b hb)
theorem lists_on {H H1 : Hp} {S : List Addr} (s : Same H H1) (h : ∀ b ∈ S, ∃ xs, H b = some (.lst xs)) : ∀ b ∈ S, ∃ xs, H1 b = some (.lst xs) := fun b hb => let ⟨xs, e⟩ := h b hb; ⟨xs, s _ _ e⟩
theorem Holds.isref {H : Hp} {x : V} {ts : List Th} {S : List Addr} (h : Holds H x (.node ts) S) : ∃ m, x = .ref m := by
  cases h with
  | node _ _ => exact ⟨_, rfl⟩
theorem shp {K : PySem.W.Frag} {H : Hp} {x : V} {t : Th} {S : List Addr} (h : Holds H x t S) (hd : t.depth < 4) : SeqAt.shaped (t.data H) = true := (Holds.dp (K := K) h).2.shaped (by omega)
/-- what a thing may be: not deep, not great -/
structure Fit (ts : List Th) : Prop where
  deep : (Th.node ts).depth < 4
  many : (Th.node ts).size ≤ 10000
/-- asked about ts, it tells r, newly made -/
def Tells (sp : Sp) (D H : Hp) (ts r : List Th) : Prop := ∀ (H2 : Hp) (x : V) (S : List Addr), Same D H2 → Same H H2 → Holds H2 x (.node ts) S → ∀ (Q : VK) (E : XK), (∀ H' y S', Same H2 H' → (∀ c ∈ S', H2 c = none) → S'.Nodup → Holds H' (.ref y) (.node r) S' → Q (.ref y) H') → sp [x] H2 Q E
def spDoor8 (P : Program) (w : World) (K : PySem.W.Frag) (mg : Str → Option Value) (base : Heap) : Sp := fun vs H Q _ => ∃ (f a b : Addr) (D : Hp) (sp : Sp) (ts us r1 r2 : List Th) (S S2 : List Addr), vs = [.ref f, .ref a, .ref b] ∧ Callable P w K mg base 29 f D sp ∧ Same D H ∧ Holds H (.ref a) (.node ts) S ∧ Holds H (.ref b) (.node us) S2 ∧ Th.likes ts us ∧ Th.likes us ts ∧
  Fit ts ∧ Fit us ∧ Fit r1 ∧ Fit r2 ∧ Tells sp D H ts r1 ∧ Tells sp D H us r2 ∧ ∀ H', Same H H' → Q (.bl true) H'
/-! ### rows as things -/
def tr (ns : List Int) : List Th := ns.map fun z => .leaf (.int z)
theorem tr_holds {H : Hp} : ∀ ns : List Int, HoldsAll H (ns.map V.int) (tr ns) []
  | [] => .nil
  | n :: ns => HoldsAll.cons (S := []) (.leaf (.inl rfl)) (tr_holds ns)
theorem tr_row {H : Hp} {a : Addr} {ns : List Int} (h : H a = some (.lst (ns.map V.int))) : Holds H (.ref a) (.node (tr ns)) [a] := .node h (tr_holds ns)
theorem tr_vals {H : Hp} : ∀ {ns : List Int} {xs : List V} {S : List Addr}, HoldsAll H xs (tr ns) S → xs = ns.map V.int ∧ S = []
  | [], _, _, h => by
    cases h
    exact ⟨rfl, rfl⟩
  | n :: ns, _, _, h => by
    cases h with
    | cons h1 h2 =>
      cases h1 with
      | leaf hl =>
        obtain ⟨e1, e2⟩ := tr_vals h2
        exact ⟨by rw [e1]; rfl, by rw [e2]; rfl⟩
theorem tr_inv {H : Hp} {x : V} {ns : List Int} {S : List Addr} (h : Holds H x (.node (tr ns)) S) : ∃ a, x = .ref a ∧ H a = some (.lst (ns.map V.int)) ∧ S = [a] := by
  cases h with
  | node h t =>
    obtain ⟨e1, e2⟩ := tr_vals t
    subst e1 e2
    exact ⟨_, rfl, h, rfl⟩
theorem tr_depth : ∀ ns : List Int, Th.depths (tr ns) = 0
  | [] => rfl
  | n :: ns => by
    show max (Th.depth (.leaf (.int n))) (Th.depths (tr ns)) = 0
    rw [tr_depth ns, Th.depth]
    rfl
theorem tr_size : ∀ ns : List Int, Th.sizes (tr ns) = ns.length
  | [] => rfl
  | n :: ns => by
    show Th.size (.leaf (.int n)) + Th.sizes (tr ns) = _
    rw [tr_size ns, Th.size, List.length_cons]
    omega
theorem tr_fit {ns : List Int} (h : ns.length ≤ 1000) : Fit (tr ns) := ⟨by rw [Th.depth, tr_depth]; decide, by rw [Th.size, tr_size]; omega⟩
theorem tr_likes : ∀ {ns ms : List Int}, ns.length = ms.length → Th.likes (tr ns) (tr ms)
  | [], [], _ => True.intro
  | n :: ns, m :: ms, h => ⟨True.intro, tr_likes (by simpa using h)⟩
  | [], _ :: _, h => by simp at h
  | _ :: _, [], h => by simp at h
/-- leaves as they stand -/
theorem leaves_hold {H : Hp} : ∀ {xs : List V}, (∀ x ∈ xs, Leaf H x) → HoldsAll H xs (xs.map Th.leaf) []
  | [], _ => .nil
  | x :: xs, h => HoldsAll.cons (S := []) (.leaf (h x List.mem_cons_self)) (leaves_hold fun y hy => h y (List.mem_cons_of_mem _ hy))
theorem leaves_depth : ∀ xs : List V, Th.depths (xs.map Th.leaf) = 0
  | [] => rfl
  | x :: xs => by
    show max (Th.depth (.leaf x)) (Th.depths (xs.map Th.leaf)) = 0
    rw [leaves_depth xs, Th.depth]
    rfl
theorem leaves_size : ∀ xs : List V, Th.sizes (xs.map Th.leaf) = xs.length
  | [] => rfl
  | x :: xs => by
    show Th.size (.leaf x) + Th.sizes (xs.map Th.leaf) = _
    rw [leaves_size xs, Th.size, List.length_cons]
    omega
theorem leaves_fit {xs : List V} (h : xs.length ≤ 1000) : Fit (xs.map Th.leaf) := ⟨by rw [Th.depth, leaves_depth]; decide, by rw [Th.size, leaves_size]; omega⟩
theorem leaves_likes : ∀ {xs ys : List V}, xs.length = ys.length → Th.likes (xs.map Th.leaf) (ys.map Th.leaf)
  | [], [], _ => True.intro
  | x :: xs, y :: ys, h => ⟨True.intro, leaves_likes (by simpa using h)⟩
  | [], _ :: _, h => by simp at h
  | _ :: _, [], h => by simp at h
theorem leaves_vals {H : Hp} : ∀ {ys xs : List V} {S : List Addr}, HoldsAll H xs (ys.map Th.leaf) S → xs = ys ∧ S = []
  | [], _, _, h => by
    cases h
    exact ⟨rfl, rfl⟩
  | y :: ys, _, _, h => by
    cases h with
    | cons h1 h2 =>
      cases h1 with
      | leaf hl =>
        obtain ⟨e1, e2⟩ := leaves_vals h2
        exact ⟨by rw [e1], by rw [e2]; rfl⟩
theorem leaves_inv {H : Hp} {x : V} {ys : List V} {S : List Addr} (h : Holds H x (.node (ys.map Th.leaf)) S) : ∃ a, x = .ref a ∧ H a = some (.lst ys) ∧ S = [a] := by
  cases h with
  | node h t =>
    obtain ⟨e1, e2⟩ := leaves_vals t
    subst e1 e2
    exact ⟨_, rfl, h, rfl⟩
theorem flat_leaves {H : Hp} {xs : List V} (h : xs.all okF = true) : ∀ x ∈ xs, Leaf H x := fun x hx => .inl (List.all_eq_true.mp h x hx)
/-- a plan's triples are leaves -/
theorem tris_leaves {H : Hp} {p : List Tri} {xs : List V} (h : Tris H xs p) (ok : ∀ t ∈ p, PyData.strOk t.2.2 = true) : ∀ x ∈ xs, Leaf H x := by
  induction h with
  | nil => exact fun _ z => nomatch z
  | @cons q t xs p h r ih =>
    refine List.forall_mem_cons.mpr ⟨.inr ⟨q, triV t, rfl, h, ?_⟩, ih fun t' ht => ok t' (List.mem_cons_of_mem _ ht)⟩
    have e := ok t List.mem_cons_self
    show (okF (.int t.1) && (okF (.int t.2.1) && (okF (.str t.2.2) && true))) = true
    rw [show okF (.str t.2.2) = PyData.strOk t.2.2 from rfl, e]
    rfl
theorem planV_txt (ns : List Int) (first : Bool) : ∀ t ∈ planV ns first, PyData.strOk t.2.2 = true := fun t ht => by
  obtain ⟨low, k, _, _, rfl⟩ := mem_planV.mp ht
  exact strOk_side _
/-! ### promises -/
def spRow8 (K : PySem.W.Frag) : Sp := fun vs H Q _ => ∃ (c : Addr) (ds : List Int) (m : Nat) (b : Int), vs = [.ref c, .int (m : Int), .int b] ∧ SqL K H c (ds.map V.int) ∧ 0 < ds.length ∧ m ≤ 12 ∧ 0 ≤ b ∧ b ≤ 10 ∧ ∀ (H' : Hp) (p : Addr) (rs : List Int), Same H H' → H p = none → H' p = some (.lst (rs.map V.int)) → rs.length = m → (∀ z ∈ rs, 0 ≤ z ∧ z ≤ 1000000) → Q (.ref p) H'
def spTold8 (G D : Addr) : Sp := fun vs H Q _ => ∃ (o l dx : Addr) (first : Bool), vs = [.ref o] ∧ H o = some (.ins (if first = true then G else D) dx [("plan", .ref l)]) ∧ Q (.ref l) H
/-- a door whose answer is free, and the word about it -/
def spFree8 (P : Program) (w : World) (K : PySem.W.Frag) (mg : Str → Option Value) (base : Heap) (G D0 : Addr) : Sp := fun vs H Q _ => ∃ (f g a b : Addr) (D D2 : Hp) (sp sp2 : Sp) (ns ms : List Int) (first : Bool), vs = [.ref f, .ref g, .ref a, .ref b] ∧ Callable P w K mg base 29 f D sp ∧ Same D H ∧ Callable P w K mg base 29 g D2 sp2 ∧ Same D2 H ∧
  H a = some (.lst (ns.map V.int)) ∧ H b = some (.lst (ms.map V.int)) ∧ RowOk ns ∧ RowOk ms ∧ ns.length = ms.length ∧
  (∀ (H2 : Hp) (r : Addr) (ks : List Int), Same H H2 → H2 r = some (.lst (ks.map V.int)) → RowOk ks → ∀ (Q : VK) (E : XK), (∀ H' o dx l xs, Same H2 H' → H2 o = none → H2 l = none → H' o = some (.ins (if first = true then G else D0) dx [("plan", .ref l)]) → H' l = some (.lst xs) → Tris H' xs (planV ks first) → Q (.ref o) H') → sp [.ref r] H2 Q E) ∧
  (∀ (H2 : Hp) (r o dx l : Addr) (ks : List Int) (xs : List V), Same H H2 → H2 r = some (.lst (ks.map V.int)) → RowOk ks → H2 o = some (.ins (if first = true then G else D0) dx [("plan", .ref l)]) → H2 l = some (.lst xs) → Tris H2 xs (planV ks first) → ∀ (Q : VK) (E : XK), (∀ H', Same H2 H' → Q (.bl true) H') → sp2 [.ref o, .ref r] H2 Q E) ∧ ∀ H', Same H H' → Q (.bl true) H'
end RE
/-! the doors of k08 -/
namespace RE
open PySem PySem.Spec PyProof.Rows L2 LamX NdefX
theorem Tells.mono {sp : Sp} {D H H' : Hp} {ts r : List Th} (s : Same H H') (h : Tells sp D H ts r) : Tells sp D H' ts r := fun H2 x S hD hs => h H2 x S hD (s.trans hs)
def DoorC (P : Program) (w : World) (K : PySem.W.Frag) (mg : Str → Option Value) (base : Heap) (H : Hp) (f a b : Addr) : Prop := ∃ (D : Hp) (sp : Sp) (ts us r1 r2 : List Th) (S S2 : List Addr), Callable P w K mg base 29 f D sp ∧ Same D H ∧ Holds H (.ref a) (.node ts) S ∧ Holds H (.ref b) (.node us) S2 ∧ Th.likes ts us ∧ Th.likes us ts ∧
  Fit ts ∧ Fit us ∧ Fit r1 ∧ Fit r2 ∧ Tells sp D H ts r1 ∧ Tells sp D H us r2
section
variable {P : Program} {w : World} {K : PySem.W.Frag} {mg : Str → Option Value} {base : Heap}
theorem DoorC.mono {H H' : Hp} {f a b : Addr} (s : Same H H') (h : DoorC P w K mg base H f a b) : DoorC P w K mg base H' f a b := by
  obtain ⟨D, sp, ts, us, r1, r2, S, S2, h1, h2, h3, h4, h5, h6, h7, h8, h9, h10, h11, h12⟩ := h
  exact ⟨D, sp, ts, us, r1, r2, S, S2, h1, h2.trans s, h3.mono s, h4.mono s, h5, h6, h7, h8, h9, h10, h11.mono s, h12.mono s⟩
theorem DoorC.sp {H : Hp} {f a b : Addr} {Q : VK} {E : XK} (h : DoorC P w K mg base H f a b) (q : ∀ H', Same H H' → Q (.bl true) H') : spDoor8 P w K mg base [.ref f, .ref a, .ref b] H Q E := by
  obtain ⟨D, sp, ts, us, r1, r2, S, S2, h1, h2, h3, h4, h5, h6, h7, h8, h9, h10, h11, h12⟩ := h
  exact ⟨f, a, b, D, sp, ts, us, r1, r2, S, S2, rfl, h1, h2, h3, h4, h5, h6, h7, h8, h9, h10, h11, h12, q⟩
/-- a function of a row that tells a flat list -/
def spFn (cond : List Int → Prop) (res : List Int → List V) : Sp := fun vs H Q _ => ∃ (r : Addr) (ks : List Int), vs = [.ref r] ∧ H r = some (.lst (ks.map V.int)) ∧ RowOk ks ∧ cond ks ∧ ∀ H' p, Same H H' → H p = none → H' p = some (.lst (res ks)) → Q (.ref p) H'
theorem fn_tells {cond : List Int → Prop} {res : List Int → List V} {D H : Hp} {ns : List Int} (fl : ∀ ks, (res ks).all okF = true) (ok : RowOk ns) (hc : cond ns) : Tells (spFn cond res) D H (tr ns) ((res ns).map Th.leaf) := by
  intro H2 x S _ _ hx Q E q
  obtain ⟨a, rfl, ha, rfl⟩ := tr_inv hx
  refine ⟨a, ns, rfl, ha, ok, hc, fun H' p s np hp => q H' p [p] s (fun c hc => by rw [List.mem_singleton.mp hc]; exact np) (by simp) (.node hp (leaves_hold (flat_leaves (fl ns))))⟩
theorem fn_door {cond : List Int → Prop} {res : List Int → List V} {D H : Hp} {f a b : Addr} {ns ms : List Int} (hf : Callable P w K mg base 29 f D (spFn cond res)) (hD : Same D H) (ha : H a = some (.lst (ns.map V.int))) (hb : H b = some (.lst (ms.map V.int))) (okn : RowOk ns) (okm : RowOk ms) (hl : ns.length = ms.length) (cn : cond ns) (cm : cond ms)
    (fl : ∀ ks, (res ks).all okF = true) (fit : ∀ ks, RowOk ks → (res ks).length ≤ 1000) : DoorC P w K mg base H f a b :=
  ⟨D, _, tr ns, tr ms, (res ns).map Th.leaf, (res ms).map Th.leaf, [a], [b], hf, hD, tr_row ha, tr_row hb, tr_likes hl, tr_likes hl.symm, tr_fit (by have := okn.1; omega), tr_fit (by have := okm.1; omega), leaves_fit (fit ns okn), leaves_fit (fit ms okm), fn_tells fl okn cn, fn_tells fl okm cm⟩
/-! ### a row and takes -/
def pairT (ns : List Int) (bs : List Bool) : List Th := [.node (tr ns), .node ((sidesV bs).map Th.leaf)]
def ledT (ns : List Int) (bs : List Bool) : List Th := [.leaf (.int (ledR ns ns.length 0 bs).1), .leaf (.int (ledR ns ns.length 0 bs).2), .node (tr (stretch ns (ledLow 0 bs) (ns.length - bs.length)))]
theorem pair_hold {H : Hp} {a r t : Addr} {ns : List Int} {bs : List Bool} (ha : H a = some (.lst [.ref r, .ref t])) (hr : H r = some (.lst (ns.map V.int))) (ht : H t = some (.lst (sidesV bs))) : ∃ S, Holds H (.ref a) (.node (pairT ns bs)) S := ⟨_, .node ha (.cons (tr_row hr) (.cons (.node ht (leaves_hold (flat_leaves (sidesV_ok bs)))) .nil))⟩
theorem pair_inv {H : Hp} {x : V} {ns : List Int} {bs : List Bool} {S : List Addr} (h : Holds H x (.node (pairT ns bs)) S) : ∃ a r t, x = .ref a ∧ H a = some (.lst [.ref r, .ref t]) ∧ H r = some (.lst (ns.map V.int)) ∧ H t = some (.lst (sidesV bs)) := by
  cases h with
  | node h t =>
    cases t with
    | cons h1 h2 =>
      cases h2 with
      | cons h3 h4 =>
        cases h4
        obtain ⟨r, rfl, hr, _⟩ := tr_inv h1
        obtain ⟨t, rfl, ht, _⟩ := leaves_inv h3
        exact ⟨_, r, t, rfl, h, hr, ht⟩
theorem pair_fit {ns : List Int} {bs : List Bool} (hn : ns.length ≤ 100) (hb : bs.length ≤ 100) : Fit (pairT ns bs) := by
  refine ⟨?_, ?_⟩
  · show (Th.node (pairT ns bs)).depth < 4
    unfold pairT
    simp only [Th.depth, Th.depths, tr_depth, leaves_depth]
    decide
  · unfold pairT
    simp only [Th.size, Th.sizes, tr_size, leaves_size, sidesV_len]
    omega
theorem led_fit {ns : List Int} {bs : List Bool} (hn : ns.length ≤ 100) : Fit (ledT ns bs) := by
  refine ⟨?_, ?_⟩
  · unfold ledT
    simp only [Th.depth, Th.depths, tr_depth]
    decide
  · unfold ledT
    simp only [Th.size, Th.sizes, tr_size]
    have h : (stretch ns (ledLow 0 bs) (ns.length - bs.length)).length ≤ ns.length := by
      unfold stretch
      rw [List.length_take, List.length_drop]
      omega
    omega
theorem pair_likes {ns ms : List Int} {bs cs : List Bool} (h1 : ns.length = ms.length) (h2 : bs.length = cs.length) : Th.likes (pairT ns bs) (pairT ms cs) := ⟨tr_likes h1, leaves_likes (by rw [sidesV_len, sidesV_len]; exact h2), True.intro⟩
def spPair (K : PySem.W.Frag) : Sp := fun vs H Q _ => ∃ (a r t : Addr) (ns : List Int) (bs : List Bool), vs = [.ref a] ∧ H a = some (.lst [.ref r, .ref t]) ∧ H r = some (.lst (ns.map V.int)) ∧ H t = some (.lst (sidesV bs)) ∧ RowOk ns ∧ bs.length ≤ ns.length ∧
  ∀ H' p l, Same H H' → H p = none → H l = none → p ≠ l → H' p = some (.lst [.int (ledR ns ns.length 0 bs).1, .int (ledR ns ns.length 0 bs).2, .ref l]) → H' l = some (.lst ((stretch ns (ledLow 0 bs) (ns.length - bs.length)).map V.int)) → Q (.ref p) H'
theorem pair_tells {D H : Hp} {ns : List Int} {bs : List Bool} (ok : RowOk ns) (hb : bs.length ≤ ns.length) : Tells (spPair K) D H (pairT ns bs) (ledT ns bs) := by
  intro H2 x S _ _ hx Q E q
  obtain ⟨a, r, t, rfl, ha, hr, ht⟩ := pair_inv hx
  refine ⟨a, r, t, ns, bs, rfl, ha, hr, ht, ok, hb, fun H' p l s np nl hne hp hl => ?_⟩
  refine q H' p [p, l] s (fun c hc => ?_) (by simp [hne]) (.node hp (HoldsAll.cons (S := []) (.leaf (.inl rfl)) (HoldsAll.cons (S := []) (.leaf (.inl rfl)) (HoldsAll.cons (S := [l]) (tr_row hl) .nil))))
  rcases List.mem_cons.mp hc with z | z
  · rw [z]
    exact np
  · rw [List.mem_singleton.mp z]
    exact nl
theorem pair_door {D H : Hp} {f a b r t r' t' : Addr} {ns ms : List Int} {bs cs : List Bool} (hf : Callable P w K mg base 29 f D (spPair K)) (hD : Same D H) (ha : H a = some (.lst [.ref r, .ref t])) (hr : H r = some (.lst (ns.map V.int))) (ht : H t = some (.lst (sidesV bs))) (hb : H b = some (.lst [.ref r', .ref t'])) (hr' : H r' = some (.lst (ms.map V.int))) (ht' : H t' = some (.lst (sidesV cs)))
    (okn : RowOk ns) (okm : RowOk ms) (h1 : ns.length = ms.length) (h2 : bs.length = cs.length) (h3 : bs.length ≤ ns.length) : DoorC P w K mg base H f a b := by
  obtain ⟨S, hS⟩ := pair_hold ha hr ht
  obtain ⟨S2, hS2⟩ := pair_hold hb hr' ht'
  have l12 := okn.1
  have m12 := okm.1
  exact ⟨D, _, _, _, ledT ns bs, ledT ms cs, S, S2, hf, hD, hS, hS2, pair_likes h1 h2, pair_likes h1.symm h2.symm, pair_fit (by omega) (by omega), pair_fit (by omega) (by omega), led_fit (by omega), led_fit (by omega), pair_tells okn h3, pair_tells okm (by omega)⟩
/-! ### a plan -/
theorem Tris.ext {H H' : Hp} (e : ExtN H H') : ∀ {xs : List V} {p : List Tri}, Tris H xs p → Tris H' xs p
  | _, _, .nil => .nil
  | _, _, .cons h t => .cons (extN_tup e h) (Tris.ext e t)
theorem same_upd2 {H : Hp} {c c' : Addr} {o o' : Obj} (nc : H c = none) (nc' : H c' = none) (ne : c ≠ c') : Same H (upd (upd H c (CellO c o)) c' (CellO c' o')) := (same_new nc _).trans (same_new ((upd_ne ne.symm).trans nc') _)
def spPlan8 (K : PySem.W.Frag) (ns : List Int) (v : Int) : Sp := fun vs H Q _ => ∃ (l : Addr) (xs : List V) (p : List Tri), vs = [.ref l] ∧ H l = some (.lst xs) ∧ Tris H xs p ∧ p.length ≤ 10000 ∧
  ∀ H' z, Same H H' → H z = none → H' z = some (.lst [.bl (showsV ns p true v), .bl (showsV ns p false 3)]) → Q (.ref z) H'
end
/-- a door that stays one while two lists are changed -/
def AskF (P : Program) (w : World) (K : PySem.W.Frag) (mg : Str → Option Value) (base : Heap) (sp : Sp) (l1 l2 : Addr) (H : Hp) (f : Addr) : Prop := ∃ D : Hp, Same D H ∧ (∀ b o, D b = some o → (∀ ps, o ≠ .tbl ps) ∧ b ≠ l1 ∧ b ≠ l2) ∧ Callable P w K mg base 29 f D sp
section
variable {P : Program} {w : World} {K : PySem.W.Frag} {mg : Str → Option Value} {base : Heap} {sp : Sp} {l1 l2 f : Addr} {H H' : Hp}
theorem AskF.ext (e : ExtN H H') (h : AskF P w K mg base sp l1 l2 H f) : AskF P w K mg base sp l1 l2 H' f := let ⟨D, h1, h2, h3⟩ := h; ⟨D, fun b o q => e b o (h1 b o q) (h2 b o q).1, h2, h3⟩
theorem AskF.mono (s : Same H H') (h : AskF P w K mg base sp l1 l2 H f) : AskF P w K mg base sp l1 l2 H' f := h.ext (ExtN.of s)
theorem AskF.but1 (s : SameBut l1 H H') (h : AskF P w K mg base sp l1 l2 H f) : AskF P w K mg base sp l1 l2 H' f := let ⟨D, h1, h2, h3⟩ := h; ⟨D, fun b o q => s b o (h2 b o q).2.1 (h1 b o q), h2, h3⟩
theorem AskF.but2 (s : SameBut l2 H H') (h : AskF P w K mg base sp l1 l2 H f) : AskF P w K mg base sp l1 l2 H' f := let ⟨D, h1, h2, h3⟩ := h; ⟨D, fun b o q => s b o (h2 b o q).2.2 (h1 b o q), h2, h3⟩
theorem lamD_away {F : NF} {e : Expr} {xs ys : List V} (hf : H f = some (LamO f F e)) (hc : H F.c = some (CodeO F.c F.qual)) (h1 : H l1 = some (.lst xs)) (h2 : H l2 = some (.lst ys)) : ∀ b o, lamD f F e b = some o → (∀ ps, o ≠ .tbl ps) ∧ b ≠ l1 ∧ b ≠ l2 := by
  intro b o h
  have z := lamD_sub hf hc b o h
  have k : (∃ F', o = LamO f F' e) ∨ (∃ q, o = CodeO F.c q) := by
    unfold lamD at h
    by_cases a1 : b = F.c
    · rw [a1, upd_same] at h
      exact .inr ⟨_, (Option.some.inj h).symm⟩
    · rw [upd_ne a1] at h
      by_cases a2 : b = f
      · rw [a2, upd_same] at h
        exact .inl ⟨_, (Option.some.inj h).symm⟩
      · rw [upd_ne a2] at h
        cases h
  refine ⟨lamD_hard b o h, fun e1 => ?_, fun e1 => ?_⟩
  · rw [e1, h1] at z
    rcases k with ⟨F', k⟩ | ⟨q, k⟩ <;> (rw [k] at z; cases z)
  · rw [e1, h2] at z
    rcases k with ⟨F', k⟩ | ⟨q, k⟩ <;> (rw [k] at z; cases z)
end
/-- the last play -/
def lastPlay (ns : List Int) : List Bool := ((plays ns ns.length 0).getLast?).getD []
theorem last_at (ns : List Int) : (plays ns ns.length 0)[(plays ns ns.length 0).length - 1]? = some (lastPlay ns) := by
  have h := plays_pos ns ns.length 0
  rw [← List.getLast?_eq_getElem?]
  unfold lastPlay
  cases e : (plays ns ns.length 0).getLast? with
  | none =>
    rw [List.getLast?_eq_none_iff.mp e] at h
    exact absurd h (Nat.lt_irrefl _)
  | some p => rfl
theorem last_len (ns : List Int) : (lastPlay ns).length = ns.length := plays_length ns _ _ _ (List.mem_of_getElem? (last_at ns))
end RE
namespace K08
open PySem PySem.Spec PyProof.Rows L2 RE
/-! the text by places -/
def top (i : Nat) : Stmt := PySem.Challenge.pw_rowends_k08_handed_stays.main.body.getD i (.Pass ⟨0, 0, 0, 0⟩)
abbrev s_is_whole : Stmt := top 11
abbrev N_is_whole : List Str := ["thing"]
theorem sc_is_whole : FnScope N_is_whole ["thing"] (defScope s_is_whole) := ⟨rfl, rfl, rfl, by decide +kernel, rfl, by decide +kernel, by decide +kernel⟩
abbrev s_check_row : Stmt := top 12
abbrev N_check_row : List Str := ["row", "coin"]
theorem sc_check_row : FnScope N_check_row ["row"] (defScope s_check_row) := ⟨rfl, rfl, rfl, by decide +kernel, rfl, by decide +kernel, by decide +kernel⟩
abbrev s_is_side : Stmt := top 13
abbrev N_is_side : List Str := ["thing"]
theorem sc_is_side : FnScope N_is_side ["thing"] (defScope s_is_side) := ⟨rfl, rfl, rfl, by decide +kernel, rfl, by decide +kernel, by decide +kernel⟩
abbrev s_worth_of : Stmt := top 14
abbrev N_worth_of : List Str := ["row", "low", "behind", "known", "first"]
theorem sc_worth_of : FnScope N_worth_of ["row", "low", "behind", "known"] (defScope s_worth_of) := ⟨rfl, rfl, rfl, by decide +kernel, rfl, by decide +kernel, by decide +kernel⟩
abbrev s_after : Stmt := top 15
abbrev N_after : List Str := ["row", "low", "behind", "side"]
theorem sc_after : FnScope N_after ["row", "low", "behind", "side"] (defScope s_after) := ⟨rfl, rfl, rfl, by decide +kernel, rfl, by decide +kernel, by decide +kernel⟩
abbrev s_best_of : Stmt := top 16
abbrev N_best_of : List Str := ["row", "low", "behind", "known", "due", "found", "side", "coin", "left", "right"]
theorem sc_best_of : FnScope N_best_of ["row", "low", "behind", "known"] (defScope s_best_of) := ⟨rfl, rfl, rfl, by decide +kernel, rfl, by decide +kernel, by decide +kernel⟩
abbrev s_worth : Stmt := top 17
abbrev N_worth : List Str := ["row"]
theorem sc_worth : FnScope N_worth ["row"] (defScope s_worth) := ⟨rfl, rfl, rfl, by decide +kernel, rfl, by decide +kernel, by decide +kernel⟩
abbrev s_best : Stmt := top 18
abbrev N_best : List Str := ["row"]
theorem sc_best : FnScope N_best ["row"] (defScope s_best) := ⟨rfl, rfl, rfl, by decide +kernel, rfl, by decide +kernel, by decide +kernel⟩
abbrev s_led : Stmt := top 19
abbrev N_led : List Str := ["row", "takes", "side", "low", "behind", "sums", "at", "coin"]
theorem sc_led : FnScope N_led ["row", "takes"] (defScope s_led) := ⟨rfl, rfl, rfl, by decide +kernel, rfl, by decide +kernel, by decide +kernel⟩
abbrev s_greedy : Stmt := top 20
abbrev N_greedy : List Str := ["row", "low", "behind", "found", "side", "coin"]
theorem sc_greedy : FnScope N_greedy ["row"] (defScope s_greedy) := ⟨rfl, rfl, rfl, by decide +kernel, rfl, by decide +kernel, by decide +kernel⟩
abbrev s_sure : Stmt := top 21
abbrev N_sure : List Str := ["row"]
theorem sc_sure : FnScope N_sure ["row"] (defScope s_sure) := ⟨rfl, rfl, rfl, by decide +kernel, rfl, by decide +kernel, by decide +kernel⟩
abbrev s_table_of : Stmt := top 24
abbrev N_table_of : List Str := ["row", "plan", "found", "last", "low", "behind", "side"]
theorem sc_table_of : FnScope N_table_of ["row", "plan"] (defScope s_table_of) := ⟨rfl, rfl, rfl, by decide +kernel, rfl, by decide +kernel, by decide +kernel⟩
abbrev s_got : Stmt := top 25
abbrev N_got : List Str := ["row", "low", "behind", "table", "mine", "sides", "least", "side", "coin", "left", "right", "rest", "here"]
theorem sc_got : FnScope N_got ["row", "low", "behind", "table", "mine"] (defScope s_got) := ⟨rfl, rfl, rfl, by decide +kernel, rfl, by decide +kernel, by decide +kernel⟩
abbrev s_planned : Stmt := top 26
abbrev N_planned : List Str := ["row", "plan", "mine", "table"]
theorem sc_planned : FnScope N_planned ["row", "plan", "mine"] (defScope s_planned) := ⟨rfl, rfl, rfl, by decide +kernel, rfl, by decide +kernel, by decide +kernel⟩
abbrev s_plan_of : Stmt := top 30
abbrev N_plan_of : List Str := ["row", "first", "found", "known", "low", "behind"]
theorem sc_plan_of : FnScope N_plan_of ["row", "first"] (defScope s_plan_of) := ⟨rfl, rfl, rfl, by decide +kernel, rfl, by decide +kernel, by decide +kernel⟩
abbrev s_judged : Stmt := top 31
abbrev N_judged : List Str := ["row", "least"]
theorem sc_judged : FnScope N_judged ["row", "least"] (defScope s_judged) := ⟨rfl, rfl, rfl, by decide +kernel, rfl, by decide +kernel, by decide +kernel⟩
abbrev s_plays_of : Stmt := top 32
abbrev N_plays_of : List Str := ["row", "low", "behind", "known", "found", "side", "coin", "left", "right"]
theorem sc_plays_of : FnScope N_plays_of ["row", "low", "behind", "known"] (defScope s_plays_of) := ⟨rfl, rfl, rfl, by decide +kernel, rfl, by decide +kernel, by decide +kernel⟩
abbrev s_how_many : Stmt := top 33
abbrev N_how_many : List Str := ["row"]
theorem sc_how_many : FnScope N_how_many ["row"] (defScope s_how_many) := ⟨rfl, rfl, rfl, by decide +kernel, rfl, by decide +kernel, by decide +kernel⟩
abbrev s_play_by : Stmt := top 34
abbrev N_play_by : List Str := ["row", "number", "known", "low", "behind", "found", "side", "coin", "left", "right", "many"]
theorem sc_play_by : FnScope N_play_by ["row", "number"] (defScope s_play_by) := ⟨rfl, rfl, rfl, by decide +kernel, rfl, by decide +kernel, by decide +kernel⟩
abbrev s__law_copied : Stmt := top 36
abbrev N__law_copied : List Str := ["_law_thing", "_law_one"]
theorem sc__law_copied : FnScope N__law_copied ["_law_thing"] (defScope s__law_copied) := ⟨rfl, rfl, rfl, by decide +kernel, rfl, by decide +kernel, by decide +kernel⟩
abbrev s__law_spoiled : Stmt := top 37
abbrev N__law_spoiled : List Str := ["_law_thing", "_law_one"]
theorem sc__law_spoiled : FnScope N__law_spoiled ["_law_thing"] (defScope s__law_spoiled) := ⟨rfl, rfl, rfl, by decide +kernel, rfl, by decide +kernel, by decide +kernel⟩
abbrev s__law_laid : Stmt := top 38
abbrev N__law_laid : List Str := ["_law_mine", "_law_other", "_law_at", "_law_one"]
theorem sc__law_laid : FnScope N__law_laid ["_law_mine", "_law_other"] (defScope s__law_laid) := ⟨rfl, rfl, rfl, by decide +kernel, rfl, by decide +kernel, by decide +kernel⟩
abbrev s__law_door_right : Stmt := top 39
abbrev N__law_door_right : List Str := ["_law_ask", "_law_one", "_law_other", "_law_mine", "_law_given", "_law_before"]
theorem sc__law_door_right : FnScope N__law_door_right ["_law_ask", "_law_one", "_law_other"] (defScope s__law_door_right) := ⟨rfl, rfl, rfl, by decide +kernel, rfl, by decide +kernel, by decide +kernel⟩
abbrev s__law_row : Stmt := top 40
abbrev N__law_row : List Str := ["_law_cells", "_law_many", "_law_by", "_law_at"]
theorem sc__law_row : FnScope N__law_row ["_law_cells", "_law_many", "_law_by"] (defScope s__law_row) := ⟨rfl, rfl, rfl, by decide +kernel, rfl, by decide +kernel, by decide +kernel⟩
abbrev s__law_told : Stmt := top 41
abbrev N__law_told : List Str := ["_law_found"]
theorem sc__law_told : FnScope N__law_told ["_law_found"] (defScope s__law_told) := ⟨rfl, rfl, rfl, by decide +kernel, rfl, by decide +kernel, by decide +kernel⟩
abbrev s__law_free_right : Stmt := top 42
abbrev N__law_free_right : List Str := ["_law_ask", "_law_holds", "_law_one", "_law_other", "_law_mine", "_law_things", "_law_found"]
theorem sc__law_free_right : FnScope N__law_free_right ["_law_ask", "_law_holds", "_law_one", "_law_other"] (defScope s__law_free_right) := ⟨rfl, rfl, rfl, by decide +kernel, rfl, by decide +kernel, by decide +kernel⟩
abbrev s_law : Stmt := top 43
abbrev N_law : List Str := ["_law_script", "_law_cells", "_law_more", "_law_asks", "_law_frees", "_law_many", "_law_other", "_law_even", "_law_later", "_law_takes", "_law_others", "_law_plan", "_law_one", "_law_value", "_law_ask", "_law_holds"]
theorem sc_law : FnScope N_law ["_law_script"] (defScope s_law) := ⟨rfl, rfl, rfl, by decide +kernel, rfl, by decide +kernel, by decide +kernel⟩
abbrev s_Gets_init : Stmt := inClass (top 27) 0
abbrev N_Gets_init : List Str := ["self", "plan"]
theorem sc_Gets_init : FnScope N_Gets_init ["self", "plan"] (defScope s_Gets_init) := ⟨rfl, rfl, rfl, by decide +kernel, rfl, by decide +kernel, by decide +kernel⟩
abbrev s_Gets_shows : Stmt := inClass (top 27) 1
abbrev N_Gets_shows : List Str := ["self", "row", "least", "found"]
theorem sc_Gets_shows : FnScope N_Gets_shows ["self", "row", "least"] (defScope s_Gets_shows) := ⟨rfl, rfl, rfl, by decide +kernel, rfl, by decide +kernel, by decide +kernel⟩
abbrev s_Held_init : Stmt := inClass (top 28) 0
abbrev N_Held_init : List Str := ["self", "plan"]
theorem sc_Held_init : FnScope N_Held_init ["self", "plan"] (defScope s_Held_init) := ⟨rfl, rfl, rfl, by decide +kernel, rfl, by decide +kernel, by decide +kernel⟩
abbrev s_Held_shows : Stmt := inClass (top 28) 1
abbrev N_Held_shows : List Str := ["self", "row", "least", "found"]
theorem sc_Held_shows : FnScope N_Held_shows ["self", "row", "least"] (defScope s_Held_shows) := ⟨rfl, rfl, rfl, by decide +kernel, rfl, by decide +kernel, by decide +kernel⟩
structure Ad where
  f_is_whole : Addr
  d_is_whole : FuncData
  f_check_row : Addr
  d_check_row : FuncData
  f_is_side : Addr
  d_is_side : FuncData
  f_worth_of : Addr
  d_worth_of : FuncData
  f_after : Addr
  d_after : FuncData
  f_best_of : Addr
  d_best_of : FuncData
  f_worth : Addr
  d_worth : FuncData
  f_best : Addr
  d_best : FuncData
  f_led : Addr
  d_led : FuncData
  f_greedy : Addr
  d_greedy : FuncData
  f_sure : Addr
  d_sure : FuncData
  f_table_of : Addr
  d_table_of : FuncData
  f_got : Addr
  d_got : FuncData
  f_planned : Addr
  d_planned : FuncData
  f_plan_of : Addr
  d_plan_of : FuncData
  f_judged : Addr
  d_judged : FuncData
  f_plays_of : Addr
  d_plays_of : FuncData
  f_how_many : Addr
  d_how_many : FuncData
  f_play_by : Addr
  d_play_by : FuncData
  f__law_copied : Addr
  d__law_copied : FuncData
  f__law_spoiled : Addr
  d__law_spoiled : FuncData
  f__law_laid : Addr
  d__law_laid : FuncData
  f__law_door_right : Addr
  d__law_door_right : FuncData
  f__law_row : Addr
  d__law_row : FuncData
  f__law_told : Addr
  d__law_told : FuncData
  f__law_free_right : Addr
  d__law_free_right : FuncData
  f_law : Addr
  d_law : FuncData
  C_EndError : Addr
  C_BadRow : Addr
  C_BadTakes : Addr
  C_BadNumber : Addr
  C_Odd : Addr
  C_Answer : Addr
  C_Gets : Addr
  C_Held : Addr
  f_Gets_init : Addr
  d_Gets_init : FuncData
  f_Gets_shows : Addr
  d_Gets_shows : FuncData
  f_Held_init : Addr
  d_Held_init : FuncData
  f_Held_shows : Addr
  d_Held_shows : FuncData
  t_MOST : Tok
  t_GREATEST : Tok
  t_LEFT : Tok
  t_RIGHT : Tok
  c_law : Addr
  P_law : Addr
abbrev tabs (A : Ad) : List (Addr × Str) := [(A.P_law, (("law" : Str) ++ ".<locals>.") ++ "<lambda>")]
structure Tx (K : PySem.W.Frag) (mg : Str → Option Value) (A : Ad) : Prop where
  babs : mg "abs" = none
  ball : mg "all" = none
  bbool : mg "bool" = none
  benumerate : mg "enumerate" = none
  bint : mg "int" = none
  bisinstance : mg "isinstance" = none
  blen : mg "len" = none
  blist : mg "list" = none
  bmax : mg "max" = none
  brange : mg "range" = none
  bstr : mg "str" = none
  bsum : mg "sum" = none
  gMOST : mg "MOST" = some (.int 12 A.t_MOST)
  gGREATEST : mg "GREATEST" = some (.int 1000000 A.t_GREATEST)
  gLEFT : mg "LEFT" = some (.str "left" A.t_LEFT)
  gRIGHT : mg "RIGHT" = some (.str "right" A.t_RIGHT)
  gis_whole : mg "is_whole" = some (.ref A.f_is_whole)
  Fis_whole : Fun K "is_whole" "is_whole" s_is_whole A.f_is_whole A.d_is_whole
  bis_whole : Binds K A.d_is_whole ["thing"] []
  gcheck_row : mg "check_row" = some (.ref A.f_check_row)
  Fcheck_row : Fun K "check_row" "check_row" s_check_row A.f_check_row A.d_check_row
  bcheck_row : Binds K A.d_check_row ["row"] []
  gis_side : mg "is_side" = some (.ref A.f_is_side)
  Fis_side : Fun K "is_side" "is_side" s_is_side A.f_is_side A.d_is_side
  bis_side : Binds K A.d_is_side ["thing"] []
  gworth_of : mg "worth_of" = some (.ref A.f_worth_of)
  Fworth_of : Fun K "worth_of" "worth_of" s_worth_of A.f_worth_of A.d_worth_of
  bworth_of : Binds K A.d_worth_of ["row", "low", "behind", "known"] []
  gafter : mg "after" = some (.ref A.f_after)
  Fafter : Fun K "after" "after" s_after A.f_after A.d_after
  bafter : Binds K A.d_after ["row", "low", "behind", "side"] []
  gbest_of : mg "best_of" = some (.ref A.f_best_of)
  Fbest_of : Fun K "best_of" "best_of" s_best_of A.f_best_of A.d_best_of
  bbest_of : Binds K A.d_best_of ["row", "low", "behind", "known"] []
  gworth : mg "worth" = some (.ref A.f_worth)
  Fworth : Fun K "worth" "worth" s_worth A.f_worth A.d_worth
  bworth : Binds K A.d_worth ["row"] []
  gbest : mg "best" = some (.ref A.f_best)
  Fbest : Fun K "best" "best" s_best A.f_best A.d_best
  bbest : Binds K A.d_best ["row"] []
  gled : mg "led" = some (.ref A.f_led)
  Fled : Fun K "led" "led" s_led A.f_led A.d_led
  bled : Binds K A.d_led ["row", "takes"] []
  ggreedy : mg "greedy" = some (.ref A.f_greedy)
  Fgreedy : Fun K "greedy" "greedy" s_greedy A.f_greedy A.d_greedy
  bgreedy : Binds K A.d_greedy ["row"] []
  gsure : mg "sure" = some (.ref A.f_sure)
  Fsure : Fun K "sure" "sure" s_sure A.f_sure A.d_sure
  bsure : Binds K A.d_sure ["row"] []
  gtable_of : mg "table_of" = some (.ref A.f_table_of)
  Ftable_of : Fun K "table_of" "table_of" s_table_of A.f_table_of A.d_table_of
  btable_of : Binds K A.d_table_of ["row", "plan"] []
  ggot : mg "got" = some (.ref A.f_got)
  Fgot : Fun K "got" "got" s_got A.f_got A.d_got
  bgot : Binds K A.d_got ["row", "low", "behind", "table", "mine"] []
  gplanned : mg "planned" = some (.ref A.f_planned)
  Fplanned : Fun K "planned" "planned" s_planned A.f_planned A.d_planned
  bplanned : Binds K A.d_planned ["row", "plan", "mine"] []
  gplan_of : mg "plan_of" = some (.ref A.f_plan_of)
  Fplan_of : Fun K "plan_of" "plan_of" s_plan_of A.f_plan_of A.d_plan_of
  bplan_of : Binds K A.d_plan_of ["row", "first"] []
  gjudged : mg "judged" = some (.ref A.f_judged)
  Fjudged : Fun K "judged" "judged" s_judged A.f_judged A.d_judged
  bjudged : Binds K A.d_judged ["row", "least"] []
  gplays_of : mg "plays_of" = some (.ref A.f_plays_of)
  Fplays_of : Fun K "plays_of" "plays_of" s_plays_of A.f_plays_of A.d_plays_of
  bplays_of : Binds K A.d_plays_of ["row", "low", "behind", "known"] []
  ghow_many : mg "how_many" = some (.ref A.f_how_many)
  Fhow_many : Fun K "how_many" "how_many" s_how_many A.f_how_many A.d_how_many
  bhow_many : Binds K A.d_how_many ["row"] []
  gplay_by : mg "play_by" = some (.ref A.f_play_by)
  Fplay_by : Fun K "play_by" "play_by" s_play_by A.f_play_by A.d_play_by
  bplay_by : Binds K A.d_play_by ["row", "number"] []
  g_law_copied : mg "_law_copied" = some (.ref A.f__law_copied)
  F_law_copied : Fun K "_law_copied" "_law_copied" s__law_copied A.f__law_copied A.d__law_copied
  b_law_copied : Binds K A.d__law_copied ["_law_thing"] []
  g_law_spoiled : mg "_law_spoiled" = some (.ref A.f__law_spoiled)
  F_law_spoiled : Fun K "_law_spoiled" "_law_spoiled" s__law_spoiled A.f__law_spoiled A.d__law_spoiled
  b_law_spoiled : Binds K A.d__law_spoiled ["_law_thing"] []
  g_law_laid : mg "_law_laid" = some (.ref A.f__law_laid)
  F_law_laid : Fun K "_law_laid" "_law_laid" s__law_laid A.f__law_laid A.d__law_laid
  b_law_laid : Binds K A.d__law_laid ["_law_mine", "_law_other"] []
  g_law_door_right : mg "_law_door_right" = some (.ref A.f__law_door_right)
  F_law_door_right : Fun K "_law_door_right" "_law_door_right" s__law_door_right A.f__law_door_right A.d__law_door_right
  b_law_door_right : Binds K A.d__law_door_right ["_law_ask", "_law_one", "_law_other"] []
  g_law_row : mg "_law_row" = some (.ref A.f__law_row)
  F_law_row : Fun K "_law_row" "_law_row" s__law_row A.f__law_row A.d__law_row
  b_law_row : Binds K A.d__law_row ["_law_cells", "_law_many", "_law_by"] []
  g_law_told : mg "_law_told" = some (.ref A.f__law_told)
  F_law_told : Fun K "_law_told" "_law_told" s__law_told A.f__law_told A.d__law_told
  b_law_told : Binds K A.d__law_told ["_law_found"] []
  g_law_free_right : mg "_law_free_right" = some (.ref A.f__law_free_right)
  F_law_free_right : Fun K "_law_free_right" "_law_free_right" s__law_free_right A.f__law_free_right A.d__law_free_right
  b_law_free_right : Binds K A.d__law_free_right ["_law_ask", "_law_holds", "_law_one", "_law_other"] []
  glaw : mg "law" = some (.ref A.f_law)
  Flaw : Fun K "law" "law" s_law A.f_law A.d_law
  blaw : Binds K A.d_law ["_law_script"] []
  gEndError : mg "EndError" = some (.ref A.C_EndError)
  kEndError : PySem.W.keepIn K (.ref A.C_EndError) = true
  xEndError : PySem.W.excIn K A.C_EndError [.type "ValueError", .type "Exception", .type "BaseException", .type "object"] "ValueError.__new__" = true
  BEndError : PySem.W.subIn K (.ref A.C_EndError) (.type "BaseException") = some true
  tEndError : PySem.W.typeIn K (.ref A.C_EndError) = some (.type "type")
  gBadRow : mg "BadRow" = some (.ref A.C_BadRow)
  kBadRow : PySem.W.keepIn K (.ref A.C_BadRow) = true
  xBadRow : PySem.W.excIn K A.C_BadRow [.type "ValueError", .type "Exception", .type "BaseException", .type "object"] "ValueError.__new__" = true
  BBadRow : PySem.W.subIn K (.ref A.C_BadRow) (.type "BaseException") = some true
  tBadRow : PySem.W.typeIn K (.ref A.C_BadRow) = some (.type "type")
  gBadTakes : mg "BadTakes" = some (.ref A.C_BadTakes)
  kBadTakes : PySem.W.keepIn K (.ref A.C_BadTakes) = true
  xBadTakes : PySem.W.excIn K A.C_BadTakes [.type "ValueError", .type "Exception", .type "BaseException", .type "object"] "ValueError.__new__" = true
  BBadTakes : PySem.W.subIn K (.ref A.C_BadTakes) (.type "BaseException") = some true
  tBadTakes : PySem.W.typeIn K (.ref A.C_BadTakes) = some (.type "type")
  gBadNumber : mg "BadNumber" = some (.ref A.C_BadNumber)
  kBadNumber : PySem.W.keepIn K (.ref A.C_BadNumber) = true
  xBadNumber : PySem.W.excIn K A.C_BadNumber [.type "ValueError", .type "Exception", .type "BaseException", .type "object"] "ValueError.__new__" = true
  BBadNumber : PySem.W.subIn K (.ref A.C_BadNumber) (.type "BaseException") = some true
  tBadNumber : PySem.W.typeIn K (.ref A.C_BadNumber) = some (.type "type")
  gOdd : mg "Odd" = some (.ref A.C_Odd)
  kOdd : PySem.W.keepIn K (.ref A.C_Odd) = true
  xOdd : PySem.W.excIn K A.C_Odd [.type "ValueError", .type "Exception", .type "BaseException", .type "object"] "ValueError.__new__" = true
  BOdd : PySem.W.subIn K (.ref A.C_Odd) (.type "BaseException") = some true
  tOdd : PySem.W.typeIn K (.ref A.C_Odd) = some (.type "type")
  gAnswer : mg "Answer" = some (.ref A.C_Answer)
  gGets : mg "Gets" = some (.ref A.C_Gets)
  gHeld : mg "Held" = some (.ref A.C_Held)
  FClaw : FunC K "law" "law" s_law A.f_law A.d_law A.c_law
  clGets : Cls K A.C_Gets
  npGets : NoAttr K A.C_Gets "plan"
  tyGets : OwnTy K A.C_Gets
  kitGets_Answer : PySem.W.kitOne K (.ref A.C_Gets) (.ref A.C_Answer) = some true
  kitGets_Gets : PySem.W.kitOne K (.ref A.C_Gets) (.ref A.C_Gets) = some true
  kitGets_Held : PySem.W.kitOne K (.ref A.C_Gets) (.ref A.C_Held) = some false
  FGets_init : Fun K "__init__" "Gets.__init__" s_Gets_init A.f_Gets_init A.d_Gets_init
  bGets_init : Binds K A.d_Gets_init ["self", "plan"] []
  MGets : Mk K A.C_Gets A.f_Gets_init
  FGets_shows : Fun K "shows" "Gets.shows" s_Gets_shows A.f_Gets_shows A.d_Gets_shows
  bGets_shows : Binds K A.d_Gets_shows ["self", "row", "least"] []
  mGets_shows : Meth K A.C_Gets "shows" A.f_Gets_shows
  clHeld : Cls K A.C_Held
  npHeld : NoAttr K A.C_Held "plan"
  tyHeld : OwnTy K A.C_Held
  kitHeld_Answer : PySem.W.kitOne K (.ref A.C_Held) (.ref A.C_Answer) = some true
  kitHeld_Gets : PySem.W.kitOne K (.ref A.C_Held) (.ref A.C_Gets) = some false
  kitHeld_Held : PySem.W.kitOne K (.ref A.C_Held) (.ref A.C_Held) = some true
  FHeld_init : Fun K "__init__" "Held.__init__" s_Held_init A.f_Held_init A.d_Held_init
  bHeld_init : Binds K A.d_Held_init ["self", "plan"] []
  MHeld : Mk K A.C_Held A.f_Held_init
  FHeld_shows : Fun K "shows" "Held.shows" s_Held_shows A.f_Held_shows A.d_Held_shows
  bHeld_shows : Binds K A.d_Held_shows ["self", "row", "least"] []
  mHeld_shows : Meth K A.C_Held "shows" A.f_Held_shows
end K08
namespace K08
open PySem PySem.Spec PyProof.Rows L2 RE
section
variable {P : Program} {w : World} {K : PySem.W.Frag} {mg : Str → Option Value} {base : Heap} {A : Ad}
theorem ok_is_whole (T : Tx K mg A) : FnOk P w K mg base CX0 1 A.f_is_whole A.d_is_whole ["thing"] (spWhole K) := by
  refine T.Fis_whole.ok sc_is_whole (fun vs H Q E h => ?_) (fun cdv A' outer s H vs Q E hr h => ?_)
  · obtain ⟨x, T, rfl, _⟩ := h
    rfl
  · obtain ⟨x, ty, rfl, hx, q⟩ := h
    refine ⟨_, (pss_one (ps_ret (pe_and (pe_callB call_isi (by rfl) T.bisinstance (by decide +kernel) (pa_cons (pv 0) (pa_cons (pe_bltn (v := .ty "int") (by rfl) T.bint (by decide +kernel) rfl) pa_nil))) (pe_one (pe_not (pe_callB call_isi (by rfl) T.bisinstance (by decide +kernel) (pa_cons (pv 0) (pa_cons (pe_bltn (v := .ty "bool") (by rfl) T.bbool (by decide +kernel) rfl) pa_nil)))))))), ?_⟩
    refine ⟨_, rfl, _, _, _, _, _, rfl, .ty _, hx.ty, kit_int hx.mem, _, rfl, ?_⟩
    revert q
    cases e : (ty == "int" || ty == "bool") with
    | false =>
      intro q
      refine iteF ?_
      have e1 : (ty == "int") = false := (Bool.or_eq_false_iff.mp e).1
      rw [e1] at q
      exact q
    | true =>
      intro q
      refine iteT ?_
      refine ⟨_, rfl, _, _, _, _, _, rfl, .ty _, hx.ty, kit_bool hx.mem, _, rfl, ?_⟩
      have e2 : (!(ty == "bool")) = (ty == "int") := by
        rcases Bool.or_eq_true_iff.mp e with z | z
        · have := eq_of_beq z
          subst this
          decide
        · have := eq_of_beq z
          subst this
          decide
      rw [e2]
      exact q
theorem ok_check_row (T : Tx K mg A) : FnOk P w K mg base (L2.CX P w) 2 A.f_check_row A.d_check_row ["row"] (spCheck K A.C_BadRow) := by
  have Gis_whole : FnOk P w K mg base CX0 1 A.f_is_whole A.d_is_whole ["thing"] (spWhole K) := ok_is_whole T
  refine T.Fcheck_row.okX sc_check_row (fun vs H Q E h => ?_) (fun cdv A' outer s H vs Q E hr h => ?_)
  · obtain ⟨x, rfl, _⟩ := h
    rfl
  · obtain ⟨x, rfl, h⟩ := h
    have h' : (∃ ty, PV K H x ty ∧ (ty == "list") = false ∧ ∀ H', Same H H' → E (.ref A.C_BadRow) none H') ∨
        ∃ (a : Addr) (xs : List V), x = .ref a ∧ SqL K H a xs ∧ (12 < xs.length → ∀ H', Same H H' → E (.ref A.C_BadRow) none H') ∧
        (xs.length ≤ 12 → (∀ y ∈ xs, ∃ T, PV K H y T)) ∧ (xs.length ≤ 12 → xs.all coinB = false → ∀ H', Same H H' → E (.ref A.C_BadRow) none H') ∧ (xs.length ≤ 12 → xs.all coinB = true → ∀ H', Same H H' → Q .non H') := by
      rcases h with ⟨ns, ⟨a, ex, hs, hok⟩, q⟩ | ⟨hn, q⟩
      · refine .inr ⟨a, _, ex, hs, (fun h => ?_), (fun _ y hy => ?_), (fun _ h => ?_), (fun _ _ => q)⟩
        · rw [List.length_map] at h
          have := hok.1
          omega
        · obtain ⟨z, _, rfl⟩ := List.mem_map.mp hy
          exact ⟨_, pv_int z⟩
        · rw [hok.all] at h
          cases h
      · rcases hn with ⟨ty, hp, e⟩ | ⟨a, xs, ex, hs, hb⟩
        · exact .inl ⟨ty, hp, e, q⟩
        · rcases hb with hb | ⟨hb, hty, ha⟩
          · exact .inr ⟨a, xs, ex, hs, (fun _ => q), (fun h => by omega), (fun h => by omega), (fun h => by omega)⟩
          · exact .inr ⟨a, xs, ex, hs, (fun h => by omega), (fun _ => hty), (fun _ _ => q), (fun _ h => by rw [ha] at h; cases h)⟩
    refine ⟨_, (pss_cons (ps_if (PW.pt (pw_or (pt_not (pt_val (pe_callB call_isi (by rfl) T.bisinstance (by decide +kernel) (pa_cons (pv 0) (pa_cons (pe_bltn (v := .ty "list") (by rfl) T.blist (by decide +kernel) rfl) pa_nil))))) (pw_or1 (pt_cmpR op_gt (pe_callB call_len_seq (by rfl) T.blen PySem.boot_len (pa_cons (pv 0) pa_nil)) (pe_glob (v := .int 12) (by rfl) T.gMOST ⟨_, rfl⟩) (nomark _))))) (pss_one (ps_raise rfl (takes_of rfl rfl rfl rfl) (pmk_own PySem.F.excBase_ValueError T.xBadRow T.gBadRow T.kBadRow (raises_own T.BBadRow T.tBadRow) rfl))) pss_nil)
      (pss_one (ps_if (pt_not (pt_val (pe_callB (cr_all rfl) (by rfl) T.ball (by decide +kernel) (pa_cons (pe_lc (own := [("coin", 1)]) (by rfl) sc_check_row.nd (pi_list (pv 0)) (blkOk_by (own := [("coin", 1)]) (N := N_check_row) (sc := defScope s_check_row) (by decide +kernel)) (fun _ _ _ _ _ => (pg_name (i := 1) sc_check_row.nd rfl (Or.inl rfl))) (fun _ _ _ _ _ => pts_nil) (fun _ _ _ _ _ => (pe_and (pe_call Gis_whole (hr.mono (by first | decide | omega)) (by rfl) T.gis_whole T.Fis_whole.kp T.bis_whole .nil pass0 (pa_cons (pv 1) pa_nil)) (pe_one (pe_chain op_le op_le pe_int (pv 1) (pe_glob (v := .int 1000000) (by rfl) T.gGREATEST ⟨_, rfl⟩)))))) pa_nil)))) (pss_one (ps_raise rfl (takes_of rfl rfl rfl rfl) (pmk_own PySem.F.excBase_ValueError T.xBadRow T.gBadRow T.kBadRow (raises_own T.BBadRow T.tBadRow) rfl))) pss_nil))), ?_⟩
    rcases h' with ⟨ty, hp, e, q⟩ | ⟨a, xs, ex, hs, h12, hty, hbad, hgood⟩
    · refine ⟨_, rfl, _, _, _, _, _, rfl, .ty _, hp.ty, kit_list hp.mem, _, rfl, ?_⟩
      rw [e]
      exact iteT (iteT (q H (Same.refl H)))
    · subst ex
      have hp := pv_sq hs
      refine ⟨_, rfl, _, _, _, _, _, rfl, .ty _, hp.ty, kit_list hp.mem, _, rfl, ?_⟩
      refine iteF ?_
      refine ⟨_, rfl, a, xs, rfl, .inl hs, _, _, rfl, rfl, _, rfl, ?_⟩
      refine ite2 (fun c => ?_) (fun c => ?_)
      · have c' : (12 : Int) < (xs.length : Int) := of_decide_eq_true c
        exact h12 (by omega) H (Same.refl H)
      · have c' : ¬ (12 : Int) < (xs.length : Int) := of_decide_eq_false (Bool.eq_false_iff.mpr c)
        have hl : xs.length ≤ 12 := by omega
        refine ⟨_, rfl, a, rfl, ⟨_, hs⟩, fun D nD => lc_list (K := K) (a := a) (xs := xs) (fun i H2 => Same H H2 ∧ H2 D = some (.lst ((xs.take i).map fun y => V.bl (coinB y)))) ⟨same_new nD _, upd_same⟩ (fun i H2 _ h2 => h2.1.seq hs) ?_ ?_⟩
        · rintro i y H2 hi ⟨s2, e2⟩
          obtain ⟨ty, hy⟩ := hty hl y (List.mem_of_getElem? hi)
          refine ⟨rfl, ?_⟩
          have hlt : i < xs.length := (List.getElem?_eq_some_iff.mp hi).1
          have fin : ∀ b, b = coinB y → ∃ acc, H2 D = some (.lst acc) ∧ acc.length < sizeLine ∧ Same H (upd H2 D (.lst (acc ++ [V.bl b]))) ∧ (upd H2 D (.lst (acc ++ [V.bl b]))) D = some (.lst ((xs.take (i + 1)).map fun y => V.bl (coinB y))) := by
            rintro b rfl
            refine ⟨_, e2, ?_, fun c o e => ?_, ?_⟩
            · rw [List.length_map, List.length_take]
              exact size_lt (by omega)
            · rw [upd_ne (ne_of_none e nD)]
              exact s2 c o e
            · rw [upd_same, List.take_add_one, hi, List.map_append]
              rfl
          refine ⟨_, rfl, y, ty, rfl, hy.mono s2, _, rfl, ?_⟩
          cases e : (ty == "int") with
          | false =>
            refine iteF ?_
            refine fin _ ?_
            cases y <;> first | rfl | (have := hy.of_int; subst this; cases e)
          | true =>
            refine iteT ?_
            obtain ⟨z, rfl⟩ := hy.int_of (eq_of_beq e)
            refine ⟨_, rfl, 0, z, rfl, rfl, _, rfl, ?_⟩
            by_cases c0 : (0 : Int) ≤ z
            · rw [decide_eq_true c0]
              refine iteT ?_
              refine ⟨z, 1000000, rfl, rfl, ?_⟩
              exact fin _ (by simp [coinB, c0])
            · rw [decide_eq_false c0]
              refine iteF ?_
              exact fin _ (by simp [coinB, c0])
        · rintro H2 ⟨s2, e2⟩
          rw [List.take_length] at e2
          have e3 : (xs.map fun y => V.bl (coinB y)) = (xs.map coinB).map V.bl := by rw [List.map_map]; rfl
          rw [e3] at e2
          refine ⟨D, _, rfl, SqL.of e2, _, rfl, ?_⟩
          have e4 : (xs.map coinB).all id = xs.all coinB := by rw [List.all_map]; rfl
          rw [e4]
          cases e : xs.all coinB with
          | true => exact iteF (hgood hl e H2 s2)
          | false => exact iteT (hbad hl e H2 s2)
end
end K08
namespace K08
open PySem PySem.Spec PyProof.Rows L2 RE
section
variable {P : Program} {w : World} {K : PySem.W.Frag} {mg : Str → Option Value} {base : Heap} {A : Ad}
theorem step_worth_of (T : Tx K mg A) {n : Nat} (Gworth_of : FnOk P w K mg base CX0 n A.f_worth_of A.d_worth_of ["row", "low", "behind", "known"] (spWorthOf K n)) :
    FnOk P w K mg base CX0 (n + 1) A.f_worth_of A.d_worth_of ["row", "low", "behind", "known"] (spWorthOf K (n + 1)) := by
  refine T.Fworth_of.ok sc_worth_of (fun vs H Q E h => ?_) (fun cdv A' outer s H vs Q E hr h => ?_)
  · obtain ⟨a, d, ns, low, m, i, j, kvs, rfl, _⟩ := h
    rfl
  · obtain ⟨a, d, ns, low, m, i, j, kvs, rfl, ei, ej, hS, hd, hk, h12, hm, hn, q⟩ := h
    refine ⟨_, (pss_cons (ps_if (pt_cmpR op_eq (pv 1) (pv 2) (nomark _)) (pss_one (ps_ret pe_int)) pss_nil)
      (pss_cons (ps_if (pt_cmp (pc_dnotin (hu_of hr) (pe_tup (pa_cons (pv 1) (pa_cons (pv 2) pa_nil))) (pv 3))) (pss_cons (ps_set (i := 4) sc_worth_of.nd rfl (Or.inl rfl) (pe_op op_sub (pe_ix ix_list (pv 0) (pv 1) (fun _ _ => rfl)) (pe_call Gworth_of (hr.mono (by first | decide | omega)) (by rfl) T.gworth_of T.Fworth_of.kp T.bworth_of .nil pass0 (pa_cons (pv 0) (pa_cons (pe_op op_add (pv 1) pe_int) (pa_cons (pv 2) (pa_cons (pv 3) pa_nil)))))))
      (pss_one (ps_dput (hu_of hr) (pv 3) (pe_tup (pa_cons (pv 1) (pa_cons (pv 2) pa_nil))) (pe_callB (call_max2 rfl) (by rfl) T.bmax (by decide +kernel) (pa_cons (pv 4) (pa_cons (pe_op op_sub (pe_ix ix_list (pv 0) (pe_op op_sub (pv 2) pe_int) (fun _ _ => rfl)) (pe_call Gworth_of (hr.mono (by first | decide | omega)) (by rfl) T.gworth_of T.Fworth_of.kp T.bworth_of .nil pass0 (pa_cons (pv 0) (pa_cons (pv 1) (pa_cons (pe_op op_sub (pv 2) pe_int) (pa_cons (pv 3) pa_nil)))))) pa_nil))) rfl))) pss_nil)
      (pss_one (ps_ret (pe_dget (hu_of hr) (pv 3) (pe_tup (pa_cons (pv 1) (pa_cons (pv 2) pa_nil))) (fun _ _ => rfl)))))), ?_⟩
    -- low == behind
    refine ⟨_, rfl, _, rfl, rfl, _, rfl, ?_⟩
    refine ite2 (fun c => ?_) (fun c => ?_)
    · have c' : i = j := V.int.inj (of_decide_eq_true c)
      have m0 : m = 0 := by omega
      subst m0
      have q' := q H kvs (SameBut.refl d H) hd hk
      rw [wv_zero] at q'
      exact q'
    · have c' : ¬ V.int i = V.int j := of_decide_eq_false (Bool.eq_false_iff.mpr c)
      have m0 : m ≠ 0 := fun e => c' (congrArg V.int (by omega))
      obtain ⟨m, rfl⟩ : ∃ m', m = m' + 1 := ⟨m - 1, by omega⟩
      have key : [V.int i, V.int j] = (keyOf low (m + 1)).map kV := by
        show [V.int i, V.int j] = [V.int (low : Int), V.int ((low + (m + 1) : Nat) : Int)]
        rw [ei, ej]
      -- (low, behind) not in known
      refine ⟨_, rfl, _, rfl, (by show 2 ≤ sizeLine; decide), fun p hp => ?_⟩
      have npd : p ≠ d := (ne_of_none hd hp).symm
      have hd1 : (upd H p (.tup [V.int i, V.int j])) d = some (.dT kvs) := by rw [upd_ne npd.symm]; exact hd
      have s1 : Same H (upd H p (.tup [V.int i, V.int j])) := same_new hp _
      refine ⟨_, rfl, d, _, rfl, DGet.t (k := keyOf low (m + 1)) hd1 (by rw [upd_same, key]), _, rfl, ?_⟩
      generalize hH1 : upd H p (.tup [V.int i, V.int j]) = H1 at hd1 s1 ⊢
      -- the last row: known[(low, behind)]
      have last : ∀ (H2 : Hp) (kvs2 : List (List Key × V)), SameBut d H H2 → H2 d = some (.dT kvs2) → Known ns kvs2 → valV kvs2 (keyOf low (m + 1)) = some (.int (wv ns (m + 1) low)) →
          ∀ p2, H2 p2 = none → DGet (upd H2 p2 (.tup [V.int i, V.int j])) d (.ref p2) (some (.int (wv ns (m + 1) low))) ∧ Q (.int (wv ns (m + 1) low)) (upd H2 p2 (.tup [V.int i, V.int j])) := fun H2 kvs2 s2 hd2 hk2 hv p2 np2 => by
        have ne2 : p2 ≠ d := (ne_of_none hd2 np2).symm
        have hd3 : (upd H2 p2 (.tup [V.int i, V.int j])) d = some (.dT kvs2) := by rw [upd_ne ne2.symm]; exact hd2
        refine ⟨?_, q _ kvs2 (s2.trans (.of (same_new np2 _))) hd3 hk2⟩
        have g := DGet.t (k := keyOf low (m + 1)) (b := p2) hd3 (by rw [upd_same, key])
        rw [hv] at g
        exact g
      cases e : valV kvs (keyOf low (m + 1)) with
      | some v =>
        refine iteF ?_
        have ev := hk.get e
        subst ev
        refine ⟨_, rfl, _, rfl, _, rfl, (by show 2 ≤ sizeLine; decide), fun p2 np2 => ?_⟩
        obtain ⟨g, q2⟩ := last H1 kvs (.of s1) hd1 hk e p2 np2
        exact ⟨d, _, rfl, g, q2⟩
      | none =>
        refine iteT ?_
        -- first = row[low] - worth_of(row, low + 1, behind, known)
        have hS1 := s1.seq hS
        refine ⟨_, rfl, _, rfl, a, _, _, _, rfl, rfl, hS1, at_get ei (by omega), _, rfl, _, rfl, _, _, rfl, rfl, _, rfl, _, rfl, ?_⟩
        refine ⟨a, d, ns, low + 1, m, _, _, kvs, rfl, by omega, by omega, hS1, hd1, hk, h12, by omega, by omega, fun H2 kvs2 s2 hd2 hk2 => ?_⟩
        have hS2 := s2.seq hd1 hS1
        refine ⟨_, _, rfl, rfl, ?_⟩
        -- known[(low, behind)] = max(first, ..)
        refine ⟨_, rfl, _, rfl, _, rfl, _, _, rfl, rfl, a, _, _, _, rfl, rfl, hS2, at_get (j := low + m) (by omega) (by omega), _, rfl, _, rfl, _, rfl, _, _, rfl, rfl, _, rfl, ?_⟩
        refine ⟨a, d, ns, low, m, _, _, kvs2, rfl, by omega, by omega, hS2, hd2, hk2, h12, by omega, by omega, fun H3 kvs3 s3 hd3 hk3 => ?_⟩
        refine ⟨_, _, rfl, rfl, _, _, rfl, ?_⟩
        have ew : (if ns.getD (low + m) 0 - wv ns m low > ns.getD low 0 - wv ns m (low + 1) then ns.getD (low + m) 0 - wv ns m low else ns.getD low 0 - wv ns m (low + 1)) = wv ns (m + 1) low := (wv_succ ns m low).symm
        rw [ew]
        refine ⟨_, rfl, _, rfl, _, rfl, (by show 2 ≤ sizeLine; decide), fun p3 np3 => ?_⟩
        have ne3 : p3 ≠ d := (ne_of_none hd3 np3).symm
        have hd4 : (upd H3 p3 (.tup [V.int i, V.int j])) d = some (.dT kvs3) := by rw [upd_ne ne3.symm]; exact hd3
        have hl : kvs3.length < sizeLine := size_lt (by have := hk3.len h12; omega)
        refine ⟨d, _, rfl, DPut.t (k := keyOf low (m + 1)) hd4 (by rw [upd_same, key]) hl, ?_⟩
        have s4 : SameBut d H (upd (upd H3 p3 (.tup [V.int i, V.int j])) d (.dT (putK kvs3 (keyOf low (m + 1)) (.int (wv ns (m + 1) low))))) := ((((SameBut.of s1).trans s2).trans s3).trans (.of (same_new np3 _))).trans (.put _)
        refine ⟨_, rfl, _, rfl, _, rfl, (by show 2 ≤ sizeLine; decide), fun p5 np5 => ?_⟩
        obtain ⟨g, q2⟩ := last _ _ s4 upd_same (hk3.put hm) (by rw [valV_put, if_pos rfl]) p5 np5
        exact ⟨d, _, rfl, g, q2⟩
theorem worth_of_all (T : Tx K mg A) : ∀ n : Nat, FnOk P w K mg base CX0 n A.f_worth_of A.d_worth_of ["row", "low", "behind", "known"] (spWorthOf K n)
  | 0 => by
    have no : ∀ vs H Q E, ¬ spWorthOf K 0 vs H Q E := fun vs H Q E h => by
      obtain ⟨a, d, ns, low, m, i, j, kvs, _, _, _, _, _, _, _, _, h0, _⟩ := h
      omega
    exact ⟨fun vs H Q E h => absurd h (no vs H Q E), fun A outer s H args us vs Q E _ _ _ _ h => absurd h (no vs H Q E)⟩
  | n + 1 => step_worth_of T (worth_of_all T n)
theorem ok_worth_of (T : Tx K mg A) : FnOk P w K mg base CX0 13 A.f_worth_of A.d_worth_of ["row", "low", "behind", "known"] (spWorthOf K 13) := worth_of_all T 13
theorem ok_after (T : Tx K mg A) : FnOk P w K mg base CX0 1 A.f_after A.d_after ["row", "low", "behind", "side"] (spAfter K) := by
  refine T.Fafter.ok sc_after (fun vs H Q E h => ?_) (fun cdv A' outer s H vs Q E hr h => ?_)
  · obtain ⟨a, ns, low, m, i, j, b, rfl, _⟩ := h
    rfl
  · obtain ⟨a, ns, low, m, i, j, b, rfl, ei, ej, hS, hm, q⟩ := h
    refine ⟨_, (pss_cons (ps_if (pt_cmpR op_eq (pv 3) (pe_glob (v := .str "left") (by rfl) T.gLEFT ⟨_, rfl⟩) (nomark _)) (pss_one (ps_ret (pe_tup (pa_cons (pe_ix ix_list (pv 0) (pv 1) (fun _ _ => rfl)) (pa_cons (pe_op op_add (pv 1) pe_int) (pa_cons (pv 2) pa_nil)))))) pss_nil)
      (pss_one (ps_ret (pe_tup (pa_cons (pe_ix ix_list (pv 0) (pe_op op_sub (pv 2) pe_int) (fun _ _ => rfl)) (pa_cons (pv 1) (pa_cons (pe_op op_sub (pv 2) pe_int) pa_nil))))))), ?_⟩
    refine ⟨_, rfl, rfl, _, rfl, ?_⟩
    cases b with
    | true =>
      have e : decide (V.str (sideS true) = V.str "left") = true := decide_eq_true rfl
      rw [e]
      refine iteT ?_
      refine ⟨_, rfl, _, rfl, a, _, _, _, rfl, rfl, hS, at_get ei (by omega), _, rfl, _, _, rfl, rfl, _, rfl, (by show 3 ≤ sizeLine; decide), fun p hp => ?_⟩
      have q' := q p hp
      have e1 : i + 1 = ((low + 1 : Nat) : Int) := by omega
      have e2 : j = ((low + 1 + m : Nat) : Int) := by omega
      show Q (.ref p) (upd H p (.tup [V.int (ns.getD low 0), V.int (i + 1), V.int j]))
      rw [e1, e2]
      exact q'
    | false =>
      have e : decide (V.str (sideS false) = V.str "left") = false := decide_eq_false (fun z => absurd (V.str.inj z) (by decide +kernel))
      rw [e]
      refine iteF ?_
      refine ⟨_, rfl, _, rfl, _, _, rfl, rfl, a, _, _, _, rfl, rfl, hS, at_get (j := low + m) (by omega) (by omega), _, rfl, _, rfl, _, _, rfl, rfl, (by show 3 ≤ sizeLine; decide), fun p hp => ?_⟩
      have q' := q p hp
      have e2 : j - 1 = ((low + m : Nat) : Int) := by omega
      show Q (.ref p) (upd H p (.tup [V.int (ns.getD (low + m) 0), V.int i, V.int (j - 1)]))
      rw [ei, e2]
      exact q'
end
end K08
namespace K08
open PySem PySem.Spec PyProof.Rows L2 RE
section
variable {P : Program} {w : World} {K : PySem.W.Frag} {mg : Str → Option Value} {base : Heap} {A : Ad}
theorem ok_best_of (T : Tx K mg A) : FnOk P w K mg base CX0 14 A.f_best_of A.d_best_of ["row", "low", "behind", "known"] (spBestOf K) := by
  have Gworth_of : FnOk P w K mg base CX0 13 A.f_worth_of A.d_worth_of ["row", "low", "behind", "known"] (spWorthOf K 13) := ok_worth_of T
  have Gafter : FnOk P w K mg base CX0 1 A.f_after A.d_after ["row", "low", "behind", "side"] (spAfter K) := ok_after T
  refine T.Fbest_of.ok sc_best_of (fun vs H Q E h => ?_) (fun cdv A' outer s H vs Q E hr h => ?_)
  · obtain ⟨a, d, ns, low, m, i, j, kvs, rfl, _⟩ := h
    rfl
  · obtain ⟨a, d, ns, low, m, i, j, kvs, rfl, ei, ej, hS, hd, hk, h12, hm, q⟩ := h
    refine ⟨_, (pss_cons (ps_par (i := 4) (j := 5) rfl sc_best_of.nd rfl rfl (by decide) rfl rfl (pa_cons (pe_call Gworth_of (hr.mono (by first | decide | omega)) (by rfl) T.gworth_of T.Fworth_of.kp T.bworth_of .nil pass0 (pa_cons (pv 0) (pa_cons (pv 1) (pa_cons (pv 2) (pa_cons (pv 3) pa_nil))))) (pa_cons (pe_lst pa_nil) pa_nil)) (by rfl))
      (pss_cons (ps_for PassesOwn.never rfl (pi_tup (pe_tup (pa_cons (pe_glob (v := .str "left") (by rfl) T.gLEFT ⟨_, rfl⟩) (pa_cons (pe_glob (v := .str "right") (by rfl) T.gRIGHT ⟨_, rfl⟩) pa_nil)))) (pg_name (i := 6) sc_best_of.nd rfl (Or.inl rfl))
      (pss_cons (ps_asg (pe_call Gafter (hr.mono (by first | decide | omega)) (by rfl) T.gafter T.Fafter.kp T.bafter .nil pass0 (pa_cons (pv 0) (pa_cons (pv 1) (pa_cons (pv 2) (pa_cons (pv 6) pa_nil))))) (pg_tup rfl (pgs_cons (pg_name (i := 7) sc_best_of.nd rfl (Or.inl rfl)) (pgs_cons (pg_name (i := 8) sc_best_of.nd rfl (Or.inl rfl)) (pgs_cons (pg_name (i := 9) sc_best_of.nd rfl (Or.inl rfl)) pgs_nil)))))
      (pss_one (ps_if (pt_cmpR op_eq (pe_op op_sub (pv 7) (pe_call Gworth_of (hr.mono (by first | decide | omega)) (by rfl) T.gworth_of T.Fworth_of.kp T.bworth_of .nil pass0 (pa_cons (pv 0) (pa_cons (pv 8) (pa_cons (pv 9) (pa_cons (pv 3) pa_nil)))))) (pv 4) (nomark _)) (pss_one (ps_expr (pe_bm PySem.F.plainAttrs_list PySem.F.slot_list_append PySem.F.type_list_append mt_append (pv 5) (pa_cons (pv 6) pa_nil)))) pss_nil))))
      (pss_one (ps_ret (pv 5))))), ?_⟩
    -- due, found = worth_of(row, low, behind, known), []
    refine ⟨_, rfl, _, rfl, _, rfl, _, rfl, ?_⟩
    refine ⟨a, d, ns, low, m + 1, _, _, kvs, rfl, ei, ej, hS, hd, hk, h12, hm, by omega, fun H1 kvs1 s1 hd1 hk1 => ?_⟩
    refine ⟨Nat.zero_le _, fun f nf => ⟨_, _, rfl, ?_⟩⟩
    have nfd : f ≠ d := (ne_of_none hd1 nf).symm
    have nfH : H f = none := by
      cases z : H f with
      | none => rfl
      | some o =>
        have := s1 f o nfd z
        rw [nf] at this
        cases this
    -- for side in (LEFT, RIGHT)
    refine ⟨(by show 2 ≤ sizeLine; decide), fun t nt => ⟨t, rfl, ⟨_, SqT.of upd_same⟩, ?_⟩⟩
    have ntf : f ≠ t := ne_of_none upd_same nt
    have hd1' : (upd H1 f (.lst [])) d = some (.dT kvs1) := by rw [upd_ne nfd.symm]; exact hd1
    have ntd : d ≠ t := ne_of_none hd1' nt
    refine for_tup (K := K) (a := t) (xs := [V.str "left", V.str "right"]) (fun k σ H2 => ∃ kvs2 x6 x7 x8 x9, σ = [some (.ref a), some (.int i), some (.int j), some (.ref d), some (.int (wv ns (m + 1) low)), some (.ref f), x6, x7, x8, x9] ∧
      SameBut d H H2 ∧ H2 d = some (.dT kvs2) ∧ Known ns kvs2 ∧ H2 f = some (.lst ((([true, false].take k).filter (bestB ns low m)).map fun b => V.str (sideS b))) ∧ H2 t = some (.tup [V.str "left", V.str "right"])) ?_ (fun k σ H2 _ ⟨_, _, _, _, _, _, _, _, _, _, ht⟩ => SqT.of ht) ?_ ?_
    · refine ⟨kvs1, none, none, none, none, rfl, fun b o nb e => ?_, ?_, hk1, ?_, upd_same⟩
      · have e1 := s1 b o nb e
        have n1 : b ≠ f := ne_of_none e nfH
        have e2 : (upd H1 f (.lst [])) b = some o := by rw [upd_ne n1]; exact e1
        rw [upd_ne (ne_of_none e2 nt)]
        exact e2
      · rw [upd_ne ntd]
        exact hd1'
      · rw [upd_ne ntf, upd_same]
        rfl
    · rintro k y σ H2 hi ⟨kvs2, x6, x7, x8, x9, rfl, s2, hd2, hk2, hf2, ht2⟩
      obtain ⟨b, rfl, hb⟩ : ∃ b, y = V.str (sideS b) ∧ [true, false][k]? = some b := by
        match k, hi with
        | 0, hi => exact ⟨true, (Option.some.inj hi).symm, rfl⟩
        | 1, hi => exact ⟨false, (Option.some.inj hi).symm, rfl⟩
        | k + 2, hi => simp at hi
      have hS2 := s2.seq hd hS
      -- coin, left, right = after(row, low, behind, side)
      refine ⟨_, rfl, _, rfl, _, rfl, _, rfl, ?_⟩
      refine ⟨a, ns, low, m, _, _, b, rfl, ei, ej, hS2, hm, fun p np => ?_⟩
      refine ⟨p, _, rfl, SqT.of upd_same, rfl, _, _, rfl, _, _, rfl, _, _, rfl, rfl, ?_⟩
      have npd : d ≠ p := ne_of_none hd2 np
      have hd3 : (upd H2 p (.tup [.int (coinOf ns b low m), .int (lowOf b low : Nat), .int ((lowOf b low + m : Nat) : Int)])) d = some (.dT kvs2) := by rw [upd_ne npd]; exact hd2
      have s3 : Same H2 (upd H2 p (.tup [.int (coinOf ns b low m), .int (lowOf b low : Nat), .int ((lowOf b low + m : Nat) : Int)])) := same_new np _
      -- if coin - worth_of(row, left, right, known) == due
      refine ⟨_, rfl, _, rfl, _, rfl, _, rfl, _, rfl, ?_⟩
      refine ⟨a, d, ns, lowOf b low, m, _, _, kvs2, rfl, rfl, rfl, s3.seq hS2, hd3, hk2, h12, by have := lowOf_le b low m; omega, by omega, fun H4 kvs4 s4 hd4 hk4 => ?_⟩
      refine ⟨_, _, rfl, rfl, _, rfl, rfl, _, rfl, ?_⟩
      have s24 : SameBut d H2 H4 := (SameBut.of s3).trans s4
      have hf4 := s24 f _ nfd hf2
      have ht4 := s24 t _ ntd.symm ht2
      have cond : decide (V.int (coinOf ns b low m - wv ns m (lowOf b low)) = V.int (wv ns (m + 1) low)) = bestB ns low m b := by
        unfold bestB
        by_cases c : coinOf ns b low m - wv ns m (lowOf b low) = wv ns (m + 1) low
        · rw [decide_eq_true c, decide_eq_true (congrArg V.int c)]
        · rw [decide_eq_false c, decide_eq_false (fun z => c (V.int.inj z))]
      have tk : ([true, false].take (k + 1)).filter (bestB ns low m) = ([true, false].take k).filter (bestB ns low m) ++ (if bestB ns low m b = true then [b] else []) := by
        rw [List.take_add_one, hb, List.filter_append]
        congr 1
        by_cases c : bestB ns low m b = true
        · rw [if_pos c]
          simp [c]
        · rw [if_neg c]
          simp [c]
      rw [cond]
      cases c : bestB ns low m b with
      | true =>
        refine iteT ?_
        refine ⟨_, rfl, .inl ⟨rfl, _, SqL.of hf4⟩, _, rfl, f, _, _, rfl, rfl, hf4, ?_, ?_⟩
        · rw [List.length_map]
          have z := List.length_filter_le (bestB ns low m) ([true, false].take k)
          rw [List.length_take] at z
          exact size_lt (by have : [true, false].length = 2 := rfl; omega)
        · refine ⟨kvs4, _, _, _, _, rfl, fun b' o nb e => ?_, ?_, hk4, ?_, ?_⟩
          · rw [upd_ne (ne_of_none e nfH)]
            exact s24 b' o nb (s2 b' o nb e)
          · rw [upd_ne nfd.symm]
            exact hd4
          · rw [upd_same, tk, c, if_pos rfl, List.map_append]
            rfl
          · rw [upd_ne ntf.symm]
            exact ht4
      | false =>
        refine iteF ?_
        refine ⟨kvs4, _, _, _, _, rfl, s2.trans s24, hd4, hk4, ?_, ht4⟩
        rw [tk, c, if_neg Bool.false_ne_true, List.append_nil]
        exact hf4
    · rintro σ H2 ⟨kvs2, x6, x7, x8, x9, rfl, s2, hd2, hk2, hf2, ht2⟩
      refine ⟨_, rfl, ?_⟩
      refine q H2 kvs2 f s2 hd2 hk2 nfH ?_
      rw [ends_filter]
      exact hf2
theorem ok_worth (T : Tx K mg A) : FnOk P w K mg base (L2.CX P w) 14 A.f_worth A.d_worth ["row"] (spWorth K A.C_BadRow) := by
  have Gworth_of : FnOk P w K mg base CX0 13 A.f_worth_of A.d_worth_of ["row", "low", "behind", "known"] (spWorthOf K 13) := ok_worth_of T
  have Gcheck_row : FnOk P w K mg base (L2.CX P w) 2 A.f_check_row A.d_check_row ["row"] (spCheck K A.C_BadRow) := ok_check_row T
  refine T.Fworth.okX sc_worth (fun vs H Q E h => ?_) (fun cdv A' outer s H vs Q E hr h => ?_)
  · obtain ⟨x, rfl, _⟩ := h
    rfl
  · obtain ⟨x, rfl, h⟩ := h
    refine ⟨_, (pss_cons (ps_expr (pe_call Gcheck_row (hr.mono (by first | decide | omega)) (by rfl) T.gcheck_row T.Fcheck_row.kp T.bcheck_row .nil (passes_call (takes_of rfl rfl rfl rfl) (fun _ _ _ _ h => h)) (pa_cons (pv 0) pa_nil)))
      (pss_one (ps_ret (pe_call Gworth_of (hr.mono (by first | decide | omega)) (by rfl) T.gworth_of T.Fworth_of.kp T.bworth_of .nil pass0 (pa_cons (pv 0) (pa_cons pe_int (pa_cons (pe_callB call_len_seq (by rfl) T.blen PySem.boot_len (pa_cons (pv 0) pa_nil)) (pa_cons pe_dnewT pa_nil)))))))), ?_⟩
    refine ⟨_, rfl, ?_⟩
    rcases h with ⟨ns, hrow, q⟩ | ⟨hn, q⟩
    · refine ⟨x, rfl, .inl ⟨ns, hrow, fun H1 s1 => ?_⟩⟩
      obtain ⟨a, rfl, hS, hok⟩ := hrow
      have hS1 := s1.seq hS
      refine ⟨_, rfl, _, rfl, a, _, rfl, .inl hS1, fun d nd => ?_⟩
      refine ⟨a, d, ns, 0, ns.length, _, _, [], rfl, rfl, ?_, (same_new nd _).seq hS1, upd_same, Known.nil _, hok.1, by omega, by have := hok.1; omega, fun H2 kvs2 s2 hd2 hk2 => ?_⟩
      · rw [List.length_map]
        omega
      · exact q H2 (s1.trans (SameBut.free (fun b o nb e => s2 b o nb (by rw [upd_ne nb]; exact e)) nd))
    · exact ⟨x, rfl, .inr ⟨hn, q⟩⟩
theorem ok_best (T : Tx K mg A) : FnOk P w K mg base (L2.CX P w) 15 A.f_best A.d_best ["row"] (spBest K A.C_BadRow) := by
  have Gbest_of : FnOk P w K mg base CX0 14 A.f_best_of A.d_best_of ["row", "low", "behind", "known"] (spBestOf K) := ok_best_of T
  have Gcheck_row : FnOk P w K mg base (L2.CX P w) 2 A.f_check_row A.d_check_row ["row"] (spCheck K A.C_BadRow) := ok_check_row T
  refine T.Fbest.okX sc_best (fun vs H Q E h => ?_) (fun cdv A' outer s H vs Q E hr h => ?_)
  · obtain ⟨x, rfl, _⟩ := h
    rfl
  · obtain ⟨x, rfl, h⟩ := h
    refine ⟨_, (pss_cons (ps_expr (pe_call Gcheck_row (hr.mono (by first | decide | omega)) (by rfl) T.gcheck_row T.Fcheck_row.kp T.bcheck_row .nil (passes_call (takes_of rfl rfl rfl rfl) (fun _ _ _ _ h => h)) (pa_cons (pv 0) pa_nil)))
      (pss_one (ps_ret (pe_ifExp (pt_cmpR (op_neD hr.units) (pv 0) (pe_lst pa_nil) (nomark _)) (pe_call Gbest_of (hr.mono (by first | decide | omega)) (by rfl) T.gbest_of T.Fbest_of.kp T.bbest_of .nil pass0 (pa_cons (pv 0) (pa_cons pe_int (pa_cons (pe_callB call_len_seq (by rfl) T.blen PySem.boot_len (pa_cons (pv 0) pa_nil)) (pa_cons pe_dnewT pa_nil))))) (pe_lst pa_nil))))), ?_⟩
    refine ⟨_, rfl, ?_⟩
    rcases h with ⟨ns, hrow, q⟩ | ⟨hn, q⟩
    · refine ⟨x, rfl, .inl ⟨ns, hrow, fun H1 s1 => ?_⟩⟩
      obtain ⟨a, rfl, hS, hok⟩ := hrow
      have hS1 := s1.seq hS
      -- row != []
      refine ⟨_, rfl, Nat.zero_le _, fun l nl => ?_⟩
      have s2 : Same H (upd H1 l (.lst [])) := s1.trans (same_new nl _)
      have hS2 := s2.seq hS
      refine ⟨_, _, dp_lst hS2 (ok_ints ns), dp_lst (xs := []) (SqL.of upd_same) rfl, shl_flat (ok_ints ns), shl_flat (xs := []) rfl, _, rfl, ?_⟩
      cases ns with
      | nil =>
        refine iteF ?_
        refine ⟨Nat.zero_le _, fun p np => ?_⟩
        exact q _ p (s2.trans (same_new np _)) (s2.free np) upd_same
      | cons z r =>
        refine iteT ?_
        refine ⟨_, rfl, _, rfl, a, _, rfl, .inl hS2, fun d nd => ?_⟩
        refine ⟨a, d, z :: r, 0, r.length, _, _, [], rfl, rfl, ?_, (same_new nd _).seq hS2, upd_same, Known.nil _, hok.1, by rw [List.length_cons]; omega, fun H3 kvs3 p s3 hd3 hk3 np hp => ?_⟩
        · rw [List.length_map, List.length_cons]
          omega
        · have s4 : Same (upd H1 l (.lst [])) H3 := SameBut.free (fun b o nb e => s3 b o nb (by rw [upd_ne nb]; exact e)) nd
          have npd : p ≠ d := fun e => by rw [e, upd_same] at np; cases np
          rw [upd_ne npd] at np
          exact q H3 p (s2.trans s4) (s2.free np) hp
    · exact ⟨x, rfl, .inr ⟨hn, q⟩⟩
theorem ok_sure (T : Tx K mg A) : FnOk P w K mg base (L2.CX P w) 3 A.f_sure A.d_sure ["row"] (spSure K A.C_BadRow A.C_Odd) := by
  have Gcheck_row : FnOk P w K mg base (L2.CX P w) 2 A.f_check_row A.d_check_row ["row"] (spCheck K A.C_BadRow) := ok_check_row T
  refine T.Fsure.okX sc_sure (fun vs H Q E h => ?_) (fun cdv A' outer s H vs Q E hr h => ?_)
  · obtain ⟨x, rfl, _⟩ := h
    rfl
  · obtain ⟨x, rfl, h⟩ := h
    refine ⟨_, (pss_cons (ps_expr (pe_call Gcheck_row (hr.mono (by first | decide | omega)) (by rfl) T.gcheck_row T.Fcheck_row.kp T.bcheck_row .nil (passes_call (takes_of rfl rfl rfl rfl) (fun _ _ _ _ h => h)) (pa_cons (pv 0) pa_nil)))
      (pss_cons (ps_if (pt_cmpR op_eq (pe_op op_mod (pe_callB call_len_seq (by rfl) T.blen PySem.boot_len (pa_cons (pv 0) pa_nil)) pe_int) pe_int (nomark _)) (pss_one (ps_raise rfl (takes_of rfl rfl rfl rfl) (pmk_own PySem.F.excBase_ValueError T.xOdd T.gOdd T.kOdd (raises_own T.BOdd T.tOdd) rfl))) pss_nil)
      (pss_one (ps_ret (pe_callB call_abs (by rfl) T.babs (by decide +kernel) (pa_cons (pe_op op_sub (pe_callB (cr_sum rfl) (by rfl) T.bsum (by decide +kernel) (pa_cons (pe_stepL (pv 0) po_none) pa_nil)) (pe_callB (cr_sum rfl) (by rfl) T.bsum (by decide +kernel) (pa_cons (pe_stepL (pv 0) (po_some pe_int)) pa_nil))) pa_nil)))))), ?_⟩
    refine ⟨_, rfl, ?_⟩
    rcases h with ⟨ns, hrow, q1, q2⟩ | ⟨hn, q⟩
    · refine ⟨x, rfl, .inl ⟨ns, hrow, fun H1 s1 => ?_⟩⟩
      obtain ⟨a, rfl, hS, hok⟩ := hrow
      have hS1 := s1.seq hS
      refine ⟨_, rfl, a, _, rfl, .inl hS1, _, _, rfl, rfl, (by show (0 : Int) < 2; decide), rfl, _, rfl, ?_⟩
      refine ite2 (fun c => ?_) (fun c => ?_)
      · have c' : (((ns.map V.int).length : Int) % 2) = 1 := V.int.inj (of_decide_eq_true c)
        rw [List.length_map] at c'
        exact q1 (by omega) H1 s1
      · have c' : ¬ (((ns.map V.int).length : Int) % 2) = 1 := fun z => c (decide_eq_true (congrArg V.int z))
        rw [List.length_map] at c'
        refine ⟨_, rfl, .inl rfl, a, _, rfl, hS1, fun p np => ?_⟩
        have s2 : Same H1 (upd H1 p (.lst (evens ((ns.map V.int).drop (stepLo none))))) := same_new np _
        have e1 : evens ((ns.map V.int).drop (stepLo none)) = (evens ns).map V.int := by
          show evens (ns.map V.int) = _
          exact evens_map V.int ns
        refine ⟨p, evens ns, rfl, SqL.of (by rw [upd_same, e1]), ?_⟩
        refine ⟨_, rfl, 1, rfl, .inr ⟨1, rfl, by decide⟩, a, _, rfl, s2.seq hS1, fun p2 np2 => ?_⟩
        have e2 : evens ((ns.map V.int).drop (stepLo (some 1))) = (evens (ns.drop 1)).map V.int := by
          show evens ((ns.map V.int).drop 1) = _
          rw [← List.map_drop]
          exact evens_map V.int _
        refine ⟨p2, evens (ns.drop 1), rfl, SqL.of (by rw [upd_same, e2]), ?_⟩
        refine ⟨_, _, rfl, rfl, _, rfl, ?_⟩
        exact q2 (by omega) _ (s1.trans (s2.trans (same_new np2 _)))
    · exact ⟨x, rfl, .inr ⟨hn, q⟩⟩
end
end K08
namespace K08
open PySem PySem.Spec PyProof.Rows L2 RE
section
variable {P : Program} {w : World} {K : PySem.W.Frag} {mg : Str → Option Value} {base : Heap} {A : Ad}
theorem ok_is_side (T : Tx K mg A) : FnOk P w K mg base CX0 1 A.f_is_side A.d_is_side ["thing"] (spSide K) := by
  refine T.Fis_side.ok sc_is_side (fun vs H Q E h => ?_) (fun cdv A' outer s H vs Q E hr h => ?_)
  · obtain ⟨x, T, rfl, _⟩ := h
    rfl
  · obtain ⟨x, ty, rfl, hx, q⟩ := h
    refine ⟨_, (pss_one (ps_ret (pe_and (pe_callB call_isi (by rfl) T.bisinstance (by decide +kernel) (pa_cons (pv 0) (pa_cons (pe_bltn (v := .ty "str") (by rfl) T.bstr (by decide +kernel) rfl) pa_nil))) (pe_one (pe_cmpR op_in_seq (pv 0) (pe_tup (pa_cons (pe_glob (v := .str "left") (by rfl) T.gLEFT ⟨_, rfl⟩) (pa_cons (pe_glob (v := .str "right") (by rfl) T.gRIGHT ⟨_, rfl⟩) pa_nil))) (by rfl)))))), ?_⟩
    refine ⟨_, rfl, _, _, _, _, _, rfl, .ty _, hx.ty, kit_str hx.mem, _, rfl, ?_⟩
    cases e : (ty == "str") with
    | false =>
      refine iteF ?_
      have z : isSideB x = false := by
        cases x <;> first | rfl | (have := hx.of_str; subst this; cases e)
      have q' := q H (Same.refl H)
      rw [z] at q'
      exact q'
    | true =>
      refine iteT ?_
      obtain ⟨z, rfl⟩ := hx.str_of (eq_of_beq e)
      refine ⟨_, rfl, (by show 2 ≤ sizeLine; decide), fun t nt => ?_⟩
      refine ⟨t, _, rfl, .inr (SqT.of upd_same), rfl, rfl, ?_⟩
      have e2 : (if false = true then !inV (V.str z) [V.str "left", V.str "right"] else inV (V.str z) [V.str "left", V.str "right"]) = isSideB (.str z) := by
        rw [if_neg Bool.false_ne_true]
        show ((("left" : Str) == z) || ((("right" : Str) == z) || false)) = (decide (z = "left") || decide (z = "right"))
        rw [Bool.or_false]
        congr 1
        · by_cases c : z = "left"
          · subst c
            simp
          · rw [decide_eq_false c]
            exact beq_eq_false_iff_ne.mpr (fun y => c y.symm)
        · by_cases c : z = "right"
          · subst c
            simp
          · rw [decide_eq_false c]
            exact beq_eq_false_iff_ne.mpr (fun y => c y.symm)
      have q' := q _ (same_new nt (.tup [V.str "left", V.str "right"]))
      rw [← e2] at q'
      exact q'
theorem ok_led (T : Tx K mg A) : FnOk P w K mg base (L2.CX P w) 3 A.f_led A.d_led ["row", "takes"] (spLed K A.C_BadRow A.C_BadTakes) := by
  have Gcheck_row : FnOk P w K mg base (L2.CX P w) 2 A.f_check_row A.d_check_row ["row"] (spCheck K A.C_BadRow) := ok_check_row T
  have Gis_side : FnOk P w K mg base CX0 1 A.f_is_side A.d_is_side ["thing"] (spSide K) := ok_is_side T
  have Gafter : FnOk P w K mg base CX0 1 A.f_after A.d_after ["row", "low", "behind", "side"] (spAfter K) := ok_after T
  refine T.Fled.okX sc_led (fun vs H Q E h => ?_) (fun cdv A' outer s H vs Q E hr h => ?_)
  · obtain ⟨x, t, rfl, _⟩ := h
    rfl
  · obtain ⟨x, t, rfl, h⟩ := h
    refine ⟨_, (pss_cons (ps_expr (pe_call Gcheck_row (hr.mono (by first | decide | omega)) (by rfl) T.gcheck_row T.Fcheck_row.kp T.bcheck_row .nil (passes_call (takes_of rfl rfl rfl rfl) (fun _ _ _ _ h => h)) (pa_cons (pv 0) pa_nil)))
      (pss_cons (ps_if (PW.pt (pw_or (pt_not (pt_val (pe_callB call_isi (by rfl) T.bisinstance (by decide +kernel) (pa_cons (pv 1) (pa_cons (pe_bltn (v := .ty "list") (by rfl) T.blist (by decide +kernel) rfl) pa_nil))))) (pw_or (pt_cmpR op_gt (pe_callB call_len_seq (by rfl) T.blen PySem.boot_len (pa_cons (pv 1) pa_nil)) (pe_callB call_len_seq (by rfl) T.blen PySem.boot_len (pa_cons (pv 0) pa_nil)) (nomark _)) (pw_or1 (pt_not (pt_val (pe_callB (cr_all rfl) (by rfl) T.ball (by decide +kernel) (pa_cons (pe_lc (own := [("side", 2)]) (by rfl) sc_led.nd (pi_list (pv 1)) (blkOk_by (own := [("side", 2)]) (N := N_led) (sc := defScope s_led) (by decide +kernel)) (fun _ _ _ _ _ => (pg_name (i := 2) sc_led.nd rfl (Or.inl rfl))) (fun _ _ _ _ _ => pts_nil) (fun _ _ _ _ _ => (pe_call Gis_side (hr.mono (by first | decide | omega)) (by rfl) T.gis_side T.Fis_side.kp T.bis_side .nil pass0 (pa_cons (pv 2) pa_nil)))) pa_nil)))))))) (pss_one (ps_raise rfl (takes_of rfl rfl rfl rfl) (pmk_own PySem.F.excBase_ValueError T.xBadTakes T.gBadTakes T.kBadTakes (raises_own T.BBadTakes T.tBadTakes) rfl))) pss_nil)
      (pss_cons (ps_par3 (i := 3) (j := 4) (l := 5) rfl sc_led.nd rfl rfl rfl (by decide) (by decide) (by decide) rfl rfl rfl (pa_cons pe_int (pa_cons (pe_callB call_len_seq (by rfl) T.blen PySem.boot_len (pa_cons (pv 0) pa_nil)) (pa_cons (pe_lst (pa_cons pe_int (pa_cons pe_int pa_nil))) pa_nil))) (by rfl))
      (pss_cons (ps_for (passes_of rfl) rfl (pi_enum (by rfl) T.benumerate (pa_cons (pv 1) pa_nil)) (pg_tup rfl (pgs_cons (pg_name (i := 6) sc_led.nd rfl (Or.inl rfl)) (pgs_cons (pg_name (i := 2) sc_led.nd rfl (Or.inl rfl)) pgs_nil)))
      (pss_cons (ps_asg (pe_call Gafter (hr.mono (by first | decide | omega)) (by rfl) T.gafter T.Fafter.kp T.bafter .nil pass0 (pa_cons (pv 0) (pa_cons (pv 3) (pa_cons (pv 4) (pa_cons (pv 2) pa_nil))))) (pg_tup rfl (pgs_cons (pg_name (i := 7) sc_led.nd rfl (Or.inl rfl)) (pgs_cons (pg_name (i := 3) sc_led.nd rfl (Or.inl rfl)) (pgs_cons (pg_name (i := 4) sc_led.nd rfl (Or.inl rfl)) pgs_nil)))))
      (pss_one (ps_augS (pv 5) (pe_op op_mod (pv 6) pe_int) get_list (pv 7) ip_add set_list))))
      (pss_one (ps_ret (pe_tup (pa_cons (pe_ix ix_list (pv 5) pe_int (fun _ _ => rfl)) (pa_cons (pe_ix ix_list (pv 5) pe_int (fun _ _ => rfl)) (pa_cons (pe_slice sl_list (pv 0) (po_some (pv 3)) (po_some (pv 4))) pa_nil)))))))))), ?_⟩
    refine ⟨_, rfl, ?_⟩
    rcases h with ⟨hn, q⟩ | ⟨ns, hrow, h⟩
    · exact ⟨x, rfl, .inr ⟨hn, q⟩⟩
    refine ⟨x, rfl, .inl ⟨ns, hrow, fun H1 s1 => ?_⟩⟩
    obtain ⟨r, rfl, hS, hok⟩ := hrow
    have hS1 := s1.seq hS
    have el : (ns.map V.int).length = ns.length := List.length_map _
    -- what is handed in as takes
    have h' : (∃ ty, PV K H t ty ∧ (ty == "list") = false ∧ ∀ H', Same H H' → E (.ref A.C_BadTakes) none H') ∨
        ∃ (a : Addr) (xs : List V), t = .ref a ∧ SqL K H a xs ∧ (ns.length < xs.length → ∀ H', Same H H' → E (.ref A.C_BadTakes) none H') ∧
        (xs.length ≤ ns.length → (∀ y ∈ xs, ∃ T, PV K H y T)) ∧ (xs.length ≤ ns.length → xs.all isSideB = false → ∀ H', Same H H' → E (.ref A.C_BadTakes) none H') ∧ (xs.length ≤ ns.length → xs.all isSideB = true → ∃ bs, xs = sidesV bs ∧
          ∀ H' p l, Same H H' → H p = none → H l = none → H' p = some (.tup [.int (ledR ns ns.length 0 bs).1, .int (ledR ns ns.length 0 bs).2, .ref l]) → H' l = some (.lst ((stretch ns (ledLow 0 bs) (ns.length - bs.length)).map V.int)) → Q (.ref p) H') := by
      rcases h with ⟨hn, q⟩ | ⟨a, bs, ex, hs, hl, q⟩
      · rcases hn with ⟨ty, hp, e⟩ | ⟨a, xs, ex, hs, hb⟩
        · exact .inl ⟨ty, hp, e, q⟩
        · rcases hb with hb | ⟨hb, hty, ha⟩
          · exact .inr ⟨a, xs, ex, hs, (fun _ => q), (fun h => by omega), (fun h => by omega), (fun h => by omega)⟩
          · exact .inr ⟨a, xs, ex, hs, (fun h => by omega), (fun _ => hty), (fun _ _ => q), (fun _ h => by rw [ha] at h; cases h)⟩
      · refine .inr ⟨a, _, ex, hs, (fun h => ?_), (fun _ y hy => ?_), (fun _ h => ?_), (fun _ _ => ⟨bs, rfl, q⟩)⟩
        · rw [sidesV_len] at h
          omega
        · obtain ⟨b, _, rfl⟩ := List.mem_map.mp hy
          exact ⟨_, pv_str _⟩
        · rw [all_sides] at h
          cases h
    rcases h' with ⟨ty, hp, e, q⟩ | ⟨a, xs, ex, hs, hlong, hty, hbad, hgood⟩
    · have hp1 := hp.mono s1
      refine ⟨_, rfl, _, _, _, _, _, rfl, .ty _, hp1.ty, kit_list hp1.mem, _, rfl, ?_⟩
      rw [e]
      exact iteT (iteT (q H1 s1))
    subst ex
    have hs1 := s1.seq hs
    have hp := pv_sq hs1
    refine ⟨_, rfl, _, _, _, _, _, rfl, .ty _, hp.ty, kit_list hp.mem, _, rfl, ?_⟩
    refine iteF ?_
    refine ⟨_, rfl, a, xs, rfl, .inl hs1, _, rfl, r, _, rfl, .inl hS1, _, _, rfl, rfl, _, rfl, ?_⟩
    by_cases c : ns.length < xs.length
    · refine iteTb (decide_eq_true (by rw [el]; omega)) ?_
      exact iteT (hlong c H1 s1)
    refine iteFb (decide_eq_false (by rw [el]; omega)) ?_
    have hl : xs.length ≤ ns.length := by omega
    have hn12 := hok.1
    refine ⟨_, rfl, a, rfl, ⟨_, hs1⟩, fun D nD => lc_list (K := K) (a := a) (xs := xs) (fun i H2 => Same H1 H2 ∧ H2 D = some (.lst ((xs.take i).map fun y => V.bl (isSideB y)))) ⟨same_new nD _, upd_same⟩ (fun i H2 _ h2 => h2.1.seq hs1) ?_ ?_⟩
    · rintro i y H2 hi ⟨s2, e2⟩
      obtain ⟨ty, hy⟩ := hty hl y (List.mem_of_getElem? hi)
      refine ⟨rfl, ?_⟩
      have hlt : i < xs.length := (List.getElem?_eq_some_iff.mp hi).1
      refine ⟨_, rfl, y, ty, rfl, hy.mono (s1.trans s2), fun H3 s3 => ?_⟩
      refine ⟨_, s3 _ _ e2, ?_, fun c o e => ?_, ?_⟩
      · rw [List.length_map, List.length_take]
        exact size_lt (by omega)
      · rw [upd_ne (ne_of_none e nD)]
        exact s3 c o (s2 c o e)
      · rw [upd_same, List.take_add_one, hi, List.map_append]
        rfl
    · rintro H2 ⟨s2, e2⟩
      rw [List.take_length] at e2
      have e3 : (xs.map fun y => V.bl (isSideB y)) = (xs.map isSideB).map V.bl := by rw [List.map_map]; rfl
      rw [e3] at e2
      refine ⟨D, _, rfl, SqL.of e2, _, rfl, ?_⟩
      have e4 : (xs.map isSideB).all id = xs.all isSideB := by rw [List.all_map]; rfl
      rw [e4]
      cases e : xs.all isSideB with
      | false => exact iteT (hbad hl e H2 (s1.trans s2))
      | true =>
        refine iteF ?_
        obtain ⟨bs, rfl, q⟩ := hgood hl e
        rw [sidesV_len] at hl
        have s12 := s1.trans s2
        -- low, behind, sums = 0, len(row), [0, 0]
        refine ⟨_, rfl, r, _, rfl, .inl (s12.seq hS), (by show 2 ≤ sizeLine; decide), fun u nu => ⟨_, _, _, rfl, ?_⟩⟩
        have s3 := same_new nu (.lst [V.int 0, V.int 0])
        have hs3 := s3.seq (s2.seq hs1)
        refine ⟨_, rfl, a, _, rfl, hs3, ?_⟩
        refine for_enum (K := K) (a := a) (xs := sidesV bs) (fun i σ H4 => ∃ (x2 : Option V) (low n : Nat) (x6 x7 : Option V) (x y : Int), σ = [some (.ref r), some (.ref a), x2, some (.int (low : Int)), some (.int ((low + n : Nat) : Int)), some (.ref u), x6, x7] ∧
          Same H2 H4 ∧ H4 u = some (.lst [V.int x, V.int y]) ∧ low + n ≤ ns.length ∧ n + i = ns.length ∧ ledLow low (bs.drop i) = ledLow 0 bs ∧
          (i % 2 = 0 → x + (ledR ns n low (bs.drop i)).1 = (ledR ns ns.length 0 bs).1 ∧ y + (ledR ns n low (bs.drop i)).2 = (ledR ns ns.length 0 bs).2) ∧
          (i % 2 = 1 → y + (ledR ns n low (bs.drop i)).1 = (ledR ns ns.length 0 bs).2 ∧ x + (ledR ns n low (bs.drop i)).2 = (ledR ns ns.length 0 bs).1)) ?_ ?_ ?_ ?_
        · refine ⟨none, 0, ns.length, none, none, 0, 0, ?_, s3, upd_same, by omega, rfl, rfl, fun _ => ⟨by rw [List.drop_zero]; omega, by rw [List.drop_zero]; omega⟩, fun h => by omega⟩
          rw [el, Nat.zero_add]
          rfl
        · rintro i σ H4 ⟨x2, low, n, x6, x7, x, y, rfl, s4, _⟩
          exact s4.seq (s2.seq hs1)
        · rintro i y T σ H4 hi ⟨x2, low, n, x6, x7, x, yy, rfl, s4, hu4, hn, hni, hlow, hev, hod⟩ nT
          have hlt : i < bs.length := by
            have := (List.getElem?_eq_some_iff.mp hi).1
            rw [sidesV_len] at this
            exact this
          have hy : y = V.str (sideS bs[i]) := by
            unfold sidesV at hi
            rw [List.getElem?_map, List.getElem?_eq_getElem hlt] at hi
            exact (Option.some.inj hi).symm
          subst hy
          have hdrop : bs.drop i = bs[i] :: bs.drop (i + 1) := List.drop_eq_getElem_cons hlt
          obtain ⟨m, rfl⟩ : ∃ m, n = m + 1 := ⟨n - 1, by omega⟩
          generalize hb : bs[i] = b at *
          have s5 := same_new nT (.tup [.int (i : Nat), V.str (sideS b)])
          -- at, side
          refine ⟨T, _, rfl, SqT.of upd_same, rfl, _, _, rfl, _, _, rfl, rfl, ?_⟩
          -- coin, low, behind = after(row, low, behind, side)
          have hS5 := (s12.trans (s4.trans s5)).seq hS
          refine ⟨_, rfl, _, rfl, _, rfl, _, rfl, ?_⟩
          refine ⟨r, ns, low, m, _, _, b, rfl, rfl, rfl, hS5, hn, fun p np => ?_⟩
          have s6 := same_new np (.tup [.int (coinOf ns b low m), .int (lowOf b low : Nat), .int ((lowOf b low + m : Nat) : Int)])
          refine ⟨p, _, rfl, SqT.of upd_same, rfl, _, _, rfl, _, _, rfl, _, _, rfl, rfl, ?_⟩
          have hu6 := s6 _ _ (s5 _ _ hu4)
          rw [hdrop] at hlow hev hod
          rw [ledR_cons] at hev hod
          -- sums[at % 2] += coin
          rcases Nat.mod_two_eq_zero_or_one i with par | par
          · have ei : ((i : Nat) : Int) % 2 = ((0 : Nat) : Int) := by omega
            obtain ⟨h1, h2⟩ := hev par
            refine ⟨_, rfl, _, rfl, _, _, rfl, rfl, (by show (0 : Int) < 2; decide), u, _, _, .int x, rfl, rfl, SqL.of hu6, (by rw [ei]; exact atI_nat rfl), _, rfl, _, _, rfl, rfl, u, _, _, 0, rfl, rfl, hu6, (by rw [ei]; rfl), ?_⟩
            refine ⟨_, lowOf b low, m, _, _, _, yy, rfl, fun c o e => ?_, upd_same, by have := lowOf_le b low m; omega, by omega, hlow, fun h => by omega, fun _ => ⟨?_, ?_⟩⟩
            · rw [upd_ne (ne_of_none e nu)]
              exact s6 c o (s5 c o (s4 c o e))
            · show yy + (ledR ns m (lowOf b low) (bs.drop (i + 1))).1 = _
              exact h2
            · show (x + coinOf ns b low m) + (ledR ns m (lowOf b low) (bs.drop (i + 1))).2 = _
              have h1' : x + (coinOf ns b low m + (ledR ns m (lowOf b low) (bs.drop (i + 1))).2) = (ledR ns ns.length 0 bs).1 := h1
              omega
          · have ei : ((i : Nat) : Int) % 2 = ((1 : Nat) : Int) := by omega
            obtain ⟨h1, h2⟩ := hod par
            refine ⟨_, rfl, _, rfl, _, _, rfl, rfl, (by show (0 : Int) < 2; decide), u, _, _, .int yy, rfl, rfl, SqL.of hu6, (by rw [ei]; exact atI_nat rfl), _, rfl, _, _, rfl, rfl, u, _, _, 1, rfl, rfl, hu6, (by rw [ei]; rfl), ?_⟩
            refine ⟨_, lowOf b low, m, _, _, x, _, rfl, fun c o e => ?_, upd_same, by have := lowOf_le b low m; omega, by omega, hlow, fun _ => ⟨?_, ?_⟩, fun h => by omega⟩
            · rw [upd_ne (ne_of_none e nu)]
              exact s6 c o (s5 c o (s4 c o e))
            · show x + (ledR ns m (lowOf b low) (bs.drop (i + 1))).1 = _
              exact h2
            · show (yy + coinOf ns b low m) + (ledR ns m (lowOf b low) (bs.drop (i + 1))).2 = _
              have h1' : yy + (coinOf ns b low m + (ledR ns m (lowOf b low) (bs.drop (i + 1))).2) = (ledR ns ns.length 0 bs).2 := h1
              omega
        · rintro σ H4 ⟨x2, low, n, x6, x7, x, y, rfl, s4, hu4, hn, hni, hlow, hev, hod⟩
          rw [sidesV_len] at hni hlow hev hod
          rw [List.drop_length] at hlow hev hod
          rw [ledR_nil] at hev hod
          have hx : x = (ledR ns ns.length 0 bs).1 ∧ y = (ledR ns ns.length 0 bs).2 := by
            rcases Nat.mod_two_eq_zero_or_one bs.length with par | par
            · obtain ⟨h1, h2⟩ := hev par
              exact ⟨by have : x + 0 = _ := h1; omega, by have : y + 0 = _ := h2; omega⟩
            · obtain ⟨h1, h2⟩ := hod par
              exact ⟨by have : x + 0 = _ := h2; omega, by have : y + 0 = _ := h1; omega⟩
          have hlow' : low = ledLow 0 bs := hlow
          have hn' : n = ns.length - bs.length := by omega
          have sH4 := s12.trans s4
          -- return (sums[0], sums[1], row[low:behind])
          refine ⟨_, rfl, u, _, _, _, rfl, rfl, SqL.of hu4, atI_nat (j := 0) rfl, _, rfl, u, _, _, _, rfl, rfl, SqL.of hu4, atI_nat (j := 1) rfl, _, rfl, _, rfl, _, rfl, _, rfl, _, rfl, r, _, rfl, sH4.seq hS, fun l nl => ⟨(by show 3 ≤ sizeLine; decide), fun p np => ?_⟩⟩
          have s7 := same_new nl (.lst (cutV (ns.map V.int) (some (low : Int)) (some ((low + n : Nat) : Int))))
          have s8 := same_new np (.tup [V.int x, V.int y, V.ref l])
          refine q _ p l (sH4.trans (s7.trans s8)) ((sH4.trans s7).free np) (sH4.free nl) ?_ ?_
          · rw [upd_same, hx.1, hx.2]
          · refine s8 _ _ ?_
            rw [upd_same, stretch_cut hn rfl rfl, hlow', hn']
theorem ok_greedy (T : Tx K mg A) : FnOk P w K mg base (L2.CX P w) 3 A.f_greedy A.d_greedy ["row"] (spGreedy K A.C_BadRow) := by
  have Gcheck_row : FnOk P w K mg base (L2.CX P w) 2 A.f_check_row A.d_check_row ["row"] (spCheck K A.C_BadRow) := ok_check_row T
  have Gafter : FnOk P w K mg base CX0 1 A.f_after A.d_after ["row", "low", "behind", "side"] (spAfter K) := ok_after T
  refine T.Fgreedy.okX sc_greedy (fun vs H Q E h => ?_) (fun cdv A' outer s H vs Q E hr h => ?_)
  · obtain ⟨x, rfl, _⟩ := h
    rfl
  · obtain ⟨x, rfl, h⟩ := h
    refine ⟨_, (pss_cons (ps_expr (pe_call Gcheck_row (hr.mono (by first | decide | omega)) (by rfl) T.gcheck_row T.Fcheck_row.kp T.bcheck_row .nil (passes_call (takes_of rfl rfl rfl rfl) (fun _ _ _ _ h => h)) (pa_cons (pv 0) pa_nil)))
      (pss_cons (ps_par3 (i := 1) (j := 2) (l := 3) rfl sc_greedy.nd rfl rfl rfl (by decide) (by decide) (by decide) rfl rfl rfl (pa_cons pe_int (pa_cons (pe_callB call_len_seq (by rfl) T.blen PySem.boot_len (pa_cons (pv 0) pa_nil)) (pa_cons (pe_lst pa_nil) pa_nil))) (by rfl))
      (pss_cons (ps_while (passes_of rfl) (pt_cmpR op_lt (pv 1) (pv 2) (nomark _))
      (pss_mid (ps_set (i := 4) sc_greedy.nd rfl (Or.inl rfl) (pe_ifExp (pt_cmpR op_ge (pe_ix ix_list (pv 0) (pv 1) (fun _ _ => rfl)) (pe_ix ix_list (pv 0) (pe_op op_sub (pv 2) pe_int) (fun _ _ => rfl)) (nomark _)) (pe_glob (v := .str "left") (by rfl) T.gLEFT ⟨_, rfl⟩) (pe_glob (v := .str "right") (by rfl) T.gRIGHT ⟨_, rfl⟩)))
      (pss_cons (ps_expr (pe_bm PySem.F.plainAttrs_list PySem.F.slot_list_append PySem.F.type_list_append mt_append (pv 3) (pa_cons (pv 4) pa_nil)))
      (pss_one (ps_asg (pe_call Gafter (hr.mono (by first | decide | omega)) (by rfl) T.gafter T.Fafter.kp T.bafter .nil pass0 (pa_cons (pv 0) (pa_cons (pv 1) (pa_cons (pv 2) (pa_cons (pv 4) pa_nil))))) (pg_tup rfl (pgs_cons (pg_name (i := 5) sc_greedy.nd rfl (Or.inl rfl)) (pgs_cons (pg_name (i := 1) sc_greedy.nd rfl (Or.inl rfl)) (pgs_cons (pg_name (i := 2) sc_greedy.nd rfl (Or.inl rfl)) pgs_nil)))))))))
      (pss_one (ps_ret (pv 3)))))), ?_⟩
    refine ⟨_, rfl, ?_⟩
    rcases h with ⟨ns, hrow, q⟩ | ⟨hn, q⟩
    · refine ⟨x, rfl, .inl ⟨ns, hrow, fun H1 s1 => ?_⟩⟩
      obtain ⟨r, rfl, hS, hok⟩ := hrow
      have hS1 := s1.seq hS
      have el : (ns.map V.int).length = ns.length := List.length_map _
      refine ⟨_, rfl, r, _, rfl, .inl hS1, Nat.zero_le _, fun f nf => ⟨_, _, _, rfl, ?_⟩⟩
      -- while low < behind
      refine ⟨fun n σ H2 => ∃ (low : Nat) (acc : List Bool) (x4 x5 : Option V), σ = [some (.ref r), some (.int (low : Int)), some (.int ((low + n : Nat) : Int)), some (.ref f), x4, x5] ∧ Same H1 H2 ∧ H2 f = some (.lst (sidesV acc)) ∧ low + n ≤ ns.length ∧ acc.length + n = ns.length ∧ acc ++ greedyV ns n low = greedyV ns ns.length 0, ?_, ?_⟩
      · refine ⟨ns.length, 0, [], none, none, ?_, same_new nf _, upd_same, by omega, by simp, rfl⟩
        rw [el, Nat.zero_add]
        rfl
      · rintro n σ H2 ⟨low, acc, x4, x5, rfl, s2, hf2, hn, hl, hg⟩
        have hS2 := s2.seq hS1
        refine ⟨_, rfl, _, rfl, _, _, rfl, rfl, _, rfl, ?_⟩
        cases n with
        | zero =>
          refine iteFb (decide_eq_false (by omega)) ?_
          refine ⟨_, rfl, ?_⟩
          have e : greedyV ns 0 low = [] := rfl
          rw [e, List.append_nil] at hg
          subst hg
          exact q H2 f (s1.trans s2) (s1.free nf) hf2
        | succ m =>
          refine iteTb (decide_eq_true (by omega)) ?_
          refine ⟨fun σ' H' => ∃ (low : Nat) (acc : List Bool) (x4 x5 : Option V), σ' = [some (.ref r), some (.int (low : Int)), some (.int ((low + m : Nat) : Int)), some (.ref f), x4, x5] ∧ Same H1 H' ∧ H' f = some (.lst (sidesV acc)) ∧ low + m ≤ ns.length ∧ acc.length + m = ns.length ∧ acc ++ greedyV ns m low = greedyV ns ns.length 0, fun σ' H' h => ⟨m, Nat.lt_succ_self m, h⟩, ?_⟩
          -- side = LEFT if row[low] >= row[behind - 1] else RIGHT
          refine ⟨fun σ' H' => σ' = [some (.ref r), some (.int (low : Int)), some (.int ((low + (m + 1) : Nat) : Int)), some (.ref f), some (.str (sideS (decide (ns.getD (low + m) 0 ≤ ns.getD low 0)))), x5] ∧ H' = H2, ?_, ?_⟩
          · refine ⟨_, rfl, _, rfl, r, _, _, _, rfl, rfl, hS2, at_get (j := low) rfl (by omega), _, rfl, _, rfl, _, _, rfl, rfl, r, _, _, _, rfl, rfl, hS2, at_get (j := low + m) (by omega) (by omega), _, _, rfl, rfl, _, rfl, ?_⟩
            by_cases c : ns.getD (low + m) 0 ≤ ns.getD low 0
            · refine iteTb (decide_eq_true c) ?_
              refine ⟨?_, rfl⟩
              rw [decide_eq_true c]
              rfl
            · refine iteFb (decide_eq_false c) ?_
              refine ⟨?_, rfl⟩
              rw [decide_eq_false c]
              rfl
          · rintro σ' H' ⟨rfl, rfl⟩
            rw [greedyV_succ] at hg
            generalize decide (ns.getD (low + m) 0 ≤ ns.getD low 0) = b at hg ⊢
            -- found.append(side)
            refine ⟨_, rfl, .inl ⟨rfl, _, SqL.of hf2⟩, _, rfl, f, _, _, rfl, rfl, hf2, by rw [sidesV_len]; have := hok.1; exact size_lt (by omega), ?_⟩
            have s3 : Same H1 (upd H' f (.lst (sidesV acc ++ [V.str (sideS b)]))) := fun c o e => by
              rw [upd_ne (ne_of_none e nf)]
              exact s2 c o e
            have hS3 := s3.seq hS1
            -- coin, low, behind = after(row, low, behind, side)
            refine ⟨_, rfl, _, rfl, _, rfl, _, rfl, ?_⟩
            refine ⟨r, ns, low, m, _, _, b, rfl, rfl, rfl, hS3, hn, fun p np => ?_⟩
            have s6 := same_new np (.tup [.int (coinOf ns b low m), .int (lowOf b low : Nat), .int ((lowOf b low + m : Nat) : Int)])
            refine ⟨p, _, rfl, SqT.of upd_same, rfl, _, _, rfl, _, _, rfl, _, _, rfl, rfl, ?_⟩
            refine ⟨lowOf b low, acc ++ [b], _, _, rfl, s3.trans s6, ?_, by have := lowOf_le b low m; omega, by rw [List.length_append]; show acc.length + 1 + m = _; omega, ?_⟩
            · refine s6 _ _ ?_
              rw [upd_same]
              unfold sidesV
              rw [List.map_append]
              rfl
            · rw [List.append_assoc]
              exact hg
    · exact ⟨x, rfl, .inr ⟨hn, q⟩⟩
end
end K08
namespace K08
open PySem PySem.Spec PyProof.Rows L2 RE
section
variable {P : Program} {w : World} {K : PySem.W.Frag} {mg : Str → Option Value} {base : Heap} {A : Ad}
theorem step_plays_of (T : Tx K mg A) {n : Nat} (Gplays_of : FnOk P w K mg base CX0 (n + 14) A.f_plays_of A.d_plays_of ["row", "low", "behind", "known"] (spPlaysOf K n)) :
    FnOk P w K mg base CX0 (n + 1 + 14) A.f_plays_of A.d_plays_of ["row", "low", "behind", "known"] (spPlaysOf K (n + 1)) := by
  have Gbest_of : FnOk P w K mg base CX0 14 A.f_best_of A.d_best_of ["row", "low", "behind", "known"] (spBestOf K) := ok_best_of T
  have Gafter : FnOk P w K mg base CX0 1 A.f_after A.d_after ["row", "low", "behind", "side"] (spAfter K) := ok_after T
  rw [show n + 1 + 14 = n + 14 + 1 by omega]
  refine T.Fplays_of.ok sc_plays_of (fun vs H Q E h => ?_) (fun cdv A' outer s H vs Q E hr h => ?_)
  · obtain ⟨a, d, ns, low, m, i, j, kvs, rfl, _⟩ := h
    rfl
  · obtain ⟨a, d, ns, low, m, i, j, kvs, rfl, ei, ej, hS, hd, hk, h12, hm, hn, q⟩ := h
    refine ⟨_, (pss_cons (ps_if (pt_cmpR op_eq (pv 1) (pv 2) (nomark _)) (pss_one (ps_ret pe_int)) pss_nil)
      (pss_cons (ps_set (i := 4) sc_plays_of.nd rfl (Or.inl rfl) pe_int)
      (pss_cons (ps_for PassesOwn.never rfl (pi_list (pe_call Gbest_of (hr.mono (by first | decide | omega)) (by rfl) T.gbest_of T.Fbest_of.kp T.bbest_of .nil pass0 (pa_cons (pv 0) (pa_cons (pv 1) (pa_cons (pv 2) (pa_cons (pv 3) pa_nil)))))) (pg_name (i := 5) sc_plays_of.nd rfl (Or.inl rfl))
      (pss_cons (ps_asg (pe_call Gafter (hr.mono (by first | decide | omega)) (by rfl) T.gafter T.Fafter.kp T.bafter .nil pass0 (pa_cons (pv 0) (pa_cons (pv 1) (pa_cons (pv 2) (pa_cons (pv 5) pa_nil))))) (pg_tup rfl (pgs_cons (pg_name (i := 6) sc_plays_of.nd rfl (Or.inl rfl)) (pgs_cons (pg_name (i := 7) sc_plays_of.nd rfl (Or.inl rfl)) (pgs_cons (pg_name (i := 8) sc_plays_of.nd rfl (Or.inl rfl)) pgs_nil)))))
      (pss_one (ps_aug (i := 4) sc_plays_of.nd rfl (Or.inl rfl) (pe_call Gplays_of (hr.mono (by first | decide | omega)) (by rfl) T.gplays_of T.Fplays_of.kp T.bplays_of .nil pass0 (pa_cons (pv 0) (pa_cons (pv 7) (pa_cons (pv 8) (pa_cons (pv 3) pa_nil))))) ip_add))))
      (pss_one (ps_ret (pv 4)))))), ?_⟩
    refine ⟨_, rfl, _, rfl, rfl, _, rfl, ?_⟩
    cases m with
    | zero =>
      refine iteTb (decide_eq_true (congrArg V.int (by omega))) ?_
      exact q H kvs (SameBut.refl d H) hd hk
    | succ m =>
      refine iteFb (decide_eq_false (fun z => by have z' : i = j := V.int.inj z; omega)) ?_
      -- for side in best_of(..)
      refine ⟨_, rfl, _, rfl, _, rfl, _, rfl, ?_⟩
      refine ⟨a, d, ns, low, m, _, _, kvs, rfl, ei, ej, hS, hd, hk, h12, hm, fun H1 kvs1 p s1 hd1 hk1 np hp => ?_⟩
      have hpd : p ≠ d := ne_of hp hd1 (by intro z; cases z)
      refine ⟨p, rfl, ⟨_, SqL.of hp⟩, ?_⟩
      refine for_list (K := K) (a := p) (xs := sidesV (ends ns (m + 1) low)) (fun t σ H2 => ∃ (kvs2 : List (List Key × V)) (x5 x6 x7 x8 : Option V), σ = [some (.ref a), some (.int i), some (.int j), some (.ref d), some (.int (((ends ns (m + 1) low).take t).map fun b => many ns m (lowOf b low)).sum), x5, x6, x7, x8] ∧
        SameBut d H1 H2 ∧ H2 d = some (.dT kvs2) ∧ Known ns kvs2) ⟨kvs1, none, none, none, none, rfl, SameBut.refl _ _, hd1, hk1⟩ ?_ ?_ ?_
      · rintro t σ H2 _ ⟨kvs2, x5, x6, x7, x8, rfl, s2, hd2, hk2⟩
        exact SqL.of (s2 _ _ hpd hp)
      · rintro t y σ H2 hi ⟨kvs2, x5, x6, x7, x8, rfl, s2, hd2, hk2⟩
        have hlt : t < (ends ns (m + 1) low).length := by
          have := (List.getElem?_eq_some_iff.mp hi).1
          rw [sidesV_len] at this
          exact this
        have hy : y = V.str (sideS (ends ns (m + 1) low)[t]) := by
          unfold sidesV at hi
          rw [List.getElem?_map, List.getElem?_eq_getElem hlt] at hi
          exact (Option.some.inj hi).symm
        subst hy
        have hget : (ends ns (m + 1) low)[t]? = some (ends ns (m + 1) low)[t] := List.getElem?_eq_getElem hlt
        generalize (ends ns (m + 1) low)[t] = b at hget
        have hS2 := (s1.trans s2).seq hd hS
        refine ⟨_, rfl, _, rfl, _, rfl, _, rfl, ?_⟩
        refine ⟨a, ns, low, m, _, _, b, rfl, ei, ej, hS2, hm, fun p2 np2 => ?_⟩
        have s3 := same_new np2 (.tup [.int (coinOf ns b low m), .int (lowOf b low : Nat), .int ((lowOf b low + m : Nat) : Int)])
        refine ⟨p2, _, rfl, SqT.of upd_same, rfl, _, _, rfl, _, _, rfl, _, _, rfl, rfl, ?_⟩
        have hd3 := s3 _ _ hd2
        -- found += plays_of(row, left, right, known)
        refine ⟨_, rfl, _, rfl, _, rfl, _, rfl, _, rfl, ?_⟩
        refine ⟨a, d, ns, lowOf b low, m, _, _, kvs2, rfl, rfl, rfl, s3.seq hS2, hd3, hk2, h12, by have := lowOf_le b low m; omega, by omega, fun H4 kvs4 s4 hd4 hk4 => ?_⟩
        refine ⟨_, _, rfl, rfl, ?_⟩
        refine ⟨kvs4, some (.str (sideS b)), some (.int (coinOf ns b low m)), some (.int (lowOf b low : Nat)), some (.int ((lowOf b low + m : Nat) : Int)), ?_, s2.trans ((SameBut.of s3).trans s4), hd4, hk4⟩
        rw [sum_take1 _ hget]
        rfl
      · rintro σ H2 ⟨kvs2, x5, x6, x7, x8, rfl, s2, hd2, hk2⟩
        refine ⟨_, rfl, ?_⟩
        have q' := q H2 kvs2 (s1.trans s2) hd2 hk2
        rw [many_succ] at q'
        rw [sidesV_len, List.take_length]
        exact q'
theorem plays_of_all (T : Tx K mg A) : ∀ n : Nat, FnOk P w K mg base CX0 (n + 14) A.f_plays_of A.d_plays_of ["row", "low", "behind", "known"] (spPlaysOf K n)
  | 0 => by
    have no : ∀ vs H Q E, ¬ spPlaysOf K 0 vs H Q E := fun vs H Q E h => by
      obtain ⟨a, d, ns, low, m, i, j, kvs, _, _, _, _, _, _, _, _, h0, _⟩ := h
      omega
    exact ⟨fun vs H Q E h => absurd h (no vs H Q E), fun A outer s H args us vs Q E _ _ _ _ h => absurd h (no vs H Q E)⟩
  | n + 1 => step_plays_of T (plays_of_all T n)
theorem ok_plays_of (T : Tx K mg A) : FnOk P w K mg base CX0 27 A.f_plays_of A.d_plays_of ["row", "low", "behind", "known"] (spPlaysOf K 13) := plays_of_all T 13
theorem ok_how_many (T : Tx K mg A) : FnOk P w K mg base (L2.CX P w) 28 A.f_how_many A.d_how_many ["row"] (spHowMany K A.C_BadRow) := by
  have Gplays_of : FnOk P w K mg base CX0 27 A.f_plays_of A.d_plays_of ["row", "low", "behind", "known"] (spPlaysOf K 13) := ok_plays_of T
  have Gcheck_row : FnOk P w K mg base (L2.CX P w) 2 A.f_check_row A.d_check_row ["row"] (spCheck K A.C_BadRow) := ok_check_row T
  refine T.Fhow_many.okX sc_how_many (fun vs H Q E h => ?_) (fun cdv A' outer s H vs Q E hr h => ?_)
  · obtain ⟨x, rfl, _⟩ := h
    rfl
  · obtain ⟨x, rfl, h⟩ := h
    refine ⟨_, (pss_cons (ps_expr (pe_call Gcheck_row (hr.mono (by first | decide | omega)) (by rfl) T.gcheck_row T.Fcheck_row.kp T.bcheck_row .nil (passes_call (takes_of rfl rfl rfl rfl) (fun _ _ _ _ h => h)) (pa_cons (pv 0) pa_nil)))
      (pss_one (ps_ret (pe_call Gplays_of (hr.mono (by first | decide | omega)) (by rfl) T.gplays_of T.Fplays_of.kp T.bplays_of .nil pass0 (pa_cons (pv 0) (pa_cons pe_int (pa_cons (pe_callB call_len_seq (by rfl) T.blen PySem.boot_len (pa_cons (pv 0) pa_nil)) (pa_cons pe_dnewT pa_nil)))))))), ?_⟩
    refine ⟨_, rfl, ?_⟩
    rcases h with ⟨ns, hrow, q⟩ | ⟨hn, q⟩
    · refine ⟨x, rfl, .inl ⟨ns, hrow, fun H1 s1 => ?_⟩⟩
      obtain ⟨a, rfl, hS, hok⟩ := hrow
      have hS1 := s1.seq hS
      refine ⟨_, rfl, _, rfl, a, _, rfl, .inl hS1, fun d nd => ?_⟩
      refine ⟨a, d, ns, 0, ns.length, _, _, [], rfl, rfl, ?_, (same_new nd _).seq hS1, upd_same, Known.nil _, hok.1, by omega, by have := hok.1; omega, fun H2 kvs2 s2 hd2 hk2 => ?_⟩
      · rw [List.length_map]
        omega
      · exact q H2 (s1.trans (SameBut.free (fun b o nb e => s2 b o nb (by rw [upd_ne nb]; exact e)) nd))
    · exact ⟨x, rfl, .inr ⟨hn, q⟩⟩
theorem ok_play_by (T : Tx K mg A) : FnOk P w K mg base (L2.CX P w) 28 A.f_play_by A.d_play_by ["row", "number"] (spPlayBy K A.C_BadRow A.C_BadNumber) := by
  have Gplays_of : FnOk P w K mg base CX0 27 A.f_plays_of A.d_plays_of ["row", "low", "behind", "known"] (spPlaysOf K 13) := ok_plays_of T
  have Gcheck_row : FnOk P w K mg base (L2.CX P w) 2 A.f_check_row A.d_check_row ["row"] (spCheck K A.C_BadRow) := ok_check_row T
  have Gbest_of : FnOk P w K mg base CX0 14 A.f_best_of A.d_best_of ["row", "low", "behind", "known"] (spBestOf K) := ok_best_of T
  have Gafter : FnOk P w K mg base CX0 1 A.f_after A.d_after ["row", "low", "behind", "side"] (spAfter K) := ok_after T
  have Gis_whole : FnOk P w K mg base CX0 1 A.f_is_whole A.d_is_whole ["thing"] (spWhole K) := ok_is_whole T
  refine T.Fplay_by.okX sc_play_by (fun vs H Q E h => ?_) (fun cdv A' outer s H vs Q E hr h => ?_)
  · obtain ⟨x, t, rfl, _⟩ := h
    rfl
  · obtain ⟨x, t, rfl, h⟩ := h
    refine ⟨_, (pss_cons (ps_expr (pe_call Gcheck_row (hr.mono (by first | decide | omega)) (by rfl) T.gcheck_row T.Fcheck_row.kp T.bcheck_row .nil (passes_call (takes_of rfl rfl rfl rfl) (fun _ _ _ _ h => h)) (pa_cons (pv 0) pa_nil)))
      (pss_cons (ps_asg (pe_tup (pa_cons pe_dnewT (pa_cons pe_int (pa_cons (pe_callB call_len_seq (by rfl) T.blen PySem.boot_len (pa_cons (pv 0) pa_nil)) (pa_cons (pe_lst pa_nil) pa_nil))))) (pg_tup rfl (pgs_cons (pg_name (i := 2) sc_play_by.nd rfl (Or.inl rfl)) (pgs_cons (pg_name (i := 3) sc_play_by.nd rfl (Or.inl rfl)) (pgs_cons (pg_name (i := 4) sc_play_by.nd rfl (Or.inl rfl)) (pgs_cons (pg_name (i := 5) sc_play_by.nd rfl (Or.inl rfl)) pgs_nil))))))
      (pss_cons (ps_if (PW.pt (pw_or (pt_not (pt_val (pe_call Gis_whole (hr.mono (by first | decide | omega)) (by rfl) T.gis_whole T.Fis_whole.kp T.bis_whole .nil pass0 (pa_cons (pv 1) pa_nil)))) (pw_or1 (pt_not (pt_chain op_le op_lt pe_int (pv 1) (pe_call Gplays_of (hr.mono (by first | decide | omega)) (by rfl) T.gplays_of T.Fplays_of.kp T.bplays_of .nil pass0 (pa_cons (pv 0) (pa_cons (pv 3) (pa_cons (pv 4) (pa_cons (pv 2) pa_nil)))))))))) (pss_one (ps_raise rfl (takes_of rfl rfl rfl rfl) (pmk_own PySem.F.excBase_ValueError T.xBadNumber T.gBadNumber T.kBadNumber (raises_own T.BBadNumber T.tBadNumber) rfl))) pss_nil)
      (pss_cons (ps_while (passes_of rfl) (pt_cmpR op_lt (pv 3) (pv 4) (nomark _))
      (pss_one (ps_for (passes_of rfl) rfl (pi_list (pe_call Gbest_of (hr.mono (by first | decide | omega)) (by rfl) T.gbest_of T.Fbest_of.kp T.bbest_of .nil pass0 (pa_cons (pv 0) (pa_cons (pv 3) (pa_cons (pv 4) (pa_cons (pv 2) pa_nil)))))) (pg_name (i := 6) sc_play_by.nd rfl (Or.inl rfl))
      (pss_cons (ps_asg (pe_call Gafter (hr.mono (by first | decide | omega)) (by rfl) T.gafter T.Fafter.kp T.bafter .nil pass0 (pa_cons (pv 0) (pa_cons (pv 3) (pa_cons (pv 4) (pa_cons (pv 6) pa_nil))))) (pg_tup rfl (pgs_cons (pg_name (i := 7) sc_play_by.nd rfl (Or.inl rfl)) (pgs_cons (pg_name (i := 8) sc_play_by.nd rfl (Or.inl rfl)) (pgs_cons (pg_name (i := 9) sc_play_by.nd rfl (Or.inl rfl)) pgs_nil)))))
      (pss_cons (ps_set (i := 10) sc_play_by.nd rfl (Or.inl rfl) (pe_call Gplays_of (hr.mono (by first | decide | omega)) (by rfl) T.gplays_of T.Fplays_of.kp T.bplays_of .nil pass0 (pa_cons (pv 0) (pa_cons (pv 8) (pa_cons (pv 9) (pa_cons (pv 2) pa_nil))))))
      (pss_cons (ps_if (pt_chain op_le op_lt pe_int (pv 1) (pv 10)) (pss_cons (ps_expr (pe_bm PySem.F.plainAttrs_list PySem.F.slot_list_append PySem.F.type_list_append mt_append (pv 5) (pa_cons (pv 6) pa_nil)))
      (pss_cons (ps_par (i := 3) (j := 4) rfl sc_play_by.nd rfl rfl (by decide) rfl rfl (pa_cons (pv 8) (pa_cons (pv 9) pa_nil)) (by rfl))
      (pss_one ps_break))) pss_nil)
      (pss_one (ps_aug (i := 1) sc_play_by.nd rfl (Or.inl rfl) (pv 10) ip_sub))))))))
      (pss_one (ps_ret (pv 5))))))), ?_⟩
    refine ⟨_, rfl, ?_⟩
    rcases h with ⟨hn, q⟩ | ⟨ns, hrow, h⟩
    · exact ⟨x, rfl, .inr ⟨hn, q⟩⟩
    refine ⟨x, rfl, .inl ⟨ns, hrow, fun H1 s1 => ?_⟩⟩
    obtain ⟨r, rfl, hS, hok⟩ := hrow
    have hS1 := s1.seq hS
    have h12 := hok.1
    have el : (ns.map V.int).length = ns.length := List.length_map _
    -- known, low, behind, found = {}, 0, len(row), []
    refine fun d nd => ?_
    have s2 := same_new nd (.dT [])
    refine ⟨_, rfl, r, _, rfl, .inl (s2.seq hS1), Nat.zero_le _, fun f nf => ?_⟩
    have s3 := s2.trans (same_new nf (.lst []))
    have hd3 := same_new nf (.lst []) _ _ (upd_same (H := H1) (a := d) (o := .dT []))
    have hf3 : (upd (upd H1 d (.dT [])) f (.lst [])) f = some (.lst []) := upd_same
    generalize hH3 : upd (upd H1 d (.dT [])) f (.lst []) = H3 at s3 hd3 hf3
    have nfH : H1 f = none := s2.free nf
    refine ⟨(by show 4 ≤ sizeLine; decide), fun p4 np4 => ?_⟩
    have s4 := same_new np4 (.tup [.ref d, .int 0, .int ((ns.map V.int).length : Int), .ref f])
    refine ⟨p4, _, rfl, SqT.of upd_same, rfl, _, _, rfl, _, _, rfl, _, _, rfl, _, _, rfl, rfl, ?_⟩
    have hd4 := s4 _ _ hd3
    have hf4 := s4 _ _ hf3
    have s14 := s3.trans s4
    generalize hH4 : upd H3 p4 (.tup [.ref d, .int 0, .int ((ns.map V.int).length : Int), .ref f]) = H4 at s4 hd4 hf4 s14
    have nfd : f ≠ d := ne_of hf4 hd4 (by intro z; cases z)
    -- the number
    have h' : (∃ ty, PV K H t ty ∧ (ty == "int") = false ∧ ∀ H', Same H H' → E (.ref A.C_BadNumber) none H') ∨ ∃ k : Int, t = .int k ∧
        (¬ (0 ≤ k ∧ k < many ns ns.length 0) → ∀ H', Same H H' → E (.ref A.C_BadNumber) none H') ∧ (0 ≤ k → k < many ns ns.length 0 → ∃ pl, (plays ns ns.length 0)[k.toNat]? = some pl ∧ ∀ H' p, Same H H' → H p = none → H' p = some (.lst (sidesV pl)) → Q (.ref p) H') := by
      rcases h with ⟨hn, q⟩ | ⟨k, pl, ex, hp, q⟩
      · rcases hn with ⟨ty, hp, e⟩ | ⟨k, ex, hb⟩
        · exact .inl ⟨ty, hp, e, q⟩
        · exact .inr ⟨k, ex, fun _ => q, fun h1 h2 => absurd ⟨h1, h2⟩ hb⟩
      · have hlt := (List.getElem?_eq_some_iff.mp hp).1
        refine .inr ⟨(k : Int), ex, fun h => absurd ⟨by omega, by unfold many; omega⟩ h, fun _ _ => ⟨pl, ?_, q⟩⟩
        rw [Int.toNat_natCast]
        exact hp
    rcases h' with ⟨ty, hp, e, q⟩ | ⟨k, rfl, hbad, hgood⟩
    · refine ⟨_, rfl, ?_⟩
      refine ⟨_, ty, rfl, hp.mono (s1.trans s14), _, rfl, ?_⟩
      rw [e]
      exact iteT (iteT (q H4 (s1.trans s14)))
    refine ⟨_, rfl, ?_⟩
    refine ⟨_, _, rfl, pv_int k, _, rfl, ?_⟩
    refine iteF ?_
    refine ⟨_, rfl, _, _, rfl, rfl, _, rfl, ?_⟩
    by_cases c0 : 0 ≤ k
    rotate_left
    · refine iteFb (decide_eq_false c0) ?_
      exact ⟨_, rfl, iteT (hbad (fun z => c0 z.1) H4 (s1.trans s14))⟩
    refine iteTb (decide_eq_true c0) ?_
    refine ⟨_, rfl, _, rfl, _, rfl, _, rfl, ?_⟩
    refine ⟨r, d, ns, 0, ns.length, _, _, [], rfl, rfl, by rw [el]; omega, s14.seq hS1, hd4, Known.nil _, h12, by omega, by omega, fun H5 kvs5 s5 hd5 hk5 => ?_⟩
    have hf5 := s5 _ _ nfd hf4
    have s15 : Same H1 H5 := fun b o e => s5 b o (ne_of_none e nd) (s14 b o e)
    refine ⟨_, _, rfl, rfl, _, rfl, ?_⟩
    by_cases c1 : k < many ns ns.length 0
    rotate_left
    · rw [decide_eq_false c1]
      exact iteT (hbad (fun z => c1 z.2) H5 (s1.trans s15))
    rw [decide_eq_true c1]
    refine iteF ?_
    obtain ⟨pl, hpl, q⟩ := hgood c0 c1
    -- while low < behind
    refine ⟨fun n σ H6 => ∃ (low k : Nat) (acc rest : List Bool) (kvs6 : List (List Key × V)) (x6 x7 x8 x9 x10 : Option V), σ = [some (.ref r), some (.int (k : Int)), some (.ref d), some (.int (low : Int)), some (.int ((low + n : Nat) : Int)), some (.ref f), x6, x7, x8, x9, x10] ∧
      Same H1 H6 ∧ H6 d = some (.dT kvs6) ∧ Known ns kvs6 ∧ H6 f = some (.lst (sidesV acc)) ∧ low + n ≤ ns.length ∧ acc.length + n = ns.length ∧ (plays ns n low)[k]? = some rest ∧ acc ++ rest = pl, ?_, ?_⟩
    · refine ⟨ns.length, 0, k.toNat, [], pl, kvs5, none, none, none, none, none, ?_, s15, hd5, hk5, hf5, by omega, by simp, hpl, rfl⟩
      rw [Int.toNat_of_nonneg c0, el, Nat.zero_add]
      rfl
    · rintro n σ H6 ⟨low, k, acc, rest, kvs6, x6, x7, x8, x9, x10, rfl, s6, hd6, hk6, hf6, hn, hl, hrest, hacc⟩
      refine ⟨_, rfl, _, rfl, _, _, rfl, rfl, _, rfl, ?_⟩
      cases n with
      | zero =>
        refine iteFb (decide_eq_false (by omega)) ?_
        refine ⟨_, rfl, ?_⟩
        rw [plays_zero] at hrest
        have e : rest = [] := by
          cases k with
          | zero => exact (Option.some.inj hrest).symm
          | succ k => simp at hrest
        subst e
        rw [List.append_nil] at hacc
        subst hacc
        exact q H6 f (s1.trans s6) (s1.free nfH) hf6
      | succ m =>
        refine iteTb (decide_eq_true (by omega)) ?_
        refine ⟨fun σ' H' => ∃ (low k : Nat) (acc rest : List Bool) (kvs6 : List (List Key × V)) (x6 x7 x8 x9 x10 : Option V), σ' = [some (.ref r), some (.int (k : Int)), some (.ref d), some (.int (low : Int)), some (.int ((low + m : Nat) : Int)), some (.ref f), x6, x7, x8, x9, x10] ∧
          Same H1 H' ∧ H' d = some (.dT kvs6) ∧ Known ns kvs6 ∧ H' f = some (.lst (sidesV acc)) ∧ low + m ≤ ns.length ∧ acc.length + m = ns.length ∧ (plays ns m low)[k]? = some rest ∧ acc ++ rest = pl, fun σ' H' h => ⟨m, Nat.lt_succ_self m, h⟩, ?_⟩
        -- for side in best_of(row, low, behind, known)
        refine ⟨_, rfl, _, rfl, _, rfl, _, rfl, ?_⟩
        refine ⟨r, d, ns, low, m, _, _, kvs6, rfl, rfl, rfl, s6.seq hS1, hd6, hk6, h12, hn, fun H7 kvs7 p s7 hd7 hk7 np hp => ?_⟩
        have hpd : p ≠ d := ne_of hp hd7 (by intro z; cases z)
        have hpf : p ≠ f := (ne_of_none hf6 np).symm
        have hf7 := s7 _ _ nfd hf6
        have s17 : Same H1 H7 := fun b o e => s7 b o (ne_of_none e nd) (s6 b o e)
        rw [plays_succ] at hrest
        refine ⟨p, rfl, ⟨_, SqL.of hp⟩, ?_⟩
        refine for_list (K := K) (a := p) (xs := sidesV (ends ns (m + 1) low)) (fun t σ H8 => ∃ (k : Nat) (kvs8 : List (List Key × V)) (x6 x7 x8 x9 x10 : Option V), σ = [some (.ref r), some (.int (k : Int)), some (.ref d), some (.int (low : Int)), some (.int ((low + (m + 1) : Nat) : Int)), some (.ref f), x6, x7, x8, x9, x10] ∧
          Same H1 H8 ∧ H8 d = some (.dT kvs8) ∧ Known ns kvs8 ∧ H8 f = some (.lst (sidesV acc)) ∧ H8 p = some (.lst (sidesV (ends ns (m + 1) low))) ∧ (((ends ns (m + 1) low).drop t).flatMap fun b => (plays ns m (lowOf b low)).map fun p => b :: p)[k]? = some rest) ⟨k, kvs7, x6, x7, x8, x9, x10, rfl, s17, hd7, hk7, hf7, hp, hrest⟩ ?_ ?_ ?_
        · rintro t σ H8 _ ⟨k, kvs8, x6, x7, x8, x9, x10, rfl, s8, hd8, hk8, hf8, hp8, hr8⟩
          exact SqL.of hp8
        · rintro t y σ H8 hi ⟨k, kvs8, x6, x7, x8, x9, x10, rfl, s8, hd8, hk8, hf8, hp8, hr8⟩
          have hlt : t < (ends ns (m + 1) low).length := by
            have := (List.getElem?_eq_some_iff.mp hi).1
            rw [sidesV_len] at this
            exact this
          have hy : y = V.str (sideS (ends ns (m + 1) low)[t]) := by
            unfold sidesV at hi
            rw [List.getElem?_map, List.getElem?_eq_getElem hlt] at hi
            exact (Option.some.inj hi).symm
          subst hy
          rw [List.drop_eq_getElem_cons hlt, List.flatMap_cons] at hr8
          generalize (ends ns (m + 1) low)[t] = b at hr8
          have hS8 := s8.seq hS1
          refine ⟨_, rfl, _, rfl, _, rfl, _, rfl, ?_⟩
          refine ⟨r, ns, low, m, _, _, b, rfl, rfl, rfl, hS8, hn, fun p2 np2 => ?_⟩
          have s9 := same_new np2 (.tup [.int (coinOf ns b low m), .int (lowOf b low : Nat), .int ((lowOf b low + m : Nat) : Int)])
          refine ⟨p2, _, rfl, SqT.of upd_same, rfl, _, _, rfl, _, _, rfl, _, _, rfl, rfl, ?_⟩
          have hd9 := s9 _ _ hd8
          -- many = plays_of(row, left, right, known)
          refine ⟨_, rfl, _, rfl, _, rfl, _, rfl, ?_⟩
          refine ⟨r, d, ns, lowOf b low, m, _, _, kvs8, rfl, rfl, rfl, s9.seq hS8, hd9, hk8, h12, by have := lowOf_le b low m; omega, by omega, fun H10 kvs10 s10 hd10 hk10 => ?_⟩
          have hf10 := s10 _ _ nfd (s9 _ _ hf8)
          have hp10 := s10 _ _ hpd (s9 _ _ hp8)
          have s1a : Same H1 H10 := fun b o e => s10 b o (ne_of_none e nd) (s9 b o (s8 b o e))
          -- if 0 <= number < many
          refine ⟨_, rfl, _, _, rfl, rfl, _, rfl, ?_⟩
          refine iteTb (decide_eq_true (by omega)) ?_
          refine ⟨_, rfl, _, _, rfl, rfl, _, rfl, ?_⟩
          by_cases c : k < (plays ns m (lowOf b low)).length
          · refine iteTb (decide_eq_true (by unfold many; omega)) ?_
            rw [List.getElem?_append_left (by rw [List.length_map]; exact c), List.getElem?_map] at hr8
            obtain ⟨rest', hr', rfl⟩ := Option.map_eq_some_iff.mp hr8
            -- found.append(side)
            refine ⟨_, rfl, .inl ⟨rfl, _, SqL.of hf10⟩, _, rfl, f, _, _, rfl, rfl, hf10, by rw [sidesV_len]; exact size_lt (by omega), ?_⟩
            -- low, behind = left, right
            refine ⟨_, rfl, _, rfl, _, _, rfl, ?_⟩
            refine ⟨lowOf b low, k, acc ++ [b], rest', kvs10, _, _, _, _, _, rfl, fun b o e => ?_, ?_, hk10, ?_, by have := lowOf_le b low m; omega, by rw [List.length_append]; show acc.length + 1 + m = _; omega, hr', by rw [List.append_assoc]; exact hacc⟩
            · rw [upd_ne (ne_of_none e nfH)]
              exact s1a b o e
            · rw [upd_ne nfd.symm]
              exact hd10
            · rw [upd_same]
              unfold sidesV
              rw [List.map_append]
              rfl
          · refine iteFb (decide_eq_false (by unfold many; omega)) ?_
            rw [List.getElem?_append_right (by rw [List.length_map]; omega), List.length_map] at hr8
            -- number -= many
            refine ⟨_, rfl, _, rfl, _, _, rfl, rfl, ?_⟩
            refine ⟨k - (plays ns m (lowOf b low)).length, kvs10, some (.str (sideS b)), some (.int (coinOf ns b low m)), some (.int (lowOf b low : Nat)), some (.int ((lowOf b low + m : Nat) : Int)), some (.int (many ns m (lowOf b low))), ?_, s1a, hd10, hk10, hf10, hp10, hr8⟩
            have ek : ((k - (plays ns m (lowOf b low)).length : Nat) : Int) = (k : Int) - many ns m (lowOf b low) := by
              unfold many
              omega
            rw [ek]
            rfl
        · rintro σ H8 ⟨k, kvs8, x6, x7, x8, x9, x10, rfl, s8, hd8, hk8, hf8, hp8, hr8⟩
          rw [sidesV_len, List.drop_length] at hr8
          simp at hr8
end
end K08
namespace K08
open PySem PySem.Spec PyProof.Rows L2 RE
section
variable {P : Program} {w : World} {K : PySem.W.Frag} {mg : Str → Option Value} {base : Heap} {A : Ad}
theorem ok_table_of (T : Tx K mg A) : FnOk P w K mg base CX0 2 A.f_table_of A.d_table_of ["row", "plan"] (spTable K) := by
  have Gis_side : FnOk P w K mg base CX0 1 A.f_is_side A.d_is_side ["thing"] (spSide K) := ok_is_side T
  refine T.Ftable_of.ok sc_table_of (fun vs H Q E h => ?_) (fun cdv A' outer s H vs Q E hr h => ?_)
  · obtain ⟨a, l, ns, xs, p, rfl, _⟩ := h
    rfl
  · obtain ⟨a, l, ns, xs, p, rfl, hS, hl, hp, h1000, qbad, qgood⟩ := h
    refine ⟨_, (pss_cons (ps_par (i := 2) (j := 3) rfl sc_table_of.nd rfl rfl (by decide) rfl rfl (pa_cons pe_dnewT (pa_cons pe_non pa_nil)) (by rfl))
      (pss_cons (ps_for PassesOwn.never rfl (pi_list (pv 1)) (pg_tup rfl (pgs_cons (pg_name (i := 4) sc_table_of.nd rfl (Or.inl rfl)) (pgs_cons (pg_name (i := 5) sc_table_of.nd rfl (Or.inl rfl)) (pgs_cons (pg_name (i := 6) sc_table_of.nd rfl (Or.inl rfl)) pgs_nil))))
      (pss_cons (ps_if (PW.pt (pw_or (pt_not (pt_chain3 op_le op_lt op_le pe_int (pv 4) (pv 5) (pe_callB call_len_seq (by rfl) T.blen PySem.boot_len (pa_cons (pv 0) pa_nil)))) (pw_or (pt_not (pt_val (pe_call Gis_side (hr.mono (by first | decide | omega)) (by rfl) T.gis_side T.Fis_side.kp T.bis_side .nil pass0 (pa_cons (pv 6) pa_nil)))) (pw_or1 (PW.pt (pw_and (pt_cmpR op_notN (pv 3) pe_non (nomark _)) (pw_and1 (pt_cmpR (op_leT hr.units0) (pe_tup (pa_cons (pv 4) (pa_cons (pv 5) pa_nil))) (pv 3) (nomark _))))))))) (pss_one (ps_ret pe_non)) pss_nil)
      (pss_one (ps_asg (pe_tup (pa_cons (pv 6) (pa_cons (pe_tup (pa_cons (pv 4) (pa_cons (pv 5) pa_nil))) pa_nil))) (pg_tup rfl (pgs_cons (pg_sub (pv 2) (pe_tup (pa_cons (pv 4) (pa_cons (pv 5) pa_nil))) (set_dT (hu_of hr))) (pgs_cons (pg_name (i := 3) sc_table_of.nd rfl (Or.inl rfl)) pgs_nil)))))))
      (pss_one (ps_ret (pv 2))))), ?_⟩
    refine fun d nd => gen_heap nd fun H1 s1 hd => ⟨_, _, rfl, ?_⟩
    refine ⟨_, rfl, l, rfl, ⟨_, s1.seq hl⟩, ?_⟩
    refine for_list (K := K) (a := l) (xs := xs) (fun i σ H2 => ∃ (lst : Option (Int × Int)) (last : V) (kvs : List (List Key × V)) (x4 x5 x6 : Option V), σ = [some (.ref a), some (.ref l), some (.ref d), some last, x4, x5, x6] ∧
      Same H H2 ∧ H2 d = some (.dT kvs) ∧ Tab (p.take i) kvs ∧ (lst = none → last = .non) ∧ (∀ u, lst = some u → ∃ q, last = .ref q ∧ H2 q = some (.tup [.int u.1, .int u.2])) ∧ tabOk ns.length none p = tabOk ns.length lst (p.drop i)) ?_ ?_ ?_ ?_
    · exact ⟨none, .non, [], none, none, none, rfl, s1, hd, Tab.nil, fun _ => rfl, fun u e => (nomatch e), rfl⟩
    · rintro i σ H2 _ ⟨lst, last, kvs, x4, x5, x6, rfl, s2, _⟩
      exact s2.seq hl
    · rintro i y σ H2 hi ⟨lst, last, kvs, x4, x5, x6, rfl, s2, hd2, hT, hn0, hn1, htab⟩
      obtain ⟨qt, t, rfl, ht, hqt⟩ := hp.getX hi
      have hlt : i < p.length := (List.getElem?_eq_some_iff.mp ht).1
      have hdrop : p.drop i = t :: p.drop (i + 1) := by
        rw [List.drop_eq_getElem_cons hlt]
        congr 1
        rw [List.getElem?_eq_getElem hlt] at ht
        exact Option.some.inj ht
      rw [hdrop, tabOk_cons] at htab
      have hqt2 := s2 _ _ hqt
      have hS2 := s2.seq hS
      refine ⟨qt, _, rfl, SqT.of hqt2, rfl, _, _, rfl, _, _, rfl, _, _, rfl, rfl, ?_⟩
      have bad : triOk ns.length t = false → ∀ H', Same H H' → Q .non H' := fun h => qbad (by rw [htab, h]; rfl)
      -- not 0 <= low < behind <= len(row)
      refine ⟨_, rfl, _, _, rfl, rfl, _, rfl, ?_⟩
      by_cases c1 : 0 ≤ t.1
      rotate_left
      · refine iteFb (decide_eq_false c1) ⟨_, rfl, iteT (iteT (bad ?_ H2 s2))⟩
        unfold triOk
        rw [decide_eq_false c1]
        rfl
      refine iteTb (decide_eq_true c1) ?_
      refine ⟨_, rfl, _, _, rfl, rfl, _, rfl, ?_⟩
      by_cases c2 : t.1 < t.2.1
      rotate_left
      · refine iteFb (decide_eq_false c2) ⟨_, rfl, iteT (iteT (bad ?_ H2 s2))⟩
        unfold triOk
        rw [decide_eq_true c1, decide_eq_false c2]
        rfl
      refine iteTb (decide_eq_true c2) ?_
      refine ⟨_, rfl, a, _, rfl, .inl hS2, _, _, rfl, rfl, _, rfl, ?_⟩
      have el : ((ns.map V.int).length : Int) = (ns.length : Int) := by rw [List.length_map]
      by_cases c3 : t.2.1 ≤ (ns.length : Int)
      rotate_left
      · refine iteTb (congrArg Bool.not (decide_eq_false (by rw [el]; exact c3))) (iteT (bad ?_ H2 s2))
        unfold triOk
        rw [decide_eq_true c1, decide_eq_true c2, decide_eq_false c3]
        rfl
      refine iteFb (congrArg Bool.not (decide_eq_true (by rw [el]; exact c3))) ?_
      -- not is_side(side)
      refine ⟨_, rfl, ?_⟩
      refine ⟨_, _, rfl, pv_str _, fun H3 s3 => ⟨_, rfl, ?_⟩⟩
      have s03 := s2.trans s3
      have eside : isSideB (.str t.2.2) = sideOk t.2.2 := rfl
      rw [eside]
      cases c4 : sideOk t.2.2 with
      | false =>
        refine iteT (iteT (bad ?_ H3 s03))
        unfold triOk
        rw [decide_eq_true c1, decide_eq_true c2, decide_eq_true c3, c4]
        rfl
      | true =>
        refine iteF ?_
        have hok : triOk ns.length t = true := by
          unfold triOk
          rw [decide_eq_true c1, decide_eq_true c2, decide_eq_true c3, c4]
          rfl
        rw [hok, Bool.true_and] at htab
        have hd3 := s3 _ _ hd2
        -- the rest of a good turn
        have fin : ∀ H4, Same H3 H4 → lastBad t lst = false → ∀ q3, H4 q3 = none → ∀ H5, Same H4 H5 → H5 q3 = some (.tup [.int t.1, .int t.2.1]) → ∀ H8, SameBut d H5 H8 → H8 d = some (.dT (putK kvs [Sum.inl t.1, Sum.inl t.2.1] (.str t.2.2))) →
            ∃ (lst : Option (Int × Int)) (last : V) (kvs : List (List Key × V)) (x4 x5 x6 : Option V), [some (V.ref a), some (V.ref l), some (V.ref d), some (V.ref q3), some (V.int t.1), some (V.int t.2.1), some (V.str t.2.2)] = [some (.ref a), some (.ref l), some (.ref d), some last, x4, x5, x6] ∧
              Same H H8 ∧ H8 d = some (.dT kvs) ∧ Tab (p.take (i + 1)) kvs ∧ (lst = none → last = .non) ∧ (∀ u, lst = some u → ∃ q, last = .ref q ∧ H8 q = some (.tup [.int u.1, .int u.2])) ∧ tabOk ns.length none p = tabOk ns.length lst (p.drop (i + 1)) := by
          intro H4 s4 hbad q3 nq3 H5 s5 hq3 H8 s8 hd8
          have hd4 := s4 _ _ hd3
          have ne3 : q3 ≠ d := (ne_of_none hd4 nq3).symm
          refine ⟨some (t.1, t.2.1), .ref q3, _, _, _, _, rfl, fun b o e => ?_, hd8, ?_, fun z => (nomatch z), ?_, ?_⟩
          · exact s8 _ _ (ne_of_none e nd) (s5 _ _ (s4 _ _ (s03 _ _ e)))
          · rw [List.take_add_one, ht]
            exact hT.put t
          · intro u e
            cases e
            exact ⟨q3, rfl, s8 _ _ ne3 hq3⟩
          · rw [htab, hbad]
            rfl
        -- last is not None and (low, behind) <= last
        refine ⟨_, rfl, rfl, _, rfl, ?_⟩
        have hl3 : kvs.length < sizeLine := by
          have h1 := hT.len
          rw [List.length_take] at h1
          exact size_lt (by omega)
        cases lst with
        | none =>
          have e := hn0 rfl
          subst e
          refine iteF (iteF ?_)
          refine ⟨_, rfl, _, rfl, _, rfl, (by show 2 ≤ sizeLine; decide), fun q3 nq3 => gen_heap nq3 fun H5 s5 hq3 => ⟨(by show 2 ≤ sizeLine; decide), fun q4 nq4 => gen_heap nq4 fun H6 s6 hq4 => ?_⟩⟩
          refine ⟨q4, _, rfl, SqT.of hq4, rfl, _, _, rfl, _, rfl, _, rfl, _, rfl, (by show 2 ≤ sizeLine; decide), fun q5 nq5 => gen_heap nq5 fun H7 s7 hq5 => ?_⟩
          have hd7 := s7 _ _ (s6 _ _ (s5 _ _ hd3))
          refine ⟨d, _, rfl, DPut.t (k := [Sum.inl t.1, Sum.inl t.2.1]) hd7 hq5 hl3, gen_put hd7 fun H8 s8 hd8 => ?_⟩
          refine ⟨_, _, rfl, rfl, ?_⟩
          exact fin H3 (Same.refl _) rfl q3 nq3 H7 (s5.trans (s6.trans s7)) (s7 _ _ (s6 _ _ hq3)) H8 s8 hd8
        | some u =>
          obtain ⟨qu, rfl, hqu⟩ := hn1 u rfl
          refine iteT ?_
          refine ⟨_, rfl, _, rfl, (by show 2 ≤ sizeLine; decide), fun q2 nq2 => gen_heap nq2 fun H4 s4 hq2 => ⟨_, rfl, ?_⟩⟩
          refine ⟨q2, qu, [t.1, t.2.1], [u.1, u.2], rfl, rfl, SqT.of hq2, SqT.of (s4 _ _ (s3 _ _ hqu)), _, rfl, ?_⟩
          rw [lex2]
          have elb : lastBad t (some u) = (if t.1 = u.1 then decide (t.2.1 ≤ u.2) else decide (t.1 ≤ u.1)) := rfl
          rw [← elb]
          cases c5 : lastBad t (some u) with
          | true =>
            refine iteT (qbad ?_ H4 (s03.trans s4))
            rw [htab, c5]
            rfl
          | false =>
            refine iteF ?_
            refine ⟨_, rfl, _, rfl, _, rfl, (by show 2 ≤ sizeLine; decide), fun q3 nq3 => gen_heap nq3 fun H5 s5 hq3 => ⟨(by show 2 ≤ sizeLine; decide), fun q4 nq4 => gen_heap nq4 fun H6 s6 hq4 => ?_⟩⟩
            refine ⟨q4, _, rfl, SqT.of hq4, rfl, _, _, rfl, _, rfl, _, rfl, _, rfl, (by show 2 ≤ sizeLine; decide), fun q5 nq5 => gen_heap nq5 fun H7 s7 hq5 => ?_⟩
            have hd7 := s7 _ _ (s6 _ _ (s5 _ _ (s4 _ _ hd3)))
            refine ⟨d, _, rfl, DPut.t (k := [Sum.inl t.1, Sum.inl t.2.1]) hd7 hq5 hl3, gen_put hd7 fun H8 s8 hd8 => ?_⟩
            refine ⟨_, _, rfl, rfl, ?_⟩
            exact fin H4 s4 c5 q3 nq3 H7 (s5.trans (s6.trans s7)) (s7 _ _ (s6 _ _ hq3)) H8 s8 hd8
    · rintro σ H2 ⟨lst, last, kvs, x4, x5, x6, rfl, s2, hd2, hT, hn0, hn1, htab⟩
      rw [hp.len] at hT htab
      rw [List.take_length] at hT
      rw [List.drop_length, tabOk_nil] at htab
      exact ⟨_, rfl, qgood htab H2 d kvs s2 nd hd2 hT⟩
theorem step_got (T : Tx K mg A) {n : Nat} (Ggot : FnOk P w K mg base CX0 (n + 1) A.f_got A.d_got ["row", "low", "behind", "table", "mine"] (spGot K n)) :
    FnOk P w K mg base CX0 (n + 1 + 1) A.f_got A.d_got ["row", "low", "behind", "table", "mine"] (spGot K (n + 1)) := by
  have Gafter : FnOk P w K mg base CX0 1 A.f_after A.d_after ["row", "low", "behind", "side"] (spAfter K) := ok_after T
  refine T.Fgot.ok sc_got (fun vs H Q E h => ?_) (fun cdv A' outer s H vs Q E hr h => ?_)
  · obtain ⟨a, d, ns, p, low, m, i, j, kvs, mine, rfl, _⟩ := h
    rfl
  · obtain ⟨a, d, ns, p, low, m, i, j, kvs, mine, rfl, ei, ej, hS, hd, hT, hok, hm, hn, q⟩ := h
    refine ⟨_, (pss_cons (ps_if (pt_cmpR op_eq (pv 1) (pv 2) (nomark _)) (pss_one (ps_ret pe_int)) pss_nil)
      (pss_cons (ps_set (i := 5) sc_got.nd rfl (Or.inl rfl) (pe_tup (pa_cons (pe_glob (v := .str "left") (by rfl) T.gLEFT ⟨_, rfl⟩) (pa_cons (pe_glob (v := .str "right") (by rfl) T.gRIGHT ⟨_, rfl⟩) pa_nil))))
      (pss_mid (ps_if (pt_val (pv 4)) (pss_cons (ps_if (pt_cmp (pc_dnotin (hu_of hr) (pe_tup (pa_cons (pv 1) (pa_cons (pv 2) pa_nil))) (pv 3))) (pss_one (ps_ret pe_non)) pss_nil)
      (pss_one (ps_set (i := 5) sc_got.nd rfl (Or.inl rfl) (pe_tup (pa_cons (pe_dget (hu_of hr) (pv 3) (pe_tup (pa_cons (pv 1) (pa_cons (pv 2) pa_nil))) (fun _ _ => rfl)) pa_nil))))) pss_nil)
      (pss_cons (ps_set (i := 6) sc_got.nd rfl (Or.inl rfl) pe_non)
      (pss_cons (ps_for PassesOwn.never rfl (pi_tup (pv 5)) (pg_name (i := 7) sc_got.nd rfl (Or.inl rfl))
      (pss_cons (ps_asg (pe_call Gafter (hr.mono (by first | decide | omega)) (by rfl) T.gafter T.Fafter.kp T.bafter .nil pass0 (pa_cons (pv 0) (pa_cons (pv 1) (pa_cons (pv 2) (pa_cons (pv 7) pa_nil))))) (pg_tup rfl (pgs_cons (pg_name (i := 8) sc_got.nd rfl (Or.inl rfl)) (pgs_cons (pg_name (i := 9) sc_got.nd rfl (Or.inl rfl)) (pgs_cons (pg_name (i := 10) sc_got.nd rfl (Or.inl rfl)) pgs_nil)))))
      (pss_cons (ps_set (i := 11) sc_got.nd rfl (Or.inl rfl) (pe_call Ggot (hr.mono (by first | decide | omega)) (by rfl) T.ggot T.Fgot.kp T.bgot .nil pass0 (pa_cons (pv 0) (pa_cons (pv 9) (pa_cons (pv 10) (pa_cons (pv 3) (pa_cons (pe_not (pv 4)) pa_nil)))))))
      (pss_cons (ps_if (pt_cmpR op_isN (pv 11) pe_non (nomark _)) (pss_one (ps_ret pe_non)) pss_nil)
      (pss_cons (ps_set (i := 12) sc_got.nd rfl (Or.inl rfl) (pe_op op_add (pv 11) (pe_ifExp (pt_val (pv 4)) (pv 8) (pe_un un_neg (pv 8)))))
      (pss_one (ps_set (i := 6) sc_got.nd rfl (Or.inl rfl) (pe_ifExp (PW.pt (pw_or (pt_cmpR op_isN (pv 6) pe_non (nomark _)) (pw_or1 (pt_cmpR op_lt (pv 12) (pv 6) (nomark _))))) (pv 12) (pv 6)))))))))
      (pss_one (ps_ret (pv 6)))))))), ?_⟩
    refine ⟨_, rfl, _, rfl, rfl, _, rfl, ?_⟩
    cases m with
    | zero =>
      refine iteTb (decide_eq_true (congrArg V.int (by omega))) ?_
      exact q H (Same.refl H)
    | succ m =>
      refine iteFb (decide_eq_false (fun z => by have z' : i = j := V.int.inj z; omega)) ?_
      have key : [V.int i, V.int j] = ([Sum.inl i, Sum.inl j] : List Key).map kV := rfl
      have elook : tabF p low (low + (m + 1)) = (look p i j).map sideB := by
        unfold tabF
        rw [← ei, ← ej]
      -- sides = (LEFT, RIGHT)
      refine ⟨(by show 2 ≤ sizeLine; decide), fun t0 nt0 => gen_heap nt0 fun H1 s1 ht0 => ?_⟩
      -- if mine
      refine ⟨fun σ' H' => ∃ (t : Addr) (bs : List Bool), σ' = [some (.ref a), some (.int i), some (.int j), some (.ref d), some (.bl mine), some (.ref t), none, none, none, none, none, none, none] ∧ Same H H' ∧ H' t = some (.tup (sidesV bs)) ∧ gotV ns (tabF p) (m + 1) low mine = cont ns (tabF p) m low mine bs none, ?_, ?_⟩
      · refine ⟨_, rfl, _, rfl, ?_⟩
        cases mine with
        | false =>
          refine iteF ?_
          exact ⟨t0, [true, false], rfl, s1, ht0, cont_his.symm⟩
        | true =>
          refine iteT ?_
          refine ⟨_, rfl, _, rfl, (by show 2 ≤ sizeLine; decide), fun p1 np1 => gen_heap np1 fun H2 s2 hp1 => ?_⟩
          have hd2 := s2 _ _ (s1 _ _ hd)
          refine ⟨_, rfl, d, _, rfl, DGet.t (k := [Sum.inl i, Sum.inl j]) hd2 hp1, _, rfl, ?_⟩
          have ev := hT.val i j
          cases el : look p i j with
          | none =>
            rw [el] at ev elook
            rw [ev]
            refine iteT ?_
            have q' := q H2 (s1.trans s2)
            rw [gotV_mine, elook] at q'
            exact q'
          | some sd =>
            rw [el] at ev elook
            have hsd : sideOk sd = true := hok _ (look_mem el)
            rw [ev]
            refine iteF ?_
            refine ⟨_, rfl, _, rfl, _, rfl, (by show 2 ≤ sizeLine; decide), fun p2 np2 => gen_heap np2 fun H3 s3 hp2 => ?_⟩
            have hd3 := s3 _ _ hd2
            have g := DGet.t (k := [Sum.inl i, Sum.inl j]) (b := p2) hd3 hp2
            rw [ev] at g
            refine ⟨d, .str sd, rfl, g, (by show 1 ≤ sizeLine; decide), fun t1 nt1 => gen_heap nt1 fun H4 s4 ht1 => ?_⟩
            refine ⟨t1, [sideB sd], rfl, s1.trans (s2.trans (s3.trans s4)), ?_, (cont_mine elook).symm⟩
            rw [ht1]
            show some (HO.tup [V.str sd]) = some (HO.tup [V.str (sideS (sideB sd))])
            rw [← side_of hsd]
      · rintro σ' H2 ⟨t, bs, rfl, s2, ht2, egot⟩
        -- for side in sides
        refine ⟨_, rfl, t, rfl, ⟨_, SqT.of ht2⟩, ?_⟩
        refine for_tup (K := K) (a := t) (xs := sidesV bs) (fun k σ H3 => ∃ (lv : Option Int) (x7 x8 x9 x10 x11 x12 : Option V), σ = [some (.ref a), some (.int i), some (.int j), some (.ref d), some (.bl mine), some (.ref t), some (optV lv), x7, x8, x9, x10, x11, x12] ∧ Same H2 H3 ∧ gotV ns (tabF p) (m + 1) low mine = cont ns (tabF p) m low mine (bs.drop k) lv) ⟨none, none, none, none, none, none, none, rfl, Same.refl _, egot⟩ ?_ ?_ ?_
        · rintro k σ H3 _ ⟨lv, x7, x8, x9, x10, x11, x12, rfl, s3, _⟩
          exact SqT.of (s3 _ _ ht2)
        · rintro k y σ H3 hi ⟨lv, x7, x8, x9, x10, x11, x12, rfl, s3, ec⟩
          have hlt : k < bs.length := by
            have := (List.getElem?_eq_some_iff.mp hi).1
            rw [sidesV_len] at this
            exact this
          have hy : y = V.str (sideS bs[k]) := by
            unfold sidesV at hi
            rw [List.getElem?_map, List.getElem?_eq_getElem hlt] at hi
            exact (Option.some.inj hi).symm
          subst hy
          rw [List.drop_eq_getElem_cons hlt] at ec
          generalize bs[k] = b at ec
          have s03 := s2.trans s3
          refine ⟨_, rfl, _, rfl, _, rfl, _, rfl, ?_⟩
          refine ⟨a, ns, low, m, _, _, b, rfl, ei, ej, s03.seq hS, hm, fun p2 np2 => gen_heap np2 fun H4 s4 hp2 => ?_⟩
          refine ⟨p2, _, rfl, SqT.of hp2, rfl, _, _, rfl, _, _, rfl, _, _, rfl, rfl, ?_⟩
          have s04 := s03.trans s4
          -- rest = got(row, left, right, table, not mine)
          refine ⟨_, rfl, _, rfl, _, rfl, _, rfl, _, rfl, _, rfl, ?_⟩
          refine ⟨a, d, ns, p, lowOf b low, m, _, _, kvs, !mine, rfl, rfl, rfl, s04.seq hS, s04 _ _ hd, hT, hok, by have := lowOf_le b low m; omega, by omega, fun H5 s5 => ?_⟩
          have s05 := s04.trans s5
          cases eg : gotV ns (tabF p) m (lowOf b low) (!mine) with
          | none =>
            refine ⟨_, rfl, rfl, _, rfl, iteT ?_⟩
            have q' := q H5 s05
            rw [ec, cont_none eg] at q'
            exact q'
          | some x =>
            rw [cont_some eg] at ec
            refine ⟨_, rfl, rfl, _, rfl, iteF ?_⟩
            -- here = rest + (coin if mine else -coin)
            refine ⟨_, rfl, _, rfl, _, rfl, ?_⟩
            have done : ∀ (z : Int), z = x + forMe mine (coinOf ns b low m) → ∀ (lv' : Int), lv' = minO lv (x + forMe mine (coinOf ns b low m)) →
                ∃ (lv : Option Int) (x7 x8 x9 x10 x11 x12 : Option V), [some (V.ref a), some (V.int i), some (V.int j), some (V.ref d), some (V.bl mine), some (V.ref t), some (V.int lv'), some (V.str (sideS b)), some (V.int (coinOf ns b low m)), some (V.int (lowOf b low : Nat)), some (V.int ((lowOf b low + m : Nat) : Int)), some (V.int x), some (V.int z)] = [some (.ref a), some (.int i), some (.int j), some (.ref d), some (.bl mine), some (.ref t), some (optV lv), x7, x8, x9, x10, x11, x12] ∧ Same H2 H5 ∧ gotV ns (tabF p) (m + 1) low mine = cont ns (tabF p) m low mine (bs.drop (k + 1)) lv := by
              rintro z rfl lv' rfl
              exact ⟨some _, _, _, _, _, _, _, rfl, s3.trans (s4.trans s5), ec⟩
            cases mine with
            | true =>
              refine iteT ⟨_, rfl, _, _, rfl, rfl, ?_⟩
              cases lv with
              | none => exact ⟨_, rfl, rfl, _, rfl, iteT (iteT ⟨_, rfl, done _ rfl _ rfl⟩)⟩
              | some l =>
                refine ⟨_, rfl, rfl, _, rfl, iteF ⟨_, rfl, _, rfl, _, _, rfl, rfl, _, rfl, ?_⟩⟩
                refine ite2 (fun c => ?_) (fun c => ?_)
                · have c' := of_decide_eq_true c
                  exact ⟨_, rfl, done _ rfl _ (if_pos c').symm⟩
                · have c' := of_decide_eq_false (Bool.eq_false_iff.mpr c)
                  exact ⟨_, rfl, done _ rfl _ (if_neg c').symm⟩
            | false =>
              refine iteF ⟨_, rfl, _, rfl, _, _, rfl, rfl, ?_⟩
              cases lv with
              | none => exact ⟨_, rfl, rfl, _, rfl, iteT (iteT ⟨_, rfl, done _ rfl _ rfl⟩)⟩
              | some l =>
                refine ⟨_, rfl, rfl, _, rfl, iteF ⟨_, rfl, _, rfl, _, _, rfl, rfl, _, rfl, ?_⟩⟩
                refine ite2 (fun c => ?_) (fun c => ?_)
                · have c' := of_decide_eq_true c
                  exact ⟨_, rfl, done _ rfl _ (if_pos c').symm⟩
                · have c' := of_decide_eq_false (Bool.eq_false_iff.mpr c)
                  exact ⟨_, rfl, done _ rfl _ (if_neg c').symm⟩
        · rintro σ H3 ⟨lv, x7, x8, x9, x10, x11, x12, rfl, s3, ec⟩
          rw [sidesV_len, List.drop_length, cont_nil] at ec
          refine ⟨_, rfl, ?_⟩
          have q' := q H3 (s2.trans s3)
          rw [ec] at q'
          exact q'
theorem got_all (T : Tx K mg A) : ∀ n : Nat, FnOk P w K mg base CX0 (n + 1) A.f_got A.d_got ["row", "low", "behind", "table", "mine"] (spGot K n)
  | 0 => by
    have no : ∀ vs H Q E, ¬ spGot K 0 vs H Q E := fun vs H Q E h => by
      obtain ⟨a, d, ns, p, low, m, i, j, kvs, mine, _, _, _, _, _, _, _, _, h0, _⟩ := h
      omega
    exact ⟨fun vs H Q E h => absurd h (no vs H Q E), fun A outer s H args us vs Q E _ _ _ _ h => absurd h (no vs H Q E)⟩
  | n + 1 => step_got T (got_all T n)
theorem ok_got (T : Tx K mg A) : FnOk P w K mg base CX0 14 A.f_got A.d_got ["row", "low", "behind", "table", "mine"] (spGot K 13) := got_all T 13
theorem ok_planned (T : Tx K mg A) : FnOk P w K mg base CX0 15 A.f_planned A.d_planned ["row", "plan", "mine"] (spPlanned K) := by
  have Ggot : FnOk P w K mg base CX0 14 A.f_got A.d_got ["row", "low", "behind", "table", "mine"] (spGot K 13) := ok_got T
  have Gtable_of : FnOk P w K mg base CX0 2 A.f_table_of A.d_table_of ["row", "plan"] (spTable K) := ok_table_of T
  refine T.Fplanned.ok sc_planned (fun vs H Q E h => ?_) (fun cdv A' outer s H vs Q E hr h => ?_)
  · obtain ⟨a, l, ns, xs, p, mine, rfl, _⟩ := h
    rfl
  · obtain ⟨a, l, ns, xs, p, mine, rfl, hS, hl, hp, h1000, h12, q⟩ := h
    refine ⟨_, (pss_cons (ps_set (i := 3) sc_planned.nd rfl (Or.inl rfl) (pe_call Gtable_of (hr.mono (by first | decide | omega)) (by rfl) T.gtable_of T.Ftable_of.kp T.btable_of .nil pass0 (pa_cons (pv 0) (pa_cons (pv 1) pa_nil))))
      (pss_one (ps_ret (pe_ifExp (pt_cmpR op_isN (pv 3) pe_non (nomark _)) pe_non (pe_call Ggot (hr.mono (by first | decide | omega)) (by rfl) T.ggot T.Fgot.kp T.bgot .nil pass0 (pa_cons (pv 0) (pa_cons pe_int (pa_cons (pe_callB call_len_seq (by rfl) T.blen PySem.boot_len (pa_cons (pv 0) pa_nil)) (pa_cons (pv 3) (pa_cons (pv 2) pa_nil)))))))))), ?_⟩
    refine ⟨_, rfl, _, rfl, ?_⟩
    refine ⟨a, l, ns, xs, p, rfl, hS, hl, hp, h1000, fun hb H1 s1 => ?_, fun hb H1 d kvs s1 nd hd hT => ?_⟩
    · refine ⟨_, rfl, rfl, _, rfl, iteT ?_⟩
      have q' := q H1 s1
      unfold plannedV at q'
      rw [hb] at q'
      exact q'
    · refine ⟨_, rfl, rfl, _, rfl, iteF ?_⟩
      have hS1 := s1.seq hS
      refine ⟨_, rfl, _, rfl, a, _, rfl, .inl hS1, _, rfl, _, rfl, ?_⟩
      refine ⟨a, d, ns, p, 0, ns.length, _, _, kvs, mine, rfl, rfl, by rw [List.length_map]; omega, hS1, hd, hT, fun t ht => triOk_side (tabOk_all hb t ht), by omega, by omega, fun H2 s2 => ?_⟩
      have q' := q H2 (s1.trans s2)
      unfold plannedV at q'
      rw [if_pos hb] at q'
      exact q'
end
end K08
namespace K08
open PySem PySem.Spec PyProof.Rows L2 RE
section
variable {P : Program} {w : World} {K : PySem.W.Frag} {mg : Str → Option Value} {base : Heap} {A : Ad}
theorem ok_Gets_init (T : Tx K mg A) : FnOk P w K mg base CX0 1 A.f_Gets_init A.d_Gets_init ["self", "plan"] (spInit K A.C_Gets) := by
  refine T.FGets_init.ok sc_Gets_init (fun vs H Q E h => ?_) (fun cdv A' outer s H vs Q E hr h => ?_)
  · obtain ⟨x, l, dx, xs, rfl, _⟩ := h
    rfl
  · obtain ⟨x, l, dx, xs, rfl, hx, hl, q⟩ := h
    refine ⟨_, (pss_one (ps_fld (pv 0) (pe_callTy call_list_of (by rfl) T.blist (by decide +kernel) (pa_cons (pv 1) pa_nil)) rfl)), ?_⟩
    refine ⟨_, rfl, l, _, rfl, .inl hl, fun m nm => gen_heap nm fun H1 s1 hm => ?_⟩
    have hx1 := s1 _ _ hx
    refine ⟨_, rfl, x, _, dx, [], rfl, hx1, T.clGets, T.npGets, (by show 0 < 1000; decide), gen_put hx1 fun H2 s2 hx2 => ?_⟩
    exact q H2 m ((SameBut.of s1).trans s2) nm hx2 (s2 _ _ (ne_of_none hx nm).symm hm)
theorem ok_Held_init (T : Tx K mg A) : FnOk P w K mg base CX0 1 A.f_Held_init A.d_Held_init ["self", "plan"] (spInit K A.C_Held) := by
  refine T.FHeld_init.ok sc_Held_init (fun vs H Q E h => ?_) (fun cdv A' outer s H vs Q E hr h => ?_)
  · obtain ⟨x, l, dx, xs, rfl, _⟩ := h
    rfl
  · obtain ⟨x, l, dx, xs, rfl, hx, hl, q⟩ := h
    refine ⟨_, (pss_one (ps_fld (pv 0) (pe_callTy call_list_of (by rfl) T.blist (by decide +kernel) (pa_cons (pv 1) pa_nil)) rfl)), ?_⟩
    refine ⟨_, rfl, l, _, rfl, .inl hl, fun m nm => gen_heap nm fun H1 s1 hm => ?_⟩
    have hx1 := s1 _ _ hx
    refine ⟨_, rfl, x, _, dx, [], rfl, hx1, T.clHeld, T.npHeld, (by show 0 < 1000; decide), gen_put hx1 fun H2 s2 hx2 => ?_⟩
    exact q H2 m ((SameBut.of s1).trans s2) nm hx2 (s2 _ _ (ne_of_none hx nm).symm hm)
theorem ok_Gets_shows (T : Tx K mg A) : FnOk P w K mg base CX0 16 A.f_Gets_shows A.d_Gets_shows ["self", "row", "least"] (spShows K A.C_Gets true) := by
  have Gplanned : FnOk P w K mg base CX0 15 A.f_planned A.d_planned ["row", "plan", "mine"] (spPlanned K) := ok_planned T
  refine T.FGets_shows.ok sc_Gets_shows (fun vs H Q E h => ?_) (fun cdv A' outer s H vs Q E hr h => ?_)
  · obtain ⟨x, a, l, dx, ns, xs, p, least, rfl, _⟩ := h
    rfl
  · obtain ⟨x, a, l, dx, ns, xs, p, least, rfl, hx, hS, hl, hp, h1000, h12, q⟩ := h
    refine ⟨_, (pss_cons (ps_set (i := 3) sc_Gets_shows.nd rfl (Or.inl rfl) (pe_call Gplanned (hr.mono (by first | decide | omega)) (by rfl) T.gplanned T.Fplanned.kp T.bplanned .nil pass0 (pa_cons (pv 1) (pa_cons (pe_fld (pv 0) rfl) (pa_cons pe_bl pa_nil)))))
      (pss_one (ps_ret (pe_and (pe_cmpR op_notN (pv 3) pe_non (nomark _)) (pe_one (pe_cmpR op_ge (pv 3) (pv 2) (nomark _))))))), ?_⟩
    refine ⟨_, rfl, _, rfl, x, _, dx, _, _, rfl, hx, T.clGets, T.npGets, rfl, ?_⟩
    refine ⟨a, l, ns, xs, p, true, rfl, hS, SqL.of hl, hp, h1000, h12, fun H1 s1 => ?_⟩
    have q' := q H1 s1
    unfold showsV at q'
    cases e : plannedV ns p true with
    | none =>
      rw [e] at q'
      exact ⟨_, rfl, rfl, _, rfl, iteF q'⟩
    | some v =>
      rw [e] at q'
      exact ⟨_, rfl, rfl, _, rfl, iteT ⟨_, rfl, _, rfl, _, _, rfl, rfl, q'⟩⟩
theorem ok_Held_shows (T : Tx K mg A) : FnOk P w K mg base CX0 16 A.f_Held_shows A.d_Held_shows ["self", "row", "least"] (spShows K A.C_Held false) := by
  have Gplanned : FnOk P w K mg base CX0 15 A.f_planned A.d_planned ["row", "plan", "mine"] (spPlanned K) := ok_planned T
  refine T.FHeld_shows.ok sc_Held_shows (fun vs H Q E h => ?_) (fun cdv A' outer s H vs Q E hr h => ?_)
  · obtain ⟨x, a, l, dx, ns, xs, p, least, rfl, _⟩ := h
    rfl
  · obtain ⟨x, a, l, dx, ns, xs, p, least, rfl, hx, hS, hl, hp, h1000, h12, q⟩ := h
    refine ⟨_, (pss_cons (ps_set (i := 3) sc_Held_shows.nd rfl (Or.inl rfl) (pe_call Gplanned (hr.mono (by first | decide | omega)) (by rfl) T.gplanned T.Fplanned.kp T.bplanned .nil pass0 (pa_cons (pv 1) (pa_cons (pe_fld (pv 0) rfl) (pa_cons pe_bl pa_nil)))))
      (pss_one (ps_ret (pe_and (pe_cmpR op_notN (pv 3) pe_non (nomark _)) (pe_one (pe_cmpR op_lt (pe_un un_neg (pv 3)) (pv 2) (nomark _))))))), ?_⟩
    refine ⟨_, rfl, _, rfl, x, _, dx, _, _, rfl, hx, T.clHeld, T.npHeld, rfl, ?_⟩
    refine ⟨a, l, ns, xs, p, false, rfl, hS, SqL.of hl, hp, h1000, h12, fun H1 s1 => ?_⟩
    have q' := q H1 s1
    unfold showsV at q'
    cases e : plannedV ns p false with
    | none =>
      rw [e] at q'
      exact ⟨_, rfl, rfl, _, rfl, iteF q'⟩
    | some v =>
      rw [e] at q'
      exact ⟨_, rfl, rfl, _, rfl, iteT ⟨_, rfl, _, rfl, _, rfl, _, _, rfl, rfl, q'⟩⟩
theorem ok_plan_of (T : Tx K mg A) : FnOk P w K mg base CX0 15 A.f_plan_of A.d_plan_of ["row", "first"] (spPlanOf K) := by
  have Gbest_of : FnOk P w K mg base CX0 14 A.f_best_of A.d_best_of ["row", "low", "behind", "known"] (spBestOf K) := ok_best_of T
  refine T.Fplan_of.ok sc_plan_of (fun vs H Q E h => ?_) (fun cdv A' outer s H vs Q E hr h => ?_)
  · obtain ⟨a, ns, first, rfl, _⟩ := h
    rfl
  · obtain ⟨a, ns, first, rfl, hS, h12, q⟩ := h
    refine ⟨_, (pss_cons (ps_par (i := 2) (j := 3) rfl sc_plan_of.nd rfl rfl (by decide) rfl rfl (pa_cons (pe_lst pa_nil) (pa_cons pe_dnewT pa_nil)) (by rfl))
      (pss_cons (ps_for PassesOwn.never rfl (pi_range1 (by rfl) T.brange (pa_cons (pe_callB call_len_seq (by rfl) T.blen PySem.boot_len (pa_cons (pv 0) pa_nil)) pa_nil)) (pg_name (i := 4) sc_plan_of.nd rfl (Or.inl rfl))
      (pss_one (ps_for PassesOwn.never rfl (pi_range2 (by rfl) T.brange (pa_cons (pe_op op_add (pv 4) pe_int) (pa_cons (pe_op op_add (pe_callB call_len_seq (by rfl) T.blen PySem.boot_len (pa_cons (pv 0) pa_nil)) pe_int) pa_nil))) (pg_name (i := 5) sc_plan_of.nd rfl (Or.inl rfl))
      (pss_one (ps_if (pt_cmpR op_eq (pe_op op_mod (pe_op op_add (pe_op op_sub (pe_callB call_len_seq (by rfl) T.blen PySem.boot_len (pa_cons (pv 0) pa_nil)) (pv 5)) (pv 4)) pe_int) (pe_ifExp (pt_val (pv 1)) pe_int pe_int) (nomark _)) (pss_one (ps_expr (pe_bm PySem.F.plainAttrs_list PySem.F.slot_list_append PySem.F.type_list_append mt_append (pv 2) (pa_cons (pe_tup (pa_cons (pv 4) (pa_cons (pv 5) (pa_cons (pe_ix ix_list (pe_call Gbest_of (hr.mono (by first | decide | omega)) (by rfl) T.gbest_of T.Fbest_of.kp T.bbest_of .nil pass0 (pa_cons (pv 0) (pa_cons (pv 4) (pa_cons (pv 5) (pa_cons (pv 3) pa_nil))))) pe_int (fun _ _ => rfl)) pa_nil)))) pa_nil)))) pss_nil)))))
      (pss_one (ps_ret (pv 2))))), ?_⟩
    have el : (ns.map V.int).length = ns.length := List.length_map _
    refine ⟨Nat.zero_le _, fun f nf => gen_heap nf fun H1 s1 hf => fun d nd => gen_heap nd fun H2 s2 hd => ⟨_, _, rfl, ?_⟩⟩
    have s02 := s1.trans s2
    have hf2 := s2 _ _ hf
    have ndf : d ≠ f := (ne_of_none hf nd).symm
    have ndH : H d = none := s1.free nd
    refine ⟨_, rfl, a, _, rfl, .inl (s02.seq hS), _, rfl, by rw [el]; omega, by rw [el]; omega, ?_⟩
    refine for_range (lo := 0) (n := ((ns.map V.int).length : Int).toNat) (fun i σ H3 => ∃ (xs : List V) (kvs : List (List Key × V)) (x4 x5 : Option V), σ = [some (.ref a), some (.bl first), some (.ref f), some (.ref d), x4, x5] ∧ Same H H3 ∧ H3 f = some (.lst xs) ∧ H3 d = some (.dT kvs) ∧ Known ns kvs ∧ Tris H3 xs (planTo ns first i)) ⟨[], [], none, none, rfl, s02, hf2, hd, Known.nil _, .nil⟩ ?_ ?_
    · rintro i σ H3 hi ⟨xs, kvs, x4, x5, rfl, s3, hf3, hd3, hk3, hT3⟩
      rw [el] at hi
      have hi' : i < ns.length := by omega
      have e0 : (0 : Int) + (i : Int) = (i : Int) := by omega
      refine ⟨_, rfl, _, _, rfl, rfl, _, rfl, a, _, rfl, .inl (s3.seq hS), _, _, rfl, rfl, _, _, rfl, ⟨by omega, by omega, by rw [el]; omega, by rw [el]; omega⟩, ?_⟩
      have en : (((ns.map V.int).length : Int) + 1 - (0 + (i : Int) + 1)).toNat = ns.length - i := by rw [el]; omega
      refine for_range (lo := 0 + (i : Int) + 1) (n := (((ns.map V.int).length : Int) + 1 - (0 + (i : Int) + 1)).toNat) (fun j σ H4 => ∃ (xs : List V) (kvs : List (List Key × V)) (x5 : Option V), σ = [some (.ref a), some (.bl first), some (.ref f), some (.ref d), some (.int (0 + (i : Int))), x5] ∧ Same H H4 ∧ H4 f = some (.lst xs) ∧ H4 d = some (.dT kvs) ∧ Known ns kvs ∧ Tris H4 xs (planTo ns first i ++ chunk ns first i j)) ⟨xs, kvs, x5, rfl, s3, hf3, hd3, hk3, by rw [chunk_zero, List.append_nil]; exact hT3⟩ ?_ ?_
      · rintro j σ H4 hj ⟨xs, kvs, x5, rfl, s4, hf4, hd4, hk4, hT4⟩
        rw [en] at hj
        have hS4 := s4.seq hS
        refine ⟨_, rfl, a, _, rfl, .inl hS4, _, rfl, _, _, rfl, rfl, _, rfl, _, _, rfl, rfl, _, _, rfl, rfl, (by show (0 : Int) < 2; decide), _, rfl, _, rfl, ?_⟩
        have xlen : xs.length ≤ 200 := by
          rw [hT4.len, List.length_append]
          have h1 := planTo_le ns first i
          have h2 := chunk_le ns first i j
          have h3 : i * ns.length ≤ 12 * 12 := Nat.mul_le_mul (by omega) h12
          omega
        have eb : (((ns.map V.int).length : Int) - (0 + (i : Int) + 1 + (j : Int)) + (0 + (i : Int))) % 2 = (((ns.length - (j + 1)) % 2 : Nat) : Int) := by rw [el]; omega
        have test : ∀ (z : Int), z = ((parOf first : Nat) : Int) → decide (V.int ((((ns.map V.int).length : Int) - (0 + (i : Int) + 1 + (j : Int)) + (0 + (i : Int))) % 2) = V.int z) = lineB ns.length first j := by
          rintro z rfl
          unfold lineB
          rw [eb]
          by_cases c : (ns.length - (j + 1)) % 2 = parOf first
          · rw [decide_eq_true c, c]
            exact decide_eq_true rfl
          · rw [decide_eq_false c]
            exact decide_eq_false (fun z => c (by have z' := V.int.inj z; omega))
        cases first with
        | true =>
          refine iteT ⟨rfl, _, rfl, ?_⟩
          rw [test 0 rfl]
          cases c : lineB ns.length true j with
          | false =>
            refine iteF ?_
            refine ⟨xs, kvs, _, rfl, s4, hf4, hd4, hk4, ?_⟩
            rw [chunk_succ, c, if_neg Bool.false_ne_true, List.append_nil]
            exact hT4
          | true =>
            refine iteT ?_
            refine ⟨_, rfl, .inl ⟨rfl, _, SqL.of hf4⟩, _, rfl, _, rfl, _, rfl, _, rfl, _, rfl, _, rfl, ?_⟩
            refine ⟨a, d, ns, i, j, _, _, kvs, rfl, e0, by omega, hS4, hd4, hk4, h12, by omega, fun H5 kvs5 pb s5 hd5 hk5 npb hpb => ?_⟩
            refine ⟨pb, _, _, _, rfl, rfl, SqL.of hpb, atI_nat (j := 0) (bestEnd_at ns i j), (by show 3 ≤ sizeLine; decide), fun pt npt => gen_heap npt fun H6 s6 hpt => ?_⟩
            have hf6 := s6 _ _ (s5 _ _ ndf.symm hf4)
            refine ⟨f, _, _, rfl, rfl, hf6, size_lt (by omega), gen_put hf6 fun H7 s7 hf7 => ?_⟩
            have npf : pt ≠ f := ne_of hpt hf6 (by intro z; cases z)
            refine ⟨_, kvs5, _, rfl, fun b o e => ?_, hf7, s7 _ _ ndf (s6 _ _ hd5), hk5, ?_⟩
            · exact s7 _ _ (ne_of_none e nf) (s6 _ _ (s5 _ _ (ne_of_none e ndH) (s4 _ _ e)))
            · rw [chunk_succ, c, if_pos rfl, ← List.append_assoc]
              have hT5 : Tris H5 xs (planTo ns true i ++ chunk ns true i j) := hT4.butO s5 hd4 (by intro _ z; cases z)
              refine Tris.app (.cons (s7 _ _ npf ?_) .nil) ((hT5.mono s6).but s7 hf6)
              rw [hpt]
              unfold triV lineV
              have e1 : (0 : Int) + (i : Int) + 1 + (j : Int) = ((i + (j + 1) : Nat) : Int) := by omega
              show some (HO.tup [V.int (0 + (i : Int)), V.int (0 + (i : Int) + 1 + (j : Int)), V.str (sideS (bestEnd ns i j))]) = some (HO.tup [V.int (i : Int), V.int ((i + (j + 1) : Nat) : Int), V.str (sideS (bestEnd ns i j))])
              rw [e1, e0]
        | false =>
          refine iteF ⟨rfl, _, rfl, ?_⟩
          rw [test 1 rfl]
          cases c : lineB ns.length false j with
          | false =>
            refine iteF ?_
            refine ⟨xs, kvs, _, rfl, s4, hf4, hd4, hk4, ?_⟩
            rw [chunk_succ, c, if_neg Bool.false_ne_true, List.append_nil]
            exact hT4
          | true =>
            refine iteT ?_
            refine ⟨_, rfl, .inl ⟨rfl, _, SqL.of hf4⟩, _, rfl, _, rfl, _, rfl, _, rfl, _, rfl, _, rfl, ?_⟩
            refine ⟨a, d, ns, i, j, _, _, kvs, rfl, e0, by omega, hS4, hd4, hk4, h12, by omega, fun H5 kvs5 pb s5 hd5 hk5 npb hpb => ?_⟩
            refine ⟨pb, _, _, _, rfl, rfl, SqL.of hpb, atI_nat (j := 0) (bestEnd_at ns i j), (by show 3 ≤ sizeLine; decide), fun pt npt => gen_heap npt fun H6 s6 hpt => ?_⟩
            have hf6 := s6 _ _ (s5 _ _ ndf.symm hf4)
            refine ⟨f, _, _, rfl, rfl, hf6, size_lt (by omega), gen_put hf6 fun H7 s7 hf7 => ?_⟩
            have npf : pt ≠ f := ne_of hpt hf6 (by intro z; cases z)
            refine ⟨_, kvs5, _, rfl, fun b o e => ?_, hf7, s7 _ _ ndf (s6 _ _ hd5), hk5, ?_⟩
            · exact s7 _ _ (ne_of_none e nf) (s6 _ _ (s5 _ _ (ne_of_none e ndH) (s4 _ _ e)))
            · rw [chunk_succ, c, if_pos rfl, ← List.append_assoc]
              have hT5 : Tris H5 xs (planTo ns false i ++ chunk ns false i j) := hT4.butO s5 hd4 (by intro _ z; cases z)
              refine Tris.app (.cons (s7 _ _ npf ?_) .nil) ((hT5.mono s6).but s7 hf6)
              rw [hpt]
              unfold triV lineV
              have e1 : (0 : Int) + (i : Int) + 1 + (j : Int) = ((i + (j + 1) : Nat) : Int) := by omega
              show some (HO.tup [V.int (0 + (i : Int)), V.int (0 + (i : Int) + 1 + (j : Int)), V.str (sideS (bestEnd ns i j))]) = some (HO.tup [V.int (i : Int), V.int ((i + (j + 1) : Nat) : Int), V.str (sideS (bestEnd ns i j))])
              rw [e1, e0]
      · rintro σ H4 ⟨xs, kvs, x5, rfl, s4, hf4, hd4, hk4, hT4⟩
        rw [en] at hT4
        rw [← planTo_succ] at hT4
        exact ⟨xs, kvs, _, _, rfl, s4, hf4, hd4, hk4, hT4⟩
    · rintro σ H3 ⟨xs, kvs, x4, x5, rfl, s3, hf3, hd3, hk3, hT3⟩
      rw [show ((ns.map V.int).length : Int).toNat = ns.length by rw [el]; omega] at hT3
      exact ⟨_, rfl, q H3 f xs s3 nf hf3 hT3⟩
theorem ok_judged (T : Tx K mg A) : FnOk P w K mg base (L2.CX P w) 16 A.f_judged A.d_judged ["row", "least"] (spJudged K A.C_BadRow A.C_BadNumber A.C_Gets A.C_Held) := by
  have Gworth_of : FnOk P w K mg base CX0 13 A.f_worth_of A.d_worth_of ["row", "low", "behind", "known"] (spWorthOf K 13) := ok_worth_of T
  have Gcheck_row : FnOk P w K mg base (L2.CX P w) 2 A.f_check_row A.d_check_row ["row"] (spCheck K A.C_BadRow) := ok_check_row T
  have Gis_whole : FnOk P w K mg base CX0 1 A.f_is_whole A.d_is_whole ["thing"] (spWhole K) := ok_is_whole T
  have Gplan_of : FnOk P w K mg base CX0 15 A.f_plan_of A.d_plan_of ["row", "first"] (spPlanOf K) := ok_plan_of T
  have GGets_init : FnOk P w K mg base CX0 1 A.f_Gets_init A.d_Gets_init ["self", "plan"] (spInit K A.C_Gets) := ok_Gets_init T
  have GHeld_init : FnOk P w K mg base CX0 1 A.f_Held_init A.d_Held_init ["self", "plan"] (spInit K A.C_Held) := ok_Held_init T
  refine T.Fjudged.okX sc_judged (fun vs H Q E h => ?_) (fun cdv A' outer s H vs Q E hr h => ?_)
  · obtain ⟨x, t, rfl, _⟩ := h
    rfl
  · obtain ⟨x, t, rfl, h⟩ := h
    refine ⟨_, (pss_cons (ps_expr (pe_call Gcheck_row (hr.mono (by first | decide | omega)) (by rfl) T.gcheck_row T.Fcheck_row.kp T.bcheck_row .nil (passes_call (takes_of rfl rfl rfl rfl) (fun _ _ _ _ h => h)) (pa_cons (pv 0) pa_nil)))
      (pss_cons (ps_if (pt_not (pt_val (pe_call Gis_whole (hr.mono (by first | decide | omega)) (by rfl) T.gis_whole T.Fis_whole.kp T.bis_whole .nil pass0 (pa_cons (pv 1) pa_nil)))) (pss_one (ps_raise rfl (takes_of rfl rfl rfl rfl) (pmk_own PySem.F.excBase_ValueError T.xBadNumber T.gBadNumber T.kBadNumber (raises_own T.BBadNumber T.tBadNumber) rfl))) pss_nil)
      (pss_cons (ps_if (pt_cmpR op_ge (pe_call Gworth_of (hr.mono (by first | decide | omega)) (by rfl) T.gworth_of T.Fworth_of.kp T.bworth_of .nil pass0 (pa_cons (pv 0) (pa_cons pe_int (pa_cons (pe_callB call_len_seq (by rfl) T.blen PySem.boot_len (pa_cons (pv 0) pa_nil)) (pa_cons pe_dnewT pa_nil))))) (pv 1) (nomark _)) (pss_one (ps_ret (pe_make T.MGets GGets_init (hr.mono (by first | decide | omega)) (by rfl) T.gGets T.bGets_init .nil pass0 (pa_cons (pe_call Gplan_of (hr.mono (by first | decide | omega)) (by rfl) T.gplan_of T.Fplan_of.kp T.bplan_of .nil pass0 (pa_cons (pv 0) (pa_cons pe_bl pa_nil))) pa_nil)))) pss_nil)
      (pss_one (ps_ret (pe_make T.MHeld GHeld_init (hr.mono (by first | decide | omega)) (by rfl) T.gHeld T.bHeld_init .nil pass0 (pa_cons (pe_call Gplan_of (hr.mono (by first | decide | omega)) (by rfl) T.gplan_of T.Fplan_of.kp T.bplan_of .nil pass0 (pa_cons (pv 0) (pa_cons pe_bl pa_nil))) pa_nil))))))), ?_⟩
    refine ⟨_, rfl, ?_⟩
    rcases h with ⟨hn, q⟩ | ⟨ns, hrow, h⟩
    · exact ⟨x, rfl, .inr ⟨hn, q⟩⟩
    refine ⟨x, rfl, .inl ⟨ns, hrow, fun H1 s1 => ?_⟩⟩
    obtain ⟨r, rfl, hS, hok⟩ := hrow
    have hS1 := s1.seq hS
    have el : (ns.map V.int).length = ns.length := List.length_map _
    rcases h with ⟨⟨ty, hp, e⟩, q⟩ | ⟨k, rfl, q⟩
    · refine ⟨_, rfl, ?_⟩
      refine ⟨_, ty, rfl, hp.mono s1, _, rfl, ?_⟩
      rw [e]
      exact iteT (q H1 s1)
    refine ⟨_, rfl, ?_⟩
    refine ⟨_, _, rfl, pv_int k, _, rfl, iteF ?_⟩
    -- if worth_of(..) >= least
    refine ⟨_, rfl, _, rfl, r, _, rfl, .inl hS1, fun d nd => gen_heap nd fun H2 s2 hd => ?_⟩
    refine ⟨r, d, ns, 0, ns.length, _, _, [], rfl, rfl, by rw [el]; omega, s2.seq hS1, hd, Known.nil _, hok.1, by omega, by have := hok.1; omega, fun H3 kvs3 s3 hd3 hk3 => ?_⟩
    have s13 : Same H1 H3 := fun b o e => s3 _ _ (ne_of_none e nd) (s2 _ _ e)
    have s03 := s1.trans s13
    refine ⟨_, rfl, _, _, rfl, rfl, _, rfl, ?_⟩
    refine ite2 (fun c => ?_) (fun c => ?_)
    · have c' : k ≤ wv ns ns.length 0 := of_decide_eq_true c
      rw [decide_eq_true c', if_pos rfl] at q
      refine ⟨_, rfl, ?_⟩
      refine ⟨r, ns, true, rfl, s03.seq hS, hok.1, fun H4 l xs s4 nl hl hT => ?_⟩
      refine fun o dx no ndx nex => ?_
      have s5 := same_make (C := A.C_Gets) no ndx
      refine ⟨o, l, dx, xs, rfl, upd_same, SqL.of (s5 _ _ hl), fun H6 m s6 nm ho hm => ⟨rfl, ?_⟩⟩
      have hT6 : Tris H6 xs (planV ns true) := (hT.mono s5).butO s6 upd_same (by intro _ z; cases z)
      refine q H6 o dx m xs (fun b u e => ?_) ((s03.trans s4).free no) ((s03.trans s4).free (s5.free nm)) ho hm hT6
      have e4 := s4 _ _ (s03 _ _ e)
      exact s6 _ _ (ne_of_none e4 no) (s5 _ _ e4)
    · have c' : ¬ k ≤ wv ns ns.length 0 := fun z => c (decide_eq_true z)
      rw [decide_eq_false c', if_neg Bool.false_ne_true] at q
      refine ⟨_, rfl, ?_⟩
      refine ⟨r, ns, false, rfl, s03.seq hS, hok.1, fun H4 l xs s4 nl hl hT => ?_⟩
      refine fun o dx no ndx nex => ?_
      have s5 := same_make (C := A.C_Held) no ndx
      refine ⟨o, l, dx, xs, rfl, upd_same, SqL.of (s5 _ _ hl), fun H6 m s6 nm ho hm => ⟨rfl, ?_⟩⟩
      have hT6 : Tris H6 xs (planV ns false) := (hT.mono s5).butO s6 upd_same (by intro _ z; cases z)
      refine q H6 o dx m xs (fun b u e => ?_) ((s03.trans s4).free no) ((s03.trans s4).free (s5.free nm)) ho hm hT6
      have e4 := s4 _ _ (s03 _ _ e)
      exact s6 _ _ (ne_of_none e4 no) (s5 _ _ e4)
end
end K08
namespace K08
open PySem PySem.Spec PyProof.Rows L2 LamX RE
section
variable {P : Program} {w : World} {K : PySem.W.Frag} {mg : Str → Option Value} {base : Heap} {A : Ad}
theorem step__law_copied (T : Tx K mg A) {n : Nat} (G_law_copied : FnOk P w K mg base CX0 n A.f__law_copied A.d__law_copied ["_law_thing"] (spCopy K n)) : FnOk P w K mg base CX0 (n + 1) A.f__law_copied A.d__law_copied ["_law_thing"] (spCopy K (n + 1)) := by
  refine T.F_law_copied.ok sc__law_copied (fun vs H Q E h => ?_) (fun cdv A' outer s H vs Q E hr h => ?_)
  · obtain ⟨x, t, S, rfl, _⟩ := h
    rfl
  · obtain ⟨x, t, S, rfl, hx, hd, hz, q⟩ := h
    refine ⟨_, (pss_one (ps_ret (pe_ifExp (pt_val (pe_callB call_isi (by rfl) T.bisinstance (by decide +kernel) (pa_cons (pv 0) (pa_cons (pe_bltn (v := .ty "list") (by rfl) T.blist (by decide +kernel) rfl) pa_nil)))) (pe_lc (own := [("_law_one", 1)]) (by rfl) sc__law_copied.nd (pi_list (pv 0)) (blkOk_by (own := [("_law_one", 1)]) (N := N__law_copied) (sc := defScope s__law_copied) (by decide +kernel)) (fun _ _ _ _ _ => (pg_name (i := 1) sc__law_copied.nd rfl (Or.inl rfl))) (fun _ _ _ _ _ => pts_nil) (fun _ _ _ _ _ => (pe_call G_law_copied (hr.mono (by first | decide | omega)) (by rfl) T.g_law_copied T.F_law_copied.kp T.b_law_copied .nil pass0 (pa_cons (pv 1) pa_nil)))) (pv 0)))), ?_⟩
    cases hx with
    | leaf hl =>
      obtain ⟨T', pv, hT⟩ := hl.pv (K := K)
      refine ⟨_, rfl, _, _, _, _, _, rfl, .ty _, pv.ty, kit_list pv.mem, _, rfl, ?_⟩
      rw [hT]
      exact iteF ⟨_, rfl, q H x [] (Same.refl _) (fun _ z => nomatch z) List.nodup_nil (.leaf hl)⟩
    | @node a xs ts S' h t =>
      refine ⟨_, rfl, _, _, _, _, _, rfl, .ty _, (pv_sq (SqL.of h)).ty, kit_list (T := "list") (by decide), _, rfl, iteT ?_⟩
      rw [Th.depth] at hd
      rw [Th.size] at hz
      have hsl := Th.sizes_len ts
      refine ⟨_, rfl, a, rfl, ⟨_, SqL.of h⟩, fun D nD => ?_⟩
      refine lc_list (K := K) (a := a) (xs := xs) (fun i Hx => Same H Hx ∧ ∃ ys S', Hx D = some (.lst ys) ∧ HoldsAll (hide D Hx) ys (ts.take i) S' ∧ (∀ b ∈ S', H b = none) ∧ S'.Nodup) ⟨same_new nD _, [], [], upd_same, .nil, (fun _ z => nomatch z), List.nodup_nil⟩ (fun i Hx _ h' => SqL.of (h'.1 _ _ h)) ?_ ?_
      · rintro i x Hx hi ⟨sx, ys, S1, hD, hA, nS, nd⟩
        obtain ⟨ti, Si, hti, hxi, _⟩ := t.get hi
        have h1 := Th.depths_get hti
        have h2 := Th.sizes_get hti
        refine ⟨rfl, _, rfl, x, ti, Si, rfl, hxi.mono sx, by omega, by omega, fun Hy y S2 sy n2 nd2 hy => ?_⟩
        obtain ⟨S3, hA3, n3, nd3⟩ := copy_step sy hD hA nS nd hti n2 nd2 hy sx
        refine ⟨ys, sy _ _ hD, ?_, fun b u e => ?_, ys ++ [y], S3, upd_same, hA3, n3, nd3⟩
        · rw [hA.len, List.length_take]
          exact size_lt (by omega)
        · rw [upd_ne (ne_of_none e nD)]
          exact sy _ _ (sx _ _ e)
      rintro Hx ⟨sx, ys, S1, hD, hA, nS, nd⟩
      rw [t.len, List.take_length] at hA
      have nDS : D ∉ S1 := fun z => by
        obtain ⟨zs, e⟩ := hA.lists D z
        rw [show hide D Hx D = none from if_pos rfl] at e
        cases e
      refine q Hx (.ref D) (D :: S1) sx (fun b hb => ?_) (List.nodup_cons.mpr ⟨nDS, nd⟩) (.node hD (hA.mono (hide_of D Hx)))
      rcases List.mem_cons.mp hb with z | z
      · rw [z]
        exact nD
      · exact nS b z
theorem copied_all (T : Tx K mg A) : ∀ n : Nat, FnOk P w K mg base CX0 n A.f__law_copied A.d__law_copied ["_law_thing"] (spCopy K n)
  | 0 => by
    refine ⟨fun vs H Q E h => ?_, fun A' outer s H args us vs Q E hr e0 hb r h => ?_⟩
    · obtain ⟨x, t, S, rfl, _⟩ := h
      rfl
    · obtain ⟨x, t, S, _, _, hd, _⟩ := h
      exact absurd hd (Nat.not_lt_zero _)
  | n + 1 => step__law_copied T (copied_all T n)
theorem ok__law_copied (T : Tx K mg A) : FnOk P w K mg base CX0 4 A.f__law_copied A.d__law_copied ["_law_thing"] (spCopy K 4) := copied_all T 4
theorem step__law_spoiled (T : Tx K mg A) {n : Nat} (G_law_spoiled : FnOk P w K mg base CX0 n A.f__law_spoiled A.d__law_spoiled ["_law_thing"] (spSpoil K n)) : FnOk P w K mg base CX0 (n + 1) A.f__law_spoiled A.d__law_spoiled ["_law_thing"] (spSpoil K (n + 1)) := by
  refine T.F_law_spoiled.ok sc__law_spoiled (fun vs H Q E h => ?_) (fun cdv A' outer s H vs Q E hr h => ?_)
  · obtain ⟨a, ts, S, rfl, _⟩ := h
    rfl
  · obtain ⟨a, ts, S, rfl, hx, nd, hd, hz, q⟩ := h
    obtain ⟨xs, S', rfl, ha, hA⟩ := hx.node_inv
    refine ⟨_, (pss_cons (ps_for PassesOwn.never rfl (pi_list (pv 0)) (pg_name (i := 1) sc__law_spoiled.nd rfl (Or.inl rfl))
      (pss_one (ps_if (pt_val (pe_callB call_isi (by rfl) T.bisinstance (by decide +kernel) (pa_cons (pv 1) (pa_cons (pe_bltn (v := .ty "list") (by rfl) T.blist (by decide +kernel) rfl) pa_nil)))) (pss_one (ps_expr (pe_call G_law_spoiled (hr.mono (by first | decide | omega)) (by rfl) T.g_law_spoiled T.F_law_spoiled.kp T.b_law_spoiled .nil pass0 (pa_cons (pv 1) pa_nil)))) pss_nil)))
      (pss_cons (ps_expr (pe_bm PySem.F.plainAttrs_list PySem.F.slot_list_append PySem.F.type_list_append mt_append (pv 0) (pa_cons pe_int pa_nil)))
      (pss_one (ps_expr (pe_bm0 PySem.F.plainAttrs_list PySem.F.slot_list_reverse PySem.F.type_list_reverse mt_reverse (pv 0)))))), ?_⟩
    rw [Th.depth] at hd
    rw [Th.size] at hz
    have hsl := Th.sizes_len ts
    have hxl := hA.len
    obtain ⟨na, nd'⟩ := List.nodup_cons.mp nd
    refine ⟨_, rfl, a, rfl, ⟨_, SqL.of ha⟩, ?_⟩
    refine for_list (K := K) (a := a) (xs := xs) (fun i σ Hx => ∃ (x1 : Option V) (SA SB : List Addr), σ = [some (.ref a), x1] ∧ S' = SA ++ SB ∧ Out SA H Hx ∧ HoldsAll Hx (xs.drop i) (ts.drop i) SB ∧ Hx a = some (.lst xs)) ⟨none, [], S', rfl, rfl, Out.refl _ _, by rw [List.drop_zero, List.drop_zero]; exact hA, ha⟩ ?_ ?_ ?_
    · rintro i σ Hx _ ⟨x1, SA, SB, rfl, _, _, _, hax⟩
      exact SqL.of hax
    · rintro i y σ Hx hi ⟨x1, SA, SB, rfl, eS, oA, hB, hax⟩
      obtain ⟨t, S1, S2, hti, eB, hy, hr2⟩ := hB.pop hi
      have h1 := Th.depths_get hti
      have h2 := Th.sizes_get hti
      rw [eB] at eS
      rw [eS] at na nd'
      obtain ⟨_, ndB, disA⟩ := List.nodup_append.mp nd'
      obtain ⟨nd1, nd2, dis⟩ := List.nodup_append.mp ndB
      cases hy with
      | leaf hl =>
        obtain ⟨T', pv, hT⟩ := hl.pv (K := K)
        refine ⟨_, rfl, _, _, _, _, _, rfl, .ty _, pv.ty, kit_list pv.mem, _, rfl, ?_⟩
        rw [hT]
        exact iteF ⟨_, SA, S2, rfl, eS, oA, hr2, hax⟩
      | @node b ys us S3 h t =>
        refine ⟨_, rfl, _, _, _, _, _, rfl, .ty _, (pv_sq (SqL.of h)).ty, kit_list (T := "list") (by decide), _, rfl, iteT ?_⟩
        refine ⟨_, rfl, b, us, b :: S3, rfl, .node h t, nd1, by omega, by omega, fun Hy oy => ?_⟩
        have l1 := (Holds.node h t).lists
        refine ⟨_, SA ++ (b :: S3), S2, rfl, by rw [List.append_assoc]; exact eS, ?_, hr2.out oy l1 (fun c hc z => dis c z c hc rfl), oy a _ (fun z => na (List.mem_append_right _ (List.mem_append_left _ z))) hax⟩
        exact (oA.mono fun c hc => List.mem_append_left _ hc).trans (oy.mono fun c hc => List.mem_append_right _ hc)
    · rintro σ Hx ⟨x1, SA, SB, rfl, eS, oA, _, hax⟩
      refine ⟨_, rfl, .inl ⟨rfl, _, SqL.of hax⟩, a, _, _, rfl, rfl, hax, size_lt (by omega), gen_put hax fun Hy sy hy => ?_⟩
      refine ⟨_, rfl, .inl ⟨rfl, _, SqL.of hy⟩, a, _, rfl, rfl, hy, gen_put hy fun Hz sz hz' => ?_⟩
      refine q Hz ((oA.mono fun c hc => ?_).trans ((Out.but sy List.mem_cons_self).trans (Out.but sz List.mem_cons_self)))
      rw [eS]
      exact List.mem_cons_of_mem _ (List.mem_append_left _ hc)
theorem spoiled_all (T : Tx K mg A) : ∀ n : Nat, FnOk P w K mg base CX0 n A.f__law_spoiled A.d__law_spoiled ["_law_thing"] (spSpoil K n)
  | 0 => by
    refine ⟨fun vs H Q E h => ?_, fun A' outer s H args us vs Q E hr e0 hb r h => ?_⟩
    · obtain ⟨a, ts, S, rfl, _⟩ := h
      rfl
    · obtain ⟨a, ts, S, _, _, _, hd, _⟩ := h
      exact absurd hd (Nat.not_lt_zero _)
  | n + 1 => step__law_spoiled T (spoiled_all T n)
theorem ok__law_spoiled (T : Tx K mg A) : FnOk P w K mg base CX0 4 A.f__law_spoiled A.d__law_spoiled ["_law_thing"] (spSpoil K 4) := spoiled_all T 4
theorem step__law_laid (T : Tx K mg A) {n : Nat} (G_law_laid : FnOk P w K mg base CX0 (n + 4) A.f__law_laid A.d__law_laid ["_law_mine", "_law_other"] (spLay K n)) : FnOk P w K mg base CX0 (n + 1 + 4) A.f__law_laid A.d__law_laid ["_law_mine", "_law_other"] (spLay K (n + 1)) := by
  have G_law_copied : FnOk P w K mg base CX0 4 A.f__law_copied A.d__law_copied ["_law_thing"] (spCopy K 4) := ok__law_copied T
  refine T.F_law_laid.ok sc__law_laid (fun vs H Q E h => ?_) (fun cdv A' outer s H vs Q E hr h => ?_)
  · obtain ⟨a, b, ts, us, S, S2, rfl, _⟩ := h
    rfl
  · obtain ⟨a, b, ts, us, S, S2, rfl, hM, nd, hO, dis, lk, hd, hz, q⟩ := h
    obtain ⟨xs, S', rfl, ha, hA⟩ := hM.node_inv
    obtain ⟨ys, S2', rfl, hb, hB⟩ := hO.node_inv
    refine ⟨_, (pss_cons (ps_while PassesOwn.never (pt_cmpR op_gt (pe_callB call_len_seq (by rfl) T.blen PySem.boot_len (pa_cons (pv 0) pa_nil)) (pe_callB call_len_seq (by rfl) T.blen PySem.boot_len (pa_cons (pv 1) pa_nil)) (nomark _))
      (pss_one (ps_expr (pe_bm0 PySem.F.plainAttrs_list PySem.F.slot_list_pop PySem.F.type_list_pop mt_pop (pv 0)))))
      (pss_one (ps_for PassesOwn.never rfl (pi_enum (by rfl) T.benumerate (pa_cons (pv 1) pa_nil)) (pg_tup rfl (pgs_cons (pg_name (i := 2) sc__law_laid.nd rfl (Or.inl rfl)) (pgs_cons (pg_name (i := 3) sc__law_laid.nd rfl (Or.inl rfl)) pgs_nil)))
      (pss_one (ps_if (pt_cmpR op_eq (pv 2) (pe_callB call_len_seq (by rfl) T.blen PySem.boot_len (pa_cons (pv 0) pa_nil)) (nomark _)) (pss_one (ps_expr (pe_bm PySem.F.plainAttrs_list PySem.F.slot_list_append PySem.F.type_list_append mt_append (pv 0) (pa_cons (pe_call G_law_copied (hr.mono (by first | decide | omega)) (by rfl) T.g_law_copied T.F_law_copied.kp T.b_law_copied .nil pass0 (pa_cons (pv 3) pa_nil)) pa_nil)))) (pss_one (ps_if (PW.pt (pw_and (pt_val (pe_callB call_isi (by rfl) T.bisinstance (by decide +kernel) (pa_cons (pv 3) (pa_cons (pe_bltn (v := .ty "list") (by rfl) T.blist (by decide +kernel) rfl) pa_nil)))) (pw_and1 (pt_val (pe_callB call_isi (by rfl) T.bisinstance (by decide +kernel) (pa_cons (pe_ix ix_list (pv 0) (pv 2) (fun _ _ => rfl)) (pa_cons (pe_bltn (v := .ty "list") (by rfl) T.blist (by decide +kernel) rfl) pa_nil))))))) (pss_one (ps_expr (pe_call G_law_laid (hr.mono (by first | decide | omega)) (by rfl) T.g_law_laid T.F_law_laid.kp T.b_law_laid .nil pass0 (pa_cons (pe_ix ix_list (pv 0) (pv 2) (fun _ _ => rfl)) (pa_cons (pv 3) pa_nil))))) (pss_one (ps_asg (pe_call G_law_copied (hr.mono (by first | decide | omega)) (by rfl) T.g_law_copied T.F_law_copied.kp T.b_law_copied .nil pass0 (pa_cons (pv 3) pa_nil)) (pg_sub (pv 0) (pv 2) set_list)))))))))), ?_⟩
    rw [Th.depth] at hd
    rw [Th.size] at hz
    have hsl := Th.sizes_len us
    have hxl := hA.len
    have hyl := hB.len
    have htu := Th.likes_len lk
    obtain ⟨na, nd'⟩ := List.nodup_cons.mp nd
    have lM := hM.lists
    refine ⟨fun m σ' H' => σ' = [some (.ref a), some (.ref b), none, none] ∧ H' = H, ⟨0, rfl, rfl⟩, ?_⟩
    rintro m σ' H' ⟨rfl, rfl⟩
    refine ⟨_, rfl, a, _, rfl, .inl (SqL.of ha), _, rfl, b, _, rfl, .inl (SqL.of hb), _, _, rfl, rfl, _, rfl, iteFb (decide_eq_false (by omega)) ?_⟩
    refine ⟨_, rfl, b, _, rfl, SqL.of hb, ?_⟩
    refine for_enum (K := K) (a := b) (xs := ys) (fun i σ Hx => ∃ (x2 x3 : Option V) (zsA zsB : List V) (SA SB : List Addr), σ = [some (.ref a), some (.ref b), x2, x3] ∧ S' = SA ++ SB ∧ Out (a :: S') H' Hx ∧ Hx a = some (.lst (zsA ++ zsB)) ∧ zsA.length = i ∧ HoldsAll Hx zsA (us.take i) SA ∧ HoldsAll Hx zsB (ts.drop i) SB) ⟨none, none, [], xs, [], S', rfl, rfl, Out.refl _ _, ha, rfl, .nil, by rw [List.drop_zero]; exact hA⟩ ?_ ?_ ?_
    · rintro i σ Hx ⟨x2, x3, zsA, zsB, SA, SB, rfl, _, oX, _⟩
      exact SqL.of (oX b _ (dis b List.mem_cons_self) hb)
    · rintro i y Tp σ Hx hi ⟨x2, x3, zsA, zsB, SA, SB, rfl, eS, oX, hax, hli, hAx, hBx⟩ nT
      have hil := (List.getElem?_eq_some_iff.mp hi).1
      have sT := same_new nT (.tup [.int (i : Nat), y])
      have hT' : upd Hx Tp (.tup [.int (i : Nat), y]) Tp = some (.tup [.int (i : Nat), y]) := upd_same
      generalize upd Hx Tp (.tup [.int (i : Nat), y]) = Ht at sT hT' ⊢
      obtain ⟨u, Su, hui, hy, hSu⟩ := hB.get hi
      have hyX : Holds Hx y u Su := hy.out oX lM (fun c hc z => dis c (List.mem_cons_of_mem _ (hSu c hc)) z)
      have hyT := hyX.mono sT
      have h1 := Th.depths_get hui
      have h2 := Th.sizes_get hui
      have hzl : zsB.length = ts.length - i := by
        rw [hBx.len, List.length_drop]
      obtain ⟨z, zr, rfl⟩ : ∃ z zr, zsB = z :: zr := by
        match zsB, hzl with
        | z :: zr, _ => exact ⟨z, zr, rfl⟩
        | [], e => simp at e; omega
      obtain ⟨t, S1, S3, hti, eB, hzt, hr2⟩ := HoldsAll.pop (i := 0) (xs := z :: zr) (ts := ts.drop i) (x := z) (by rw [List.drop_zero, List.drop_zero]; exact hBx) rfl
      rw [List.drop_drop] at hr2
      rw [List.getElem?_drop, Nat.add_zero] at hti
      have hr2 : HoldsAll Hx zr (ts.drop (i + 1)) S3 := hr2
      have lku := Th.likes_get lk hti hui
      rw [eB] at eS
      have haT := sT _ _ hax
      refine ⟨Tp, _, rfl, SqT.of hT', rfl, _, _, rfl, _, _, rfl, rfl, ?_⟩
      refine ⟨_, rfl, _, rfl, a, _, rfl, .inl (SqL.of haT), rfl, _, rfl, iteFb (decide_eq_false (fun e => ?_)) ?_⟩
      · have e2 : ((i : Nat) : Int) = ((zsA ++ z :: zr).length : Int) := by
          injection e
        rw [List.length_append, List.length_cons] at e2
        omega
      have ndS : (SA ++ (S1 ++ S3)).Nodup := by rw [← eS]; exact nd'
      have naS : a ∉ SA ++ (S1 ++ S3) := by rw [← eS]; exact na
      obtain ⟨ndA, nd13, disA⟩ := List.nodup_append.mp ndS
      obtain ⟨nd1, nd3, dis13⟩ := List.nodup_append.mp nd13
      have atz : atI (zsA ++ z :: zr) ((i : Nat) : Int) = some z := atI_nat (by rw [← hli]; exact at_mid zsA z zr)
      cases hyT with
      | leaf hl =>
        obtain ⟨T', pv, hT⟩ := hl.pv (K := K)
        cases hzt with
        | node h' t' => exact lku.elim
        | leaf hlz =>
          refine ⟨_, rfl, _, _, _, _, _, rfl, .ty _, pv.ty, kit_list pv.mem, _, rfl, ?_⟩
          rw [hT]
          refine iteF ?_
          refine iteF ?_
          refine ⟨_, rfl, y, .leaf y, [], rfl, .leaf hl, by rw [Th.depth]; omega, by rw [Th.size]; omega, fun Hy y' S'' sy n' nd' hy' => ?_⟩
          cases hy' with
          | leaf hl' =>
            have hay := sy _ _ haT
            refine ⟨_, rfl, _, rfl, a, _, _, i, rfl, rfl, hay, ixN_lt (by rw [List.length_append, List.length_cons]; omega), gen_put hay fun Hz sz hz' => ?_⟩
            rw [← hli, set_mid] at hz'
            have sxy : Same Hx Hy := sT.trans sy
            have outz : Out [a] Hx Hz := (Out.of sxy).trans (Out.but sz List.mem_cons_self)
            have la : ∀ c ∈ [a], ∃ xs, Hx c = some (.lst xs) := fun c hc => ⟨zsA ++ z :: zr, by rw [List.mem_singleton.mp hc]; exact hax⟩
            have leafz : Leaf Hz y := hl'.out (Out.but sz (S := [a]) List.mem_cons_self) (fun c hc => ⟨zsA ++ z :: zr, by rw [List.mem_singleton.mp hc]; exact hay⟩)
            refine ⟨_, _, zsA ++ [y], zr, SA, S3, rfl, eS, oX.trans (outz.mono fun c hc => by rw [List.mem_singleton.mp hc]; exact List.mem_cons_self), hz', by rw [List.length_append, hli]; rfl, ?_, hr2.out outz la (fun c hc z => naS (by rw [← List.mem_singleton.mp z]; exact List.mem_append_right _ (List.mem_append_right _ hc)))⟩
            rw [List.take_add_one, hui]
            have r := HoldsAll.app (.cons (.leaf leafz) .nil) (hAx.out outz la (fun c hc z => naS (by rw [← List.mem_singleton.mp z]; exact List.mem_append_left _ hc)))
            rw [List.append_nil, List.append_nil] at r
            exact r
      | @node e ys' us' Se hse te =>
        cases hzt with
        | leaf h' => exact lku.elim
        | @node c zs' ts' Sc hc' tc =>
          have hcT := sT _ _ hc'
          refine ⟨_, rfl, _, _, _, _, _, rfl, .ty _, (pv_sq (SqL.of hse)).ty, kit_list (T := "list") (by decide), _, rfl, iteT ?_⟩
          refine ⟨_, rfl, _, rfl, a, _, _, _, rfl, rfl, SqL.of haT, atz, _, _, _, _, _, rfl, .ty _, (pv_sq (SqL.of hcT)).ty, kit_list (T := "list") (by decide), _, rfl, iteT ?_⟩
          have hM1 : Holds Ht (.ref c) (.node ts') (c :: Sc) := (Holds.node hc' tc).mono sT
          refine ⟨_, rfl, _, rfl, a, _, _, _, rfl, rfl, SqL.of haT, atz, _, rfl, c, e, ts', us', c :: Sc, e :: Se, rfl, hM1, nd1, .node hse te, fun d hd1 hd2 => ?_, lku, by omega, by omega, fun Hy oy hy => ?_⟩
          · exact dis d (List.mem_cons_of_mem _ (hSu d hd1)) (List.mem_cons_of_mem _ (by rw [eS]; exact List.mem_append_right _ (List.mem_append_left _ hd2)))
          · have l1 := hM1.lists
            have outy : Out (c :: Sc) Hx Hy := (Out.of sT).trans oy
            have l1x := (Holds.node hc' tc).lists
            refine ⟨_, _, zsA ++ [.ref c], zr, SA ++ (c :: Sc), S3, rfl, by rw [eS, List.append_assoc], oX.trans (outy.mono fun d hd1 => List.mem_cons_of_mem _ (by rw [eS]; exact List.mem_append_right _ (List.mem_append_left _ hd1))), ?_, by rw [List.length_append, hli]; rfl, ?_, hr2.out outy l1x (fun d hd1 hd2 => dis13 d hd2 d hd1 rfl)⟩
            · rw [List.append_assoc]
              exact outy a _ (fun z => naS (List.mem_append_right _ (List.mem_append_left _ z))) hax
            · rw [List.take_add_one, hui]
              have r := HoldsAll.app (.cons hy .nil) (hAx.out outy l1x (fun d hd1 hd2 => disA d hd1 d (List.mem_append_left _ hd2) rfl))
              rw [List.append_nil] at r
              exact r
    · rintro σ Hx ⟨x2, x3, zsA, zsB, SA, SB, rfl, eS, oX, hax, hli, hAx, hBx⟩
      rw [hyl, List.take_length] at hAx
      rw [hyl, ← htu, List.drop_length] at hBx
      cases hBx with
      | nil =>
        rw [List.append_nil] at hax eS
        refine q Hx oX ?_
        rw [eS]
        exact .node hax hAx
theorem laid_all (T : Tx K mg A) : ∀ n : Nat, FnOk P w K mg base CX0 (n + 4) A.f__law_laid A.d__law_laid ["_law_mine", "_law_other"] (spLay K n)
  | 0 => by
    refine ⟨fun vs H Q E h => ?_, fun A' outer s H args us vs Q E hr e0 hb r h => ?_⟩
    · obtain ⟨a, b, ts, us, S, S2, rfl, _⟩ := h
      rfl
    · obtain ⟨a, b, ts, us, S, S2, _, _, _, _, _, _, hd, _⟩ := h
      exact absurd hd (Nat.not_lt_zero _)
  | n + 1 => step__law_laid T (laid_all T n)
theorem ok__law_laid (T : Tx K mg A) : FnOk P w K mg base CX0 8 A.f__law_laid A.d__law_laid ["_law_mine", "_law_other"] (spLay K 4) := laid_all T 4
end
end K08
namespace K08
open PySem PySem.Spec PyProof.Rows L2 LamX RE
section
variable {P : Program} {w : World} {K : PySem.W.Frag} {mg : Str → Option Value} {base : Heap} {A : Ad}
theorem ok__law_row (T : Tx K mg A) : FnOk P w K mg base CX0 1 A.f__law_row A.d__law_row ["_law_cells", "_law_many", "_law_by"] (spRow8 K) := by
  refine T.F_law_row.ok sc__law_row (fun vs H Q E h => ?_) (fun cdv A' outer s H vs Q E hr h => ?_)
  · obtain ⟨c, ds, m, b, rfl, _⟩ := h
    rfl
  · obtain ⟨c, ds, m, b, rfl, hc, hpos, hm, hb0, hb1, q⟩ := h
    refine ⟨_, (pss_one (ps_ret (pe_lc (own := [("_law_at", 3)]) (by rfl) sc__law_row.nd (pi_range1 (by rfl) T.brange (pa_cons (pv 1) pa_nil)) (blkOk_by (own := [("_law_at", 3)]) (N := N__law_row) (sc := defScope s__law_row) (by decide +kernel)) (fun _ _ _ _ _ => (pg_name (i := 3) sc__law_row.nd rfl (Or.inl rfl))) (fun _ _ _ _ _ => pts_nil) (fun _ _ _ _ _ => (pe_op op_mod (pe_op op_add (pe_op op_fdiv (pe_callB call_abs (by rfl) T.babs (by decide +kernel) (pa_cons (pe_ix (ix_list : IxR _ (rIxL K)) (pv 0) (pe_op op_mod (pe_op op_add (pv 3) (pv 2)) (pe_callB (call_lenK : CallR _ _ (rLenK K)) (by rfl) T.blen PySem.boot_len (pa_cons (pv 0) pa_nil))) (fun _ _ => rfl)) pa_nil)) (pe_op op_add pe_int (pv 2))) (pe_op op_mul (pv 3) (pv 2))) pe_int))))), ?_⟩
    refine ⟨_, rfl, _, rfl, by omega, by omega, fun D nD => ?_⟩
    refine lc_range (lo := 0) (n := ((m : Nat) : Int).toNat) (fun i Hx => Same H Hx ∧ ∃ rs : List Int, rs.length = i ∧ (∀ z ∈ rs, 0 ≤ z ∧ z ≤ 1000000) ∧ Hx D = some (.lst (rs.map V.int))) ⟨same_new nD _, [], rfl, fun z hz => (nomatch hz), upd_same⟩ ?_ ?_
    · rintro i Hx hi ⟨sx, rs, hrs, hok, hD⟩
      rw [Int.toNat_natCast] at hi
      have hcx := sx.seq hc
      have el : ((ds.map V.int).length : Int) = (ds.length : Int) := by rw [List.length_map]
      have hm0 : 0 ≤ (0 + (i : Int) + b) % ((ds.map V.int).length : Int) := Int.emod_nonneg _ (by omega)
      have hm1 : (0 + (i : Int) + b) % ((ds.map V.int).length : Int) < ((ds.map V.int).length : Int) := Int.emod_lt_of_pos _ (by omega)
      refine ⟨rfl, _, rfl, _, rfl, _, rfl, _, _, rfl, rfl, _, rfl, c, _, rfl, .inl hcx, _, _, rfl, rfl, (by show (0 : Int) < ((ds.map V.int).length : Int); omega), c, _, _, _, rfl, rfl, hcx, at_get (j := ((0 + (i : Int) + b) % ((ds.map V.int).length : Int)).toNat) (by omega) (by omega), _, rfl, _, rfl, _, _, rfl, rfl, _, _, rfl, rfl, ⟨by omega, by omega⟩, ?_⟩
      refine ⟨_, rfl, _, rfl, _, _, rfl, rfl, .inr ⟨by omega, by omega⟩, _, _, rfl, rfl, _, _, rfl, rfl, (by show (0 : Int) < 50; decide), ?_⟩
      refine ⟨_, hD, by rw [List.length_map]; exact size_lt (by omega), fun c o e => ?_, rs ++ [_], by rw [List.length_append, hrs]; rfl, fun z hz => ?_, by rw [upd_same, List.map_append]; rfl⟩
      · rw [upd_ne (ne_of_none e nD)]
        exact sx _ _ e
      · rcases List.mem_append.mp hz with hz | hz
        · exact hok z hz
        · rw [List.mem_singleton] at hz
          omega
    rintro Hx ⟨sx, rs, hrs, hok, hD⟩
    rw [Int.toNat_natCast] at hrs
    exact q Hx D rs sx nD hD hrs hok
theorem ok__law_told (T : Tx K mg A) : FnOk P w K mg base CX0 1 A.f__law_told A.d__law_told ["_law_found"] (spTold8 A.C_Gets A.C_Held) := by
  refine T.F_law_told.ok sc__law_told (fun vs H Q E h => ?_) (fun cdv A' outer s H vs Q E hr h => ?_)
  · obtain ⟨o, l, dx, first, rfl, _⟩ := h
    rfl
  · obtain ⟨o, l, dx, first, rfl, ho, q⟩ := h
    refine ⟨_, (pss_one (ps_ret (pe_fld (pv 0) rfl))), ?_⟩
    cases first with
    | true => exact ⟨_, rfl, o, _, _, _, _, rfl, ho, T.clGets, T.npGets, rfl, q⟩
    | false => exact ⟨_, rfl, o, _, _, _, _, rfl, ho, T.clHeld, T.npHeld, rfl, q⟩
theorem ok__law_door_right (T : Tx K mg A) : FnOk P w K mg base CX0 30 A.f__law_door_right A.d__law_door_right ["_law_ask", "_law_one", "_law_other"] (spDoor8 P w K mg base) := by
  have G_law_copied : FnOk P w K mg base CX0 4 A.f__law_copied A.d__law_copied ["_law_thing"] (spCopy K 4) := ok__law_copied T
  have G_law_spoiled : FnOk P w K mg base CX0 4 A.f__law_spoiled A.d__law_spoiled ["_law_thing"] (spSpoil K 4) := ok__law_spoiled T
  have G_law_laid : FnOk P w K mg base CX0 8 A.f__law_laid A.d__law_laid ["_law_mine", "_law_other"] (spLay K 4) := ok__law_laid T
  refine T.F_law_door_right.ok sc__law_door_right (fun vs H Q E h => ?_) (fun cdv A' outer s H vs Q E hr h => ?_)
  · obtain ⟨f, a, b, D, sp, ts, us, r1, r2, S, S2, rfl, _⟩ := h
    rfl
  · obtain ⟨f, a, b, D, sp, ts, us, r1, r2, S, S2, rfl, hcall, hD, hA, hB, lk, lk', ft, fu, f1, f2, ask1, ask2, q⟩ := h
    refine ⟨_, (pss_cons (ps_set (i := 3) sc__law_door_right.nd rfl (Or.inl rfl) (pe_call G_law_copied (hr.mono (by first | decide | omega)) (by rfl) T.g_law_copied T.F_law_copied.kp T.b_law_copied .nil pass0 (pa_cons (pv 1) pa_nil)))
      (pss_cons (ps_set (i := 4) sc__law_door_right.nd rfl (Or.inl rfl) (show PE _ _ (tCallF P w K mg base 29 0 (fun _ => E0) _) from pe_callF (k := 29) (hr.mono (by first | decide | omega)) (i := 0) rfl (Or.inl rfl) (fun σ => passAt0 σ) (pa_cons (pv 3) pa_nil)))
      (pss_cons (ps_if (pt_cmpR (op_neD hr.units) (pv 3) (pv 1) (nomark _)) (pss_one (ps_ret pe_bl)) pss_nil)
      (pss_cons (ps_set (i := 5) sc__law_door_right.nd rfl (Or.inl rfl) (pe_call G_law_copied (hr.mono (by first | decide | omega)) (by rfl) T.g_law_copied T.F_law_copied.kp T.b_law_copied .nil pass0 (pa_cons (pv 4) pa_nil)))
      (pss_cons (ps_expr (pe_call G_law_spoiled (hr.mono (by first | decide | omega)) (by rfl) T.g_law_spoiled T.F_law_spoiled.kp T.b_law_spoiled .nil pass0 (pa_cons (pv 4) pa_nil)))
      (pss_cons (ps_if (pt_cmpR (op_neD hr.units) (show PE _ _ (tCallF P w K mg base 29 0 (fun _ => E0) _) from pe_callF (k := 29) (hr.mono (by first | decide | omega)) (i := 0) rfl (Or.inl rfl) (fun σ => passAt0 σ) (pa_cons (pv 3) pa_nil)) (pv 5) (nomark _)) (pss_one (ps_ret pe_bl)) pss_nil)
      (pss_cons (ps_expr (pe_call G_law_laid (hr.mono (by first | decide | omega)) (by rfl) T.g_law_laid T.F_law_laid.kp T.b_law_laid .nil pass0 (pa_cons (pv 3) (pa_cons (pv 2) pa_nil))))
      (pss_cons (ps_if (PW.pt (pw_or (pt_cmpR (op_neD hr.units) (show PE _ _ (tCallF P w K mg base 29 0 (fun _ => E0) _) from pe_callF (k := 29) (hr.mono (by first | decide | omega)) (i := 0) rfl (Or.inl rfl) (fun σ => passAt0 σ) (pa_cons (pv 3) pa_nil)) (show PE _ _ (tCallF P w K mg base 29 0 (fun _ => E0) _) from pe_callF (k := 29) (hr.mono (by first | decide | omega)) (i := 0) rfl (Or.inl rfl) (fun σ => passAt0 σ) (pa_cons (pe_call G_law_copied (hr.mono (by first | decide | omega)) (by rfl) T.g_law_copied T.F_law_copied.kp T.b_law_copied .nil pass0 (pa_cons (pv 2) pa_nil)) pa_nil)) (nomark _)) (pw_or1 (pt_cmpR (op_neD hr.units) (pv 3) (pv 2) (nomark _))))) (pss_one (ps_ret pe_bl)) pss_nil)
      (pss_cons (ps_expr (pe_call G_law_laid (hr.mono (by first | decide | omega)) (by rfl) T.g_law_laid T.F_law_laid.kp T.b_law_laid .nil pass0 (pa_cons (pv 3) (pa_cons (pv 1) pa_nil))))
      (pss_one (ps_ret (pe_and (pe_cmpR (op_eqD hr.units) (show PE _ _ (tCallF P w K mg base 29 0 (fun _ => E0) _) from pe_callF (k := 29) (hr.mono (by first | decide | omega)) (i := 0) rfl (Or.inl rfl) (fun σ => passAt0 σ) (pa_cons (pv 3) pa_nil)) (pv 5) (nomark _)) (pe_one (pe_cmpR (op_eqD hr.units) (pv 3) (pv 1) (nomark _))))))))))))))), ?_⟩
    -- mine
    refine ⟨_, rfl, .ref a, .node ts, S, rfl, hA, ft.deep, ft.many, fun H1 y SM s1 nM ndM hM => ?_⟩
    obtain ⟨m, rfl⟩ := hM.isref
    have lM1 := hM.lists
    -- given
    refine ⟨f, D, sp, rfl, hcall, hD.trans s1, _, rfl, hD.trans s1, ask1 H1 (.ref m) SM (hD.trans s1) s1 hM _ _ fun H2 g SG s2 nG ndG hG => ?_⟩
    have s02 := s1.trans s2
    have hM2 := hM.mono s2
    have hA2 := hA.mono s02
    refine ⟨_, rfl, _, rfl, _, _, (Holds.dp (K := K) hM2).1, (Holds.dp (K := K) hA2).1, shp (K := K) hM2 ft.deep, shp (K := K) hM2 ft.deep, _, rfl, iteFb (not_t (eqv_same (shp (K := K) hM2 ft.deep))) ?_⟩
    -- before
    refine ⟨_, rfl, .ref g, .node r1, SG, rfl, hG, f1.deep, f1.many, fun H3 y SB s3 nB ndB hBf => ?_⟩
    obtain ⟨bf, rfl⟩ := hBf.isref
    have hG3 := hG.mono s3
    have lG3 := hG3.lists
    -- spoiled(given)
    refine ⟨_, rfl, g, r1, SG, rfl, hG3, ndG, f1.deep, f1.many, fun H4 o4 => ?_⟩
    have s04 : Same H H4 := o4.same (s02.trans s3) (none_back s1 nG)
    have mg_ : ∀ c ∈ SM, c ∉ SG := apart lM1 nG
    have bg_ : ∀ c ∈ SB, c ∉ SG := fun c hc z => apart hG.lists nB c z hc
    have hM4 := (hM2.mono s3).out o4 lG3 mg_
    have hB4 := hBf.out o4 lG3 bg_
    -- ask(mine) != before
    refine ⟨f, D, sp, rfl, hcall, hD.trans s04, _, rfl, hD.trans s04, ask1 H4 (.ref m) SM (hD.trans s04) s04 hM4 _ _ fun H5 y5 S5 s5 n5 nd5 hY5 => ?_⟩
    have hB5 := hB4.mono s5
    refine ⟨_, rfl, _, _, (Holds.dp (K := K) hY5).1, (Holds.dp (K := K) hB5).1, shp (K := K) hY5 f1.deep, shp (K := K) hY5 f1.deep, _, rfl, iteFb (not_t (eqv_same (shp (K := K) hY5 f1.deep))) ?_⟩
    have s05 := s04.trans s5
    have hM5 := hM4.mono s5
    have lM5 := hM5.lists
    -- laid(mine, other)
    refine ⟨_, rfl, _, rfl, m, b, ts, us, SM, S2, rfl, hM5, ndM, hB.mono s05, apart hB.lists nM, lk, fu.deep, fu.many, fun H6 o6 hM6 => ?_⟩
    have s06 : Same H H6 := o6.same s05 nM
    have bm_ : ∀ c ∈ SB, c ∉ SM := fun c hc z => apart hM2.lists nB c z hc
    have hB6 := hB5.out o6 lM5 bm_
    -- ask(mine) != ask(copied(other))
    refine ⟨f, D, sp, rfl, hcall, hD.trans s06, _, rfl, hD.trans s06, ask2 H6 (.ref m) SM (hD.trans s06) s06 hM6 _ _ fun H7 y7 S7 s7 n7 nd7 hY7 => ?_⟩
    have s07 := s06.trans s7
    refine ⟨f, D, sp, rfl, hcall, hD.trans s07, _, rfl, .ref b, .node us, S2, rfl, hB.mono s07, fu.deep, fu.many, fun H8 y8 S8 s8 n8 nd8 hY8 => ?_⟩
    have s08 := s07.trans s8
    refine ⟨hD.trans s08, ask2 H8 y8 S8 (hD.trans s08) s08 hY8 _ _ fun H9 y9 S9 s9 n9 nd9 hY9 => ?_⟩
    have s09 := s08.trans s9
    have hY79 := hY7.mono (s8.trans s9)
    refine ⟨_, _, (Holds.dp (K := K) hY79).1, (Holds.dp (K := K) hY9).1, shp (K := K) hY9 f2.deep, shp (K := K) hY9 f2.deep, _, rfl, iteFb (not_t (eqv_same (shp (K := K) hY9 f2.deep))) ?_⟩
    have hM9 := hM6.mono (s7.trans (s8.trans s9))
    have hO9 := hB.mono s09
    refine ⟨_, rfl, _, rfl, _, _, (Holds.dp (K := K) hM9).1, (Holds.dp (K := K) hO9).1, shp (K := K) hM9 fu.deep, shp (K := K) hM9 fu.deep, _, rfl, iteFb (not_t (eqv_same (shp (K := K) hM9 fu.deep))) ?_⟩
    have hB9 := hB6.mono (s7.trans (s8.trans s9))
    -- laid(mine, one)
    refine ⟨_, rfl, _, rfl, m, a, us, ts, SM, S, rfl, hM9, ndM, hA.mono s09, apart hA.lists nM, lk', ft.deep, ft.many, fun Hx ox hMx => ?_⟩
    have s0x : Same H Hx := ox.same s09 nM
    have hBx := hB9.out ox hM9.lists bm_
    -- the end
    refine ⟨f, D, sp, rfl, hcall, hD.trans s0x, _, rfl, hD.trans s0x, ask1 Hx (.ref m) SM (hD.trans s0x) s0x hMx _ _ fun Hy yy Sy sy ny ndy hYy => ?_⟩
    have hBy := hBx.mono sy
    refine ⟨_, rfl, _, _, (Holds.dp (K := K) hYy).1, (Holds.dp (K := K) hBy).1, shp (K := K) hYy f1.deep, shp (K := K) hYy f1.deep, _, rfl, iteTb (eqv_same (shp (K := K) hYy f1.deep)) ?_⟩
    have s0y := s0x.trans sy
    have hMy := hMx.mono sy
    have hAy := hA.mono s0y
    refine ⟨_, rfl, _, rfl, _, _, (Holds.dp (K := K) hMy).1, (Holds.dp (K := K) hAy).1, shp (K := K) hMy ft.deep, shp (K := K) hMy ft.deep, ?_⟩
    rw [eqv_same (shp (K := K) hMy ft.deep)]
    exact q Hy s0y
theorem ok__law_free_right (T : Tx K mg A) : FnOk P w K mg base CX0 30 A.f__law_free_right A.d__law_free_right ["_law_ask", "_law_holds", "_law_one", "_law_other"] (spFree8 P w K mg base A.C_Gets A.C_Held) := by
  have G_law_copied : FnOk P w K mg base CX0 4 A.f__law_copied A.d__law_copied ["_law_thing"] (spCopy K 4) := ok__law_copied T
  have G_law_spoiled : FnOk P w K mg base CX0 4 A.f__law_spoiled A.d__law_spoiled ["_law_thing"] (spSpoil K 4) := ok__law_spoiled T
  have G_law_laid : FnOk P w K mg base CX0 8 A.f__law_laid A.d__law_laid ["_law_mine", "_law_other"] (spLay K 4) := ok__law_laid T
  have G_law_told : FnOk P w K mg base CX0 1 A.f__law_told A.d__law_told ["_law_found"] (spTold8 A.C_Gets A.C_Held) := ok__law_told T
  refine T.F_law_free_right.ok sc__law_free_right (fun vs H Q E h => ?_) (fun cdv A' outer s H vs Q E hr h => ?_)
  · obtain ⟨f, g, a, b, D, D2, sp, sp2, ns, ms, first, rfl, _⟩ := h
    rfl
  · obtain ⟨f, g, a, b, D, D2, sp, sp2, ns, ms, first, rfl, hf, hD, hg, hD2, ha, hb, okn, okm, hnm, ask, holds, q⟩ := h
    refine ⟨_, (pss_cons (ps_set (i := 4) sc__law_free_right.nd rfl (Or.inl rfl) (pe_call G_law_copied (hr.mono (by first | decide | omega)) (by rfl) T.g_law_copied T.F_law_copied.kp T.b_law_copied .nil pass0 (pa_cons (pv 2) pa_nil)))
      (pss_cons (ps_for PassesOwn.never rfl (pi_tup (pe_tup (pa_cons (pv 2) (pa_cons (pv 2) (pa_cons (pv 3) (pa_cons (pv 2) pa_nil)))))) (pg_name (i := 5) sc__law_free_right.nd rfl (Or.inl rfl))
      (pss_cons (ps_expr (pe_call G_law_laid (hr.mono (by first | decide | omega)) (by rfl) T.g_law_laid T.F_law_laid.kp T.b_law_laid .nil pass0 (pa_cons (pv 4) (pa_cons (pv 5) pa_nil))))
      (pss_cons (ps_set (i := 6) sc__law_free_right.nd rfl (Or.inl rfl) (show PE _ _ (tCallF P w K mg base 29 0 (fun _ => E0) _) from pe_callF (k := 29) (hr.mono (by first | decide | omega)) (i := 0) rfl (Or.inl rfl) (fun σ => passAt0 σ) (pa_cons (pv 4) pa_nil)))
      (pss_cons (ps_if (PW.pt (pw_or (pt_cmpR (op_neD hr.units) (pv 4) (pv 5) (nomark _)) (pw_or1 (pt_cmpR op_notBl (show PE _ _ (tCallF P w K mg base 29 1 (fun _ => E0) _) from pe_callF (k := 29) (hr.mono (by first | decide | omega)) (i := 1) rfl (Or.inl rfl) (fun σ => passAt0 σ) (pa_cons (pv 6) (pa_cons (pe_call G_law_copied (hr.mono (by first | decide | omega)) (by rfl) T.g_law_copied T.F_law_copied.kp T.b_law_copied .nil pass0 (pa_cons (pv 5) pa_nil)) pa_nil))) pe_bl (nomark _))))) (pss_one (ps_ret pe_bl)) pss_nil)
      (pss_one (ps_expr (pe_call G_law_spoiled (hr.mono (by first | decide | omega)) (by rfl) T.g_law_spoiled T.F_law_spoiled.kp T.b_law_spoiled .nil pass0 (pa_cons (pe_call G_law_told (hr.mono (by first | decide | omega)) (by rfl) T.g_law_told T.F_law_told.kp T.b_law_told .nil pass0 (pa_cons (pv 6) pa_nil)) pa_nil))))))))
      (pss_one (ps_ret (pe_cmpR (op_eqD hr.units) (pv 4) (pv 2) (nomark _)))))), ?_⟩
    have ftn : Fit (tr ns) := tr_fit (by have := okn.1; omega)
    refine ⟨_, rfl, .ref a, .node (tr ns), [a], rfl, tr_row ha, ftn.deep, ftn.many, fun H1 y SM s1 nM ndM hM => ?_⟩
    obtain ⟨m, rfl, hm1, rfl⟩ := tr_inv hM
    have nm : H m = none := nM m List.mem_cons_self
    refine ⟨_, rfl, _, rfl, _, rfl, _, rfl, (by show 4 ≤ sizeLine; decide), fun p np => gen_heap np fun H2 s2 hp => ?_⟩
    have s12 := s1.trans s2
    have nmp : m ≠ p := ne_of_none hm1 np
    refine ⟨p, rfl, ⟨_, SqT.of hp⟩, ?_⟩
    refine for_tup (K := K) (a := p) (xs := [.ref a, .ref a, .ref b, .ref a]) (fun i σ Hx => ∃ (x5 x6 : Option V) (ks : List Int), σ = [some (.ref f), some (.ref g), some (.ref a), some (.ref b), some (.ref m), x5, x6] ∧ Same H Hx ∧ Hx m = some (.lst (ks.map V.int)) ∧ ks.length = ns.length ∧ Hx p = some (.tup [.ref a, .ref a, .ref b, .ref a]) ∧ (0 < i → i ≠ 3 → ks = ns)) ⟨_, _, ns, rfl, s12, s2 _ _ hm1, rfl, hp, fun _ _ => rfl⟩ ?_ ?_ ?_
    · rintro i σ Hx _ ⟨x5, x6, ks, rfl, _, _, _, hpx, _⟩
      exact SqT.of hpx
    · rintro i y σ Hx hi ⟨x5, x6, ks, rfl, sx, hmx, hkl, hpx, _⟩
      obtain ⟨t, js, rfl, ht, okj, hjl, hji⟩ : ∃ (t : Addr) (js : List Int), y = .ref t ∧ H t = some (.lst (js.map V.int)) ∧ RowOk js ∧ js.length = ns.length ∧ (i + 1 ≠ 3 → js = ns) := by
        match i, hi with
        | 0, hi => exact ⟨a, ns, (Option.some.inj hi).symm, ha, okn, rfl, fun _ => rfl⟩
        | 1, hi => exact ⟨a, ns, (Option.some.inj hi).symm, ha, okn, rfl, fun _ => rfl⟩
        | 2, hi => exact ⟨b, ms, (Option.some.inj hi).symm, hb, okm, hnm.symm, fun z => absurd rfl z⟩
        | 3, hi => exact ⟨a, ns, (Option.some.inj hi).symm, ha, okn, rfl, fun _ => rfl⟩
        | n + 4, hi => simp at hi
      have ftj : Fit (tr js) := tr_fit (by have := okj.1; omega)
      have htx := sx _ _ ht
      -- laid(mine, things)
      refine ⟨_, rfl, _, rfl, m, t, tr ks, tr js, [m], [t], rfl, tr_row hmx, (by simp), tr_row htx, (fun c hc z => ?_), tr_likes (by omega), ftj.deep, ftj.many, fun H3 o3 hM3 => ?_⟩
      · rw [List.mem_singleton.mp hc, List.mem_singleton] at z
        rw [z, nm] at ht
        cases ht
      obtain ⟨m', em, hm3, _⟩ := tr_inv hM3
      cases em
      have n1 : ∀ c ∈ [m], H c = none := fun c hc => by rw [List.mem_singleton.mp hc]; exact nm
      have s03 : Same H H3 := o3.same sx n1
      have hp3 := o3 p _ (fun z => nmp (List.mem_singleton.mp z).symm) hpx
      -- found
      refine ⟨f, D, sp, rfl, hf, hD.trans s03, _, rfl, hD.trans s03, ask H3 m js s03 hm3 okj _ _ fun H4 o dx l xs s4 no nl ho hl hT => ?_⟩
      have s04 := s03.trans s4
      have hm4 := s4 _ _ hm3
      have ht4 := s04 _ _ ht
      refine ⟨_, rfl, _, rfl, _, _, dp_lst (SqL.of hm4) (ok_ints js), dp_lst (SqL.of ht4) (ok_ints js), shl_flat (ok_ints js), shl_flat (ok_ints js), _, rfl, iteFb (not_t (eqv_same (shl_flat (ok_ints js)))) ?_⟩
      refine ⟨g, D2, sp2, rfl, hg, hD2.trans s04, _, rfl, _, rfl, .ref t, .node (tr js), [t], rfl, tr_row ht4, ftj.deep, ftj.many, fun H5 y5 S5 s5 n5 nd5 hY5 => ?_⟩
      obtain ⟨r5, rfl, hr5, _⟩ := tr_inv hY5
      have s05 := s04.trans s5
      refine ⟨hD2.trans s05, holds H5 r5 o dx l js xs s05 hr5 okj (s5 _ _ ho) (s5 _ _ hl) (hT.mono s5) _ _ fun H6 s6 => ?_⟩
      refine ⟨_, _, rfl, rfl, _, rfl, iteF ?_⟩
      have s06 := s05.trans s6
      have ho6 := s6 _ _ (s5 _ _ ho)
      have hl6 := s6 _ _ (s5 _ _ hl)
      have hT6 := hT.mono (s5.trans s6)
      -- spoiled(told(found))
      have hxl : xs.length ≤ 144 := by rw [hT.len]; exact planV_144 okj.1
      have ftx : Fit (xs.map Th.leaf) := leaves_fit (by omega)
      refine ⟨_, rfl, o, l, dx, first, rfl, ho6, l, xs.map Th.leaf, [l], rfl, .node hl6 (leaves_hold (tris_leaves hT6 (planV_txt js first))), (by simp), ftx.deep, ftx.many, fun H7 o7 => ?_⟩
      have nlH : H l = none := s03.free nl
      have lm : m ≠ l := ne_of_none hm3 nl
      have lp : p ≠ l := ne_of_none hp3 nl
      have s07 : Same H H7 := o7.same s06 (fun c hc => by rw [List.mem_singleton.mp hc]; exact nlH)
      refine ⟨_, _, js, rfl, s07, o7 m _ (fun z => lm (List.mem_singleton.mp z)) (s6 _ _ (s5 _ _ hm4)), by omega, o7 p _ (fun z => lp (List.mem_singleton.mp z)) (s6 _ _ (s5 _ _ (s4 _ _ hp3))), fun _ hi3 => hji hi3⟩
    · rintro σ Hx ⟨x5, x6, ks, rfl, sx, hmx, hkl, _, hks⟩
      obtain rfl : ks = ns := hks (by show 0 < 4; decide) (by show 4 ≠ 3; decide)
      refine ⟨_, rfl, _, rfl, _, _, dp_lst (SqL.of hmx) (ok_ints ks), dp_lst (SqL.of (sx _ _ ha)) (ok_ints ks), shl_flat (ok_ints ks), shl_flat (ok_ints ks), ?_⟩
      rw [eqv_same (shl_flat (ok_ints ks))]
      exact q Hx sx
end
end K08
namespace K08
open PySem PySem.Spec PyProof.Rows L2 LamX NdefX RE
section
variable {P : Program} {w : World} {K : PySem.W.Frag} {mg : Str → Option Value} {base : Heap} {A : Ad}
theorem greedy_len8 (ns : List Int) : ∀ n low, (greedyV ns n low).length = n
  | 0, low => rfl
  | n + 1, low => by
    rw [greedyV_succ, List.length_cons, greedy_len8 ns n]
def spAsk8 (G D : Addr) (first : Bool) : Sp := fun vs H2 Q E => ∃ (r : Addr) (ks : List Int), vs = [.ref r] ∧ H2 r = some (.lst (ks.map V.int)) ∧ RowOk ks ∧ ∀ H' o dx l xs, Same H2 H' → H2 o = none → H2 l = none → H' o = some (.ins (if first = true then G else D) dx [("plan", .ref l)]) → H' l = some (.lst xs) → Tris H' xs (planV ks first) → Q (.ref o) H'
def spHold8 (G D : Addr) (first : Bool) : Sp := fun vs H2 Q E => ∃ (r oo dx ll : Addr) (ks : List Int) (xs : List V), vs = [.ref oo, .ref r] ∧ H2 r = some (.lst (ks.map V.int)) ∧ RowOk ks ∧ H2 oo = some (.ins (if first = true then G else D) dx [("plan", .ref ll)]) ∧ H2 ll = some (.lst xs) ∧ Tris H2 xs (planV ks first) ∧ ∀ H', Same H2 H' → Q (.bl true) H'
theorem tris_less {H : Hp} {c d : Addr} {o o' : Obj} (hc : H c = some (CellO c o)) (hd : H d = some (CellO d o')) : ∀ {xs : List V} {p : List Tri}, Tris H xs p → Tris (lessH (lessH H d) c) xs p
  | _, _, .nil => .nil
  | _, _, .cons h t => .cons ((lessH_ne (fun z => by rw [z, hc] at h; cases h)).trans ((lessH_ne (fun z => by rw [z, hd] at h; cases h)).trans h)) (tris_less hc hd t)
theorem ok_law (T : Tx K mg A) (TB : TabB base mg A.c_law A.P_law) : FnOk P w K mg base CX0 32 A.f_law A.d_law ["_law_script"] (spLawT K (tabs A)) := by
  have Gplay_by : FnOk P w K mg base (L2.CX P w) 28 A.f_play_by A.d_play_by ["row", "number"] (spPlayBy K A.C_BadRow A.C_BadNumber) := ok_play_by T
  have Ghow_many : FnOk P w K mg base (L2.CX P w) 28 A.f_how_many A.d_how_many ["row"] (spHowMany K A.C_BadRow) := ok_how_many T
  have Gworth : FnOk P w K mg base (L2.CX P w) 14 A.f_worth A.d_worth ["row"] (spWorth K A.C_BadRow) := ok_worth T
  have Gbest : FnOk P w K mg base (L2.CX P w) 15 A.f_best A.d_best ["row"] (spBest K A.C_BadRow) := ok_best T
  have Gsure : FnOk P w K mg base (L2.CX P w) 3 A.f_sure A.d_sure ["row"] (spSure K A.C_BadRow A.C_Odd) := ok_sure T
  have Ggreedy : FnOk P w K mg base (L2.CX P w) 3 A.f_greedy A.d_greedy ["row"] (spGreedy K A.C_BadRow) := ok_greedy T
  have Gled : FnOk P w K mg base (L2.CX P w) 3 A.f_led A.d_led ["row", "takes"] (spLed K A.C_BadRow A.C_BadTakes) := ok_led T
  have Gjudged : FnOk P w K mg base (L2.CX P w) 16 A.f_judged A.d_judged ["row", "least"] (spJudged K A.C_BadRow A.C_BadNumber A.C_Gets A.C_Held) := ok_judged T
  have GGets_init : FnOk P w K mg base CX0 1 A.f_Gets_init A.d_Gets_init ["self", "plan"] (spInit K A.C_Gets) := ok_Gets_init T
  have GHeld_init : FnOk P w K mg base CX0 1 A.f_Held_init A.d_Held_init ["self", "plan"] (spInit K A.C_Held) := ok_Held_init T
  have GGets_shows : FnOk P w K mg base CX0 16 A.f_Gets_shows A.d_Gets_shows ["self", "row", "least"] (spShows K A.C_Gets true) := ok_Gets_shows T
  have GHeld_shows : FnOk P w K mg base CX0 16 A.f_Held_shows A.d_Held_shows ["self", "row", "least"] (spShows K A.C_Held false) := ok_Held_shows T
  have G_law_row : FnOk P w K mg base CX0 1 A.f__law_row A.d__law_row ["_law_cells", "_law_many", "_law_by"] (spRow8 K) := ok__law_row T
  have G_law_door_right : FnOk P w K mg base CX0 30 A.f__law_door_right A.d__law_door_right ["_law_ask", "_law_one", "_law_other"] (spDoor8 P w K mg base) := ok__law_door_right T
  have G_law_free_right : FnOk P w K mg base CX0 30 A.f__law_free_right A.d__law_free_right ["_law_ask", "_law_holds", "_law_one", "_law_other"] (spFree8 P w K mg base A.C_Gets A.C_Held) := ok__law_free_right T
  have mem_law : (A.P_law, (("law" : Str) ++ ".<locals>.") ++ "<lambda>") ∈ tabs A := List.mem_cons_self
  have hu_law : ∀ p ∈ tabs A, p.1 = A.P_law → p.2 = (("law" : Str) ++ ".<locals>.") ++ "<lambda>" := fun p hp _ => by
    rw [List.mem_singleton] at hp
    rw [hp]
  refine T.FClaw.ok sc_law (fun vs H Q E h => ?_) (fun A' outer s H vs Q E hr h => ?_)
  · obtain ⟨a, cs, rfl, _⟩ := h
    rfl
  · obtain ⟨a, cs, rfl, hS, h63, hbits, hTb, q⟩ := h
    refine ⟨_, (pss_mid (ps_set (i := 1) sc_law.nd rfl (Or.inl rfl) (pe_ifExp (pt_cmpR (op_neD hr.units) (pv 0) (pe_lst pa_nil) (nomark _)) (pe_slice sl_list (pv 0) po_none (po_some pe_int)) (pe_lst (pa_cons pe_int pa_nil))))
      (pss_mid (ps_set (i := 2) sc_law.nd rfl (Or.inl rfl) (pe_callB call_abs (by rfl) T.babs (by decide +kernel) (pa_cons (pe_callB (cr_sum rfl) (by rfl) T.bsum (by decide +kernel) (pa_cons (pv 1) pa_nil)) pa_nil)))
      (pss_mid (ps_par (i := 3) (j := 4) rfl sc_law.nd rfl rfl (by decide) rfl rfl (pa_cons (pe_lst pa_nil) (pa_cons (pe_lst pa_nil) pa_nil)) (by rfl))
      (pss_mid (ps_set (i := 5) sc_law.nd rfl (Or.inl rfl) (pe_op op_add pe_int (pe_op op_mod (pv 2) pe_int)))
      (pss_mid (ps_asg (pe_tup (pa_cons (pe_call G_law_row (hr.mono (by first | decide | omega)) (by rfl) T.g_law_row T.F_law_row.kp T.b_law_row .nil pass0 (pa_cons (pv 1) (pa_cons (pv 5) (pa_cons pe_int pa_nil)))) (pa_cons (pe_call G_law_row (hr.mono (by first | decide | omega)) (by rfl) T.g_law_row T.F_law_row.kp T.b_law_row .nil pass0 (pa_cons (pv 1) (pa_cons (pv 5) (pa_cons pe_int pa_nil)))) pa_nil))) (pg_tup rfl (pgs_cons (pg_name (i := 12) sc_law.nd rfl (Or.inr rfl)) (pgs_cons (pg_name (i := 6) sc_law.nd rfl (Or.inl rfl)) pgs_nil))))
      (pss_mid (ps_par (i := 7) (j := 8) rfl sc_law.nd rfl rfl (by decide) rfl rfl (pa_cons (pe_call G_law_row (hr.mono (by first | decide | omega)) (by rfl) T.g_law_row T.F_law_row.kp T.b_law_row .nil pass0 (pa_cons (pv 1) (pa_cons pe_int (pa_cons pe_int pa_nil)))) (pa_cons (pe_call G_law_row (hr.mono (by first | decide | omega)) (by rfl) T.g_law_row T.F_law_row.kp T.b_law_row .nil pass0 (pa_cons (pv 1) (pa_cons pe_int (pa_cons pe_int pa_nil)))) pa_nil)) (by rfl))
      (pss_mid (ps_par (i := 9) (j := 10) rfl sc_law.nd rfl rfl (by decide) rfl rfl (pa_cons (pe_lst (pa_cons pe_str (pa_cons pe_str pa_nil))) (pa_cons (pe_lst (pa_cons pe_str (pa_cons pe_str pa_nil))) pa_nil)) (by rfl))
      (pss_mid (ps_expr (pe_bm PySem.F.plainAttrs_list PySem.F.slot_list_append PySem.F.type_list_append mt_append (pv 3) (pa_cons (pe_tup (pa_cons (pe_lam (T := tabs A) TB rfl mem_law hu_law (free_by (sc := defScope s_law) (by decide +kernel))) (pa_cons (pv 12) (pa_cons (pv 6) pa_nil)))) pa_nil)))
      (pss_mid (ps_expr (pe_bm PySem.F.plainAttrs_list PySem.F.slot_list_append PySem.F.type_list_append mt_append (pv 3) (pa_cons (pe_tup (pa_cons (pe_lam (T := tabs A) TB rfl mem_law hu_law (free_by (sc := defScope s_law) (by decide +kernel))) (pa_cons (pv 12) (pa_cons (pv 6) pa_nil)))) pa_nil)))
      (pss_mid (ps_expr (pe_bm PySem.F.plainAttrs_list PySem.F.slot_list_append PySem.F.type_list_append mt_append (pv 3) (pa_cons (pe_tup (pa_cons (pe_lam (T := tabs A) TB rfl mem_law hu_law (free_by (sc := defScope s_law) (by decide +kernel))) (pa_cons (pv 12) (pa_cons (pv 6) pa_nil)))) pa_nil)))
      (pss_mid (ps_expr (pe_bm PySem.F.plainAttrs_list PySem.F.slot_list_append PySem.F.type_list_append mt_append (pv 3) (pa_cons (pe_tup (pa_cons (pe_lam (T := tabs A) TB rfl mem_law hu_law (free_by (sc := defScope s_law) (by decide +kernel))) (pa_cons (pv 7) (pa_cons (pv 8) pa_nil)))) pa_nil)))
      (pss_mid (ps_expr (pe_bm PySem.F.plainAttrs_list PySem.F.slot_list_append PySem.F.type_list_append mt_append (pv 3) (pa_cons (pe_tup (pa_cons (pe_lam (T := tabs A) TB rfl mem_law hu_law (free_by (sc := defScope s_law) (by decide +kernel))) (pa_cons (pv 12) (pa_cons (pv 6) pa_nil)))) pa_nil)))
      (pss_mid (ps_expr (pe_bm PySem.F.plainAttrs_list PySem.F.slot_list_append PySem.F.type_list_append mt_append (pv 3) (pa_cons (pe_tup (pa_cons (pe_lam (T := tabs A) TB rfl mem_law hu_law (free_by (sc := defScope s_law) (by decide +kernel))) (pa_cons (pe_lst (pa_cons (pv 12) (pa_cons (pv 9) pa_nil))) (pa_cons (pe_lst (pa_cons (pv 6) (pa_cons (pv 10) pa_nil))) pa_nil)))) pa_nil)))
      (pss_mid (ps_expr (pe_bm PySem.F.plainAttrs_list PySem.F.slot_list_append PySem.F.type_list_append mt_append (pv 4) (pa_cons (pe_tup (pa_cons (pe_lam (T := tabs A) TB rfl mem_law hu_law (free_by (sc := defScope s_law) (by decide +kernel))) (pa_cons (pe_lam (T := tabs A) TB rfl mem_law hu_law (free_by (sc := defScope s_law) (by decide +kernel))) (pa_cons (pv 12) (pa_cons (pv 6) pa_nil))))) pa_nil)))
      (pss_mid (ps_expr (pe_bm PySem.F.plainAttrs_list PySem.F.slot_list_append PySem.F.type_list_append mt_append (pv 4) (pa_cons (pe_tup (pa_cons (pe_lam (T := tabs A) TB rfl mem_law hu_law (free_by (sc := defScope s_law) (by decide +kernel))) (pa_cons (pe_lam (T := tabs A) TB rfl mem_law hu_law (free_by (sc := defScope s_law) (by decide +kernel))) (pa_cons (pv 12) (pa_cons (pv 6) pa_nil))))) pa_nil)))
      (pss_mid (ps_set (i := 11) sc_law.nd rfl (Or.inl rfl) (pe_fld (pe_call Gjudged (hr.mono (by first | decide | omega)) (by rfl) T.gjudged T.Fjudged.kp T.bjudged .nil passL (pa_cons (pe_callTy call_list_of (by rfl) T.blist (by decide +kernel) (pa_cons (pv 12) pa_nil)) (pa_cons (pe_call Gworth (hr.mono (by first | decide | omega)) (by rfl) T.gworth T.Fworth.kp T.bworth .nil passL (pa_cons (pe_callTy call_list_of (by rfl) T.blist (by decide +kernel) (pa_cons (pv 12) pa_nil)) pa_nil)) pa_nil))) rfl))
      (pss_mid (ps_set (i := 13) sc_law.nd rfl (Or.inr rfl) (pe_call Gworth (hr.mono (by first | decide | omega)) (by rfl) T.gworth T.Fworth.kp T.bworth .nil passL (pa_cons (pe_callTy call_list_of (by rfl) T.blist (by decide +kernel) (pa_cons (pv 12) pa_nil)) pa_nil)))
      (pss_mid (ps_expr (pe_bm PySem.F.plainAttrs_list PySem.F.slot_list_append PySem.F.type_list_append mt_append (pv 3) (pa_cons (pe_tup (pa_cons (pe_lam (T := tabs A) TB rfl mem_law hu_law (free_by (sc := defScope s_law) (by decide +kernel))) (pa_cons (pv 11) (pa_cons (pe_revL (pv 11)) pa_nil)))) pa_nil)))
      (pss_mid (ps_if (pt_not (pt_val (pe_callB (cr_all rfl) (by rfl) T.ball (by decide +kernel) (pa_cons (pe_lcK (i := 12) (y1 := "_law_one") (j := 13) (y2 := "_law_value") (own := [("_law_ask", 14), ("_law_one", 12), ("_law_other", 6)]) rfl (.inl rfl) rfl (.inl rfl) (by decide) (by rfl) (away_def (fun _ => rfl)) sc_law.nd (pi_list (pv 3)) (blkOk_by (own := [("_law_ask", 14), ("_law_one", 12), ("_law_other", 6)]) (N := N_law) (sc := defScope s_law) (by decide +kernel)) (fun _ _ _ _ _ => (show PG _ _ (gTup K 3 _) from pg_tup rfl (pgs_cons (pg_name (i := 14) sc_law.nd rfl (Or.inl rfl)) (pgs_cons (pg_name (i := 12) sc_law.nd rfl (Or.inl rfl)) (pgs_cons (pg_name (i := 6) sc_law.nd rfl (Or.inl rfl)) pgs_nil))))) (fun _ _ _ _ _ => pts_nil) (fun v1 v2 _ _ _ _ _ k1 k2 kne => (pe_callK k1 k2 kne G_law_door_right (hr.mono (by first | decide | omega)) (by rfl) T.g_law_door_right T.F_law_door_right.kp T.b_law_door_right (pa_cons (pv 14) (pa_cons (pv 12) (pa_cons (pv 6) pa_nil)))))) pa_nil)))) (pss_one (ps_ret pe_bl)) pss_nil)
      (pss_one (ps_ret (pe_callB (cr_all rfl) (by rfl) T.ball (by decide +kernel) (pa_cons (pe_lc (own := [("_law_ask", 14), ("_law_holds", 15), ("_law_one", 12), ("_law_other", 6)]) (by rfl) sc_law.nd (pi_list (pv 4)) (blkOk_by (own := [("_law_ask", 14), ("_law_holds", 15), ("_law_one", 12), ("_law_other", 6)]) (N := N_law) (sc := defScope s_law) (by decide +kernel)) (fun _ _ _ _ _ => (show PG _ _ (gTup K 4 _) from pg_tup rfl (pgs_cons (pg_name (i := 14) sc_law.nd rfl (Or.inl rfl)) (pgs_cons (pg_name (i := 15) sc_law.nd rfl (Or.inl rfl)) (pgs_cons (pg_name (i := 12) sc_law.nd rfl (Or.inl rfl)) (pgs_cons (pg_name (i := 6) sc_law.nd rfl (Or.inl rfl)) pgs_nil)))))) (fun _ _ _ _ _ => pts_nil) (fun _ _ _ _ _ => (pe_call G_law_free_right (hr.mono (by first | decide | omega)) (by rfl) T.g_law_free_right T.F_law_free_right.kp T.b_law_free_right .nil pass0 (pa_cons (pv 14) (pa_cons (pv 15) (pa_cons (pv 12) (pa_cons (pv 6) pa_nil))))))) pa_nil))))))))))))))))))))))), ?_⟩
    refine ⟨fun σ1 K1 => ∃ (c : Addr) (ds : List Int), σ1 = [some (.ref a), some (.ref c), none, none, none, none, none, none, none, none, none, none, none, none, none, none] ∧ Same H K1 ∧ SqL K K1 c (ds.map V.int) ∧ 0 < ds.length, ?_, ?_⟩
    · refine ⟨_, rfl, Nat.zero_le _, fun l nl => gen_heap nl fun H1 s1 hl => ?_⟩
      have hS1 := s1.seq hS
      refine ⟨_, _, dp_lst hS1 (ok_ints cs), dp_lst (xs := []) (SqL.of hl) rfl, shl_flat (ok_ints cs), shl_flat (xs := []) rfl, _, rfl, ?_⟩
      cases cs with
      | nil =>
        refine iteF ⟨(by show 1 ≤ sizeLine; decide), fun c nc => gen_heap nc fun H2 s2 hc => ?_⟩
        exact ⟨c, [5], rfl, s1.trans s2, SqL.of hc, by decide⟩
      | cons z r =>
        refine iteT ⟨_, rfl, 63, rfl, a, _, rfl, hS1, fun c nc => gen_heap nc fun H2 s2 hc => ?_⟩
        rw [cut63 (by rw [List.length_map]; exact h63)] at hc
        exact ⟨c, z :: r, rfl, s1.trans s2, SqL.of hc, Nat.succ_pos _⟩
    rintro σ1 H2 ⟨c, ds, rfl, s2, hc2, hpos⟩
    refine ⟨_, ?_, fun _ _ h => h⟩
    refine ⟨_, rfl, c, ds, rfl, hc2, _, rfl, ?_⟩
    have hmore : 0 ≤ (if ds.sum < 0 then -ds.sum else ds.sum) := by split <;> omega
    generalize (if ds.sum < 0 then -ds.sum else ds.sum) = more at hmore ⊢
    refine ⟨_, ?_, fun _ _ h => h⟩
    refine ⟨Nat.zero_le _, fun pm1 npm1 => gen_heap npm1 fun Hm2 sHm2 hpm1 => ?_⟩
    refine ⟨Nat.zero_le _, fun pm3 npm3 => gen_heap npm3 fun Hm4 sHm4 hpm3 => ?_⟩
    refine ⟨_, _, rfl, ?_⟩
    refine ⟨fun σ1 K1 => ∃ mn : Nat, σ1 = [some (V.ref a), some (V.ref c), some (V.int more), some (V.ref pm1), some (V.ref pm3), some (V.int ((mn : Nat) : Int)), none, none, none, none, none, none, none, none, none, none] ∧ Same Hm4 K1 ∧ 2 ≤ mn ∧ mn ≤ 7, ?_, ?_⟩
    · skip
      refine ⟨_, rfl, _, _, rfl, rfl, (by show (0 : Int) < 6; decide), _, _, rfl, rfl, ?_⟩
      have em : (((2 + more % 6).toNat : Nat) : Int) = 2 + more % 6 := by omega
      exact ⟨(2 + more % 6).toNat, by rw [em]; rfl, Same.refl _, by omega, by omega⟩
    rintro σ1 Hmk ⟨mn, rfl, smk, h2m, hm7⟩
    refine ⟨_, ?_, fun _ _ h => h⟩
    have hm8 := (smk.seq (sHm4.seq (sHm2.seq hc2)))
    refine ⟨_, rfl, _, rfl, c, ds, mn, 0, rfl, hm8, hpos, (by omega), (by decide), (by decide), fun Hm5 pm6 rsm7 sHm5 npm6 hpm6 lrsm7 krsm7 => ?_⟩
    have hm12 := (sHm5.seq hm8)
    refine ⟨_, rfl, _, rfl, c, ds, mn, 3, rfl, hm12, hpos, (by omega), (by decide), (by decide), fun Hm9 pm10 rsm11 sHm9 npm10 hpm10 lrsm11 krsm11 => ?_⟩
    refine ⟨(by show 2 ≤ sizeLine; decide), fun pm13 npm13 => gen_heap npm13 fun Hm14 sHm14 hpm13 => ?_⟩
    refine ⟨pm13, _, rfl, (SqT.of hpm13), rfl, _, _, rfl, _, _, rfl, rfl, ?_⟩
    refine ⟨_, ?_, fun _ _ h => h⟩
    have hm18 := (sHm14.seq (sHm9.seq hm12))
    refine ⟨_, rfl, c, ds, 6, 1, rfl, hm18, hpos, (by omega), (by decide), (by decide), fun Hm15 pm16 rsm17 sHm15 npm16 hpm16 lrsm17 krsm17 => ?_⟩
    have hm22 := (sHm15.seq hm18)
    refine ⟨_, rfl, c, ds, 6, 4, rfl, hm22, hpos, (by omega), (by decide), (by decide), fun Hm19 pm20 rsm21 sHm19 npm20 hpm20 lrsm21 krsm21 => ?_⟩
    refine ⟨_, _, rfl, ?_⟩
    refine ⟨fun σ1 K1 => ∃ (ak fr o1 o2 e1 e2 t1 t2 : Addr) (ns ms es ls : List Int) (mn : Nat), σ1 = [some (V.ref a), some (V.ref c), some (V.int more), some (V.ref ak), some (V.ref fr), some (V.int ((mn : Nat) : Int)), some (V.ref o2), some (V.ref e1), some (V.ref e2), some (V.ref t1), some (V.ref t2), none, some (V.ref o1), none, none, none] ∧ Same H2 K1 ∧ K1 ak = some (.lst []) ∧ K1 fr = some (.lst []) ∧ ak ≠ fr ∧ K1 o1 = some (.lst (ns.map V.int)) ∧ K1 o2 = some (.lst (ms.map V.int)) ∧ K1 e1 = some (.lst (es.map V.int)) ∧ K1 e2 = some (.lst (ls.map V.int)) ∧ K1 t1 = some (.lst (sidesV [true, false])) ∧ K1 t2 = some (.lst (sidesV [false, false])) ∧ (∀ b ∈ [o1, o2, e1, e2, t1, t2], b ≠ ak ∧ b ≠ fr) ∧ RowOk ns ∧ RowOk ms ∧ RowOk es ∧ RowOk ls ∧ ns.length = ms.length ∧ 2 ≤ ns.length ∧ es.length = 6 ∧ ls.length = 6, ?_, ?_⟩
    · skip
      refine ⟨(by show 2 ≤ sizeLine; decide), fun pm23 npm23 => gen_heap npm23 fun Hm24 sHm24 hpm23 => ?_⟩
      refine ⟨(by show 2 ≤ sizeLine; decide), fun pm25 npm25 => gen_heap npm25 fun Hm26 sHm26 hpm25 => ?_⟩
      refine ⟨_, _, rfl, ?_⟩
      have hm27 := (sHm26 _ _ (sHm24 _ _ (sHm19 _ _ (sHm15 _ _ (sHm14 _ _ (sHm9 _ _ (sHm5 _ _ (smk _ _ (sHm4 _ _ hpm1)))))))))
      have hm28 := (sHm26 _ _ (sHm24 _ _ (sHm19 _ _ (sHm15 _ _ (sHm14 _ _ (sHm9 _ _ (sHm5 _ _ (smk _ _ hpm3))))))))
      have hm29 := (sHm26 _ _ (sHm24 _ _ (sHm19 _ _ (sHm15 _ _ (sHm14 _ _ (sHm9 _ _ hpm6))))))
      have hm30 := (sHm26 _ _ (sHm24 _ _ (sHm19 _ _ (sHm15 _ _ (sHm14 _ _ hpm10)))))
      have hm31 := (sHm26 _ _ (sHm24 _ _ (sHm19 _ _ hpm16)))
      have hm32 := (sHm26 _ _ (sHm24 _ _ hpm20))
      have hm33 := (sHm26 _ _ hpm23)
      exact ⟨pm1, pm3, pm6, pm10, pm16, pm20, pm23, pm25, rsm7, rsm11, rsm17, rsm21, mn, rfl, (fun b o e => (sHm26 _ _ (sHm24 _ _ (sHm19 _ _ (sHm15 _ _ (sHm14 _ _ (sHm9 _ _ (sHm5 _ _ (smk _ _ (sHm4 _ _ (sHm2 _ _ e))))))))))), hm27, hm28, (ne_of_none hpm1 npm3), hm29, hm30, hm31, hm32, hm33, hpm25, (List.forall_mem_cons.mpr ⟨⟨(ne_of_none (smk _ _ (sHm4 _ _ hpm1)) npm6).symm, (ne_of_none (smk _ _ hpm3) npm6).symm⟩, (List.forall_mem_cons.mpr ⟨⟨(ne_of_none (sHm5 _ _ (smk _ _ (sHm4 _ _ hpm1))) npm10).symm, (ne_of_none (sHm5 _ _ (smk _ _ hpm3)) npm10).symm⟩, (List.forall_mem_cons.mpr ⟨⟨(ne_of_none (sHm14 _ _ (sHm9 _ _ (sHm5 _ _ (smk _ _ (sHm4 _ _ hpm1))))) npm16).symm, (ne_of_none (sHm14 _ _ (sHm9 _ _ (sHm5 _ _ (smk _ _ hpm3)))) npm16).symm⟩, (List.forall_mem_cons.mpr ⟨⟨(ne_of_none (sHm15 _ _ (sHm14 _ _ (sHm9 _ _ (sHm5 _ _ (smk _ _ (sHm4 _ _ hpm1)))))) npm20).symm, (ne_of_none (sHm15 _ _ (sHm14 _ _ (sHm9 _ _ (sHm5 _ _ (smk _ _ hpm3))))) npm20).symm⟩, (List.forall_mem_cons.mpr ⟨⟨(ne_of_none (sHm19 _ _ (sHm15 _ _ (sHm14 _ _ (sHm9 _ _ (sHm5 _ _ (smk _ _ (sHm4 _ _ hpm1))))))) npm23).symm, (ne_of_none (sHm19 _ _ (sHm15 _ _ (sHm14 _ _ (sHm9 _ _ (sHm5 _ _ (smk _ _ hpm3)))))) npm23).symm⟩, (List.forall_mem_cons.mpr ⟨⟨(ne_of_none (sHm24 _ _ (sHm19 _ _ (sHm15 _ _ (sHm14 _ _ (sHm9 _ _ (sHm5 _ _ (smk _ _ (sHm4 _ _ hpm1)))))))) npm25).symm, (ne_of_none (sHm24 _ _ (sHm19 _ _ (sHm15 _ _ (sHm14 _ _ (sHm9 _ _ (sHm5 _ _ (smk _ _ hpm3))))))) npm25).symm⟩, (fun _ z => nomatch z)⟩)⟩)⟩)⟩)⟩)⟩), ⟨by omega, krsm7⟩, ⟨by omega, krsm11⟩, ⟨by omega, krsm17⟩, ⟨by omega, krsm21⟩, by omega, by omega, lrsm17, lrsm21⟩
    rintro σ1 H3 ⟨ak, fr, o1, o2, e1, e2, t1, t2, ns, ms, es, ls, mn, rfl, s3, hak, hfr, nakfr, ho1, ho2, he1, he2, ht1, ht2, hnes, okn, okm, oke, okl, hnm, h2n, hes, hls⟩
    have hT3 : Tabs (tabs A) H3 := hTb.ext (s2.trans s3)
    have nao1 : o1 ≠ ak := (hnes o1 (by simp)).1
    have nfo1 : o1 ≠ fr := (hnes o1 (by simp)).2
    have nao2 : o2 ≠ ak := (hnes o2 (by simp)).1
    have nfo2 : o2 ≠ fr := (hnes o2 (by simp)).2
    have nae1 : e1 ≠ ak := (hnes e1 (by simp)).1
    have nfe1 : e1 ≠ fr := (hnes e1 (by simp)).2
    have nae2 : e2 ≠ ak := (hnes e2 (by simp)).1
    have nfe2 : e2 ≠ fr := (hnes e2 (by simp)).2
    have nat1 : t1 ≠ ak := (hnes t1 (by simp)).1
    have nft1 : t1 ≠ fr := (hnes t1 (by simp)).2
    have nat2 : t2 ≠ ak := (hnes t2 (by simp)).1
    have nft2 : t2 ≠ fr := (hnes t2 (by simp)).2
    refine ⟨fun σ1 K1 => ∃ (pa10 fa1 : Addr), σ1 = [some (V.ref a), some (V.ref c), some (V.int more), some (V.ref ak), some (V.ref fr), some (V.int ((mn : Nat) : Int)), some (V.ref o2), some (V.ref e1), some (V.ref e2), some (V.ref t1), some (V.ref t2), none, some (V.ref o1), none, none, none] ∧ Tabs (tabs A) K1 ∧ K1 ak = some (.lst [V.ref pa10]) ∧ K1 fr = some (.lst []) ∧ K1 o1 = some (.lst (ns.map V.int)) ∧ K1 o2 = some (.lst (ms.map V.int)) ∧ K1 e1 = some (.lst (es.map V.int)) ∧ K1 e2 = some (.lst (ls.map V.int)) ∧ K1 t1 = some (.lst [V.str "left", V.str "right"]) ∧ K1 t2 = some (.lst [V.str "right", V.str "right"]) ∧ K1 pa10 = some (.tup [V.ref fa1, V.ref o1, V.ref o2]) ∧ AskF P w K mg base (spFn (fun _ => True) (fun ks => [V.int (wv ks ks.length 0), V.int (many ks ks.length 0)])) ak fr K1 fa1, ?_, ?_⟩
    · skip
      refine ⟨_, rfl, .inl ⟨rfl, _, SqL.of hak⟩, hT3, fun fa1 ca2 Ja3 ea4 _ hTa5 ga6 nfa7 hfa8 hca9 => ?_⟩
      refine ⟨_, rfl, _, rfl, (by show 3 ≤ sizeLine; decide), fun pa10 npa10 => gen_heap npa10 fun Ha11 sHa11 hpa10 => ?_⟩
      have ha12 := (sHa11 _ _ (ea4 _ _ hak (by intro _ z; cases z)))
      refine ⟨ak, _, _, rfl, rfl, ha12, (by show 0 < sizeLine; decide), gen_put ha12 fun Ha13 sHa13 ha14 => ?_⟩
      have ha15 := (sHa13 _ _ (ne_of_none hak ga6).symm (sHa11 _ _ hfa8))
      have ha16 := (sHa13 _ _ (ne_of (sHa11 _ _ hca9) ha12 (by intro z; cases z)) (sHa11 _ _ hca9))
      have ha17 := (sHa13 _ _ nakfr.symm (sHa11 _ _ (ea4 _ _ hfr (by intro _ z; cases z))))
      have kfa1 : AskF P w K mg base (spFn (fun _ => True) (fun ks => [V.int (wv ks ks.length 0), V.int (many ks ks.length 0)])) ak fr Ha13 fa1 := by
        refine ⟨_, lamD_sub ha15 ha16, lamD_away ha15 ha16 ha14 ha17, ?_⟩
        refine callable_lam (k := 28) (N := ["_law_it"]) (ps := ["_law_it"]) (nscope_by (by first | (dsimp only; decide +kernel) | rfl)) rfl nfa7 (fun pm ctv us hl => match us, hl with | [_], _ => rfl) (fun vs H Q E h => by obtain ⟨r, ks, rfl, _⟩ := h; rfl) (fun A1 o1' s1 H1 vs1 Q1 E1 hr1 h1 => ?_)
        obtain ⟨r, ks, rfl, hr, okr, hck, q1⟩ := h1
        refine ⟨_, pe_lst (pa_cons (pe_call Gworth (hr1.mono (by first | decide | omega)) (by rfl) T.gworth T.Fworth.kp T.bworth .nil (passes_call (takes_of rfl rfl rfl rfl) (fun _ _ _ _ h => h)) (pa_cons (pv 0) pa_nil)) (pa_cons (pe_call Ghow_many (hr1.mono (by first | decide | omega)) (by rfl) T.ghow_many T.Fhow_many.kp T.bhow_many .nil (passes_call (takes_of rfl rfl rfl rfl) (fun _ _ _ _ h => h)) (pa_cons (pv 0) pa_nil)) pa_nil)), ?_⟩
        refine ⟨_, rfl, _, rfl, .inl ⟨ks, ⟨r, rfl, (SqL.of hr), okr⟩, fun Hl1 sHl1 => ?_⟩⟩
        have hl2 := (sHl1 _ _ hr)
        refine ⟨_, rfl, _, rfl, .inl ⟨ks, ⟨r, rfl, (SqL.of hl2), okr⟩, fun Hl3 sHl3 => ?_⟩⟩
        refine ⟨(by show 2 ≤ sizeLine; decide), fun pl4 npl4 => gen_heap npl4 fun Hl5 sHl5 hpl4 => ?_⟩
        exact q1 _ pl4 (fun b o e => (sHl5 _ _ (sHl3 _ _ (sHl1 _ _ e)))) (sHl1.free (sHl3.free npl4)) hpl4
      have ha18 := (sHa13 _ _ nao1 (sHa11 _ _ (ea4 _ _ ho1 (by intro _ z; cases z))))
      have ha19 := (sHa13 _ _ nao2 (sHa11 _ _ (ea4 _ _ ho2 (by intro _ z; cases z))))
      have ha20 := (sHa13 _ _ nae1 (sHa11 _ _ (ea4 _ _ he1 (by intro _ z; cases z))))
      have ha21 := (sHa13 _ _ nae2 (sHa11 _ _ (ea4 _ _ he2 (by intro _ z; cases z))))
      have ha22 := (sHa13 _ _ nat1 (sHa11 _ _ (ea4 _ _ ht1 (by intro _ z; cases z))))
      have ha23 := (sHa13 _ _ nat2 (sHa11 _ _ (ea4 _ _ ht2 (by intro _ z; cases z))))
      have ha24 := (sHa13 _ _ (ne_of_none (ea4 _ _ hak (by intro _ z; cases z)) npa10).symm hpa10)
      exact ⟨pa10, fa1, rfl, (tabs_but (hTa5.ext sHa11) sHa13 ha12), ha14, ha17, ha18, ha19, ha20, ha21, ha22, ha23, ha24, kfa1⟩
    rintro σ1 Hs7 ⟨pa10, fa1, rfl, hT_7, hak_7, hfr_7, ho1_7, ho2_7, he1_7, he2_7, ht1_7, ht2_7, hpa10_7, kfa1_7⟩
    refine ⟨fun σ1 K1 => ∃ (pa34 fa25 : Addr), σ1 = [some (V.ref a), some (V.ref c), some (V.int more), some (V.ref ak), some (V.ref fr), some (V.int ((mn : Nat) : Int)), some (V.ref o2), some (V.ref e1), some (V.ref e2), some (V.ref t1), some (V.ref t2), none, some (V.ref o1), none, none, none] ∧ Tabs (tabs A) K1 ∧ K1 ak = some (.lst [V.ref pa10, V.ref pa34]) ∧ K1 fr = some (.lst []) ∧ K1 o1 = some (.lst (ns.map V.int)) ∧ K1 o2 = some (.lst (ms.map V.int)) ∧ K1 e1 = some (.lst (es.map V.int)) ∧ K1 e2 = some (.lst (ls.map V.int)) ∧ K1 t1 = some (.lst [V.str "left", V.str "right"]) ∧ K1 t2 = some (.lst [V.str "right", V.str "right"]) ∧ K1 pa10 = some (.tup [V.ref fa1, V.ref o1, V.ref o2]) ∧ K1 pa34 = some (.tup [V.ref fa25, V.ref o1, V.ref o2]) ∧ AskF P w K mg base (spFn (fun _ => True) (fun ks => [V.int (wv ks ks.length 0), V.int (many ks ks.length 0)])) ak fr K1 fa1 ∧ AskF P w K mg base (spFn (fun _ => True) (fun ks => sidesV (ends ks ks.length 0))) ak fr K1 fa25, ?_, ?_⟩
    · skip
      refine ⟨_, rfl, .inl ⟨rfl, _, SqL.of hak_7⟩, hT_7, fun fa25 ca26 Ja27 ea28 _ hTa29 ga30 nfa31 hfa32 hca33 => ?_⟩
      refine ⟨_, rfl, _, rfl, (by show 3 ≤ sizeLine; decide), fun pa34 npa34 => gen_heap npa34 fun Ha35 sHa35 hpa34 => ?_⟩
      have ha36 := (sHa35 _ _ (ea28 _ _ hak_7 (by intro _ z; cases z)))
      refine ⟨ak, _, _, rfl, rfl, ha36, (by show 1 < sizeLine; decide), gen_put ha36 fun Ha37 sHa37 ha38 => ?_⟩
      have ha39 := (sHa37 _ _ (ne_of_none hak_7 ga30).symm (sHa35 _ _ hfa32))
      have ha40 := (sHa37 _ _ (ne_of (sHa35 _ _ hca33) ha36 (by intro z; cases z)) (sHa35 _ _ hca33))
      have ha41 := (sHa37 _ _ nakfr.symm (sHa35 _ _ (ea28 _ _ hfr_7 (by intro _ z; cases z))))
      have kfa25 : AskF P w K mg base (spFn (fun _ => True) (fun ks => sidesV (ends ks ks.length 0))) ak fr Ha37 fa25 := by
        refine ⟨_, lamD_sub ha39 ha40, lamD_away ha39 ha40 ha38 ha41, ?_⟩
        refine callable_lam (k := 28) (N := ["_law_it"]) (ps := ["_law_it"]) (nscope_by (by first | (dsimp only; decide +kernel) | rfl)) rfl nfa31 (fun pm ctv us hl => match us, hl with | [_], _ => rfl) (fun vs H Q E h => by obtain ⟨r, ks, rfl, _⟩ := h; rfl) (fun A1 o1' s1 H1 vs1 Q1 E1 hr1 h1 => ?_)
        obtain ⟨r, ks, rfl, hr, okr, hck, q1⟩ := h1
        refine ⟨_, pe_call Gbest (hr1.mono (by first | decide | omega)) (by rfl) T.gbest T.Fbest.kp T.bbest .nil (passes_call (takes_of rfl rfl rfl rfl) (fun _ _ _ _ h => h)) (pa_cons (pv 0) pa_nil), ?_⟩
        refine ⟨_, rfl, _, rfl, .inl ⟨ks, ⟨r, rfl, (SqL.of hr), okr⟩, fun Hl1 pl2 sHl1 npl2 hpl2 => ?_⟩⟩
        exact q1 _ pl2 (fun b o e => (sHl1 _ _ e)) npl2 hpl2
      have ha42 := (sHa37 _ _ nao1 (sHa35 _ _ (ea28 _ _ ho1_7 (by intro _ z; cases z))))
      have ha43 := (sHa37 _ _ nao2 (sHa35 _ _ (ea28 _ _ ho2_7 (by intro _ z; cases z))))
      have ha44 := (sHa37 _ _ nae1 (sHa35 _ _ (ea28 _ _ he1_7 (by intro _ z; cases z))))
      have ha45 := (sHa37 _ _ nae2 (sHa35 _ _ (ea28 _ _ he2_7 (by intro _ z; cases z))))
      have ha46 := (sHa37 _ _ nat1 (sHa35 _ _ (ea28 _ _ ht1_7 (by intro _ z; cases z))))
      have ha47 := (sHa37 _ _ nat2 (sHa35 _ _ (ea28 _ _ ht2_7 (by intro _ z; cases z))))
      have ha48 := (sHa37 _ _ (ne_of (sHa35 _ _ (ea28 _ _ hpa10_7 (by intro _ z; cases z))) ha36 (by intro z; cases z)) (sHa35 _ _ (ea28 _ _ hpa10_7 (by intro _ z; cases z))))
      have ha49 := (sHa37 _ _ (ne_of_none (ea28 _ _ hak_7 (by intro _ z; cases z)) npa34).symm hpa34)
      have ta50 := (AskF.but1 sHa37 (AskF.mono sHa35 (AskF.ext ea28 kfa1_7)))
      exact ⟨pa34, fa25, rfl, (tabs_but (hTa29.ext sHa35) sHa37 ha36), ha38, ha41, ha42, ha43, ha44, ha45, ha46, ha47, ha48, ha49, ta50, kfa25⟩
    rintro σ1 Hs8 ⟨pa34, fa25, rfl, hT_8, hak_8, hfr_8, ho1_8, ho2_8, he1_8, he2_8, ht1_8, ht2_8, hpa10_8, hpa34_8, kfa1_8, kfa25_8⟩
    refine ⟨fun σ1 K1 => ∃ (pa60 fa51 : Addr), σ1 = [some (V.ref a), some (V.ref c), some (V.int more), some (V.ref ak), some (V.ref fr), some (V.int ((mn : Nat) : Int)), some (V.ref o2), some (V.ref e1), some (V.ref e2), some (V.ref t1), some (V.ref t2), none, some (V.ref o1), none, none, none] ∧ Tabs (tabs A) K1 ∧ K1 ak = some (.lst [V.ref pa10, V.ref pa34, V.ref pa60]) ∧ K1 fr = some (.lst []) ∧ K1 o1 = some (.lst (ns.map V.int)) ∧ K1 o2 = some (.lst (ms.map V.int)) ∧ K1 e1 = some (.lst (es.map V.int)) ∧ K1 e2 = some (.lst (ls.map V.int)) ∧ K1 t1 = some (.lst [V.str "left", V.str "right"]) ∧ K1 t2 = some (.lst [V.str "right", V.str "right"]) ∧ K1 pa10 = some (.tup [V.ref fa1, V.ref o1, V.ref o2]) ∧ K1 pa34 = some (.tup [V.ref fa25, V.ref o1, V.ref o2]) ∧ K1 pa60 = some (.tup [V.ref fa51, V.ref o1, V.ref o2]) ∧ AskF P w K mg base (spFn (fun _ => True) (fun ks => [V.int (wv ks ks.length 0), V.int (many ks ks.length 0)])) ak fr K1 fa1 ∧ AskF P w K mg base (spFn (fun _ => True) (fun ks => sidesV (ends ks ks.length 0))) ak fr K1 fa25 ∧ AskF P w K mg base (spFn (fun _ => True) (fun ks => sidesV (greedyV ks ks.length 0))) ak fr K1 fa51, ?_, ?_⟩
    · skip
      refine ⟨_, rfl, .inl ⟨rfl, _, SqL.of hak_8⟩, hT_8, fun fa51 ca52 Ja53 ea54 _ hTa55 ga56 nfa57 hfa58 hca59 => ?_⟩
      refine ⟨_, rfl, _, rfl, (by show 3 ≤ sizeLine; decide), fun pa60 npa60 => gen_heap npa60 fun Ha61 sHa61 hpa60 => ?_⟩
      have ha62 := (sHa61 _ _ (ea54 _ _ hak_8 (by intro _ z; cases z)))
      refine ⟨ak, _, _, rfl, rfl, ha62, (by show 2 < sizeLine; decide), gen_put ha62 fun Ha63 sHa63 ha64 => ?_⟩
      have ha65 := (sHa63 _ _ (ne_of_none hak_8 ga56).symm (sHa61 _ _ hfa58))
      have ha66 := (sHa63 _ _ (ne_of (sHa61 _ _ hca59) ha62 (by intro z; cases z)) (sHa61 _ _ hca59))
      have ha67 := (sHa63 _ _ nakfr.symm (sHa61 _ _ (ea54 _ _ hfr_8 (by intro _ z; cases z))))
      have kfa51 : AskF P w K mg base (spFn (fun _ => True) (fun ks => sidesV (greedyV ks ks.length 0))) ak fr Ha63 fa51 := by
        refine ⟨_, lamD_sub ha65 ha66, lamD_away ha65 ha66 ha64 ha67, ?_⟩
        refine callable_lam (k := 28) (N := ["_law_it"]) (ps := ["_law_it"]) (nscope_by (by first | (dsimp only; decide +kernel) | rfl)) rfl nfa57 (fun pm ctv us hl => match us, hl with | [_], _ => rfl) (fun vs H Q E h => by obtain ⟨r, ks, rfl, _⟩ := h; rfl) (fun A1 o1' s1 H1 vs1 Q1 E1 hr1 h1 => ?_)
        obtain ⟨r, ks, rfl, hr, okr, hck, q1⟩ := h1
        refine ⟨_, pe_call Ggreedy (hr1.mono (by first | decide | omega)) (by rfl) T.ggreedy T.Fgreedy.kp T.bgreedy .nil (passes_call (takes_of rfl rfl rfl rfl) (fun _ _ _ _ h => h)) (pa_cons (pv 0) pa_nil), ?_⟩
        refine ⟨_, rfl, _, rfl, .inl ⟨ks, ⟨r, rfl, (SqL.of hr), okr⟩, fun Hl1 pl2 sHl1 npl2 hpl2 => ?_⟩⟩
        exact q1 _ pl2 (fun b o e => (sHl1 _ _ e)) npl2 hpl2
      have ha68 := (sHa63 _ _ nao1 (sHa61 _ _ (ea54 _ _ ho1_8 (by intro _ z; cases z))))
      have ha69 := (sHa63 _ _ nao2 (sHa61 _ _ (ea54 _ _ ho2_8 (by intro _ z; cases z))))
      have ha70 := (sHa63 _ _ nae1 (sHa61 _ _ (ea54 _ _ he1_8 (by intro _ z; cases z))))
      have ha71 := (sHa63 _ _ nae2 (sHa61 _ _ (ea54 _ _ he2_8 (by intro _ z; cases z))))
      have ha72 := (sHa63 _ _ nat1 (sHa61 _ _ (ea54 _ _ ht1_8 (by intro _ z; cases z))))
      have ha73 := (sHa63 _ _ nat2 (sHa61 _ _ (ea54 _ _ ht2_8 (by intro _ z; cases z))))
      have ha74 := (sHa63 _ _ (ne_of (sHa61 _ _ (ea54 _ _ hpa10_8 (by intro _ z; cases z))) ha62 (by intro z; cases z)) (sHa61 _ _ (ea54 _ _ hpa10_8 (by intro _ z; cases z))))
      have ha75 := (sHa63 _ _ (ne_of (sHa61 _ _ (ea54 _ _ hpa34_8 (by intro _ z; cases z))) ha62 (by intro z; cases z)) (sHa61 _ _ (ea54 _ _ hpa34_8 (by intro _ z; cases z))))
      have ha76 := (sHa63 _ _ (ne_of_none (ea54 _ _ hak_8 (by intro _ z; cases z)) npa60).symm hpa60)
      have ta77 := (AskF.but1 sHa63 (AskF.mono sHa61 (AskF.ext ea54 kfa1_8)))
      have ta78 := (AskF.but1 sHa63 (AskF.mono sHa61 (AskF.ext ea54 kfa25_8)))
      exact ⟨pa60, fa51, rfl, (tabs_but (hTa55.ext sHa61) sHa63 ha62), ha64, ha67, ha68, ha69, ha70, ha71, ha72, ha73, ha74, ha75, ha76, ta77, ta78, kfa51⟩
    rintro σ1 Hs9 ⟨pa60, fa51, rfl, hT_9, hak_9, hfr_9, ho1_9, ho2_9, he1_9, he2_9, ht1_9, ht2_9, hpa10_9, hpa34_9, hpa60_9, kfa1_9, kfa25_9, kfa51_9⟩
    refine ⟨fun σ1 K1 => ∃ (pa88 fa79 : Addr), σ1 = [some (V.ref a), some (V.ref c), some (V.int more), some (V.ref ak), some (V.ref fr), some (V.int ((mn : Nat) : Int)), some (V.ref o2), some (V.ref e1), some (V.ref e2), some (V.ref t1), some (V.ref t2), none, some (V.ref o1), none, none, none] ∧ Tabs (tabs A) K1 ∧ K1 ak = some (.lst [V.ref pa10, V.ref pa34, V.ref pa60, V.ref pa88]) ∧ K1 fr = some (.lst []) ∧ K1 o1 = some (.lst (ns.map V.int)) ∧ K1 o2 = some (.lst (ms.map V.int)) ∧ K1 e1 = some (.lst (es.map V.int)) ∧ K1 e2 = some (.lst (ls.map V.int)) ∧ K1 t1 = some (.lst [V.str "left", V.str "right"]) ∧ K1 t2 = some (.lst [V.str "right", V.str "right"]) ∧ K1 pa10 = some (.tup [V.ref fa1, V.ref o1, V.ref o2]) ∧ K1 pa34 = some (.tup [V.ref fa25, V.ref o1, V.ref o2]) ∧ K1 pa60 = some (.tup [V.ref fa51, V.ref o1, V.ref o2]) ∧ K1 pa88 = some (.tup [V.ref fa79, V.ref e1, V.ref e2]) ∧ AskF P w K mg base (spFn (fun _ => True) (fun ks => [V.int (wv ks ks.length 0), V.int (many ks ks.length 0)])) ak fr K1 fa1 ∧ AskF P w K mg base (spFn (fun _ => True) (fun ks => sidesV (ends ks ks.length 0))) ak fr K1 fa25 ∧ AskF P w K mg base (spFn (fun _ => True) (fun ks => sidesV (greedyV ks ks.length 0))) ak fr K1 fa51 ∧ AskF P w K mg base (spFn (fun ks => ks.length % 2 = 0) (fun ks => [V.int (sureV ks)])) ak fr K1 fa79, ?_, ?_⟩
    · skip
      refine ⟨_, rfl, .inl ⟨rfl, _, SqL.of hak_9⟩, hT_9, fun fa79 ca80 Ja81 ea82 _ hTa83 ga84 nfa85 hfa86 hca87 => ?_⟩
      refine ⟨_, rfl, _, rfl, (by show 3 ≤ sizeLine; decide), fun pa88 npa88 => gen_heap npa88 fun Ha89 sHa89 hpa88 => ?_⟩
      have ha90 := (sHa89 _ _ (ea82 _ _ hak_9 (by intro _ z; cases z)))
      refine ⟨ak, _, _, rfl, rfl, ha90, (by show 3 < sizeLine; decide), gen_put ha90 fun Ha91 sHa91 ha92 => ?_⟩
      have ha93 := (sHa91 _ _ (ne_of_none hak_9 ga84).symm (sHa89 _ _ hfa86))
      have ha94 := (sHa91 _ _ (ne_of (sHa89 _ _ hca87) ha90 (by intro z; cases z)) (sHa89 _ _ hca87))
      have ha95 := (sHa91 _ _ nakfr.symm (sHa89 _ _ (ea82 _ _ hfr_9 (by intro _ z; cases z))))
      have kfa79 : AskF P w K mg base (spFn (fun ks => ks.length % 2 = 0) (fun ks => [V.int (sureV ks)])) ak fr Ha91 fa79 := by
        refine ⟨_, lamD_sub ha93 ha94, lamD_away ha93 ha94 ha92 ha95, ?_⟩
        refine callable_lam (k := 28) (N := ["_law_it"]) (ps := ["_law_it"]) (nscope_by (by first | (dsimp only; decide +kernel) | rfl)) rfl nfa85 (fun pm ctv us hl => match us, hl with | [_], _ => rfl) (fun vs H Q E h => by obtain ⟨r, ks, rfl, _⟩ := h; rfl) (fun A1 o1' s1 H1 vs1 Q1 E1 hr1 h1 => ?_)
        obtain ⟨r, ks, rfl, hr, okr, hck, q1⟩ := h1
        refine ⟨_, pe_lst (pa_cons (pe_call Gsure (hr1.mono (by first | decide | omega)) (by rfl) T.gsure T.Fsure.kp T.bsure .nil (passes_call (takes_of rfl rfl rfl rfl) (fun _ _ _ _ h => h)) (pa_cons (pv 0) pa_nil)) pa_nil), ?_⟩
        refine ⟨_, rfl, _, rfl, .inl ⟨ks, ⟨r, rfl, (SqL.of hr), okr⟩, fun h => absurd h (by omega), fun _ Hl1 sHl1 => ?_⟩⟩
        refine ⟨(by show 1 ≤ sizeLine; decide), fun pl2 npl2 => gen_heap npl2 fun Hl3 sHl3 hpl2 => ?_⟩
        exact q1 _ pl2 (fun b o e => (sHl3 _ _ (sHl1 _ _ e))) (sHl1.free npl2) hpl2
      have ha96 := (sHa91 _ _ nao1 (sHa89 _ _ (ea82 _ _ ho1_9 (by intro _ z; cases z))))
      have ha97 := (sHa91 _ _ nao2 (sHa89 _ _ (ea82 _ _ ho2_9 (by intro _ z; cases z))))
      have ha98 := (sHa91 _ _ nae1 (sHa89 _ _ (ea82 _ _ he1_9 (by intro _ z; cases z))))
      have ha99 := (sHa91 _ _ nae2 (sHa89 _ _ (ea82 _ _ he2_9 (by intro _ z; cases z))))
      have ha100 := (sHa91 _ _ nat1 (sHa89 _ _ (ea82 _ _ ht1_9 (by intro _ z; cases z))))
      have ha101 := (sHa91 _ _ nat2 (sHa89 _ _ (ea82 _ _ ht2_9 (by intro _ z; cases z))))
      have ha102 := (sHa91 _ _ (ne_of (sHa89 _ _ (ea82 _ _ hpa10_9 (by intro _ z; cases z))) ha90 (by intro z; cases z)) (sHa89 _ _ (ea82 _ _ hpa10_9 (by intro _ z; cases z))))
      have ha103 := (sHa91 _ _ (ne_of (sHa89 _ _ (ea82 _ _ hpa34_9 (by intro _ z; cases z))) ha90 (by intro z; cases z)) (sHa89 _ _ (ea82 _ _ hpa34_9 (by intro _ z; cases z))))
      have ha104 := (sHa91 _ _ (ne_of (sHa89 _ _ (ea82 _ _ hpa60_9 (by intro _ z; cases z))) ha90 (by intro z; cases z)) (sHa89 _ _ (ea82 _ _ hpa60_9 (by intro _ z; cases z))))
      have ha105 := (sHa91 _ _ (ne_of_none (ea82 _ _ hak_9 (by intro _ z; cases z)) npa88).symm hpa88)
      have ta106 := (AskF.but1 sHa91 (AskF.mono sHa89 (AskF.ext ea82 kfa1_9)))
      have ta107 := (AskF.but1 sHa91 (AskF.mono sHa89 (AskF.ext ea82 kfa25_9)))
      have ta108 := (AskF.but1 sHa91 (AskF.mono sHa89 (AskF.ext ea82 kfa51_9)))
      exact ⟨pa88, fa79, rfl, (tabs_but (hTa83.ext sHa89) sHa91 ha90), ha92, ha95, ha96, ha97, ha98, ha99, ha100, ha101, ha102, ha103, ha104, ha105, ta106, ta107, ta108, kfa79⟩
    rintro σ1 Hs10 ⟨pa88, fa79, rfl, hT_10, hak_10, hfr_10, ho1_10, ho2_10, he1_10, he2_10, ht1_10, ht2_10, hpa10_10, hpa34_10, hpa60_10, hpa88_10, kfa1_10, kfa25_10, kfa51_10, kfa79_10⟩
    refine ⟨fun σ1 K1 => ∃ (pa118 fa109 : Addr), σ1 = [some (V.ref a), some (V.ref c), some (V.int more), some (V.ref ak), some (V.ref fr), some (V.int ((mn : Nat) : Int)), some (V.ref o2), some (V.ref e1), some (V.ref e2), some (V.ref t1), some (V.ref t2), none, some (V.ref o1), none, none, none] ∧ Tabs (tabs A) K1 ∧ K1 ak = some (.lst [V.ref pa10, V.ref pa34, V.ref pa60, V.ref pa88, V.ref pa118]) ∧ K1 fr = some (.lst []) ∧ K1 o1 = some (.lst (ns.map V.int)) ∧ K1 o2 = some (.lst (ms.map V.int)) ∧ K1 e1 = some (.lst (es.map V.int)) ∧ K1 e2 = some (.lst (ls.map V.int)) ∧ K1 t1 = some (.lst [V.str "left", V.str "right"]) ∧ K1 t2 = some (.lst [V.str "right", V.str "right"]) ∧ K1 pa10 = some (.tup [V.ref fa1, V.ref o1, V.ref o2]) ∧ K1 pa34 = some (.tup [V.ref fa25, V.ref o1, V.ref o2]) ∧ K1 pa60 = some (.tup [V.ref fa51, V.ref o1, V.ref o2]) ∧ K1 pa88 = some (.tup [V.ref fa79, V.ref e1, V.ref e2]) ∧ K1 pa118 = some (.tup [V.ref fa109, V.ref o1, V.ref o2]) ∧ AskF P w K mg base (spFn (fun _ => True) (fun ks => [V.int (wv ks ks.length 0), V.int (many ks ks.length 0)])) ak fr K1 fa1 ∧ AskF P w K mg base (spFn (fun _ => True) (fun ks => sidesV (ends ks ks.length 0))) ak fr K1 fa25 ∧ AskF P w K mg base (spFn (fun _ => True) (fun ks => sidesV (greedyV ks ks.length 0))) ak fr K1 fa51 ∧ AskF P w K mg base (spFn (fun ks => ks.length % 2 = 0) (fun ks => [V.int (sureV ks)])) ak fr K1 fa79 ∧ AskF P w K mg base (spFn (fun _ => True) (fun ks => sidesV (lastPlay ks))) ak fr K1 fa109, ?_, ?_⟩
    · skip
      refine ⟨_, rfl, .inl ⟨rfl, _, SqL.of hak_10⟩, hT_10, fun fa109 ca110 Ja111 ea112 _ hTa113 ga114 nfa115 hfa116 hca117 => ?_⟩
      refine ⟨_, rfl, _, rfl, (by show 3 ≤ sizeLine; decide), fun pa118 npa118 => gen_heap npa118 fun Ha119 sHa119 hpa118 => ?_⟩
      have ha120 := (sHa119 _ _ (ea112 _ _ hak_10 (by intro _ z; cases z)))
      refine ⟨ak, _, _, rfl, rfl, ha120, (by show 4 < sizeLine; decide), gen_put ha120 fun Ha121 sHa121 ha122 => ?_⟩
      have ha123 := (sHa121 _ _ (ne_of_none hak_10 ga114).symm (sHa119 _ _ hfa116))
      have ha124 := (sHa121 _ _ (ne_of (sHa119 _ _ hca117) ha120 (by intro z; cases z)) (sHa119 _ _ hca117))
      have ha125 := (sHa121 _ _ nakfr.symm (sHa119 _ _ (ea112 _ _ hfr_10 (by intro _ z; cases z))))
      have kfa109 : AskF P w K mg base (spFn (fun _ => True) (fun ks => sidesV (lastPlay ks))) ak fr Ha121 fa109 := by
        refine ⟨_, lamD_sub ha123 ha124, lamD_away ha123 ha124 ha122 ha125, ?_⟩
        refine callable_lam (k := 28) (N := ["_law_it"]) (ps := ["_law_it"]) (nscope_by (by first | (dsimp only; decide +kernel) | rfl)) rfl nfa115 (fun pm ctv us hl => match us, hl with | [_], _ => rfl) (fun vs H Q E h => by obtain ⟨r, ks, rfl, _⟩ := h; rfl) (fun A1 o1' s1 H1 vs1 Q1 E1 hr1 h1 => ?_)
        obtain ⟨r, ks, rfl, hr, okr, hck, q1⟩ := h1
        refine ⟨_, pe_call Gplay_by (hr1.mono (by first | decide | omega)) (by rfl) T.gplay_by T.Fplay_by.kp T.bplay_by .nil (passes_call (takes_of rfl rfl rfl rfl) (fun _ _ _ _ h => h)) (pa_cons (pv 0) (pa_cons (pe_op op_sub (pe_call Ghow_many (hr1.mono (by first | decide | omega)) (by rfl) T.ghow_many T.Fhow_many.kp T.bhow_many .nil (passes_call (takes_of rfl rfl rfl rfl) (fun _ _ _ _ h => h)) (pa_cons (pv 0) pa_nil)) pe_int) pa_nil)), ?_⟩
        refine ⟨_, rfl, _, rfl, _, rfl, .inl ⟨ks, ⟨r, rfl, (SqL.of hr), okr⟩, fun Hl1 sHl1 => ?_⟩⟩
        have hl2 := (sHl1 _ _ hr)
        refine ⟨_, _, rfl, rfl, _, _, rfl, .inr ⟨ks, ⟨r, rfl, (SqL.of hl2), okr⟩, .inr ⟨(plays ks ks.length 0).length - 1, lastPlay ks, congrArg V.int (by unfold many; have := plays_pos ks ks.length 0; omega), last_at ks, fun Hl3 pl4 sHl3 npl4 hpl4 => ?_⟩⟩⟩
        exact q1 _ pl4 (fun b o e => (sHl3 _ _ (sHl1 _ _ e))) (sHl1.free npl4) hpl4
      have ha126 := (sHa121 _ _ nao1 (sHa119 _ _ (ea112 _ _ ho1_10 (by intro _ z; cases z))))
      have ha127 := (sHa121 _ _ nao2 (sHa119 _ _ (ea112 _ _ ho2_10 (by intro _ z; cases z))))
      have ha128 := (sHa121 _ _ nae1 (sHa119 _ _ (ea112 _ _ he1_10 (by intro _ z; cases z))))
      have ha129 := (sHa121 _ _ nae2 (sHa119 _ _ (ea112 _ _ he2_10 (by intro _ z; cases z))))
      have ha130 := (sHa121 _ _ nat1 (sHa119 _ _ (ea112 _ _ ht1_10 (by intro _ z; cases z))))
      have ha131 := (sHa121 _ _ nat2 (sHa119 _ _ (ea112 _ _ ht2_10 (by intro _ z; cases z))))
      have ha132 := (sHa121 _ _ (ne_of (sHa119 _ _ (ea112 _ _ hpa10_10 (by intro _ z; cases z))) ha120 (by intro z; cases z)) (sHa119 _ _ (ea112 _ _ hpa10_10 (by intro _ z; cases z))))
      have ha133 := (sHa121 _ _ (ne_of (sHa119 _ _ (ea112 _ _ hpa34_10 (by intro _ z; cases z))) ha120 (by intro z; cases z)) (sHa119 _ _ (ea112 _ _ hpa34_10 (by intro _ z; cases z))))
      have ha134 := (sHa121 _ _ (ne_of (sHa119 _ _ (ea112 _ _ hpa60_10 (by intro _ z; cases z))) ha120 (by intro z; cases z)) (sHa119 _ _ (ea112 _ _ hpa60_10 (by intro _ z; cases z))))
      have ha135 := (sHa121 _ _ (ne_of (sHa119 _ _ (ea112 _ _ hpa88_10 (by intro _ z; cases z))) ha120 (by intro z; cases z)) (sHa119 _ _ (ea112 _ _ hpa88_10 (by intro _ z; cases z))))
      have ha136 := (sHa121 _ _ (ne_of_none (ea112 _ _ hak_10 (by intro _ z; cases z)) npa118).symm hpa118)
      have ta137 := (AskF.but1 sHa121 (AskF.mono sHa119 (AskF.ext ea112 kfa1_10)))
      have ta138 := (AskF.but1 sHa121 (AskF.mono sHa119 (AskF.ext ea112 kfa25_10)))
      have ta139 := (AskF.but1 sHa121 (AskF.mono sHa119 (AskF.ext ea112 kfa51_10)))
      have ta140 := (AskF.but1 sHa121 (AskF.mono sHa119 (AskF.ext ea112 kfa79_10)))
      exact ⟨pa118, fa109, rfl, (tabs_but (hTa113.ext sHa119) sHa121 ha120), ha122, ha125, ha126, ha127, ha128, ha129, ha130, ha131, ha132, ha133, ha134, ha135, ha136, ta137, ta138, ta139, ta140, kfa109⟩
    rintro σ1 Hs11 ⟨pa118, fa109, rfl, hT_11, hak_11, hfr_11, ho1_11, ho2_11, he1_11, he2_11, ht1_11, ht2_11, hpa10_11, hpa34_11, hpa60_11, hpa88_11, hpa118_11, kfa1_11, kfa25_11, kfa51_11, kfa79_11, kfa109_11⟩
    refine ⟨fun σ1 K1 => ∃ (pa154 pa150 pa152 fa141 : Addr), σ1 = [some (V.ref a), some (V.ref c), some (V.int more), some (V.ref ak), some (V.ref fr), some (V.int ((mn : Nat) : Int)), some (V.ref o2), some (V.ref e1), some (V.ref e2), some (V.ref t1), some (V.ref t2), none, some (V.ref o1), none, none, none] ∧ Tabs (tabs A) K1 ∧ K1 ak = some (.lst [V.ref pa10, V.ref pa34, V.ref pa60, V.ref pa88, V.ref pa118, V.ref pa154]) ∧ K1 fr = some (.lst []) ∧ K1 o1 = some (.lst (ns.map V.int)) ∧ K1 o2 = some (.lst (ms.map V.int)) ∧ K1 e1 = some (.lst (es.map V.int)) ∧ K1 e2 = some (.lst (ls.map V.int)) ∧ K1 t1 = some (.lst [V.str "left", V.str "right"]) ∧ K1 t2 = some (.lst [V.str "right", V.str "right"]) ∧ K1 pa10 = some (.tup [V.ref fa1, V.ref o1, V.ref o2]) ∧ K1 pa34 = some (.tup [V.ref fa25, V.ref o1, V.ref o2]) ∧ K1 pa60 = some (.tup [V.ref fa51, V.ref o1, V.ref o2]) ∧ K1 pa88 = some (.tup [V.ref fa79, V.ref e1, V.ref e2]) ∧ K1 pa118 = some (.tup [V.ref fa109, V.ref o1, V.ref o2]) ∧ K1 pa154 = some (.tup [V.ref fa141, V.ref pa150, V.ref pa152]) ∧ K1 pa150 = some (.lst [V.ref o1, V.ref t1]) ∧ K1 pa152 = some (.lst [V.ref o2, V.ref t2]) ∧ (pa150 ≠ ak ∧ pa150 ≠ fr) ∧ (pa152 ≠ ak ∧ pa152 ≠ fr) ∧ AskF P w K mg base (spFn (fun _ => True) (fun ks => [V.int (wv ks ks.length 0), V.int (many ks ks.length 0)])) ak fr K1 fa1 ∧ AskF P w K mg base (spFn (fun _ => True) (fun ks => sidesV (ends ks ks.length 0))) ak fr K1 fa25 ∧ AskF P w K mg base (spFn (fun _ => True) (fun ks => sidesV (greedyV ks ks.length 0))) ak fr K1 fa51 ∧ AskF P w K mg base (spFn (fun ks => ks.length % 2 = 0) (fun ks => [V.int (sureV ks)])) ak fr K1 fa79 ∧ AskF P w K mg base (spFn (fun _ => True) (fun ks => sidesV (lastPlay ks))) ak fr K1 fa109 ∧ AskF P w K mg base (spPair K) ak fr K1 fa141, ?_, ?_⟩
    · skip
      refine ⟨_, rfl, .inl ⟨rfl, _, SqL.of hak_11⟩, hT_11, fun fa141 ca142 Ja143 ea144 _ hTa145 ga146 nfa147 hfa148 hca149 => ?_⟩
      refine ⟨_, rfl, _, rfl, (by show 2 ≤ sizeLine; decide), fun pa150 npa150 => gen_heap npa150 fun Ha151 sHa151 hpa150 => ?_⟩
      refine ⟨_, rfl, _, rfl, (by show 2 ≤ sizeLine; decide), fun pa152 npa152 => gen_heap npa152 fun Ha153 sHa153 hpa152 => ?_⟩
      refine ⟨(by show 3 ≤ sizeLine; decide), fun pa154 npa154 => gen_heap npa154 fun Ha155 sHa155 hpa154 => ?_⟩
      have ha156 := (sHa155 _ _ (sHa153 _ _ (sHa151 _ _ (ea144 _ _ hak_11 (by intro _ z; cases z)))))
      refine ⟨ak, _, _, rfl, rfl, ha156, (by show 5 < sizeLine; decide), gen_put ha156 fun Ha157 sHa157 ha158 => ?_⟩
      have ha159 := (sHa157 _ _ (ne_of_none hak_11 ga146).symm (sHa155 _ _ (sHa153 _ _ (sHa151 _ _ hfa148))))
      have ha160 := (sHa157 _ _ (ne_of (sHa155 _ _ (sHa153 _ _ (sHa151 _ _ hca149))) ha156 (by intro z; cases z)) (sHa155 _ _ (sHa153 _ _ (sHa151 _ _ hca149))))
      have ha161 := (sHa157 _ _ nakfr.symm (sHa155 _ _ (sHa153 _ _ (sHa151 _ _ (ea144 _ _ hfr_11 (by intro _ z; cases z))))))
      have kfa141 : AskF P w K mg base (spPair K) ak fr Ha157 fa141 := by
        refine ⟨_, lamD_sub ha159 ha160, lamD_away ha159 ha160 ha158 ha161, ?_⟩
        refine callable_lam (k := 28) (N := ["_law_it"]) (ps := ["_law_it"]) (nscope_by (by first | (dsimp only; decide +kernel) | rfl)) rfl nfa147 (fun pm ctv us hl => match us, hl with | [_], _ => rfl) (fun vs H Q E h => by obtain ⟨a1, r, t, ks, bs, rfl, _⟩ := h; rfl) (fun A1 o1' s1 H1 vs1 Q1 E1 hr1 h1 => ?_)
        obtain ⟨a1, r, t, ks, bs, rfl, ha1, hr, ht, okr, hbs, q1⟩ := h1
        refine ⟨_, pe_callTy call_list_of (by rfl) T.blist (by decide +kernel) (pa_cons (pe_call Gled (hr1.mono (by first | decide | omega)) (by rfl) T.gled T.Fled.kp T.bled .nil (passes_call (takes_of rfl rfl rfl rfl) (fun _ _ _ _ h => h)) (pa_cons (pe_ix ix_list (pv 0) pe_int (fun _ _ => rfl)) (pa_cons (pe_ix ix_list (pv 0) pe_int (fun _ _ => rfl)) pa_nil))) pa_nil), ?_⟩
        refine ⟨_, rfl, a1, _, _, _, rfl, rfl, SqL.of ha1, atI_nat (j := 0) rfl, _, rfl, a1, _, _, _, rfl, rfl, SqL.of ha1, atI_nat (j := 1) rfl, ?_⟩
        refine ⟨_, _, rfl, .inr ⟨ks, ⟨r, rfl, SqL.of hr, okr⟩, .inr ⟨t, bs, rfl, SqL.of ht, hbs, fun Ha p l sa np nl hp hl => ?_⟩⟩⟩
        exact ⟨p, _, rfl, .inr (SqT.of hp), fun z nz => gen_heap nz fun Hb sb hz => q1 Hb z l (sa.trans sb) (sa.free nz) nl (ne_of_none hl nz).symm hz (sb _ _ hl)⟩
      have ha162 := (sHa157 _ _ nao1 (sHa155 _ _ (sHa153 _ _ (sHa151 _ _ (ea144 _ _ ho1_11 (by intro _ z; cases z))))))
      have ha163 := (sHa157 _ _ nao2 (sHa155 _ _ (sHa153 _ _ (sHa151 _ _ (ea144 _ _ ho2_11 (by intro _ z; cases z))))))
      have ha164 := (sHa157 _ _ nae1 (sHa155 _ _ (sHa153 _ _ (sHa151 _ _ (ea144 _ _ he1_11 (by intro _ z; cases z))))))
      have ha165 := (sHa157 _ _ nae2 (sHa155 _ _ (sHa153 _ _ (sHa151 _ _ (ea144 _ _ he2_11 (by intro _ z; cases z))))))
      have ha166 := (sHa157 _ _ nat1 (sHa155 _ _ (sHa153 _ _ (sHa151 _ _ (ea144 _ _ ht1_11 (by intro _ z; cases z))))))
      have ha167 := (sHa157 _ _ nat2 (sHa155 _ _ (sHa153 _ _ (sHa151 _ _ (ea144 _ _ ht2_11 (by intro _ z; cases z))))))
      have ha168 := (sHa157 _ _ (ne_of (sHa155 _ _ (sHa153 _ _ (sHa151 _ _ (ea144 _ _ hpa10_11 (by intro _ z; cases z))))) ha156 (by intro z; cases z)) (sHa155 _ _ (sHa153 _ _ (sHa151 _ _ (ea144 _ _ hpa10_11 (by intro _ z; cases z))))))
      have ha169 := (sHa157 _ _ (ne_of (sHa155 _ _ (sHa153 _ _ (sHa151 _ _ (ea144 _ _ hpa34_11 (by intro _ z; cases z))))) ha156 (by intro z; cases z)) (sHa155 _ _ (sHa153 _ _ (sHa151 _ _ (ea144 _ _ hpa34_11 (by intro _ z; cases z))))))
      have ha170 := (sHa157 _ _ (ne_of (sHa155 _ _ (sHa153 _ _ (sHa151 _ _ (ea144 _ _ hpa60_11 (by intro _ z; cases z))))) ha156 (by intro z; cases z)) (sHa155 _ _ (sHa153 _ _ (sHa151 _ _ (ea144 _ _ hpa60_11 (by intro _ z; cases z))))))
      have ha171 := (sHa157 _ _ (ne_of (sHa155 _ _ (sHa153 _ _ (sHa151 _ _ (ea144 _ _ hpa88_11 (by intro _ z; cases z))))) ha156 (by intro z; cases z)) (sHa155 _ _ (sHa153 _ _ (sHa151 _ _ (ea144 _ _ hpa88_11 (by intro _ z; cases z))))))
      have ha172 := (sHa157 _ _ (ne_of (sHa155 _ _ (sHa153 _ _ (sHa151 _ _ (ea144 _ _ hpa118_11 (by intro _ z; cases z))))) ha156 (by intro z; cases z)) (sHa155 _ _ (sHa153 _ _ (sHa151 _ _ (ea144 _ _ hpa118_11 (by intro _ z; cases z))))))
      have ha173 := (sHa157 _ _ (ne_of_none (sHa153 _ _ (sHa151 _ _ (ea144 _ _ hak_11 (by intro _ z; cases z)))) npa154).symm hpa154)
      have ha174 := (sHa157 _ _ (ne_of_none (ea144 _ _ hak_11 (by intro _ z; cases z)) npa150).symm (sHa155 _ _ (sHa153 _ _ hpa150)))
      have ha175 := (sHa157 _ _ (ne_of_none (sHa151 _ _ (ea144 _ _ hak_11 (by intro _ z; cases z))) npa152).symm (sHa155 _ _ hpa152))
      have ta176 := (AskF.but1 sHa157 (AskF.mono sHa155 (AskF.mono sHa153 (AskF.mono sHa151 (AskF.ext ea144 kfa1_11)))))
      have ta177 := (AskF.but1 sHa157 (AskF.mono sHa155 (AskF.mono sHa153 (AskF.mono sHa151 (AskF.ext ea144 kfa25_11)))))
      have ta178 := (AskF.but1 sHa157 (AskF.mono sHa155 (AskF.mono sHa153 (AskF.mono sHa151 (AskF.ext ea144 kfa51_11)))))
      have ta179 := (AskF.but1 sHa157 (AskF.mono sHa155 (AskF.mono sHa153 (AskF.mono sHa151 (AskF.ext ea144 kfa79_11)))))
      have ta180 := (AskF.but1 sHa157 (AskF.mono sHa155 (AskF.mono sHa153 (AskF.mono sHa151 (AskF.ext ea144 kfa109_11)))))
      exact ⟨pa154, pa150, pa152, fa141, rfl, (tabs_but (((hTa145.ext sHa151).ext sHa153).ext sHa155) sHa157 ha156), ha158, ha161, ha162, ha163, ha164, ha165, ha166, ha167, ha168, ha169, ha170, ha171, ha172, ha173, ha174, ha175, ⟨(ne_of_none (ea144 _ _ hak_11 (by intro _ z; cases z)) npa150).symm, (ne_of_none (ea144 _ _ hfr_11 (by intro _ z; cases z)) npa150).symm⟩, ⟨(ne_of_none (sHa151 _ _ (ea144 _ _ hak_11 (by intro _ z; cases z))) npa152).symm, (ne_of_none (sHa151 _ _ (ea144 _ _ hfr_11 (by intro _ z; cases z))) npa152).symm⟩, ta176, ta177, ta178, ta179, ta180, kfa141⟩
    rintro σ1 Hs12 ⟨pa154, pa150, pa152, fa141, rfl, hT_12, hak_12, hfr_12, ho1_12, ho2_12, he1_12, he2_12, ht1_12, ht2_12, hpa10_12, hpa34_12, hpa60_12, hpa88_12, hpa118_12, hpa154_12, hpa150_12, hpa152_12, nepa150_12, nepa152_12, kfa1_12, kfa25_12, kfa51_12, kfa79_12, kfa109_12, kfa141_12⟩
    refine ⟨fun σ1 K1 => ∃ (pa199 fa181 fa190 : Addr), σ1 = [some (V.ref a), some (V.ref c), some (V.int more), some (V.ref ak), some (V.ref fr), some (V.int ((mn : Nat) : Int)), some (V.ref o2), some (V.ref e1), some (V.ref e2), some (V.ref t1), some (V.ref t2), none, some (V.ref o1), none, none, none] ∧ Tabs (tabs A) K1 ∧ K1 ak = some (.lst [V.ref pa10, V.ref pa34, V.ref pa60, V.ref pa88, V.ref pa118, V.ref pa154]) ∧ K1 fr = some (.lst [V.ref pa199]) ∧ K1 o1 = some (.lst (ns.map V.int)) ∧ K1 o2 = some (.lst (ms.map V.int)) ∧ K1 e1 = some (.lst (es.map V.int)) ∧ K1 e2 = some (.lst (ls.map V.int)) ∧ K1 t1 = some (.lst [V.str "left", V.str "right"]) ∧ K1 t2 = some (.lst [V.str "right", V.str "right"]) ∧ K1 pa10 = some (.tup [V.ref fa1, V.ref o1, V.ref o2]) ∧ K1 pa34 = some (.tup [V.ref fa25, V.ref o1, V.ref o2]) ∧ K1 pa60 = some (.tup [V.ref fa51, V.ref o1, V.ref o2]) ∧ K1 pa88 = some (.tup [V.ref fa79, V.ref e1, V.ref e2]) ∧ K1 pa118 = some (.tup [V.ref fa109, V.ref o1, V.ref o2]) ∧ K1 pa154 = some (.tup [V.ref fa141, V.ref pa150, V.ref pa152]) ∧ K1 pa150 = some (.lst [V.ref o1, V.ref t1]) ∧ K1 pa152 = some (.lst [V.ref o2, V.ref t2]) ∧ K1 pa199 = some (.tup [V.ref fa181, V.ref fa190, V.ref o1, V.ref o2]) ∧ AskF P w K mg base (spFn (fun _ => True) (fun ks => [V.int (wv ks ks.length 0), V.int (many ks ks.length 0)])) ak fr K1 fa1 ∧ AskF P w K mg base (spFn (fun _ => True) (fun ks => sidesV (ends ks ks.length 0))) ak fr K1 fa25 ∧ AskF P w K mg base (spFn (fun _ => True) (fun ks => sidesV (greedyV ks ks.length 0))) ak fr K1 fa51 ∧ AskF P w K mg base (spFn (fun ks => ks.length % 2 = 0) (fun ks => [V.int (sureV ks)])) ak fr K1 fa79 ∧ AskF P w K mg base (spFn (fun _ => True) (fun ks => sidesV (lastPlay ks))) ak fr K1 fa109 ∧ AskF P w K mg base (spPair K) ak fr K1 fa141 ∧ AskF P w K mg base (spAsk8 A.C_Gets A.C_Held true) ak fr K1 fa181 ∧ AskF P w K mg base (spHold8 A.C_Gets A.C_Held true) ak fr K1 fa190, ?_, ?_⟩
    · skip
      refine ⟨_, rfl, .inl ⟨rfl, _, SqL.of hfr_12⟩, hT_12, fun fa181 ca182 Ja183 ea184 _ hTa185 ga186 nfa187 hfa188 hca189 => ?_⟩
      refine ⟨hTa185, fun fa190 ca191 Ja192 ea193 _ hTa194 ga195 nfa196 hfa197 hca198 => ?_⟩
      refine ⟨_, rfl, _, rfl, (by show 4 ≤ sizeLine; decide), fun pa199 npa199 => gen_heap npa199 fun Ha200 sHa200 hpa199 => ?_⟩
      have ha201 := (sHa200 _ _ (ea193 _ _ (ea184 _ _ hfr_12 (by intro _ z; cases z)) (by intro _ z; cases z)))
      refine ⟨fr, _, _, rfl, rfl, ha201, (by show 0 < sizeLine; decide), gen_put ha201 fun Ha202 sHa202 ha203 => ?_⟩
      have ha204 := (sHa202 _ _ (ne_of_none hfr_12 ga186).symm (sHa200 _ _ (ea193 _ _ hfa188 (by intro _ z; cases z))))
      have ha205 := (sHa202 _ _ (ne_of (sHa200 _ _ (ea193 _ _ hca189 (by intro _ z; cases z))) ha201 (by intro z; cases z)) (sHa200 _ _ (ea193 _ _ hca189 (by intro _ z; cases z))))
      have ha206 := (sHa202 _ _ nakfr (sHa200 _ _ (ea193 _ _ (ea184 _ _ hak_12 (by intro _ z; cases z)) (by intro _ z; cases z))))
      have kfa181 : AskF P w K mg base (spAsk8 A.C_Gets A.C_Held true) ak fr Ha202 fa181 := by
        refine ⟨_, lamD_sub ha204 ha205, lamD_away ha204 ha205 ha206 ha203, ?_⟩
        refine callable_lam (k := 28) (N := ["_law_it"]) (ps := ["_law_it"]) (nscope_by (by first | (dsimp only; decide +kernel) | rfl)) rfl nfa187 (fun pm ctv us hl => match us, hl with | [_], _ => rfl) (fun vs H Q E h => by obtain ⟨r, ks, rfl, _⟩ := h; rfl) (fun A1 o1' s1 H1 vs1 Q1 E1 hr1 h1 => ?_)
        obtain ⟨r, ks, rfl, hr, okr, q1⟩ := h1
        refine ⟨_, pe_call Gjudged (hr1.mono (by first | decide | omega)) (by rfl) T.gjudged T.Fjudged.kp T.bjudged .nil (passes_call (takes_of rfl rfl rfl rfl) (fun _ _ _ _ h => h)) (pa_cons (pv 0) (pa_cons (pe_call Gworth (hr1.mono (by first | decide | omega)) (by rfl) T.gworth T.Fworth.kp T.bworth .nil (passes_call (takes_of rfl rfl rfl rfl) (fun _ _ _ _ h => h)) (pa_cons (pv 0) pa_nil)) pa_nil)), ?_⟩
        refine ⟨_, rfl, _, rfl, _, rfl, .inl ⟨ks, ⟨r, rfl, (SqL.of hr), okr⟩, fun Hl1 sHl1 => ?_⟩⟩
        have hl2 := (sHl1 _ _ hr)
        refine ⟨_, _, rfl, .inr ⟨ks, ⟨r, rfl, (SqL.of hl2), okr⟩, .inr ⟨_, rfl, fun Hl3 ol4 dxl5 ll6 xsl7 sHl3 nol4 nll6 hol4 hll6 Tll6 => ?_⟩⟩⟩
        rw [show decide ((wv ks ks.length 0) ≤ wv ks ks.length 0) = true from decide_eq_true (Int.le_refl _)] at hol4 Tll6
        rw [if_pos rfl] at hol4
        exact q1 _ ol4 _ ll6 _ (fun b o e => (sHl3 _ _ (sHl1 _ _ e))) (sHl1.free nol4) (sHl1.free nll6) hol4 hll6 Tll6
      have ha207 := (sHa202 _ _ (ne_of_none (ea184 _ _ hfr_12 (by intro _ z; cases z)) ga195).symm (sHa200 _ _ hfa197))
      have ha208 := (sHa202 _ _ (ne_of (sHa200 _ _ hca198) ha201 (by intro z; cases z)) (sHa200 _ _ hca198))
      have kfa190 : AskF P w K mg base (spHold8 A.C_Gets A.C_Held true) ak fr Ha202 fa190 := by
        refine ⟨_, lamD_sub ha207 ha208, lamD_away ha207 ha208 ha206 ha203, ?_⟩
        refine callable_lam (k := 28) (N := ["_law_found", "_law_it"]) (ps := ["_law_found", "_law_it"]) (nscope_by (by first | (dsimp only; decide +kernel) | rfl)) rfl nfa196 (fun pm ctv us hl => match us, hl with | [_, _], _ => rfl) (fun vs H Q E h => by obtain ⟨r, oo, dx, ll, ks, xs, rfl, _⟩ := h; rfl) (fun A1 o1' s1 H1 vs1 Q1 E1 hr1 h1 => ?_)
        obtain ⟨r, oo, dx, ll, ks, xs, rfl, hr, okr, hoo, hll, hTT, q1⟩ := h1
        refine ⟨_, pe_meth2 (pv 0) T.clGets T.mGets_shows GGets_shows T.bGets_shows T.clHeld T.mHeld_shows GHeld_shows T.bHeld_shows (hr1.mono (by first | decide | omega)) pass0 (pa_cons (pv 1) (pa_cons (pe_call Gworth (hr1.mono (by first | decide | omega)) (by rfl) T.gworth T.Fworth.kp T.bworth .nil (passes_call (takes_of rfl rfl rfl rfl) (fun _ _ _ _ h => h)) (pa_cons (pv 1) pa_nil)) pa_nil)), ?_⟩
        refine ⟨_, rfl, oo, _, _, rfl, rfl, .inl ⟨hoo, ?_⟩⟩
        refine ⟨_, rfl, _, rfl, _, rfl, .inl ⟨ks, ⟨r, rfl, (SqL.of hr), okr⟩, fun Hl1 sHl1 => ?_⟩⟩
        have hl3 := (sHl1 _ _ hoo)
        have hl4 := (sHl1 _ _ hr)
        have hl5 := (sHl1 _ _ hll)
        have tl6 := (Tris.mono sHl1 hTT)
        refine ⟨oo, r, ll, _, ks, _, _, _, rfl, hl3, (SqL.of hl4), hl5, tl6, planV_len okr.1, okr.1, fun Hl2 sHl2 => ?_⟩
        rw [show (showsV ks (planV ks true) true (wv ks ks.length 0)) = true from (shows_first _ _).trans (decide_eq_true (Int.le_refl _))]
        exact q1 _ (fun b o e => (sHl2 _ _ (sHl1 _ _ e)))
      have ha209 := (sHa202 _ _ nfo1 (sHa200 _ _ (ea193 _ _ (ea184 _ _ ho1_12 (by intro _ z; cases z)) (by intro _ z; cases z))))
      have ha210 := (sHa202 _ _ nfo2 (sHa200 _ _ (ea193 _ _ (ea184 _ _ ho2_12 (by intro _ z; cases z)) (by intro _ z; cases z))))
      have ha211 := (sHa202 _ _ nfe1 (sHa200 _ _ (ea193 _ _ (ea184 _ _ he1_12 (by intro _ z; cases z)) (by intro _ z; cases z))))
      have ha212 := (sHa202 _ _ nfe2 (sHa200 _ _ (ea193 _ _ (ea184 _ _ he2_12 (by intro _ z; cases z)) (by intro _ z; cases z))))
      have ha213 := (sHa202 _ _ nft1 (sHa200 _ _ (ea193 _ _ (ea184 _ _ ht1_12 (by intro _ z; cases z)) (by intro _ z; cases z))))
      have ha214 := (sHa202 _ _ nft2 (sHa200 _ _ (ea193 _ _ (ea184 _ _ ht2_12 (by intro _ z; cases z)) (by intro _ z; cases z))))
      have ha215 := (sHa202 _ _ (ne_of (sHa200 _ _ (ea193 _ _ (ea184 _ _ hpa10_12 (by intro _ z; cases z)) (by intro _ z; cases z))) ha201 (by intro z; cases z)) (sHa200 _ _ (ea193 _ _ (ea184 _ _ hpa10_12 (by intro _ z; cases z)) (by intro _ z; cases z))))
      have ha216 := (sHa202 _ _ (ne_of (sHa200 _ _ (ea193 _ _ (ea184 _ _ hpa34_12 (by intro _ z; cases z)) (by intro _ z; cases z))) ha201 (by intro z; cases z)) (sHa200 _ _ (ea193 _ _ (ea184 _ _ hpa34_12 (by intro _ z; cases z)) (by intro _ z; cases z))))
      have ha217 := (sHa202 _ _ (ne_of (sHa200 _ _ (ea193 _ _ (ea184 _ _ hpa60_12 (by intro _ z; cases z)) (by intro _ z; cases z))) ha201 (by intro z; cases z)) (sHa200 _ _ (ea193 _ _ (ea184 _ _ hpa60_12 (by intro _ z; cases z)) (by intro _ z; cases z))))
      have ha218 := (sHa202 _ _ (ne_of (sHa200 _ _ (ea193 _ _ (ea184 _ _ hpa88_12 (by intro _ z; cases z)) (by intro _ z; cases z))) ha201 (by intro z; cases z)) (sHa200 _ _ (ea193 _ _ (ea184 _ _ hpa88_12 (by intro _ z; cases z)) (by intro _ z; cases z))))
      have ha219 := (sHa202 _ _ (ne_of (sHa200 _ _ (ea193 _ _ (ea184 _ _ hpa118_12 (by intro _ z; cases z)) (by intro _ z; cases z))) ha201 (by intro z; cases z)) (sHa200 _ _ (ea193 _ _ (ea184 _ _ hpa118_12 (by intro _ z; cases z)) (by intro _ z; cases z))))
      have ha220 := (sHa202 _ _ (ne_of (sHa200 _ _ (ea193 _ _ (ea184 _ _ hpa154_12 (by intro _ z; cases z)) (by intro _ z; cases z))) ha201 (by intro z; cases z)) (sHa200 _ _ (ea193 _ _ (ea184 _ _ hpa154_12 (by intro _ z; cases z)) (by intro _ z; cases z))))
      have ha221 := (sHa202 _ _ nepa150_12.2 (sHa200 _ _ (ea193 _ _ (ea184 _ _ hpa150_12 (by intro _ z; cases z)) (by intro _ z; cases z))))
      have ha222 := (sHa202 _ _ nepa152_12.2 (sHa200 _ _ (ea193 _ _ (ea184 _ _ hpa152_12 (by intro _ z; cases z)) (by intro _ z; cases z))))
      have ha223 := (sHa202 _ _ (ne_of_none (ea193 _ _ (ea184 _ _ hfr_12 (by intro _ z; cases z)) (by intro _ z; cases z)) npa199).symm hpa199)
      have ta224 := (AskF.but2 sHa202 (AskF.mono sHa200 (AskF.ext ea193 (AskF.ext ea184 kfa1_12))))
      have ta225 := (AskF.but2 sHa202 (AskF.mono sHa200 (AskF.ext ea193 (AskF.ext ea184 kfa25_12))))
      have ta226 := (AskF.but2 sHa202 (AskF.mono sHa200 (AskF.ext ea193 (AskF.ext ea184 kfa51_12))))
      have ta227 := (AskF.but2 sHa202 (AskF.mono sHa200 (AskF.ext ea193 (AskF.ext ea184 kfa79_12))))
      have ta228 := (AskF.but2 sHa202 (AskF.mono sHa200 (AskF.ext ea193 (AskF.ext ea184 kfa109_12))))
      have ta229 := (AskF.but2 sHa202 (AskF.mono sHa200 (AskF.ext ea193 (AskF.ext ea184 kfa141_12))))
      exact ⟨pa199, fa181, fa190, rfl, (tabs_but (hTa194.ext sHa200) sHa202 ha201), ha206, ha203, ha209, ha210, ha211, ha212, ha213, ha214, ha215, ha216, ha217, ha218, ha219, ha220, ha221, ha222, ha223, ta224, ta225, ta226, ta227, ta228, ta229, kfa181, kfa190⟩
    rintro σ1 Hs13 ⟨pa199, fa181, fa190, rfl, hT_13, hak_13, hfr_13, ho1_13, ho2_13, he1_13, he2_13, ht1_13, ht2_13, hpa10_13, hpa34_13, hpa60_13, hpa88_13, hpa118_13, hpa154_13, hpa150_13, hpa152_13, hpa199_13, kfa1_13, kfa25_13, kfa51_13, kfa79_13, kfa109_13, kfa141_13, kfa181_13, kfa190_13⟩
    refine ⟨fun σ1 K1 => ∃ (pa248 fa230 fa239 : Addr), σ1 = [some (V.ref a), some (V.ref c), some (V.int more), some (V.ref ak), some (V.ref fr), some (V.int ((mn : Nat) : Int)), some (V.ref o2), some (V.ref e1), some (V.ref e2), some (V.ref t1), some (V.ref t2), none, some (V.ref o1), none, none, none] ∧ Tabs (tabs A) K1 ∧ K1 ak = some (.lst [V.ref pa10, V.ref pa34, V.ref pa60, V.ref pa88, V.ref pa118, V.ref pa154]) ∧ K1 fr = some (.lst [V.ref pa199, V.ref pa248]) ∧ K1 o1 = some (.lst (ns.map V.int)) ∧ K1 o2 = some (.lst (ms.map V.int)) ∧ K1 e1 = some (.lst (es.map V.int)) ∧ K1 e2 = some (.lst (ls.map V.int)) ∧ K1 t1 = some (.lst [V.str "left", V.str "right"]) ∧ K1 t2 = some (.lst [V.str "right", V.str "right"]) ∧ K1 pa10 = some (.tup [V.ref fa1, V.ref o1, V.ref o2]) ∧ K1 pa34 = some (.tup [V.ref fa25, V.ref o1, V.ref o2]) ∧ K1 pa60 = some (.tup [V.ref fa51, V.ref o1, V.ref o2]) ∧ K1 pa88 = some (.tup [V.ref fa79, V.ref e1, V.ref e2]) ∧ K1 pa118 = some (.tup [V.ref fa109, V.ref o1, V.ref o2]) ∧ K1 pa154 = some (.tup [V.ref fa141, V.ref pa150, V.ref pa152]) ∧ K1 pa150 = some (.lst [V.ref o1, V.ref t1]) ∧ K1 pa152 = some (.lst [V.ref o2, V.ref t2]) ∧ K1 pa199 = some (.tup [V.ref fa181, V.ref fa190, V.ref o1, V.ref o2]) ∧ K1 pa248 = some (.tup [V.ref fa230, V.ref fa239, V.ref o1, V.ref o2]) ∧ AskF P w K mg base (spFn (fun _ => True) (fun ks => [V.int (wv ks ks.length 0), V.int (many ks ks.length 0)])) ak fr K1 fa1 ∧ AskF P w K mg base (spFn (fun _ => True) (fun ks => sidesV (ends ks ks.length 0))) ak fr K1 fa25 ∧ AskF P w K mg base (spFn (fun _ => True) (fun ks => sidesV (greedyV ks ks.length 0))) ak fr K1 fa51 ∧ AskF P w K mg base (spFn (fun ks => ks.length % 2 = 0) (fun ks => [V.int (sureV ks)])) ak fr K1 fa79 ∧ AskF P w K mg base (spFn (fun _ => True) (fun ks => sidesV (lastPlay ks))) ak fr K1 fa109 ∧ AskF P w K mg base (spPair K) ak fr K1 fa141 ∧ AskF P w K mg base (spAsk8 A.C_Gets A.C_Held true) ak fr K1 fa181 ∧ AskF P w K mg base (spHold8 A.C_Gets A.C_Held true) ak fr K1 fa190 ∧ AskF P w K mg base (spAsk8 A.C_Gets A.C_Held false) ak fr K1 fa230 ∧ AskF P w K mg base (spHold8 A.C_Gets A.C_Held false) ak fr K1 fa239, ?_, ?_⟩
    · skip
      refine ⟨_, rfl, .inl ⟨rfl, _, SqL.of hfr_13⟩, hT_13, fun fa230 ca231 Ja232 ea233 _ hTa234 ga235 nfa236 hfa237 hca238 => ?_⟩
      refine ⟨hTa234, fun fa239 ca240 Ja241 ea242 _ hTa243 ga244 nfa245 hfa246 hca247 => ?_⟩
      refine ⟨_, rfl, _, rfl, (by show 4 ≤ sizeLine; decide), fun pa248 npa248 => gen_heap npa248 fun Ha249 sHa249 hpa248 => ?_⟩
      have ha250 := (sHa249 _ _ (ea242 _ _ (ea233 _ _ hfr_13 (by intro _ z; cases z)) (by intro _ z; cases z)))
      refine ⟨fr, _, _, rfl, rfl, ha250, (by show 1 < sizeLine; decide), gen_put ha250 fun Ha251 sHa251 ha252 => ?_⟩
      have ha253 := (sHa251 _ _ (ne_of_none hfr_13 ga235).symm (sHa249 _ _ (ea242 _ _ hfa237 (by intro _ z; cases z))))
      have ha254 := (sHa251 _ _ (ne_of (sHa249 _ _ (ea242 _ _ hca238 (by intro _ z; cases z))) ha250 (by intro z; cases z)) (sHa249 _ _ (ea242 _ _ hca238 (by intro _ z; cases z))))
      have ha255 := (sHa251 _ _ nakfr (sHa249 _ _ (ea242 _ _ (ea233 _ _ hak_13 (by intro _ z; cases z)) (by intro _ z; cases z))))
      have kfa230 : AskF P w K mg base (spAsk8 A.C_Gets A.C_Held false) ak fr Ha251 fa230 := by
        refine ⟨_, lamD_sub ha253 ha254, lamD_away ha253 ha254 ha255 ha252, ?_⟩
        refine callable_lam (k := 28) (N := ["_law_it"]) (ps := ["_law_it"]) (nscope_by (by first | (dsimp only; decide +kernel) | rfl)) rfl nfa236 (fun pm ctv us hl => match us, hl with | [_], _ => rfl) (fun vs H Q E h => by obtain ⟨r, ks, rfl, _⟩ := h; rfl) (fun A1 o1' s1 H1 vs1 Q1 E1 hr1 h1 => ?_)
        obtain ⟨r, ks, rfl, hr, okr, q1⟩ := h1
        refine ⟨_, pe_call Gjudged (hr1.mono (by first | decide | omega)) (by rfl) T.gjudged T.Fjudged.kp T.bjudged .nil (passes_call (takes_of rfl rfl rfl rfl) (fun _ _ _ _ h => h)) (pa_cons (pv 0) (pa_cons (pe_op op_add (pe_call Gworth (hr1.mono (by first | decide | omega)) (by rfl) T.gworth T.Fworth.kp T.bworth .nil (passes_call (takes_of rfl rfl rfl rfl) (fun _ _ _ _ h => h)) (pa_cons (pv 0) pa_nil)) pe_int) pa_nil)), ?_⟩
        refine ⟨_, rfl, _, rfl, _, rfl, .inl ⟨ks, ⟨r, rfl, (SqL.of hr), okr⟩, fun Hl1 sHl1 => ?_⟩⟩
        have hl2 := (sHl1 _ _ hr)
        refine ⟨_, _, rfl, rfl, _, _, rfl, .inr ⟨ks, ⟨r, rfl, (SqL.of hl2), okr⟩, .inr ⟨_, rfl, fun Hl3 ol4 dxl5 ll6 xsl7 sHl3 nol4 nll6 hol4 hll6 Tll6 => ?_⟩⟩⟩
        rw [show decide (((wv ks ks.length 0) + 1) ≤ wv ks ks.length 0) = false from decide_eq_false (by omega)] at hol4 Tll6
        rw [if_neg Bool.false_ne_true] at hol4
        exact q1 _ ol4 _ ll6 _ (fun b o e => (sHl3 _ _ (sHl1 _ _ e))) (sHl1.free nol4) (sHl1.free nll6) hol4 hll6 Tll6
      have ha256 := (sHa251 _ _ (ne_of_none (ea233 _ _ hfr_13 (by intro _ z; cases z)) ga244).symm (sHa249 _ _ hfa246))
      have ha257 := (sHa251 _ _ (ne_of (sHa249 _ _ hca247) ha250 (by intro z; cases z)) (sHa249 _ _ hca247))
      have kfa239 : AskF P w K mg base (spHold8 A.C_Gets A.C_Held false) ak fr Ha251 fa239 := by
        refine ⟨_, lamD_sub ha256 ha257, lamD_away ha256 ha257 ha255 ha252, ?_⟩
        refine callable_lam (k := 28) (N := ["_law_found", "_law_it"]) (ps := ["_law_found", "_law_it"]) (nscope_by (by first | (dsimp only; decide +kernel) | rfl)) rfl nfa245 (fun pm ctv us hl => match us, hl with | [_, _], _ => rfl) (fun vs H Q E h => by obtain ⟨r, oo, dx, ll, ks, xs, rfl, _⟩ := h; rfl) (fun A1 o1' s1 H1 vs1 Q1 E1 hr1 h1 => ?_)
        obtain ⟨r, oo, dx, ll, ks, xs, rfl, hr, okr, hoo, hll, hTT, q1⟩ := h1
        refine ⟨_, pe_meth2 (pv 0) T.clGets T.mGets_shows GGets_shows T.bGets_shows T.clHeld T.mHeld_shows GHeld_shows T.bHeld_shows (hr1.mono (by first | decide | omega)) pass0 (pa_cons (pv 1) (pa_cons (pe_op op_add (pe_call Gworth (hr1.mono (by first | decide | omega)) (by rfl) T.gworth T.Fworth.kp T.bworth .nil (passes_call (takes_of rfl rfl rfl rfl) (fun _ _ _ _ h => h)) (pa_cons (pv 1) pa_nil)) pe_int) pa_nil)), ?_⟩
        refine ⟨_, rfl, oo, _, _, rfl, rfl, .inr ⟨hoo, ?_⟩⟩
        refine ⟨_, rfl, _, rfl, _, rfl, .inl ⟨ks, ⟨r, rfl, (SqL.of hr), okr⟩, fun Hl1 sHl1 => ?_⟩⟩
        have hl3 := (sHl1 _ _ hoo)
        have hl4 := (sHl1 _ _ hr)
        have hl5 := (sHl1 _ _ hll)
        have tl6 := (Tris.mono sHl1 hTT)
        refine ⟨_, _, rfl, rfl, oo, r, ll, _, ks, _, _, _, rfl, hl3, (SqL.of hl4), hl5, tl6, planV_len okr.1, okr.1, fun Hl2 sHl2 => ?_⟩
        rw [show (showsV ks (planV ks false) false ((wv ks ks.length 0) + 1)) = true from (shows_other _ _).trans (decide_eq_true (by omega))]
        exact q1 _ (fun b o e => (sHl2 _ _ (sHl1 _ _ e)))
      have ha258 := (sHa251 _ _ nfo1 (sHa249 _ _ (ea242 _ _ (ea233 _ _ ho1_13 (by intro _ z; cases z)) (by intro _ z; cases z))))
      have ha259 := (sHa251 _ _ nfo2 (sHa249 _ _ (ea242 _ _ (ea233 _ _ ho2_13 (by intro _ z; cases z)) (by intro _ z; cases z))))
      have ha260 := (sHa251 _ _ nfe1 (sHa249 _ _ (ea242 _ _ (ea233 _ _ he1_13 (by intro _ z; cases z)) (by intro _ z; cases z))))
      have ha261 := (sHa251 _ _ nfe2 (sHa249 _ _ (ea242 _ _ (ea233 _ _ he2_13 (by intro _ z; cases z)) (by intro _ z; cases z))))
      have ha262 := (sHa251 _ _ nft1 (sHa249 _ _ (ea242 _ _ (ea233 _ _ ht1_13 (by intro _ z; cases z)) (by intro _ z; cases z))))
      have ha263 := (sHa251 _ _ nft2 (sHa249 _ _ (ea242 _ _ (ea233 _ _ ht2_13 (by intro _ z; cases z)) (by intro _ z; cases z))))
      have ha264 := (sHa251 _ _ (ne_of (sHa249 _ _ (ea242 _ _ (ea233 _ _ hpa10_13 (by intro _ z; cases z)) (by intro _ z; cases z))) ha250 (by intro z; cases z)) (sHa249 _ _ (ea242 _ _ (ea233 _ _ hpa10_13 (by intro _ z; cases z)) (by intro _ z; cases z))))
      have ha265 := (sHa251 _ _ (ne_of (sHa249 _ _ (ea242 _ _ (ea233 _ _ hpa34_13 (by intro _ z; cases z)) (by intro _ z; cases z))) ha250 (by intro z; cases z)) (sHa249 _ _ (ea242 _ _ (ea233 _ _ hpa34_13 (by intro _ z; cases z)) (by intro _ z; cases z))))
      have ha266 := (sHa251 _ _ (ne_of (sHa249 _ _ (ea242 _ _ (ea233 _ _ hpa60_13 (by intro _ z; cases z)) (by intro _ z; cases z))) ha250 (by intro z; cases z)) (sHa249 _ _ (ea242 _ _ (ea233 _ _ hpa60_13 (by intro _ z; cases z)) (by intro _ z; cases z))))
      have ha267 := (sHa251 _ _ (ne_of (sHa249 _ _ (ea242 _ _ (ea233 _ _ hpa88_13 (by intro _ z; cases z)) (by intro _ z; cases z))) ha250 (by intro z; cases z)) (sHa249 _ _ (ea242 _ _ (ea233 _ _ hpa88_13 (by intro _ z; cases z)) (by intro _ z; cases z))))
      have ha268 := (sHa251 _ _ (ne_of (sHa249 _ _ (ea242 _ _ (ea233 _ _ hpa118_13 (by intro _ z; cases z)) (by intro _ z; cases z))) ha250 (by intro z; cases z)) (sHa249 _ _ (ea242 _ _ (ea233 _ _ hpa118_13 (by intro _ z; cases z)) (by intro _ z; cases z))))
      have ha269 := (sHa251 _ _ (ne_of (sHa249 _ _ (ea242 _ _ (ea233 _ _ hpa154_13 (by intro _ z; cases z)) (by intro _ z; cases z))) ha250 (by intro z; cases z)) (sHa249 _ _ (ea242 _ _ (ea233 _ _ hpa154_13 (by intro _ z; cases z)) (by intro _ z; cases z))))
      have ha270 := (sHa251 _ _ nepa150_12.2 (sHa249 _ _ (ea242 _ _ (ea233 _ _ hpa150_13 (by intro _ z; cases z)) (by intro _ z; cases z))))
      have ha271 := (sHa251 _ _ nepa152_12.2 (sHa249 _ _ (ea242 _ _ (ea233 _ _ hpa152_13 (by intro _ z; cases z)) (by intro _ z; cases z))))
      have ha272 := (sHa251 _ _ (ne_of (sHa249 _ _ (ea242 _ _ (ea233 _ _ hpa199_13 (by intro _ z; cases z)) (by intro _ z; cases z))) ha250 (by intro z; cases z)) (sHa249 _ _ (ea242 _ _ (ea233 _ _ hpa199_13 (by intro _ z; cases z)) (by intro _ z; cases z))))
      have ha273 := (sHa251 _ _ (ne_of_none (ea242 _ _ (ea233 _ _ hfr_13 (by intro _ z; cases z)) (by intro _ z; cases z)) npa248).symm hpa248)
      have ta274 := (AskF.but2 sHa251 (AskF.mono sHa249 (AskF.ext ea242 (AskF.ext ea233 kfa1_13))))
      have ta275 := (AskF.but2 sHa251 (AskF.mono sHa249 (AskF.ext ea242 (AskF.ext ea233 kfa25_13))))
      have ta276 := (AskF.but2 sHa251 (AskF.mono sHa249 (AskF.ext ea242 (AskF.ext ea233 kfa51_13))))
      have ta277 := (AskF.but2 sHa251 (AskF.mono sHa249 (AskF.ext ea242 (AskF.ext ea233 kfa79_13))))
      have ta278 := (AskF.but2 sHa251 (AskF.mono sHa249 (AskF.ext ea242 (AskF.ext ea233 kfa109_13))))
      have ta279 := (AskF.but2 sHa251 (AskF.mono sHa249 (AskF.ext ea242 (AskF.ext ea233 kfa141_13))))
      have ta280 := (AskF.but2 sHa251 (AskF.mono sHa249 (AskF.ext ea242 (AskF.ext ea233 kfa181_13))))
      have ta281 := (AskF.but2 sHa251 (AskF.mono sHa249 (AskF.ext ea242 (AskF.ext ea233 kfa190_13))))
      exact ⟨pa248, fa230, fa239, rfl, (tabs_but (hTa243.ext sHa249) sHa251 ha250), ha255, ha252, ha258, ha259, ha260, ha261, ha262, ha263, ha264, ha265, ha266, ha267, ha268, ha269, ha270, ha271, ha272, ha273, ta274, ta275, ta276, ta277, ta278, ta279, ta280, ta281, kfa230, kfa239⟩
    rintro σ1 Hs14 ⟨pa248, fa230, fa239, rfl, hT_14, hak_14, hfr_14, ho1_14, ho2_14, he1_14, he2_14, ht1_14, ht2_14, hpa10_14, hpa34_14, hpa60_14, hpa88_14, hpa118_14, hpa154_14, hpa150_14, hpa152_14, hpa199_14, hpa248_14, kfa1_14, kfa25_14, kfa51_14, kfa79_14, kfa109_14, kfa141_14, kfa181_14, kfa190_14, kfa230_14, kfa239_14⟩
    refine ⟨fun σ1 K1 => ∃ (la292 : Addr) (xsa293 : List V), σ1 = [some (V.ref a), some (V.ref c), some (V.int more), some (V.ref ak), some (V.ref fr), some (V.int ((mn : Nat) : Int)), some (V.ref o2), some (V.ref e1), some (V.ref e2), some (V.ref t1), some (V.ref t2), some (V.ref la292), some (V.ref o1), none, none, none] ∧ Tabs (tabs A) K1 ∧ K1 ak = some (.lst [V.ref pa10, V.ref pa34, V.ref pa60, V.ref pa88, V.ref pa118, V.ref pa154]) ∧ K1 fr = some (.lst [V.ref pa199, V.ref pa248]) ∧ K1 o1 = some (.lst (ns.map V.int)) ∧ K1 o2 = some (.lst (ms.map V.int)) ∧ K1 e1 = some (.lst (es.map V.int)) ∧ K1 e2 = some (.lst (ls.map V.int)) ∧ K1 t1 = some (.lst [V.str "left", V.str "right"]) ∧ K1 t2 = some (.lst [V.str "right", V.str "right"]) ∧ K1 pa10 = some (.tup [V.ref fa1, V.ref o1, V.ref o2]) ∧ K1 pa34 = some (.tup [V.ref fa25, V.ref o1, V.ref o2]) ∧ K1 pa60 = some (.tup [V.ref fa51, V.ref o1, V.ref o2]) ∧ K1 pa88 = some (.tup [V.ref fa79, V.ref e1, V.ref e2]) ∧ K1 pa118 = some (.tup [V.ref fa109, V.ref o1, V.ref o2]) ∧ K1 pa154 = some (.tup [V.ref fa141, V.ref pa150, V.ref pa152]) ∧ K1 pa150 = some (.lst [V.ref o1, V.ref t1]) ∧ K1 pa152 = some (.lst [V.ref o2, V.ref t2]) ∧ K1 pa199 = some (.tup [V.ref fa181, V.ref fa190, V.ref o1, V.ref o2]) ∧ K1 pa248 = some (.tup [V.ref fa230, V.ref fa239, V.ref o1, V.ref o2]) ∧ K1 la292 = some (.lst xsa293) ∧ (la292 ≠ ak ∧ la292 ≠ fr) ∧ AskF P w K mg base (spFn (fun _ => True) (fun ks => [V.int (wv ks ks.length 0), V.int (many ks ks.length 0)])) ak fr K1 fa1 ∧ AskF P w K mg base (spFn (fun _ => True) (fun ks => sidesV (ends ks ks.length 0))) ak fr K1 fa25 ∧ AskF P w K mg base (spFn (fun _ => True) (fun ks => sidesV (greedyV ks ks.length 0))) ak fr K1 fa51 ∧ AskF P w K mg base (spFn (fun ks => ks.length % 2 = 0) (fun ks => [V.int (sureV ks)])) ak fr K1 fa79 ∧ AskF P w K mg base (spFn (fun _ => True) (fun ks => sidesV (lastPlay ks))) ak fr K1 fa109 ∧ AskF P w K mg base (spPair K) ak fr K1 fa141 ∧ AskF P w K mg base (spAsk8 A.C_Gets A.C_Held true) ak fr K1 fa181 ∧ AskF P w K mg base (spHold8 A.C_Gets A.C_Held true) ak fr K1 fa190 ∧ AskF P w K mg base (spAsk8 A.C_Gets A.C_Held false) ak fr K1 fa230 ∧ AskF P w K mg base (spHold8 A.C_Gets A.C_Held false) ak fr K1 fa239 ∧ Tris K1 xsa293 (planV ns true), ?_, ?_⟩
    · skip
      refine ⟨_, rfl, o1, _, rfl, .inl (SqL.of ho1_14), fun pa282 npa282 => gen_heap npa282 fun Ha283 sHa283 hpa282 => ?_⟩
      have ha284 := (sHa283 _ _ ho1_14)
      refine ⟨_, rfl, o1, _, rfl, .inl (SqL.of ha284), fun pa285 npa285 => gen_heap npa285 fun Ha286 sHa286 hpa285 => ?_⟩
      refine ⟨_, rfl, .inl ⟨ns, ⟨pa285, rfl, (SqL.of hpa285), okn⟩, fun Ha287 sHa287 => ?_⟩⟩
      have ha288 := (sHa287 _ _ (sHa286 _ _ hpa282))
      refine ⟨_, _, rfl, .inr ⟨ns, ⟨pa282, rfl, (SqL.of ha288), okn⟩, .inr ⟨_, rfl, fun Ha289 oa290 dxa291 la292 xsa293 sHa289 noa290 nla292 hoa290 hla292 Tla292 => ?_⟩⟩⟩
      rw [show decide ((wv ns ns.length 0) ≤ wv ns ns.length 0) = true from decide_eq_true (Int.le_refl _)] at hoa290 Tla292
      rw [if_pos rfl] at hoa290
      refine ⟨oa290, _, _, _, _, rfl, hoa290, T.clGets, T.npGets, rfl, ?_⟩
      have ha294 := (sHa289 _ _ (sHa287 _ _ (sHa286 _ _ (sHa283 _ _ hak_14))))
      have ha295 := (sHa289 _ _ (sHa287 _ _ (sHa286 _ _ (sHa283 _ _ hfr_14))))
      have ha296 := (sHa289 _ _ (sHa287 _ _ (sHa286 _ _ ha284)))
      have ha297 := (sHa289 _ _ (sHa287 _ _ (sHa286 _ _ (sHa283 _ _ ho2_14))))
      have ha298 := (sHa289 _ _ (sHa287 _ _ (sHa286 _ _ (sHa283 _ _ he1_14))))
      have ha299 := (sHa289 _ _ (sHa287 _ _ (sHa286 _ _ (sHa283 _ _ he2_14))))
      have ha300 := (sHa289 _ _ (sHa287 _ _ (sHa286 _ _ (sHa283 _ _ ht1_14))))
      have ha301 := (sHa289 _ _ (sHa287 _ _ (sHa286 _ _ (sHa283 _ _ ht2_14))))
      have ha302 := (sHa289 _ _ (sHa287 _ _ (sHa286 _ _ (sHa283 _ _ hpa10_14))))
      have ha303 := (sHa289 _ _ (sHa287 _ _ (sHa286 _ _ (sHa283 _ _ hpa34_14))))
      have ha304 := (sHa289 _ _ (sHa287 _ _ (sHa286 _ _ (sHa283 _ _ hpa60_14))))
      have ha305 := (sHa289 _ _ (sHa287 _ _ (sHa286 _ _ (sHa283 _ _ hpa88_14))))
      have ha306 := (sHa289 _ _ (sHa287 _ _ (sHa286 _ _ (sHa283 _ _ hpa118_14))))
      have ha307 := (sHa289 _ _ (sHa287 _ _ (sHa286 _ _ (sHa283 _ _ hpa154_14))))
      have ha308 := (sHa289 _ _ (sHa287 _ _ (sHa286 _ _ (sHa283 _ _ hpa150_14))))
      have ha309 := (sHa289 _ _ (sHa287 _ _ (sHa286 _ _ (sHa283 _ _ hpa152_14))))
      have ha310 := (sHa289 _ _ (sHa287 _ _ (sHa286 _ _ (sHa283 _ _ hpa199_14))))
      have ha311 := (sHa289 _ _ (sHa287 _ _ (sHa286 _ _ (sHa283 _ _ hpa248_14))))
      have ta312 := (AskF.mono sHa289 (AskF.mono sHa287 (AskF.mono sHa286 (AskF.mono sHa283 kfa1_14))))
      have ta313 := (AskF.mono sHa289 (AskF.mono sHa287 (AskF.mono sHa286 (AskF.mono sHa283 kfa25_14))))
      have ta314 := (AskF.mono sHa289 (AskF.mono sHa287 (AskF.mono sHa286 (AskF.mono sHa283 kfa51_14))))
      have ta315 := (AskF.mono sHa289 (AskF.mono sHa287 (AskF.mono sHa286 (AskF.mono sHa283 kfa79_14))))
      have ta316 := (AskF.mono sHa289 (AskF.mono sHa287 (AskF.mono sHa286 (AskF.mono sHa283 kfa109_14))))
      have ta317 := (AskF.mono sHa289 (AskF.mono sHa287 (AskF.mono sHa286 (AskF.mono sHa283 kfa141_14))))
      have ta318 := (AskF.mono sHa289 (AskF.mono sHa287 (AskF.mono sHa286 (AskF.mono sHa283 kfa181_14))))
      have ta319 := (AskF.mono sHa289 (AskF.mono sHa287 (AskF.mono sHa286 (AskF.mono sHa283 kfa190_14))))
      have ta320 := (AskF.mono sHa289 (AskF.mono sHa287 (AskF.mono sHa286 (AskF.mono sHa283 kfa230_14))))
      have ta321 := (AskF.mono sHa289 (AskF.mono sHa287 (AskF.mono sHa286 (AskF.mono sHa283 kfa239_14))))
      exact ⟨la292, xsa293, rfl, ((((hT_14.ext sHa283).ext sHa286).ext sHa287).ext sHa289), ha294, ha295, ha296, ha297, ha298, ha299, ha300, ha301, ha302, ha303, ha304, ha305, ha306, ha307, ha308, ha309, ha310, ha311, hla292, ⟨(ne_of_none (sHa287 _ _ (sHa286 _ _ (sHa283 _ _ hak_14))) nla292).symm, (ne_of_none (sHa287 _ _ (sHa286 _ _ (sHa283 _ _ hfr_14))) nla292).symm⟩, ta312, ta313, ta314, ta315, ta316, ta317, ta318, ta319, ta320, ta321, Tla292⟩
    rintro σ1 Hs15 ⟨la292, xsa293, rfl, hT_15, hak_15, hfr_15, ho1_15, ho2_15, he1_15, he2_15, ht1_15, ht2_15, hpa10_15, hpa34_15, hpa60_15, hpa88_15, hpa118_15, hpa154_15, hpa150_15, hpa152_15, hpa199_15, hpa248_15, hla292_15, nela292_15, kfa1_15, kfa25_15, kfa51_15, kfa79_15, kfa109_15, kfa141_15, kfa181_15, kfa190_15, kfa230_15, kfa239_15, htp_15⟩
    refine ⟨fun σ1 K1 => σ1 = [some (V.ref a), some (V.ref c), some (V.int more), some (V.ref ak), some (V.ref fr), some (V.int ((mn : Nat) : Int)), some (V.ref o2), some (V.ref e1), some (V.ref e2), some (V.ref t1), some (V.ref t2), some (V.ref la292), some (V.ref o1), some (V.int (wv ns ns.length 0)), none, none] ∧ Tabs (tabs A) K1 ∧ K1 ak = some (.lst [V.ref pa10, V.ref pa34, V.ref pa60, V.ref pa88, V.ref pa118, V.ref pa154]) ∧ K1 fr = some (.lst [V.ref pa199, V.ref pa248]) ∧ K1 o1 = some (.lst (ns.map V.int)) ∧ K1 o2 = some (.lst (ms.map V.int)) ∧ K1 e1 = some (.lst (es.map V.int)) ∧ K1 e2 = some (.lst (ls.map V.int)) ∧ K1 t1 = some (.lst [V.str "left", V.str "right"]) ∧ K1 t2 = some (.lst [V.str "right", V.str "right"]) ∧ K1 pa10 = some (.tup [V.ref fa1, V.ref o1, V.ref o2]) ∧ K1 pa34 = some (.tup [V.ref fa25, V.ref o1, V.ref o2]) ∧ K1 pa60 = some (.tup [V.ref fa51, V.ref o1, V.ref o2]) ∧ K1 pa88 = some (.tup [V.ref fa79, V.ref e1, V.ref e2]) ∧ K1 pa118 = some (.tup [V.ref fa109, V.ref o1, V.ref o2]) ∧ K1 pa154 = some (.tup [V.ref fa141, V.ref pa150, V.ref pa152]) ∧ K1 pa150 = some (.lst [V.ref o1, V.ref t1]) ∧ K1 pa152 = some (.lst [V.ref o2, V.ref t2]) ∧ K1 pa199 = some (.tup [V.ref fa181, V.ref fa190, V.ref o1, V.ref o2]) ∧ K1 pa248 = some (.tup [V.ref fa230, V.ref fa239, V.ref o1, V.ref o2]) ∧ K1 la292 = some (.lst xsa293) ∧ AskF P w K mg base (spFn (fun _ => True) (fun ks => [V.int (wv ks ks.length 0), V.int (many ks ks.length 0)])) ak fr K1 fa1 ∧ AskF P w K mg base (spFn (fun _ => True) (fun ks => sidesV (ends ks ks.length 0))) ak fr K1 fa25 ∧ AskF P w K mg base (spFn (fun _ => True) (fun ks => sidesV (greedyV ks ks.length 0))) ak fr K1 fa51 ∧ AskF P w K mg base (spFn (fun ks => ks.length % 2 = 0) (fun ks => [V.int (sureV ks)])) ak fr K1 fa79 ∧ AskF P w K mg base (spFn (fun _ => True) (fun ks => sidesV (lastPlay ks))) ak fr K1 fa109 ∧ AskF P w K mg base (spPair K) ak fr K1 fa141 ∧ AskF P w K mg base (spAsk8 A.C_Gets A.C_Held true) ak fr K1 fa181 ∧ AskF P w K mg base (spHold8 A.C_Gets A.C_Held true) ak fr K1 fa190 ∧ AskF P w K mg base (spAsk8 A.C_Gets A.C_Held false) ak fr K1 fa230 ∧ AskF P w K mg base (spHold8 A.C_Gets A.C_Held false) ak fr K1 fa239 ∧ Tris K1 xsa293 (planV ns true), ?_, ?_⟩
    · skip
      refine ⟨_, rfl, o1, _, rfl, .inl (SqL.of ho1_15), fun pa322 npa322 => gen_heap npa322 fun Ha323 sHa323 hpa322 => ?_⟩
      refine ⟨_, rfl, .inl ⟨ns, ⟨pa322, rfl, (SqL.of hpa322), okn⟩, fun Ha324 sHa324 => ?_⟩⟩
      have ha325 := (sHa324 _ _ (sHa323 _ _ hak_15))
      have ha326 := (sHa324 _ _ (sHa323 _ _ hfr_15))
      have ha327 := (sHa324 _ _ (sHa323 _ _ ho1_15))
      have ha328 := (sHa324 _ _ (sHa323 _ _ ho2_15))
      have ha329 := (sHa324 _ _ (sHa323 _ _ he1_15))
      have ha330 := (sHa324 _ _ (sHa323 _ _ he2_15))
      have ha331 := (sHa324 _ _ (sHa323 _ _ ht1_15))
      have ha332 := (sHa324 _ _ (sHa323 _ _ ht2_15))
      have ha333 := (sHa324 _ _ (sHa323 _ _ hpa10_15))
      have ha334 := (sHa324 _ _ (sHa323 _ _ hpa34_15))
      have ha335 := (sHa324 _ _ (sHa323 _ _ hpa60_15))
      have ha336 := (sHa324 _ _ (sHa323 _ _ hpa88_15))
      have ha337 := (sHa324 _ _ (sHa323 _ _ hpa118_15))
      have ha338 := (sHa324 _ _ (sHa323 _ _ hpa154_15))
      have ha339 := (sHa324 _ _ (sHa323 _ _ hpa150_15))
      have ha340 := (sHa324 _ _ (sHa323 _ _ hpa152_15))
      have ha341 := (sHa324 _ _ (sHa323 _ _ hpa199_15))
      have ha342 := (sHa324 _ _ (sHa323 _ _ hpa248_15))
      have ha343 := (sHa324 _ _ (sHa323 _ _ hla292_15))
      have ta344 := (AskF.mono sHa324 (AskF.mono sHa323 kfa1_15))
      have ta345 := (AskF.mono sHa324 (AskF.mono sHa323 kfa25_15))
      have ta346 := (AskF.mono sHa324 (AskF.mono sHa323 kfa51_15))
      have ta347 := (AskF.mono sHa324 (AskF.mono sHa323 kfa79_15))
      have ta348 := (AskF.mono sHa324 (AskF.mono sHa323 kfa109_15))
      have ta349 := (AskF.mono sHa324 (AskF.mono sHa323 kfa141_15))
      have ta350 := (AskF.mono sHa324 (AskF.mono sHa323 kfa181_15))
      have ta351 := (AskF.mono sHa324 (AskF.mono sHa323 kfa190_15))
      have ta352 := (AskF.mono sHa324 (AskF.mono sHa323 kfa230_15))
      have ta353 := (AskF.mono sHa324 (AskF.mono sHa323 kfa239_15))
      have ta354 := (Tris.mono sHa324 (Tris.mono sHa323 htp_15))
      exact ⟨rfl, ((hT_15.ext sHa323).ext sHa324), ha325, ha326, ha327, ha328, ha329, ha330, ha331, ha332, ha333, ha334, ha335, ha336, ha337, ha338, ha339, ha340, ha341, ha342, ha343, ta344, ta345, ta346, ta347, ta348, ta349, ta350, ta351, ta352, ta353, ta354⟩
    rintro σ1 Hs16 ⟨rfl, hT_16, hak_16, hfr_16, ho1_16, ho2_16, he1_16, he2_16, ht1_16, ht2_16, hpa10_16, hpa34_16, hpa60_16, hpa88_16, hpa118_16, hpa154_16, hpa150_16, hpa152_16, hpa199_16, hpa248_16, hla292_16, kfa1_16, kfa25_16, kfa51_16, kfa79_16, kfa109_16, kfa141_16, kfa181_16, kfa190_16, kfa230_16, kfa239_16, htp_16⟩
    refine ⟨_, ?_, fun _ _ h => h⟩
    refine ⟨_, rfl, .inl ⟨rfl, _, SqL.of hak_16⟩, hT_16, fun fa355 ca356 Ja357 ea358 _ hTa359 ga360 nfa361 hfa362 hca363 => ?_⟩
    have ha364 := (ea358 _ _ hla292_16 (by intro _ z; cases z))
    refine ⟨_, rfl, _, rfl, la292, _, rfl, (SqL.of ha364), fun pa365 npa365 => gen_heap npa365 fun Ha366 sHa366 hpa365 => ?_⟩
    refine ⟨(by show 3 ≤ sizeLine; decide), fun pa367 npa367 => gen_heap npa367 fun Ha368 sHa368 hpa367 => ?_⟩
    have ha369 := (sHa368 _ _ (sHa366 _ _ (ea358 _ _ hak_16 (by intro _ z; cases z))))
    refine ⟨ak, _, _, rfl, rfl, ha369, (by show 6 < sizeLine; decide), gen_put ha369 fun Ha370 sHa370 ha371 => ?_⟩
    have ha372 := (sHa370 _ _ (ne_of_none hak_16 ga360).symm (sHa368 _ _ (sHa366 _ _ hfa362)))
    have ha373 := (sHa370 _ _ (ne_of (sHa368 _ _ (sHa366 _ _ hca363)) ha369 (by intro z; cases z)) (sHa368 _ _ (sHa366 _ _ hca363)))
    have ha374 := (sHa370 _ _ (ne_of (sHa368 _ _ (sHa366 _ _ (ea358 _ _ hpa10_16 (by intro _ z; cases z)))) ha369 (by intro z; cases z)) (sHa368 _ _ (sHa366 _ _ (ea358 _ _ hpa10_16 (by intro _ z; cases z)))))
    have ha375 := (sHa370 _ _ (ne_of (sHa368 _ _ (sHa366 _ _ (ea358 _ _ hpa34_16 (by intro _ z; cases z)))) ha369 (by intro z; cases z)) (sHa368 _ _ (sHa366 _ _ (ea358 _ _ hpa34_16 (by intro _ z; cases z)))))
    have ha376 := (sHa370 _ _ (ne_of (sHa368 _ _ (sHa366 _ _ (ea358 _ _ hpa60_16 (by intro _ z; cases z)))) ha369 (by intro z; cases z)) (sHa368 _ _ (sHa366 _ _ (ea358 _ _ hpa60_16 (by intro _ z; cases z)))))
    have ha377 := (sHa370 _ _ (ne_of (sHa368 _ _ (sHa366 _ _ (ea358 _ _ hpa88_16 (by intro _ z; cases z)))) ha369 (by intro z; cases z)) (sHa368 _ _ (sHa366 _ _ (ea358 _ _ hpa88_16 (by intro _ z; cases z)))))
    have ha378 := (sHa370 _ _ (ne_of (sHa368 _ _ (sHa366 _ _ (ea358 _ _ hpa118_16 (by intro _ z; cases z)))) ha369 (by intro z; cases z)) (sHa368 _ _ (sHa366 _ _ (ea358 _ _ hpa118_16 (by intro _ z; cases z)))))
    have ha379 := (sHa370 _ _ (ne_of (sHa368 _ _ (sHa366 _ _ (ea358 _ _ hpa154_16 (by intro _ z; cases z)))) ha369 (by intro z; cases z)) (sHa368 _ _ (sHa366 _ _ (ea358 _ _ hpa154_16 (by intro _ z; cases z)))))
    have ha380 := (sHa370 _ _ (ne_of_none (sHa366 _ _ (ea358 _ _ hak_16 (by intro _ z; cases z))) npa367).symm hpa367)
    have ha381 := (sHa370 _ _ (ne_of (sHa368 _ _ (sHa366 _ _ (ea358 _ _ hpa199_16 (by intro _ z; cases z)))) ha369 (by intro z; cases z)) (sHa368 _ _ (sHa366 _ _ (ea358 _ _ hpa199_16 (by intro _ z; cases z)))))
    have ha382 := (sHa370 _ _ (ne_of (sHa368 _ _ (sHa366 _ _ (ea358 _ _ hpa248_16 (by intro _ z; cases z)))) ha369 (by intro z; cases z)) (sHa368 _ _ (sHa366 _ _ (ea358 _ _ hpa248_16 (by intro _ z; cases z)))))
    have ha383 := (sHa370 _ _ nakfr.symm (sHa368 _ _ (sHa366 _ _ (ea358 _ _ hfr_16 (by intro _ z; cases z)))))
    have ha384 := (sHa370 _ _ nao1 (sHa368 _ _ (sHa366 _ _ (ea358 _ _ ho1_16 (by intro _ z; cases z)))))
    have ha385 := (sHa370 _ _ nao2 (sHa368 _ _ (sHa366 _ _ (ea358 _ _ ho2_16 (by intro _ z; cases z)))))
    have ha386 := (sHa370 _ _ nae1 (sHa368 _ _ (sHa366 _ _ (ea358 _ _ he1_16 (by intro _ z; cases z)))))
    have ha387 := (sHa370 _ _ nae2 (sHa368 _ _ (sHa366 _ _ (ea358 _ _ he2_16 (by intro _ z; cases z)))))
    have ha388 := (sHa370 _ _ nat1 (sHa368 _ _ (sHa366 _ _ (ea358 _ _ ht1_16 (by intro _ z; cases z)))))
    have ha389 := (sHa370 _ _ nat2 (sHa368 _ _ (sHa366 _ _ (ea358 _ _ ht2_16 (by intro _ z; cases z)))))
    have ha390 := (sHa370 _ _ nepa150_12.1 (sHa368 _ _ (sHa366 _ _ (ea358 _ _ hpa150_16 (by intro _ z; cases z)))))
    have ha391 := (sHa370 _ _ nepa152_12.1 (sHa368 _ _ (sHa366 _ _ (ea358 _ _ hpa152_16 (by intro _ z; cases z)))))
    have ha392 := (sHa370 _ _ nela292_15.1 (sHa368 _ _ (sHa366 _ _ ha364)))
    have ha393 := (sHa370 _ _ (ne_of_none (ea358 _ _ hak_16 (by intro _ z; cases z)) npa365).symm (sHa368 _ _ hpa365))
    have ta394 := (AskF.but1 sHa370 (AskF.mono sHa368 (AskF.mono sHa366 (AskF.ext ea358 kfa1_16))))
    have ta395 := (AskF.but1 sHa370 (AskF.mono sHa368 (AskF.mono sHa366 (AskF.ext ea358 kfa25_16))))
    have ta396 := (AskF.but1 sHa370 (AskF.mono sHa368 (AskF.mono sHa366 (AskF.ext ea358 kfa51_16))))
    have ta397 := (AskF.but1 sHa370 (AskF.mono sHa368 (AskF.mono sHa366 (AskF.ext ea358 kfa79_16))))
    have ta398 := (AskF.but1 sHa370 (AskF.mono sHa368 (AskF.mono sHa366 (AskF.ext ea358 kfa109_16))))
    have ta399 := (AskF.but1 sHa370 (AskF.mono sHa368 (AskF.mono sHa366 (AskF.ext ea358 kfa141_16))))
    have ta400 := (AskF.but1 sHa370 (AskF.mono sHa368 (AskF.mono sHa366 (AskF.ext ea358 kfa181_16))))
    have ta401 := (AskF.but1 sHa370 (AskF.mono sHa368 (AskF.mono sHa366 (AskF.ext ea358 kfa190_16))))
    have ta402 := (AskF.but1 sHa370 (AskF.mono sHa368 (AskF.mono sHa366 (AskF.ext ea358 kfa230_16))))
    have ta403 := (AskF.but1 sHa370 (AskF.mono sHa368 (AskF.mono sHa366 (AskF.ext ea358 kfa239_16))))
    have ta404 := (Tris.butO sHa370 ha369 (by intro _ z; cases z) (Tris.mono sHa368 (Tris.mono sHa366 (Tris.ext ea358 htp_16))))
    have d0 : DoorC P w K mg base Ha370 fa1 o1 o2 := by
      obtain ⟨D, hD, _, hcl⟩ := ta394
      exact fn_door (cond := fun _ => True) (res := fun ks => [V.int (wv ks ks.length 0), V.int (many ks ks.length 0)]) hcl hD ha384 ha385 okn okm hnm True.intro True.intro (fun _ => rfl) (fun _ _ => (by show 2 ≤ 1000; decide))
    have d1 : DoorC P w K mg base Ha370 fa25 o1 o2 := by
      obtain ⟨D, hD, _, hcl⟩ := ta395
      exact fn_door (cond := fun _ => True) (res := fun ks => sidesV (ends ks ks.length 0)) hcl hD ha384 ha385 okn okm hnm True.intro True.intro (fun ks => sidesV_ok _) (fun ks _ => by have := ends_le ks ks.length 0; rw [sidesV_len]; omega)
    have d2 : DoorC P w K mg base Ha370 fa51 o1 o2 := by
      obtain ⟨D, hD, _, hcl⟩ := ta396
      exact fn_door (cond := fun _ => True) (res := fun ks => sidesV (greedyV ks ks.length 0)) hcl hD ha384 ha385 okn okm hnm True.intro True.intro (fun ks => sidesV_ok _) (fun ks ok => by have := ok.1; rw [sidesV_len, greedy_len8]; omega)
    have d3 : DoorC P w K mg base Ha370 fa79 e1 e2 := by
      obtain ⟨D, hD, _, hcl⟩ := ta397
      exact fn_door (cond := fun ks => ks.length % 2 = 0) (res := fun ks => [V.int (sureV ks)]) hcl hD ha386 ha387 oke okl (by omega) (by show _ % 2 = 0; omega) (by show _ % 2 = 0; omega) (fun _ => rfl) (fun _ _ => (by show 1 ≤ 1000; decide))
    have d4 : DoorC P w K mg base Ha370 fa109 o1 o2 := by
      obtain ⟨D, hD, _, hcl⟩ := ta398
      exact fn_door (cond := fun _ => True) (res := fun ks => sidesV (lastPlay ks)) hcl hD ha384 ha385 okn okm hnm True.intro True.intro (fun ks => sidesV_ok _) (fun ks ok => by have := ok.1; rw [sidesV_len, last_len]; omega)
    have d5 : DoorC P w K mg base Ha370 fa141 pa150 pa152 := by
      obtain ⟨D, hD, _, hcl⟩ := ta399
      exact pair_door (bs := [true, false]) (cs := [false, false]) hcl hD ha390 ha384 ha388 ha391 ha385 ha389 okn okm hnm rfl h2n
    obtain ⟨Df0, hDf0, _, hcf0⟩ := ta400
    obtain ⟨Dg0, hDg0, _, hcg0⟩ := ta401
    obtain ⟨Df1, hDf1, _, hcf1⟩ := ta402
    obtain ⟨Dg1, hDg1, _, hcg1⟩ := ta403
    have hTp : Tris Ha370 xsa293 (planV ns true) := ta404
    have hpl7 := ha392
    have hpr7 := ha393
    have hf7 := ha372
    have hc7 := ha373
    have ho17 := ha384
    refine ⟨fun σ1 K1 => σ1 = [some (V.ref a), some (V.ref c), some (V.int more), some (V.ref ak), some (V.ref fr), some (V.int ((mn : Nat) : Int)), some (V.ref o2), some (V.ref e1), some (V.ref e2), some (V.ref t1), some (V.ref t2), some (V.ref la292), some (V.ref o1), some (V.int (wv ns ns.length 0)), none, none] ∧ Same Ha370 K1, ?_, ?_⟩
    · refine ⟨.ref o1, .int (wv ns ns.length 0), rfl, rfl, _, rfl, ak, rfl, ⟨_, SqL.of ha371⟩, fun D nD => ?_⟩
      refine lc_list (K := K) (a := ak) (xs := [V.ref pa10, V.ref pa34, V.ref pa60, V.ref pa88, V.ref pa118, V.ref pa154, V.ref pa367]) (fun i Hx => Same Ha370 Hx ∧ Hx D = some (.lst (List.replicate i (V.bl true)))) ⟨same_new nD _, upd_same⟩ (fun i Hx _ h => SqL.of (h.1 _ _ ha371)) ?_ ?_
      · rintro i x Hx hi ⟨sx, hD⟩
        have hil : i < 7 := (List.getElem?_eq_some_iff.mp hi).1
        obtain ⟨q', f', a', b', rfl, hq', hd⟩ : ∃ q' f' a' b', x = V.ref q' ∧ Hx q' = some (.tup [.ref f', .ref a', .ref b']) ∧ ∀ (cc : Addr) (oc : Obj) (uc : Value) (cd : Addr) (od : Obj) (ud : Value), List.lookup ("_law_one" : Str) (cxOf CX0 P w K mg base N_law "law" (defScope s_law) A.f_law (.ref A.c_law) A' outer s H E).nox.env.cells = some cc → List.lookup ("_law_value" : Str) (cxOf CX0 P w K mg base N_law "law" (defScope s_law) A.f_law (.ref A.c_law) A' outer s H E).nox.env.cells = some cd → cc ≠ cd → Hx cc = none → Hx cd = none → oc.data = .cell (some uc) → RelV (.ref o1) uc → od.data = .cell (some ud) → RelV (.int (wv ns ns.length 0)) ud → DoorC P w K mg base (upd (upd Hx cc (CellO cc oc)) cd (CellO cd od)) f' a' b' := by
          match i, hi with
          | 0, hi => exact ⟨pa10, fa1, o1, o2, (Option.some.inj hi).symm, sx _ _ ha374, fun cc oc uc cd od ud _ _ ncd nc nd _ _ _ _ => (d0.mono sx).mono (same_upd2 nc nd ncd)⟩
          | 1, hi => exact ⟨pa34, fa25, o1, o2, (Option.some.inj hi).symm, sx _ _ ha375, fun cc oc uc cd od ud _ _ ncd nc nd _ _ _ _ => (d1.mono sx).mono (same_upd2 nc nd ncd)⟩
          | 2, hi => exact ⟨pa60, fa51, o1, o2, (Option.some.inj hi).symm, sx _ _ ha376, fun cc oc uc cd od ud _ _ ncd nc nd _ _ _ _ => (d2.mono sx).mono (same_upd2 nc nd ncd)⟩
          | 3, hi => exact ⟨pa88, fa79, e1, e2, (Option.some.inj hi).symm, sx _ _ ha377, fun cc oc uc cd od ud _ _ ncd nc nd _ _ _ _ => (d3.mono sx).mono (same_upd2 nc nd ncd)⟩
          | 4, hi => exact ⟨pa118, fa109, o1, o2, (Option.some.inj hi).symm, sx _ _ ha378, fun cc oc uc cd od ud _ _ ncd nc nd _ _ _ _ => (d4.mono sx).mono (same_upd2 nc nd ncd)⟩
          | 5, hi => exact ⟨pa154, fa141, pa150, pa152, (Option.some.inj hi).symm, sx _ _ ha379, fun cc oc uc cd od ud _ _ ncd nc nd _ _ _ _ => (d5.mono sx).mono (same_upd2 nc nd ncd)⟩
          | 6, hi =>
            refine ⟨pa367, fa355, la292, pa365, (Option.some.inj hi).symm, sx _ _ ha380, fun cc oc uc cd od ud hcc hcd ncd nc nd hod ru hod' ru' => ?_⟩
            have hfx := sx _ _ hf7
            have hcx := sx _ _ hc7
            have fc : fa355 ≠ cc := ne_of_none hfx nc
            have fd : fa355 ≠ cd := ne_of_none hfx nd
            have c1 : ca356 ≠ cc := ne_of_none hcx nc
            have c2 : ca356 ≠ cd := ne_of_none hcx nd
            have s2x := same_upd2 (o := oc) (o' := od) nc nd ncd
            have sfx : Same Ha370 (upd (upd Hx cc (CellO cc oc)) cd (CellO cd od)) := sx.trans s2x
            have hK1 : upd (upd Hx cc (CellO cc oc)) cd (CellO cd od) cc = some (CellO cc oc) := (upd_ne ncd).trans upd_same
            have hK2 : upd (upd Hx cc (CellO cc oc)) cd (CellO cd od) cd = some (CellO cd od) := upd_same
            have no1 : o1 ≠ cc ∧ o1 ≠ cd := ⟨ne_of_none (sx _ _ ho17) nc, ne_of_none (sx _ _ ho17) nd⟩
            generalize hKK : upd (upd Hx cc (CellO cc oc)) cd (CellO cd od) = Kx at sfx hK1 hK2 ⊢
            have hTx := hTp.mono sfx
            have lxs : (xsa293).length ≤ 144 := by rw [hTp.len]; exact planV_144 okn.1
            have leaf0 := tris_leaves hTx (planV_txt ns true)
            have hrevT : Tris Kx (xsa293).reverse (planV ns true).reverse := hTx.rev
            have leaf1 := tris_leaves hrevT (fun t ht => planV_txt ns true t (List.mem_reverse.mp ht))
            have tell : ∀ (D0 : Hp) (ys : List V) (p : List Tri), Tris Kx ys p → p.length ≤ 10000 → Tells (fun vs H2 Q E => spPlan8 K ns (wv ns ns.length 0) vs H2 Q E ∧ H2 cc = some (CellO cc oc) ∧ H2 cd = some (CellO cd od) ∧ H2 o1 = some (.lst (ns.map V.int))) D0 Kx (ys.map Th.leaf) [.leaf (.bl (showsV ns p true (wv ns ns.length 0))), .leaf (.bl (showsV ns p false 3))] := by
              intro D0 ys p htp hpn H2 x S _ hs hx Q E hq
              obtain ⟨l, rfl, hl, rfl⟩ := leaves_inv hx
              exact ⟨⟨l, ys, p, rfl, hl, htp.mono hs, hpn, fun H' z s' nz hz => hq H' z [z] s' (fun c hc => by rw [List.mem_singleton.mp hc]; exact nz) (by simp) (.node hz (HoldsAll.cons (S := []) (.leaf (.inl rfl)) (HoldsAll.cons (S := []) (.leaf (.inl rfl)) .nil)))⟩, hs _ _ hK1, hs _ _ hK2, hs _ _ (sfx _ _ ho17)⟩
            have fit2 : ∀ b1 b2 : Bool, Fit [.leaf (.bl b1), .leaf (.bl b2)] := fun b1 b2 => ⟨(by show 0 + 1 < 4; decide), (by show 1 + (1 + 0) + 1 ≤ 10000; decide)⟩
            refine ⟨_, _, (xsa293).map Th.leaf, (xsa293).reverse.map Th.leaf, _, _, [la292], [pa365], ?_, capD2_sub (by rw [← hKK]; exact (upd_ne fd).trans ((upd_ne fc).trans hfx)) (by rw [← hKK]; exact (upd_ne c2).trans ((upd_ne c1).trans hcx)) hK1 hK2, .node (sfx _ _ hpl7) (leaves_hold leaf0), .node (sfx _ _ hpr7) (leaves_hold leaf1), leaves_likes (by rw [List.length_reverse]), leaves_likes (by rw [List.length_reverse]), leaves_fit (by omega), leaves_fit (by rw [List.length_reverse]; omega), fit2 _ _, fit2 _ _, tell _ _ _ hTx (planV_len okn.1), tell _ _ _ hrevT (by rw [List.length_reverse]; exact planV_len okn.1)⟩
            refine callable_cap2 (k := 28) (N := ["_law_it", "_law_one", "_law_value"]) (ps := ["_law_it"]) (y := "_law_one") (z := "_law_value") (v := .ref o1) (v' := .int (wv ns ns.length 0)) (u := uc) (u' := ud) (nscope_by (by first | (dsimp only; decide +kernel) | rfl)) ?_ (by decide) nfa361 fc c1 fd c2 ncd hod ru hod' ru' (fun pm ctv us hl => match us, hl with | [_], _ => rfl) (fun vs H Q E h => by obtain ⟨⟨l, ys, p, rfl, _⟩, _⟩ := h; rfl) (fun A1 o1' s1 Hv vs1 Q1 E1 hr1 h1 => ?_)
            · first
              | exact .inl (by
                  show [(("_law_one" : Str), (List.lookup ("_law_one" : Str) _).getD 0), (("_law_value" : Str), (List.lookup ("_law_value" : Str) _).getD 0)] = _
                  rw [hcc, hcd]
                  rfl)
              | exact .inr (by
                  show [(("_law_value" : Str), (List.lookup ("_law_value" : Str) _).getD 0), (("_law_one" : Str), (List.lookup ("_law_one" : Str) _).getD 0)] = _
                  rw [hcc, hcd]
                  rfl)
            · obtain ⟨⟨l, ys, p, rfl, hlv, htv, hpn, q1⟩, hc1, hd1, hov⟩ := h1
              have lc : l ≠ cc ∧ l ≠ cd := ⟨(fun z => by rw [z, hc1] at hlv; cases hlv), (fun z => by rw [z, hd1] at hlv; cases hlv)⟩
              have hl : lessH (lessH Hv cd) cc l = some (.lst ys) := (lessH_ne lc.1).trans ((lessH_ne lc.2).trans hlv)
              have hol : lessH (lessH Hv cd) cc o1 = some (.lst (ns.map V.int)) := (lessH_ne no1.1).trans ((lessH_ne no1.2).trans hov)
              have htp : Tris (lessH (lessH Hv cd) cc) ys p := tris_less hc1 hd1 htv
              refine ⟨_, pe_lst (pa_cons (pe_meth2 (pe_make T.MGets GGets_init (hr1.mono (by first | decide | omega)) (by rfl) T.gGets T.bGets_init .nil pass0 (pa_cons (pv 0) pa_nil)) T.clGets T.mGets_shows GGets_shows T.bGets_shows T.clHeld T.mHeld_shows GHeld_shows T.bHeld_shows (hr1.mono (by first | decide | omega)) pass0 (pa_cons (pv 1) (pa_cons (pv 2) pa_nil))) (pa_cons (pe_meth2 (pe_make T.MHeld GHeld_init (hr1.mono (by first | decide | omega)) (by rfl) T.gHeld T.bHeld_init .nil pass0 (pa_cons (pv 0) pa_nil)) T.clGets T.mGets_shows GGets_shows T.bGets_shows T.clHeld T.mHeld_shows GHeld_shows T.bHeld_shows (hr1.mono (by first | decide | omega)) pass0 (pa_cons (pv 1) (pa_cons pe_int pa_nil))) pa_nil)), ?_⟩
              generalize hHl : lessH (lessH Hv cd) cc = Hl at hl hol htp ⊢
              refine ⟨_, rfl, fun ok1 dxk2 nok1 ndxk2 neok1 => ?_⟩
              have smok1 := same_make (C := A.C_Gets) nok1 ndxk2
              refine ⟨ok1, l, dxk2, _, rfl, upd_same, smok1.seq (SqL.of hl), fun Hk4 mk3 bHk4 nmk3 hok1 hmk3 => ⟨rfl, ?_⟩⟩
              have sHk4 : Same Hl Hk4 := fun b u e => bHk4 _ _ (ne_of_none e nok1) (smok1 _ _ e)
              have nnmk3 : Hl mk3 = none := smok1.free nmk3
              refine ⟨ok1, _, _, rfl, rfl, .inl ⟨hok1, ?_⟩⟩
              have hk6 := (sHk4 _ _ hol)
              refine ⟨_, rfl, _, rfl, ok1, o1, mk3, _, ns, _, _, _, rfl, hok1, (SqL.of hk6), hmk3, (Tris.mono sHk4 htp), hpn, okn.1, fun Hk5 sHk5 => ?_⟩
              have hk11 := (sHk5 _ _ (sHk4 _ _ hl))
              have tk12 := (Tris.mono sHk5 (Tris.mono sHk4 htp))
              refine ⟨_, rfl, fun ok7 dxk8 nok7 ndxk8 neok7 => ?_⟩
              have smok7 := same_make (C := A.C_Held) nok7 ndxk8
              refine ⟨ok7, l, dxk8, _, rfl, upd_same, smok7.seq (SqL.of hk11), fun Hk10 mk9 bHk10 nmk9 hok7 hmk9 => ⟨rfl, ?_⟩⟩
              have sHk10 : Same Hk5 Hk10 := fun b u e => bHk10 _ _ (ne_of_none e nok7) (smok7 _ _ e)
              have nnmk9 : Hk5 mk9 = none := smok7.free nmk9
              refine ⟨ok7, _, _, rfl, rfl, .inr ⟨hok7, ?_⟩⟩
              have hk14 := (sHk10 _ _ (sHk5 _ _ hk6))
              refine ⟨_, rfl, ok7, o1, mk9, _, ns, _, _, _, rfl, hok7, (SqL.of hk14), hmk9, (Tris.mono sHk10 tk12), hpn, okn.1, fun Hk13 sHk13 => ?_⟩
              refine ⟨(by show 2 ≤ sizeLine; decide), fun pk15 npk15 => gen_heap npk15 fun Hk16 sHk16 hpk15 => ?_⟩
              intro kc kd
              have zc : pk15 ≠ cc := ne_of_none hpk15 kc
              have zd : pk15 ≠ cd := ne_of_none hpk15 kd
              have n0 : lessH (lessH Hv cd) cc pk15 = none := by rw [hHl]; exact (sHk4.free (sHk5.free (sHk10.free (sHk13.free npk15))))
              have sl7 : Same (lessH (lessH Hv cd) cc) Hk16 := by rw [hHl]; exact (fun b o e => (sHk16 _ _ (sHk13 _ _ (sHk10 _ _ (sHk5 _ _ (sHk4 _ _ e))))))
              exact q1 _ pk15 (same_back2 hc1 hd1 ncd sl7) (by rw [lessH_ne zc, lessH_ne zd] at n0; exact n0) ((upd_ne zd).trans ((upd_ne zc).trans hpk15))
        refine ⟨q', _, rfl, SqT.of hq', rfl, _, _, rfl, _, _, rfl, _, _, rfl, rfl, rfl, _, rfl, _, rfl, _, rfl, fun cc oc uc cd od ud hcc hcd ncd nc nd hod ru hod' ru' => ?_⟩
        refine (hd cc oc uc cd od ud hcc hcd ncd nc nd hod ru hod' ru').sp fun H' s' => ⟨s' _ _ ((upd_ne ncd).trans upd_same), s' _ _ upd_same, ?_⟩
        have sw := same_gone2 nc nd ncd s'
        generalize lessH (lessH H' cd) cc = Hw at sw ⊢
        exact rp_step nD sx hD sw (by omega)
      rintro Hd ⟨sd, hD⟩
      rw [rep_bl] at hD
      refine ⟨D, _, rfl, SqL.of hD, _, rfl, ?_⟩
      rw [rep_true]
      exact iteF ⟨rfl, sd⟩
    rintro σ1 Hg ⟨rfl, sg⟩
    refine ⟨_, rfl, fr, rfl, ⟨_, SqL.of (sg _ _ ha383)⟩, fun D nD => ?_⟩
    refine lc_list (K := K) (a := fr) (xs := [V.ref pa199, V.ref pa248]) (fun i Hx => Same Hg Hx ∧ Hx D = some (.lst (List.replicate i (V.bl true)))) ⟨same_new nD _, upd_same⟩ (fun i Hx _ h => SqL.of (h.1 _ _ (sg _ _ ha383))) ?_ ?_
    · rintro i x Hx hi ⟨sx, hD⟩
      have hil : i < 2 := (List.getElem?_eq_some_iff.mp hi).1
      obtain ⟨q', f', g', first, Df, Dg, rfl, hq', hcf, hDf, hcg, hDg⟩ : ∃ (q' f' g' : Addr) (first : Bool) (Df Dg : Hp), x = V.ref q' ∧ Hx q' = some (.tup [.ref f', .ref g', .ref o1, .ref o2]) ∧ Callable P w K mg base 29 f' Df (spAsk8 A.C_Gets A.C_Held first) ∧ Same Df Hx ∧ Callable P w K mg base 29 g' Dg (spHold8 A.C_Gets A.C_Held first) ∧ Same Dg Hx := by
        match i, hi with
        | 0, hi => exact ⟨pa199, fa181, fa190, true, Df0, Dg0, (Option.some.inj hi).symm, (sg.trans sx) _ _ ha381, hcf0, hDf0.trans (sg.trans sx), hcg0, hDg0.trans (sg.trans sx)⟩
        | 1, hi => exact ⟨pa248, fa230, fa239, false, Df1, Dg1, (Option.some.inj hi).symm, (sg.trans sx) _ _ ha382, hcf1, hDf1.trans (sg.trans sx), hcg1, hDg1.trans (sg.trans sx)⟩
      refine ⟨q', _, rfl, SqT.of hq', rfl, _, _, rfl, _, _, rfl, _, _, rfl, _, _, rfl, rfl, rfl, _, rfl, _, rfl, _, rfl, _, rfl, ?_⟩
      refine ⟨f', g', o1, o2, Df, Dg, _, _, ns, ms, first, rfl, hcf, hDf, hcg, hDg, (sg.trans sx) _ _ ho17, (sg.trans sx) _ _ ha385, okn, okm, hnm, fun H2 r ks _ hr okr Q' E' hq => ⟨r, ks, rfl, hr, okr, hq⟩, fun H2 r oo dx ll ks xs _ hr okr hoo hll hTT Q' E' hq => ⟨r, oo, dx, ll, ks, xs, rfl, hr, okr, hoo, hll, hTT, hq⟩, fun H' s' => rp_step nD sx hD s' (by omega)⟩
    rintro Hd ⟨sd, hD⟩
    rw [rep_bl] at hD
    refine ⟨D, _, rfl, SqL.of hD, ?_⟩
    rw [rep_true]
    exact q _
end
end K08
namespace K08
open PySem PySem.Spec PyProof.Rows L2 LamX RE
theorem all_mk {l : PySem.W.OpenLaw} {w : World} {K : PySem.W.Frag} {h : Heap} {mg : Str → Option Value} {fa : Addr} (X : K.In h) (G : h.Ns mainGlobals mg) (hfa : mg "law" = some (.ref fa))
    {f_is_whole f_check_row f_is_side f_worth_of f_after f_best_of f_worth f_best f_led f_greedy f_sure f_table_of f_got f_planned f_plan_of f_judged f_plays_of f_how_many f_play_by f__law_copied f__law_spoiled f__law_laid f__law_door_right f__law_row f__law_told f__law_free_right f_law f_Gets_init f_Gets_shows f_Held_init f_Held_shows C_EndError C_BadRow C_BadTakes C_BadNumber C_Odd C_Answer C_Gets C_Held ca_law Pa_law : Addr} {od_is_whole an_is_whole od_check_row an_check_row od_is_side an_is_side od_worth_of an_worth_of od_after an_after od_best_of an_best_of od_worth an_worth od_best an_best od_led an_led od_greedy an_greedy od_sure an_sure od_table_of an_table_of od_got an_got od_planned an_planned od_plan_of an_plan_of od_judged an_judged od_plays_of an_plays_of od_how_many an_how_many od_play_by an_play_by od__law_copied an__law_copied od__law_spoiled an__law_spoiled od__law_laid an__law_laid od__law_door_right an__law_door_right od__law_row an__law_row od__law_told an__law_told od__law_free_right an__law_free_right od_law an_law od_Gets_init an_Gets_init od_Gets_shows an_Gets_shows od_Held_init an_Held_init od_Held_shows an_Held_shows : Option Addr} {sl_is_whole sl_check_row sl_is_side sl_worth_of sl_after sl_best_of sl_worth sl_best sl_led sl_greedy sl_sure sl_table_of sl_got sl_planned sl_plan_of sl_judged sl_plays_of sl_how_many sl_play_by sl__law_copied sl__law_spoiled sl__law_laid sl__law_door_right sl__law_row sl__law_told sl__law_free_right sl_law sl_Gets_init sl_Gets_shows sl_Held_init sl_Held_shows : Array (Option Value)} {oc_is_whole kV_is_whole dc_is_whole pm_is_whole ct_is_whole cd_is_whole oc_check_row kV_check_row dc_check_row pm_check_row ct_check_row cd_check_row oc_is_side kV_is_side dc_is_side pm_is_side ct_is_side cd_is_side oc_worth_of kV_worth_of dc_worth_of pm_worth_of ct_worth_of cd_worth_of oc_after kV_after dc_after pm_after ct_after cd_after oc_best_of kV_best_of dc_best_of pm_best_of ct_best_of cd_best_of oc_worth kV_worth dc_worth pm_worth ct_worth cd_worth oc_best kV_best dc_best pm_best ct_best cd_best oc_led kV_led dc_led pm_led ct_led cd_led oc_greedy kV_greedy dc_greedy pm_greedy ct_greedy cd_greedy oc_sure kV_sure dc_sure pm_sure ct_sure cd_sure oc_table_of kV_table_of dc_table_of pm_table_of ct_table_of cd_table_of oc_got kV_got dc_got pm_got ct_got cd_got oc_planned kV_planned dc_planned pm_planned ct_planned cd_planned oc_plan_of kV_plan_of dc_plan_of pm_plan_of ct_plan_of cd_plan_of oc_judged kV_judged dc_judged pm_judged ct_judged cd_judged oc_plays_of kV_plays_of dc_plays_of pm_plays_of ct_plays_of cd_plays_of oc_how_many kV_how_many dc_how_many pm_how_many ct_how_many cd_how_many oc_play_by kV_play_by dc_play_by pm_play_by ct_play_by cd_play_by oc__law_copied kV__law_copied dc__law_copied pm__law_copied ct__law_copied cd__law_copied oc__law_spoiled kV__law_spoiled dc__law_spoiled pm__law_spoiled ct__law_spoiled cd__law_spoiled oc__law_laid kV__law_laid dc__law_laid pm__law_laid ct__law_laid cd__law_laid oc__law_door_right kV__law_door_right dc__law_door_right pm__law_door_right ct__law_door_right cd__law_door_right oc__law_row kV__law_row dc__law_row pm__law_row ct__law_row cd__law_row oc__law_told kV__law_told dc__law_told pm__law_told ct__law_told cd__law_told oc__law_free_right kV__law_free_right dc__law_free_right pm__law_free_right ct__law_free_right cd__law_free_right oc_law kV_law dc_law pm_law ct_law oc_Gets_init kV_Gets_init dc_Gets_init pm_Gets_init ct_Gets_init cd_Gets_init oc_Gets_shows kV_Gets_shows dc_Gets_shows pm_Gets_shows ct_Gets_shows cd_Gets_shows oc_Held_init kV_Held_init dc_Held_init pm_Held_init ct_Held_init cd_Held_init oc_Held_shows kV_Held_shows dc_Held_shows pm_Held_shows ct_Held_shows cd_Held_shows : Value} {t_MOST t_GREATEST t_LEFT t_RIGHT : Tok}
    (tb_law : PySem.W.tabIn K "law" = some (ca_law, Pa_law))
    (n_EndError : PySem.W.nsIn K mainGlobals "EndError" = some (some (.ref C_EndError)))
    (n_BadRow : PySem.W.nsIn K mainGlobals "BadRow" = some (some (.ref C_BadRow)))
    (n_BadTakes : PySem.W.nsIn K mainGlobals "BadTakes" = some (some (.ref C_BadTakes)))
    (n_BadNumber : PySem.W.nsIn K mainGlobals "BadNumber" = some (some (.ref C_BadNumber)))
    (n_Odd : PySem.W.nsIn K mainGlobals "Odd" = some (some (.ref C_Odd)))
    (n_Answer : PySem.W.nsIn K mainGlobals "Answer" = some (some (.ref C_Answer)))
    (n_Gets : PySem.W.nsIn K mainGlobals "Gets" = some (some (.ref C_Gets)))
    (n_Held : PySem.W.nsIn K mainGlobals "Held" = some (some (.ref C_Held)))
    (at_Gets_init : PySem.W.findIn K (.ref C_Gets) "__init__" = some (some (.ref f_Gets_init)))
    (at_Gets_shows : PySem.W.findIn K (.ref C_Gets) "shows" = some (some (.ref f_Gets_shows)))
    (at_Held_init : PySem.W.findIn K (.ref C_Held) "__init__" = some (some (.ref f_Held_init)))
    (at_Held_shows : PySem.W.findIn K (.ref C_Held) "shows" = some (some (.ref f_Held_shows)))
    (a_is_whole : PySem.W.nsIn K mainGlobals "is_whole" = some (some (.ref f_is_whole)))
    (l_is_whole : K.lookup f_is_whole = some ⟨oc_is_whole, od_is_whole, .func (PySem.W.fnOf "is_whole" "is_whole" (defArgs s_is_whole) (defBody s_is_whole) (defScope s_is_whole) .none kV_is_whole dc_is_whole pm_is_whole an_is_whole cd_is_whole ct_is_whole), sl_is_whole⟩)
    (c_is_whole : PySem.W.codeIn K cd_is_whole "is_whole" = true)
    (k_is_whole : PySem.W.keepIn K (.ref f_is_whole) = true)
    (a_check_row : PySem.W.nsIn K mainGlobals "check_row" = some (some (.ref f_check_row)))
    (l_check_row : K.lookup f_check_row = some ⟨oc_check_row, od_check_row, .func (PySem.W.fnOf "check_row" "check_row" (defArgs s_check_row) (defBody s_check_row) (defScope s_check_row) .none kV_check_row dc_check_row pm_check_row an_check_row cd_check_row ct_check_row), sl_check_row⟩)
    (c_check_row : PySem.W.codeIn K cd_check_row "check_row" = true)
    (k_check_row : PySem.W.keepIn K (.ref f_check_row) = true)
    (a_is_side : PySem.W.nsIn K mainGlobals "is_side" = some (some (.ref f_is_side)))
    (l_is_side : K.lookup f_is_side = some ⟨oc_is_side, od_is_side, .func (PySem.W.fnOf "is_side" "is_side" (defArgs s_is_side) (defBody s_is_side) (defScope s_is_side) .none kV_is_side dc_is_side pm_is_side an_is_side cd_is_side ct_is_side), sl_is_side⟩)
    (c_is_side : PySem.W.codeIn K cd_is_side "is_side" = true)
    (k_is_side : PySem.W.keepIn K (.ref f_is_side) = true)
    (a_worth_of : PySem.W.nsIn K mainGlobals "worth_of" = some (some (.ref f_worth_of)))
    (l_worth_of : K.lookup f_worth_of = some ⟨oc_worth_of, od_worth_of, .func (PySem.W.fnOf "worth_of" "worth_of" (defArgs s_worth_of) (defBody s_worth_of) (defScope s_worth_of) .none kV_worth_of dc_worth_of pm_worth_of an_worth_of cd_worth_of ct_worth_of), sl_worth_of⟩)
    (c_worth_of : PySem.W.codeIn K cd_worth_of "worth_of" = true)
    (k_worth_of : PySem.W.keepIn K (.ref f_worth_of) = true)
    (a_after : PySem.W.nsIn K mainGlobals "after" = some (some (.ref f_after)))
    (l_after : K.lookup f_after = some ⟨oc_after, od_after, .func (PySem.W.fnOf "after" "after" (defArgs s_after) (defBody s_after) (defScope s_after) .none kV_after dc_after pm_after an_after cd_after ct_after), sl_after⟩)
    (c_after : PySem.W.codeIn K cd_after "after" = true)
    (k_after : PySem.W.keepIn K (.ref f_after) = true)
    (a_best_of : PySem.W.nsIn K mainGlobals "best_of" = some (some (.ref f_best_of)))
    (l_best_of : K.lookup f_best_of = some ⟨oc_best_of, od_best_of, .func (PySem.W.fnOf "best_of" "best_of" (defArgs s_best_of) (defBody s_best_of) (defScope s_best_of) .none kV_best_of dc_best_of pm_best_of an_best_of cd_best_of ct_best_of), sl_best_of⟩)
    (c_best_of : PySem.W.codeIn K cd_best_of "best_of" = true)
    (k_best_of : PySem.W.keepIn K (.ref f_best_of) = true)
    (a_worth : PySem.W.nsIn K mainGlobals "worth" = some (some (.ref f_worth)))
    (l_worth : K.lookup f_worth = some ⟨oc_worth, od_worth, .func (PySem.W.fnOf "worth" "worth" (defArgs s_worth) (defBody s_worth) (defScope s_worth) .none kV_worth dc_worth pm_worth an_worth cd_worth ct_worth), sl_worth⟩)
    (c_worth : PySem.W.codeIn K cd_worth "worth" = true)
    (k_worth : PySem.W.keepIn K (.ref f_worth) = true)
    (a_best : PySem.W.nsIn K mainGlobals "best" = some (some (.ref f_best)))
    (l_best : K.lookup f_best = some ⟨oc_best, od_best, .func (PySem.W.fnOf "best" "best" (defArgs s_best) (defBody s_best) (defScope s_best) .none kV_best dc_best pm_best an_best cd_best ct_best), sl_best⟩)
    (c_best : PySem.W.codeIn K cd_best "best" = true)
    (k_best : PySem.W.keepIn K (.ref f_best) = true)
    (a_led : PySem.W.nsIn K mainGlobals "led" = some (some (.ref f_led)))
    (l_led : K.lookup f_led = some ⟨oc_led, od_led, .func (PySem.W.fnOf "led" "led" (defArgs s_led) (defBody s_led) (defScope s_led) .none kV_led dc_led pm_led an_led cd_led ct_led), sl_led⟩)
    (c_led : PySem.W.codeIn K cd_led "led" = true)
    (k_led : PySem.W.keepIn K (.ref f_led) = true)
    (a_greedy : PySem.W.nsIn K mainGlobals "greedy" = some (some (.ref f_greedy)))
    (l_greedy : K.lookup f_greedy = some ⟨oc_greedy, od_greedy, .func (PySem.W.fnOf "greedy" "greedy" (defArgs s_greedy) (defBody s_greedy) (defScope s_greedy) .none kV_greedy dc_greedy pm_greedy an_greedy cd_greedy ct_greedy), sl_greedy⟩)
    (c_greedy : PySem.W.codeIn K cd_greedy "greedy" = true)
    (k_greedy : PySem.W.keepIn K (.ref f_greedy) = true)
    (a_sure : PySem.W.nsIn K mainGlobals "sure" = some (some (.ref f_sure)))
    (l_sure : K.lookup f_sure = some ⟨oc_sure, od_sure, .func (PySem.W.fnOf "sure" "sure" (defArgs s_sure) (defBody s_sure) (defScope s_sure) .none kV_sure dc_sure pm_sure an_sure cd_sure ct_sure), sl_sure⟩)
    (c_sure : PySem.W.codeIn K cd_sure "sure" = true)
    (k_sure : PySem.W.keepIn K (.ref f_sure) = true)
    (a_table_of : PySem.W.nsIn K mainGlobals "table_of" = some (some (.ref f_table_of)))
    (l_table_of : K.lookup f_table_of = some ⟨oc_table_of, od_table_of, .func (PySem.W.fnOf "table_of" "table_of" (defArgs s_table_of) (defBody s_table_of) (defScope s_table_of) .none kV_table_of dc_table_of pm_table_of an_table_of cd_table_of ct_table_of), sl_table_of⟩)
    (c_table_of : PySem.W.codeIn K cd_table_of "table_of" = true)
    (k_table_of : PySem.W.keepIn K (.ref f_table_of) = true)
    (a_got : PySem.W.nsIn K mainGlobals "got" = some (some (.ref f_got)))
    (l_got : K.lookup f_got = some ⟨oc_got, od_got, .func (PySem.W.fnOf "got" "got" (defArgs s_got) (defBody s_got) (defScope s_got) .none kV_got dc_got pm_got an_got cd_got ct_got), sl_got⟩)
    (c_got : PySem.W.codeIn K cd_got "got" = true)
    (k_got : PySem.W.keepIn K (.ref f_got) = true)
    (a_planned : PySem.W.nsIn K mainGlobals "planned" = some (some (.ref f_planned)))
    (l_planned : K.lookup f_planned = some ⟨oc_planned, od_planned, .func (PySem.W.fnOf "planned" "planned" (defArgs s_planned) (defBody s_planned) (defScope s_planned) .none kV_planned dc_planned pm_planned an_planned cd_planned ct_planned), sl_planned⟩)
    (c_planned : PySem.W.codeIn K cd_planned "planned" = true)
    (k_planned : PySem.W.keepIn K (.ref f_planned) = true)
    (a_plan_of : PySem.W.nsIn K mainGlobals "plan_of" = some (some (.ref f_plan_of)))
    (l_plan_of : K.lookup f_plan_of = some ⟨oc_plan_of, od_plan_of, .func (PySem.W.fnOf "plan_of" "plan_of" (defArgs s_plan_of) (defBody s_plan_of) (defScope s_plan_of) .none kV_plan_of dc_plan_of pm_plan_of an_plan_of cd_plan_of ct_plan_of), sl_plan_of⟩)
    (c_plan_of : PySem.W.codeIn K cd_plan_of "plan_of" = true)
    (k_plan_of : PySem.W.keepIn K (.ref f_plan_of) = true)
    (a_judged : PySem.W.nsIn K mainGlobals "judged" = some (some (.ref f_judged)))
    (l_judged : K.lookup f_judged = some ⟨oc_judged, od_judged, .func (PySem.W.fnOf "judged" "judged" (defArgs s_judged) (defBody s_judged) (defScope s_judged) .none kV_judged dc_judged pm_judged an_judged cd_judged ct_judged), sl_judged⟩)
    (c_judged : PySem.W.codeIn K cd_judged "judged" = true)
    (k_judged : PySem.W.keepIn K (.ref f_judged) = true)
    (a_plays_of : PySem.W.nsIn K mainGlobals "plays_of" = some (some (.ref f_plays_of)))
    (l_plays_of : K.lookup f_plays_of = some ⟨oc_plays_of, od_plays_of, .func (PySem.W.fnOf "plays_of" "plays_of" (defArgs s_plays_of) (defBody s_plays_of) (defScope s_plays_of) .none kV_plays_of dc_plays_of pm_plays_of an_plays_of cd_plays_of ct_plays_of), sl_plays_of⟩)
    (c_plays_of : PySem.W.codeIn K cd_plays_of "plays_of" = true)
    (k_plays_of : PySem.W.keepIn K (.ref f_plays_of) = true)
    (a_how_many : PySem.W.nsIn K mainGlobals "how_many" = some (some (.ref f_how_many)))
    (l_how_many : K.lookup f_how_many = some ⟨oc_how_many, od_how_many, .func (PySem.W.fnOf "how_many" "how_many" (defArgs s_how_many) (defBody s_how_many) (defScope s_how_many) .none kV_how_many dc_how_many pm_how_many an_how_many cd_how_many ct_how_many), sl_how_many⟩)
    (c_how_many : PySem.W.codeIn K cd_how_many "how_many" = true)
    (k_how_many : PySem.W.keepIn K (.ref f_how_many) = true)
    (a_play_by : PySem.W.nsIn K mainGlobals "play_by" = some (some (.ref f_play_by)))
    (l_play_by : K.lookup f_play_by = some ⟨oc_play_by, od_play_by, .func (PySem.W.fnOf "play_by" "play_by" (defArgs s_play_by) (defBody s_play_by) (defScope s_play_by) .none kV_play_by dc_play_by pm_play_by an_play_by cd_play_by ct_play_by), sl_play_by⟩)
    (c_play_by : PySem.W.codeIn K cd_play_by "play_by" = true)
    (k_play_by : PySem.W.keepIn K (.ref f_play_by) = true)
    (a__law_copied : PySem.W.nsIn K mainGlobals "_law_copied" = some (some (.ref f__law_copied)))
    (l__law_copied : K.lookup f__law_copied = some ⟨oc__law_copied, od__law_copied, .func (PySem.W.fnOf "_law_copied" "_law_copied" (defArgs s__law_copied) (defBody s__law_copied) (defScope s__law_copied) .none kV__law_copied dc__law_copied pm__law_copied an__law_copied cd__law_copied ct__law_copied), sl__law_copied⟩)
    (c__law_copied : PySem.W.codeIn K cd__law_copied "_law_copied" = true)
    (k__law_copied : PySem.W.keepIn K (.ref f__law_copied) = true)
    (a__law_spoiled : PySem.W.nsIn K mainGlobals "_law_spoiled" = some (some (.ref f__law_spoiled)))
    (l__law_spoiled : K.lookup f__law_spoiled = some ⟨oc__law_spoiled, od__law_spoiled, .func (PySem.W.fnOf "_law_spoiled" "_law_spoiled" (defArgs s__law_spoiled) (defBody s__law_spoiled) (defScope s__law_spoiled) .none kV__law_spoiled dc__law_spoiled pm__law_spoiled an__law_spoiled cd__law_spoiled ct__law_spoiled), sl__law_spoiled⟩)
    (c__law_spoiled : PySem.W.codeIn K cd__law_spoiled "_law_spoiled" = true)
    (k__law_spoiled : PySem.W.keepIn K (.ref f__law_spoiled) = true)
    (a__law_laid : PySem.W.nsIn K mainGlobals "_law_laid" = some (some (.ref f__law_laid)))
    (l__law_laid : K.lookup f__law_laid = some ⟨oc__law_laid, od__law_laid, .func (PySem.W.fnOf "_law_laid" "_law_laid" (defArgs s__law_laid) (defBody s__law_laid) (defScope s__law_laid) .none kV__law_laid dc__law_laid pm__law_laid an__law_laid cd__law_laid ct__law_laid), sl__law_laid⟩)
    (c__law_laid : PySem.W.codeIn K cd__law_laid "_law_laid" = true)
    (k__law_laid : PySem.W.keepIn K (.ref f__law_laid) = true)
    (a__law_door_right : PySem.W.nsIn K mainGlobals "_law_door_right" = some (some (.ref f__law_door_right)))
    (l__law_door_right : K.lookup f__law_door_right = some ⟨oc__law_door_right, od__law_door_right, .func (PySem.W.fnOf "_law_door_right" "_law_door_right" (defArgs s__law_door_right) (defBody s__law_door_right) (defScope s__law_door_right) .none kV__law_door_right dc__law_door_right pm__law_door_right an__law_door_right cd__law_door_right ct__law_door_right), sl__law_door_right⟩)
    (c__law_door_right : PySem.W.codeIn K cd__law_door_right "_law_door_right" = true)
    (k__law_door_right : PySem.W.keepIn K (.ref f__law_door_right) = true)
    (a__law_row : PySem.W.nsIn K mainGlobals "_law_row" = some (some (.ref f__law_row)))
    (l__law_row : K.lookup f__law_row = some ⟨oc__law_row, od__law_row, .func (PySem.W.fnOf "_law_row" "_law_row" (defArgs s__law_row) (defBody s__law_row) (defScope s__law_row) .none kV__law_row dc__law_row pm__law_row an__law_row cd__law_row ct__law_row), sl__law_row⟩)
    (c__law_row : PySem.W.codeIn K cd__law_row "_law_row" = true)
    (k__law_row : PySem.W.keepIn K (.ref f__law_row) = true)
    (a__law_told : PySem.W.nsIn K mainGlobals "_law_told" = some (some (.ref f__law_told)))
    (l__law_told : K.lookup f__law_told = some ⟨oc__law_told, od__law_told, .func (PySem.W.fnOf "_law_told" "_law_told" (defArgs s__law_told) (defBody s__law_told) (defScope s__law_told) .none kV__law_told dc__law_told pm__law_told an__law_told cd__law_told ct__law_told), sl__law_told⟩)
    (c__law_told : PySem.W.codeIn K cd__law_told "_law_told" = true)
    (k__law_told : PySem.W.keepIn K (.ref f__law_told) = true)
    (a__law_free_right : PySem.W.nsIn K mainGlobals "_law_free_right" = some (some (.ref f__law_free_right)))
    (l__law_free_right : K.lookup f__law_free_right = some ⟨oc__law_free_right, od__law_free_right, .func (PySem.W.fnOf "_law_free_right" "_law_free_right" (defArgs s__law_free_right) (defBody s__law_free_right) (defScope s__law_free_right) .none kV__law_free_right dc__law_free_right pm__law_free_right an__law_free_right cd__law_free_right ct__law_free_right), sl__law_free_right⟩)
    (c__law_free_right : PySem.W.codeIn K cd__law_free_right "_law_free_right" = true)
    (k__law_free_right : PySem.W.keepIn K (.ref f__law_free_right) = true)
    (a_law : PySem.W.nsIn K mainGlobals "law" = some (some (.ref f_law)))
    (l_law : K.lookup f_law = some ⟨oc_law, od_law, .func (PySem.W.fnOf "law" "law" (defArgs s_law) (defBody s_law) (defScope s_law) .none kV_law dc_law pm_law an_law (.ref ca_law) ct_law), sl_law⟩)
    (c_law : PySem.W.codeIn K (.ref ca_law) "law" = true)
    (th_law : PySem.W.codeHdIn K ca_law Pa_law = true)
    (tn_law : K.lookup Pa_law = none)
    (tt_law : h.get? Pa_law = some (PySem.W.tabObj #[]))
    (k_law : PySem.W.keepIn K (.ref f_law) = true)
    (l_Gets_init : K.lookup f_Gets_init = some ⟨oc_Gets_init, od_Gets_init, .func (PySem.W.fnOf "__init__" "Gets.__init__" (defArgs s_Gets_init) (defBody s_Gets_init) (defScope s_Gets_init) .none kV_Gets_init dc_Gets_init pm_Gets_init an_Gets_init cd_Gets_init ct_Gets_init), sl_Gets_init⟩)
    (c_Gets_init : PySem.W.codeIn K cd_Gets_init "Gets.__init__" = true)
    (k_Gets_init : PySem.W.keepIn K (.ref f_Gets_init) = true)
    (l_Gets_shows : K.lookup f_Gets_shows = some ⟨oc_Gets_shows, od_Gets_shows, .func (PySem.W.fnOf "shows" "Gets.shows" (defArgs s_Gets_shows) (defBody s_Gets_shows) (defScope s_Gets_shows) .none kV_Gets_shows dc_Gets_shows pm_Gets_shows an_Gets_shows cd_Gets_shows ct_Gets_shows), sl_Gets_shows⟩)
    (c_Gets_shows : PySem.W.codeIn K cd_Gets_shows "Gets.shows" = true)
    (k_Gets_shows : PySem.W.keepIn K (.ref f_Gets_shows) = true)
    (l_Held_init : K.lookup f_Held_init = some ⟨oc_Held_init, od_Held_init, .func (PySem.W.fnOf "__init__" "Held.__init__" (defArgs s_Held_init) (defBody s_Held_init) (defScope s_Held_init) .none kV_Held_init dc_Held_init pm_Held_init an_Held_init cd_Held_init ct_Held_init), sl_Held_init⟩)
    (c_Held_init : PySem.W.codeIn K cd_Held_init "Held.__init__" = true)
    (k_Held_init : PySem.W.keepIn K (.ref f_Held_init) = true)
    (l_Held_shows : K.lookup f_Held_shows = some ⟨oc_Held_shows, od_Held_shows, .func (PySem.W.fnOf "shows" "Held.shows" (defArgs s_Held_shows) (defBody s_Held_shows) (defScope s_Held_shows) .none kV_Held_shows dc_Held_shows pm_Held_shows an_Held_shows cd_Held_shows ct_Held_shows), sl_Held_shows⟩)
    (c_Held_shows : PySem.W.codeIn K cd_Held_shows "Held.shows" = true)
    (k_Held_shows : PySem.W.keepIn K (.ref f_Held_shows) = true)
    (q_MOST : PySem.W.nsIn K mainGlobals "MOST" = some (some (.int 12 t_MOST)))
    (q_GREATEST : PySem.W.nsIn K mainGlobals "GREATEST" = some (some (.int 1000000 t_GREATEST)))
    (q_LEFT : PySem.W.nsIn K mainGlobals "LEFT" = some (some (.str "left" t_LEFT)))
    (q_RIGHT : PySem.W.nsIn K mainGlobals "RIGHT" = some (some (.str "right" t_RIGHT)))
    (z_abs : PySem.W.nsIn K mainGlobals "abs" = some none)
    (z_all : PySem.W.nsIn K mainGlobals "all" = some none)
    (z_bool : PySem.W.nsIn K mainGlobals "bool" = some none)
    (z_enumerate : PySem.W.nsIn K mainGlobals "enumerate" = some none)
    (z_int : PySem.W.nsIn K mainGlobals "int" = some none)
    (z_isinstance : PySem.W.nsIn K mainGlobals "isinstance" = some none)
    (z_len : PySem.W.nsIn K mainGlobals "len" = some none)
    (z_list : PySem.W.nsIn K mainGlobals "list" = some none)
    (z_max : PySem.W.nsIn K mainGlobals "max" = some none)
    (z_range : PySem.W.nsIn K mainGlobals "range" = some none)
    (z_str : PySem.W.nsIn K mainGlobals "str" = some none)
    (z_sum : PySem.W.nsIn K mainGlobals "sum" = some none)
    (kc_EndError : PySem.W.keepIn K (.ref C_EndError) = true)
    (xc_EndError : PySem.W.excIn K C_EndError [.type "ValueError", .type "Exception", .type "BaseException", .type "object"] "ValueError.__new__" = true)
    (Bc_EndError : PySem.W.subIn K (.ref C_EndError) (.type "BaseException") = some true)
    (tc_EndError : PySem.W.typeIn K (.ref C_EndError) = some (.type "type"))
    (kc_BadRow : PySem.W.keepIn K (.ref C_BadRow) = true)
    (xc_BadRow : PySem.W.excIn K C_BadRow [.type "ValueError", .type "Exception", .type "BaseException", .type "object"] "ValueError.__new__" = true)
    (Bc_BadRow : PySem.W.subIn K (.ref C_BadRow) (.type "BaseException") = some true)
    (tc_BadRow : PySem.W.typeIn K (.ref C_BadRow) = some (.type "type"))
    (kc_BadTakes : PySem.W.keepIn K (.ref C_BadTakes) = true)
    (xc_BadTakes : PySem.W.excIn K C_BadTakes [.type "ValueError", .type "Exception", .type "BaseException", .type "object"] "ValueError.__new__" = true)
    (Bc_BadTakes : PySem.W.subIn K (.ref C_BadTakes) (.type "BaseException") = some true)
    (tc_BadTakes : PySem.W.typeIn K (.ref C_BadTakes) = some (.type "type"))
    (kc_BadNumber : PySem.W.keepIn K (.ref C_BadNumber) = true)
    (xc_BadNumber : PySem.W.excIn K C_BadNumber [.type "ValueError", .type "Exception", .type "BaseException", .type "object"] "ValueError.__new__" = true)
    (Bc_BadNumber : PySem.W.subIn K (.ref C_BadNumber) (.type "BaseException") = some true)
    (tc_BadNumber : PySem.W.typeIn K (.ref C_BadNumber) = some (.type "type"))
    (kc_Odd : PySem.W.keepIn K (.ref C_Odd) = true)
    (xc_Odd : PySem.W.excIn K C_Odd [.type "ValueError", .type "Exception", .type "BaseException", .type "object"] "ValueError.__new__" = true)
    (Bc_Odd : PySem.W.subIn K (.ref C_Odd) (.type "BaseException") = some true)
    (tc_Odd : PySem.W.typeIn K (.ref C_Odd) = some (.type "type"))
    (pg_Gets : PySem.W.plainGet K C_Gets Str.empty = true)
    (hd_Gets : PySem.W.hasDictIn K C_Gets = true)
    (po_Gets : PySem.W.plainOver K C_Gets = true)
    (sa_Gets : PySem.W.findIn K (.ref C_Gets) "__setattr__" = some (some (.builtin "object.__setattr__")))
    (mkc_Gets : PySem.W.makesIn K C_Gets = true)
    (kc_Gets : PySem.W.keepIn K (.ref C_Gets) = true)
    (np_Gets : PySem.W.findIn K (.ref C_Gets) "plan" = some none)
    (ha_Gets : PySem.W.findIn K (.ref C_Gets) "__class__" = some (some (.builtin "object.__class__")))
    (hm_Gets : PySem.W.mroIn K C_Gets (.type "object") = some true)
    (hn_Gets : PySem.W.specialIn K (.builtin "object.__class__") "__get__" = some (some (.builtin "getset_descriptor.__get__")))
    (ht_Gets : PySem.W.takesIn K (.builtin "object.__class__") = some true)
    (kit_Gets_Answer : PySem.W.kitOne K (.ref C_Gets) (.ref C_Answer) = some true)
    (kit_Gets_Gets : PySem.W.kitOne K (.ref C_Gets) (.ref C_Gets) = some true)
    (kit_Gets_Held : PySem.W.kitOne K (.ref C_Gets) (.ref C_Held) = some false)
    (fn_Gets_init : PySem.W.isFn K (.ref f_Gets_init) = true)
    (fn_Gets_shows : PySem.W.isFn K (.ref f_Gets_shows) = true)
    (pg_Held : PySem.W.plainGet K C_Held Str.empty = true)
    (hd_Held : PySem.W.hasDictIn K C_Held = true)
    (po_Held : PySem.W.plainOver K C_Held = true)
    (sa_Held : PySem.W.findIn K (.ref C_Held) "__setattr__" = some (some (.builtin "object.__setattr__")))
    (mkc_Held : PySem.W.makesIn K C_Held = true)
    (kc_Held : PySem.W.keepIn K (.ref C_Held) = true)
    (np_Held : PySem.W.findIn K (.ref C_Held) "plan" = some none)
    (ha_Held : PySem.W.findIn K (.ref C_Held) "__class__" = some (some (.builtin "object.__class__")))
    (hm_Held : PySem.W.mroIn K C_Held (.type "object") = some true)
    (hn_Held : PySem.W.specialIn K (.builtin "object.__class__") "__get__" = some (some (.builtin "getset_descriptor.__get__")))
    (ht_Held : PySem.W.takesIn K (.builtin "object.__class__") = some true)
    (kit_Held_Answer : PySem.W.kitOne K (.ref C_Held) (.ref C_Answer) = some true)
    (kit_Held_Gets : PySem.W.kitOne K (.ref C_Held) (.ref C_Gets) = some false)
    (kit_Held_Held : PySem.W.kitOne K (.ref C_Held) (.ref C_Held) = some true)
    (fn_Held_init : PySem.W.isFn K (.ref f_Held_init) = true)
    (fn_Held_shows : PySem.W.isFn K (.ref f_Held_shows) = true)
    : LamX.LawAtS l w K CX0 32 63 "_law_script" mg fa h := by
  have e := hfa.symm.trans (PySem.W.mg_of X G a_law)
  have e2 : f_law = fa := by
    have e3 := Option.some.inj e
    injection e3 with e4
    exact e4.symm
  subst e2
  have F_is_whole := fun_mk (st := s_is_whole) l_is_whole c_is_whole k_is_whole
  have b_is_whole := F_is_whole.binds (ps := ["thing"]) fun _ _ _ _ _ _ us hl => match us, hl with | [_], _ => rfl
  have F_check_row := fun_mk (st := s_check_row) l_check_row c_check_row k_check_row
  have b_check_row := F_check_row.binds (ps := ["row"]) fun _ _ _ _ _ _ us hl => match us, hl with | [_], _ => rfl
  have F_is_side := fun_mk (st := s_is_side) l_is_side c_is_side k_is_side
  have b_is_side := F_is_side.binds (ps := ["thing"]) fun _ _ _ _ _ _ us hl => match us, hl with | [_], _ => rfl
  have F_worth_of := fun_mk (st := s_worth_of) l_worth_of c_worth_of k_worth_of
  have b_worth_of := F_worth_of.binds (ps := ["row", "low", "behind", "known"]) fun _ _ _ _ _ _ us hl => match us, hl with | [_, _, _, _], _ => rfl
  have F_after := fun_mk (st := s_after) l_after c_after k_after
  have b_after := F_after.binds (ps := ["row", "low", "behind", "side"]) fun _ _ _ _ _ _ us hl => match us, hl with | [_, _, _, _], _ => rfl
  have F_best_of := fun_mk (st := s_best_of) l_best_of c_best_of k_best_of
  have b_best_of := F_best_of.binds (ps := ["row", "low", "behind", "known"]) fun _ _ _ _ _ _ us hl => match us, hl with | [_, _, _, _], _ => rfl
  have F_worth := fun_mk (st := s_worth) l_worth c_worth k_worth
  have b_worth := F_worth.binds (ps := ["row"]) fun _ _ _ _ _ _ us hl => match us, hl with | [_], _ => rfl
  have F_best := fun_mk (st := s_best) l_best c_best k_best
  have b_best := F_best.binds (ps := ["row"]) fun _ _ _ _ _ _ us hl => match us, hl with | [_], _ => rfl
  have F_led := fun_mk (st := s_led) l_led c_led k_led
  have b_led := F_led.binds (ps := ["row", "takes"]) fun _ _ _ _ _ _ us hl => match us, hl with | [_, _], _ => rfl
  have F_greedy := fun_mk (st := s_greedy) l_greedy c_greedy k_greedy
  have b_greedy := F_greedy.binds (ps := ["row"]) fun _ _ _ _ _ _ us hl => match us, hl with | [_], _ => rfl
  have F_sure := fun_mk (st := s_sure) l_sure c_sure k_sure
  have b_sure := F_sure.binds (ps := ["row"]) fun _ _ _ _ _ _ us hl => match us, hl with | [_], _ => rfl
  have F_table_of := fun_mk (st := s_table_of) l_table_of c_table_of k_table_of
  have b_table_of := F_table_of.binds (ps := ["row", "plan"]) fun _ _ _ _ _ _ us hl => match us, hl with | [_, _], _ => rfl
  have F_got := fun_mk (st := s_got) l_got c_got k_got
  have b_got := F_got.binds (ps := ["row", "low", "behind", "table", "mine"]) fun _ _ _ _ _ _ us hl => match us, hl with | [_, _, _, _, _], _ => rfl
  have F_planned := fun_mk (st := s_planned) l_planned c_planned k_planned
  have b_planned := F_planned.binds (ps := ["row", "plan", "mine"]) fun _ _ _ _ _ _ us hl => match us, hl with | [_, _, _], _ => rfl
  have F_plan_of := fun_mk (st := s_plan_of) l_plan_of c_plan_of k_plan_of
  have b_plan_of := F_plan_of.binds (ps := ["row", "first"]) fun _ _ _ _ _ _ us hl => match us, hl with | [_, _], _ => rfl
  have F_judged := fun_mk (st := s_judged) l_judged c_judged k_judged
  have b_judged := F_judged.binds (ps := ["row", "least"]) fun _ _ _ _ _ _ us hl => match us, hl with | [_, _], _ => rfl
  have F_plays_of := fun_mk (st := s_plays_of) l_plays_of c_plays_of k_plays_of
  have b_plays_of := F_plays_of.binds (ps := ["row", "low", "behind", "known"]) fun _ _ _ _ _ _ us hl => match us, hl with | [_, _, _, _], _ => rfl
  have F_how_many := fun_mk (st := s_how_many) l_how_many c_how_many k_how_many
  have b_how_many := F_how_many.binds (ps := ["row"]) fun _ _ _ _ _ _ us hl => match us, hl with | [_], _ => rfl
  have F_play_by := fun_mk (st := s_play_by) l_play_by c_play_by k_play_by
  have b_play_by := F_play_by.binds (ps := ["row", "number"]) fun _ _ _ _ _ _ us hl => match us, hl with | [_, _], _ => rfl
  have F__law_copied := fun_mk (st := s__law_copied) l__law_copied c__law_copied k__law_copied
  have b__law_copied := F__law_copied.binds (ps := ["_law_thing"]) fun _ _ _ _ _ _ us hl => match us, hl with | [_], _ => rfl
  have F__law_spoiled := fun_mk (st := s__law_spoiled) l__law_spoiled c__law_spoiled k__law_spoiled
  have b__law_spoiled := F__law_spoiled.binds (ps := ["_law_thing"]) fun _ _ _ _ _ _ us hl => match us, hl with | [_], _ => rfl
  have F__law_laid := fun_mk (st := s__law_laid) l__law_laid c__law_laid k__law_laid
  have b__law_laid := F__law_laid.binds (ps := ["_law_mine", "_law_other"]) fun _ _ _ _ _ _ us hl => match us, hl with | [_, _], _ => rfl
  have F__law_door_right := fun_mk (st := s__law_door_right) l__law_door_right c__law_door_right k__law_door_right
  have b__law_door_right := F__law_door_right.binds (ps := ["_law_ask", "_law_one", "_law_other"]) fun _ _ _ _ _ _ us hl => match us, hl with | [_, _, _], _ => rfl
  have F__law_row := fun_mk (st := s__law_row) l__law_row c__law_row k__law_row
  have b__law_row := F__law_row.binds (ps := ["_law_cells", "_law_many", "_law_by"]) fun _ _ _ _ _ _ us hl => match us, hl with | [_, _, _], _ => rfl
  have F__law_told := fun_mk (st := s__law_told) l__law_told c__law_told k__law_told
  have b__law_told := F__law_told.binds (ps := ["_law_found"]) fun _ _ _ _ _ _ us hl => match us, hl with | [_], _ => rfl
  have F__law_free_right := fun_mk (st := s__law_free_right) l__law_free_right c__law_free_right k__law_free_right
  have b__law_free_right := F__law_free_right.binds (ps := ["_law_ask", "_law_holds", "_law_one", "_law_other"]) fun _ _ _ _ _ _ us hl => match us, hl with | [_, _, _, _], _ => rfl
  have F_law := fun_mk (st := s_law) l_law c_law k_law
  have b_law := F_law.binds (ps := ["_law_script"]) fun _ _ _ _ _ _ us hl => match us, hl with | [_], _ => rfl
  have F_Gets_init := fun_mk (st := s_Gets_init) l_Gets_init c_Gets_init k_Gets_init
  have b_Gets_init := F_Gets_init.binds (ps := ["self", "plan"]) fun _ _ _ _ _ _ us hl => match us, hl with | [_, _], _ => rfl
  have F_Gets_shows := fun_mk (st := s_Gets_shows) l_Gets_shows c_Gets_shows k_Gets_shows
  have b_Gets_shows := F_Gets_shows.binds (ps := ["self", "row", "least"]) fun _ _ _ _ _ _ us hl => match us, hl with | [_, _, _], _ => rfl
  have F_Held_init := fun_mk (st := s_Held_init) l_Held_init c_Held_init k_Held_init
  have b_Held_init := F_Held_init.binds (ps := ["self", "plan"]) fun _ _ _ _ _ _ us hl => match us, hl with | [_, _], _ => rfl
  have F_Held_shows := fun_mk (st := s_Held_shows) l_Held_shows c_Held_shows k_Held_shows
  have b_Held_shows := F_Held_shows.binds (ps := ["self", "row", "least"]) fun _ _ _ _ _ _ us hl => match us, hl with | [_, _, _], _ => rfl
  have T : Tx K mg { f_is_whole := f_is_whole, d_is_whole := _, f_check_row := f_check_row, d_check_row := _, f_is_side := f_is_side, d_is_side := _, f_worth_of := f_worth_of, d_worth_of := _, f_after := f_after, d_after := _, f_best_of := f_best_of, d_best_of := _, f_worth := f_worth, d_worth := _, f_best := f_best, d_best := _, f_led := f_led, d_led := _, f_greedy := f_greedy, d_greedy := _, f_sure := f_sure, d_sure := _, f_table_of := f_table_of, d_table_of := _, f_got := f_got, d_got := _, f_planned := f_planned, d_planned := _, f_plan_of := f_plan_of, d_plan_of := _, f_judged := f_judged, d_judged := _, f_plays_of := f_plays_of, d_plays_of := _, f_how_many := f_how_many, d_how_many := _, f_play_by := f_play_by, d_play_by := _, f__law_copied := f__law_copied, d__law_copied := _, f__law_spoiled := f__law_spoiled, d__law_spoiled := _, f__law_laid := f__law_laid, d__law_laid := _, f__law_door_right := f__law_door_right, d__law_door_right := _, f__law_row := f__law_row, d__law_row := _, f__law_told := f__law_told, d__law_told := _, f__law_free_right := f__law_free_right, d__law_free_right := _, f_law := f_law, d_law := _, f_Gets_init := f_Gets_init, d_Gets_init := _, f_Gets_shows := f_Gets_shows, d_Gets_shows := _, f_Held_init := f_Held_init, d_Held_init := _, f_Held_shows := f_Held_shows, d_Held_shows := _, C_EndError := C_EndError, C_BadRow := C_BadRow, C_BadTakes := C_BadTakes, C_BadNumber := C_BadNumber, C_Odd := C_Odd, C_Answer := C_Answer, C_Gets := C_Gets, C_Held := C_Held, t_MOST := t_MOST, t_GREATEST := t_GREATEST, t_LEFT := t_LEFT, t_RIGHT := t_RIGHT, c_law := ca_law, P_law := Pa_law } := {
    babs := PySem.W.mg_none_of X G z_abs,
    ball := PySem.W.mg_none_of X G z_all,
    bbool := PySem.W.mg_none_of X G z_bool,
    benumerate := PySem.W.mg_none_of X G z_enumerate,
    bint := PySem.W.mg_none_of X G z_int,
    bisinstance := PySem.W.mg_none_of X G z_isinstance,
    blen := PySem.W.mg_none_of X G z_len,
    blist := PySem.W.mg_none_of X G z_list,
    bmax := PySem.W.mg_none_of X G z_max,
    brange := PySem.W.mg_none_of X G z_range,
    bstr := PySem.W.mg_none_of X G z_str,
    bsum := PySem.W.mg_none_of X G z_sum,
    gMOST := PySem.W.mg_of X G q_MOST,
    gGREATEST := PySem.W.mg_of X G q_GREATEST,
    gLEFT := PySem.W.mg_of X G q_LEFT,
    gRIGHT := PySem.W.mg_of X G q_RIGHT,
    gis_whole := PySem.W.mg_of X G a_is_whole, Fis_whole := F_is_whole, bis_whole := b_is_whole,
    gcheck_row := PySem.W.mg_of X G a_check_row, Fcheck_row := F_check_row, bcheck_row := b_check_row,
    gis_side := PySem.W.mg_of X G a_is_side, Fis_side := F_is_side, bis_side := b_is_side,
    gworth_of := PySem.W.mg_of X G a_worth_of, Fworth_of := F_worth_of, bworth_of := b_worth_of,
    gafter := PySem.W.mg_of X G a_after, Fafter := F_after, bafter := b_after,
    gbest_of := PySem.W.mg_of X G a_best_of, Fbest_of := F_best_of, bbest_of := b_best_of,
    gworth := PySem.W.mg_of X G a_worth, Fworth := F_worth, bworth := b_worth,
    gbest := PySem.W.mg_of X G a_best, Fbest := F_best, bbest := b_best,
    gled := PySem.W.mg_of X G a_led, Fled := F_led, bled := b_led,
    ggreedy := PySem.W.mg_of X G a_greedy, Fgreedy := F_greedy, bgreedy := b_greedy,
    gsure := PySem.W.mg_of X G a_sure, Fsure := F_sure, bsure := b_sure,
    gtable_of := PySem.W.mg_of X G a_table_of, Ftable_of := F_table_of, btable_of := b_table_of,
    ggot := PySem.W.mg_of X G a_got, Fgot := F_got, bgot := b_got,
    gplanned := PySem.W.mg_of X G a_planned, Fplanned := F_planned, bplanned := b_planned,
    gplan_of := PySem.W.mg_of X G a_plan_of, Fplan_of := F_plan_of, bplan_of := b_plan_of,
    gjudged := PySem.W.mg_of X G a_judged, Fjudged := F_judged, bjudged := b_judged,
    gplays_of := PySem.W.mg_of X G a_plays_of, Fplays_of := F_plays_of, bplays_of := b_plays_of,
    ghow_many := PySem.W.mg_of X G a_how_many, Fhow_many := F_how_many, bhow_many := b_how_many,
    gplay_by := PySem.W.mg_of X G a_play_by, Fplay_by := F_play_by, bplay_by := b_play_by,
    g_law_copied := PySem.W.mg_of X G a__law_copied, F_law_copied := F__law_copied, b_law_copied := b__law_copied,
    g_law_spoiled := PySem.W.mg_of X G a__law_spoiled, F_law_spoiled := F__law_spoiled, b_law_spoiled := b__law_spoiled,
    g_law_laid := PySem.W.mg_of X G a__law_laid, F_law_laid := F__law_laid, b_law_laid := b__law_laid,
    g_law_door_right := PySem.W.mg_of X G a__law_door_right, F_law_door_right := F__law_door_right, b_law_door_right := b__law_door_right,
    g_law_row := PySem.W.mg_of X G a__law_row, F_law_row := F__law_row, b_law_row := b__law_row,
    g_law_told := PySem.W.mg_of X G a__law_told, F_law_told := F__law_told, b_law_told := b__law_told,
    g_law_free_right := PySem.W.mg_of X G a__law_free_right, F_law_free_right := F__law_free_right, b_law_free_right := b__law_free_right,
    glaw := PySem.W.mg_of X G a_law, Flaw := F_law, blaw := b_law,
    gEndError := PySem.W.mg_of X G n_EndError,
    kEndError := kc_EndError, xEndError := xc_EndError, BEndError := Bc_EndError, tEndError := tc_EndError,
    gBadRow := PySem.W.mg_of X G n_BadRow,
    kBadRow := kc_BadRow, xBadRow := xc_BadRow, BBadRow := Bc_BadRow, tBadRow := tc_BadRow,
    gBadTakes := PySem.W.mg_of X G n_BadTakes,
    kBadTakes := kc_BadTakes, xBadTakes := xc_BadTakes, BBadTakes := Bc_BadTakes, tBadTakes := tc_BadTakes,
    gBadNumber := PySem.W.mg_of X G n_BadNumber,
    kBadNumber := kc_BadNumber, xBadNumber := xc_BadNumber, BBadNumber := Bc_BadNumber, tBadNumber := tc_BadNumber,
    gOdd := PySem.W.mg_of X G n_Odd,
    kOdd := kc_Odd, xOdd := xc_Odd, BOdd := Bc_Odd, tOdd := tc_Odd,
    gAnswer := PySem.W.mg_of X G n_Answer,
    gGets := PySem.W.mg_of X G n_Gets,
    gHeld := PySem.W.mg_of X G n_Held,
    FGets_init := F_Gets_init, bGets_init := b_Gets_init,
    MGets := ⟨mkc_Gets, at_Gets_init, fn_Gets_init, kc_Gets⟩,
    FGets_shows := F_Gets_shows, bGets_shows := b_Gets_shows,
    mGets_shows := ⟨at_Gets_shows, fn_Gets_shows, k_Gets_shows⟩,
    FHeld_init := F_Held_init, bHeld_init := b_Held_init,
    MHeld := ⟨mkc_Held, at_Held_init, fn_Held_init, kc_Held⟩,
    FHeld_shows := F_Held_shows, bHeld_shows := b_Held_shows,
    mHeld_shows := ⟨at_Held_shows, fn_Held_shows, k_Held_shows⟩,
    clGets := ⟨pg_Gets, hd_Gets, po_Gets, sa_Gets⟩, npGets := np_Gets, tyGets := ⟨ha_Gets, hn_Gets, ht_Gets, hm_Gets⟩,
    kitGets_Answer := kit_Gets_Answer,
    kitGets_Gets := kit_Gets_Gets,
    kitGets_Held := kit_Gets_Held,
    clHeld := ⟨pg_Held, hd_Held, po_Held, sa_Held⟩, npHeld := np_Held, tyHeld := ⟨ha_Held, hn_Held, ht_Held, hm_Held⟩,
    kitHeld_Answer := kit_Held_Answer,
    kitHeld_Gets := kit_Held_Gets,
    kitHeld_Held := kit_Held_Held,
    FClaw := ⟨⟨_, _, _, _, _, _, _, _, rfl, l_law, c_law⟩⟩ }
  refine ⟨_, [(ca_law, Pa_law)], spLawT K (tabs _), (List.forall_mem_cons.mpr ⟨tt_law, (fun _ hx => (nomatch hx))⟩), (List.forall_mem_cons.mpr ⟨tn_law, (fun _ hx => (nomatch hx))⟩), (List.forall_mem_cons.mpr ⟨PySem.W.codeHd_of_K X th_law, (fun _ hx => (nomatch hx))⟩), fun s v => .of_eq rfl, fun H a ns hl hb hH hS => ⟨a, ns, rfl, hS, hl, fun z hz => lt_of_bits (hb z hz), (List.forall_mem_cons.mpr ⟨TabS.nil (hH _ (List.mem_cons_self)), (fun _ hx => (nomatch hx))⟩), fun _ => rfl⟩, fun base _ _ hTB => ok_law T (hTB _ (List.mem_cons_self))⟩
theorem bits_of {ns : List Int} (h : ∀ z ∈ ns, Builtin.Int.intBits z ≤ 1048576) : ∀ z ∈ ns, z.natAbs < 2 ^ 1048576 := fun z hz => lt_of_bits (h z hz)
end K08
open PySem PySem.W PyProof.Rows
set_option maxRecDepth 100000 in
set_option maxHeartbeats 0 in
theorem PySem.Challenge.cw_rowends_k08_handed_stays_holds : PySem.Challenge.rw_rowends_k08_handed_stays.Holds := by
  w_on; o_law; k_head; (case hw => w_witness2)
  k_fill
  refine LamX.walk_ofTs (l := PySem.Challenge.rw_rowends_k08_handed_stays) (n := 63) (k := 32) (x := "_law_script") (CX := fun _ => L2.CX0) rfl (by decide) rfl ⟨rfl, by decide, by decide⟩ (fun w h Y => PySem.W.km_in_of Y) ?F (fun _ _ _ _ _ h => h)
  case F =>
    intro w mg fa h Y KX G hmg
    have hT8 := PySem.W.km_tabs_of Y
    refine' K08.all_mk KX G hmg ?tb_law ?n_EndError ?n_BadRow ?n_BadTakes ?n_BadNumber ?n_Odd ?n_Answer ?n_Gets ?n_Held ?at_Gets_init ?at_Gets_shows ?at_Held_init ?at_Held_shows ?a_is_whole ?l_is_whole ?c_is_whole ?k_is_whole ?a_check_row ?l_check_row ?c_check_row ?k_check_row ?a_is_side ?l_is_side ?c_is_side ?k_is_side ?a_worth_of ?l_worth_of ?c_worth_of ?k_worth_of ?a_after ?l_after ?c_after ?k_after ?a_best_of ?l_best_of ?c_best_of ?k_best_of ?a_worth ?l_worth ?c_worth ?k_worth ?a_best ?l_best ?c_best ?k_best ?a_led ?l_led ?c_led ?k_led ?a_greedy ?l_greedy ?c_greedy ?k_greedy ?a_sure ?l_sure ?c_sure ?k_sure ?a_table_of ?l_table_of ?c_table_of ?k_table_of ?a_got ?l_got ?c_got ?k_got ?a_planned ?l_planned ?c_planned ?k_planned ?a_plan_of ?l_plan_of ?c_plan_of ?k_plan_of ?a_judged ?l_judged ?c_judged ?k_judged ?a_plays_of ?l_plays_of ?c_plays_of ?k_plays_of ?a_how_many ?l_how_many ?c_how_many ?k_how_many ?a_play_by ?l_play_by ?c_play_by ?k_play_by ?a__law_copied ?l__law_copied ?c__law_copied ?k__law_copied ?a__law_spoiled ?l__law_spoiled ?c__law_spoiled ?k__law_spoiled ?a__law_laid ?l__law_laid ?c__law_laid ?k__law_laid ?a__law_door_right ?l__law_door_right ?c__law_door_right ?k__law_door_right ?a__law_row ?l__law_row ?c__law_row ?k__law_row ?a__law_told ?l__law_told ?c__law_told ?k__law_told ?a__law_free_right ?l__law_free_right ?c__law_free_right ?k__law_free_right ?a_law ?l_law ?c_law ?th_law ?tn_law ?tt_law ?k_law ?l_Gets_init ?c_Gets_init ?k_Gets_init ?l_Gets_shows ?c_Gets_shows ?k_Gets_shows ?l_Held_init ?c_Held_init ?k_Held_init ?l_Held_shows ?c_Held_shows ?k_Held_shows ?q_MOST ?q_GREATEST ?q_LEFT ?q_RIGHT ?z_abs ?z_all ?z_bool ?z_enumerate ?z_int ?z_isinstance ?z_len ?z_list ?z_max ?z_range ?z_str ?z_sum ?kc_EndError ?xc_EndError ?Bc_EndError ?tc_EndError ?kc_BadRow ?xc_BadRow ?Bc_BadRow ?tc_BadRow ?kc_BadTakes ?xc_BadTakes ?Bc_BadTakes ?tc_BadTakes ?kc_BadNumber ?xc_BadNumber ?Bc_BadNumber ?tc_BadNumber ?kc_Odd ?xc_Odd ?Bc_Odd ?tc_Odd ?pg_Gets ?hd_Gets ?po_Gets ?sa_Gets ?mkc_Gets ?kc_Gets ?np_Gets ?ha_Gets ?hm_Gets ?hn_Gets ?ht_Gets ?kit_Gets_Answer ?kit_Gets_Gets ?kit_Gets_Held ?fn_Gets_init ?fn_Gets_shows ?pg_Held ?hd_Held ?po_Held ?sa_Held ?mkc_Held ?kc_Held ?np_Held ?ha_Held ?hm_Held ?hn_Held ?ht_Held ?kit_Held_Answer ?kit_Held_Gets ?kit_Held_Held ?fn_Held_init ?fn_Held_shows
    (case tb_law => first | k_is | rfl)
    (case n_EndError => first | k_is | rfl)
    (case n_BadRow => first | k_is | rfl)
    (case n_BadTakes => first | k_is | rfl)
    (case n_BadNumber => first | k_is | rfl)
    (case n_Odd => first | k_is | rfl)
    (case n_Answer => first | k_is | rfl)
    (case n_Gets => first | k_is | rfl)
    (case n_Held => first | k_is | rfl)
    (case at_Gets_init => first | k_is | rfl)
    (case at_Gets_shows => first | k_is | rfl)
    (case at_Held_init => first | k_is | rfl)
    (case at_Held_shows => first | k_is | rfl)
    (case a_is_whole => first | k_is | rfl)
    (case l_is_whole => first | k_is | rfl)
    (case c_is_whole => first | k_is | rfl)
    (case k_is_whole => first | k_is | rfl)
    (case a_check_row => first | k_is | rfl)
    (case l_check_row => first | k_is | rfl)
    (case c_check_row => first | k_is | rfl)
    (case k_check_row => first | k_is | rfl)
    (case a_is_side => first | k_is | rfl)
    (case l_is_side => first | k_is | rfl)
    (case c_is_side => first | k_is | rfl)
    (case k_is_side => first | k_is | rfl)
    (case a_worth_of => first | k_is | rfl)
    (case l_worth_of => first | k_is | rfl)
    (case c_worth_of => first | k_is | rfl)
    (case k_worth_of => first | k_is | rfl)
    (case a_after => first | k_is | rfl)
    (case l_after => first | k_is | rfl)
    (case c_after => first | k_is | rfl)
    (case k_after => first | k_is | rfl)
    (case a_best_of => first | k_is | rfl)
    (case l_best_of => first | k_is | rfl)
    (case c_best_of => first | k_is | rfl)
    (case k_best_of => first | k_is | rfl)
    (case a_worth => first | k_is | rfl)
    (case l_worth => first | k_is | rfl)
    (case c_worth => first | k_is | rfl)
    (case k_worth => first | k_is | rfl)
    (case a_best => first | k_is | rfl)
    (case l_best => first | k_is | rfl)
    (case c_best => first | k_is | rfl)
    (case k_best => first | k_is | rfl)
    (case a_led => first | k_is | rfl)
    (case l_led => first | k_is | rfl)
    (case c_led => first | k_is | rfl)
    (case k_led => first | k_is | rfl)
    (case a_greedy => first | k_is | rfl)
    (case l_greedy => first | k_is | rfl)
    (case c_greedy => first | k_is | rfl)
    (case k_greedy => first | k_is | rfl)
    (case a_sure => first | k_is | rfl)
    (case l_sure => first | k_is | rfl)
    (case c_sure => first | k_is | rfl)
    (case k_sure => first | k_is | rfl)
    (case a_table_of => first | k_is | rfl)
    (case l_table_of => first | k_is | rfl)
    (case c_table_of => first | k_is | rfl)
    (case k_table_of => first | k_is | rfl)
    (case a_got => first | k_is | rfl)
    (case l_got => first | k_is | rfl)
    (case c_got => first | k_is | rfl)
    (case k_got => first | k_is | rfl)
    (case a_planned => first | k_is | rfl)
    (case l_planned => first | k_is | rfl)
    (case c_planned => first | k_is | rfl)
    (case k_planned => first | k_is | rfl)
    (case a_plan_of => first | k_is | rfl)
    (case l_plan_of => first | k_is | rfl)
    (case c_plan_of => first | k_is | rfl)
    (case k_plan_of => first | k_is | rfl)
    (case a_judged => first | k_is | rfl)
    (case l_judged => first | k_is | rfl)
    (case c_judged => first | k_is | rfl)
    (case k_judged => first | k_is | rfl)
    (case a_plays_of => first | k_is | rfl)
    (case l_plays_of => first | k_is | rfl)
    (case c_plays_of => first | k_is | rfl)
    (case k_plays_of => first | k_is | rfl)
    (case a_how_many => first | k_is | rfl)
    (case l_how_many => first | k_is | rfl)
    (case c_how_many => first | k_is | rfl)
    (case k_how_many => first | k_is | rfl)
    (case a_play_by => first | k_is | rfl)
    (case l_play_by => first | k_is | rfl)
    (case c_play_by => first | k_is | rfl)
    (case k_play_by => first | k_is | rfl)
    (case a__law_copied => first | k_is | rfl)
    (case l__law_copied => first | k_is | rfl)
    (case c__law_copied => first | k_is | rfl)
    (case k__law_copied => first | k_is | rfl)
    (case a__law_spoiled => first | k_is | rfl)
    (case l__law_spoiled => first | k_is | rfl)
    (case c__law_spoiled => first | k_is | rfl)
    (case k__law_spoiled => first | k_is | rfl)
    (case a__law_laid => first | k_is | rfl)
    (case l__law_laid => first | k_is | rfl)
    (case c__law_laid => first | k_is | rfl)
    (case k__law_laid => first | k_is | rfl)
    (case a__law_door_right => first | k_is | rfl)
    (case l__law_door_right => first | k_is | rfl)
    (case c__law_door_right => first | k_is | rfl)
    (case k__law_door_right => first | k_is | rfl)
    (case a__law_row => first | k_is | rfl)
    (case l__law_row => first | k_is | rfl)
    (case c__law_row => first | k_is | rfl)
    (case k__law_row => first | k_is | rfl)
    (case a__law_told => first | k_is | rfl)
    (case l__law_told => first | k_is | rfl)
    (case c__law_told => first | k_is | rfl)
    (case k__law_told => first | k_is | rfl)
    (case a__law_free_right => first | k_is | rfl)
    (case l__law_free_right => first | k_is | rfl)
    (case c__law_free_right => first | k_is | rfl)
    (case k__law_free_right => first | k_is | rfl)
    (case a_law => first | k_is | rfl)
    (case l_law => first | k_is | rfl)
    (case c_law => first | k_is | rfl)
    (case th_law => first | k_is | rfl)
    (case tn_law => first | k_is | rfl)
    (case tt_law => exact hT8 _ (by first | decide | simp | k_mem))
    (case k_law => first | k_is | rfl)
    (case l_Gets_init => first | k_is | rfl)
    (case c_Gets_init => first | k_is | rfl)
    (case k_Gets_init => first | k_is | rfl)
    (case l_Gets_shows => first | k_is | rfl)
    (case c_Gets_shows => first | k_is | rfl)
    (case k_Gets_shows => first | k_is | rfl)
    (case l_Held_init => first | k_is | rfl)
    (case c_Held_init => first | k_is | rfl)
    (case k_Held_init => first | k_is | rfl)
    (case l_Held_shows => first | k_is | rfl)
    (case c_Held_shows => first | k_is | rfl)
    (case k_Held_shows => first | k_is | rfl)
    (case q_MOST => first | k_is | rfl)
    (case q_GREATEST => first | k_is | rfl)
    (case q_LEFT => first | k_is | rfl)
    (case q_RIGHT => first | k_is | rfl)
    (case z_abs => first | k_is | rfl)
    (case z_all => first | k_is | rfl)
    (case z_bool => first | k_is | rfl)
    (case z_enumerate => first | k_is | rfl)
    (case z_int => first | k_is | rfl)
    (case z_isinstance => first | k_is | rfl)
    (case z_len => first | k_is | rfl)
    (case z_list => first | k_is | rfl)
    (case z_max => first | k_is | rfl)
    (case z_range => first | k_is | rfl)
    (case z_str => first | k_is | rfl)
    (case z_sum => first | k_is | rfl)
    (case kc_EndError => first | k_is | rfl)
    (case xc_EndError => k_exc)
    (case Bc_EndError => first | k_is | rfl)
    (case tc_EndError => first | k_is | rfl)
    (case kc_BadRow => first | k_is | rfl)
    (case xc_BadRow => k_exc)
    (case Bc_BadRow => first | k_is | rfl)
    (case tc_BadRow => first | k_is | rfl)
    (case kc_BadTakes => first | k_is | rfl)
    (case xc_BadTakes => k_exc)
    (case Bc_BadTakes => first | k_is | rfl)
    (case tc_BadTakes => first | k_is | rfl)
    (case kc_BadNumber => first | k_is | rfl)
    (case xc_BadNumber => k_exc)
    (case Bc_BadNumber => first | k_is | rfl)
    (case tc_BadNumber => first | k_is | rfl)
    (case kc_Odd => first | k_is | rfl)
    (case xc_Odd => k_exc)
    (case Bc_Odd => first | k_is | rfl)
    (case tc_Odd => first | k_is | rfl)
    (case pg_Gets => first | k_is | rfl)
    (case hd_Gets => first | k_is | rfl)
    (case po_Gets => first | k_is | rfl)
    (case sa_Gets => first | k_is | rfl)
    (case mkc_Gets => first | k_is | rfl)
    (case kc_Gets => first | k_is | rfl)
    (case np_Gets => first | k_is | rfl)
    (case ha_Gets => first | k_is | rfl)
    (case hm_Gets => first | k_is | rfl)
    (case hn_Gets => first | k_is | rfl)
    (case ht_Gets => first | k_is | rfl)
    (case kit_Gets_Answer => first | k_is | rfl)
    (case kit_Gets_Gets => first | k_is | rfl)
    (case kit_Gets_Held => first | k_is | rfl)
    (case fn_Gets_init => first | k_is | rfl)
    (case fn_Gets_shows => first | k_is | rfl)
    (case pg_Held => first | k_is | rfl)
    (case hd_Held => first | k_is | rfl)
    (case po_Held => first | k_is | rfl)
    (case sa_Held => first | k_is | rfl)
    (case mkc_Held => first | k_is | rfl)
    (case kc_Held => first | k_is | rfl)
    (case np_Held => first | k_is | rfl)
    (case ha_Held => first | k_is | rfl)
    (case hm_Held => first | k_is | rfl)
    (case hn_Held => first | k_is | rfl)
    (case ht_Held => first | k_is | rfl)
    (case kit_Held_Answer => first | k_is | rfl)
    (case kit_Held_Gets => first | k_is | rfl)
    (case kit_Held_Held => first | k_is | rfl)
    (case fn_Held_init => first | k_is | rfl)
    (case fn_Held_shows => first | k_is | rfl)
