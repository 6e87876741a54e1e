import PyProof.Rows.All
import Wide.All
import OpenK.AllK
import Wide.FinOn
import HandS.ForMost
import HandS.ForExc
import HandS.IsInst
import HandS.Style
import HandS.Flow
import HandS.TupLe
import HandS.TupLen
import HandS.EndBits
import PySem.Challenge.RW_rowends_k03_plans_by_hand
set_option Elab.async false
set_option linter.all false
set_option maxRecDepth 100000
set_option maxHeartbeats 4000000
/-! the mathematics of rows: plain Lean -/
namespace RE
/-- the worth of the stretch of n coins from low on -/
def wv (row : List Int) : Nat → Nat → Int
  | 0, _ => 0
  | n + 1, low => if row.getD (low + n) 0 - wv row n low > row.getD low 0 - wv row n (low + 1) then row.getD (low + n) 0 - wv row n low else row.getD low 0 - wv row n (low + 1)
theorem wv_zero (row : List Int) (low : Nat) : wv row 0 low = 0 := by unfold wv; rfl
theorem wv_succ (row : List Int) (n low : Nat) : wv row (n + 1) low = if row.getD (low + n) 0 - wv row n low > row.getD low 0 - wv row n (low + 1) then row.getD (low + n) 0 - wv row n low else row.getD low 0 - wv row n (low + 1) := by
  rw [wv]
theorem wv_ge1 (row : List Int) (n low : Nat) : row.getD low 0 - wv row n (low + 1) ≤ wv row (n + 1) low := by
  rw [wv_succ]
  split <;> omega
theorem wv_ge2 (row : List Int) (n low : Nat) : row.getD (low + n) 0 - wv row n low ≤ wv row (n + 1) low := by
  rw [wv_succ]
  split <;> omega
theorem wv_one_of (row : List Int) (n low : Nat) : wv row (n + 1) low = row.getD low 0 - wv row n (low + 1) ∨ wv row (n + 1) low = row.getD (low + n) 0 - wv row n low := by
  rw [wv_succ]
  split
  · exact .inr rfl
  · exact .inl rfl
/-- the sum of a stretch -/
def seg (row : List Int) : Nat → Nat → Int
  | 0, _ => 0
  | n + 1, low => row.getD low 0 + seg row n (low + 1)
theorem seg_succ (row : List Int) (n low : Nat) : seg row (n + 1) low = row.getD low 0 + seg row n (low + 1) := by rw [seg]
theorem seg_last (row : List Int) : ∀ (n low : Nat), seg row (n + 1) low = seg row n low + row.getD (low + n) 0
  | 0, low => by simp [seg]
  | n + 1, low => by
    rw [seg_succ, seg_last row n (low + 1), seg_succ]
    have e : low + 1 + n = low + (n + 1) := by omega
    rw [e]
    omega
theorem wv_parity (row : List Int) : ∀ (n low : Nat), (wv row n low - seg row n low) % 2 = 0
  | 0, low => by simp [wv, seg]
  | n + 1, low => by
    have h1 := wv_parity row n (low + 1)
    have h2 := wv_parity row n low
    have h3 := seg_succ row n low
    have h4 := seg_last row n low
    rcases wv_one_of row n low with h | h <;> omega
theorem seg_all : ∀ (row : List Int), seg row row.length 0 = row.sum := by
  have shift : ∀ (a : Int) (r : List Int) (n low : Nat), seg (a :: r) n (low + 1) = seg r n low := by
    intro a r n
    induction n with
    | zero => intro low; simp [seg]
    | succ n ih =>
      intro low
      rw [seg_succ, seg_succ, ih]
      simp
  intro row
  induction row with
  | nil => rfl
  | cons a r ih =>
    rw [List.length_cons, seg_succ, shift, ih, List.sum_cons]
    simp
/-- turned about -/
theorem getD_rev (row : List Int) (i : Nat) (h : i < row.length) : row.reverse.getD i 0 = row.getD (row.length - 1 - i) 0 := by
  rw [List.getD_eq_getElem?_getD, List.getD_eq_getElem?_getD, List.getElem?_reverse h]
theorem wv_rev (row : List Int) : ∀ (n low : Nat), low + n ≤ row.length → wv row.reverse n low = wv row n (row.length - low - n)
  | 0, low, _ => by simp [wv]
  | n + 1, low, h => by
    have h1 := wv_rev row n (low + 1) (by omega)
    have h2 := wv_rev row n low (by omega)
    have e1 : row.length - (low + 1) - n = row.length - low - (n + 1) := by omega
    have e2 : row.length - low - n = row.length - low - (n + 1) + 1 := by omega
    rw [e1] at h1
    rw [e2] at h2
    have g1 := getD_rev row low (by omega)
    have g2 := getD_rev row (low + n) (by omega)
    have e3 : row.length - 1 - low = row.length - low - (n + 1) + n := by omega
    have e4 : row.length - 1 - (low + n) = row.length - low - (n + 1) := by omega
    rw [e3] at g1
    rw [e4] at g2
    rw [wv_succ, wv_succ, h1, h2, g1, g2]
    generalize row.getD (row.length - low - (n + 1) + n) 0 = a
    generalize row.getD (row.length - low - (n + 1)) 0 = b
    generalize wv row n (row.length - low - (n + 1)) = c
    generalize wv row n (row.length - low - (n + 1) + 1) = d
    split <;> split <;> omega
theorem worth_rev (row : List Int) : wv row.reverse row.length 0 = wv row row.length 0 := by
  have h := wv_rev row row.length 0 (by omega)
  simpa using h
/-- the alternating sum of a stretch -/
def alt (row : List Int) : Nat → Nat → Int
  | 0, _ => 0
  | n + 1, low => row.getD low 0 - alt row n (low + 1)
theorem alt_succ (row : List Int) (n low : Nat) : alt row (n + 1) low = row.getD low 0 - alt row n (low + 1) := by rw [alt]
theorem alt_last (row : List Int) : ∀ (n low : Nat), alt row (n + 1) low = if n % 2 = 0 then alt row n low + row.getD (low + n) 0 else alt row n low - row.getD (low + n) 0
  | 0, low => by simp [alt]
  | n + 1, low => by
    have h := alt_last row n (low + 1)
    have e : low + 1 + n = low + (n + 1) := by omega
    rw [e] at h
    rw [alt_succ, h, alt_succ]
    by_cases c : n % 2 = 0
    · rw [if_pos c, if_neg (by omega)]
      omega
    · rw [if_neg c, if_pos (by omega)]
      omega
theorem wv_alt (row : List Int) : ∀ (n low : Nat), (n % 2 = 0 → alt row n low ≤ wv row n low ∧ - alt row n low ≤ wv row n low) ∧ (n % 2 = 1 → wv row n low ≤ alt row n low)
  | 0, low => by simp [wv, alt]
  | n + 1, low => by
    have h1 := wv_alt row n (low + 1)
    have h2 := wv_alt row n low
    have g1 := wv_ge1 row n low
    have g2 := wv_ge2 row n low
    have a1 := alt_succ row n low
    have a2 := alt_last row n low
    constructor
    · intro c
      rw [if_neg (by omega)] at a2
      have q1 := h1.2 (by omega)
      have q2 := h2.2 (by omega)
      omega
    · intro c
      rw [if_pos (by omega)] at a2
      have q1 := h1.1 (by omega)
      have q2 := h2.1 (by omega)
      rcases wv_one_of row n low with h | h <;> omega
/-- the coins of places 0, 2, 4 .. -/
def evens {α : Type} : List α → List α
  | [] => []
  | [a] => [a]
  | a :: _ :: r => a :: evens r
theorem evens_map {α β : Type} (f : α → β) : ∀ l : List α, evens (l.map f) = (evens l).map f
  | [] => rfl
  | [_] => rfl
  | a :: b :: r => by
    show f a :: evens (r.map f) = f a :: (evens r).map f
    rw [evens_map f r]
theorem evens_le {α : Type} : ∀ l : List α, (evens l).length ≤ l.length
  | [] => Nat.le_refl _
  | [_] => Nat.le_refl _
  | a :: b :: r => by
    have := evens_le r
    show (evens r).length + 1 ≤ r.length + 1 + 1
    omega
theorem alt_shift (a : Int) (r : List Int) : ∀ (n low : Nat), alt (a :: r) n (low + 1) = alt r n low
  | 0, low => by simp [alt]
  | n + 1, low => by
    rw [alt_succ, alt_succ, alt_shift a r n (low + 1)]
    simp
theorem alt_evens : ∀ row : List Int, alt row row.length 0 = (evens row).sum - (evens (row.drop 1)).sum
  | [] => rfl
  | [a] => by simp [alt, evens]
  | a :: b :: r => by
    have ih := alt_evens r
    have e1 : alt (a :: b :: r) (a :: b :: r).length 0 = a - (b - alt r r.length 0) := by
      show alt (a :: b :: r) (r.length + 1 + 1) 0 = _
      rw [alt_succ, alt_shift, alt_succ, alt_shift]
      simp
    rw [e1, ih]
    have e2 : evens (a :: b :: r) = a :: evens r := rfl
    have e3 : (a :: b :: r).drop 1 = b :: r := rfl
    rw [e2, e3]
    cases r with
    | nil => simp [evens]
    | cons c s =>
      have e4 : evens (b :: c :: s) = b :: evens s := rfl
      have e5 : (c :: s).drop 1 = s := rfl
      rw [e4, e5, List.sum_cons, List.sum_cons]
      omega
theorem sure_le (row : List Int) (h : row.length % 2 = 0) : (if (evens row).sum - (evens (row.drop 1)).sum < 0 then -((evens row).sum - (evens (row.drop 1)).sum) else (evens row).sum - (evens (row.drop 1)).sum) ≤ wv row row.length 0 := by
  have h1 := (wv_alt row row.length 0).1 h
  rw [alt_evens] at h1
  split <;> omega
theorem wv_bound (row : List Int) : ∀ (n low : Nat), (∀ i, 0 ≤ row.getD i 0 ∧ row.getD i 0 ≤ 1000000) → -(1000000 * (n : Int)) ≤ wv row n low ∧ wv row n low ≤ 1000000 * (n : Int)
  | 0, low, _ => by simp [wv]
  | n + 1, low, h => by
    have h1 := wv_bound row n (low + 1) h
    have h2 := wv_bound row n low h
    have h3 := h low
    have h4 := h (low + n)
    rcases wv_one_of row n low with e | e <;> omega
/-- the best ends of a stretch -/
def ends (row : List Int) : Nat → Nat → List Bool
  | 0, _ => []
  | n + 1, low => (if row.getD low 0 - wv row n (low + 1) = wv row (n + 1) low then [true] else []) ++ (if row.getD (low + n) 0 - wv row n low = wv row (n + 1) low then [false] else [])
theorem ends_succ (row : List Int) (n low : Nat) : ends row (n + 1) low = (if row.getD low 0 - wv row n (low + 1) = wv row (n + 1) low then [true] else []) ++ (if row.getD (low + n) 0 - wv row n low = wv row (n + 1) low then [false] else []) := by
  first
    | rfl
    | (rw [ends])
theorem ends_ne (row : List Int) (n low : Nat) : ends row (n + 1) low ≠ [] := by
  rw [ends_succ]
  rcases wv_one_of row n low with h | h
  · rw [if_pos h.symm]
    simp
  · rw [if_pos (c := row.getD (low + n) 0 - wv row n low = wv row (n + 1) low) h.symm]
    simp
end RE
/-! rules of our own over the layer -/
namespace RE
open PySem PySem.Spec PyProof.Rows L2
/-! ### great numbers -/
def CMulB (i j : Int) : Prop := ∃ a b : Nat, i.natAbs < 2 ^ a ∧ j.natAbs < 2 ^ b ∧ a + b ≤ 100000000
theorem bits_le {x : Int} {a : Nat} (h : x.natAbs < 2 ^ a) : Builtin.Int.intBits x ≤ a := by
  unfold Builtin.Int.intBits
  split
  · exact Nat.zero_le _
  · rename_i h0
    have hx : x.natAbs ≠ 0 := fun e => h0 (by
      have : x = 0 := Int.natAbs_eq_zero.mp e
      rw [this]
      rfl)
    exact (Nat.log2_lt hx).mpr h
theorem CMulB.ok {i j : Int} (h : CMulB i j) : IntMulOk i j := by
  obtain ⟨a, b, h1, h2, h3⟩ := h
  have e1 := bits_le h1
  have e2 := bits_le h2
  have e : bitsLine = 134217728 := by decide
  unfold IntMulOk
  intro z
  rw [Bool.and_eq_true] at z
  have z2 := z.2
  unfold Builtin.Int.intTooBig at z2
  have z3 := of_decide_eq_true z2
  rw [e] at z3
  omega
theorem lt_of_bits {x : Int} {a : Nat} (h : Builtin.Int.intBits x ≤ a) : x.natAbs < 2 ^ a := by
  unfold Builtin.Int.intBits at h
  by_cases h0 : x = 0
  · subst h0
    exact Nat.pow_pos (by decide)
  · have hb : ¬ ((x == 0) = true) := by simpa using h0
    rw [if_neg hb] at h
    have hx : x.natAbs ≠ 0 := fun e => h0 (Int.natAbs_eq_zero.mp e)
    have h1 : x.natAbs.log2 < a := by omega
    exact (Nat.log2_lt hx).mp h1
theorem pw_add {x y : Int} {a b : Nat} (h1 : x.natAbs < 2 ^ a) (h2 : y.natAbs < 2 ^ b) (h : b ≤ a) : (x + y).natAbs < 2 ^ (a + 1) := by
  have e : 2 ^ (a + 1) = 2 ^ a + 2 ^ a := by rw [Nat.pow_succ]; omega
  have l : 2 ^ b ≤ 2 ^ a := Nat.pow_le_pow_right (by decide) h
  have q := Int.natAbs_add_le x y
  omega
theorem pw_mul {x y : Int} {a b : Nat} (h1 : x.natAbs < 2 ^ a) (h2 : y.natAbs < 2 ^ b) : (x * y).natAbs < 2 ^ (a + b) := by
  rw [Int.natAbs_mul, Nat.pow_add]
  exact Nat.mul_lt_mul'' h1 h2
theorem pw_mono {x : Int} {a b : Nat} (h1 : x.natAbs < 2 ^ a) (h : a ≤ b) : x.natAbs < 2 ^ b := Nat.lt_of_lt_of_le h1 (Nat.pow_le_pow_right (by decide) h)
section
variable {X : Cx}
theorem op_mulB : OpR X (binaryOp .Mult) (rI CMulB fun i j => .int (i * j)) := opI fun _ _ _ _ _ _ _ hc q => mul_int q hc.ok
/-! ### xs[i] op= e -/
theorem get_list : PGet X (rIxL X.K) := by
  intro pins s σ H o i ov iv Q I ro ri h
  obtain ⟨p, xs, k, z, rfl, rfl, hq, he, q⟩ := h
  cases ro
  obtain ⟨t, rfl⟩ := ri
  obtain ⟨its, r, pl, hz⟩ := I.list hq
  obtain ⟨j, h1, h2, h3, h4, h5⟩ := atI_get he
  obtain ⟨w, ew, rw'⟩ := r.get h2
  have hl := r.length
  have hn := line63
  have fin : EP X pins σ Q w s := ⟨z, H, I, rw', q⟩
  by_cases h0 : 0 ≤ k
  · have hj : k.toNat = j := by
      rw [seqIndex_of h0 h5] at h1
      exact Option.some.inj h1
    exact wpAny_getItem_list pl.isList h0 (by omega) (by rw [hj]; simpa using ew) fin
  · have hj : (k + (its.toArray.size : Int)).toNat = j := by
      rw [seqIndex_neg (by omega) h4] at h1
      rw [List.size_toArray, ← hl]
      exact Option.some.inj h1
    exact wpAny_getItem_list_neg pl.isList (by omega) (by rw [List.size_toArray] <;> omega) (by omega) (by rw [hj]; simpa using ew) fin
/-! ### d[k] = e as one of several targets -/
def rSetD : V → V → V → Hp → (Hp → Prop) → Prop := fun o i v H Q => ∃ a H', o = .ref a ∧ DPut H a i v H' ∧ Q H'
theorem set_dT (hu : X.A.units + 1 < cLine) : PSet X rSetD := by
  intro pins s σ H o i v ov iv u Q I ro ri rv h
  obtain ⟨a, H', rfl, g, q⟩ := h
  cases ro
  exact d_setItem hu I g ri rv fun s' I' => ⟨H', I', q⟩
/-! ### xs[a::2] -/
theorem evens_pick {α : Type} : ∀ l : List α, ((List.range ((l.length + 1) / 2)).map (fun k => 2 * k)).filterMap (l[·]?) = evens l
  | [] => by simp [evens]
  | [a] => by
    have e : ([a].length + 1) / 2 = 1 := by
      show (0 + 1 + 1) / 2 = 1
      decide
    rw [e]
    simp [List.range_succ, evens]
  | a :: b :: r => by
    have ih := evens_pick r
    have e : ((a :: b :: r).length + 1) / 2 = (r.length + 1) / 2 + 1 := by
      rw [List.length_cons, List.length_cons]
      omega
    rw [e, List.range_succ_eq_map, List.map_cons, List.filterMap_cons]
    show a :: _ = a :: evens r
    rw [← ih, List.map_map, List.filterMap_map, List.filterMap_map]
    congr 1
theorem evens_from {α : Type} (xs : List α) (a : Nat) : ((List.range ((xs.length - a + 1) / 2)).map (fun k => a + 2 * k)).filterMap (xs[·]?) = evens (xs.drop a) := by
  rw [← evens_pick, List.length_drop, List.filterMap_map, List.filterMap_map]
  congr 1
  funext k
  simp [List.getElem?_drop]
theorem stepRange (a n : Nat) (h : a ≤ n) : sliceRange (a : Int) (n : Int) 2 = (List.range ((n - a + 1) / 2)).map (fun k => a + 2 * k) := by
  unfold sliceRange
  have e : (if (2 : Int) > 0 then (if (a : Int) < n then ((n : Int) - a + 2 - 1) / 2 else 0) else (if (a : Int) > n then ((a : Int) - n - 2 - 1) / (-2) else 0)).toNat = (n - a + 1) / 2 := by
    rw [if_pos (by decide)]
    by_cases c : (a : Int) < n
    · rw [if_pos c]
      omega
    · rw [if_neg c]
      omega
  show (List.range (if (2 : Int) > 0 then (if (a : Int) < n then ((n : Int) - a + 2 - 1) / 2 else 0) else (if (a : Int) > n then ((a : Int) - n - 2 - 1) / (-2) else 0)).toNat).map _ = _
  rw [e]
  refine List.map_congr_left fun k _ => ?_
  omega
def stepLo : Option Int → Nat
  | none => 0
  | some i => i.toNat
theorem step_pick (its : List Value) (lo : Option Int) (h : lo = none ∨ ∃ i, lo = some i ∧ 0 ≤ i) : slicePick its.toArray lo none (some 2) = (evens (its.drop (stepLo lo))).toArray := by
  have key : ∀ a : Nat, sliceBounds lo none (some 2) its.toArray.size = (((min a its.length : Nat) : Int), (its.length : Int), 2) → a = stepLo lo → slicePick its.toArray lo none (some 2) = (evens (its.drop (stepLo lo))).toArray := by
    intro a e ea
    unfold slicePick
    rw [e]
    show ((sliceRange ((min a its.length : Nat) : Int) (its.length : Int) 2).filterMap (its.toArray[·]?)).toArray = _
    rw [stepRange _ _ (Nat.min_le_right _ _)]
    have z : (fun k : Nat => its.toArray[k]?) = (fun k : Nat => its[k]?) := funext fun k => by simp
    rw [z, evens_from, ← ea]
    congr 1
    by_cases c : a ≤ its.length
    · rw [Nat.min_eq_left c]
    · rw [Nat.min_eq_right (by omega), List.drop_length, List.drop_eq_nil_of_le (by omega)]
  rcases h with rfl | ⟨i, rfl, hi⟩
  · exact key 0 (by simp [sliceBounds]) rfl
  · refine key i.toNat ?_ rfl
    have h1 : ¬ i < 0 := by omega
    simp only [sliceBounds, Option.getD_some, List.size_toArray, h1, if_false, show (2 : Int) > 0 by decide, if_true]
    congr 1
    omega
theorem Vals_evens : ∀ {xs : List V} {us : List Value}, Vals xs us → Vals (evens xs) (evens us)
  | _, _, .nil => .nil
  | _, _, .cons r .nil => .cons r .nil
  | _, _, .cons r (.cons _ t) => .cons r (Vals_evens t)
def tStepL (K : PySem.W.Frag) (te : TE) (tl : TO) : TE := fun σ H Q => te σ H fun x H1 => tl σ H1 fun lo H2 => (lo = none ∨ ∃ i, lo = some i ∧ 0 ≤ i) ∧ ∃ a xs, x = .ref a ∧ SqL K H2 a xs ∧ ∀ p, H2 p = none → Q (.ref p) (upd H2 p (.lst (evens (xs.drop (stepLo lo)))))
theorem pe_stepL {e : Expr} {lo : Option Expr} {te : TE} {tl : TO} {k : Nat} {p1 p3 pos : Pos} (he : PE X e te) (hl : PO X lo tl)
    (hsb : ∀ ov iv, subscripted (.Slice lo none (some (.Constant (.int 2) k p1)) p3) false ov iv = operate [ov, iv] (getItem ov iv) := by intro _ _; with_unfolding_all rfl) :
    PE X (.Subscript e (.Slice lo none (some (.Constant (.int 2) k p1)) p3) pos) (tStepL X.K te tl) := by
  refine ⟨fun pins s σ H Q I h => ?_⟩
  refine Subscript_ (thn (he.run pins s σ H _ I h) fun v s1 ⟨x, H1, I1, r1, q1⟩ => ?_)
  have hst : PO X (some (.Constant (.int 2) k p1)) (tPart (tC (.int 2))) := po_some pe_int
  refine wpAny_Slice (thn (hl.run pins s1 σ H1 _ I1 q1) fun vl s2 ⟨l, H2, I2, pl, q2⟩ => ?_)
  obtain ⟨hlo, a, xs, ex, hx, q⟩ := q2
  subst ex
  cases r1
  refine thn (po_none.run pins s2 σ H2 (fun o H3 => o = none ∧ H3 = H2) I2 ⟨rfl, rfl⟩) fun vu s3 ⟨u, H3, I3, pu, eu, e3⟩ => ?_
  subst eu e3
  refine thn (hst.run pins s3 σ H3 (fun o H4 => o = some 2 ∧ H4 = H3) I3 ⟨2, rfl, rfl, rfl⟩) fun vs s4 ⟨o, H4, I4, ps, eo, e4⟩ => ?_
  subst eo e4
  have I5 : Inv X pins σ H4 { s4 with heap := s4.heap.push { cls := .type "slice", data := .fields #[vl, vu, vs] } } := I4.kept (t' := s4.toks) fun b ob q => Heap.get?_push_of_some _ q
  obtain ⟨its, r, ht, hz⟩ := I5.list hx
  have hlen := r.length
  show wpAny (model X.prog X.w) X.A (subscriptTail e (.Slice lo none (some (.Constant (.int 2) k p1)) p3) (.ref a) (.ref s4.heap.objs.size)) (EP X pins σ Q) X.xe { s4 with heap := s4.heap.push { cls := .type "slice", data := .fields #[vl, vu, vs] } }
  refine tail_any (ops := [.ref a, .ref s4.heap.objs.size]) ht.isList.typeIs (PySem.slot_list_getitem.lookup) ?_ (hsb _ _)
  refine wpAny_getItem_list_slice ht.isList (Heap.IsSliceOf.new _ vl vu vs) pl pu ps (by decide) ?_ (by rw [List.size_toArray]; omega)
  rw [step_pick its l hlo]
  refine ⟨.ref _, _, I5.laid (t' := s4.toks) (o := .lst (evens (xs.drop (stepLo l)))) (fun b ob q => Heap.get?_push_of_some _ q) (Nat.le_refl _) ?_, rfl, q _ (I5.hok.fresh (Nat.le_refl _))⟩
  refine ⟨?_, _, 0, Vals_evens (r.drop (stepLo l)), Heap.get?_push_size _ rfl⟩
  have e1 := evens_le (xs.drop (stepLo l))
  rw [List.length_drop] at e1
  omega
/-! ### ways joined behind a statement -/
def tMid (t u : TS) : TS := fun D σ H => ∃ Mid : L2.St → Hp → Prop, t { D with nx := Mid } σ H ∧ ∀ σ' H', Mid σ' H' → u D σ' H'
theorem pss_mid {st : Stmt} {rest : List Stmt} {t u : TS} (h1 : PS X st t) (h2 : PSs X rest u) : PSs X (st :: rest) (tMid t u) := by
  refine ⟨fun pins s σ H D I h => ?_⟩
  obtain ⟨Mid, h, hm⟩ := h
  refine wpAny_execs_cons (thn (h1.run pins s σ H { D with nx := Mid } I h) fun f s1 q => ?_)
  cases f with
  | next =>
    obtain ⟨σ', H', I', q⟩ := q
    exact h2.run pins s1 σ' H' D I' (hm σ' H' q)
  | ret v => exact q
  | brk => exact q
  | cont => exact q
end
end RE
/-! heaps, known worths, kinds of values -/
namespace RE
open PySem PySem.Spec PyProof.Rows L2
theorem iteFb {b : Bool} {A B : Prop} (hb : b = false) (h : B) : if b = true then A else B := by
  subst hb
  exact iteF h
theorem iteTb {b : Bool} {A B : Prop} (hb : b = true) (h : A) : if b = true then A else B := by
  subst hb
  exact iteT h
theorem same_new {H : Hp} {p : Addr} (h : H p = none) (o : HO) : Same H (upd H p o) := fun b u q => by rw [upd_ne (ne_of_none q h)]; exact q
/-- all but the object at d is as it was -/
def SameBut (d : Addr) (H H' : Hp) : Prop := ∀ b o, b ≠ d → H b = some o → H' b = some o
theorem SameBut.refl (d : Addr) (H : Hp) : SameBut d H H := fun _ _ _ h => h
theorem SameBut.trans {d : Addr} {H H1 H2 : Hp} (a : SameBut d H H1) (b : SameBut d H1 H2) : SameBut d H H2 := fun c o n h => b c o n (a c o n h)
theorem SameBut.of {d : Addr} {H H' : Hp} (h : Same H H') : SameBut d H H' := fun b o _ e => h b o e
theorem SameBut.put {d : Addr} {H : Hp} (o : HO) : SameBut d H (upd H d o) := fun b u n e => by rw [upd_ne n]; exact e
theorem SameBut.free {d : Addr} {H H' : Hp} (s : SameBut d H H') (hd : H d = none) : Same H H' := fun b o e => s b o (ne_of_none e hd) e
theorem SameBut.seq {K : PySem.W.Frag} {d : Addr} {H H' : Hp} {a : Addr} {xs : List V} {kvs : List (List Key × V)} (e : SameBut d H H') (hd : H d = some (.dT kvs)) (h : SqL K H a xs) : SqL K H' a xs := by
  rcases h with (h | ⟨o, h⟩) | h
  · exact .inl (.inl (e _ _ (ne_of h hd (by intro z; cases z)) h))
  · exact .inl (.inr ⟨o, e _ _ (ne_of h hd (by intro z; cases z)) h⟩)
  · exact .inr h
theorem SameBut.seqL {K : PySem.W.Frag} {d : Addr} {H H' : Hp} {a : Addr} {xs : List V} (e : SameBut d H H') (hd : a ≠ d) (h : SqL K H a xs) : SqL K H' a xs := by
  rcases h with (h | ⟨o, h⟩) | h
  · exact .inl (.inl (e _ _ hd h))
  · exact .inl (.inr ⟨o, e _ _ hd h⟩)
  · exact .inr h
theorem size_le {n : Nat} (h : n ≤ 100000) : n ≤ sizeLine := Nat.le_trans h (by decide)
theorem size_lt {n : Nat} (h : n < 100000) : n < sizeLine := Nat.lt_of_lt_of_le h (by decide)
/-! ### kinds -/
def kinds : List String := ["NoneType", "bool", "int", "str", "list", "tuple", "dict"]
structure PV (K : PySem.W.Frag) (H : Hp) (x : V) (T : String) : Prop where
  ty : TyX K H x (.type T)
  mem : T ∈ kinds
theorem kinds_all {p : String → Prop} (h1 : p "NoneType") (h2 : p "bool") (h3 : p "int") (h4 : p "str") (h5 : p "list") (h6 : p "tuple") (h7 : p "dict") : ∀ T ∈ kinds, p T := by
  intro T h
  simp only [kinds, List.mem_cons, List.not_mem_nil, or_false] at h
  rcases h with rfl | rfl | rfl | rfl | rfl | rfl | rfl <;> assumption
theorem kit_int {K : PySem.W.Frag} {T : String} (m : T ∈ kinds) : PySem.W.kitOne K (.type T) (.type "int") = some (T == "int" || T == "bool") :=
  kinds_all (p := fun T => PySem.W.kitOne K (.type T) (.type "int") = some (T == "int" || T == "bool")) (kit_ty (by decide +kernel)) (kit_ty (by decide +kernel)) (kit_ty (by decide +kernel)) (kit_ty (by decide +kernel)) (kit_ty (by decide +kernel)) (kit_ty (by decide +kernel)) (kit_ty (by decide +kernel)) T m
theorem kit_bool {K : PySem.W.Frag} {T : String} (m : T ∈ kinds) : PySem.W.kitOne K (.type T) (.type "bool") = some (T == "bool") :=
  kinds_all (p := fun T => PySem.W.kitOne K (.type T) (.type "bool") = some (T == "bool")) (kit_ty (by decide +kernel)) (kit_ty (by decide +kernel)) (kit_ty (by decide +kernel)) (kit_ty (by decide +kernel)) (kit_ty (by decide +kernel)) (kit_ty (by decide +kernel)) (kit_ty (by decide +kernel)) T m
theorem kit_list {K : PySem.W.Frag} {T : String} (m : T ∈ kinds) : PySem.W.kitOne K (.type T) (.type "list") = some (T == "list") :=
  kinds_all (p := fun T => PySem.W.kitOne K (.type T) (.type "list") = some (T == "list")) (kit_ty (by decide +kernel)) (kit_ty (by decide +kernel)) (kit_ty (by decide +kernel)) (kit_ty (by decide +kernel)) (kit_ty (by decide +kernel)) (kit_ty (by decide +kernel)) (kit_ty (by decide +kernel)) T m
theorem kit_tuple {K : PySem.W.Frag} {T : String} (m : T ∈ kinds) : PySem.W.kitOne K (.type T) (.type "tuple") = some (T == "tuple") :=
  kinds_all (p := fun T => PySem.W.kitOne K (.type T) (.type "tuple") = some (T == "tuple")) (kit_ty (by decide +kernel)) (kit_ty (by decide +kernel)) (kit_ty (by decide +kernel)) (kit_ty (by decide +kernel)) (kit_ty (by decide +kernel)) (kit_ty (by decide +kernel)) (kit_ty (by decide +kernel)) T m
theorem kit_str {K : PySem.W.Frag} {T : String} (m : T ∈ kinds) : PySem.W.kitOne K (.type T) (.type "str") = some (T == "str") :=
  kinds_all (p := fun T => PySem.W.kitOne K (.type T) (.type "str") = some (T == "str")) (kit_ty (by decide +kernel)) (kit_ty (by decide +kernel)) (kit_ty (by decide +kernel)) (kit_ty (by decide +kernel)) (kit_ty (by decide +kernel)) (kit_ty (by decide +kernel)) (kit_ty (by decide +kernel)) T m
section
variable {K : PySem.W.Frag} {H H' : Hp}
theorem pv_non : PV K H .non "NoneType" := ⟨.base .non, by decide⟩
theorem pv_bl (b : Bool) : PV K H (.bl b) "bool" := ⟨.base (.bl b), by decide⟩
theorem pv_int (i : Int) : PV K H (.int i) "int" := ⟨.base (.int i), by decide⟩
theorem pv_str (x : Str) : PV K H (.str x) "str" := ⟨.base (.str x), by decide⟩
theorem pv_tup {a : Addr} {xs : List V} (e : H a = some (.tup xs)) : PV K H (.ref a) "tuple" := ⟨.base (.tup e), by decide⟩
theorem pv_dT {a : Addr} {kvs : List (List Key × V)} (e : H a = some (.dT kvs)) : PV K H (.ref a) "dict" := ⟨.base (.dT e), by decide⟩
theorem pv_dK {a : Addr} {kvs : List (Key × V)} (e : H a = some (.dK kvs)) : PV K H (.ref a) "dict" := ⟨.base (.dK e), by decide⟩
theorem pv_sq {a : Addr} {xs : List V} (h : SqL K H a xs) : PV K H (.ref a) "list" := by
  refine ⟨?_, by decide⟩
  rcases h with (h | ⟨o, h⟩) | ⟨o, its, n, h, hc, _⟩
  · exact .base (.lst h)
  · exact .base (.frz h)
  · exact .kList h hc
theorem tyx_mono {x : V} {t : Value} (s : Same H H') (h : TyX K H x t) : TyX K H' x t := by
  cases h with
  | base b =>
    cases b with
    | non => exact .base .non
    | bl y => exact .base (.bl y)
    | int i => exact .base (.int i)
    | str y => exact .base (.str y)
    | flt y => exact .base (.flt y)
    | lst e => exact .base (.lst (s _ _ e))
    | frz e => exact .base (.frz (s _ _ e))
    | tup e => exact .base (.tup (s _ _ e))
    | dK e => exact .base (.dK (s _ _ e))
    | dT e => exact .base (.dT (s _ _ e))
    | ins e cl ha hn htk hm => exact .base (.ins (s _ _ e) cl ha hn htk hm)
  | byt b => exact .byt b
  | set e => exact .set (s _ _ e)
  | kList e c => exact .kList e c
  | kTuple e c => exact .kTuple e c
  | kDict e c => exact .kDict e c
  | fTuple e => exact .fTuple (s _ _ e)
  | fDict e => exact .fDict (s _ _ e)
theorem PV.mono {x : V} {T : String} (s : Same H H') (h : PV K H x T) : PV K H' x T := ⟨tyx_mono s h.ty, h.mem⟩
theorem PV.int_of {x : V} {T : String} (h : PV K H x T) (e : T = "int") : ∃ i, x = .int i := by
  obtain ⟨ty, m⟩ := h
  subst e
  generalize ht : (Value.type "int") = t at ty
  cases ty with
  | base b => cases b <;> first | exact ⟨_, rfl⟩ | exact absurd (Value.type.inj ht) (by decide) | cases ht
  | byt b => exact absurd (Value.type.inj ht) (by decide)
  | set e => exact absurd (Value.type.inj ht) (by decide)
  | kList e c => exact absurd (Value.type.inj ht) (by decide)
  | kTuple e c => exact absurd (Value.type.inj ht) (by decide)
  | kDict e c => exact absurd (Value.type.inj ht) (by decide)
  | fTuple e => exact absurd (Value.type.inj ht) (by decide)
  | fDict e => exact absurd (Value.type.inj ht) (by decide)
theorem PV.str_of {x : V} {T : String} (h : PV K H x T) (e : T = "str") : ∃ i, x = .str i := by
  obtain ⟨ty, m⟩ := h
  subst e
  generalize ht : (Value.type "str") = t at ty
  cases ty with
  | base b => cases b <;> first | exact ⟨_, rfl⟩ | exact absurd (Value.type.inj ht) (by decide) | cases ht
  | byt b => exact absurd (Value.type.inj ht) (by decide)
  | set e => exact absurd (Value.type.inj ht) (by decide)
  | kList e c => exact absurd (Value.type.inj ht) (by decide)
  | kTuple e c => exact absurd (Value.type.inj ht) (by decide)
  | kDict e c => exact absurd (Value.type.inj ht) (by decide)
  | fTuple e => exact absurd (Value.type.inj ht) (by decide)
  | fDict e => exact absurd (Value.type.inj ht) (by decide)
theorem PV.of_int {i : Int} {T : String} (h : PV K H (.int i) T) : T = "int" := by
  obtain ⟨ty, m⟩ := h
  generalize ht : (Value.type T) = t at ty
  cases ty with
  | base b => cases b; exact Value.type.inj ht
theorem PV.of_str {i : Str} {T : String} (h : PV K H (.str i) T) : T = "str" := by
  obtain ⟨ty, m⟩ := h
  generalize ht : (Value.type T) = t at ty
  cases ty with
  | base b => cases b; exact Value.type.inj ht
end
/-! ### rows -/
def coinB : V → Bool
  | .int i => decide (0 ≤ i) && decide (i ≤ 1000000)
  | _ => false
def RowOk (ns : List Int) : Prop := ns.length ≤ 12 ∧ ∀ z ∈ ns, 0 ≤ z ∧ z ≤ 1000000
theorem RowOk.all {ns : List Int} (h : RowOk ns) : (ns.map V.int).all coinB = true := by
  rw [List.all_eq_true]
  intro x hx
  obtain ⟨z, hz, rfl⟩ := List.mem_map.mp hx
  have q := h.2 z hz
  simp [coinB, q.1, q.2]
theorem RowOk.rev {ns : List Int} (h : RowOk ns) : RowOk ns.reverse := ⟨by rw [List.length_reverse]; exact h.1, fun z hz => h.2 z (List.mem_reverse.mp hz)⟩
theorem RowOk.getD {ns : List Int} (h : RowOk ns) (i : Nat) : 0 ≤ ns.getD i 0 ∧ ns.getD i 0 ≤ 1000000 := by
  rw [List.getD_eq_getElem?_getD]
  cases e : ns[i]? with
  | none => simp
  | some z => exact h.2 z (List.mem_of_getElem? e)
theorem at_get {ns : List Int} {i : Int} {j : Nat} (e : i = (j : Int)) (h : j < ns.length) : atI (ns.map V.int) i = some (.int (ns.getD j 0)) := by
  subst e
  refine atI_nat ?_
  rw [List.getElem?_map, List.getElem?_eq_getElem h, List.getD_eq_getElem?_getD, List.getElem?_eq_getElem h]
  rfl
/-! ### the worths that are known -/
def keyOf (low n : Nat) : List Key := [Sum.inl (low : Int), Sum.inl ((low + n : Nat) : Int)]
theorem keyOf_inj {a b c d : Nat} (h : keyOf a b = keyOf c d) : a = c ∧ b = d := by
  have h1 : ((a : Int) = (c : Int)) := Sum.inl.inj (List.cons.inj h).1
  have h2 : (((a + b : Nat) : Int) = ((c + d : Nat) : Int)) := Sum.inl.inj (List.cons.inj (List.cons.inj h).2).1
  omega
structure Known (row : List Int) (kvs : List (List Key × V)) : Prop where
  val : ∀ p ∈ kvs, ∃ low n, low + n ≤ row.length ∧ p = (keyOf low n, V.int (wv row n low))
  nd : (kvs.map (·.1)).Nodup
theorem Known.nil (row : List Int) : Known row [] := ⟨fun _ h => (nomatch h), List.nodup_nil⟩
theorem valV_mem {kvs : List (List Key × V)} {k : List Key} {v : V} (h : valV kvs k = some v) : (k, v) ∈ kvs := by
  unfold valV at h
  obtain ⟨p, hp, rfl⟩ := Option.map_eq_some_iff.mp h
  have h1 := List.find?_some hp
  have h2 := List.mem_of_find?_eq_some hp
  have h3 : p.1 = k := of_decide_eq_true h1
  subst h3
  exact h2
theorem Known.get {row : List Int} {kvs : List (List Key × V)} (h : Known row kvs) {low n : Nat} {v : V} (e : valV kvs (keyOf low n) = some v) : v = .int (wv row n low) := by
  obtain ⟨a, b, _, q⟩ := h.val _ (valV_mem e)
  have q1 := congrArg Prod.fst q
  have q2 := congrArg Prod.snd q
  obtain ⟨rfl, rfl⟩ := keyOf_inj q1
  exact q2
theorem Known.put {row : List Int} {kvs : List (List Key × V)} (h : Known row kvs) {low n : Nat} (hl : low + n ≤ row.length) : Known row (putK kvs (keyOf low n) (.int (wv row n low))) := by
  unfold putK
  split
  · rename_i c
    refine ⟨fun p hp => ?_, ?_⟩
    · obtain ⟨q, hq, rfl⟩ := List.mem_map.mp hp
      obtain ⟨a, b, l, e⟩ := h.val q hq
      refine ⟨a, b, l, ?_⟩
      split
      · rename_i ek
        rw [e] at ek ⊢
        obtain ⟨rfl, rfl⟩ := keyOf_inj ek
        rfl
      · exact e
    · have e : (kvs.map fun kv => if kv.1 = keyOf low n then (kv.1, V.int (wv row n low)) else kv).map (·.1) = kvs.map (·.1) := by
        rw [List.map_map]
        refine List.map_congr_left fun q _ => ?_
        show (if q.1 = keyOf low n then (q.1, V.int (wv row n low)) else q).1 = q.1
        split <;> rfl
      rw [e]
      exact h.nd
  · rename_i c
    refine ⟨fun p hp => ?_, ?_⟩
    · rcases List.mem_append.mp hp with hp | hp
      · exact h.val p hp
      · rw [List.mem_singleton] at hp
        exact ⟨low, n, hl, hp⟩
    · rw [List.map_append, List.nodup_append]
      refine ⟨h.nd, by simp, fun x hx y hy => ?_⟩
      obtain ⟨q, hq, rfl⟩ := List.mem_map.mp hx
      have e : y = keyOf low n := by simpa using hy
      subst e
      intro z
      exact c (List.any_eq_true.mpr ⟨q, hq, decide_eq_true z⟩)
theorem nodup_le {α : Type} [DecidableEq α] : ∀ (l u : List α), l.Nodup → (∀ x ∈ l, x ∈ u) → l.length ≤ u.length
  | [], u, _, _ => Nat.zero_le _
  | a :: l, u, hn, hs => by
    have ha : a ∈ u := hs a List.mem_cons_self
    have hn' := List.nodup_cons.mp hn
    have ih := nodup_le l (u.erase a) hn'.2 fun x hx => by
      have hx' : x ∈ u := hs x (List.mem_cons_of_mem _ hx)
      have ne : x ≠ a := fun e => hn'.1 (e ▸ hx)
      exact (List.mem_erase_of_ne ne).mpr hx'
    rw [List.length_erase_of_mem ha] at ih
    have : 0 < u.length := List.length_pos_of_mem ha
    rw [List.length_cons]
    omega
theorem Known.len {row : List Int} {kvs : List (List Key × V)} (h : Known row kvs) (hr : row.length ≤ 12) : kvs.length ≤ 1000 := by
  have q := nodup_le (kvs.map (·.1)) ((List.range 13).flatMap fun a => (List.range 13).map fun b => keyOf a b) h.nd fun x hx => by
    obtain ⟨p, hp, rfl⟩ := List.mem_map.mp hx
    obtain ⟨a, b, l, e⟩ := h.val p hp
    rw [e]
    exact List.mem_flatMap.mpr ⟨a, List.mem_range.mpr (by omega), List.mem_map.mpr ⟨b, List.mem_range.mpr (by omega), rfl⟩⟩
  rw [List.length_map] at q
  have z : ((List.range 13).flatMap fun a => (List.range 13).map fun b => keyOf a b).length = 169 := by
    rw [List.length_flatMap]
    simp [List.range_succ]
  omega
def sideS : Bool → Str
  | true => "left"
  | false => "right"
end RE
/-! data in the heap, for == -/
namespace RE
open PySem PySem.Spec PyProof.Rows L2
def vD : V → PyData
  | .bl b => .bool b
  | .int i => .int i
  | .str s => .str s
  | _ => .none
def okF : V → Bool
  | .non => true
  | .bl _ => true
  | .int _ => true
  | .str s => PyData.strOk s
  | _ => false
/-- data of a bounded depth -/
structure Sh (d : PyData) (n : Nat) : Prop where
  can : d.canLay0 = true
  dep : d.depth ≤ n
structure ShA (ds : List PyData) (n : Nat) : Prop where
  can : PyData.canLayAll0 ds = true
  dep : PyData.depthAll ds ≤ n
theorem Sh.shaped {d : PyData} {n : Nat} (h : Sh d n) (hn : n ≤ 64) : SeqAt.shaped d = true := by
  unfold SeqAt.shaped
  rw [h.can, decide_eq_true (Nat.le_trans h.dep hn)]
  rfl
theorem ShA.nil (n : Nat) : ShA [] n := ⟨rfl, by simp [PyData.depthAll]⟩
theorem ShA.cons {d : PyData} {ds : List PyData} {n : Nat} (h : Sh d n) (t : ShA ds n) : ShA (d :: ds) n :=
  ⟨by simp only [PyData.canLayAll0, h.can, t.can, Bool.and_self], by have := h.dep; have := t.dep; simp only [PyData.depthAll]; omega⟩
theorem Sh.list {ds : List PyData} {n : Nat} (h : ShA ds n) : Sh (.list ds) (n + 1) := ⟨by simp only [PyData.canLay0]; exact h.can, by have := h.dep; simp only [PyData.depth]; omega⟩
theorem Sh.tuple {ds : List PyData} {n : Nat} (h : ShA ds n) : Sh (.tuple ds) (n + 1) := ⟨by simp only [PyData.canLay0]; exact h.can, by have := h.dep; simp only [PyData.depth]; omega⟩
theorem Sh.mono {d : PyData} {n m : Nat} (h : Sh d n) (l : n ≤ m) : Sh d m := ⟨h.can, Nat.le_trans h.dep l⟩
theorem sh_flat {x : V} (h : okF x = true) (n : Nat) : Sh (vD x) n := by
  cases x with
  | str s => exact ⟨by simp only [vD, PyData.canLay0]; exact h, by simp [vD, PyData.depth]⟩
  | non => exact ⟨by simp [vD, PyData.canLay0], by simp [vD, PyData.depth]⟩
  | bl b => exact ⟨by simp [vD, PyData.canLay0], by simp [vD, PyData.depth]⟩
  | int b => exact ⟨by simp [vD, PyData.canLay0], by simp [vD, PyData.depth]⟩
  | byt b => cases h
  | flt b => cases h
  | ref b => cases h
  | ty b => cases h
theorem sha_flat : ∀ {xs : List V}, xs.all okF = true → ∀ n, ShA (xs.map vD) n
  | [], _, n => .nil n
  | x :: xs, h, n => by
    have h' := Bool.and_eq_true_iff.mp (show (okF x && xs.all okF) = true from h)
    exact .cons (sh_flat h'.1 n) (sha_flat h'.2 n)
section
variable {K : PySem.W.Frag} {H H' : Hp}
theorem dp_flat {x : V} (h : okF x = true) : Dp K H x (vD x) := by
  cases x with
  | str s => exact .str s
  | non => exact .non
  | bl b => exact .bl b
  | int b => exact .int b
  | byt b => cases h
  | flt b => cases h
  | ref b => cases h
  | ty b => cases h
theorem dps_flat : ∀ {xs : List V}, xs.all okF = true → DpAll K H xs (xs.map vD)
  | [], _ => .nil
  | x :: xs, h => by
    have h' := Bool.and_eq_true_iff.mp (show (okF x && xs.all okF) = true from h)
    exact .cons (dp_flat h'.1) (dps_flat h'.2)
theorem dp_lst {a : Addr} {xs : List V} (h : SqL K H a xs) (hf : xs.all okF = true) : Dp K H (.ref a) (.list (xs.map vD)) := .lst h (dps_flat hf)
theorem dp_tup {a : Addr} {xs : List V} (h : SqT K H a xs) (hf : xs.all okF = true) : Dp K H (.ref a) (.tuple (xs.map vD)) := .tup h (dps_flat hf)
end
theorem ok_ints (ns : List Int) : (ns.map V.int).all okF = true := by
  rw [List.all_map]
  exact List.all_eq_true.mpr fun _ _ => rfl
theorem ok_strs (bs : List Bool) : (bs.map fun b => V.str (sideS b)).all okF = true := by
  rw [List.all_map]
  refine List.all_eq_true.mpr fun b _ => ?_
  cases b <;> decide +kernel
theorem shl_flat {xs : List V} (h : xs.all okF = true) : SeqAt.shaped (.list (xs.map vD)) = true := (Sh.list (sha_flat h 0)).shaped (by decide)
theorem sht_flat {xs : List V} (h : xs.all okF = true) : SeqAt.shaped (.tuple (xs.map vD)) = true := (Sh.tuple (sha_flat h 0)).shaped (by decide)
theorem eqv_same {d : PyData} (h : SeqAt.shaped d = true) : PyData.eqv d d = true := SeqAt.eqv_refl d (SeqAt.canLay_of_shaped h)
theorem eqvAll_ints : ∀ ns ms : List Int, PyData.eqvAll ((ns.map V.int).map vD) ((ms.map V.int).map vD) = decide (ns = ms)
  | [], [] => by simp [PyData.eqvAll]
  | [], _ :: _ => by simp [PyData.eqvAll]
  | _ :: _, [] => by simp [PyData.eqvAll]
  | n :: ns, m :: ms => by
    have ih := eqvAll_ints ns ms
    simp only [List.map_cons, PyData.eqvAll, vD, PyData.eqv, ih]
    by_cases c : n = m <;> by_cases c2 : ns = ms <;> simp [c, c2]
theorem eqv_ints (ns ms : List Int) : PyData.eqv (.list ((ns.map V.int).map vD)) (.list ((ms.map V.int).map vD)) = decide (ns = ms) := by
  rw [PyData.eqv]
  exact eqvAll_ints ns ms
theorem eqv_nil_r (x : V) (xs : List V) : PyData.eqv (.list ((x :: xs).map vD)) (.list []) = false := by
  rw [PyData.eqv]
  rfl
end RE
/-! the promises of the program's defs -/
namespace RE
open PySem PySem.Spec PyProof.Rows L2
def spWhole (K : PySem.W.Frag) : Sp := fun vs H Q _ => ∃ x T, vs = [x] ∧ PV K H x T ∧ Q (.bl (T == "int")) H
/-- what is no row -/
def NoRow (K : PySem.W.Frag) (H : Hp) (x : V) : Prop := (∃ T, PV K H x T ∧ (T == "list") = false) ∨
  ∃ a xs, x = .ref a ∧ SqL K H a xs ∧ (12 < xs.length ∨ (xs.length ≤ 12 ∧ (∀ y ∈ xs, ∃ T, PV K H y T) ∧ xs.all coinB = false))
def IsRow (K : PySem.W.Frag) (H : Hp) (x : V) (ns : List Int) : Prop := ∃ a, x = .ref a ∧ SqL K H a (ns.map V.int) ∧ RowOk ns
/-- a row: go on; none: the refusal -/
def spCheck (K : PySem.W.Frag) (C : Addr) : Sp := fun vs H Q E => ∃ x, vs = [x] ∧
  ((∃ ns, IsRow K H x ns ∧ ∀ H', Same H H' → Q .non H') ∨ (NoRow K H x ∧ ∀ H', Same H H' → E (.ref C) none H'))
/-- a def of a row alone -/
def spRow (K : PySem.W.Frag) (C : Addr) (R : List Int → Hp → VK → XK → Prop) : Sp := fun vs H Q E => ∃ x, vs = [x] ∧
  ((∃ ns, IsRow K H x ns ∧ R ns H Q E) ∨ (NoRow K H x ∧ ∀ H', Same H H' → E (.ref C) none H'))
def spWorthOf (K : PySem.W.Frag) (n : Nat) : Sp := fun vs H Q _ => ∃ (a d : Addr) (ns : List Int) (low m : Nat) (i j : Int) (kvs : List (List Key × V)), vs = [.ref a, .int i, .int j, .ref d] ∧ i = (low : Int) ∧ j = ((low + m : Nat) : Int) ∧
  SqL K H a (ns.map V.int) ∧ H d = some (.dT kvs) ∧ Known ns kvs ∧ ns.length ≤ 12 ∧ low + m ≤ ns.length ∧ m < n ∧
  ∀ H' kvs', SameBut d H H' → H' d = some (.dT kvs') → Known ns kvs' → Q (.int (wv ns m low)) H'
def coinOf (ns : List Int) (b : Bool) (low m : Nat) : Int := if b then ns.getD low 0 else ns.getD (low + m) 0
def lowOf (b : Bool) (low : Nat) : Nat := if b then low + 1 else low
theorem lowOf_le (b : Bool) (low m : Nat) : lowOf b low + m ≤ low + (m + 1) := by cases b <;> simp [lowOf] <;> omega
def spAfter (K : PySem.W.Frag) : Sp := fun vs H Q _ => ∃ (a : Addr) (ns : List Int) (low m : Nat) (i j : Int) (b : Bool), vs = [.ref a, .int i, .int j, .str (sideS b)] ∧ i = (low : Int) ∧ j = ((low + (m + 1) : Nat) : Int) ∧
  SqL K H a (ns.map V.int) ∧ low + (m + 1) ≤ ns.length ∧
  ∀ p, H p = none → Q (.ref p) (upd H p (.tup [.int (coinOf ns b low m), .int (lowOf b low : Nat), .int ((lowOf b low + m : Nat) : Int)]))
/-- an end is best -/
def bestB (ns : List Int) (low m : Nat) (b : Bool) : Bool := decide (coinOf ns b low m - wv ns m (lowOf b low) = wv ns (m + 1) low)
theorem ends_filter (ns : List Int) (low m : Nat) : ends ns (m + 1) low = [true, false].filter (bestB ns low m) := by
  rw [ends_succ]
  have h1 : bestB ns low m true = decide (ns.getD low 0 - wv ns m (low + 1) = wv ns (m + 1) low) := rfl
  have h2 : bestB ns low m false = decide (ns.getD (low + m) 0 - wv ns m low = wv ns (m + 1) low) := rfl
  rw [List.filter_cons, List.filter_cons, List.filter_nil, h1, h2]
  by_cases c1 : ns.getD low 0 - wv ns m (low + 1) = wv ns (m + 1) low
  · rw [if_pos c1, decide_eq_true c1, if_pos rfl]
    by_cases c2 : ns.getD (low + m) 0 - wv ns m low = wv ns (m + 1) low
    · rw [if_pos c2, decide_eq_true c2, if_pos rfl]
      rfl
    · rw [if_neg c2, decide_eq_false c2, if_neg Bool.false_ne_true]
      rfl
  · rw [if_neg c1, decide_eq_false c1, if_neg Bool.false_ne_true]
    by_cases c2 : ns.getD (low + m) 0 - wv ns m low = wv ns (m + 1) low
    · rw [if_pos c2, decide_eq_true c2, if_pos rfl]
      rfl
    · rw [if_neg c2, decide_eq_false c2, if_neg Bool.false_ne_true]
      rfl
theorem ends_le (ns : List Int) (n low : Nat) : (ends ns n low).length ≤ 2 := by
  cases n with
  | zero => exact Nat.zero_le _
  | succ m =>
    rw [ends_filter]
    exact List.length_filter_le _ _
def spBestOf (K : PySem.W.Frag) : Sp := fun vs H Q _ => ∃ (a d : Addr) (ns : List Int) (low m : Nat) (i j : Int) (kvs : List (List Key × V)), vs = [.ref a, .int i, .int j, .ref d] ∧ i = (low : Int) ∧ j = ((low + (m + 1) : Nat) : Int) ∧
  SqL K H a (ns.map V.int) ∧ H d = some (.dT kvs) ∧ Known ns kvs ∧ ns.length ≤ 12 ∧ low + (m + 1) ≤ ns.length ∧
  ∀ H' kvs' p, SameBut d H H' → H' d = some (.dT kvs') → Known ns kvs' → H p = none → H' p = some (.lst ((ends ns (m + 1) low).map fun b => V.str (sideS b))) → Q (.ref p) H'
def spWorth (K : PySem.W.Frag) (C : Addr) : Sp := spRow K C fun ns H Q _ => ∀ H', Same H H' → Q (.int (wv ns ns.length 0)) H'
def spBest (K : PySem.W.Frag) (C : Addr) : Sp := spRow K C fun ns H Q _ => ∀ H' p, Same H H' → H p = none → H' p = some (.lst ((ends ns ns.length 0).map fun b => V.str (sideS b))) → Q (.ref p) H'
def absI (i : Int) : Int := if i < 0 then -i else i
def sureV (ns : List Int) : Int := absI ((evens ns).sum - (evens (ns.drop 1)).sum)
def spSure (K : PySem.W.Frag) (C D : Addr) : Sp := spRow K C fun ns H Q E => (ns.length % 2 = 1 → ∀ H', Same H H' → E (.ref D) none H') ∧ (ns.length % 2 = 0 → ∀ H', Same H H' → Q (.int (sureV ns)) H')
end RE
/-! the promises of the laws' own defs -/
namespace RE
open PySem PySem.Spec PyProof.Rows L2
/-- some number comes -/
def spNumber : Sp := fun vs H Q _ => ∃ c a z : Int, vs = [.int c, .int a, .int z] ∧ c.natAbs < 2 ^ 2000000 ∧ a.natAbs < 2 ^ 30 ∧ ∀ r : Int, Q (.int r) H
/-- a row comes -/
def spLRow (K : PySem.W.Frag) : Sp := fun vs H Q _ => ∃ (a : Addr) (cs : List Int) (by' most : Int), vs = [.ref a, .int by', .int most] ∧ SqL K H a (cs.map V.int) ∧ cs.length ≤ 63 ∧ (∀ z ∈ cs, z.natAbs < 2 ^ 1048576) ∧ 0 ≤ by' ∧ by' ≤ 100 ∧ 0 ≤ most ∧ most ≤ 12 ∧
  ∀ (ns : List Int) (p : Addr) (H' : Hp), RowOk ns → (ns.length : Int) ≤ most → Same H H' → H p = none → H' p = some (.lst (ns.map V.int)) → Q (.ref p) H'
/-- all worths of a row -/
structure Worths (ns : List Int) (kvs : List (List Key × V)) : Prop where
  val : ∀ low n, low + n ≤ ns.length → valV kvs (keyOf low n) = some (.int (wv ns n low))
/-- the worths of stretches shorter than i, and of those of i coins that begin ahead of j -/
def Done (ns : List Int) (kvs : List (List Key × V)) (i j : Nat) : Prop := ∀ m low, low + m ≤ ns.length → (m < i ∨ (m = i ∧ low < j)) → valV kvs (keyOf low m) = some (.int (wv ns m low))
theorem Done.nil (ns : List Int) : Done ns [] 0 0 := fun m low _ h => by omega
theorem keyEq {i j : Int} {low n : Nat} (h1 : i = (low : Int)) (h2 : j = ((low + n : Nat) : Int)) : [V.int i, V.int j] = (keyOf low n).map kV := by
  show [V.int i, V.int j] = [V.int (low : Int), V.int ((low + n : Nat) : Int)]
  rw [h1, h2]
def spWorths (K : PySem.W.Frag) : Sp := fun vs H Q _ => ∃ (a : Addr) (ns : List Int), vs = [.ref a] ∧ SqL K H a (ns.map V.int) ∧ ns.length ≤ 12 ∧
  ∀ (kvs : List (List Key × V)) (d : Addr) (H' : Hp), Worths ns kvs → Same H H' → H d = none → H' d = some (.dT kvs) → Q (.ref d) H'
def spEnds (K : PySem.W.Frag) : Sp := fun vs H Q _ => ∃ (a d : Addr) (ns : List Int) (low m : Nat) (i j : Int) (kvs : List (List Key × V)), vs = [.ref a, .int i, .int j, .ref d] ∧ i = (low : Int) ∧ j = ((low + m : Nat) : Int) ∧ SqL K H a (ns.map V.int) ∧ H d = some (.dT kvs) ∧ Worths ns kvs ∧ low + m ≤ ns.length ∧
  ∀ H' p, Same H H' → H p = none → H' p = some (.lst ((ends ns m low).map fun b => V.str (sideS b))) → Q (.ref p) H'
def spLaw (K : PySem.W.Frag) : Sp := fun vs H Q _ => ∃ (a : Addr) (ns : List Int), vs = [.ref a] ∧ SqL K H a (ns.map V.int) ∧ ns.length ≤ 63 ∧ (∀ z ∈ ns, z.natAbs < 2 ^ 1048576) ∧ ∀ H', Q (.bl true) H'
/-- a sum of few great numbers -/
theorem sum_bits : ∀ (l : List Int) (k : Nat), (∀ z ∈ l, z.natAbs < 2 ^ k) → l.sum.natAbs < 2 ^ (k + l.length)
  | [], k, _ => by
    rw [List.sum_nil]
    exact Nat.pow_pos (by decide)
  | a :: l, k, h => by
    have ih := sum_bits l k fun z hz => h z (List.mem_cons_of_mem _ hz)
    have ha := pw_mono (h a List.mem_cons_self) (Nat.le_add_right k l.length)
    rw [List.sum_cons, List.length_cons, ← Nat.add_assoc]
    exact pw_add ha ih (Nat.le_refl _)
/-- the first 63 of a list that is not longer -/
theorem cut63 {xs : List V} (h : xs.length ≤ 63) : cutV xs none (some 63) = xs := by
  unfold cutV
  rw [show HT.sIx xs.length xs.length (some 63) = min 63 xs.length from HT.sIx_nat xs.length xs.length 63, HT.sIx_none, Nat.min_eq_right h, List.drop_zero, Nat.sub_zero, List.take_length]
end RE
/-! takes, greedy hands, best plays -/
namespace RE
open PySem PySem.Spec PyProof.Rows L2
/-- the coins of a stretch -/
def stretch (ns : List Int) (low n : Nat) : List Int := (ns.drop low).take n
/-- what takes give the hand that takes next, and the other one -/
def ledR (ns : List Int) : Nat → Nat → List Bool → Int × Int
  | m + 1, low, b :: bs => (coinOf ns b low m + (ledR ns m (lowOf b low) bs).2, (ledR ns m (lowOf b low) bs).1)
  | _, _, _ => (0, 0)
theorem ledR_nil (ns : List Int) (n low : Nat) : ledR ns n low [] = (0, 0) := by cases n <;> rfl
theorem ledR_cons (ns : List Int) (m low : Nat) (b : Bool) (bs : List Bool) : ledR ns (m + 1) low (b :: bs) = (coinOf ns b low m + (ledR ns m (lowOf b low) bs).2, (ledR ns m (lowOf b low) bs).1) := rfl
/-- where the stretch begins that takes leave -/
def ledLow : Nat → List Bool → Nat
  | low, [] => low
  | low, b :: bs => ledLow (lowOf b low) bs
def sidesV (bs : List Bool) : List V := bs.map fun b => V.str (sideS b)
theorem sidesV_len (bs : List Bool) : (sidesV bs).length = bs.length := List.length_map _
theorem sidesV_ok (bs : List Bool) : (sidesV bs).all okF = true := ok_strs bs
/-- greedy takes -/
def greedyV (ns : List Int) : Nat → Nat → List Bool
  | 0, _ => []
  | m + 1, low => decide (ns.getD (low + m) 0 ≤ ns.getD low 0) :: greedyV ns m (lowOf (decide (ns.getD (low + m) 0 ≤ ns.getD low 0)) low)
theorem greedyV_succ (ns : List Int) (m low : Nat) : greedyV ns (m + 1) low = decide (ns.getD (low + m) 0 ≤ ns.getD low 0) :: greedyV ns m (lowOf (decide (ns.getD (low + m) 0 ≤ ns.getD low 0)) low) := rfl
/-- all best plays of a stretch, in order -/
def plays (ns : List Int) : Nat → Nat → List (List Bool)
  | 0, _ => [[]]
  | m + 1, low => (ends ns (m + 1) low).flatMap fun b => (plays ns m (lowOf b low)).map fun p => b :: p
theorem plays_zero (ns : List Int) (low : Nat) : plays ns 0 low = [[]] := rfl
theorem plays_succ (ns : List Int) (m low : Nat) : plays ns (m + 1) low = (ends ns (m + 1) low).flatMap fun b => (plays ns m (lowOf b low)).map fun p => b :: p := rfl
def many (ns : List Int) (n low : Nat) : Int := ((plays ns n low).length : Nat)
theorem flat_len (f : Bool → List (List Bool)) : ∀ l : List Bool, (l.flatMap f).length = (l.map fun b => (f b).length).sum
  | [] => rfl
  | a :: l => by
    rw [List.flatMap_cons, List.length_append, flat_len f l, List.map_cons, List.sum_cons]
theorem plays_le (ns : List Int) : ∀ n low, (plays ns n low).length ≤ 2 ^ n
  | 0, low => by rw [plays_zero]; exact Nat.le_refl _
  | m + 1, low => by
    rw [plays_succ, flat_len]
    have h1 : ∀ l : List Bool, (l.map fun b => ((plays ns m (lowOf b low)).map fun p => b :: p).length).sum ≤ l.length * 2 ^ m := by
      intro l
      induction l with
      | nil => simp
      | cons b l ih =>
        rw [List.map_cons, List.sum_cons, List.length_map, List.length_cons, Nat.succ_mul]
        have := plays_le ns m (lowOf b low)
        omega
    have h2 := h1 (ends ns (m + 1) low)
    have h3 := ends_le ns (m + 1) low
    have h4 : (ends ns (m + 1) low).length * 2 ^ m ≤ 2 * 2 ^ m := Nat.mul_le_mul_right _ h3
    rw [Nat.pow_succ]
    omega
theorem plays_pos (ns : List Int) : ∀ n low, 0 < (plays ns n low).length
  | 0, low => by rw [plays_zero]; exact Nat.succ_pos _
  | m + 1, low => by
    rw [plays_succ]
    cases e : ends ns (m + 1) low with
    | nil => exact absurd e (ends_ne ns m low)
    | cons b l =>
      rw [List.flatMap_cons, List.length_append, List.length_map]
      have := plays_pos ns m (lowOf b low)
      omega
theorem plays_length (ns : List Int) : ∀ n low, ∀ p ∈ plays ns n low, p.length = n
  | 0, low, p, h => by
    rw [plays_zero, List.mem_singleton] at h
    rw [h]
    rfl
  | m + 1, low, p, h => by
    rw [plays_succ] at h
    obtain ⟨b, _, h⟩ := List.mem_flatMap.mp h
    obtain ⟨q, hq, rfl⟩ := List.mem_map.mp h
    rw [List.length_cons, plays_length ns m _ q hq]
theorem ends_best {ns : List Int} {m low : Nat} {b : Bool} (h : b ∈ ends ns (m + 1) low) : coinOf ns b low m - wv ns m (lowOf b low) = wv ns (m + 1) low := by
  rw [ends_filter] at h
  exact of_decide_eq_true (List.mem_filter.mp h).2
theorem plays_worth (ns : List Int) : ∀ n low, ∀ p ∈ plays ns n low, (ledR ns n low p).1 - (ledR ns n low p).2 = wv ns n low
  | 0, low, p, h => by
    rw [plays_zero, List.mem_singleton] at h
    rw [h, ledR_nil, wv_zero]
    rfl
  | m + 1, low, p, h => by
    rw [plays_succ] at h
    obtain ⟨b, hb, h⟩ := List.mem_flatMap.mp h
    obtain ⟨q, hq, rfl⟩ := List.mem_map.mp h
    have ih := plays_worth ns m _ q hq
    have e := ends_best hb
    rw [ledR_cons]
    show coinOf ns b low m + (ledR ns m (lowOf b low) q).2 - (ledR ns m (lowOf b low) q).1 = _
    omega
theorem sum_take1 {l : List Bool} {t : Nat} {b : Bool} (f : Bool → Int) (h : l[t]? = some b) : ((l.take (t + 1)).map f).sum = ((l.take t).map f).sum + f b := by
  rw [List.take_add_one, h, List.map_append, List.sum_append]
  simp
theorem many_succ (ns : List Int) (m low : Nat) : many ns (m + 1) low = ((ends ns (m + 1) low).map fun b => many ns m (lowOf b low)).sum := by
  unfold many
  rw [plays_succ, flat_len]
  generalize ends ns (m + 1) low = l
  induction l with
  | nil => rfl
  | cons b l ih =>
    rw [List.map_cons, List.sum_cons, List.map_cons, List.sum_cons, List.length_map, ← ih]
    omega
/-! ### stretches as lists -/
theorem stretch_len {ns : List Int} {low n : Nat} (h : low + n ≤ ns.length) : (stretch ns low n).length = n := by
  unfold stretch
  rw [List.length_take, List.length_drop]
  omega
theorem stretch_get {ns : List Int} {low n i : Nat} (h : i < n) : (stretch ns low n)[i]? = ns[low + i]? := by
  unfold stretch
  rw [List.getElem?_take, if_pos h, List.getElem?_drop]
theorem stretch_first {ns : List Int} {low m : Nat} (h : low + (m + 1) ≤ ns.length) : stretch ns low (m + 1) = ns.getD low 0 :: stretch ns (low + 1) m := by
  unfold stretch
  have hl : low < ns.length := by omega
  rw [List.drop_eq_getElem_cons hl, List.take_succ_cons, List.getD_eq_getElem?_getD, List.getElem?_eq_getElem hl]
  rfl
theorem stretch_last {ns : List Int} {low m : Nat} (h : low + (m + 1) ≤ ns.length) : stretch ns low (m + 1) = stretch ns low m ++ [ns.getD (low + m) 0] := by
  unfold stretch
  have hl : low + m < ns.length := by omega
  rw [List.take_add_one, List.getElem?_drop, List.getElem?_eq_getElem hl, List.getD_eq_getElem?_getD, List.getElem?_eq_getElem hl]
  rfl
theorem stretch_all (ns : List Int) : stretch ns 0 ns.length = ns := by
  unfold stretch
  rw [List.drop_zero, List.take_length]
theorem stretch_zero (ns : List Int) (low : Nat) : stretch ns low 0 = [] := by
  unfold stretch
  rw [List.take_zero]
theorem stretch_cut {ns : List Int} {low n : Nat} (h : low + n ≤ ns.length) {i j : Int} (ei : i = (low : Int)) (ej : j = ((low + n : Nat) : Int)) : cutV (ns.map V.int) (some i) (some j) = (stretch ns low n).map V.int := by
  subst ei ej
  unfold cutV stretch
  rw [show HT.sIx (ns.map V.int).length 0 (some ((low : Nat) : Int)) = min low (ns.map V.int).length from HT.sIx_nat _ 0 low, show HT.sIx (ns.map V.int).length (ns.map V.int).length (some ((low + n : Nat) : Int)) = min (low + n) (ns.map V.int).length from HT.sIx_nat _ _ (low + n), List.length_map, Nat.min_eq_left h, Nat.min_eq_left (show low ≤ ns.length by omega), ← List.map_drop, ← List.map_take]
  congr 2
  omega
end RE
/-! promises about takes and plays -/
namespace RE
open PySem PySem.Spec PyProof.Rows L2
def isSideB : V → Bool
  | .str s => decide (s = "left") || decide (s = "right")
  | _ => false
theorem isSide_side (b : Bool) : isSideB (.str (sideS b)) = true := by cases b <;> decide +kernel
def spSide (K : PySem.W.Frag) : Sp := fun vs H Q _ => ∃ x T, vs = [x] ∧ PV K H x T ∧ ∀ H', Same H H' → Q (.bl (isSideB x)) H'
def NoTakes (K : PySem.W.Frag) (H : Hp) (x : V) (n : Nat) : Prop := (∃ T, PV K H x T ∧ (T == "list") = false) ∨
  ∃ a xs, x = .ref a ∧ SqL K H a xs ∧ (n < xs.length ∨ (xs.length ≤ n ∧ (∀ y ∈ xs, ∃ T, PV K H y T) ∧ xs.all isSideB = false))
theorem all_sides (bs : List Bool) : (sidesV bs).all isSideB = true := by
  unfold sidesV
  rw [List.all_map]
  exact List.all_eq_true.mpr fun b _ => isSide_side b
def spLed (K : PySem.W.Frag) (C D : Addr) : Sp := fun vs H Q E => ∃ x t, vs = [x, t] ∧ ((NoRow K H x ∧ ∀ H', Same H H' → E (.ref C) none H') ∨ ∃ ns, IsRow K H x ns ∧
  ((NoTakes K H t ns.length ∧ ∀ H', Same H H' → E (.ref D) none H') ∨ ∃ a bs, t = .ref a ∧ SqL K H a (sidesV bs) ∧ bs.length ≤ ns.length ∧
    ∀ H' p l, Same H H' → H p = none → H l = none → H' p = some (.tup [.int (ledR ns ns.length 0 bs).1, .int (ledR ns ns.length 0 bs).2, .ref l]) → H' l = some (.lst ((stretch ns (ledLow 0 bs) (ns.length - bs.length)).map V.int)) → Q (.ref p) H'))
def spGreedy (K : PySem.W.Frag) (C : Addr) : Sp := spRow K C fun ns H Q _ => ∀ H' p, Same H H' → H p = none → H' p = some (.lst (sidesV (greedyV ns ns.length 0))) → Q (.ref p) H'
def spPlaysOf (K : PySem.W.Frag) (n : Nat) : Sp := fun vs H Q _ => ∃ (a d : Addr) (ns : List Int) (low m : Nat) (i j : Int) (kvs : List (List Key × V)), vs = [.ref a, .int i, .int j, .ref d] ∧ i = (low : Int) ∧ j = ((low + m : Nat) : Int) ∧
  SqL K H a (ns.map V.int) ∧ H d = some (.dT kvs) ∧ Known ns kvs ∧ ns.length ≤ 12 ∧ low + m ≤ ns.length ∧ m < n ∧
  ∀ H' kvs', SameBut d H H' → H' d = some (.dT kvs') → Known ns kvs' → Q (.int (many ns m low)) H'
def spHowMany (K : PySem.W.Frag) (C : Addr) : Sp := spRow K C fun ns H Q _ => ∀ H', Same H H' → Q (.int (many ns ns.length 0)) H'
/-- what is no number of a best play -/
def NoNum (K : PySem.W.Frag) (H : Hp) (x : V) (n : Int) : Prop := (∃ T, PV K H x T ∧ (T == "int") = false) ∨ ∃ k, x = .int k ∧ ¬ (0 ≤ k ∧ k < n)
def spPlayBy (K : PySem.W.Frag) (C D : Addr) : Sp := fun vs H Q E => ∃ x t, vs = [x, t] ∧ ((NoRow K H x ∧ ∀ H', Same H H' → E (.ref C) none H') ∨ ∃ ns, IsRow K H x ns ∧
  ((NoNum K H t (many ns ns.length 0) ∧ ∀ H', Same H H' → E (.ref D) none H') ∨ ∃ (k : Nat) (pl : List Bool), t = .int (k : Int) ∧ (plays ns ns.length 0)[k]? = some pl ∧
    ∀ H' p, Same H H' → H p = none → H' p = some (.lst (sidesV pl)) → Q (.ref p) H'))
/-- enumerate over a list that stays -/
theorem for_enum {K : PySem.W.Frag} {a : Addr} {xs : List V} {g : TG} {tb : TS} {D : Ends} {σ : L2.St} {H : Hp} (Pv : Nat → L2.St → Hp → Prop) (h0 : Pv 0 σ H) (hq : ∀ i σ H, Pv i σ H → SqL K H a xs)
    (hs : ∀ (i : Nat) (x : V) (T : Addr) (σ : L2.St) (H : Hp), xs[i]? = some x → Pv i σ H → H T = none → g (.ref T) σ (upd H T (.tup [.int (i : Nat), x])) fun σ2 H2 => tb { D with nx := Pv (i + 1), ct := Pv (i + 1), bk := D.nx } σ2 H2) (hd : ∀ σ H, Pv xs.length σ H → D.nx σ H) :
    ∃ W : Nat → Nat → L2.St → Hp → Prop, (∃ m, W 0 m σ H) ∧ ∀ i m σ H, W i m σ H →
      ((Ite K a).stop i H ∧ D.nx σ H) ∨ ((Ite K a).go i H ∧ ∃ N : L2.St → Hp → Prop, (∀ σ' H', N σ' H' → ∃ m', m' < m ∧ W (i + 1) m' σ' H') ∧ ∀ v H', (Ite K a).yld i H v H' → g v σ H' fun σ2 H2 => tb { D with nx := N, ct := N, bk := D.nx } σ2 H2) := by
  refine ⟨fun i m σ H => m = xs.length - i ∧ i ≤ xs.length ∧ Pv i σ H, ⟨xs.length, rfl, Nat.zero_le _, h0⟩, ?_⟩
  rintro i m σ H ⟨rfl, hi, p⟩
  have qx := hq i σ H p
  by_cases hlt : i < xs.length
  · have hx : xs[i]? = some xs[i] := List.getElem?_eq_getElem hlt
    refine .inr ⟨⟨xs, _, qx, hx⟩, Pv (i + 1), fun σ' H' p' => ⟨xs.length - (i + 1), by omega, rfl, hlt, p'⟩, fun v H' y => ?_⟩
    obtain ⟨T, x', rfl, hT, rfl, f1⟩ := y
    exact hs i x' T σ H (f1 xs qx) p hT
  · have e : i = xs.length := by omega
    subst e
    exact .inl ⟨⟨xs, qx, Nat.le_refl _⟩, hd σ H p⟩
end RE
/-! lists of takes; promises of the law's own defs about plays -/
namespace RE
open PySem PySem.Spec PyProof.Rows L2
/-- a list of lists of ends -/
inductive Lsts (H : Hp) : List V → List (List Bool) → Prop
  | nil : Lsts H [] []
  | cons {q : Addr} {pl : List Bool} {xs : List V} {pls : List (List Bool)} (h : H q = some (.lst (sidesV pl))) (t : Lsts H xs pls) : Lsts H (.ref q :: xs) (pl :: pls)
theorem Lsts.mono {H H' : Hp} (s : Same H H') : ∀ {xs : List V} {pls : List (List Bool)}, Lsts H xs pls → Lsts H' xs pls
  | _, _, .nil => .nil
  | _, _, .cons h t => .cons (s _ _ h) (t.mono s)
theorem Lsts.app {H : Hp} {ys : List V} {qls : List (List Bool)} (b : Lsts H ys qls) : ∀ {xs : List V} {pls : List (List Bool)}, Lsts H xs pls → Lsts H (xs ++ ys) (pls ++ qls)
  | _, _, .nil => b
  | _, _, .cons h t => .cons h (b.app t)
theorem Lsts.len {H : Hp} : ∀ {xs : List V} {pls : List (List Bool)}, Lsts H xs pls → xs.length = pls.length
  | _, _, .nil => rfl
  | _, _, .cons _ t => by rw [List.length_cons, List.length_cons, t.len]
theorem Lsts.get {H : Hp} : ∀ {xs : List V} {pls : List (List Bool)} {i : Nat} {pl : List Bool}, Lsts H xs pls → pls[i]? = some pl → ∃ q, xs[i]? = some (.ref q) ∧ H q = some (.lst (sidesV pl))
  | _, _, i, pl, .nil, e => by simp at e
  | _, _, 0, pl, .cons h t, e => by
    have e' := Option.some.inj e
    subst e'
    exact ⟨_, rfl, h⟩
  | _, _, i + 1, pl, .cons h t, e => by
    obtain ⟨q, h1, h2⟩ := t.get (i := i) (pl := pl) (by simpa using e)
    exact ⟨q, by simpa using h1, h2⟩
theorem Lsts.getX {H : Hp} : ∀ {xs : List V} {pls : List (List Bool)} {i : Nat} {x : V}, Lsts H xs pls → xs[i]? = some x → ∃ q pl, x = .ref q ∧ pls[i]? = some pl ∧ H q = some (.lst (sidesV pl))
  | _, _, i, x, .nil, e => by simp at e
  | _, _, 0, x, .cons h t, e => by
    have e' := Option.some.inj e
    subst e'
    exact ⟨_, _, rfl, rfl, h⟩
  | _, _, i + 1, x, .cons h t, e => by
    obtain ⟨q, pl, h1, h2, h3⟩ := t.getX (i := i) (x := x) (by simpa using e)
    exact ⟨q, pl, h1, by simpa using h2, h3⟩
/-- all but the object at D -/
def hide (D : Addr) (H : Hp) : Hp := fun a => if a = D then none else H a
theorem hide_ne {D a : Addr} {H : Hp} (h : a ≠ D) : hide D H a = H a := if_neg h
theorem hide_of (D : Addr) (H : Hp) : Same (hide D H) H := fun b o e => by
  by_cases c : b = D
  · rw [c, show hide D H D = none from if_pos rfl] at e
    cases e
  · rw [hide_ne c] at e
    exact e
theorem hide_same {D : Addr} {H H' : Hp} (s : SameBut D H H') : Same (hide D H) (hide D H') := fun b o e => by
  by_cases c : b = D
  · rw [c, show hide D H D = none from if_pos rfl] at e
    cases e
  · rw [hide_ne c] at e ⊢
    exact s b o c e
def spLPlays (K : PySem.W.Frag) (n : Nat) : Sp := fun vs H Q _ => ∃ (a d : Addr) (ns : List Int) (low m : Nat) (i j : Int) (kvs : List (List Key × V)), vs = [.ref a, .int i, .int j, .ref d] ∧ i = (low : Int) ∧ j = ((low + m : Nat) : Int) ∧
  SqL K H a (ns.map V.int) ∧ H d = some (.dT kvs) ∧ Worths ns kvs ∧ ns.length ≤ 12 ∧ low + m ≤ ns.length ∧ m < n ∧
  ∀ H' p xs, Same H H' → H p = none → H' p = some (.lst xs) → Lsts H' xs (plays ns m low) → Q (.ref p) H'
def spLLed (K : PySem.W.Frag) : Sp := fun vs H Q _ => ∃ (r a : Addr) (ns : List Int) (bs : List Bool), vs = [.ref r, .ref a] ∧ SqL K H r (ns.map V.int) ∧ SqL K H a (sidesV bs) ∧ bs.length ≤ ns.length ∧
  ∀ H' p l, Same H H' → H p = none → H l = none → H' p = some (.tup [.int (ledR ns ns.length 0 bs).1, .int (ledR ns ns.length 0 bs).2, .ref l]) → H' l = some (.lst ((stretch ns (ledLow 0 bs) (ns.length - bs.length)).map V.int)) → Q (.ref p) H'
def spLGreedy (K : PySem.W.Frag) : Sp := fun vs H Q _ => ∃ (r : Addr) (ns : List Int), vs = [.ref r] ∧ SqL K H r (ns.map V.int) ∧ ns.length ≤ 12 ∧
  ∀ H' p, Same H H' → H p = none → H' p = some (.lst (sidesV (greedyV ns ns.length 0))) → Q (.ref p) H'
theorem pop_first {ns : List Int} {low m : Nat} (h : low + (m + 1) ≤ ns.length) : ((stretch ns low (m + 1)).map V.int).eraseIdx 0 = (stretch ns (low + 1) m).map V.int ∧ ((stretch ns low (m + 1)).map V.int)[0]? = some (.int (ns.getD low 0)) := by
  rw [stretch_first h]
  exact ⟨rfl, rfl⟩
theorem pop_last {ns : List Int} {low m : Nat} (h : low + (m + 1) ≤ ns.length) : ((stretch ns low (m + 1)).map V.int).eraseIdx m = (stretch ns low m).map V.int ∧ ((stretch ns low (m + 1)).map V.int)[m]? = some (.int (ns.getD (low + m) 0)) := by
  have hl : (stretch ns low m).length = m := stretch_len (by omega)
  rw [stretch_last h, List.map_append]
  constructor
  · rw [List.eraseIdx_append_of_length_le (by rw [List.length_map]; omega), List.length_map, hl, Nat.sub_self]
    simp
  · rw [List.getElem?_append_right (by rw [List.length_map]; omega), List.length_map, hl, Nat.sub_self]
    rfl
theorem cut_tail (x : V) (xs : List V) : cutV (x :: xs) (some 1) none = xs := by
  unfold cutV
  rw [show HT.sIx (x :: xs).length 0 (some 1) = min 1 (x :: xs).length from HT.sIx_nat _ 0 1, HT.sIx_none, List.length_cons, Nat.min_eq_left (by omega)]
  simp
theorem cut_init (xs : List V) (x : V) : cutV (xs ++ [x]) none (some (-1)) = xs := by
  have e : HT.sIx (xs ++ [x]).length (xs ++ [x]).length (some (-1)) = xs.length := by
    unfold HT.sIx
    simp
    try omega
  unfold cutV
  rw [e, HT.sIx_none]
  simp
/-- the walk over a range with a step -/
theorem rgc_of {j c : Int} (h0 : 0 ≤ j) (h1 : j < 1000000) (c0 : 1 ≤ c) (c1 : c < 1000000) : ∃ n : Nat, RgC 0 j c n ∧ ∀ i : Nat, i < n → 0 ≤ (i : Int) * c ∧ (i : Int) * c < j := by
  have e : Builtin.Range.rangeSize 0 j c = (j + c - 1) / c := rangeSize_pos c0 h0
  have q0 : 0 ≤ (j + c - 1) / c := Int.ediv_nonneg (by omega) (by omega)
  have q1 : (j + c - 1) / c ≤ j + c - 1 := Int.ediv_le_self _ (by omega)
  refine ⟨((j + c - 1) / c).toNat, ⟨by omega, by omega, ?_, ?_⟩, fun i hi => ?_⟩
  · unfold Builtin.Range.small
    rw [e]
    generalize (j + c - 1) / c = q at q0 q1
    rw [if_pos (show c > 0 by omega)]
    simp only [Builtin.Range.rangeFitsLong, Bool.and_eq_true, Bool.or_eq_true, decide_eq_true_eq, beq_iff_eq]
    omega
  · rw [e, Int.toNat_of_nonneg q0]
  · exact start_inside c0 h0 (by omega) (by rw [e]; omega)
end RE
/-! heaps as letters: for printed readings -/
namespace RE
open PySem PySem.Spec PyProof.Rows L2
/-- a new object: the heap behind it is a letter -/
@[elab_as_elim] theorem gen_heap {H : Hp} {p : Addr} {o : HO} {G : Hp → Prop} (np : H p = none) (h : ∀ H', Same H H' → H' p = some o → G H') : G (upd H p o) := h _ (same_new np o) upd_same
/-- an object that is changed -/
@[elab_as_elim] theorem gen_put {H : Hp} {p : Addr} {o u : HO} {G : Hp → Prop} (hp : H p = some u) (h : ∀ H', SameBut p H H' → H' p = some o → G H') : G (upd H p o) := h _ (SameBut.put o) upd_same
theorem seqT_same {K : PySem.W.Frag} {H H' : Hp} {a : Addr} {xs : List V} (e : Same H H') (h : SqT K H a xs) : SqT K H' a xs := by
  rcases h with h | h
  · rcases h with h | ⟨o, h⟩
    · exact .inl (.inl (e _ _ h))
    · exact .inl (.inr ⟨o, e _ _ h⟩)
  · exact .inr h
theorem eqv_eq {d e : PyData} (h : SeqAt.shaped d = true) (q : d = e) : PyData.eqv d e = true := by
  subst q
  exact eqv_same h
/-- a op1 b op2 c op3 d -/
def tChain3 (r r' r'' : R2) (ta tb tc td : TE) : TE := fun σ H Q => ta σ H fun x H1 => tb σ H1 fun y H2 => r x y H2 fun z H3 => ∃ k, z = .bl k ∧
  (if k = true then tc σ H3 fun u H4 => r' y u H4 fun z' H5 => ∃ k', z' = .bl k' ∧ (if k' = true then td σ H5 fun u' H6 => r'' u u' H6 Q else Q (.bl false) H5) else Q (.bl false) H3)
section
variable {X : Cx} {a b c d : Expr} {ta tb tc td : TE} {pos : Pos}
theorem pt_chain3 {op op' op'' : CmpOp} {r r' r'' : R2} (ho : OpR X (compareOp op) r) (ho' : OpR X (compareOp op') r') (ho'' : OpR X (compareOp op'') r'') (ha : PE X a ta) (hb : PE X b tb) (hc : PE X c tc) (hd : PE X d td)
    (hm : lastMarks [op, op', op''] [b, c, d] = false := by with_unfolding_all rfl) : PT X (.Compare a [op, op', op''] [b, c, d] pos) (tTest (tChain3 r r' r'' ta tb tc td)) := by
  refine ⟨fun pins s σ H Q I h => ?_⟩
  refine isTrue_chain (thn (ha.run pins s σ H _ I h) fun v s1 ⟨x, H1, I1, r1, q1⟩ => test_link (thn (hb.run pins s1 σ H1 _ I1 q1) fun u s2 ⟨y, H2, I2, r2, q2⟩ =>
    thn (ho pins s2 σ H2 x y v u _ I2 r1 r2 q2) fun d s3 ⟨z, H3, I3, r3, k, e, q3⟩ => ?_)) hm
  subst e
  cases r3
  refine wpAny_truthy_bool ?_
  cases k with
  | false =>
    obtain ⟨k', e', q'⟩ := q3
    cases e'
    exact ite_ff ⟨H3, I3, q'⟩
  | true =>
    refine ite_tt (test_link (thn (hc.run pins s3 σ H3 _ I3 q3) fun w' s4 ⟨z', H4, I4, r4, q4⟩ => thn (ho' pins s4 σ H4 y z' u w' _ I4 r2 r4 q4) fun d' s5 ⟨z2, H5, I5, r5, k2, e2, q5⟩ => ?_))
    subst e2
    cases r5
    refine wpAny_truthy_bool ?_
    cases k2 with
    | false =>
      obtain ⟨k', e', q'⟩ := q5
      cases e'
      exact ite_ff ⟨H5, I5, q'⟩
    | true =>
      refine ite_tt (test_last (thn (hd.run pins s5 σ H5 _ I5 q5) fun w2 s6 ⟨z3, H6, I6, r6, q6⟩ => thn (ho'' pins s6 σ H6 z' z3 w' w2 _ I6 r4 r6 q6) fun d2 s7 ⟨z4, H7, I7, r7, k3, e3, q7⟩ => ?_))
      subst e3
      cases r7
      exact wpAny_truthy_bool ⟨H7, I7, q7⟩
end
theorem lex2 (a b c d : Int) : Ob.lexAt (fun j => decide (([a, b] : List Int).getD j 0 = ([c, d] : List Int).getD j 0)) (fun j => decide (([a, b] : List Int).getD j 0 ≤ ([c, d] : List Int).getD j 0)) (decide (([a, b] : List Int).length ≤ ([c, d] : List Int).length)) 0 (min ([a, b] : List Int).length ([c, d] : List Int).length) = (if a = c then decide (b ≤ d) else decide (a ≤ c)) := by
  show (if decide (a = c) = true then (if decide (b = d) = true then true else decide (b ≤ d)) else decide (a ≤ c)) = _
  by_cases h : a = c
  · rw [if_pos h, if_pos (decide_eq_true h)]
    by_cases h2 : b = d
    · rw [if_pos (decide_eq_true h2)]
      exact (decide_eq_true (by omega)).symm
    · rw [if_neg (by simpa using h2)]
  · rw [if_neg h, if_neg (by simpa using h)]
/-- what isinstance asks of an own class -/
structure OwnTy (K : PySem.W.Frag) (C : Addr) : Prop where
  ha : PySem.W.findIn K (.ref C) "__class__" = some (some (.builtin "object.__class__"))
  hn : PySem.W.specialIn K (.builtin "object.__class__") "__get__" = some (some (.builtin "getset_descriptor.__get__"))
  htk : PySem.W.takesIn K (.builtin "object.__class__") = some true
  hm : PySem.W.mroIn K C (.type "object") = some true
theorem ty_ins {K : PySem.W.Frag} {H : Hp} {a C dx : Addr} {fs : List (Str × V)} (e : H a = some (.ins C dx fs)) (cl : Cls K C) (o : OwnTy K C) : TyX K H (.ref a) (.ref C) := .base (.ins e cl o.ha o.hn o.htk o.hm)
/-- a new instance -/
theorem same_make {H : Hp} {x dx C : Addr} (nx : H x = none) (nd : H dx = none) : Same H (upd (upd H dx (.own x)) x (.ins C dx [])) := fun b o e => by
  rw [upd_ne (ne_of_none e nx), upd_ne (ne_of_none e nd)]
  exact e
/-- o.m(e, ..), o of one of two classes -/
def tMeth2 (C C' : Addr) (m : Str) (sp sp' : Sp) (E : XK) (ta : TE) (t : TA) : TE := fun σ H Q => ta σ H fun x H1 => ∃ a dx fs, x = .ref a ∧ fs.lookup m = none ∧
  ((H1 a = some (.ins C dx fs) ∧ t σ H1 fun vs H2 => sp (x :: (vs ++ [])) H2 Q E) ∨ (H1 a = some (.ins C' dx fs) ∧ t σ H1 fun vs H2 => sp' (x :: (vs ++ [])) H2 Q E))
section
variable {X : Cx} {o e : Expr} {es : List Expr} {ta : TE} {t : TA} {pos apos : Pos} {m : Str} {C C' f f' : Addr} {fd fd' : FuncData} {ps : List Str} {sp sp' : Sp} {k : Nat} {CX : L2.CXT} {E : XK}
theorem pe_meth2 {pl : Sem Bool} (he : PE X o ta) (c : Cls X.K C) (hm : Meth X.K C m f) (F : FnOk X.prog X.w X.K X.mg X.base CX k f fd ps sp) (hb : Binds X.K fd ps []) (c' : Cls X.K C') (hm' : Meth X.K C' m f') (F' : FnOk X.prog X.w X.K X.mg X.base CX k f' fd' ps sp') (hb' : Binds X.K fd' ps [])
    (hr : Room k X.A) (hx : Passes CX X E) (ha : PA X (e :: es) t)
    (hst : starEach (e :: es) X.env = (false, eval e X.env) :: starEach es X.env := by rfl) (hpl : (backTo pos (starEach es X.env)).any (·.1) = false := by rfl)
    (ht : eval (.Call (.Attribute o m apos) (e :: es) [] pos) X.env = (do
      let ov ← eval o X.env
      standAt apos.atName
      let (f, first) ← holding [ov] (getMethod ov m pl)
      callWith pos f first (backTo pos (starEach (e :: es) X.env)) (backToKw pos (keywordEach [] X.env))) := by rfl) :
    PE X (.Call (.Attribute o m apos) (e :: es) [] pos) (tMeth2 C C' m sp sp' E ta t) := by
  refine ⟨fun pins s σ H Q I h => ?_⟩
  refine PySem.W.methodCall_KW (pl := pl) (thn (he.run pins s σ H _ I h) fun u s1 ⟨x, H1, I1, rx, a, dx, fs, ex, l, q⟩ => ?_) ht
  subst ex
  obtain rfl : u = Value.ref a := rx
  rcases q with ⟨ea, q⟩ | ⟨ea, q⟩
  · refine getmeth_ok I1 ea c hm l ?_
    refine PySem.W.callWith_K (first := [.ref a]) (h₀ := X.base) I.ok.mod.kin hm.kp (thn (ha.run pos pins s1 σ H1 _ I1 q) fun us s2 ⟨vs, H2, I2, r, q2⟩ => ⟨I2.kIn, ?_⟩) hst hpl
    exact run_fn (us := .ref a :: us) (vs := .ref a :: vs) (dvs := []) F hr hb .nil hx I2 (.cons rfl r) q2
  · refine getmeth_ok I1 ea c' hm' l ?_
    refine PySem.W.callWith_K (first := [.ref a]) (h₀ := X.base) I.ok.mod.kin hm'.kp (thn (ha.run pos pins s1 σ H1 _ I1 q) fun us s2 ⟨vs, H2, I2, r, q2⟩ => ⟨I2.kIn, ?_⟩) hst hpl
    exact run_fn (us := .ref a :: us) (vs := .ref a :: vs) (dvs := []) F' hr hb' .nil hx I2 (.cons rfl r) q2
end
theorem not_t {b : Bool} (h : b = true) : (!b) = false := by rw [h]; rfl
theorem not_f {b : Bool} (h : b = false) : (!b) = true := by rw [h]; rfl
theorem isb {a b c d : Bool} (h : a = c) (h2 : decide (c = b) = d) : decide (a = b) = d := by rw [h]; exact h2
end RE
/-! plans: plain -/
namespace RE
open PySem PySem.Spec PyProof.Rows L2
/-- a line of a plan: where the stretch begins, where it ends, which end -/
abbrev Tri := Int × Int × Str
def triV (t : Tri) : List V := [.int t.1, .int t.2.1, .str t.2.2]
def sideOk (s : Str) : Bool := decide (s = "left") || decide (s = "right")
def triOk (n : Nat) (t : Tri) : Bool := decide (0 ≤ t.1) && (decide (t.1 < t.2.1) && (decide (t.2.1 ≤ (n : Int)) && sideOk t.2.2))
/-- not behind, by both numbers -/
def notAfter (a b : Int × Int) : Bool := if a.1 = b.1 then decide (a.2 ≤ b.2) else decide (a.1 ≤ b.1)
def lastBad (t : Tri) : Option (Int × Int) → Bool
  | none => false
  | some l => notAfter (t.1, t.2.1) l
def tabOk (n : Nat) : Option (Int × Int) → List Tri → Bool
  | _, [] => true
  | last, t :: r => triOk n t && (!lastBad t last && tabOk n (some (t.1, t.2.1)) r)
theorem tabOk_nil (n : Nat) (l : Option (Int × Int)) : tabOk n l [] = true := rfl
theorem tabOk_cons (n : Nat) (l : Option (Int × Int)) (t : Tri) (r : List Tri) : tabOk n l (t :: r) = (triOk n t && (!lastBad t l && tabOk n (some (t.1, t.2.1)) r)) := rfl
/-- the end that a plan tells for a stretch -/
def look (p : List Tri) (a b : Int) : Option Str := (p.reverse.find? fun t => decide (t.1 = a) && decide (t.2.1 = b)).map (·.2.2)
theorem look_nil (a b : Int) : look [] a b = none := rfl
theorem look_app (p : List Tri) (t : Tri) (a b : Int) : look (p ++ [t]) a b = if t.1 = a ∧ t.2.1 = b then some t.2.2 else look p a b := by
  unfold look
  rw [List.reverse_append, List.reverse_singleton, List.singleton_append, List.find?_cons]
  by_cases h : t.1 = a ∧ t.2.1 = b
  · rw [if_pos h, decide_eq_true h.1, decide_eq_true h.2]
    rfl
  · rw [if_neg h]
    have e : (decide (t.1 = a) && decide (t.2.1 = b)) = false := by
      by_cases c1 : t.1 = a
      · rw [decide_eq_false (fun c2 => h ⟨c1, c2⟩), Bool.and_false]
      · rw [decide_eq_false c1, Bool.false_and]
    rw [e]
theorem look_mem {p : List Tri} {a b : Int} {s : Str} (h : look p a b = some s) : (a, b, s) ∈ p := by
  unfold look at h
  obtain ⟨t, ht, rfl⟩ := Option.map_eq_some_iff.mp h
  have h1 := List.find?_some ht
  have h2 := List.mem_reverse.mp (List.mem_of_find?_eq_some ht)
  have h3 := Bool.and_eq_true_iff.mp h1
  have e1 : t.1 = a := of_decide_eq_true h3.1
  have e2 : t.2.1 = b := of_decide_eq_true h3.2
  subst e1 e2
  exact h2
theorem look_of {p : List Tri} {a b : Int} {s : Str} (h : (a, b, s) ∈ p) (u : ∀ s', (a, b, s') ∈ p → s' = s) : look p a b = some s := by
  cases e : look p a b with
  | some s' => rw [u s' (look_mem e)]
  | none =>
    unfold look at e
    have e' := Option.map_eq_none_iff.mp e
    have q := List.find?_eq_none.mp e' (a, b, s) (List.mem_reverse.mpr h)
    simp at q
def sideB (s : Str) : Bool := decide (s = "left")
theorem side_of {s : Str} (h : sideOk s = true) : s = sideS (sideB s) := by
  unfold sideOk at h
  unfold sideB
  by_cases c : s = "left"
  · rw [decide_eq_true c]
    exact c
  · rw [decide_eq_false c] at h ⊢
    exact of_decide_eq_true h
theorem sideB_sideS (b : Bool) : sideB (sideS b) = b := by cases b <;> decide +kernel
theorem sideOk_sideS (b : Bool) : sideOk (sideS b) = true := by cases b <;> decide +kernel
theorem tabOk_all {n : Nat} : ∀ {p : List Tri} {l : Option (Int × Int)}, tabOk n l p = true → ∀ t ∈ p, triOk n t = true
  | [], _, _, t, h => (nomatch h)
  | u :: r, l, h, t, ht => by
    rw [tabOk_cons] at h
    have h1 := Bool.and_eq_true_iff.mp h
    rcases List.mem_cons.mp ht with rfl | ht
    · exact h1.1
    · exact tabOk_all (Bool.and_eq_true_iff.mp h1.2).2 t ht
theorem triOk_side {n : Nat} {t : Tri} (h : triOk n t = true) : sideOk t.2.2 = true := (Bool.and_eq_true_iff.mp (Bool.and_eq_true_iff.mp (Bool.and_eq_true_iff.mp h).2).2).2
/-- the table as ends -/
def tabF (p : List Tri) (low behind : Nat) : Option Bool := (look p (low : Int) (behind : Int)).map sideB
/-- how much more the planner gets from a stretch at the least -/
def gotV (ns : List Int) (f : Nat → Nat → Option Bool) : Nat → Nat → Bool → Option Int
  | 0, _, _ => some 0
  | m + 1, low, true => (f low (low + (m + 1))).bind fun b => (gotV ns f m (lowOf b low) false).bind fun r => some (r + coinOf ns b low m)
  | m + 1, low, false => (gotV ns f m (low + 1) true).bind fun r1 => (gotV ns f m low true).bind fun r2 =>
      some (if r2 + -coinOf ns false low m < r1 + -coinOf ns true low m then r2 + -coinOf ns false low m else r1 + -coinOf ns true low m)
theorem gotV_zero (ns : List Int) (f : Nat → Nat → Option Bool) (low : Nat) (b : Bool) : gotV ns f 0 low b = some 0 := rfl
theorem gotV_mine (ns : List Int) (f : Nat → Nat → Option Bool) (m low : Nat) : gotV ns f (m + 1) low true = (f low (low + (m + 1))).bind fun b => (gotV ns f m (lowOf b low) false).bind fun r => some (r + coinOf ns b low m) := rfl
theorem gotV_his (ns : List Int) (f : Nat → Nat → Option Bool) (m low : Nat) : gotV ns f (m + 1) low false = (gotV ns f m (low + 1) true).bind fun r1 => (gotV ns f m low true).bind fun r2 =>
      some (if r2 + -coinOf ns false low m < r1 + -coinOf ns true low m then r2 + -coinOf ns false low m else r1 + -coinOf ns true low m) := rfl
def optV : Option Int → V
  | none => .non
  | some i => .int i
def plannedV (ns : List Int) (p : List Tri) (mine : Bool) : Option Int := if tabOk ns.length none p = true then gotV ns (tabF p) ns.length 0 mine else none
def showsV (ns : List Int) (p : List Tri) (first : Bool) (least : Int) : Bool :=
  match plannedV ns p first with
  | none => false
  | some v => if first then decide (least ≤ v) else decide (-v < least)
/-! ### plans that are told -/
def bestEnd (ns : List Int) (low m : Nat) : Bool := (ends ns (m + 1) low).headD true
theorem bestEnd_mem (ns : List Int) (low m : Nat) : bestEnd ns low m ∈ ends ns (m + 1) low := by
  unfold bestEnd
  cases e : ends ns (m + 1) low with
  | nil => exact absurd e (ends_ne ns m low)
  | cons b l => exact List.mem_cons_self
theorem bestEnd_at (ns : List Int) (low m : Nat) : (sidesV (ends ns (m + 1) low))[0]? = some (.str (sideS (bestEnd ns low m))) := by
  unfold bestEnd
  cases e : ends ns (m + 1) low with
  | nil => exact absurd e (ends_ne ns m low)
  | cons b l => rfl
def parOf (first : Bool) : Nat := if first then 0 else 1
/-- whether a line stands for the stretch of k + 1 coins from low on -/
def lineB (n : Nat) (first : Bool) (k : Nat) : Bool := decide ((n - (k + 1)) % 2 = parOf first)
def lineV (ns : List Int) (low k : Nat) : Tri := ((low : Int), ((low + (k + 1) : Nat) : Int), sideS (bestEnd ns low k))
def chunk (ns : List Int) (first : Bool) (low : Nat) (j : Nat) : List Tri := ((List.range j).filter (lineB ns.length first)).map (lineV ns low)
def planTo (ns : List Int) (first : Bool) (i : Nat) : List Tri := (List.range i).flatMap fun low => chunk ns first low (ns.length - low)
def planV (ns : List Int) (first : Bool) : List Tri := planTo ns first ns.length
theorem planTo_succ (ns : List Int) (first : Bool) (i : Nat) : planTo ns first (i + 1) = planTo ns first i ++ chunk ns first i (ns.length - i) := by
  unfold planTo
  rw [List.range_succ, List.flatMap_append]
  simp
theorem chunk_succ (ns : List Int) (first : Bool) (low j : Nat) : chunk ns first low (j + 1) = chunk ns first low j ++ (if lineB ns.length first j = true then [lineV ns low j] else []) := by
  unfold chunk
  rw [List.range_succ, List.filter_append, List.map_append]
  congr 1
  by_cases c : lineB ns.length first j = true
  · rw [if_pos c]
    simp [c]
  · rw [if_neg c]
    simp [c]
theorem chunk_zero (ns : List Int) (first : Bool) (low : Nat) : chunk ns first low 0 = [] := rfl
theorem mem_planV {ns : List Int} {first : Bool} {t : Tri} : t ∈ planV ns first ↔ ∃ low k, low + (k + 1) ≤ ns.length ∧ lineB ns.length first k = true ∧ t = lineV ns low k := by
  unfold planV planTo chunk
  constructor
  · intro h
    obtain ⟨low, h1, h⟩ := List.mem_flatMap.mp h
    obtain ⟨k, h2, rfl⟩ := List.mem_map.mp h
    have h3 := List.mem_filter.mp h2
    have h4 := List.mem_range.mp h3.1
    have h5 := List.mem_range.mp h1
    exact ⟨low, k, by omega, h3.2, rfl⟩
  · rintro ⟨low, k, h, hb, rfl⟩
    exact List.mem_flatMap.mpr ⟨low, List.mem_range.mpr (by omega), List.mem_map.mpr ⟨k, List.mem_filter.mpr ⟨List.mem_range.mpr (by omega), hb⟩, rfl⟩⟩
theorem chunk_le (ns : List Int) (first : Bool) (low j : Nat) : (chunk ns first low j).length ≤ j := by
  unfold chunk
  rw [List.length_map]
  have := List.length_filter_le (lineB ns.length first) (List.range j)
  rw [List.length_range] at this
  exact this
theorem planTo_le (ns : List Int) (first : Bool) : ∀ i, (planTo ns first i).length ≤ i * ns.length
  | 0 => Nat.zero_le _
  | i + 1 => by
    rw [planTo_succ, List.length_append, Nat.succ_mul]
    have h1 := planTo_le ns first i
    have h2 := chunk_le ns first i (ns.length - i)
    omega
/-- strictly ahead -/
def ahead (s t : Tri) : Prop := s.1 < t.1 ∨ (s.1 = t.1 ∧ s.2.1 < t.2.1)
theorem ahead_ok {s t : Tri} (h : ahead s t) : lastBad t (some (s.1, s.2.1)) = false := by
  unfold lastBad notAfter
  show (if t.1 = s.1 then decide (t.2.1 ≤ s.2.1) else decide (t.1 ≤ s.1)) = false
  rcases h with h | ⟨h1, h2⟩
  · rw [if_neg (by omega)]
    exact decide_eq_false (by omega)
  · rw [if_pos h1.symm]
    exact decide_eq_false (by omega)
theorem tabOk_of {n : Nat} : ∀ {p : List Tri} {l : Option (Int × Int)}, (∀ t ∈ p, triOk n t = true) → p.Pairwise ahead → (∀ t ∈ p, lastBad t l = false) → tabOk n l p = true
  | [], _, _, _, _ => rfl
  | t :: r, l, h1, h2, h3 => by
    have h2' := List.pairwise_cons.mp h2
    rw [tabOk_cons, h1 t List.mem_cons_self, h3 t List.mem_cons_self, tabOk_of (fun u hu => h1 u (List.mem_cons_of_mem _ hu)) h2'.2 (fun u hu => ahead_ok (h2'.1 u hu))]
    rfl
theorem planV_ahead (ns : List Int) (first : Bool) : (planV ns first).Pairwise ahead := by
  unfold planV planTo
  rw [List.pairwise_flatMap]
  refine ⟨fun low _ => ?_, ?_⟩
  · unfold chunk
    rw [List.pairwise_map]
    refine (List.Pairwise.filter _ List.pairwise_lt_range).imp ?_
    intro a b h
    exact .inr ⟨rfl, by show ((low + (a + 1) : Nat) : Int) < ((low + (b + 1) : Nat) : Int); omega⟩
  · refine List.pairwise_lt_range.imp ?_
    intro a b h x hx y hy
    unfold chunk at hx hy
    obtain ⟨k, _, rfl⟩ := List.mem_map.mp hx
    obtain ⟨k', _, rfl⟩ := List.mem_map.mp hy
    exact .inl (by show (a : Int) < (b : Int); omega)
theorem planV_ok (ns : List Int) (first : Bool) : tabOk ns.length none (planV ns first) = true := by
  refine tabOk_of (fun t ht => ?_) (planV_ahead ns first) (fun _ _ => rfl)
  obtain ⟨low, k, h, _, rfl⟩ := mem_planV.mp ht
  unfold triOk lineV
  show (decide ((0 : Int) ≤ (low : Int)) && (decide ((low : Int) < ((low + (k + 1) : Nat) : Int)) && (decide (((low + (k + 1) : Nat) : Int) ≤ (ns.length : Int)) && sideOk (sideS (bestEnd ns low k))))) = true
  rw [decide_eq_true (by omega), decide_eq_true (by omega), decide_eq_true (by omega), sideOk_sideS]
  rfl
theorem planV_look {ns : List Int} {first : Bool} {low k : Nat} (h : low + (k + 1) ≤ ns.length) (hb : lineB ns.length first k = true) : tabF (planV ns first) low (low + (k + 1)) = some (bestEnd ns low k) := by
  unfold tabF
  have e : look (planV ns first) (low : Int) ((low + (k + 1) : Nat) : Int) = some (sideS (bestEnd ns low k)) := by
    refine look_of (mem_planV.mpr ⟨low, k, h, hb, rfl⟩) fun s' hs => ?_
    obtain ⟨low', k', _, _, e⟩ := mem_planV.mp hs
    have e1 : (low : Int) = (low' : Int) := congrArg (fun t : Tri => t.1) e
    have e2 : ((low + (k + 1) : Nat) : Int) = ((low' + (k' + 1) : Nat) : Int) := congrArg (fun t : Tri => t.2.1) e
    have e3 : s' = sideS (bestEnd ns low' k') := congrArg (fun t : Tri => t.2.2) e
    have e4 : low' = low := by omega
    have e5 : k' = k := by omega
    rw [e3, e4, e5]
  rw [e]
  exact congrArg some (sideB_sideS _)
theorem gotV_plan (ns : List Int) (first : Bool) : ∀ m low, low + m ≤ ns.length →
    ((ns.length - m) % 2 = parOf first → gotV ns (tabF (planV ns first)) m low true = some (wv ns m low)) ∧
    (¬ (ns.length - m) % 2 = parOf first → gotV ns (tabF (planV ns first)) m low false = some (-wv ns m low))
  | 0, low, _ => by
    rw [wv_zero, gotV_zero, gotV_zero]
    exact ⟨fun _ => rfl, fun _ => rfl⟩
  | m + 1, low, h => by
    have hp : parOf first < 2 := by cases first <;> decide
    constructor
    · intro hpar
      rw [gotV_mine, planV_look h (decide_eq_true hpar)]
      have hb := ends_best (bestEnd_mem ns low m)
      have hl := lowOf_le (bestEnd ns low m) low m
      have ih := (gotV_plan ns first m (lowOf (bestEnd ns low m) low) (by omega)).2 (by omega)
      show ((gotV ns (tabF (planV ns first)) m (lowOf (bestEnd ns low m) low) false).bind fun r => some (r + coinOf ns (bestEnd ns low m) low m)) = _
      rw [ih]
      show some (-wv ns m (lowOf (bestEnd ns low m) low) + coinOf ns (bestEnd ns low m) low m) = _
      congr 1
      omega
    · intro hpar
      have ih1 := (gotV_plan ns first m (low + 1) (by omega)).1 (by omega)
      have ih2 := (gotV_plan ns first m low (by omega)).1 (by omega)
      rw [gotV_his, ih1, ih2]
      show some (if wv ns m low + -coinOf ns false low m < wv ns m (low + 1) + -coinOf ns true low m then wv ns m low + -coinOf ns false low m else wv ns m (low + 1) + -coinOf ns true low m) = _
      have e1 : coinOf ns true low m = ns.getD low 0 := rfl
      have e2 : coinOf ns false low m = ns.getD (low + m) 0 := rfl
      rw [wv_succ, e1, e2]
      congr 1
      split <;> split <;> omega
theorem planned_first (ns : List Int) : plannedV ns (planV ns true) true = some (wv ns ns.length 0) := by
  unfold plannedV
  rw [if_pos (planV_ok ns true)]
  exact (gotV_plan ns true ns.length 0 (by omega)).1 (by rw [Nat.sub_self]; rfl)
theorem planned_other (ns : List Int) : plannedV ns (planV ns false) false = some (-wv ns ns.length 0) := by
  unfold plannedV
  rw [if_pos (planV_ok ns false)]
  exact (gotV_plan ns false ns.length 0 (by omega)).2 (by rw [Nat.sub_self]; show ¬ (0 % 2 = 1); decide)
/-- a plan told for a row shows what it tells -/
theorem shows_first (ns : List Int) (least : Int) : showsV ns (planV ns true) true least = decide (least ≤ wv ns ns.length 0) := by
  unfold showsV
  rw [planned_first]
  rfl
theorem shows_other (ns : List Int) (least : Int) : showsV ns (planV ns false) false least = decide (wv ns ns.length 0 < least) := by
  unfold showsV
  rw [planned_other]
  show decide (- -wv ns ns.length 0 < least) = _
  rw [Int.neg_neg]
theorem shows_bad {ns : List Int} {p : List Tri} (h : tabOk ns.length none p = false) (first : Bool) (least : Int) : showsV ns p first least = false := by
  unfold showsV plannedV
  rw [h]
  rfl
theorem tabOk_bad {n : Nat} : ∀ {p : List Tri} {l : Option (Int × Int)}, (∃ t ∈ p, triOk n t = false) → tabOk n l p = false
  | [], _, h => by
    obtain ⟨_, h, _⟩ := h
    exact (nomatch h)
  | u :: r, l, h => by
    obtain ⟨t, ht, hb⟩ := h
    rw [tabOk_cons]
    rcases List.mem_cons.mp ht with rfl | ht
    · rw [hb]
      rfl
    · rw [tabOk_bad ⟨t, ht, hb⟩, Bool.and_false, Bool.and_false]
/-! ### lines in the heap -/
inductive Tris (H : Hp) : List V → List Tri → Prop
  | nil : Tris H [] []
  | cons {q : Addr} {t : Tri} {xs : List V} {p : List Tri} (h : H q = some (.tup (triV t))) (r : Tris H xs p) : Tris H (.ref q :: xs) (t :: p)
theorem Tris.mono {H H' : Hp} (s : Same H H') : ∀ {xs : List V} {p : List Tri}, Tris H xs p → Tris H' xs p
  | _, _, .nil => .nil
  | _, _, .cons h t => .cons (s _ _ h) (t.mono s)
theorem Tris.app {H : Hp} {ys : List V} {q : List Tri} (b : Tris H ys q) : ∀ {xs : List V} {p : List Tri}, Tris H xs p → Tris H (xs ++ ys) (p ++ q)
  | _, _, .nil => b
  | _, _, .cons h t => .cons h (b.app t)
theorem Tris.len {H : Hp} : ∀ {xs : List V} {p : List Tri}, Tris H xs p → xs.length = p.length
  | _, _, .nil => rfl
  | _, _, .cons _ t => by rw [List.length_cons, List.length_cons, t.len]
theorem Tris.getX {H : Hp} : ∀ {xs : List V} {p : List Tri} {i : Nat} {x : V}, Tris H xs p → xs[i]? = some x → ∃ q t, x = .ref q ∧ p[i]? = some t ∧ H q = some (.tup (triV t))
  | _, _, i, x, .nil, e => by simp at e
  | _, _, 0, x, .cons h t, e => by
    have e' := Option.some.inj e
    subst e'
    exact ⟨_, _, rfl, rfl, h⟩
  | _, _, i + 1, x, .cons h t, e => by
    obtain ⟨q, pl, h1, h2, h3⟩ := t.getX (i := i) (x := x) (by simpa using e)
    exact ⟨q, pl, h1, by simpa using h2, h3⟩
/-- what is a list is no line: a change of lists leaves lines -/
theorem Tris.butO {H H' : Hp} {l : Addr} {o : HO} (s : SameBut l H H') (hl : H l = some o) (ho : ∀ ys, HO.tup ys ≠ o) : ∀ {xs : List V} {p : List Tri}, Tris H xs p → Tris H' xs p
  | _, _, .nil => .nil
  | _, _, .cons h t => .cons (s _ _ (ne_of h hl (ho _)) h) (t.butO s hl ho)
theorem Tris.but {H H' : Hp} {l : Addr} {ys : List V} (s : SameBut l H H') (hl : H l = some (.lst ys)) {xs : List V} {p : List Tri} (h : Tris H xs p) : Tris H' xs p := h.butO s hl (by intro _ z; cases z)
/-- the table in the heap -/
structure Tab (p : List Tri) (kvs : List (List Key × V)) : Prop where
  val : ∀ a b : Int, valV kvs [Sum.inl a, Sum.inl b] = (look p a b).map V.str
  len : kvs.length ≤ p.length
theorem Tab.nil : Tab [] [] := ⟨fun _ _ => rfl, Nat.le_refl _⟩
theorem putK_len (kvs : List (List Key × V)) (k : List Key) (v : V) : (putK kvs k v).length ≤ kvs.length + 1 := by
  unfold putK
  split
  · rw [List.length_map]
    omega
  · rw [List.length_append]
    exact Nat.le_refl _
theorem Tab.put {p : List Tri} {kvs : List (List Key × V)} (h : Tab p kvs) (t : Tri) : Tab (p ++ [t]) (putK kvs [Sum.inl t.1, Sum.inl t.2.1] (.str t.2.2)) := by
  refine ⟨fun a b => ?_, ?_⟩
  · rw [valV_put, look_app, h.val]
    by_cases c : t.1 = a ∧ t.2.1 = b
    · rw [if_pos c, if_pos (by rw [c.1, c.2])]
      rfl
    · rw [if_neg c, if_neg]
      intro z
      have z1 := List.cons.inj z
      have z2 := List.cons.inj z1.2
      exact c ⟨(Sum.inl.inj z1.1).symm, (Sum.inl.inj z2.1).symm⟩
  · have := putK_len kvs [Sum.inl t.1, Sum.inl t.2.1] (.str t.2.2)
    have := h.len
    rw [List.length_append]
    show _ ≤ p.length + 1
    omega
end RE
/-! promises about plans -/
namespace RE
open PySem PySem.Spec PyProof.Rows L2
def spTable (K : PySem.W.Frag) : Sp := fun vs H Q _ => ∃ (a l : Addr) (ns : List Int) (xs : List V) (p : List Tri), vs = [.ref a, .ref l] ∧ SqL K H a (ns.map V.int) ∧ SqL K H l xs ∧ Tris H xs p ∧ p.length ≤ 10000 ∧
  (tabOk ns.length none p = false → ∀ H', Same H H' → Q .non H') ∧ (tabOk ns.length none p = true → ∀ H' d kvs, Same H H' → H d = none → H' d = some (.dT kvs) → Tab p kvs → Q (.ref d) H')
def spGot (K : PySem.W.Frag) (n : Nat) : Sp := fun vs H Q _ => ∃ (a d : Addr) (ns : List Int) (p : List Tri) (low m : Nat) (i j : Int) (kvs : List (List Key × V)) (mine : Bool), vs = [.ref a, .int i, .int j, .ref d, .bl mine] ∧ i = (low : Int) ∧ j = ((low + m : Nat) : Int) ∧
  SqL K H a (ns.map V.int) ∧ H d = some (.dT kvs) ∧ Tab p kvs ∧ (∀ t ∈ p, sideOk t.2.2 = true) ∧ low + m ≤ ns.length ∧ m < n ∧ ∀ H', Same H H' → Q (optV (gotV ns (tabF p) m low mine)) H'
def spPlanned (K : PySem.W.Frag) : Sp := fun vs H Q _ => ∃ (a l : Addr) (ns : List Int) (xs : List V) (p : List Tri) (mine : Bool), vs = [.ref a, .ref l, .bl mine] ∧ SqL K H a (ns.map V.int) ∧ SqL K H l xs ∧ Tris H xs p ∧ p.length ≤ 10000 ∧ ns.length ≤ 12 ∧
  ∀ H', Same H H' → Q (optV (plannedV ns p mine)) H'
/-- C(plan) -/
def spInit (K : PySem.W.Frag) (C : Addr) : Sp := fun vs H Q _ => ∃ (x l dx : Addr) (xs : List V), vs = [.ref x, .ref l] ∧ H x = some (.ins C dx []) ∧ SqL K H l xs ∧
  ∀ H' m, SameBut x H H' → H m = none → H' x = some (.ins C dx [("plan", .ref m)]) → H' m = some (.lst xs) → Q .non H'
def spShows (K : PySem.W.Frag) (C : Addr) (first : Bool) : Sp := fun vs H Q _ => ∃ (x a l dx : Addr) (ns : List Int) (xs : List V) (p : List Tri) (least : Int), vs = [.ref x, .ref a, .int least] ∧ H x = some (.ins C dx [("plan", .ref l)]) ∧ SqL K H a (ns.map V.int) ∧ H l = some (.lst xs) ∧ Tris H xs p ∧ p.length ≤ 10000 ∧ ns.length ≤ 12 ∧
  ∀ H', Same H H' → Q (.bl (showsV ns p first least)) H'
def spPlanOf (K : PySem.W.Frag) : Sp := fun vs H Q _ => ∃ (a : Addr) (ns : List Int) (first : Bool), vs = [.ref a, .bl first] ∧ SqL K H a (ns.map V.int) ∧ ns.length ≤ 12 ∧
  ∀ H' l xs, Same H H' → H l = none → H' l = some (.lst xs) → Tris H' xs (planV ns first) → Q (.ref l) H'
def NoWhole (K : PySem.W.Frag) (H : Hp) (x : V) : Prop := ∃ T, PV K H x T ∧ (T == "int") = false
def spJudged (K : PySem.W.Frag) (R N G D : Addr) : Sp := fun vs H Q E => ∃ x t, vs = [x, t] ∧ ((NoRow K H x ∧ ∀ H', Same H H' → E (.ref R) none H') ∨ ∃ ns, IsRow K H x ns ∧
  ((NoWhole K H t ∧ ∀ H', Same H H' → E (.ref N) none H') ∨ ∃ k : Int, t = .int k ∧
    ∀ H' o dx l xs, Same H H' → H o = none → H l = none → H' o = some (.ins (if decide (k ≤ wv ns ns.length 0) = true then G else D) dx [("plan", .ref l)]) → H' l = some (.lst xs) → Tris H' xs (planV ns (decide (k ≤ wv ns ns.length 0))) → Q (.ref o) H'))
/-- the lesser one -/
def minO : Option Int → Int → Int
  | none, z => z
  | some l, z => if z < l then z else l
def forMe (mine : Bool) (c : Int) : Int := if mine then c else -c
/-- what is left of a turn of got -/
def cont (ns : List Int) (f : Nat → Nat → Option Bool) (m low : Nat) (mine : Bool) : List Bool → Option Int → Option Int
  | [], lv => lv
  | b :: r, lv => (gotV ns f m (lowOf b low) (!mine)).bind fun x => cont ns f m low mine r (some (minO lv (x + forMe mine (coinOf ns b low m))))
theorem cont_nil (ns : List Int) (f : Nat → Nat → Option Bool) (m low : Nat) (mine : Bool) (lv : Option Int) : cont ns f m low mine [] lv = lv := rfl
theorem cont_cons (ns : List Int) (f : Nat → Nat → Option Bool) (m low : Nat) (mine b : Bool) (r : List Bool) (lv : Option Int) : cont ns f m low mine (b :: r) lv = (gotV ns f m (lowOf b low) (!mine)).bind fun x => cont ns f m low mine r (some (minO lv (x + forMe mine (coinOf ns b low m)))) := rfl
theorem cont_none {ns : List Int} {f : Nat → Nat → Option Bool} {m low : Nat} {mine b : Bool} {r : List Bool} {lv : Option Int} (h : gotV ns f m (lowOf b low) (!mine) = none) : cont ns f m low mine (b :: r) lv = none := by
  rw [cont_cons, h]
  rfl
theorem cont_some {ns : List Int} {f : Nat → Nat → Option Bool} {m low : Nat} {mine b : Bool} {r : List Bool} {lv : Option Int} {x : Int} (h : gotV ns f m (lowOf b low) (!mine) = some x) : cont ns f m low mine (b :: r) lv = cont ns f m low mine r (some (minO lv (x + forMe mine (coinOf ns b low m)))) := by
  rw [cont_cons, h]
  rfl
theorem cont_mine {ns : List Int} {f : Nat → Nat → Option Bool} {m low : Nat} {b : Bool} (h : f low (low + (m + 1)) = some b) : cont ns f m low true [b] none = gotV ns f (m + 1) low true := by
  rw [gotV_mine, h]
  show _ = (gotV ns f m (lowOf b low) false).bind _
  cases e : gotV ns f m (lowOf b low) false with
  | none => exact cont_none (mine := true) e
  | some x =>
    rw [cont_some (mine := true) e, cont_nil]
    rfl
theorem cont_his {ns : List Int} {f : Nat → Nat → Option Bool} {m low : Nat} : cont ns f m low false [true, false] none = gotV ns f (m + 1) low false := by
  rw [gotV_his]
  cases e : gotV ns f m (low + 1) true with
  | none => exact cont_none (mine := false) (b := true) e
  | some x =>
    rw [cont_some (mine := false) (b := true) e]
    show _ = (gotV ns f m low true).bind _
    cases e2 : gotV ns f m low true with
    | none => exact cont_none (mine := false) (b := false) e2
    | some y =>
      rw [cont_some (mine := false) (b := false) e2, cont_nil]
      rfl
end RE
/-! the laws' own walk of a plan: a line of stretches that wait -/
namespace RE
open PySem PySem.Spec PyProof.Rows L2
/-- where a stretch begins, how many coins, what was got before, whose turn -/
abbrev Ent := Nat × Nat × Int × Bool
def entV (e : Ent) : List V := [.int (e.1 : Int), .int ((e.1 + e.2.1 : Nat) : Int), .int e.2.2.1, .bl e.2.2.2]
inductive Stk (H : Hp) : List V → List Ent → Prop
  | nil : Stk H [] []
  | cons {q : Addr} {e : Ent} {xs : List V} {p : List Ent} (h : H q = some (.tup (entV e))) (r : Stk H xs p) : Stk H (.ref q :: xs) (e :: p)
theorem Stk.mono {H H' : Hp} (s : Same H H') : ∀ {xs : List V} {p : List Ent}, Stk H xs p → Stk H' xs p
  | _, _, .nil => .nil
  | _, _, .cons h t => .cons (s _ _ h) (t.mono s)
theorem Stk.butO {H H' : Hp} {l : Addr} {o : HO} (s : SameBut l H H') (hl : H l = some o) (ho : ∀ ys, HO.tup ys ≠ o) : ∀ {xs : List V} {p : List Ent}, Stk H xs p → Stk H' xs p
  | _, _, .nil => .nil
  | _, _, .cons h t => .cons (s _ _ (ne_of h hl (ho _)) h) (t.butO s hl ho)
theorem Stk.app {H : Hp} {ys : List V} {q : List Ent} (b : Stk H ys q) : ∀ {xs : List V} {p : List Ent}, Stk H xs p → Stk H (xs ++ ys) (p ++ q)
  | _, _, .nil => b
  | _, _, .cons h t => .cons h (b.app t)
theorem Stk.len {H : Hp} : ∀ {xs : List V} {p : List Ent}, Stk H xs p → xs.length = p.length
  | _, _, .nil => rfl
  | _, _, .cons _ t => by rw [List.length_cons, List.length_cons, t.len]
theorem Stk.snoc {H : Hp} : ∀ {p : List Ent} {e : Ent} {xs : List V}, Stk H xs (p ++ [e]) → ∃ ys q, xs = ys ++ [.ref q] ∧ Stk H ys p ∧ H q = some (.tup (entV e))
  | [], e, _, .cons h .nil => ⟨[], _, rfl, .nil, h⟩
  | f :: p, e, _, .cons h t => by
    obtain ⟨ys, q, rfl, h1, h2⟩ := t.snoc
    exact ⟨_ :: ys, q, rfl, .cons h h1, h2⟩
def entD (e : Ent) : PyData := .tuple [.int (e.1 : Int), .int ((e.1 + e.2.1 : Nat) : Int), .int e.2.2.1, .bool e.2.2.2]
theorem Stk.dp {K : PySem.W.Frag} {H : Hp} : ∀ {xs : List V} {p : List Ent}, Stk H xs p → DpAll K H xs (p.map entD)
  | _, _, .nil => .nil
  | _, _, .cons h t => .cons (.tup (SqT.of h) (.cons (.int _) (.cons (.int _) (.cons (.int _) (.cons (.bl _) .nil))))) t.dp
theorem sha_ents : ∀ p : List Ent, ShA (p.map entD) 1
  | [] => .nil 1
  | e :: p => .cons (Sh.tuple (.cons (sh_flat (x := .int _) rfl 0) (.cons (sh_flat (x := .int _) rfl 0) (.cons (sh_flat (x := .int _) rfl 0) (.cons (sh_flat (x := .bl _) rfl 0) (.nil 0)))))) (sha_ents p)
theorem eqv_ents (e : Ent) (p : List Ent) : PyData.eqv (.list ((e :: p).map entD)) (.list []) = false := by
  rw [PyData.eqv]
  rfl
theorem min3 (a b l : Int) : (if (if a < b then a else b) < l then (if a < b then a else b) else l) = (if b < (if a < l then a else l) then b else (if a < l then a else l)) := by
  by_cases h1 : a < b
  · rw [if_pos h1]
    by_cases h2 : a < l
    · rw [if_pos h2, if_neg (by omega)]
    · rw [if_neg h2, if_neg (by omega)]
  · rw [if_neg h1]
    by_cases h2 : a < l
    · rw [if_pos h2, if_pos (by omega)]
      by_cases h4 : b < a
      · rw [if_pos h4]
      · rw [if_neg h4]
        omega
    · rw [if_neg h2]
def resE (ns : List Int) (f : Nat → Nat → Option Bool) (e : Ent) : Option Int := (gotV ns f e.2.1 e.1 e.2.2.2).bind fun v => some (v + e.2.2.1)
/-- what comes of what was found and the stretches that wait, the next one first -/
def comb (ns : List Int) (f : Nat → Nat → Option Bool) : Option Int → List Ent → Option (Option Int)
  | found, [] => some found
  | found, e :: r => (resE ns f e).bind fun v => comb ns f (some (minO found v)) r
theorem comb_nil (ns : List Int) (f : Nat → Nat → Option Bool) (found : Option Int) : comb ns f found [] = some found := rfl
theorem comb_cons (ns : List Int) (f : Nat → Nat → Option Bool) (found : Option Int) (e : Ent) (r : List Ent) : comb ns f found (e :: r) = (resE ns f e).bind fun v => comb ns f (some (minO found v)) r := rfl
def child (ns : List Int) (low m : Nat) (sum : Int) (turn b : Bool) : Ent := (lowOf b low, m, sum + forMe turn (coinOf ns b low m), !turn)
theorem comb_leaf (ns : List Int) (f : Nat → Nat → Option Bool) (found : Option Int) (low : Nat) (sum : Int) (turn : Bool) (r : List Ent) : comb ns f found ((low, 0, sum, turn) :: r) = comb ns f (some (minO found sum)) r := by
  rw [comb_cons]
  show comb ns f (some (minO found (0 + sum))) r = _
  rw [Int.zero_add]
theorem comb_lacks {ns : List Int} {f : Nat → Nat → Option Bool} {found : Option Int} {low m : Nat} {sum : Int} {r : List Ent} (h : f low (low + (m + 1)) = none) : comb ns f found ((low, m + 1, sum, true) :: r) = none := by
  rw [comb_cons]
  unfold resE
  show ((gotV ns f (m + 1) low true).bind _).bind _ = none
  rw [gotV_mine, h]
  rfl
theorem comb_mine {ns : List Int} {f : Nat → Nat → Option Bool} {found : Option Int} {low m : Nat} {sum : Int} {r : List Ent} {b : Bool} (h : f low (low + (m + 1)) = some b) : comb ns f found ((low, m + 1, sum, true) :: r) = comb ns f found (child ns low m sum true b :: r) := by
  rw [comb_cons, comb_cons]
  unfold resE
  show ((gotV ns f (m + 1) low true).bind fun v => some (v + sum)).bind _ = ((gotV ns f m (lowOf b low) false).bind fun v => some (v + (sum + forMe true (coinOf ns b low m)))).bind _
  rw [gotV_mine, h]
  show (((gotV ns f m (lowOf b low) false).bind fun r => some (r + coinOf ns b low m)).bind fun v => some (v + sum)).bind _ = _
  cases gotV ns f m (lowOf b low) false with
  | none => rfl
  | some v =>
    show comb ns f (some (minO found (v + coinOf ns b low m + sum))) r = comb ns f (some (minO found (v + (sum + forMe true (coinOf ns b low m))))) r
    have e : v + coinOf ns b low m + sum = v + (sum + forMe true (coinOf ns b low m)) := by
      show v + coinOf ns b low m + sum = v + (sum + coinOf ns b low m)
      omega
    rw [e]
theorem comb_his {ns : List Int} {f : Nat → Nat → Option Bool} {found : Option Int} {low m : Nat} {sum : Int} {r : List Ent} : comb ns f found ((low, m + 1, sum, false) :: r) = comb ns f found (child ns low m sum false false :: child ns low m sum false true :: r) := by
  rw [comb_cons, comb_cons]
  unfold resE
  show ((gotV ns f (m + 1) low false).bind fun v => some (v + sum)).bind _ = ((gotV ns f m low true).bind fun v => some (v + (sum + forMe false (coinOf ns false low m)))).bind fun v => comb ns f (some (minO found v)) (child ns low m sum false true :: r)
  rw [gotV_his]
  cases e2 : gotV ns f m low true with
  | none =>
    cases gotV ns f m (low + 1) true with
    | none => rfl
    | some x => rfl
  | some y =>
    show _ = comb ns f (some (minO found (y + (sum + forMe false (coinOf ns false low m))))) (child ns low m sum false true :: r)
    rw [comb_cons]
    unfold resE
    show _ = ((gotV ns f m (low + 1) true).bind fun v => some (v + (sum + forMe false (coinOf ns true low m)))).bind _
    cases gotV ns f m (low + 1) true with
    | none => rfl
    | some x =>
      show comb ns f (some (minO found ((if y + -coinOf ns false low m < x + -coinOf ns true low m then y + -coinOf ns false low m else x + -coinOf ns true low m) + sum))) r = comb ns f (some (minO (some (minO found (y + (sum + -coinOf ns false low m)))) (x + (sum + -coinOf ns true low m)))) r
      congr 2
      cases found with
      | none =>
        show ((if y + -coinOf ns false low m < x + -coinOf ns true low m then y + -coinOf ns false low m else x + -coinOf ns true low m) + sum) = (if x + (sum + -coinOf ns true low m) < y + (sum + -coinOf ns false low m) then x + (sum + -coinOf ns true low m) else y + (sum + -coinOf ns false low m))
        split <;> split <;> omega
      | some l =>
        show (if (if y + -coinOf ns false low m < x + -coinOf ns true low m then y + -coinOf ns false low m else x + -coinOf ns true low m) + sum < l then (if y + -coinOf ns false low m < x + -coinOf ns true low m then y + -coinOf ns false low m else x + -coinOf ns true low m) + sum else l) =
          (if x + (sum + -coinOf ns true low m) < (if y + (sum + -coinOf ns false low m) < l then y + (sum + -coinOf ns false low m) else l) then x + (sum + -coinOf ns true low m) else (if y + (sum + -coinOf ns false low m) < l then y + (sum + -coinOf ns false low m) else l))
        generalize coinOf ns false low m = c1
        generalize coinOf ns true low m = c2
        have e3 : (if y + -c1 < x + -c2 then y + -c1 else x + -c2) + sum = (if y + (sum + -c1) < x + (sum + -c2) then y + (sum + -c1) else x + (sum + -c2)) := by
          split <;> split <;> omega
        rw [e3]
        exact min3 _ _ _
/-- how many stretches may come of one -/
def wt : Nat → Nat
  | 0 => 1
  | n + 1 => 2 * wt n + 1
theorem wt_pos : ∀ n, 0 < wt n
  | 0 => Nat.one_pos
  | n + 1 => Nat.succ_pos _
theorem wt_le : ∀ n, n ≤ 12 → wt n ≤ 8191
  | n, h => by
    have mono : ∀ k, k ≤ 12 → wt k ≤ 8191 := by decide
    exact mono n h
def wts : List Ent → Nat
  | [] => 0
  | e :: r => wt e.2.1 + wts r
theorem wts_len : ∀ st : List Ent, st.length ≤ wts st
  | [] => Nat.le_refl _
  | e :: r => by
    have h1 := wts_len r
    have h2 := wt_pos e.2.1
    show r.length + 1 ≤ wt e.2.1 + wts r
    omega
theorem all_true (n : Nat) : (List.replicate n true).all id = true := by
  induction n with
  | zero => rfl
  | succ n ih =>
    rw [List.replicate_succ, List.all_cons, ih]
    rfl
theorem planV_len {ns : List Int} {first : Bool} (h : ns.length ≤ 12) : (planV ns first).length ≤ 10000 := by
  have h1 := planTo_le ns first ns.length
  have h2 : ns.length * ns.length ≤ 12 * 12 := Nat.mul_le_mul h h
  show (planTo ns first ns.length).length ≤ 10000
  omega
theorem planV_len1 {ns : List Int} {first : Bool} (h : ns.length ≤ 12) (t : Tri) : (planV ns first ++ [t]).length ≤ 10000 := by
  have h1 := planTo_le ns first ns.length
  have h2 : ns.length * ns.length ≤ 12 * 12 := Nat.mul_le_mul h h
  rw [List.length_append]
  show (planTo ns first ns.length).length + 1 ≤ 10000
  omega
theorem tris_tuples {K : PySem.W.Frag} {H : Hp} {xs : List V} {p : List Tri} (h : Tris H xs p) {i : Nat} {x : V} (e : xs[i]? = some x) : TyX K H x (.type "tuple") := by
  obtain ⟨q, t, rfl, _, hq⟩ := h.getX e
  exact (pv_tup hq).ty
/-- a line for a stretch beyond -/
def farT : Tri := (0, 99, "left")
theorem far_bad {n : Nat} (h : n ≤ 12) (p : List Tri) : tabOk n none (p ++ [farT]) = false := by
  refine tabOk_bad ⟨farT, List.mem_append_right _ List.mem_cons_self, ?_⟩
  unfold triOk
  rw [show decide (farT.2.1 ≤ (n : Int)) = false from decide_eq_false (by show ¬ ((99 : Int) ≤ (n : Int)); omega)]
  rw [Bool.false_and, Bool.and_false, Bool.and_false]
def spLRight (K : PySem.W.Frag) : Sp := fun vs H Q _ => ∃ (r o : Addr) (ns ms : List Int) (least due : Int), vs = [.ref r, .int least, .int due, .ref o] ∧ H r = some (.lst (ns.map V.int)) ∧ RowOk ns ∧ H o = some (.lst (ms.map V.int)) ∧ RowOk ms ∧ due = wv ns ns.length 0 ∧ ∀ H', Same H H' → Q (.bl true) H'
def spSays : Sp := fun vs H Q _ => ∃ a : Bool, vs = [.bl a, .bl a] ∧ Q (.bl true) H
def spLGot (K : PySem.W.Frag) : Sp := spPlanned K
def spLShows (K : PySem.W.Frag) : Sp := fun vs H Q _ => ∃ (a l : Addr) (ns : List Int) (xs : List V) (p : List Tri) (mine : Bool) (least : Int), vs = [.ref a, .int least, .ref l, .bl mine] ∧ SqL K H a (ns.map V.int) ∧ SqL K H l xs ∧ Tris H xs p ∧ p.length ≤ 10000 ∧ ns.length ≤ 12 ∧
  ∀ H', Same H H' → Q (.bl (showsV ns p mine least)) H'
theorem inV_side (s : Str) : inV (.str s) [V.str "left", V.str "right"] = sideOk s := by
  unfold inV sideOk eqV
  by_cases h1 : s = "left"
  · subst h1
    decide +kernel
  · by_cases h2 : s = "right"
    · subst h2
      decide +kernel
    · have e1 : ¬ (("left" : Str) = s) := fun z => h1 z.symm
      have e2 : ¬ (("right" : Str) = s) := fun z => h2 z.symm
      simp [h1, h2, e1, e2]
end RE
/-! plans made by hand: all stretches with one end; parts of plans; plans as data -/
namespace RE
open PySem PySem.Spec PyProof.Rows L2
def allRow (side : Str) (low k : Nat) : Tri := ((low : Int), ((low + (k + 1) : Nat) : Int), side)
def allCh (side : Str) (low j : Nat) : List Tri := (List.range j).map (allRow side low)
def allTo (side : Str) (n i : Nat) : List Tri := (List.range i).flatMap fun low => allCh side low (n - low)
theorem allCh_zero (side : Str) (low : Nat) : allCh side low 0 = [] := rfl
theorem allCh_succ (side : Str) (low j : Nat) : allCh side low (j + 1) = allCh side low j ++ [allRow side low j] := by
  unfold allCh
  rw [List.range_succ, List.map_append]
  rfl
theorem allTo_succ (side : Str) (n i : Nat) : allTo side n (i + 1) = allTo side n i ++ allCh side i (n - i) := by
  unfold allTo
  rw [List.range_succ, List.flatMap_append]
  simp
theorem allCh_len (side : Str) (low j : Nat) : (allCh side low j).length = j := by
  unfold allCh
  rw [List.length_map, List.length_range]
theorem allTo_le (side : Str) (n : Nat) : ∀ i, (allTo side n i).length ≤ i * n
  | 0 => Nat.zero_le _
  | i + 1 => by
    rw [allTo_succ, List.length_append, allCh_len, Nat.succ_mul]
    have := allTo_le side n i
    omega
theorem allTo_side (side : Str) (n i : Nat) : ∀ t ∈ allTo side n i, t.2.2 = side := by
  intro t h
  unfold allTo allCh at h
  obtain ⟨low, _, h⟩ := List.mem_flatMap.mp h
  obtain ⟨k, _, rfl⟩ := List.mem_map.mp h
  rfl
def spLAll (K : PySem.W.Frag) : Sp := fun vs H Q _ => ∃ (a : Addr) (ns : List Int) (side : Str), vs = [.ref a, .str side] ∧ SqL K H a (ns.map V.int) ∧ ns.length ≤ 12 ∧
  ∀ H' l xs, Same H H' → H l = none → H' l = some (.lst xs) → Tris H' xs (allTo side ns.length ns.length) → Q (.ref l) H'
def spMAll (K : PySem.W.Frag) : Sp := fun vs H Q _ => ∃ (n : Nat) (side : Str), vs = [.int (n : Int), .str side] ∧ n ≤ 12 ∧
  ∀ H' l xs, Same H H' → H l = none → H' l = some (.lst xs) → Tris H' xs (allTo side n n) → Q (.ref l) H'
/-! ### parts -/
theorem Tris.drop {H : Hp} : ∀ (k : Nat) {xs : List V} {p : List Tri}, Tris H xs p → Tris H (xs.drop k) (p.drop k)
  | 0, _, _, h => h
  | _ + 1, _, _, .nil => .nil
  | k + 1, _, _, .cons _ t => t.drop k
theorem Tris.take {H : Hp} : ∀ (k : Nat) {xs : List V} {p : List Tri}, Tris H xs p → Tris H (xs.take k) (p.take k)
  | 0, _, _, _ => .nil
  | _ + 1, _, _, .nil => .nil
  | k + 1, _, _, .cons h t => .cons h (t.take k)
theorem Tris.rev {H : Hp} : ∀ {xs : List V} {p : List Tri}, Tris H xs p → Tris H xs.reverse p.reverse
  | _, _, .nil => .nil
  | _, _, .cons h t => by
    rw [List.reverse_cons, List.reverse_cons]
    exact Tris.app (.cons h .nil) t.rev
/-- a plan whose texts are plain -/
structure PlanIn (H : Hp) (xs : List V) (p : List Tri) : Prop where
  tris : Tris H xs p
  len : p.length ≤ 1000
  txt : ∀ t ∈ p, PyData.strOk t.2.2 = true
theorem PlanIn.mono {H H' : Hp} (s : Same H H') {xs : List V} {p : List Tri} (h : PlanIn H xs p) : PlanIn H' xs p := ⟨h.tris.mono s, h.len, h.txt⟩
theorem PlanIn.nil (H : Hp) : PlanIn H [] [] := ⟨.nil, Nat.zero_le _, fun _ h => (nomatch h)⟩
theorem PlanIn.cut {H : Hp} {xs : List V} {p : List Tri} (h : PlanIn H xs p) (lo hi : Option Int) : ∃ p', PlanIn H (cutV xs lo hi) p' ∧ p'.length ≤ p.length := by
  unfold cutV
  refine ⟨_, ⟨(h.tris.drop _).take _, ?_, fun t ht => h.txt t (List.mem_of_mem_drop (List.mem_of_mem_take ht))⟩, ?_⟩
  · rw [List.length_take, List.length_drop]
    have := h.len
    omega
  · rw [List.length_take, List.length_drop]
    omega
theorem planV_144 {ns : List Int} {first : Bool} (h : ns.length ≤ 12) : (planV ns first).length ≤ 144 := by
  have h1 := planTo_le ns first ns.length
  have h2 : ns.length * ns.length ≤ 12 * 12 := Nat.mul_le_mul h h
  show (planTo ns first ns.length).length ≤ 144
  omega
theorem PlanIn.rev {H : Hp} {xs : List V} {p : List Tri} (h : PlanIn H xs p) : PlanIn H xs.reverse p.reverse := ⟨h.tris.rev, by rw [List.length_reverse]; exact h.len, fun t ht => h.txt t (List.mem_reverse.mp ht)⟩
theorem strOk_side (b : Bool) : PyData.strOk (sideS b) = true := by cases b <;> decide +kernel
theorem plan_in {H : Hp} {ns : List Int} {first : Bool} {xs : List V} (h : ns.length ≤ 12) (t : Tris H xs (planV ns first)) : PlanIn H xs (planV ns first) := by
  refine ⟨t, ?_, fun t ht => ?_⟩
  · have h1 := planTo_le ns first ns.length
    have h2 : ns.length * ns.length ≤ 12 * 12 := Nat.mul_le_mul h h
    show (planTo ns first ns.length).length ≤ 1000
    omega
  · obtain ⟨low, k, _, _, rfl⟩ := mem_planV.mp ht
    exact strOk_side _
theorem all_in {H : Hp} {n : Nat} {side : Str} {xs : List V} (h : n ≤ 12) (hs : PyData.strOk side = true) (t : Tris H xs (allTo side n n)) : PlanIn H xs (allTo side n n) := by
  refine ⟨t, ?_, fun t ht => ?_⟩
  · have h1 := allTo_le side n n
    have h2 : n * n ≤ 12 * 12 := Nat.mul_le_mul h h
    omega
  · rw [allTo_side side n n t ht]
    exact hs
theorem one_in {H : Hp} {q : Addr} {a b : Int} {s : Str} (h : H q = some (.tup [.int a, .int b, .str s])) (hs : PyData.strOk s = true) : PlanIn H [.ref q] [(a, b, s)] :=
  ⟨.cons (t := (a, b, s)) h .nil, by show 1 ≤ 1000; decide, fun t ht => by rw [List.mem_singleton] at ht; subst ht; exact hs⟩
theorem PlanIn.app {H : Hp} {xs ys : List V} {p q : List Tri} (h : PlanIn H xs p) (k : PlanIn H ys q) (l : p.length + q.length ≤ 1000) : PlanIn H (xs ++ ys) (p ++ q) :=
  ⟨Tris.app k.tris h.tris, by rw [List.length_append]; exact l, fun t ht => (List.mem_append.mp ht).elim (h.txt t) (k.txt t)⟩
theorem PlanIn.but {H H' : Hp} {l : Addr} {ys : List V} (s : SameBut l H H') (hl : H l = some (.lst ys)) {xs : List V} {p : List Tri} (h : PlanIn H xs p) : PlanIn H' xs p := ⟨h.tris.but s hl, h.len, h.txt⟩
theorem PlanIn.butO {H H' : Hp} {l : Addr} {o : HO} (s : SameBut l H H') (hl : H l = some o) (ho : ∀ ys, HO.tup ys ≠ o) {xs : List V} {p : List Tri} (h : PlanIn H xs p) : PlanIn H' xs p := ⟨h.tris.butO s hl ho, h.len, h.txt⟩
/-! ### as data -/
def triD (t : Tri) : PyData := .tuple [.int t.1, .int t.2.1, .str t.2.2]
theorem dp_tris {K : PySem.W.Frag} {H : Hp} : ∀ {xs : List V} {p : List Tri}, Tris H xs p → DpAll K H xs (p.map triD)
  | _, _, .nil => .nil
  | _, _, .cons h t => .cons (.tup (SqT.of h) (.cons (.int _) (.cons (.int _) (.cons (.str _) .nil)))) (dp_tris t)
theorem sha_tris : ∀ (p : List Tri), (∀ t ∈ p, PyData.strOk t.2.2 = true) → ShA (p.map triD) 1
  | [], _ => .nil 1
  | t :: p, h => .cons (Sh.tuple (.cons (sh_flat (x := .int _) rfl 0) (.cons (sh_flat (x := .int _) rfl 0) (.cons (sh_flat (x := .str t.2.2) (h t List.mem_cons_self) 0) (.nil 0))))) (sha_tris p fun u hu => h u (List.mem_cons_of_mem _ hu))
/-- a list of plans -/
inductive Plans (H : Hp) : List V → Prop
  | nil : Plans H []
  | cons {l : Addr} {ys xs : List V} {p : List Tri} (h : H l = some (.lst ys)) (i : PlanIn H ys p) (t : Plans H xs) : Plans H (.ref l :: xs)
theorem Plans.mono {H H' : Hp} (s : Same H H') : ∀ {xs : List V}, Plans H xs → Plans H' xs
  | _, .nil => .nil
  | _, .cons h i t => .cons (s _ _ h) (i.mono s) (t.mono s)
theorem Plans.get {H : Hp} : ∀ {xs : List V} {i : Nat} {x : V}, Plans H xs → xs[i]? = some x → ∃ l ys p, x = .ref l ∧ H l = some (.lst ys) ∧ PlanIn H ys p
  | _, i, x, .nil, e => by simp at e
  | _, 0, x, .cons h i t, e => by
    have e' := Option.some.inj e
    subst e'
    exact ⟨_, _, _, rfl, h, i⟩
  | _, i + 1, x, .cons h _ t, e => t.get (i := i) (x := x) (by simpa using e)
end RE
namespace K03
open PySem PySem.Spec PyProof.Rows L2 RE
/-! the text by places -/
def top (i : Nat) : Stmt := PySem.Challenge.pw_rowends_k03_plans_by_hand.main.body.getD i (.Pass ⟨0, 0, 0, 0⟩)
abbrev s_is_whole : Stmt := top 9
abbrev N_is_whole : List Str := ["thing"]
theorem sc_is_whole : FnScope N_is_whole ["thing"] (defScope s_is_whole) := ⟨rfl, rfl, rfl, by decide +kernel, rfl, by decide +kernel, by decide +kernel⟩
abbrev s_check_row : Stmt := top 10
abbrev N_check_row : List Str := ["row", "coin"]
theorem sc_check_row : FnScope N_check_row ["row"] (defScope s_check_row) := ⟨rfl, rfl, rfl, by decide +kernel, rfl, by decide +kernel, by decide +kernel⟩
abbrev s_is_side : Stmt := top 11
abbrev N_is_side : List Str := ["thing"]
theorem sc_is_side : FnScope N_is_side ["thing"] (defScope s_is_side) := ⟨rfl, rfl, rfl, by decide +kernel, rfl, by decide +kernel, by decide +kernel⟩
abbrev s_worth_of : Stmt := top 12
abbrev N_worth_of : List Str := ["row", "low", "behind", "known", "first"]
theorem sc_worth_of : FnScope N_worth_of ["row", "low", "behind", "known"] (defScope s_worth_of) := ⟨rfl, rfl, rfl, by decide +kernel, rfl, by decide +kernel, by decide +kernel⟩
abbrev s_after : Stmt := top 13
abbrev N_after : List Str := ["row", "low", "behind", "side"]
theorem sc_after : FnScope N_after ["row", "low", "behind", "side"] (defScope s_after) := ⟨rfl, rfl, rfl, by decide +kernel, rfl, by decide +kernel, by decide +kernel⟩
abbrev s_best_of : Stmt := top 14
abbrev N_best_of : List Str := ["row", "low", "behind", "known", "due", "found", "side", "coin", "left", "right"]
theorem sc_best_of : FnScope N_best_of ["row", "low", "behind", "known"] (defScope s_best_of) := ⟨rfl, rfl, rfl, by decide +kernel, rfl, by decide +kernel, by decide +kernel⟩
abbrev s_table_of : Stmt := top 17
abbrev N_table_of : List Str := ["row", "plan", "found", "last", "low", "behind", "side"]
theorem sc_table_of : FnScope N_table_of ["row", "plan"] (defScope s_table_of) := ⟨rfl, rfl, rfl, by decide +kernel, rfl, by decide +kernel, by decide +kernel⟩
abbrev s_got : Stmt := top 18
abbrev N_got : List Str := ["row", "low", "behind", "table", "mine", "sides", "least", "side", "coin", "left", "right", "rest", "here"]
theorem sc_got : FnScope N_got ["row", "low", "behind", "table", "mine"] (defScope s_got) := ⟨rfl, rfl, rfl, by decide +kernel, rfl, by decide +kernel, by decide +kernel⟩
abbrev s_planned : Stmt := top 19
abbrev N_planned : List Str := ["row", "plan", "mine", "table"]
theorem sc_planned : FnScope N_planned ["row", "plan", "mine"] (defScope s_planned) := ⟨rfl, rfl, rfl, by decide +kernel, rfl, by decide +kernel, by decide +kernel⟩
abbrev s_plan_of : Stmt := top 23
abbrev N_plan_of : List Str := ["row", "first", "found", "known", "low", "behind"]
theorem sc_plan_of : FnScope N_plan_of ["row", "first"] (defScope s_plan_of) := ⟨rfl, rfl, rfl, by decide +kernel, rfl, by decide +kernel, by decide +kernel⟩
abbrev s_judged : Stmt := top 24
abbrev N_judged : List Str := ["row", "least"]
theorem sc_judged : FnScope N_judged ["row", "least"] (defScope s_judged) := ⟨rfl, rfl, rfl, by decide +kernel, rfl, by decide +kernel, by decide +kernel⟩
abbrev s__law_number : Stmt := top 26
abbrev N__law_number : List Str := ["_law_cell", "_law_at", "_law_whole", "_law_mixed", "_law_more"]
theorem sc__law_number : FnScope N__law_number ["_law_cell", "_law_at", "_law_whole"] (defScope s__law_number) := ⟨rfl, rfl, rfl, by decide +kernel, rfl, by decide +kernel, by decide +kernel⟩
abbrev s__law_says : Stmt := top 27
abbrev N__law_says : List Str := ["_law_said", "_law_due"]
theorem sc__law_says : FnScope N__law_says ["_law_said", "_law_due"] (defScope s__law_says) := ⟨rfl, rfl, rfl, by decide +kernel, rfl, by decide +kernel, by decide +kernel⟩
abbrev s__law_row : Stmt := top 28
abbrev N__law_row : List Str := ["_law_script", "_law_by", "_law_most", "_law_cells", "_law_whole", "_law_found", "_law_kind", "_law_at", "_law_number_here"]
theorem sc__law_row : FnScope N__law_row ["_law_script", "_law_by", "_law_most"] (defScope s__law_row) := ⟨rfl, rfl, rfl, by decide +kernel, rfl, by decide +kernel, by decide +kernel⟩
abbrev s__law_worths : Stmt := top 29
abbrev N__law_worths : List Str := ["_law_row_here", "_law_found", "_law_many", "_law_low", "_law_behind", "_law_one"]
theorem sc__law_worths : FnScope N__law_worths ["_law_row_here"] (defScope s__law_worths) := ⟨rfl, rfl, rfl, by decide +kernel, rfl, by decide +kernel, by decide +kernel⟩
abbrev s__law_got : Stmt := top 30
abbrev N__law_got : List Str := ["_law_row_here", "_law_plan", "_law_mine", "_law_table", "_law_last", "_law_low", "_law_behind", "_law_side", "_law_line", "_law_found", "_law_sum_here", "_law_turn", "_law_coin", "_law_left", "_law_right"]
theorem sc__law_got : FnScope N__law_got ["_law_row_here", "_law_plan", "_law_mine"] (defScope s__law_got) := ⟨rfl, rfl, rfl, by decide +kernel, rfl, by decide +kernel, by decide +kernel⟩
abbrev s__law_shows : Stmt := top 31
abbrev N__law_shows : List Str := ["_law_row_here", "_law_least", "_law_plan", "_law_mine", "_law_told"]
theorem sc__law_shows : FnScope N__law_shows ["_law_row_here", "_law_least", "_law_plan", "_law_mine"] (defScope s__law_shows) := ⟨rfl, rfl, rfl, by decide +kernel, rfl, by decide +kernel, by decide +kernel⟩
abbrev s__law_all : Stmt := top 32
abbrev N__law_all : List Str := ["_law_row_here", "_law_side", "_law_found", "_law_low", "_law_behind"]
theorem sc__law_all : FnScope N__law_all ["_law_row_here", "_law_side"] (defScope s__law_all) := ⟨rfl, rfl, rfl, by decide +kernel, rfl, by decide +kernel, by decide +kernel⟩
abbrev s_law : Stmt := top 33
abbrev N_law : List Str := ["_law_script", "_law_by", "_law_row_here", "_law_due", "_law_many", "_law_told", "_law_plans", "_law_plan", "_law_handed", "_law_one", "_law_other", "_law_least"]
theorem sc_law : FnScope N_law ["_law_script"] (defScope s_law) := ⟨rfl, rfl, rfl, by decide +kernel, rfl, by decide +kernel, by decide +kernel⟩
abbrev s_Gets_init : Stmt := inClass (top 20) 0
abbrev N_Gets_init : List Str := ["self", "plan"]
theorem sc_Gets_init : FnScope N_Gets_init ["self", "plan"] (defScope s_Gets_init) := ⟨rfl, rfl, rfl, by decide +kernel, rfl, by decide +kernel, by decide +kernel⟩
abbrev s_Gets_shows : Stmt := inClass (top 20) 1
abbrev N_Gets_shows : List Str := ["self", "row", "least", "found"]
theorem sc_Gets_shows : FnScope N_Gets_shows ["self", "row", "least"] (defScope s_Gets_shows) := ⟨rfl, rfl, rfl, by decide +kernel, rfl, by decide +kernel, by decide +kernel⟩
abbrev s_Held_init : Stmt := inClass (top 21) 0
abbrev N_Held_init : List Str := ["self", "plan"]
theorem sc_Held_init : FnScope N_Held_init ["self", "plan"] (defScope s_Held_init) := ⟨rfl, rfl, rfl, by decide +kernel, rfl, by decide +kernel, by decide +kernel⟩
abbrev s_Held_shows : Stmt := inClass (top 21) 1
abbrev N_Held_shows : List Str := ["self", "row", "least", "found"]
theorem sc_Held_shows : FnScope N_Held_shows ["self", "row", "least"] (defScope s_Held_shows) := ⟨rfl, rfl, rfl, by decide +kernel, rfl, by decide +kernel, by decide +kernel⟩
structure Ad where
  f_is_whole : Addr
  d_is_whole : FuncData
  f_check_row : Addr
  d_check_row : FuncData
  f_is_side : Addr
  d_is_side : FuncData
  f_worth_of : Addr
  d_worth_of : FuncData
  f_after : Addr
  d_after : FuncData
  f_best_of : Addr
  d_best_of : FuncData
  f_table_of : Addr
  d_table_of : FuncData
  f_got : Addr
  d_got : FuncData
  f_planned : Addr
  d_planned : FuncData
  f_plan_of : Addr
  d_plan_of : FuncData
  f_judged : Addr
  d_judged : FuncData
  f__law_number : Addr
  d__law_number : FuncData
  f__law_says : Addr
  d__law_says : FuncData
  f__law_row : Addr
  d__law_row : FuncData
  f__law_worths : Addr
  d__law_worths : FuncData
  f__law_got : Addr
  d__law_got : FuncData
  f__law_shows : Addr
  d__law_shows : FuncData
  f__law_all : Addr
  d__law_all : FuncData
  f_law : Addr
  d_law : FuncData
  C_EndError : Addr
  C_BadRow : Addr
  C_BadNumber : Addr
  C_Answer : Addr
  C_Gets : Addr
  C_Held : Addr
  f_Gets_init : Addr
  d_Gets_init : FuncData
  f_Gets_shows : Addr
  d_Gets_shows : FuncData
  f_Held_init : Addr
  d_Held_init : FuncData
  f_Held_shows : Addr
  d_Held_shows : FuncData
  t_MOST : Tok
  t_GREATEST : Tok
  t_LEFT : Tok
  t_RIGHT : Tok
structure Tx (K : PySem.W.Frag) (mg : Str → Option Value) (A : Ad) : Prop where
  ball : mg "all" = none
  bbool : mg "bool" = none
  bint : mg "int" = none
  bisinstance : mg "isinstance" = none
  blen : mg "len" = none
  blist : mg "list" = none
  bmax : mg "max" = none
  bmin : mg "min" = none
  brange : mg "range" = none
  bstr : mg "str" = none
  bsum : mg "sum" = none
  gMOST : mg "MOST" = some (.int 12 A.t_MOST)
  gGREATEST : mg "GREATEST" = some (.int 1000000 A.t_GREATEST)
  gLEFT : mg "LEFT" = some (.str "left" A.t_LEFT)
  gRIGHT : mg "RIGHT" = some (.str "right" A.t_RIGHT)
  gis_whole : mg "is_whole" = some (.ref A.f_is_whole)
  Fis_whole : Fun K "is_whole" "is_whole" s_is_whole A.f_is_whole A.d_is_whole
  bis_whole : Binds K A.d_is_whole ["thing"] []
  gcheck_row : mg "check_row" = some (.ref A.f_check_row)
  Fcheck_row : Fun K "check_row" "check_row" s_check_row A.f_check_row A.d_check_row
  bcheck_row : Binds K A.d_check_row ["row"] []
  gis_side : mg "is_side" = some (.ref A.f_is_side)
  Fis_side : Fun K "is_side" "is_side" s_is_side A.f_is_side A.d_is_side
  bis_side : Binds K A.d_is_side ["thing"] []
  gworth_of : mg "worth_of" = some (.ref A.f_worth_of)
  Fworth_of : Fun K "worth_of" "worth_of" s_worth_of A.f_worth_of A.d_worth_of
  bworth_of : Binds K A.d_worth_of ["row", "low", "behind", "known"] []
  gafter : mg "after" = some (.ref A.f_after)
  Fafter : Fun K "after" "after" s_after A.f_after A.d_after
  bafter : Binds K A.d_after ["row", "low", "behind", "side"] []
  gbest_of : mg "best_of" = some (.ref A.f_best_of)
  Fbest_of : Fun K "best_of" "best_of" s_best_of A.f_best_of A.d_best_of
  bbest_of : Binds K A.d_best_of ["row", "low", "behind", "known"] []
  gtable_of : mg "table_of" = some (.ref A.f_table_of)
  Ftable_of : Fun K "table_of" "table_of" s_table_of A.f_table_of A.d_table_of
  btable_of : Binds K A.d_table_of ["row", "plan"] []
  ggot : mg "got" = some (.ref A.f_got)
  Fgot : Fun K "got" "got" s_got A.f_got A.d_got
  bgot : Binds K A.d_got ["row", "low", "behind", "table", "mine"] []
  gplanned : mg "planned" = some (.ref A.f_planned)
  Fplanned : Fun K "planned" "planned" s_planned A.f_planned A.d_planned
  bplanned : Binds K A.d_planned ["row", "plan", "mine"] []
  gplan_of : mg "plan_of" = some (.ref A.f_plan_of)
  Fplan_of : Fun K "plan_of" "plan_of" s_plan_of A.f_plan_of A.d_plan_of
  bplan_of : Binds K A.d_plan_of ["row", "first"] []
  gjudged : mg "judged" = some (.ref A.f_judged)
  Fjudged : Fun K "judged" "judged" s_judged A.f_judged A.d_judged
  bjudged : Binds K A.d_judged ["row", "least"] []
  g_law_number : mg "_law_number" = some (.ref A.f__law_number)
  F_law_number : Fun K "_law_number" "_law_number" s__law_number A.f__law_number A.d__law_number
  b_law_number : Binds K A.d__law_number ["_law_cell", "_law_at", "_law_whole"] []
  g_law_says : mg "_law_says" = some (.ref A.f__law_says)
  F_law_says : Fun K "_law_says" "_law_says" s__law_says A.f__law_says A.d__law_says
  b_law_says : Binds K A.d__law_says ["_law_said", "_law_due"] []
  g_law_row : mg "_law_row" = some (.ref A.f__law_row)
  F_law_row : Fun K "_law_row" "_law_row" s__law_row A.f__law_row A.d__law_row
  b_law_row : Binds K A.d__law_row ["_law_script", "_law_by", "_law_most"] []
  g_law_worths : mg "_law_worths" = some (.ref A.f__law_worths)
  F_law_worths : Fun K "_law_worths" "_law_worths" s__law_worths A.f__law_worths A.d__law_worths
  b_law_worths : Binds K A.d__law_worths ["_law_row_here"] []
  g_law_got : mg "_law_got" = some (.ref A.f__law_got)
  F_law_got : Fun K "_law_got" "_law_got" s__law_got A.f__law_got A.d__law_got
  b_law_got : Binds K A.d__law_got ["_law_row_here", "_law_plan", "_law_mine"] []
  g_law_shows : mg "_law_shows" = some (.ref A.f__law_shows)
  F_law_shows : Fun K "_law_shows" "_law_shows" s__law_shows A.f__law_shows A.d__law_shows
  b_law_shows : Binds K A.d__law_shows ["_law_row_here", "_law_least", "_law_plan", "_law_mine"] []
  g_law_all : mg "_law_all" = some (.ref A.f__law_all)
  F_law_all : Fun K "_law_all" "_law_all" s__law_all A.f__law_all A.d__law_all
  b_law_all : Binds K A.d__law_all ["_law_row_here", "_law_side"] []
  glaw : mg "law" = some (.ref A.f_law)
  Flaw : Fun K "law" "law" s_law A.f_law A.d_law
  blaw : Binds K A.d_law ["_law_script"] []
  gEndError : mg "EndError" = some (.ref A.C_EndError)
  kEndError : PySem.W.keepIn K (.ref A.C_EndError) = true
  xEndError : PySem.W.excIn K A.C_EndError [.type "ValueError", .type "Exception", .type "BaseException", .type "object"] "ValueError.__new__" = true
  BEndError : PySem.W.subIn K (.ref A.C_EndError) (.type "BaseException") = some true
  tEndError : PySem.W.typeIn K (.ref A.C_EndError) = some (.type "type")
  gBadRow : mg "BadRow" = some (.ref A.C_BadRow)
  kBadRow : PySem.W.keepIn K (.ref A.C_BadRow) = true
  xBadRow : PySem.W.excIn K A.C_BadRow [.type "ValueError", .type "Exception", .type "BaseException", .type "object"] "ValueError.__new__" = true
  BBadRow : PySem.W.subIn K (.ref A.C_BadRow) (.type "BaseException") = some true
  tBadRow : PySem.W.typeIn K (.ref A.C_BadRow) = some (.type "type")
  gBadNumber : mg "BadNumber" = some (.ref A.C_BadNumber)
  kBadNumber : PySem.W.keepIn K (.ref A.C_BadNumber) = true
  xBadNumber : PySem.W.excIn K A.C_BadNumber [.type "ValueError", .type "Exception", .type "BaseException", .type "object"] "ValueError.__new__" = true
  BBadNumber : PySem.W.subIn K (.ref A.C_BadNumber) (.type "BaseException") = some true
  tBadNumber : PySem.W.typeIn K (.ref A.C_BadNumber) = some (.type "type")
  gAnswer : mg "Answer" = some (.ref A.C_Answer)
  gGets : mg "Gets" = some (.ref A.C_Gets)
  gHeld : mg "Held" = some (.ref A.C_Held)
  clGets : Cls K A.C_Gets
  npGets : NoAttr K A.C_Gets "plan"
  tyGets : OwnTy K A.C_Gets
  kitGets_Answer : PySem.W.kitOne K (.ref A.C_Gets) (.ref A.C_Answer) = some true
  kitGets_Gets : PySem.W.kitOne K (.ref A.C_Gets) (.ref A.C_Gets) = some true
  kitGets_Held : PySem.W.kitOne K (.ref A.C_Gets) (.ref A.C_Held) = some false
  FGets_init : Fun K "__init__" "Gets.__init__" s_Gets_init A.f_Gets_init A.d_Gets_init
  bGets_init : Binds K A.d_Gets_init ["self", "plan"] []
  MGets : Mk K A.C_Gets A.f_Gets_init
  FGets_shows : Fun K "shows" "Gets.shows" s_Gets_shows A.f_Gets_shows A.d_Gets_shows
  bGets_shows : Binds K A.d_Gets_shows ["self", "row", "least"] []
  mGets_shows : Meth K A.C_Gets "shows" A.f_Gets_shows
  clHeld : Cls K A.C_Held
  npHeld : NoAttr K A.C_Held "plan"
  tyHeld : OwnTy K A.C_Held
  kitHeld_Answer : PySem.W.kitOne K (.ref A.C_Held) (.ref A.C_Answer) = some true
  kitHeld_Gets : PySem.W.kitOne K (.ref A.C_Held) (.ref A.C_Gets) = some false
  kitHeld_Held : PySem.W.kitOne K (.ref A.C_Held) (.ref A.C_Held) = some true
  FHeld_init : Fun K "__init__" "Held.__init__" s_Held_init A.f_Held_init A.d_Held_init
  bHeld_init : Binds K A.d_Held_init ["self", "plan"] []
  MHeld : Mk K A.C_Held A.f_Held_init
  FHeld_shows : Fun K "shows" "Held.shows" s_Held_shows A.f_Held_shows A.d_Held_shows
  bHeld_shows : Binds K A.d_Held_shows ["self", "row", "least"] []
  mHeld_shows : Meth K A.C_Held "shows" A.f_Held_shows
end K03
namespace K03
open PySem PySem.Spec PyProof.Rows L2 RE
section
variable {P : Program} {w : World} {K : PySem.W.Frag} {mg : Str → Option Value} {base : Heap} {A : Ad}
theorem ok_is_whole (T : Tx K mg A) : FnOk P w K mg base CX0 1 A.f_is_whole A.d_is_whole ["thing"] (spWhole K) := by
  refine T.Fis_whole.ok sc_is_whole (fun vs H Q E h => ?_) (fun cdv A' outer s H vs Q E hr h => ?_)
  · obtain ⟨x, T, rfl, _⟩ := h
    rfl
  · obtain ⟨x, ty, rfl, hx, q⟩ := h
    refine ⟨_, (pss_one (ps_ret (pe_and (pe_callB call_isi (by rfl) T.bisinstance (by decide +kernel) (pa_cons (pv 0) (pa_cons (pe_bltn (v := .ty "int") (by rfl) T.bint (by decide +kernel) rfl) pa_nil))) (pe_one (pe_not (pe_callB call_isi (by rfl) T.bisinstance (by decide +kernel) (pa_cons (pv 0) (pa_cons (pe_bltn (v := .ty "bool") (by rfl) T.bbool (by decide +kernel) rfl) pa_nil)))))))), ?_⟩
    refine ⟨_, rfl, _, _, _, _, _, rfl, .ty _, hx.ty, kit_int hx.mem, _, rfl, ?_⟩
    revert q
    cases e : (ty == "int" || ty == "bool") with
    | false =>
      intro q
      refine iteF ?_
      have e1 : (ty == "int") = false := (Bool.or_eq_false_iff.mp e).1
      rw [e1] at q
      exact q
    | true =>
      intro q
      refine iteT ?_
      refine ⟨_, rfl, _, _, _, _, _, rfl, .ty _, hx.ty, kit_bool hx.mem, _, rfl, ?_⟩
      have e2 : (!(ty == "bool")) = (ty == "int") := by
        rcases Bool.or_eq_true_iff.mp e with z | z
        · have := eq_of_beq z
          subst this
          decide
        · have := eq_of_beq z
          subst this
          decide
      rw [e2]
      exact q
theorem ok_check_row (T : Tx K mg A) : FnOk P w K mg base (L2.CX P w) 2 A.f_check_row A.d_check_row ["row"] (spCheck K A.C_BadRow) := by
  have Gis_whole : FnOk P w K mg base CX0 1 A.f_is_whole A.d_is_whole ["thing"] (spWhole K) := ok_is_whole T
  refine T.Fcheck_row.okX sc_check_row (fun vs H Q E h => ?_) (fun cdv A' outer s H vs Q E hr h => ?_)
  · obtain ⟨x, rfl, _⟩ := h
    rfl
  · obtain ⟨x, rfl, h⟩ := h
    have h' : (∃ ty, PV K H x ty ∧ (ty == "list") = false ∧ ∀ H', Same H H' → E (.ref A.C_BadRow) none H') ∨
        ∃ (a : Addr) (xs : List V), x = .ref a ∧ SqL K H a xs ∧ (12 < xs.length → ∀ H', Same H H' → E (.ref A.C_BadRow) none H') ∧
        (xs.length ≤ 12 → (∀ y ∈ xs, ∃ T, PV K H y T)) ∧ (xs.length ≤ 12 → xs.all coinB = false → ∀ H', Same H H' → E (.ref A.C_BadRow) none H') ∧ (xs.length ≤ 12 → xs.all coinB = true → ∀ H', Same H H' → Q .non H') := by
      rcases h with ⟨ns, ⟨a, ex, hs, hok⟩, q⟩ | ⟨hn, q⟩
      · refine .inr ⟨a, _, ex, hs, (fun h => ?_), (fun _ y hy => ?_), (fun _ h => ?_), (fun _ _ => q)⟩
        · rw [List.length_map] at h
          have := hok.1
          omega
        · obtain ⟨z, _, rfl⟩ := List.mem_map.mp hy
          exact ⟨_, pv_int z⟩
        · rw [hok.all] at h
          cases h
      · rcases hn with ⟨ty, hp, e⟩ | ⟨a, xs, ex, hs, hb⟩
        · exact .inl ⟨ty, hp, e, q⟩
        · rcases hb with hb | ⟨hb, hty, ha⟩
          · exact .inr ⟨a, xs, ex, hs, (fun _ => q), (fun h => by omega), (fun h => by omega), (fun h => by omega)⟩
          · exact .inr ⟨a, xs, ex, hs, (fun h => by omega), (fun _ => hty), (fun _ _ => q), (fun _ h => by rw [ha] at h; cases h)⟩
    refine ⟨_, (pss_cons (ps_if (PW.pt (pw_or (pt_not (pt_val (pe_callB call_isi (by rfl) T.bisinstance (by decide +kernel) (pa_cons (pv 0) (pa_cons (pe_bltn (v := .ty "list") (by rfl) T.blist (by decide +kernel) rfl) pa_nil))))) (pw_or1 (pt_cmpR op_gt (pe_callB call_len_seq (by rfl) T.blen PySem.boot_len (pa_cons (pv 0) pa_nil)) (pe_glob (v := .int 12) (by rfl) T.gMOST ⟨_, rfl⟩) (nomark _))))) (pss_one (ps_raise rfl (takes_of rfl rfl rfl rfl) (pmk_own PySem.F.excBase_ValueError T.xBadRow T.gBadRow T.kBadRow (raises_own T.BBadRow T.tBadRow) rfl))) pss_nil)
      (pss_one (ps_if (pt_not (pt_val (pe_callB (cr_all rfl) (by rfl) T.ball (by decide +kernel) (pa_cons (pe_lc (own := [("coin", 1)]) (by rfl) sc_check_row.nd (pi_list (pv 0)) (blkOk_by (own := [("coin", 1)]) (N := N_check_row) (sc := defScope s_check_row) (by decide +kernel)) (fun _ _ _ _ _ => (pg_name (i := 1) sc_check_row.nd rfl (Or.inl rfl))) (fun _ _ _ _ _ => pts_nil) (fun _ _ _ _ _ => (pe_and (pe_call Gis_whole (hr.mono (by first | decide | omega)) (by rfl) T.gis_whole T.Fis_whole.kp T.bis_whole .nil pass0 (pa_cons (pv 1) pa_nil)) (pe_one (pe_chain op_le op_le pe_int (pv 1) (pe_glob (v := .int 1000000) (by rfl) T.gGREATEST ⟨_, rfl⟩)))))) pa_nil)))) (pss_one (ps_raise rfl (takes_of rfl rfl rfl rfl) (pmk_own PySem.F.excBase_ValueError T.xBadRow T.gBadRow T.kBadRow (raises_own T.BBadRow T.tBadRow) rfl))) pss_nil))), ?_⟩
    rcases h' with ⟨ty, hp, e, q⟩ | ⟨a, xs, ex, hs, h12, hty, hbad, hgood⟩
    · refine ⟨_, rfl, _, _, _, _, _, rfl, .ty _, hp.ty, kit_list hp.mem, _, rfl, ?_⟩
      rw [e]
      exact iteT (iteT (q H (Same.refl H)))
    · subst ex
      have hp := pv_sq hs
      refine ⟨_, rfl, _, _, _, _, _, rfl, .ty _, hp.ty, kit_list hp.mem, _, rfl, ?_⟩
      refine iteF ?_
      refine ⟨_, rfl, a, xs, rfl, .inl hs, _, _, rfl, rfl, _, rfl, ?_⟩
      refine ite2 (fun c => ?_) (fun c => ?_)
      · have c' : (12 : Int) < (xs.length : Int) := of_decide_eq_true c
        exact h12 (by omega) H (Same.refl H)
      · have c' : ¬ (12 : Int) < (xs.length : Int) := of_decide_eq_false (Bool.eq_false_iff.mpr c)
        have hl : xs.length ≤ 12 := by omega
        refine ⟨_, rfl, a, rfl, ⟨_, hs⟩, fun D nD => lc_list (K := K) (a := a) (xs := xs) (fun i H2 => Same H H2 ∧ H2 D = some (.lst ((xs.take i).map fun y => V.bl (coinB y)))) ⟨same_new nD _, upd_same⟩ (fun i H2 _ h2 => h2.1.seq hs) ?_ ?_⟩
        · rintro i y H2 hi ⟨s2, e2⟩
          obtain ⟨ty, hy⟩ := hty hl y (List.mem_of_getElem? hi)
          refine ⟨rfl, ?_⟩
          have hlt : i < xs.length := (List.getElem?_eq_some_iff.mp hi).1
          have fin : ∀ b, b = coinB y → ∃ acc, H2 D = some (.lst acc) ∧ acc.length < sizeLine ∧ Same H (upd H2 D (.lst (acc ++ [V.bl b]))) ∧ (upd H2 D (.lst (acc ++ [V.bl b]))) D = some (.lst ((xs.take (i + 1)).map fun y => V.bl (coinB y))) := by
            rintro b rfl
            refine ⟨_, e2, ?_, fun c o e => ?_, ?_⟩
            · rw [List.length_map, List.length_take]
              exact size_lt (by omega)
            · rw [upd_ne (ne_of_none e nD)]
              exact s2 c o e
            · rw [upd_same, List.take_add_one, hi, List.map_append]
              rfl
          refine ⟨_, rfl, y, ty, rfl, hy.mono s2, _, rfl, ?_⟩
          cases e : (ty == "int") with
          | false =>
            refine iteF ?_
            refine fin _ ?_
            cases y <;> first | rfl | (have := hy.of_int; subst this; cases e)
          | true =>
            refine iteT ?_
            obtain ⟨z, rfl⟩ := hy.int_of (eq_of_beq e)
            refine ⟨_, rfl, 0, z, rfl, rfl, _, rfl, ?_⟩
            by_cases c0 : (0 : Int) ≤ z
            · rw [decide_eq_true c0]
              refine iteT ?_
              refine ⟨z, 1000000, rfl, rfl, ?_⟩
              exact fin _ (by simp [coinB, c0])
            · rw [decide_eq_false c0]
              refine iteF ?_
              exact fin _ (by simp [coinB, c0])
        · rintro H2 ⟨s2, e2⟩
          rw [List.take_length] at e2
          have e3 : (xs.map fun y => V.bl (coinB y)) = (xs.map coinB).map V.bl := by rw [List.map_map]; rfl
          rw [e3] at e2
          refine ⟨D, _, rfl, SqL.of e2, _, rfl, ?_⟩
          have e4 : (xs.map coinB).all id = xs.all coinB := by rw [List.all_map]; rfl
          rw [e4]
          cases e : xs.all coinB with
          | true => exact iteF (hgood hl e H2 s2)
          | false => exact iteT (hbad hl e H2 s2)
end
end K03
namespace K03
open PySem PySem.Spec PyProof.Rows L2 RE
section
variable {P : Program} {w : World} {K : PySem.W.Frag} {mg : Str → Option Value} {base : Heap} {A : Ad}
theorem step_worth_of (T : Tx K mg A) {n : Nat} (Gworth_of : FnOk P w K mg base CX0 n A.f_worth_of A.d_worth_of ["row", "low", "behind", "known"] (spWorthOf K n)) :
    FnOk P w K mg base CX0 (n + 1) A.f_worth_of A.d_worth_of ["row", "low", "behind", "known"] (spWorthOf K (n + 1)) := by
  refine T.Fworth_of.ok sc_worth_of (fun vs H Q E h => ?_) (fun cdv A' outer s H vs Q E hr h => ?_)
  · obtain ⟨a, d, ns, low, m, i, j, kvs, rfl, _⟩ := h
    rfl
  · obtain ⟨a, d, ns, low, m, i, j, kvs, rfl, ei, ej, hS, hd, hk, h12, hm, hn, q⟩ := h
    refine ⟨_, (pss_cons (ps_if (pt_cmpR op_eq (pv 1) (pv 2) (nomark _)) (pss_one (ps_ret pe_int)) pss_nil)
      (pss_cons (ps_if (pt_cmp (pc_dnotin (hu_of hr) (pe_tup (pa_cons (pv 1) (pa_cons (pv 2) pa_nil))) (pv 3))) (pss_cons (ps_set (i := 4) sc_worth_of.nd rfl (Or.inl rfl) (pe_op op_sub (pe_ix ix_list (pv 0) (pv 1) (fun _ _ => rfl)) (pe_call Gworth_of (hr.mono (by first | decide | omega)) (by rfl) T.gworth_of T.Fworth_of.kp T.bworth_of .nil pass0 (pa_cons (pv 0) (pa_cons (pe_op op_add (pv 1) pe_int) (pa_cons (pv 2) (pa_cons (pv 3) pa_nil)))))))
      (pss_one (ps_dput (hu_of hr) (pv 3) (pe_tup (pa_cons (pv 1) (pa_cons (pv 2) pa_nil))) (pe_callB (call_max2 rfl) (by rfl) T.bmax (by decide +kernel) (pa_cons (pv 4) (pa_cons (pe_op op_sub (pe_ix ix_list (pv 0) (pe_op op_sub (pv 2) pe_int) (fun _ _ => rfl)) (pe_call Gworth_of (hr.mono (by first | decide | omega)) (by rfl) T.gworth_of T.Fworth_of.kp T.bworth_of .nil pass0 (pa_cons (pv 0) (pa_cons (pv 1) (pa_cons (pe_op op_sub (pv 2) pe_int) (pa_cons (pv 3) pa_nil)))))) pa_nil))) rfl))) pss_nil)
      (pss_one (ps_ret (pe_dget (hu_of hr) (pv 3) (pe_tup (pa_cons (pv 1) (pa_cons (pv 2) pa_nil))) (fun _ _ => rfl)))))), ?_⟩
    -- low == behind
    refine ⟨_, rfl, _, rfl, rfl, _, rfl, ?_⟩
    refine ite2 (fun c => ?_) (fun c => ?_)
    · have c' : i = j := V.int.inj (of_decide_eq_true c)
      have m0 : m = 0 := by omega
      subst m0
      have q' := q H kvs (SameBut.refl d H) hd hk
      rw [wv_zero] at q'
      exact q'
    · have c' : ¬ V.int i = V.int j := of_decide_eq_false (Bool.eq_false_iff.mpr c)
      have m0 : m ≠ 0 := fun e => c' (congrArg V.int (by omega))
      obtain ⟨m, rfl⟩ : ∃ m', m = m' + 1 := ⟨m - 1, by omega⟩
      have key : [V.int i, V.int j] = (keyOf low (m + 1)).map kV := by
        show [V.int i, V.int j] = [V.int (low : Int), V.int ((low + (m + 1) : Nat) : Int)]
        rw [ei, ej]
      -- (low, behind) not in known
      refine ⟨_, rfl, _, rfl, (by show 2 ≤ sizeLine; decide), fun p hp => ?_⟩
      have npd : p ≠ d := (ne_of_none hd hp).symm
      have hd1 : (upd H p (.tup [V.int i, V.int j])) d = some (.dT kvs) := by rw [upd_ne npd.symm]; exact hd
      have s1 : Same H (upd H p (.tup [V.int i, V.int j])) := same_new hp _
      refine ⟨_, rfl, d, _, rfl, DGet.t (k := keyOf low (m + 1)) hd1 (by rw [upd_same, key]), _, rfl, ?_⟩
      generalize hH1 : upd H p (.tup [V.int i, V.int j]) = H1 at hd1 s1 ⊢
      -- the last row: known[(low, behind)]
      have last : ∀ (H2 : Hp) (kvs2 : List (List Key × V)), SameBut d H H2 → H2 d = some (.dT kvs2) → Known ns kvs2 → valV kvs2 (keyOf low (m + 1)) = some (.int (wv ns (m + 1) low)) →
          ∀ p2, H2 p2 = none → DGet (upd H2 p2 (.tup [V.int i, V.int j])) d (.ref p2) (some (.int (wv ns (m + 1) low))) ∧ Q (.int (wv ns (m + 1) low)) (upd H2 p2 (.tup [V.int i, V.int j])) := fun H2 kvs2 s2 hd2 hk2 hv p2 np2 => by
        have ne2 : p2 ≠ d := (ne_of_none hd2 np2).symm
        have hd3 : (upd H2 p2 (.tup [V.int i, V.int j])) d = some (.dT kvs2) := by rw [upd_ne ne2.symm]; exact hd2
        refine ⟨?_, q _ kvs2 (s2.trans (.of (same_new np2 _))) hd3 hk2⟩
        have g := DGet.t (k := keyOf low (m + 1)) (b := p2) hd3 (by rw [upd_same, key])
        rw [hv] at g
        exact g
      cases e : valV kvs (keyOf low (m + 1)) with
      | some v =>
        refine iteF ?_
        have ev := hk.get e
        subst ev
        refine ⟨_, rfl, _, rfl, _, rfl, (by show 2 ≤ sizeLine; decide), fun p2 np2 => ?_⟩
        obtain ⟨g, q2⟩ := last H1 kvs (.of s1) hd1 hk e p2 np2
        exact ⟨d, _, rfl, g, q2⟩
      | none =>
        refine iteT ?_
        -- first = row[low] - worth_of(row, low + 1, behind, known)
        have hS1 := s1.seq hS
        refine ⟨_, rfl, _, rfl, a, _, _, _, rfl, rfl, hS1, at_get ei (by omega), _, rfl, _, rfl, _, _, rfl, rfl, _, rfl, _, rfl, ?_⟩
        refine ⟨a, d, ns, low + 1, m, _, _, kvs, rfl, by omega, by omega, hS1, hd1, hk, h12, by omega, by omega, fun H2 kvs2 s2 hd2 hk2 => ?_⟩
        have hS2 := s2.seq hd1 hS1
        refine ⟨_, _, rfl, rfl, ?_⟩
        -- known[(low, behind)] = max(first, ..)
        refine ⟨_, rfl, _, rfl, _, rfl, _, _, rfl, rfl, a, _, _, _, rfl, rfl, hS2, at_get (j := low + m) (by omega) (by omega), _, rfl, _, rfl, _, rfl, _, _, rfl, rfl, _, rfl, ?_⟩
        refine ⟨a, d, ns, low, m, _, _, kvs2, rfl, by omega, by omega, hS2, hd2, hk2, h12, by omega, by omega, fun H3 kvs3 s3 hd3 hk3 => ?_⟩
        refine ⟨_, _, rfl, rfl, _, _, rfl, ?_⟩
        have ew : (if ns.getD (low + m) 0 - wv ns m low > ns.getD low 0 - wv ns m (low + 1) then ns.getD (low + m) 0 - wv ns m low else ns.getD low 0 - wv ns m (low + 1)) = wv ns (m + 1) low := (wv_succ ns m low).symm
        rw [ew]
        refine ⟨_, rfl, _, rfl, _, rfl, (by show 2 ≤ sizeLine; decide), fun p3 np3 => ?_⟩
        have ne3 : p3 ≠ d := (ne_of_none hd3 np3).symm
        have hd4 : (upd H3 p3 (.tup [V.int i, V.int j])) d = some (.dT kvs3) := by rw [upd_ne ne3.symm]; exact hd3
        have hl : kvs3.length < sizeLine := size_lt (by have := hk3.len h12; omega)
        refine ⟨d, _, rfl, DPut.t (k := keyOf low (m + 1)) hd4 (by rw [upd_same, key]) hl, ?_⟩
        have s4 : SameBut d H (upd (upd H3 p3 (.tup [V.int i, V.int j])) d (.dT (putK kvs3 (keyOf low (m + 1)) (.int (wv ns (m + 1) low))))) := ((((SameBut.of s1).trans s2).trans s3).trans (.of (same_new np3 _))).trans (.put _)
        refine ⟨_, rfl, _, rfl, _, rfl, (by show 2 ≤ sizeLine; decide), fun p5 np5 => ?_⟩
        obtain ⟨g, q2⟩ := last _ _ s4 upd_same (hk3.put hm) (by rw [valV_put, if_pos rfl]) p5 np5
        exact ⟨d, _, rfl, g, q2⟩
theorem worth_of_all (T : Tx K mg A) : ∀ n : Nat, FnOk P w K mg base CX0 n A.f_worth_of A.d_worth_of ["row", "low", "behind", "known"] (spWorthOf K n)
  | 0 => by
    have no : ∀ vs H Q E, ¬ spWorthOf K 0 vs H Q E := fun vs H Q E h => by
      obtain ⟨a, d, ns, low, m, i, j, kvs, _, _, _, _, _, _, _, _, h0, _⟩ := h
      omega
    exact ⟨fun vs H Q E h => absurd h (no vs H Q E), fun A outer s H args us vs Q E _ _ _ _ h => absurd h (no vs H Q E)⟩
  | n + 1 => step_worth_of T (worth_of_all T n)
theorem ok_worth_of (T : Tx K mg A) : FnOk P w K mg base CX0 13 A.f_worth_of A.d_worth_of ["row", "low", "behind", "known"] (spWorthOf K 13) := worth_of_all T 13
theorem ok_after (T : Tx K mg A) : FnOk P w K mg base CX0 1 A.f_after A.d_after ["row", "low", "behind", "side"] (spAfter K) := by
  refine T.Fafter.ok sc_after (fun vs H Q E h => ?_) (fun cdv A' outer s H vs Q E hr h => ?_)
  · obtain ⟨a, ns, low, m, i, j, b, rfl, _⟩ := h
    rfl
  · obtain ⟨a, ns, low, m, i, j, b, rfl, ei, ej, hS, hm, q⟩ := h
    refine ⟨_, (pss_cons (ps_if (pt_cmpR op_eq (pv 3) (pe_glob (v := .str "left") (by rfl) T.gLEFT ⟨_, rfl⟩) (nomark _)) (pss_one (ps_ret (pe_tup (pa_cons (pe_ix ix_list (pv 0) (pv 1) (fun _ _ => rfl)) (pa_cons (pe_op op_add (pv 1) pe_int) (pa_cons (pv 2) pa_nil)))))) pss_nil)
      (pss_one (ps_ret (pe_tup (pa_cons (pe_ix ix_list (pv 0) (pe_op op_sub (pv 2) pe_int) (fun _ _ => rfl)) (pa_cons (pv 1) (pa_cons (pe_op op_sub (pv 2) pe_int) pa_nil))))))), ?_⟩
    refine ⟨_, rfl, rfl, _, rfl, ?_⟩
    cases b with
    | true =>
      have e : decide (V.str (sideS true) = V.str "left") = true := decide_eq_true rfl
      rw [e]
      refine iteT ?_
      refine ⟨_, rfl, _, rfl, a, _, _, _, rfl, rfl, hS, at_get ei (by omega), _, rfl, _, _, rfl, rfl, _, rfl, (by show 3 ≤ sizeLine; decide), fun p hp => ?_⟩
      have q' := q p hp
      have e1 : i + 1 = ((low + 1 : Nat) : Int) := by omega
      have e2 : j = ((low + 1 + m : Nat) : Int) := by omega
      show Q (.ref p) (upd H p (.tup [V.int (ns.getD low 0), V.int (i + 1), V.int j]))
      rw [e1, e2]
      exact q'
    | false =>
      have e : decide (V.str (sideS false) = V.str "left") = false := decide_eq_false (fun z => absurd (V.str.inj z) (by decide +kernel))
      rw [e]
      refine iteF ?_
      refine ⟨_, rfl, _, rfl, _, _, rfl, rfl, a, _, _, _, rfl, rfl, hS, at_get (j := low + m) (by omega) (by omega), _, rfl, _, rfl, _, _, rfl, rfl, (by show 3 ≤ sizeLine; decide), fun p hp => ?_⟩
      have q' := q p hp
      have e2 : j - 1 = ((low + m : Nat) : Int) := by omega
      show Q (.ref p) (upd H p (.tup [V.int (ns.getD (low + m) 0), V.int i, V.int (j - 1)]))
      rw [ei, e2]
      exact q'
end
end K03
namespace K03
open PySem PySem.Spec PyProof.Rows L2 RE
section
variable {P : Program} {w : World} {K : PySem.W.Frag} {mg : Str → Option Value} {base : Heap} {A : Ad}
theorem ok_best_of (T : Tx K mg A) : FnOk P w K mg base CX0 14 A.f_best_of A.d_best_of ["row", "low", "behind", "known"] (spBestOf K) := by
  have Gworth_of : FnOk P w K mg base CX0 13 A.f_worth_of A.d_worth_of ["row", "low", "behind", "known"] (spWorthOf K 13) := ok_worth_of T
  have Gafter : FnOk P w K mg base CX0 1 A.f_after A.d_after ["row", "low", "behind", "side"] (spAfter K) := ok_after T
  refine T.Fbest_of.ok sc_best_of (fun vs H Q E h => ?_) (fun cdv A' outer s H vs Q E hr h => ?_)
  · obtain ⟨a, d, ns, low, m, i, j, kvs, rfl, _⟩ := h
    rfl
  · obtain ⟨a, d, ns, low, m, i, j, kvs, rfl, ei, ej, hS, hd, hk, h12, hm, q⟩ := h
    refine ⟨_, (pss_cons (ps_par (i := 4) (j := 5) rfl sc_best_of.nd rfl rfl (by decide) rfl rfl (pa_cons (pe_call Gworth_of (hr.mono (by first | decide | omega)) (by rfl) T.gworth_of T.Fworth_of.kp T.bworth_of .nil pass0 (pa_cons (pv 0) (pa_cons (pv 1) (pa_cons (pv 2) (pa_cons (pv 3) pa_nil))))) (pa_cons (pe_lst pa_nil) pa_nil)) (by rfl))
      (pss_cons (ps_for PassesOwn.never rfl (pi_tup (pe_tup (pa_cons (pe_glob (v := .str "left") (by rfl) T.gLEFT ⟨_, rfl⟩) (pa_cons (pe_glob (v := .str "right") (by rfl) T.gRIGHT ⟨_, rfl⟩) pa_nil)))) (pg_name (i := 6) sc_best_of.nd rfl (Or.inl rfl))
      (pss_cons (ps_asg (pe_call Gafter (hr.mono (by first | decide | omega)) (by rfl) T.gafter T.Fafter.kp T.bafter .nil pass0 (pa_cons (pv 0) (pa_cons (pv 1) (pa_cons (pv 2) (pa_cons (pv 6) pa_nil))))) (pg_tup rfl (pgs_cons (pg_name (i := 7) sc_best_of.nd rfl (Or.inl rfl)) (pgs_cons (pg_name (i := 8) sc_best_of.nd rfl (Or.inl rfl)) (pgs_cons (pg_name (i := 9) sc_best_of.nd rfl (Or.inl rfl)) pgs_nil)))))
      (pss_one (ps_if (pt_cmpR op_eq (pe_op op_sub (pv 7) (pe_call Gworth_of (hr.mono (by first | decide | omega)) (by rfl) T.gworth_of T.Fworth_of.kp T.bworth_of .nil pass0 (pa_cons (pv 0) (pa_cons (pv 8) (pa_cons (pv 9) (pa_cons (pv 3) pa_nil)))))) (pv 4) (nomark _)) (pss_one (ps_expr (pe_bm PySem.F.plainAttrs_list PySem.F.slot_list_append PySem.F.type_list_append mt_append (pv 5) (pa_cons (pv 6) pa_nil)))) pss_nil))))
      (pss_one (ps_ret (pv 5))))), ?_⟩
    -- due, found = worth_of(row, low, behind, known), []
    refine ⟨_, rfl, _, rfl, _, rfl, _, rfl, ?_⟩
    refine ⟨a, d, ns, low, m + 1, _, _, kvs, rfl, ei, ej, hS, hd, hk, h12, hm, by omega, fun H1 kvs1 s1 hd1 hk1 => ?_⟩
    refine ⟨Nat.zero_le _, fun f nf => ⟨_, _, rfl, ?_⟩⟩
    have nfd : f ≠ d := (ne_of_none hd1 nf).symm
    have nfH : H f = none := by
      cases z : H f with
      | none => rfl
      | some o =>
        have := s1 f o nfd z
        rw [nf] at this
        cases this
    -- for side in (LEFT, RIGHT)
    refine ⟨(by show 2 ≤ sizeLine; decide), fun t nt => ⟨t, rfl, ⟨_, SqT.of upd_same⟩, ?_⟩⟩
    have ntf : f ≠ t := ne_of_none upd_same nt
    have hd1' : (upd H1 f (.lst [])) d = some (.dT kvs1) := by rw [upd_ne nfd.symm]; exact hd1
    have ntd : d ≠ t := ne_of_none hd1' nt
    refine for_tup (K := K) (a := t) (xs := [V.str "left", V.str "right"]) (fun k σ H2 => ∃ kvs2 x6 x7 x8 x9, σ = [some (.ref a), some (.int i), some (.int j), some (.ref d), some (.int (wv ns (m + 1) low)), some (.ref f), x6, x7, x8, x9] ∧
      SameBut d H H2 ∧ H2 d = some (.dT kvs2) ∧ Known ns kvs2 ∧ H2 f = some (.lst ((([true, false].take k).filter (bestB ns low m)).map fun b => V.str (sideS b))) ∧ H2 t = some (.tup [V.str "left", V.str "right"])) ?_ (fun k σ H2 _ ⟨_, _, _, _, _, _, _, _, _, _, ht⟩ => SqT.of ht) ?_ ?_
    · refine ⟨kvs1, none, none, none, none, rfl, fun b o nb e => ?_, ?_, hk1, ?_, upd_same⟩
      · have e1 := s1 b o nb e
        have n1 : b ≠ f := ne_of_none e nfH
        have e2 : (upd H1 f (.lst [])) b = some o := by rw [upd_ne n1]; exact e1
        rw [upd_ne (ne_of_none e2 nt)]
        exact e2
      · rw [upd_ne ntd]
        exact hd1'
      · rw [upd_ne ntf, upd_same]
        rfl
    · rintro k y σ H2 hi ⟨kvs2, x6, x7, x8, x9, rfl, s2, hd2, hk2, hf2, ht2⟩
      obtain ⟨b, rfl, hb⟩ : ∃ b, y = V.str (sideS b) ∧ [true, false][k]? = some b := by
        match k, hi with
        | 0, hi => exact ⟨true, (Option.some.inj hi).symm, rfl⟩
        | 1, hi => exact ⟨false, (Option.some.inj hi).symm, rfl⟩
        | k + 2, hi => simp at hi
      have hS2 := s2.seq hd hS
      -- coin, left, right = after(row, low, behind, side)
      refine ⟨_, rfl, _, rfl, _, rfl, _, rfl, ?_⟩
      refine ⟨a, ns, low, m, _, _, b, rfl, ei, ej, hS2, hm, fun p np => ?_⟩
      refine ⟨p, _, rfl, SqT.of upd_same, rfl, _, _, rfl, _, _, rfl, _, _, rfl, rfl, ?_⟩
      have npd : d ≠ p := ne_of_none hd2 np
      have hd3 : (upd H2 p (.tup [.int (coinOf ns b low m), .int (lowOf b low : Nat), .int ((lowOf b low + m : Nat) : Int)])) d = some (.dT kvs2) := by rw [upd_ne npd]; exact hd2
      have s3 : Same H2 (upd H2 p (.tup [.int (coinOf ns b low m), .int (lowOf b low : Nat), .int ((lowOf b low + m : Nat) : Int)])) := same_new np _
      -- if coin - worth_of(row, left, right, known) == due
      refine ⟨_, rfl, _, rfl, _, rfl, _, rfl, _, rfl, ?_⟩
      refine ⟨a, d, ns, lowOf b low, m, _, _, kvs2, rfl, rfl, rfl, s3.seq hS2, hd3, hk2, h12, by have := lowOf_le b low m; omega, by omega, fun H4 kvs4 s4 hd4 hk4 => ?_⟩
      refine ⟨_, _, rfl, rfl, _, rfl, rfl, _, rfl, ?_⟩
      have s24 : SameBut d H2 H4 := (SameBut.of s3).trans s4
      have hf4 := s24 f _ nfd hf2
      have ht4 := s24 t _ ntd.symm ht2
      have cond : decide (V.int (coinOf ns b low m - wv ns m (lowOf b low)) = V.int (wv ns (m + 1) low)) = bestB ns low m b := by
        unfold bestB
        by_cases c : coinOf ns b low m - wv ns m (lowOf b low) = wv ns (m + 1) low
        · rw [decide_eq_true c, decide_eq_true (congrArg V.int c)]
        · rw [decide_eq_false c, decide_eq_false (fun z => c (V.int.inj z))]
      have tk : ([true, false].take (k + 1)).filter (bestB ns low m) = ([true, false].take k).filter (bestB ns low m) ++ (if bestB ns low m b = true then [b] else []) := by
        rw [List.take_add_one, hb, List.filter_append]
        congr 1
        by_cases c : bestB ns low m b = true
        · rw [if_pos c]
          simp [c]
        · rw [if_neg c]
          simp [c]
      rw [cond]
      cases c : bestB ns low m b with
      | true =>
        refine iteT ?_
        refine ⟨_, rfl, .inl ⟨rfl, _, SqL.of hf4⟩, _, rfl, f, _, _, rfl, rfl, hf4, ?_, ?_⟩
        · rw [List.length_map]
          have z := List.length_filter_le (bestB ns low m) ([true, false].take k)
          rw [List.length_take] at z
          exact size_lt (by have : [true, false].length = 2 := rfl; omega)
        · refine ⟨kvs4, _, _, _, _, rfl, fun b' o nb e => ?_, ?_, hk4, ?_, ?_⟩
          · rw [upd_ne (ne_of_none e nfH)]
            exact s24 b' o nb (s2 b' o nb e)
          · rw [upd_ne nfd.symm]
            exact hd4
          · rw [upd_same, tk, c, if_pos rfl, List.map_append]
            rfl
          · rw [upd_ne ntf.symm]
            exact ht4
      | false =>
        refine iteF ?_
        refine ⟨kvs4, _, _, _, _, rfl, s2.trans s24, hd4, hk4, ?_, ht4⟩
        rw [tk, c, if_neg Bool.false_ne_true, List.append_nil]
        exact hf4
    · rintro σ H2 ⟨kvs2, x6, x7, x8, x9, rfl, s2, hd2, hk2, hf2, ht2⟩
      refine ⟨_, rfl, ?_⟩
      refine q H2 kvs2 f s2 hd2 hk2 nfH ?_
      rw [ends_filter]
      exact hf2
end
end K03
namespace K03
open PySem PySem.Spec PyProof.Rows L2 RE
section
variable {P : Program} {w : World} {K : PySem.W.Frag} {mg : Str → Option Value} {base : Heap} {A : Ad}
theorem ok_is_side (T : Tx K mg A) : FnOk P w K mg base CX0 1 A.f_is_side A.d_is_side ["thing"] (spSide K) := by
  refine T.Fis_side.ok sc_is_side (fun vs H Q E h => ?_) (fun cdv A' outer s H vs Q E hr h => ?_)
  · obtain ⟨x, T, rfl, _⟩ := h
    rfl
  · obtain ⟨x, ty, rfl, hx, q⟩ := h
    refine ⟨_, (pss_one (ps_ret (pe_and (pe_callB call_isi (by rfl) T.bisinstance (by decide +kernel) (pa_cons (pv 0) (pa_cons (pe_bltn (v := .ty "str") (by rfl) T.bstr (by decide +kernel) rfl) pa_nil))) (pe_one (pe_cmpR op_in_seq (pv 0) (pe_tup (pa_cons (pe_glob (v := .str "left") (by rfl) T.gLEFT ⟨_, rfl⟩) (pa_cons (pe_glob (v := .str "right") (by rfl) T.gRIGHT ⟨_, rfl⟩) pa_nil))) (by rfl)))))), ?_⟩
    refine ⟨_, rfl, _, _, _, _, _, rfl, .ty _, hx.ty, kit_str hx.mem, _, rfl, ?_⟩
    cases e : (ty == "str") with
    | false =>
      refine iteF ?_
      have z : isSideB x = false := by
        cases x <;> first | rfl | (have := hx.of_str; subst this; cases e)
      have q' := q H (Same.refl H)
      rw [z] at q'
      exact q'
    | true =>
      refine iteT ?_
      obtain ⟨z, rfl⟩ := hx.str_of (eq_of_beq e)
      refine ⟨_, rfl, (by show 2 ≤ sizeLine; decide), fun t nt => ?_⟩
      refine ⟨t, _, rfl, .inr (SqT.of upd_same), rfl, rfl, ?_⟩
      have e2 : (if false = true then !inV (V.str z) [V.str "left", V.str "right"] else inV (V.str z) [V.str "left", V.str "right"]) = isSideB (.str z) := by
        rw [if_neg Bool.false_ne_true]
        show ((("left" : Str) == z) || ((("right" : Str) == z) || false)) = (decide (z = "left") || decide (z = "right"))
        rw [Bool.or_false]
        congr 1
        · by_cases c : z = "left"
          · subst c
            simp
          · rw [decide_eq_false c]
            exact beq_eq_false_iff_ne.mpr (fun y => c y.symm)
        · by_cases c : z = "right"
          · subst c
            simp
          · rw [decide_eq_false c]
            exact beq_eq_false_iff_ne.mpr (fun y => c y.symm)
      have q' := q _ (same_new nt (.tup [V.str "left", V.str "right"]))
      rw [← e2] at q'
      exact q'
end
end K03
namespace K03
open PySem PySem.Spec PyProof.Rows L2 RE
section
variable {P : Program} {w : World} {K : PySem.W.Frag} {mg : Str → Option Value} {base : Heap} {A : Ad}
theorem ok_table_of (T : Tx K mg A) : FnOk P w K mg base CX0 2 A.f_table_of A.d_table_of ["row", "plan"] (spTable K) := by
  have Gis_side : FnOk P w K mg base CX0 1 A.f_is_side A.d_is_side ["thing"] (spSide K) := ok_is_side T
  refine T.Ftable_of.ok sc_table_of (fun vs H Q E h => ?_) (fun cdv A' outer s H vs Q E hr h => ?_)
  · obtain ⟨a, l, ns, xs, p, rfl, _⟩ := h
    rfl
  · obtain ⟨a, l, ns, xs, p, rfl, hS, hl, hp, h1000, qbad, qgood⟩ := h
    refine ⟨_, (pss_cons (ps_par (i := 2) (j := 3) rfl sc_table_of.nd rfl rfl (by decide) rfl rfl (pa_cons pe_dnewT (pa_cons pe_non pa_nil)) (by rfl))
      (pss_cons (ps_for PassesOwn.never rfl (pi_list (pv 1)) (pg_tup rfl (pgs_cons (pg_name (i := 4) sc_table_of.nd rfl (Or.inl rfl)) (pgs_cons (pg_name (i := 5) sc_table_of.nd rfl (Or.inl rfl)) (pgs_cons (pg_name (i := 6) sc_table_of.nd rfl (Or.inl rfl)) pgs_nil))))
      (pss_cons (ps_if (PW.pt (pw_or (pt_not (pt_chain3 op_le op_lt op_le pe_int (pv 4) (pv 5) (pe_callB call_len_seq (by rfl) T.blen PySem.boot_len (pa_cons (pv 0) pa_nil)))) (pw_or (pt_not (pt_val (pe_call Gis_side (hr.mono (by first | decide | omega)) (by rfl) T.gis_side T.Fis_side.kp T.bis_side .nil pass0 (pa_cons (pv 6) pa_nil)))) (pw_or1 (PW.pt (pw_and (pt_cmpR op_notN (pv 3) pe_non (nomark _)) (pw_and1 (pt_cmpR (op_leT hr.units0) (pe_tup (pa_cons (pv 4) (pa_cons (pv 5) pa_nil))) (pv 3) (nomark _))))))))) (pss_one (ps_ret pe_non)) pss_nil)
      (pss_one (ps_asg (pe_tup (pa_cons (pv 6) (pa_cons (pe_tup (pa_cons (pv 4) (pa_cons (pv 5) pa_nil))) pa_nil))) (pg_tup rfl (pgs_cons (pg_sub (pv 2) (pe_tup (pa_cons (pv 4) (pa_cons (pv 5) pa_nil))) (set_dT (hu_of hr))) (pgs_cons (pg_name (i := 3) sc_table_of.nd rfl (Or.inl rfl)) pgs_nil)))))))
      (pss_one (ps_ret (pv 2))))), ?_⟩
    refine fun d nd => gen_heap nd fun H1 s1 hd => ⟨_, _, rfl, ?_⟩
    refine ⟨_, rfl, l, rfl, ⟨_, s1.seq hl⟩, ?_⟩
    refine for_list (K := K) (a := l) (xs := xs) (fun i σ H2 => ∃ (lst : Option (Int × Int)) (last : V) (kvs : List (List Key × V)) (x4 x5 x6 : Option V), σ = [some (.ref a), some (.ref l), some (.ref d), some last, x4, x5, x6] ∧
      Same H H2 ∧ H2 d = some (.dT kvs) ∧ Tab (p.take i) kvs ∧ (lst = none → last = .non) ∧ (∀ u, lst = some u → ∃ q, last = .ref q ∧ H2 q = some (.tup [.int u.1, .int u.2])) ∧ tabOk ns.length none p = tabOk ns.length lst (p.drop i)) ?_ ?_ ?_ ?_
    · exact ⟨none, .non, [], none, none, none, rfl, s1, hd, Tab.nil, fun _ => rfl, fun u e => (nomatch e), rfl⟩
    · rintro i σ H2 _ ⟨lst, last, kvs, x4, x5, x6, rfl, s2, _⟩
      exact s2.seq hl
    · rintro i y σ H2 hi ⟨lst, last, kvs, x4, x5, x6, rfl, s2, hd2, hT, hn0, hn1, htab⟩
      obtain ⟨qt, t, rfl, ht, hqt⟩ := hp.getX hi
      have hlt : i < p.length := (List.getElem?_eq_some_iff.mp ht).1
      have hdrop : p.drop i = t :: p.drop (i + 1) := by
        rw [List.drop_eq_getElem_cons hlt]
        congr 1
        rw [List.getElem?_eq_getElem hlt] at ht
        exact Option.some.inj ht
      rw [hdrop, tabOk_cons] at htab
      have hqt2 := s2 _ _ hqt
      have hS2 := s2.seq hS
      refine ⟨qt, _, rfl, SqT.of hqt2, rfl, _, _, rfl, _, _, rfl, _, _, rfl, rfl, ?_⟩
      have bad : triOk ns.length t = false → ∀ H', Same H H' → Q .non H' := fun h => qbad (by rw [htab, h]; rfl)
      -- not 0 <= low < behind <= len(row)
      refine ⟨_, rfl, _, _, rfl, rfl, _, rfl, ?_⟩
      by_cases c1 : 0 ≤ t.1
      rotate_left
      · refine iteFb (decide_eq_false c1) ⟨_, rfl, iteT (iteT (bad ?_ H2 s2))⟩
        unfold triOk
        rw [decide_eq_false c1]
        rfl
      refine iteTb (decide_eq_true c1) ?_
      refine ⟨_, rfl, _, _, rfl, rfl, _, rfl, ?_⟩
      by_cases c2 : t.1 < t.2.1
      rotate_left
      · refine iteFb (decide_eq_false c2) ⟨_, rfl, iteT (iteT (bad ?_ H2 s2))⟩
        unfold triOk
        rw [decide_eq_true c1, decide_eq_false c2]
        rfl
      refine iteTb (decide_eq_true c2) ?_
      refine ⟨_, rfl, a, _, rfl, .inl hS2, _, _, rfl, rfl, _, rfl, ?_⟩
      have el : ((ns.map V.int).length : Int) = (ns.length : Int) := by rw [List.length_map]
      by_cases c3 : t.2.1 ≤ (ns.length : Int)
      rotate_left
      · refine iteTb (congrArg Bool.not (decide_eq_false (by rw [el]; exact c3))) (iteT (bad ?_ H2 s2))
        unfold triOk
        rw [decide_eq_true c1, decide_eq_true c2, decide_eq_false c3]
        rfl
      refine iteFb (congrArg Bool.not (decide_eq_true (by rw [el]; exact c3))) ?_
      -- not is_side(side)
      refine ⟨_, rfl, ?_⟩
      refine ⟨_, _, rfl, pv_str _, fun H3 s3 => ⟨_, rfl, ?_⟩⟩
      have s03 := s2.trans s3
      have eside : isSideB (.str t.2.2) = sideOk t.2.2 := rfl
      rw [eside]
      cases c4 : sideOk t.2.2 with
      | false =>
        refine iteT (iteT (bad ?_ H3 s03))
        unfold triOk
        rw [decide_eq_true c1, decide_eq_true c2, decide_eq_true c3, c4]
        rfl
      | true =>
        refine iteF ?_
        have hok : triOk ns.length t = true := by
          unfold triOk
          rw [decide_eq_true c1, decide_eq_true c2, decide_eq_true c3, c4]
          rfl
        rw [hok, Bool.true_and] at htab
        have hd3 := s3 _ _ hd2
        -- the rest of a good turn
        have fin : ∀ H4, Same H3 H4 → lastBad t lst = false → ∀ q3, H4 q3 = none → ∀ H5, Same H4 H5 → H5 q3 = some (.tup [.int t.1, .int t.2.1]) → ∀ H8, SameBut d H5 H8 → H8 d = some (.dT (putK kvs [Sum.inl t.1, Sum.inl t.2.1] (.str t.2.2))) →
            ∃ (lst : Option (Int × Int)) (last : V) (kvs : List (List Key × V)) (x4 x5 x6 : Option V), [some (V.ref a), some (V.ref l), some (V.ref d), some (V.ref q3), some (V.int t.1), some (V.int t.2.1), some (V.str t.2.2)] = [some (.ref a), some (.ref l), some (.ref d), some last, x4, x5, x6] ∧
              Same H H8 ∧ H8 d = some (.dT kvs) ∧ Tab (p.take (i + 1)) kvs ∧ (lst = none → last = .non) ∧ (∀ u, lst = some u → ∃ q, last = .ref q ∧ H8 q = some (.tup [.int u.1, .int u.2])) ∧ tabOk ns.length none p = tabOk ns.length lst (p.drop (i + 1)) := by
          intro H4 s4 hbad q3 nq3 H5 s5 hq3 H8 s8 hd8
          have hd4 := s4 _ _ hd3
          have ne3 : q3 ≠ d := (ne_of_none hd4 nq3).symm
          refine ⟨some (t.1, t.2.1), .ref q3, _, _, _, _, rfl, fun b o e => ?_, hd8, ?_, fun z => (nomatch z), ?_, ?_⟩
          · exact s8 _ _ (ne_of_none e nd) (s5 _ _ (s4 _ _ (s03 _ _ e)))
          · rw [List.take_add_one, ht]
            exact hT.put t
          · intro u e
            cases e
            exact ⟨q3, rfl, s8 _ _ ne3 hq3⟩
          · rw [htab, hbad]
            rfl
        -- last is not None and (low, behind) <= last
        refine ⟨_, rfl, rfl, _, rfl, ?_⟩
        have hl3 : kvs.length < sizeLine := by
          have h1 := hT.len
          rw [List.length_take] at h1
          exact size_lt (by omega)
        cases lst with
        | none =>
          have e := hn0 rfl
          subst e
          refine iteF (iteF ?_)
          refine ⟨_, rfl, _, rfl, _, rfl, (by show 2 ≤ sizeLine; decide), fun q3 nq3 => gen_heap nq3 fun H5 s5 hq3 => ⟨(by show 2 ≤ sizeLine; decide), fun q4 nq4 => gen_heap nq4 fun H6 s6 hq4 => ?_⟩⟩
          refine ⟨q4, _, rfl, SqT.of hq4, rfl, _, _, rfl, _, rfl, _, rfl, _, rfl, (by show 2 ≤ sizeLine; decide), fun q5 nq5 => gen_heap nq5 fun H7 s7 hq5 => ?_⟩
          have hd7 := s7 _ _ (s6 _ _ (s5 _ _ hd3))
          refine ⟨d, _, rfl, DPut.t (k := [Sum.inl t.1, Sum.inl t.2.1]) hd7 hq5 hl3, gen_put hd7 fun H8 s8 hd8 => ?_⟩
          refine ⟨_, _, rfl, rfl, ?_⟩
          exact fin H3 (Same.refl _) rfl q3 nq3 H7 (s5.trans (s6.trans s7)) (s7 _ _ (s6 _ _ hq3)) H8 s8 hd8
        | some u =>
          obtain ⟨qu, rfl, hqu⟩ := hn1 u rfl
          refine iteT ?_
          refine ⟨_, rfl, _, rfl, (by show 2 ≤ sizeLine; decide), fun q2 nq2 => gen_heap nq2 fun H4 s4 hq2 => ⟨_, rfl, ?_⟩⟩
          refine ⟨q2, qu, [t.1, t.2.1], [u.1, u.2], rfl, rfl, SqT.of hq2, SqT.of (s4 _ _ (s3 _ _ hqu)), _, rfl, ?_⟩
          rw [lex2]
          have elb : lastBad t (some u) = (if t.1 = u.1 then decide (t.2.1 ≤ u.2) else decide (t.1 ≤ u.1)) := rfl
          rw [← elb]
          cases c5 : lastBad t (some u) with
          | true =>
            refine iteT (qbad ?_ H4 (s03.trans s4))
            rw [htab, c5]
            rfl
          | false =>
            refine iteF ?_
            refine ⟨_, rfl, _, rfl, _, rfl, (by show 2 ≤ sizeLine; decide), fun q3 nq3 => gen_heap nq3 fun H5 s5 hq3 => ⟨(by show 2 ≤ sizeLine; decide), fun q4 nq4 => gen_heap nq4 fun H6 s6 hq4 => ?_⟩⟩
            refine ⟨q4, _, rfl, SqT.of hq4, rfl, _, _, rfl, _, rfl, _, rfl, _, rfl, (by show 2 ≤ sizeLine; decide), fun q5 nq5 => gen_heap nq5 fun H7 s7 hq5 => ?_⟩
            have hd7 := s7 _ _ (s6 _ _ (s5 _ _ (s4 _ _ hd3)))
            refine ⟨d, _, rfl, DPut.t (k := [Sum.inl t.1, Sum.inl t.2.1]) hd7 hq5 hl3, gen_put hd7 fun H8 s8 hd8 => ?_⟩
            refine ⟨_, _, rfl, rfl, ?_⟩
            exact fin H4 s4 c5 q3 nq3 H7 (s5.trans (s6.trans s7)) (s7 _ _ (s6 _ _ hq3)) H8 s8 hd8
    · rintro σ H2 ⟨lst, last, kvs, x4, x5, x6, rfl, s2, hd2, hT, hn0, hn1, htab⟩
      rw [hp.len] at hT htab
      rw [List.take_length] at hT
      rw [List.drop_length, tabOk_nil] at htab
      exact ⟨_, rfl, qgood htab H2 d kvs s2 nd hd2 hT⟩
theorem step_got (T : Tx K mg A) {n : Nat} (Ggot : FnOk P w K mg base CX0 (n + 1) A.f_got A.d_got ["row", "low", "behind", "table", "mine"] (spGot K n)) :
    FnOk P w K mg base CX0 (n + 1 + 1) A.f_got A.d_got ["row", "low", "behind", "table", "mine"] (spGot K (n + 1)) := by
  have Gafter : FnOk P w K mg base CX0 1 A.f_after A.d_after ["row", "low", "behind", "side"] (spAfter K) := ok_after T
  refine T.Fgot.ok sc_got (fun vs H Q E h => ?_) (fun cdv A' outer s H vs Q E hr h => ?_)
  · obtain ⟨a, d, ns, p, low, m, i, j, kvs, mine, rfl, _⟩ := h
    rfl
  · obtain ⟨a, d, ns, p, low, m, i, j, kvs, mine, rfl, ei, ej, hS, hd, hT, hok, hm, hn, q⟩ := h
    refine ⟨_, (pss_cons (ps_if (pt_cmpR op_eq (pv 1) (pv 2) (nomark _)) (pss_one (ps_ret pe_int)) pss_nil)
      (pss_cons (ps_set (i := 5) sc_got.nd rfl (Or.inl rfl) (pe_tup (pa_cons (pe_glob (v := .str "left") (by rfl) T.gLEFT ⟨_, rfl⟩) (pa_cons (pe_glob (v := .str "right") (by rfl) T.gRIGHT ⟨_, rfl⟩) pa_nil))))
      (pss_mid (ps_if (pt_val (pv 4)) (pss_cons (ps_if (pt_cmp (pc_dnotin (hu_of hr) (pe_tup (pa_cons (pv 1) (pa_cons (pv 2) pa_nil))) (pv 3))) (pss_one (ps_ret pe_non)) pss_nil)
      (pss_one (ps_set (i := 5) sc_got.nd rfl (Or.inl rfl) (pe_tup (pa_cons (pe_dget (hu_of hr) (pv 3) (pe_tup (pa_cons (pv 1) (pa_cons (pv 2) pa_nil))) (fun _ _ => rfl)) pa_nil))))) pss_nil)
      (pss_cons (ps_set (i := 6) sc_got.nd rfl (Or.inl rfl) pe_non)
      (pss_cons (ps_for PassesOwn.never rfl (pi_tup (pv 5)) (pg_name (i := 7) sc_got.nd rfl (Or.inl rfl))
      (pss_cons (ps_asg (pe_call Gafter (hr.mono (by first | decide | omega)) (by rfl) T.gafter T.Fafter.kp T.bafter .nil pass0 (pa_cons (pv 0) (pa_cons (pv 1) (pa_cons (pv 2) (pa_cons (pv 7) pa_nil))))) (pg_tup rfl (pgs_cons (pg_name (i := 8) sc_got.nd rfl (Or.inl rfl)) (pgs_cons (pg_name (i := 9) sc_got.nd rfl (Or.inl rfl)) (pgs_cons (pg_name (i := 10) sc_got.nd rfl (Or.inl rfl)) pgs_nil)))))
      (pss_cons (ps_set (i := 11) sc_got.nd rfl (Or.inl rfl) (pe_call Ggot (hr.mono (by first | decide | omega)) (by rfl) T.ggot T.Fgot.kp T.bgot .nil pass0 (pa_cons (pv 0) (pa_cons (pv 9) (pa_cons (pv 10) (pa_cons (pv 3) (pa_cons (pe_not (pv 4)) pa_nil)))))))
      (pss_cons (ps_if (pt_cmpR op_isN (pv 11) pe_non (nomark _)) (pss_one (ps_ret pe_non)) pss_nil)
      (pss_cons (ps_set (i := 12) sc_got.nd rfl (Or.inl rfl) (pe_op op_add (pv 11) (pe_ifExp (pt_val (pv 4)) (pv 8) (pe_un un_neg (pv 8)))))
      (pss_one (ps_set (i := 6) sc_got.nd rfl (Or.inl rfl) (pe_ifExp (PW.pt (pw_or (pt_cmpR op_isN (pv 6) pe_non (nomark _)) (pw_or1 (pt_cmpR op_lt (pv 12) (pv 6) (nomark _))))) (pv 12) (pv 6)))))))))
      (pss_one (ps_ret (pv 6)))))))), ?_⟩
    refine ⟨_, rfl, _, rfl, rfl, _, rfl, ?_⟩
    cases m with
    | zero =>
      refine iteTb (decide_eq_true (congrArg V.int (by omega))) ?_
      exact q H (Same.refl H)
    | succ m =>
      refine iteFb (decide_eq_false (fun z => by have z' : i = j := V.int.inj z; omega)) ?_
      have key : [V.int i, V.int j] = ([Sum.inl i, Sum.inl j] : List Key).map kV := rfl
      have elook : tabF p low (low + (m + 1)) = (look p i j).map sideB := by
        unfold tabF
        rw [← ei, ← ej]
      -- sides = (LEFT, RIGHT)
      refine ⟨(by show 2 ≤ sizeLine; decide), fun t0 nt0 => gen_heap nt0 fun H1 s1 ht0 => ?_⟩
      -- if mine
      refine ⟨fun σ' H' => ∃ (t : Addr) (bs : List Bool), σ' = [some (.ref a), some (.int i), some (.int j), some (.ref d), some (.bl mine), some (.ref t), none, none, none, none, none, none, none] ∧ Same H H' ∧ H' t = some (.tup (sidesV bs)) ∧ gotV ns (tabF p) (m + 1) low mine = cont ns (tabF p) m low mine bs none, ?_, ?_⟩
      · refine ⟨_, rfl, _, rfl, ?_⟩
        cases mine with
        | false =>
          refine iteF ?_
          exact ⟨t0, [true, false], rfl, s1, ht0, cont_his.symm⟩
        | true =>
          refine iteT ?_
          refine ⟨_, rfl, _, rfl, (by show 2 ≤ sizeLine; decide), fun p1 np1 => gen_heap np1 fun H2 s2 hp1 => ?_⟩
          have hd2 := s2 _ _ (s1 _ _ hd)
          refine ⟨_, rfl, d, _, rfl, DGet.t (k := [Sum.inl i, Sum.inl j]) hd2 hp1, _, rfl, ?_⟩
          have ev := hT.val i j
          cases el : look p i j with
          | none =>
            rw [el] at ev elook
            rw [ev]
            refine iteT ?_
            have q' := q H2 (s1.trans s2)
            rw [gotV_mine, elook] at q'
            exact q'
          | some sd =>
            rw [el] at ev elook
            have hsd : sideOk sd = true := hok _ (look_mem el)
            rw [ev]
            refine iteF ?_
            refine ⟨_, rfl, _, rfl, _, rfl, (by show 2 ≤ sizeLine; decide), fun p2 np2 => gen_heap np2 fun H3 s3 hp2 => ?_⟩
            have hd3 := s3 _ _ hd2
            have g := DGet.t (k := [Sum.inl i, Sum.inl j]) (b := p2) hd3 hp2
            rw [ev] at g
            refine ⟨d, .str sd, rfl, g, (by show 1 ≤ sizeLine; decide), fun t1 nt1 => gen_heap nt1 fun H4 s4 ht1 => ?_⟩
            refine ⟨t1, [sideB sd], rfl, s1.trans (s2.trans (s3.trans s4)), ?_, (cont_mine elook).symm⟩
            rw [ht1]
            show some (HO.tup [V.str sd]) = some (HO.tup [V.str (sideS (sideB sd))])
            rw [← side_of hsd]
      · rintro σ' H2 ⟨t, bs, rfl, s2, ht2, egot⟩
        -- for side in sides
        refine ⟨_, rfl, t, rfl, ⟨_, SqT.of ht2⟩, ?_⟩
        refine for_tup (K := K) (a := t) (xs := sidesV bs) (fun k σ H3 => ∃ (lv : Option Int) (x7 x8 x9 x10 x11 x12 : Option V), σ = [some (.ref a), some (.int i), some (.int j), some (.ref d), some (.bl mine), some (.ref t), some (optV lv), x7, x8, x9, x10, x11, x12] ∧ Same H2 H3 ∧ gotV ns (tabF p) (m + 1) low mine = cont ns (tabF p) m low mine (bs.drop k) lv) ⟨none, none, none, none, none, none, none, rfl, Same.refl _, egot⟩ ?_ ?_ ?_
        · rintro k σ H3 _ ⟨lv, x7, x8, x9, x10, x11, x12, rfl, s3, _⟩
          exact SqT.of (s3 _ _ ht2)
        · rintro k y σ H3 hi ⟨lv, x7, x8, x9, x10, x11, x12, rfl, s3, ec⟩
          have hlt : k < bs.length := by
            have := (List.getElem?_eq_some_iff.mp hi).1
            rw [sidesV_len] at this
            exact this
          have hy : y = V.str (sideS bs[k]) := by
            unfold sidesV at hi
            rw [List.getElem?_map, List.getElem?_eq_getElem hlt] at hi
            exact (Option.some.inj hi).symm
          subst hy
          rw [List.drop_eq_getElem_cons hlt] at ec
          generalize bs[k] = b at ec
          have s03 := s2.trans s3
          refine ⟨_, rfl, _, rfl, _, rfl, _, rfl, ?_⟩
          refine ⟨a, ns, low, m, _, _, b, rfl, ei, ej, s03.seq hS, hm, fun p2 np2 => gen_heap np2 fun H4 s4 hp2 => ?_⟩
          refine ⟨p2, _, rfl, SqT.of hp2, rfl, _, _, rfl, _, _, rfl, _, _, rfl, rfl, ?_⟩
          have s04 := s03.trans s4
          -- rest = got(row, left, right, table, not mine)
          refine ⟨_, rfl, _, rfl, _, rfl, _, rfl, _, rfl, _, rfl, ?_⟩
          refine ⟨a, d, ns, p, lowOf b low, m, _, _, kvs, !mine, rfl, rfl, rfl, s04.seq hS, s04 _ _ hd, hT, hok, by have := lowOf_le b low m; omega, by omega, fun H5 s5 => ?_⟩
          have s05 := s04.trans s5
          cases eg : gotV ns (tabF p) m (lowOf b low) (!mine) with
          | none =>
            refine ⟨_, rfl, rfl, _, rfl, iteT ?_⟩
            have q' := q H5 s05
            rw [ec, cont_none eg] at q'
            exact q'
          | some x =>
            rw [cont_some eg] at ec
            refine ⟨_, rfl, rfl, _, rfl, iteF ?_⟩
            -- here = rest + (coin if mine else -coin)
            refine ⟨_, rfl, _, rfl, _, rfl, ?_⟩
            have done : ∀ (z : Int), z = x + forMe mine (coinOf ns b low m) → ∀ (lv' : Int), lv' = minO lv (x + forMe mine (coinOf ns b low m)) →
                ∃ (lv : Option Int) (x7 x8 x9 x10 x11 x12 : Option V), [some (V.ref a), some (V.int i), some (V.int j), some (V.ref d), some (V.bl mine), some (V.ref t), some (V.int lv'), some (V.str (sideS b)), some (V.int (coinOf ns b low m)), some (V.int (lowOf b low : Nat)), some (V.int ((lowOf b low + m : Nat) : Int)), some (V.int x), some (V.int z)] = [some (.ref a), some (.int i), some (.int j), some (.ref d), some (.bl mine), some (.ref t), some (optV lv), x7, x8, x9, x10, x11, x12] ∧ Same H2 H5 ∧ gotV ns (tabF p) (m + 1) low mine = cont ns (tabF p) m low mine (bs.drop (k + 1)) lv := by
              rintro z rfl lv' rfl
              exact ⟨some _, _, _, _, _, _, _, rfl, s3.trans (s4.trans s5), ec⟩
            cases mine with
            | true =>
              refine iteT ⟨_, rfl, _, _, rfl, rfl, ?_⟩
              cases lv with
              | none => exact ⟨_, rfl, rfl, _, rfl, iteT (iteT ⟨_, rfl, done _ rfl _ rfl⟩)⟩
              | some l =>
                refine ⟨_, rfl, rfl, _, rfl, iteF ⟨_, rfl, _, rfl, _, _, rfl, rfl, _, rfl, ?_⟩⟩
                refine ite2 (fun c => ?_) (fun c => ?_)
                · have c' := of_decide_eq_true c
                  exact ⟨_, rfl, done _ rfl _ (if_pos c').symm⟩
                · have c' := of_decide_eq_false (Bool.eq_false_iff.mpr c)
                  exact ⟨_, rfl, done _ rfl _ (if_neg c').symm⟩
            | false =>
              refine iteF ⟨_, rfl, _, rfl, _, _, rfl, rfl, ?_⟩
              cases lv with
              | none => exact ⟨_, rfl, rfl, _, rfl, iteT (iteT ⟨_, rfl, done _ rfl _ rfl⟩)⟩
              | some l =>
                refine ⟨_, rfl, rfl, _, rfl, iteF ⟨_, rfl, _, rfl, _, _, rfl, rfl, _, rfl, ?_⟩⟩
                refine ite2 (fun c => ?_) (fun c => ?_)
                · have c' := of_decide_eq_true c
                  exact ⟨_, rfl, done _ rfl _ (if_pos c').symm⟩
                · have c' := of_decide_eq_false (Bool.eq_false_iff.mpr c)
                  exact ⟨_, rfl, done _ rfl _ (if_neg c').symm⟩
        · rintro σ H3 ⟨lv, x7, x8, x9, x10, x11, x12, rfl, s3, ec⟩
          rw [sidesV_len, List.drop_length, cont_nil] at ec
          refine ⟨_, rfl, ?_⟩
          have q' := q H3 (s2.trans s3)
          rw [ec] at q'
          exact q'
theorem got_all (T : Tx K mg A) : ∀ n : Nat, FnOk P w K mg base CX0 (n + 1) A.f_got A.d_got ["row", "low", "behind", "table", "mine"] (spGot K n)
  | 0 => by
    have no : ∀ vs H Q E, ¬ spGot K 0 vs H Q E := fun vs H Q E h => by
      obtain ⟨a, d, ns, p, low, m, i, j, kvs, mine, _, _, _, _, _, _, _, _, h0, _⟩ := h
      omega
    exact ⟨fun vs H Q E h => absurd h (no vs H Q E), fun A outer s H args us vs Q E _ _ _ _ h => absurd h (no vs H Q E)⟩
  | n + 1 => step_got T (got_all T n)
theorem ok_got (T : Tx K mg A) : FnOk P w K mg base CX0 14 A.f_got A.d_got ["row", "low", "behind", "table", "mine"] (spGot K 13) := got_all T 13
theorem ok_planned (T : Tx K mg A) : FnOk P w K mg base CX0 15 A.f_planned A.d_planned ["row", "plan", "mine"] (spPlanned K) := by
  have Ggot : FnOk P w K mg base CX0 14 A.f_got A.d_got ["row", "low", "behind", "table", "mine"] (spGot K 13) := ok_got T
  have Gtable_of : FnOk P w K mg base CX0 2 A.f_table_of A.d_table_of ["row", "plan"] (spTable K) := ok_table_of T
  refine T.Fplanned.ok sc_planned (fun vs H Q E h => ?_) (fun cdv A' outer s H vs Q E hr h => ?_)
  · obtain ⟨a, l, ns, xs, p, mine, rfl, _⟩ := h
    rfl
  · obtain ⟨a, l, ns, xs, p, mine, rfl, hS, hl, hp, h1000, h12, q⟩ := h
    refine ⟨_, (pss_cons (ps_set (i := 3) sc_planned.nd rfl (Or.inl rfl) (pe_call Gtable_of (hr.mono (by first | decide | omega)) (by rfl) T.gtable_of T.Ftable_of.kp T.btable_of .nil pass0 (pa_cons (pv 0) (pa_cons (pv 1) pa_nil))))
      (pss_one (ps_ret (pe_ifExp (pt_cmpR op_isN (pv 3) pe_non (nomark _)) pe_non (pe_call Ggot (hr.mono (by first | decide | omega)) (by rfl) T.ggot T.Fgot.kp T.bgot .nil pass0 (pa_cons (pv 0) (pa_cons pe_int (pa_cons (pe_callB call_len_seq (by rfl) T.blen PySem.boot_len (pa_cons (pv 0) pa_nil)) (pa_cons (pv 3) (pa_cons (pv 2) pa_nil)))))))))), ?_⟩
    refine ⟨_, rfl, _, rfl, ?_⟩
    refine ⟨a, l, ns, xs, p, rfl, hS, hl, hp, h1000, fun hb H1 s1 => ?_, fun hb H1 d kvs s1 nd hd hT => ?_⟩
    · refine ⟨_, rfl, rfl, _, rfl, iteT ?_⟩
      have q' := q H1 s1
      unfold plannedV at q'
      rw [hb] at q'
      exact q'
    · refine ⟨_, rfl, rfl, _, rfl, iteF ?_⟩
      have hS1 := s1.seq hS
      refine ⟨_, rfl, _, rfl, a, _, rfl, .inl hS1, _, rfl, _, rfl, ?_⟩
      refine ⟨a, d, ns, p, 0, ns.length, _, _, kvs, mine, rfl, rfl, by rw [List.length_map]; omega, hS1, hd, hT, fun t ht => triOk_side (tabOk_all hb t ht), by omega, by omega, fun H2 s2 => ?_⟩
      have q' := q H2 (s1.trans s2)
      unfold plannedV at q'
      rw [if_pos hb] at q'
      exact q'
end
end K03
namespace K03
open PySem PySem.Spec PyProof.Rows L2 RE
section
variable {P : Program} {w : World} {K : PySem.W.Frag} {mg : Str → Option Value} {base : Heap} {A : Ad}
theorem ok_Gets_init (T : Tx K mg A) : FnOk P w K mg base CX0 1 A.f_Gets_init A.d_Gets_init ["self", "plan"] (spInit K A.C_Gets) := by
  refine T.FGets_init.ok sc_Gets_init (fun vs H Q E h => ?_) (fun cdv A' outer s H vs Q E hr h => ?_)
  · obtain ⟨x, l, dx, xs, rfl, _⟩ := h
    rfl
  · obtain ⟨x, l, dx, xs, rfl, hx, hl, q⟩ := h
    refine ⟨_, (pss_one (ps_fld (pv 0) (pe_callTy call_list_of (by rfl) T.blist (by decide +kernel) (pa_cons (pv 1) pa_nil)) rfl)), ?_⟩
    refine ⟨_, rfl, l, _, rfl, .inl hl, fun m nm => gen_heap nm fun H1 s1 hm => ?_⟩
    have hx1 := s1 _ _ hx
    refine ⟨_, rfl, x, _, dx, [], rfl, hx1, T.clGets, T.npGets, (by show 0 < 1000; decide), gen_put hx1 fun H2 s2 hx2 => ?_⟩
    exact q H2 m ((SameBut.of s1).trans s2) nm hx2 (s2 _ _ (ne_of_none hx nm).symm hm)
theorem ok_Held_init (T : Tx K mg A) : FnOk P w K mg base CX0 1 A.f_Held_init A.d_Held_init ["self", "plan"] (spInit K A.C_Held) := by
  refine T.FHeld_init.ok sc_Held_init (fun vs H Q E h => ?_) (fun cdv A' outer s H vs Q E hr h => ?_)
  · obtain ⟨x, l, dx, xs, rfl, _⟩ := h
    rfl
  · obtain ⟨x, l, dx, xs, rfl, hx, hl, q⟩ := h
    refine ⟨_, (pss_one (ps_fld (pv 0) (pe_callTy call_list_of (by rfl) T.blist (by decide +kernel) (pa_cons (pv 1) pa_nil)) rfl)), ?_⟩
    refine ⟨_, rfl, l, _, rfl, .inl hl, fun m nm => gen_heap nm fun H1 s1 hm => ?_⟩
    have hx1 := s1 _ _ hx
    refine ⟨_, rfl, x, _, dx, [], rfl, hx1, T.clHeld, T.npHeld, (by show 0 < 1000; decide), gen_put hx1 fun H2 s2 hx2 => ?_⟩
    exact q H2 m ((SameBut.of s1).trans s2) nm hx2 (s2 _ _ (ne_of_none hx nm).symm hm)
theorem ok_Gets_shows (T : Tx K mg A) : FnOk P w K mg base CX0 16 A.f_Gets_shows A.d_Gets_shows ["self", "row", "least"] (spShows K A.C_Gets true) := by
  have Gplanned : FnOk P w K mg base CX0 15 A.f_planned A.d_planned ["row", "plan", "mine"] (spPlanned K) := ok_planned T
  refine T.FGets_shows.ok sc_Gets_shows (fun vs H Q E h => ?_) (fun cdv A' outer s H vs Q E hr h => ?_)
  · obtain ⟨x, a, l, dx, ns, xs, p, least, rfl, _⟩ := h
    rfl
  · obtain ⟨x, a, l, dx, ns, xs, p, least, rfl, hx, hS, hl, hp, h1000, h12, q⟩ := h
    refine ⟨_, (pss_cons (ps_set (i := 3) sc_Gets_shows.nd rfl (Or.inl rfl) (pe_call Gplanned (hr.mono (by first | decide | omega)) (by rfl) T.gplanned T.Fplanned.kp T.bplanned .nil pass0 (pa_cons (pv 1) (pa_cons (pe_fld (pv 0) rfl) (pa_cons pe_bl pa_nil)))))
      (pss_one (ps_ret (pe_and (pe_cmpR op_notN (pv 3) pe_non (nomark _)) (pe_one (pe_cmpR op_ge (pv 3) (pv 2) (nomark _))))))), ?_⟩
    refine ⟨_, rfl, _, rfl, x, _, dx, _, _, rfl, hx, T.clGets, T.npGets, rfl, ?_⟩
    refine ⟨a, l, ns, xs, p, true, rfl, hS, SqL.of hl, hp, h1000, h12, fun H1 s1 => ?_⟩
    have q' := q H1 s1
    unfold showsV at q'
    cases e : plannedV ns p true with
    | none =>
      rw [e] at q'
      exact ⟨_, rfl, rfl, _, rfl, iteF q'⟩
    | some v =>
      rw [e] at q'
      exact ⟨_, rfl, rfl, _, rfl, iteT ⟨_, rfl, _, rfl, _, _, rfl, rfl, q'⟩⟩
theorem ok_Held_shows (T : Tx K mg A) : FnOk P w K mg base CX0 16 A.f_Held_shows A.d_Held_shows ["self", "row", "least"] (spShows K A.C_Held false) := by
  have Gplanned : FnOk P w K mg base CX0 15 A.f_planned A.d_planned ["row", "plan", "mine"] (spPlanned K) := ok_planned T
  refine T.FHeld_shows.ok sc_Held_shows (fun vs H Q E h => ?_) (fun cdv A' outer s H vs Q E hr h => ?_)
  · obtain ⟨x, a, l, dx, ns, xs, p, least, rfl, _⟩ := h
    rfl
  · obtain ⟨x, a, l, dx, ns, xs, p, least, rfl, hx, hS, hl, hp, h1000, h12, q⟩ := h
    refine ⟨_, (pss_cons (ps_set (i := 3) sc_Held_shows.nd rfl (Or.inl rfl) (pe_call Gplanned (hr.mono (by first | decide | omega)) (by rfl) T.gplanned T.Fplanned.kp T.bplanned .nil pass0 (pa_cons (pv 1) (pa_cons (pe_fld (pv 0) rfl) (pa_cons pe_bl pa_nil)))))
      (pss_one (ps_ret (pe_and (pe_cmpR op_notN (pv 3) pe_non (nomark _)) (pe_one (pe_cmpR op_lt (pe_un un_neg (pv 3)) (pv 2) (nomark _))))))), ?_⟩
    refine ⟨_, rfl, _, rfl, x, _, dx, _, _, rfl, hx, T.clHeld, T.npHeld, rfl, ?_⟩
    refine ⟨a, l, ns, xs, p, false, rfl, hS, SqL.of hl, hp, h1000, h12, fun H1 s1 => ?_⟩
    have q' := q H1 s1
    unfold showsV at q'
    cases e : plannedV ns p false with
    | none =>
      rw [e] at q'
      exact ⟨_, rfl, rfl, _, rfl, iteF q'⟩
    | some v =>
      rw [e] at q'
      exact ⟨_, rfl, rfl, _, rfl, iteT ⟨_, rfl, _, rfl, _, rfl, _, _, rfl, rfl, q'⟩⟩
theorem ok_plan_of (T : Tx K mg A) : FnOk P w K mg base CX0 15 A.f_plan_of A.d_plan_of ["row", "first"] (spPlanOf K) := by
  have Gbest_of : FnOk P w K mg base CX0 14 A.f_best_of A.d_best_of ["row", "low", "behind", "known"] (spBestOf K) := ok_best_of T
  refine T.Fplan_of.ok sc_plan_of (fun vs H Q E h => ?_) (fun cdv A' outer s H vs Q E hr h => ?_)
  · obtain ⟨a, ns, first, rfl, _⟩ := h
    rfl
  · obtain ⟨a, ns, first, rfl, hS, h12, q⟩ := h
    refine ⟨_, (pss_cons (ps_par (i := 2) (j := 3) rfl sc_plan_of.nd rfl rfl (by decide) rfl rfl (pa_cons (pe_lst pa_nil) (pa_cons pe_dnewT pa_nil)) (by rfl))
      (pss_cons (ps_for PassesOwn.never rfl (pi_range1 (by rfl) T.brange (pa_cons (pe_callB call_len_seq (by rfl) T.blen PySem.boot_len (pa_cons (pv 0) pa_nil)) pa_nil)) (pg_name (i := 4) sc_plan_of.nd rfl (Or.inl rfl))
      (pss_one (ps_for PassesOwn.never rfl (pi_range2 (by rfl) T.brange (pa_cons (pe_op op_add (pv 4) pe_int) (pa_cons (pe_op op_add (pe_callB call_len_seq (by rfl) T.blen PySem.boot_len (pa_cons (pv 0) pa_nil)) pe_int) pa_nil))) (pg_name (i := 5) sc_plan_of.nd rfl (Or.inl rfl))
      (pss_one (ps_if (pt_cmpR op_eq (pe_op op_mod (pe_op op_add (pe_op op_sub (pe_callB call_len_seq (by rfl) T.blen PySem.boot_len (pa_cons (pv 0) pa_nil)) (pv 5)) (pv 4)) pe_int) (pe_ifExp (pt_val (pv 1)) pe_int pe_int) (nomark _)) (pss_one (ps_expr (pe_bm PySem.F.plainAttrs_list PySem.F.slot_list_append PySem.F.type_list_append mt_append (pv 2) (pa_cons (pe_tup (pa_cons (pv 4) (pa_cons (pv 5) (pa_cons (pe_ix ix_list (pe_call Gbest_of (hr.mono (by first | decide | omega)) (by rfl) T.gbest_of T.Fbest_of.kp T.bbest_of .nil pass0 (pa_cons (pv 0) (pa_cons (pv 4) (pa_cons (pv 5) (pa_cons (pv 3) pa_nil))))) pe_int (fun _ _ => rfl)) pa_nil)))) pa_nil)))) pss_nil)))))
      (pss_one (ps_ret (pv 2))))), ?_⟩
    have el : (ns.map V.int).length = ns.length := List.length_map _
    refine ⟨Nat.zero_le _, fun f nf => gen_heap nf fun H1 s1 hf => fun d nd => gen_heap nd fun H2 s2 hd => ⟨_, _, rfl, ?_⟩⟩
    have s02 := s1.trans s2
    have hf2 := s2 _ _ hf
    have ndf : d ≠ f := (ne_of_none hf nd).symm
    have ndH : H d = none := s1.free nd
    refine ⟨_, rfl, a, _, rfl, .inl (s02.seq hS), _, rfl, by rw [el]; omega, by rw [el]; omega, ?_⟩
    refine for_range (lo := 0) (n := ((ns.map V.int).length : Int).toNat) (fun i σ H3 => ∃ (xs : List V) (kvs : List (List Key × V)) (x4 x5 : Option V), σ = [some (.ref a), some (.bl first), some (.ref f), some (.ref d), x4, x5] ∧ Same H H3 ∧ H3 f = some (.lst xs) ∧ H3 d = some (.dT kvs) ∧ Known ns kvs ∧ Tris H3 xs (planTo ns first i)) ⟨[], [], none, none, rfl, s02, hf2, hd, Known.nil _, .nil⟩ ?_ ?_
    · rintro i σ H3 hi ⟨xs, kvs, x4, x5, rfl, s3, hf3, hd3, hk3, hT3⟩
      rw [el] at hi
      have hi' : i < ns.length := by omega
      have e0 : (0 : Int) + (i : Int) = (i : Int) := by omega
      refine ⟨_, rfl, _, _, rfl, rfl, _, rfl, a, _, rfl, .inl (s3.seq hS), _, _, rfl, rfl, _, _, rfl, ⟨by omega, by omega, by rw [el]; omega, by rw [el]; omega⟩, ?_⟩
      have en : (((ns.map V.int).length : Int) + 1 - (0 + (i : Int) + 1)).toNat = ns.length - i := by rw [el]; omega
      refine for_range (lo := 0 + (i : Int) + 1) (n := (((ns.map V.int).length : Int) + 1 - (0 + (i : Int) + 1)).toNat) (fun j σ H4 => ∃ (xs : List V) (kvs : List (List Key × V)) (x5 : Option V), σ = [some (.ref a), some (.bl first), some (.ref f), some (.ref d), some (.int (0 + (i : Int))), x5] ∧ Same H H4 ∧ H4 f = some (.lst xs) ∧ H4 d = some (.dT kvs) ∧ Known ns kvs ∧ Tris H4 xs (planTo ns first i ++ chunk ns first i j)) ⟨xs, kvs, x5, rfl, s3, hf3, hd3, hk3, by rw [chunk_zero, List.append_nil]; exact hT3⟩ ?_ ?_
      · rintro j σ H4 hj ⟨xs, kvs, x5, rfl, s4, hf4, hd4, hk4, hT4⟩
        rw [en] at hj
        have hS4 := s4.seq hS
        refine ⟨_, rfl, a, _, rfl, .inl hS4, _, rfl, _, _, rfl, rfl, _, rfl, _, _, rfl, rfl, _, _, rfl, rfl, (by show (0 : Int) < 2; decide), _, rfl, _, rfl, ?_⟩
        have xlen : xs.length ≤ 200 := by
          rw [hT4.len, List.length_append]
          have h1 := planTo_le ns first i
          have h2 := chunk_le ns first i j
          have h3 : i * ns.length ≤ 12 * 12 := Nat.mul_le_mul (by omega) h12
          omega
        have eb : (((ns.map V.int).length : Int) - (0 + (i : Int) + 1 + (j : Int)) + (0 + (i : Int))) % 2 = (((ns.length - (j + 1)) % 2 : Nat) : Int) := by rw [el]; omega
        have test : ∀ (z : Int), z = ((parOf first : Nat) : Int) → decide (V.int ((((ns.map V.int).length : Int) - (0 + (i : Int) + 1 + (j : Int)) + (0 + (i : Int))) % 2) = V.int z) = lineB ns.length first j := by
          rintro z rfl
          unfold lineB
          rw [eb]
          by_cases c : (ns.length - (j + 1)) % 2 = parOf first
          · rw [decide_eq_true c, c]
            exact decide_eq_true rfl
          · rw [decide_eq_false c]
            exact decide_eq_false (fun z => c (by have z' := V.int.inj z; omega))
        cases first with
        | true =>
          refine iteT ⟨rfl, _, rfl, ?_⟩
          rw [test 0 rfl]
          cases c : lineB ns.length true j with
          | false =>
            refine iteF ?_
            refine ⟨xs, kvs, _, rfl, s4, hf4, hd4, hk4, ?_⟩
            rw [chunk_succ, c, if_neg Bool.false_ne_true, List.append_nil]
            exact hT4
          | true =>
            refine iteT ?_
            refine ⟨_, rfl, .inl ⟨rfl, _, SqL.of hf4⟩, _, rfl, _, rfl, _, rfl, _, rfl, _, rfl, _, rfl, ?_⟩
            refine ⟨a, d, ns, i, j, _, _, kvs, rfl, e0, by omega, hS4, hd4, hk4, h12, by omega, fun H5 kvs5 pb s5 hd5 hk5 npb hpb => ?_⟩
            refine ⟨pb, _, _, _, rfl, rfl, SqL.of hpb, atI_nat (j := 0) (bestEnd_at ns i j), (by show 3 ≤ sizeLine; decide), fun pt npt => gen_heap npt fun H6 s6 hpt => ?_⟩
            have hf6 := s6 _ _ (s5 _ _ ndf.symm hf4)
            refine ⟨f, _, _, rfl, rfl, hf6, size_lt (by omega), gen_put hf6 fun H7 s7 hf7 => ?_⟩
            have npf : pt ≠ f := ne_of hpt hf6 (by intro z; cases z)
            refine ⟨_, kvs5, _, rfl, fun b o e => ?_, hf7, s7 _ _ ndf (s6 _ _ hd5), hk5, ?_⟩
            · exact s7 _ _ (ne_of_none e nf) (s6 _ _ (s5 _ _ (ne_of_none e ndH) (s4 _ _ e)))
            · rw [chunk_succ, c, if_pos rfl, ← List.append_assoc]
              have hT5 : Tris H5 xs (planTo ns true i ++ chunk ns true i j) := hT4.butO s5 hd4 (by intro _ z; cases z)
              refine Tris.app (.cons (s7 _ _ npf ?_) .nil) ((hT5.mono s6).but s7 hf6)
              rw [hpt]
              unfold triV lineV
              have e1 : (0 : Int) + (i : Int) + 1 + (j : Int) = ((i + (j + 1) : Nat) : Int) := by omega
              show some (HO.tup [V.int (0 + (i : Int)), V.int (0 + (i : Int) + 1 + (j : Int)), V.str (sideS (bestEnd ns i j))]) = some (HO.tup [V.int (i : Int), V.int ((i + (j + 1) : Nat) : Int), V.str (sideS (bestEnd ns i j))])
              rw [e1, e0]
        | false =>
          refine iteF ⟨rfl, _, rfl, ?_⟩
          rw [test 1 rfl]
          cases c : lineB ns.length false j with
          | false =>
            refine iteF ?_
            refine ⟨xs, kvs, _, rfl, s4, hf4, hd4, hk4, ?_⟩
            rw [chunk_succ, c, if_neg Bool.false_ne_true, List.append_nil]
            exact hT4
          | true =>
            refine iteT ?_
            refine ⟨_, rfl, .inl ⟨rfl, _, SqL.of hf4⟩, _, rfl, _, rfl, _, rfl, _, rfl, _, rfl, _, rfl, ?_⟩
            refine ⟨a, d, ns, i, j, _, _, kvs, rfl, e0, by omega, hS4, hd4, hk4, h12, by omega, fun H5 kvs5 pb s5 hd5 hk5 npb hpb => ?_⟩
            refine ⟨pb, _, _, _, rfl, rfl, SqL.of hpb, atI_nat (j := 0) (bestEnd_at ns i j), (by show 3 ≤ sizeLine; decide), fun pt npt => gen_heap npt fun H6 s6 hpt => ?_⟩
            have hf6 := s6 _ _ (s5 _ _ ndf.symm hf4)
            refine ⟨f, _, _, rfl, rfl, hf6, size_lt (by omega), gen_put hf6 fun H7 s7 hf7 => ?_⟩
            have npf : pt ≠ f := ne_of hpt hf6 (by intro z; cases z)
            refine ⟨_, kvs5, _, rfl, fun b o e => ?_, hf7, s7 _ _ ndf (s6 _ _ hd5), hk5, ?_⟩
            · exact s7 _ _ (ne_of_none e nf) (s6 _ _ (s5 _ _ (ne_of_none e ndH) (s4 _ _ e)))
            · rw [chunk_succ, c, if_pos rfl, ← List.append_assoc]
              have hT5 : Tris H5 xs (planTo ns false i ++ chunk ns false i j) := hT4.butO s5 hd4 (by intro _ z; cases z)
              refine Tris.app (.cons (s7 _ _ npf ?_) .nil) ((hT5.mono s6).but s7 hf6)
              rw [hpt]
              unfold triV lineV
              have e1 : (0 : Int) + (i : Int) + 1 + (j : Int) = ((i + (j + 1) : Nat) : Int) := by omega
              show some (HO.tup [V.int (0 + (i : Int)), V.int (0 + (i : Int) + 1 + (j : Int)), V.str (sideS (bestEnd ns i j))]) = some (HO.tup [V.int (i : Int), V.int ((i + (j + 1) : Nat) : Int), V.str (sideS (bestEnd ns i j))])
              rw [e1, e0]
      · rintro σ H4 ⟨xs, kvs, x5, rfl, s4, hf4, hd4, hk4, hT4⟩
        rw [en] at hT4
        rw [← planTo_succ] at hT4
        exact ⟨xs, kvs, _, _, rfl, s4, hf4, hd4, hk4, hT4⟩
    · rintro σ H3 ⟨xs, kvs, x4, x5, rfl, s3, hf3, hd3, hk3, hT3⟩
      rw [show ((ns.map V.int).length : Int).toNat = ns.length by rw [el]; omega] at hT3
      exact ⟨_, rfl, q H3 f xs s3 nf hf3 hT3⟩
theorem ok_judged (T : Tx K mg A) : FnOk P w K mg base (L2.CX P w) 16 A.f_judged A.d_judged ["row", "least"] (spJudged K A.C_BadRow A.C_BadNumber A.C_Gets A.C_Held) := by
  have Gworth_of : FnOk P w K mg base CX0 13 A.f_worth_of A.d_worth_of ["row", "low", "behind", "known"] (spWorthOf K 13) := ok_worth_of T
  have Gcheck_row : FnOk P w K mg base (L2.CX P w) 2 A.f_check_row A.d_check_row ["row"] (spCheck K A.C_BadRow) := ok_check_row T
  have Gis_whole : FnOk P w K mg base CX0 1 A.f_is_whole A.d_is_whole ["thing"] (spWhole K) := ok_is_whole T
  have Gplan_of : FnOk P w K mg base CX0 15 A.f_plan_of A.d_plan_of ["row", "first"] (spPlanOf K) := ok_plan_of T
  have GGets_init : FnOk P w K mg base CX0 1 A.f_Gets_init A.d_Gets_init ["self", "plan"] (spInit K A.C_Gets) := ok_Gets_init T
  have GHeld_init : FnOk P w K mg base CX0 1 A.f_Held_init A.d_Held_init ["self", "plan"] (spInit K A.C_Held) := ok_Held_init T
  refine T.Fjudged.okX sc_judged (fun vs H Q E h => ?_) (fun cdv A' outer s H vs Q E hr h => ?_)
  · obtain ⟨x, t, rfl, _⟩ := h
    rfl
  · obtain ⟨x, t, rfl, h⟩ := h
    refine ⟨_, (pss_cons (ps_expr (pe_call Gcheck_row (hr.mono (by first | decide | omega)) (by rfl) T.gcheck_row T.Fcheck_row.kp T.bcheck_row .nil (passes_call (takes_of rfl rfl rfl rfl) (fun _ _ _ _ h => h)) (pa_cons (pv 0) pa_nil)))
      (pss_cons (ps_if (pt_not (pt_val (pe_call Gis_whole (hr.mono (by first | decide | omega)) (by rfl) T.gis_whole T.Fis_whole.kp T.bis_whole .nil pass0 (pa_cons (pv 1) pa_nil)))) (pss_one (ps_raise rfl (takes_of rfl rfl rfl rfl) (pmk_own PySem.F.excBase_ValueError T.xBadNumber T.gBadNumber T.kBadNumber (raises_own T.BBadNumber T.tBadNumber) rfl))) pss_nil)
      (pss_cons (ps_if (pt_cmpR op_ge (pe_call Gworth_of (hr.mono (by first | decide | omega)) (by rfl) T.gworth_of T.Fworth_of.kp T.bworth_of .nil pass0 (pa_cons (pv 0) (pa_cons pe_int (pa_cons (pe_callB call_len_seq (by rfl) T.blen PySem.boot_len (pa_cons (pv 0) pa_nil)) (pa_cons pe_dnewT pa_nil))))) (pv 1) (nomark _)) (pss_one (ps_ret (pe_make T.MGets GGets_init (hr.mono (by first | decide | omega)) (by rfl) T.gGets T.bGets_init .nil pass0 (pa_cons (pe_call Gplan_of (hr.mono (by first | decide | omega)) (by rfl) T.gplan_of T.Fplan_of.kp T.bplan_of .nil pass0 (pa_cons (pv 0) (pa_cons pe_bl pa_nil))) pa_nil)))) pss_nil)
      (pss_one (ps_ret (pe_make T.MHeld GHeld_init (hr.mono (by first | decide | omega)) (by rfl) T.gHeld T.bHeld_init .nil pass0 (pa_cons (pe_call Gplan_of (hr.mono (by first | decide | omega)) (by rfl) T.gplan_of T.Fplan_of.kp T.bplan_of .nil pass0 (pa_cons (pv 0) (pa_cons pe_bl pa_nil))) pa_nil))))))), ?_⟩
    refine ⟨_, rfl, ?_⟩
    rcases h with ⟨hn, q⟩ | ⟨ns, hrow, h⟩
    · exact ⟨x, rfl, .inr ⟨hn, q⟩⟩
    refine ⟨x, rfl, .inl ⟨ns, hrow, fun H1 s1 => ?_⟩⟩
    obtain ⟨r, rfl, hS, hok⟩ := hrow
    have hS1 := s1.seq hS
    have el : (ns.map V.int).length = ns.length := List.length_map _
    rcases h with ⟨⟨ty, hp, e⟩, q⟩ | ⟨k, rfl, q⟩
    · refine ⟨_, rfl, ?_⟩
      refine ⟨_, ty, rfl, hp.mono s1, _, rfl, ?_⟩
      rw [e]
      exact iteT (q H1 s1)
    refine ⟨_, rfl, ?_⟩
    refine ⟨_, _, rfl, pv_int k, _, rfl, iteF ?_⟩
    -- if worth_of(..) >= least
    refine ⟨_, rfl, _, rfl, r, _, rfl, .inl hS1, fun d nd => gen_heap nd fun H2 s2 hd => ?_⟩
    refine ⟨r, d, ns, 0, ns.length, _, _, [], rfl, rfl, by rw [el]; omega, s2.seq hS1, hd, Known.nil _, hok.1, by omega, by have := hok.1; omega, fun H3 kvs3 s3 hd3 hk3 => ?_⟩
    have s13 : Same H1 H3 := fun b o e => s3 _ _ (ne_of_none e nd) (s2 _ _ e)
    have s03 := s1.trans s13
    refine ⟨_, rfl, _, _, rfl, rfl, _, rfl, ?_⟩
    refine ite2 (fun c => ?_) (fun c => ?_)
    · have c' : k ≤ wv ns ns.length 0 := of_decide_eq_true c
      rw [decide_eq_true c', if_pos rfl] at q
      refine ⟨_, rfl, ?_⟩
      refine ⟨r, ns, true, rfl, s03.seq hS, hok.1, fun H4 l xs s4 nl hl hT => ?_⟩
      refine fun o dx no ndx nex => ?_
      have s5 := same_make (C := A.C_Gets) no ndx
      refine ⟨o, l, dx, xs, rfl, upd_same, SqL.of (s5 _ _ hl), fun H6 m s6 nm ho hm => ⟨rfl, ?_⟩⟩
      have hT6 : Tris H6 xs (planV ns true) := (hT.mono s5).butO s6 upd_same (by intro _ z; cases z)
      refine q H6 o dx m xs (fun b u e => ?_) ((s03.trans s4).free no) ((s03.trans s4).free (s5.free nm)) ho hm hT6
      have e4 := s4 _ _ (s03 _ _ e)
      exact s6 _ _ (ne_of_none e4 no) (s5 _ _ e4)
    · have c' : ¬ k ≤ wv ns ns.length 0 := fun z => c (decide_eq_true z)
      rw [decide_eq_false c', if_neg Bool.false_ne_true] at q
      refine ⟨_, rfl, ?_⟩
      refine ⟨r, ns, false, rfl, s03.seq hS, hok.1, fun H4 l xs s4 nl hl hT => ?_⟩
      refine fun o dx no ndx nex => ?_
      have s5 := same_make (C := A.C_Held) no ndx
      refine ⟨o, l, dx, xs, rfl, upd_same, SqL.of (s5 _ _ hl), fun H6 m s6 nm ho hm => ⟨rfl, ?_⟩⟩
      have hT6 : Tris H6 xs (planV ns false) := (hT.mono s5).butO s6 upd_same (by intro _ z; cases z)
      refine q H6 o dx m xs (fun b u e => ?_) ((s03.trans s4).free no) ((s03.trans s4).free (s5.free nm)) ho hm hT6
      have e4 := s4 _ _ (s03 _ _ e)
      exact s6 _ _ (ne_of_none e4 no) (s5 _ _ e4)
end
end K03
namespace K03
open PySem PySem.Spec PyProof.Rows L2 RE
section
variable {P : Program} {w : World} {K : PySem.W.Frag} {mg : Str → Option Value} {base : Heap} {A : Ad}
theorem ok__law_number (T : Tx K mg A) : FnOk P w K mg base CX0 1 A.f__law_number A.d__law_number ["_law_cell", "_law_at", "_law_whole"] spNumber := by
  refine T.F_law_number.ok sc__law_number (fun vs H Q E h => ?_) (fun cdv A' outer s H vs Q E hr h => ?_)
  · obtain ⟨c, a, z, rfl, _⟩ := h
    rfl
  · obtain ⟨c, a, z, rfl, hc, ha, q⟩ := h
    refine ⟨_, (pss_cons (ps_if (pt_cmpR op_ge (pv 0) (pe_op op_pow pe_int pe_int) (nomark _)) (pss_one (ps_ret (pv 0))) pss_nil)
      (pss_cons (ps_set (i := 3) sc__law_number.nd rfl (Or.inl rfl) (pe_op op_mod (pe_op op_add (pe_op op_mulB (pe_op op_add (pv 0) (pe_op op_mulB pe_int (pv 1))) pe_int) (pv 2)) pe_int))
      (pss_cons (ps_set (i := 4) sc__law_number.nd rfl (Or.inl rfl) (pe_op op_mulB (pe_op op_mulB (pv 3) (pe_op op_add (pe_op op_add (pv 3) (pe_op op_mulB pe_int (pv 1))) pe_int)) (pe_op op_add (pe_op op_add (pv 3) (pv 0)) pe_int)))
      (pss_one (ps_ret (pe_op op_fdiv (pe_op op_mulB (pv 4) (pe_op op_add (pv 4) pe_int)) pe_int)))))), ?_⟩
    refine ⟨_, rfl, _, _, rfl, rfl, ⟨by decide, by decide, by decide⟩, _, _, rfl, rfl, _, rfl, ?_⟩
    refine ite2 (fun _ => ?_) (fun _ => ?_)
    · exact ⟨_, rfl, q c⟩
    · have b0 : (977 : Int).natAbs < 2 ^ 10 := by decide
      have b1 : (977 * a).natAbs < 2 ^ (10 + 30) := pw_mul b0 ha
      have b2 : (c + 977 * a).natAbs < 2 ^ (2000000 + 1) := pw_add hc b1 (by decide)
      have b3 : (48271 : Int).natAbs < 2 ^ 16 := by decide
      have b5 : (((c + 977 * a) * 48271 + z) % 2147483647).natAbs < 2 ^ 31 := by
        have h1 := Int.emod_nonneg ((c + 977 * a) * 48271 + z) (show (2147483647 : Int) ≠ 0 by decide)
        have h2 := Int.emod_lt_of_pos ((c + 977 * a) * 48271 + z) (show (0 : Int) < 2147483647 by decide)
        omega
      refine ⟨_, rfl, _, rfl, _, _, rfl, rfl, ⟨10, 30, b0, ha, by decide⟩, _, _, rfl, rfl, _, _, rfl, rfl, ⟨2000000 + 1, 16, b2, b3, by decide⟩, _, rfl, _, _, rfl, rfl, _, _, rfl, rfl, (by show (0 : Int) < 2147483647; decide), ?_⟩
      -- more
      have b6 : (31 : Int).natAbs < 2 ^ 5 := by decide
      have b7 : (31 * a).natAbs < 2 ^ (5 + 30) := pw_mul b6 ha
      generalize hm : (((c + 977 * a) * 48271 + z) % 2147483647) = m at b5
      have b8 : (m + 31 * a + 7).natAbs < 2 ^ (36 + 1) := pw_add (show (m + 31 * a).natAbs < 2 ^ 36 by omega) (show (7 : Int).natAbs < 2 ^ 3 by decide) (by decide)
      have b9 : (m * (m + 31 * a + 7)).natAbs < 2 ^ (31 + (36 + 1)) := pw_mul b5 b8
      have b10 : (m + c).natAbs < 2 ^ (2000000 + 1) := by
        have := pw_add hc b5 (by decide)
        rw [Int.add_comm] at this
        exact this
      have b11 : (m + c + 5).natAbs < 2 ^ (2000000 + 1 + 1) := pw_add b10 (show (5 : Int).natAbs < 2 ^ 3 by decide) (by decide)
      have b12 : (m * (m + 31 * a + 7) * (m + c + 5)).natAbs < 2 ^ (31 + (36 + 1) + (2000000 + 1 + 1)) := pw_mul b9 b11
      have b13 : (m * (m + 31 * a + 7) * (m + c + 5) + 48271).natAbs < 2 ^ (31 + (36 + 1) + (2000000 + 1 + 1) + 1) := pw_add b12 b3 (by decide)
      rw [← hm] at b5 b8 b9 b10 b11 b12 b13
      refine ⟨_, rfl, _, rfl, _, rfl, _, _, rfl, rfl, ⟨5, 30, b6, ha, by decide⟩, _, _, rfl, rfl, _, _, rfl, rfl, _, _, rfl, rfl, ⟨31, 36 + 1, b5, b8, by decide⟩, _, rfl, _, rfl, _, _, rfl, rfl, _, _, rfl, rfl, _, _, rfl, rfl, ⟨_, _, b9, b11, by decide⟩, ?_⟩
      refine ⟨_, rfl, _, rfl, _, _, rfl, rfl, _, _, rfl, rfl, ⟨_, _, b12, b13, by decide⟩, _, _, rfl, rfl, ⟨by decide, by decide⟩, ?_⟩
      exact q _
theorem ok__law_row (T : Tx K mg A) : FnOk P w K mg base CX0 2 A.f__law_row A.d__law_row ["_law_script", "_law_by", "_law_most"] (spLRow K) := by
  have G_law_number : FnOk P w K mg base CX0 1 A.f__law_number A.d__law_number ["_law_cell", "_law_at", "_law_whole"] spNumber := ok__law_number T
  refine T.F_law_row.ok sc__law_row (fun vs H Q E h => ?_) (fun cdv A' outer s H vs Q E hr h => ?_)
  · obtain ⟨a, cs, b, most, rfl, _⟩ := h
    rfl
  · obtain ⟨a, cs, b, most, rfl, hS, h63, hbits, b0, b1, m0, m1, q⟩ := h
    refine ⟨_, (pss_mid (ps_set (i := 3) sc__law_row.nd rfl (Or.inl rfl) (pe_ifExp (pt_cmpR (op_neD hr.units) (pv 0) (pe_lst pa_nil) (nomark _)) (pe_slice sl_list (pv 0) po_none (po_some pe_int)) (pe_lst (pa_cons pe_int pa_nil))))
      (pss_cons (ps_par (i := 4) (j := 5) rfl sc__law_row.nd rfl rfl (by decide) rfl rfl (pa_cons (pe_op op_add (pe_callB (cr_sum rfl) (by rfl) T.bsum (by decide +kernel) (pa_cons (pv 3) pa_nil)) (pv 1)) (pa_cons (pe_lst pa_nil) pa_nil)) (by rfl))
      (pss_cons (ps_set (i := 6) sc__law_row.nd rfl (Or.inl rfl) (pe_op op_mod (pe_op op_fdiv (pe_call G_law_number (hr.mono (by first | decide | omega)) (by rfl) T.g_law_number T.F_law_number.kp T.b_law_number .nil pass0 (pa_cons (pv 4) (pa_cons (pe_op op_add (pv 1) pe_int) (pa_cons pe_int pa_nil)))) pe_int) pe_int))
      (pss_cons (ps_for PassesOwn.never rfl (pi_range1 (by rfl) T.brange (pa_cons (pe_op op_mod (pe_op op_fdiv (pe_call G_law_number (hr.mono (by first | decide | omega)) (by rfl) T.g_law_number T.F_law_number.kp T.b_law_number .nil pass0 (pa_cons (pv 4) (pa_cons (pe_op op_add (pv 1) pe_int) (pa_cons pe_int pa_nil)))) pe_int) (pe_op op_add (pv 2) pe_int)) pa_nil)) (pg_name (i := 7) sc__law_row.nd rfl (Or.inl rfl))
      (pss_cons (ps_set (i := 8) sc__law_row.nd rfl (Or.inl rfl) (pe_op op_fdiv (pe_call G_law_number (hr.mono (by first | decide | omega)) (by rfl) T.g_law_number T.F_law_number.kp T.b_law_number .nil pass0 (pa_cons (pe_ix ix_list (pv 3) (pe_op op_mod (pe_op op_add (pv 7) (pv 1)) (pe_callB call_len_seq (by rfl) T.blen PySem.boot_len (pa_cons (pv 3) pa_nil))) (fun _ _ => rfl)) (pa_cons (pe_op op_add (pv 7) (pv 1)) (pa_cons (pv 4) pa_nil)))) pe_int))
      (pss_one (ps_expr (pe_bm PySem.F.plainAttrs_list PySem.F.slot_list_append PySem.F.type_list_append mt_append (pv 5) (pa_cons (pe_ix ix_tup (pe_tup (pa_cons (pe_op op_mod (pv 8) pe_int) (pa_cons (pe_op op_mul (pe_op op_mod (pv 8) pe_int) pe_int) (pa_cons (pe_op op_mod (pv 8) pe_int) (pa_cons (pe_op op_mul (pv 7) (pv 7)) (pa_cons pe_int pa_nil)))))) (pv 6) (fun _ _ => rfl)) pa_nil))))))
      (pss_one (ps_ret (pv 5))))))), ?_⟩
    -- _law_cells = _law_script[:63] if _law_script != [] else [5]
    refine ⟨fun σ' H2 => ∃ (c : Addr) (ds : List Int), σ' = [some (.ref a), some (.int b), some (.int most), some (.ref c), none, none, none, none, none] ∧ Same H H2 ∧ SqL K H2 c (ds.map V.int) ∧ 0 < ds.length ∧ ds.length ≤ 63 ∧ (∀ z ∈ ds, z.natAbs < 2 ^ 1048576), ?_, ?_⟩
    · refine ⟨_, rfl, Nat.zero_le _, fun l nl => ?_⟩
      have s1 : Same H (upd H l (.lst [])) := same_new nl _
      have hS1 := s1.seq hS
      refine ⟨_, _, dp_lst hS1 (ok_ints cs), dp_lst (xs := []) (SqL.of upd_same) rfl, shl_flat (ok_ints cs), shl_flat (xs := []) rfl, _, rfl, ?_⟩
      cases cs with
      | nil =>
        refine iteF ?_
        refine ⟨(by show 1 ≤ sizeLine; decide), fun c nc => ?_⟩
        refine ⟨c, [5], rfl, s1.trans (same_new nc _), SqL.of upd_same, by decide, by decide, fun z hz => ?_⟩
        have e : z = 5 := by simpa using hz
        subst e
        exact pw_mono (a := 3) (by decide) (by decide)
      | cons z r =>
        refine iteT ?_
        refine ⟨_, rfl, 63, rfl, a, _, rfl, hS1, fun c nc => ?_⟩
        refine ⟨c, z :: r, rfl, s1.trans (same_new nc _), SqL.of ?_, by simp, h63, hbits⟩
        rw [upd_same, cut63 (by rw [List.length_map]; exact h63)]
    · rintro σ' H2 ⟨c, ds, rfl, s2, hS2, hpos, h63', hb⟩
      -- _law_whole_here, _law_found = sum(_law_cells) + _law_by, []
      refine ⟨_, rfl, c, ds, rfl, hS2, _, rfl, _, _, rfl, rfl, Nat.zero_le _, fun f nf => ⟨_, _, rfl, ?_⟩⟩
      have bw : (ds.sum + b).natAbs < 2 ^ 2000000 := by
        have h1 := sum_bits ds 1048576 hb
        have h2 := pw_mono h1 (show 1048576 + ds.length ≤ 1048639 by omega)
        have h3 : (ds.sum + b).natAbs < 2 ^ (1048639 + 1) := pw_add h2 (show b.natAbs < 2 ^ 10 by omega) (by decide)
        exact pw_mono h3 (by decide)
      -- _law_kind = _law_number(_law_whole, _law_by + 1, 3) // 3 % 5
      refine ⟨_, rfl, _, rfl, _, _, rfl, rfl, ?_⟩
      refine ⟨ds.sum + b, b + 1, 3, rfl, bw, by omega, fun r1 => ?_⟩
      refine ⟨_, _, rfl, rfl, ⟨by decide, by decide⟩, _, _, rfl, rfl, (by show (0 : Int) < 5; decide), ?_⟩
      have k0 := Int.emod_nonneg (r1 / 3) (show (5 : Int) ≠ 0 by decide)
      have k1 := Int.emod_lt_of_pos (r1 / 3) (show (0 : Int) < 5 by decide)
      -- the loop
      refine ⟨_, rfl, _, rfl, _, _, rfl, rfl, ?_⟩
      refine ⟨ds.sum + b, b + 2, 3, rfl, bw, by omega, fun r2 => ?_⟩
      have mp : (0 : Int) < most + 1 := by omega
      have n0 := Int.emod_nonneg (r2 / 5) (show most + 1 ≠ 0 by omega)
      have n1 := Int.emod_lt_of_pos (r2 / 5) mp
      refine ⟨_, _, rfl, rfl, ⟨by decide, by decide⟩, _, rfl, _, _, rfl, rfl, _, _, rfl, rfl, mp, (r2 / 5) % (most + 1), rfl, by omega, by omega, ?_⟩
      generalize hkk : (r1 / 3) % 5 = kind at k0 k1
      generalize hnn : (r2 / 5) % (most + 1) = size at n0 n1
      have nfH : H f = none := s2.free nf
      refine for_range (lo := 0) (n := size.toNat) (fun i σ H3 => ∃ (ns : List Int) (x7 x8 : Option V), σ = [some (.ref a), some (.int b), some (.int most), some (.ref c), some (.int (ds.sum + b)), some (.ref f), some (.int kind), x7, x8] ∧ Same H2 H3 ∧ H3 f = some (.lst (ns.map V.int)) ∧ ns.length = i ∧ RowOk ns) ?_ ?_ ?_
      · refine ⟨[], none, none, ?_, same_new nf _, upd_same, rfl, ⟨Nat.zero_le _, fun z hz => (nomatch hz)⟩⟩
        rw [← hkk]
        rfl
      · rintro i σ H3 hi ⟨ns, x7, x8, rfl, s3, hf, hl, hok⟩
        have hS3 := s3.seq hS2
        -- _law_number_here = ..
        have dl : 0 < ((ds.map V.int).length : Int) := by rw [List.length_map]; omega
        have j0 := Int.emod_nonneg (0 + (i : Int) + b) (show ((ds.map V.int).length : Int) ≠ 0 by omega)
        have j1 := Int.emod_lt_of_pos (0 + (i : Int) + b) dl
        have el : (ds.map V.int).length = ds.length := List.length_map _
        refine ⟨_, rfl, _, rfl, _, rfl, _, _, rfl, rfl, _, rfl, c, _, rfl, .inl hS3, _, _, rfl, rfl, dl, c, _, _, _, rfl, rfl, hS3, at_get (j := ((0 + (i : Int) + b) % ((ds.map V.int).length : Int)).toNat) (by omega) (by rw [el] at j1 ⊢; omega), _, rfl, _, rfl, _, _, rfl, rfl, _, rfl, ?_⟩
        have bc : (ds.getD ((0 + (i : Int) + b) % ((ds.map V.int).length : Int)).toNat 0).natAbs < 2 ^ 2000000 := by
          rw [List.getD_eq_getElem?_getD]
          cases e : ds[((0 + (i : Int) + b) % ((ds.map V.int).length : Int)).toNat]? with
          | none => exact Nat.pow_pos (by decide)
          | some z => exact pw_mono (hb z (List.mem_of_getElem? e)) (by decide)
        refine ⟨_, _, _, rfl, bc, by omega, fun r3 => ?_⟩
        refine ⟨_, _, rfl, rfl, ⟨by decide, by decide⟩, ?_⟩
        -- _law_found.append((..)[_law_kind])
        have p1 := Int.emod_nonneg (r3 / 3) (show (10 : Int) ≠ 0 by decide)
        have p2 := Int.emod_lt_of_pos (r3 / 3) (show (0 : Int) < 10 by decide)
        have p3 := Int.emod_nonneg (r3 / 3) (show (2 : Int) ≠ 0 by decide)
        have p4 := Int.emod_lt_of_pos (r3 / 3) (show (0 : Int) < 2 by decide)
        have p5 := Int.emod_nonneg (r3 / 3) (show (1000001 : Int) ≠ 0 by decide)
        have p6 := Int.emod_lt_of_pos (r3 / 3) (show (0 : Int) < 1000001 by decide)
        have i12 : i < 12 := by omega
        refine ⟨_, rfl, .inl ⟨rfl, _, SqL.of hf⟩, ?_⟩
        refine ⟨_, rfl, _, _, rfl, rfl, (by show (0 : Int) < 10; decide), _, rfl, _, _, rfl, rfl, (by show (0 : Int) < 2; decide), _, _, rfl, rfl, .inl ⟨by omega, by omega⟩, _, rfl, _, _, rfl, rfl, (by show (0 : Int) < 1000001; decide), _, rfl, _, rfl, _, _, rfl, rfl, .inl ⟨by omega, by omega⟩, (by show 5 ≤ sizeLine; decide), fun t nt => ?_⟩
        have nft : f ≠ t := ne_of_none hf nt
        have pick : ∃ v : Int, atI [V.int ((r3 / 3) % 10), V.int ((r3 / 3) % 2 * 5), V.int ((r3 / 3) % 1000001), V.int ((0 + (i : Int)) * (0 + (i : Int))), V.int 7] kind = some (.int v) ∧ 0 ≤ v ∧ v ≤ 1000000 := by
          have hk : kind = 0 ∨ kind = 1 ∨ kind = 2 ∨ kind = 3 ∨ kind = 4 := by omega
          rcases hk with e | e | e | e | e <;> subst e
          · exact ⟨_, atI_nat (j := 0) rfl, by omega, by omega⟩
          · exact ⟨_, atI_nat (j := 1) rfl, by omega, by omega⟩
          · exact ⟨_, atI_nat (j := 2) rfl, by omega, by omega⟩
          · refine ⟨_, atI_nat (j := 3) rfl, ?_, ?_⟩
            · exact Int.mul_nonneg (by omega) (by omega)
            · have : (0 + (i : Int)) * (0 + (i : Int)) ≤ 12 * 12 := Int.mul_le_mul (by omega) (by omega) (by omega) (by omega)
              omega
          · exact ⟨_, atI_nat (j := 4) rfl, by omega, by omega⟩
        obtain ⟨v, hv, v0, v1⟩ := pick
        refine ⟨_, rfl, t, _, _, _, rfl, rfl, SqT.of upd_same, hv, ?_⟩
        have hf2 : (upd H3 t (.tup [V.int ((r3 / 3) % 10), V.int ((r3 / 3) % 2 * 5), V.int ((r3 / 3) % 1000001), V.int ((0 + (i : Int)) * (0 + (i : Int))), V.int 7])) f = some (.lst (ns.map V.int)) := by rw [upd_ne nft]; exact hf
        refine ⟨f, _, _, rfl, rfl, hf2, by rw [List.length_map]; exact size_lt (by omega), ?_⟩
        refine ⟨ns ++ [v], _, _, rfl, fun x o e => ?_, ?_, by rw [List.length_append, hl]; rfl, ?_⟩
        · rw [upd_ne (ne_of_none e nf)]
          exact same_new nt _ x o (s3 x o e)
        · rw [upd_same, List.map_append]
          rfl
        · refine ⟨by rw [List.length_append, hl]; show i + 1 ≤ 12; omega, fun z hz => ?_⟩
          rcases List.mem_append.mp hz with hz | hz
          · exact hok.2 z hz
          · have e : z = v := by simpa using hz
            subst e
            exact ⟨v0, v1⟩
      · rintro σ H3 ⟨ns, x7, x8, rfl, s3, hf, hl, hok⟩
        refine ⟨_, rfl, ?_⟩
        exact q ns f H3 hok (by rw [hl]; omega) (s2.trans s3) nfH hf
end
end K03
namespace K03
open PySem PySem.Spec PyProof.Rows L2 RE
section
variable {P : Program} {w : World} {K : PySem.W.Frag} {mg : Str → Option Value} {base : Heap} {A : Ad}
theorem ok__law_worths (T : Tx K mg A) : FnOk P w K mg base CX0 1 A.f__law_worths A.d__law_worths ["_law_row_here"] (spWorths K) := by
  refine T.F_law_worths.ok sc__law_worths (fun vs H Q E h => ?_) (fun cdv A' outer s H vs Q E hr h => ?_)
  · obtain ⟨a, ns, rfl, _⟩ := h
    rfl
  · obtain ⟨a, ns, rfl, hS, h12, q⟩ := h
    refine ⟨_, (pss_cons (ps_set (i := 1) sc__law_worths.nd rfl (Or.inl rfl) pe_dnewT)
      (pss_cons (ps_for PassesOwn.never rfl (pi_range1 (by rfl) T.brange (pa_cons (pe_op op_add (pe_callB call_len_seq (by rfl) T.blen PySem.boot_len (pa_cons (pv 0) pa_nil)) pe_int) pa_nil)) (pg_name (i := 2) sc__law_worths.nd rfl (Or.inl rfl))
      (pss_one (ps_for PassesOwn.never rfl (pi_range1 (by rfl) T.brange (pa_cons (pe_op op_add (pe_op op_sub (pe_callB call_len_seq (by rfl) T.blen PySem.boot_len (pa_cons (pv 0) pa_nil)) (pv 2)) pe_int) pa_nil)) (pg_name (i := 3) sc__law_worths.nd rfl (Or.inl rfl))
      (pss_cons (ps_set (i := 4) sc__law_worths.nd rfl (Or.inl rfl) (pe_op op_add (pv 3) (pv 2)))
      (pss_cons (ps_dput (hu_of hr) (pv 1) (pe_tup (pa_cons (pv 3) (pa_cons (pv 4) pa_nil))) pe_int rfl)
      (pss_one (ps_if (pt_cmpR op_gt (pv 2) pe_int (nomark _)) (pss_cons (ps_set (i := 5) sc__law_worths.nd rfl (Or.inl rfl) (pe_op op_sub (pe_ix ix_list (pv 0) (pv 3) (fun _ _ => rfl)) (pe_dget (hu_of hr) (pv 1) (pe_tup (pa_cons (pe_op op_add (pv 3) pe_int) (pa_cons (pv 4) pa_nil))) (fun _ _ => rfl))))
      (pss_one (ps_dput (hu_of hr) (pv 1) (pe_tup (pa_cons (pv 3) (pa_cons (pv 4) pa_nil))) (pe_callB (call_max2 rfl) (by rfl) T.bmax (by decide +kernel) (pa_cons (pv 5) (pa_cons (pe_op op_sub (pe_ix ix_list (pv 0) (pe_op op_sub (pv 4) pe_int) (fun _ _ => rfl)) (pe_dget (hu_of hr) (pv 1) (pe_tup (pa_cons (pv 3) (pa_cons (pe_op op_sub (pv 4) pe_int) pa_nil))) (fun _ _ => rfl))) pa_nil))) rfl))) pss_nil)))))))
      (pss_one (ps_ret (pv 1))))), ?_⟩
    refine fun d nd => ?_
    have el : (ns.map V.int).length = ns.length := List.length_map _
    have s1 := same_new nd (.dT [])
    refine ⟨_, rfl, a, _, rfl, .inl (s1.seq hS), _, _, rfl, rfl, ((ns.map V.int).length : Int) + 1, rfl, by rw [el]; omega, by rw [el]; omega, ?_⟩
    refine for_range (lo := 0) (n := (((ns.map V.int).length : Int) + 1).toNat) (fun i σ H2 => ∃ (kvs : List (List Key × V)) (x2 x3 x4 x5 : Option V), σ = [some (.ref a), some (.ref d), x2, x3, x4, x5] ∧ Same H H2 ∧ H2 d = some (.dT kvs) ∧ Done ns kvs i 0 ∧ kvs.length ≤ 30 * i) ?_ ?_ ?_
    · exact ⟨[], none, none, none, none, rfl, s1, upd_same, Done.nil ns, Nat.zero_le _⟩
    · rintro i σ H2 hi ⟨kvs, x2, x3, x4, x5, rfl, s2, hd2, hk2, hl2⟩
      rw [el] at hi
      have hi' : i ≤ ns.length := by omega
      -- for _law_low in range(len(row) - many + 1)
      refine ⟨_, rfl, a, _, rfl, .inl (s2.seq hS), _, rfl, _, _, rfl, rfl, _, _, rfl, rfl, ((ns.map V.int).length : Int) - (0 + (i : Int)) + 1, rfl, by rw [el]; omega, by rw [el]; omega, ?_⟩
      refine for_range (lo := 0) (n := (((ns.map V.int).length : Int) - (0 + (i : Int)) + 1).toNat) (fun j σ H3 => ∃ (kvs : List (List Key × V)) (x3 x4 x5 : Option V), σ = [some (.ref a), some (.ref d), some (.int (0 + (i : Int))), x3, x4, x5] ∧ Same H H3 ∧ H3 d = some (.dT kvs) ∧ Done ns kvs i j ∧ kvs.length ≤ 30 * i + 2 * j) ?_ ?_ ?_
      · exact ⟨kvs, x3, x4, x5, rfl, s2, hd2, hk2, hl2⟩
      · rintro j σ H3 hj ⟨kvs, x3, x4, x5, rfl, s3, hd3, hk3, hl3⟩
        rw [el] at hj
        -- _law_behind = _law_low + _law_many
        refine ⟨_, rfl, _, rfl, _, _, rfl, rfl, ?_⟩
        -- _law_found[(_law_low, _law_behind)] = 0
        refine ⟨_, rfl, _, rfl, _, rfl, (by show 2 ≤ sizeLine; decide), fun p np => ?_⟩
        have s4 := same_new np (.tup [V.int (0 + (j : Int)), V.int (0 + (j : Int) + (0 + (i : Int)))])
        have hd4 := s4 _ _ hd3
        have hl4 : kvs.length < sizeLine := size_lt (by omega)
        refine ⟨d, _, rfl, DPut.t (k := keyOf j i) hd4 (by rw [upd_same]; exact congrArg (fun z => some (HO.tup z)) (keyEq (by omega) (by omega))) hl4, ?_⟩
        generalize hH4 : upd H3 p (.tup [V.int (0 + (j : Int)), V.int (0 + (j : Int) + (0 + (i : Int)))]) = H4 at s4 hd4
        have hlp := length_putK kvs (keyOf j i) (.int 0)
        have s5 : Same H (upd H4 d (.dT (putK kvs (keyOf j i) (.int 0)))) := fun b o e => by
          rw [upd_ne (ne_of_none e nd)]
          exact s4 b o (s3 b o e)
        -- if _law_many > 0
        refine ⟨_, rfl, _, _, rfl, rfl, _, rfl, ?_⟩
        refine ite2 (fun c => ?_) (fun c => ?_)
        · have c' : (0 : Int) < 0 + (i : Int) := of_decide_eq_true c
          obtain ⟨k, rfl⟩ : ∃ k, i = k + 1 := ⟨i - 1, by omega⟩
          have hS5 := s5.seq hS
          -- one = row[low] - found[(low + 1, behind)]
          refine ⟨_, rfl, _, rfl, a, _, _, _, rfl, rfl, hS5, at_get (j := j) (by omega) (by omega), _, rfl, _, rfl, _, _, rfl, rfl, _, rfl, (by show 2 ≤ sizeLine; decide), fun p6 np6 => ?_⟩
          have s6 := same_new np6 (.tup [V.int (0 + (j : Int) + 1), V.int (0 + (j : Int) + (0 + ((k + 1 : Nat) : Int)))])
          have hd6 := s6 _ _ upd_same
          refine ⟨d, .int (wv ns k (j + 1)), rfl, ?_, ?_⟩
          · have g := DGet.t (k := keyOf (j + 1) k) (b := p6) hd6 (by rw [upd_same]; exact congrArg (fun z => some (HO.tup z)) (keyEq (by omega) (by omega)))
            rw [valV_put, if_neg (fun z => by have := keyOf_inj z; omega), hk3 k (j + 1) (by omega) (.inl (by omega))] at g
            exact g
          refine ⟨_, _, rfl, rfl, ?_⟩
          generalize hH6 : upd (upd H4 d (.dT (putK kvs (keyOf j (k + 1)) (.int 0)))) p6 (.tup [V.int (0 + (j : Int) + 1), V.int (0 + (j : Int) + (0 + ((k + 1 : Nat) : Int)))]) = H6 at s6 hd6
          have hS6 := s6.seq hS5
          -- found[(low, behind)] = max(one, row[behind - 1] - found[(low, behind - 1)])
          refine ⟨_, rfl, _, rfl, _, rfl, _, _, rfl, rfl, a, _, _, _, rfl, rfl, hS6, at_get (j := j + k) (by omega) (by omega), _, rfl, _, rfl, _, rfl, _, _, rfl, rfl, (by show 2 ≤ sizeLine; decide), fun p7 np7 => ?_⟩
          have s7 := same_new np7 (.tup [V.int (0 + (j : Int)), V.int (0 + (j : Int) + (0 + ((k + 1 : Nat) : Int)) - 1)])
          have hd7 := s7 _ _ hd6
          refine ⟨d, .int (wv ns k j), rfl, ?_, ?_⟩
          · have g := DGet.t (k := keyOf j k) (b := p7) hd7 (by rw [upd_same]; exact congrArg (fun z => some (HO.tup z)) (keyEq (by omega) (by omega)))
            rw [valV_put, if_neg (fun z => by have := keyOf_inj z; omega), hk3 k j (by omega) (.inl (by omega))] at g
            exact g
          refine ⟨_, _, rfl, rfl, _, _, rfl, ?_⟩
          have ew : (if ns.getD (j + k) 0 - wv ns k j > ns.getD j 0 - wv ns k (j + 1) then ns.getD (j + k) 0 - wv ns k j else ns.getD j 0 - wv ns k (j + 1)) = wv ns (k + 1) j := (wv_succ ns k j).symm
          rw [ew]
          generalize hH7 : upd H6 p7 (.tup [V.int (0 + (j : Int)), V.int (0 + (j : Int) + (0 + ((k + 1 : Nat) : Int)) - 1)]) = H7 at s7 hd7
          refine ⟨_, rfl, _, rfl, _, rfl, (by show 2 ≤ sizeLine; decide), fun p8 np8 => ?_⟩
          have s8 := same_new np8 (.tup [V.int (0 + (j : Int)), V.int (0 + (j : Int) + (0 + ((k + 1 : Nat) : Int)))])
          have hd8 := s8 _ _ hd7
          have hl8 : (putK kvs (keyOf j (k + 1)) (.int 0)).length < sizeLine := size_lt (by omega)
          refine ⟨d, _, rfl, DPut.t (k := keyOf j (k + 1)) hd8 (by rw [upd_same]; exact congrArg (fun z => some (HO.tup z)) (keyEq (by omega) (by omega))) hl8, ?_⟩
          refine ⟨_, _, _, _, rfl, fun b o e => ?_, upd_same, ?_, ?_⟩
          · rw [upd_ne (ne_of_none e nd)]
            exact s8 b o (s7 b o (s6 b o (s5 b o e)))
          · intro m low h1 h2
            rw [valV_put]
            by_cases e : keyOf low m = keyOf j (k + 1)
            · obtain ⟨rfl, rfl⟩ := keyOf_inj e
              rw [if_pos rfl]
            · rw [if_neg e, valV_put, if_neg e]
              refine hk3 m low h1 ?_
              rcases h2 with h2 | ⟨h2, h3⟩
              · exact .inl h2
              · refine .inr ⟨h2, ?_⟩
                have : low ≠ j := fun z => e (by rw [z, h2])
                omega
          · have := length_putK (putK kvs (keyOf j (k + 1)) (.int 0)) (keyOf j (k + 1)) (.int (wv ns (k + 1) j))
            omega
        · have c' : ¬ (0 : Int) < 0 + (i : Int) := fun z => c (decide_eq_true z)
          have i0 : i = 0 := by omega
          subst i0
          refine ⟨_, _, _, _, rfl, s5, upd_same, ?_, by omega⟩
          intro m low h1 h2
          rw [valV_put]
          by_cases e : keyOf low m = keyOf j 0
          · obtain ⟨rfl, rfl⟩ := keyOf_inj e
            rw [if_pos rfl, wv_zero]
          · rw [if_neg e]
            refine hk3 m low h1 ?_
            rcases h2 with h2 | ⟨h2, h3⟩
            · exact .inl h2
            · refine .inr ⟨h2, ?_⟩
              have : low ≠ j := fun z => e (by rw [z, h2])
              omega
      · rintro σ H3 ⟨kvs, x3, x4, x5, rfl, s3, hd3, hk3, hl3⟩
        rw [el] at hk3 hl3
        refine ⟨kvs, _, _, _, _, rfl, s3, hd3, ?_, by omega⟩
        intro m low h1 h2
        refine hk3 m low h1 ?_
        rcases h2 with h2 | ⟨h2, h3⟩
        · by_cases e : m = i
          · exact .inr ⟨e, by omega⟩
          · exact .inl (by omega)
        · omega
    · rintro σ H3 ⟨kvs, x2, x3, x4, x5, rfl, s3, hd3, hk3, hl3⟩
      rw [el] at hk3
      exact ⟨_, rfl, q kvs d H3 ⟨fun low n h => hk3 n low h (.inl (by omega))⟩ s3 nd hd3⟩
end
end K03
namespace K03
open PySem PySem.Spec PyProof.Rows L2 RE
section
variable {P : Program} {w : World} {K : PySem.W.Frag} {mg : Str → Option Value} {base : Heap} {A : Ad}
theorem ok__law_says (T : Tx K mg A) : FnOk P w K mg base CX0 1 A.f__law_says A.d__law_says ["_law_said", "_law_due"] spSays := by
  refine T.F_law_says.ok sc__law_says (fun vs H Q E h => ?_) (fun cdv A' outer s H vs Q E hr h => ?_)
  · obtain ⟨a, rfl, _⟩ := h
    rfl
  · obtain ⟨a, rfl, q⟩ := h
    refine ⟨_, (pss_one (ps_ret (pe_and (pe_callB call_isi (by rfl) T.bisinstance (by decide +kernel) (pa_cons (pv 0) (pa_cons (pe_bltn (v := .ty "bool") (by rfl) T.bbool (by decide +kernel) rfl) pa_nil))) (pe_one (pe_cmpR op_eq (pv 0) (pv 1) (nomark _)))))), ?_⟩
    refine ⟨_, rfl, _, _, _, _, _, rfl, .ty _, (pv_bl a).ty, kit_bool (T := "bool") (by decide), _, rfl, iteT ⟨_, rfl, _, rfl, rfl, ?_⟩⟩
    rw [decide_eq_true rfl]
    exact q
theorem ok__law_got (T : Tx K mg A) : FnOk P w K mg base CX0 1 A.f__law_got A.d__law_got ["_law_row_here", "_law_plan", "_law_mine"] (spPlanned K) := by
  refine T.F_law_got.ok sc__law_got (fun vs H Q E h => ?_) (fun cdv A' outer s H vs Q E hr h => ?_)
  · obtain ⟨a, l, ns, xs, p, mine, rfl, _⟩ := h
    rfl
  · obtain ⟨a, l, ns, xs, p, mine, rfl, hS, hl, hp, h1000, h12, q⟩ := h
    refine ⟨_, (pss_cons (ps_par (i := 3) (j := 4) rfl sc__law_got.nd rfl rfl (by decide) rfl rfl (pa_cons pe_dnewT (pa_cons pe_non pa_nil)) (by rfl))
      (pss_cons (ps_for PassesOwn.never rfl (pi_list (pv 1)) (pg_tup rfl (pgs_cons (pg_name (i := 5) sc__law_got.nd rfl (Or.inl rfl)) (pgs_cons (pg_name (i := 6) sc__law_got.nd rfl (Or.inl rfl)) (pgs_cons (pg_name (i := 7) sc__law_got.nd rfl (Or.inl rfl)) pgs_nil))))
      (pss_cons (ps_if (PW.pt (pw_or (pt_not (pt_chain3 op_le op_lt op_le pe_int (pv 5) (pv 6) (pe_callB call_len_seq (by rfl) T.blen PySem.boot_len (pa_cons (pv 0) pa_nil)))) (pw_or1 (pt_cmpR op_notIn_seq (pv 7) (pe_tup (pa_cons pe_str (pa_cons pe_str pa_nil))) (by rfl))))) (pss_one (ps_ret pe_non)) pss_nil)
      (pss_mid (ps_if (PW.pt (pw_and (pt_cmpR op_notN (pv 4) pe_non (nomark _)) (pw_and1 (pt_cmpR (op_leT hr.units0) (pe_tup (pa_cons (pv 5) (pa_cons (pv 6) pa_nil))) (pv 4) (nomark _))))) (pss_one (ps_ret pe_non)) pss_nil)
      (pss_one (ps_asg (pe_tup (pa_cons (pv 7) (pa_cons (pe_tup (pa_cons (pv 5) (pa_cons (pv 6) pa_nil))) pa_nil))) (pg_tup rfl (pgs_cons (pg_sub (pv 3) (pe_tup (pa_cons (pv 5) (pa_cons (pv 6) pa_nil))) (set_dT (hu_of hr))) (pgs_cons (pg_name (i := 4) sc__law_got.nd rfl (Or.inl rfl)) pgs_nil))))))))
      (pss_cons (ps_par (i := 8) (j := 9) rfl sc__law_got.nd rfl rfl (by decide) rfl rfl (pa_cons (pe_lst (pa_cons (pe_tup (pa_cons pe_int (pa_cons (pe_callB call_len_seq (by rfl) T.blen PySem.boot_len (pa_cons (pv 0) pa_nil)) (pa_cons pe_int (pa_cons (pv 2) pa_nil))))) pa_nil)) (pa_cons pe_non pa_nil)) (by rfl))
      (pss_cons (ps_while PassesOwn.never (pt_cmpR (op_neD hr.units) (pv 8) (pe_lst pa_nil) (nomark _))
      (pss_cons (ps_asg (pe_bm0 PySem.F.plainAttrs_list PySem.F.slot_list_pop PySem.F.type_list_pop mt_pop (pv 8)) (pg_tup rfl (pgs_cons (pg_name (i := 5) sc__law_got.nd rfl (Or.inl rfl)) (pgs_cons (pg_name (i := 6) sc__law_got.nd rfl (Or.inl rfl)) (pgs_cons (pg_name (i := 10) sc__law_got.nd rfl (Or.inl rfl)) (pgs_cons (pg_name (i := 11) sc__law_got.nd rfl (Or.inl rfl)) pgs_nil))))))
      (pss_one (ps_if (pt_cmpR op_eq (pv 5) (pv 6) (nomark _)) (pss_one (ps_set (i := 9) sc__law_got.nd rfl (Or.inl rfl) (pe_ifExp (pt_cmpR op_isN (pv 9) pe_non (nomark _)) (pv 10) (pe_callB (call_min2 rfl) (by rfl) T.bmin (by decide +kernel) (pa_cons (pv 9) (pa_cons (pv 10) pa_nil)))))) (pss_one (ps_if (PW.pt (pw_and (pt_val (pv 11)) (pw_and1 (pt_cmp (pc_dnotin (hu_of hr) (pe_tup (pa_cons (pv 5) (pa_cons (pv 6) pa_nil))) (pv 3)))))) (pss_one (ps_ret pe_non)) (pss_one (ps_for PassesOwn.never rfl (pi_list (pe_ifExp (pt_val (pv 11)) (pe_lst (pa_cons (pe_dget (hu_of hr) (pv 3) (pe_tup (pa_cons (pv 5) (pa_cons (pv 6) pa_nil))) (fun _ _ => rfl)) pa_nil)) (pe_lst (pa_cons pe_str (pa_cons pe_str pa_nil))))) (pg_name (i := 7) sc__law_got.nd rfl (Or.inl rfl))
      (pss_mid (ps_set (i := 12) sc__law_got.nd rfl (Or.inl rfl) (pe_ifExp (pt_cmpR op_eq (pv 7) pe_str (nomark _)) (pe_ix ix_list (pv 0) (pv 5) (fun _ _ => rfl)) (pe_ix ix_list (pv 0) (pe_op op_sub (pv 6) pe_int) (fun _ _ => rfl))))
      (pss_mid (ps_asg (pe_ifExp (pt_cmpR op_eq (pv 7) pe_str (nomark _)) (pe_tup (pa_cons (pe_op op_add (pv 5) pe_int) (pa_cons (pv 6) pa_nil))) (pe_tup (pa_cons (pv 5) (pa_cons (pe_op op_sub (pv 6) pe_int) pa_nil)))) (pg_tup rfl (pgs_cons (pg_name (i := 13) sc__law_got.nd rfl (Or.inl rfl)) (pgs_cons (pg_name (i := 14) sc__law_got.nd rfl (Or.inl rfl)) pgs_nil))))
      (pss_one (ps_expr (pe_bm PySem.F.plainAttrs_list PySem.F.slot_list_append PySem.F.type_list_append mt_append (pv 8) (pa_cons (pe_tup (pa_cons (pv 13) (pa_cons (pv 14) (pa_cons (pe_op op_add (pv 10) (pe_ifExp (pt_val (pv 11)) (pv 12) (pe_un un_neg (pv 12)))) (pa_cons (pe_not (pv 11)) pa_nil))))) pa_nil))))))))))))))
      (pss_one (ps_ret (pv 9))))))), ?_⟩
    have el : ((ns.map V.int).length : Int) = (ns.length : Int) := by rw [List.length_map]
    have qbad : tabOk ns.length none p = false → ∀ H', Same H H' → Q .non H' := fun h H' s' => by
      have q' := q H' s'
      unfold plannedV at q'
      rw [h] at q'
      exact q'
    refine fun d nd => gen_heap nd fun H1 s1 hd => ⟨_, _, rfl, ?_⟩
    refine ⟨_, rfl, l, rfl, ⟨_, s1.seq hl⟩, ?_⟩
    refine for_list (K := K) (a := l) (xs := xs) (fun i σ H2 => ∃ (lst : Option (Int × Int)) (last : V) (kvs : List (List Key × V)) (x5 x6 x7 : Option V), σ = [some (.ref a), some (.ref l), some (.bl mine), some (.ref d), some last, x5, x6, x7, none, none, none, none, none, none, none] ∧
      Same H H2 ∧ H2 d = some (.dT kvs) ∧ Tab (p.take i) kvs ∧ (lst = none → last = .non) ∧ (∀ u, lst = some u → ∃ q, last = .ref q ∧ H2 q = some (.tup [.int u.1, .int u.2])) ∧ tabOk ns.length none p = tabOk ns.length lst (p.drop i)) ?_ ?_ ?_ ?_
    · exact ⟨none, .non, [], none, none, none, rfl, s1, hd, Tab.nil, fun _ => rfl, fun u e => (nomatch e), rfl⟩
    · rintro i σ H2 _ ⟨lst, last, kvs, x5, x6, x7, rfl, s2, _⟩
      exact s2.seq hl
    · rintro i y σ H2 hi ⟨lst, last, kvs, x5, x6, x7, rfl, s2, hd2, hT, hn0, hn1, htab⟩
      obtain ⟨qt, t, rfl, ht, hqt⟩ := hp.getX hi
      have hlt : i < p.length := (List.getElem?_eq_some_iff.mp ht).1
      have hdrop : p.drop i = t :: p.drop (i + 1) := by
        rw [List.drop_eq_getElem_cons hlt]
        congr 1
        rw [List.getElem?_eq_getElem hlt] at ht
        exact Option.some.inj ht
      rw [hdrop, tabOk_cons] at htab
      have hqt2 := s2 _ _ hqt
      have hS2 := s2.seq hS
      refine ⟨qt, _, rfl, SqT.of hqt2, rfl, _, _, rfl, _, _, rfl, _, _, rfl, rfl, ?_⟩
      have bad : triOk ns.length t = false → ∀ H', Same H H' → Q .non H' := fun h => qbad (by rw [htab, h]; rfl)
      -- not 0 <= low < behind <= len(row)
      refine ⟨_, rfl, _, _, rfl, rfl, _, rfl, ?_⟩
      by_cases c1 : 0 ≤ t.1
      rotate_left
      · refine iteFb (decide_eq_false c1) ⟨_, rfl, iteT (iteT (bad ?_ H2 s2))⟩
        unfold triOk
        rw [decide_eq_false c1]
        rfl
      refine iteTb (decide_eq_true c1) ?_
      refine ⟨_, rfl, _, _, rfl, rfl, _, rfl, ?_⟩
      by_cases c2 : t.1 < t.2.1
      rotate_left
      · refine iteFb (decide_eq_false c2) ⟨_, rfl, iteT (iteT (bad ?_ H2 s2))⟩
        unfold triOk
        rw [decide_eq_true c1, decide_eq_false c2]
        rfl
      refine iteTb (decide_eq_true c2) ?_
      refine ⟨_, rfl, a, _, rfl, .inl hS2, _, _, rfl, rfl, _, rfl, ?_⟩
      by_cases c3 : t.2.1 ≤ (ns.length : Int)
      rotate_left
      · refine iteTb (congrArg Bool.not (decide_eq_false (by rw [el]; exact c3))) (iteT (bad ?_ H2 s2))
        unfold triOk
        rw [decide_eq_true c1, decide_eq_true c2, decide_eq_false c3]
        rfl
      refine iteFb (congrArg Bool.not (decide_eq_true (by rw [el]; exact c3))) ?_
      -- side not in ("left", "right")
      refine ⟨_, rfl, (by show 2 ≤ sizeLine; decide), fun qs nqs => gen_heap nqs fun H3 s3 hqs => ?_⟩
      have s03 := s2.trans s3
      refine ⟨qs, _, rfl, .inr (SqT.of hqs), rfl, rfl, _, rfl, ?_⟩
      have eside : (if true = true then !inV (V.str t.2.2) [V.str "left", V.str "right"] else inV (V.str t.2.2) [V.str "left", V.str "right"]) = !sideOk t.2.2 := by
        rw [if_pos rfl, inV_side]
      cases c4 : sideOk t.2.2 with
      | false =>
        rw [c4] at eside
        refine iteTb eside (bad ?_ H3 s03)
        unfold triOk
        rw [decide_eq_true c1, decide_eq_true c2, decide_eq_true c3, c4]
        rfl
      | true =>
        rw [c4] at eside
        refine iteFb eside ?_
        have hok : triOk ns.length t = true := by
          unfold triOk
          rw [decide_eq_true c1, decide_eq_true c2, decide_eq_true c3, c4]
          rfl
        rw [hok, Bool.true_and] at htab
        have hd3 := s3 _ _ hd2
        have hl3 : kvs.length < sizeLine := by
          have h1 := hT.len
          rw [List.length_take] at h1
          exact size_lt (by omega)
        -- if last is not None and (low, behind) <= last
        refine ⟨fun σ' H4 => σ' = [some (.ref a), some (.ref l), some (.bl mine), some (.ref d), some last, some (.int t.1), some (.int t.2.1), some (.str t.2.2), none, none, none, none, none, none, none] ∧ Same H3 H4 ∧ lastBad t lst = false, ?_, ?_⟩
        · refine ⟨_, rfl, rfl, _, rfl, ?_⟩
          cases lst with
          | none =>
            have e := hn0 rfl
            subst e
            exact iteF (iteF ⟨rfl, Same.refl _, rfl⟩)
          | some u =>
            obtain ⟨qu, rfl, hqu⟩ := hn1 u rfl
            refine iteT ?_
            refine ⟨_, rfl, _, rfl, (by show 2 ≤ sizeLine; decide), fun q2 nq2 => gen_heap nq2 fun H4 s4 hq2 => ⟨_, rfl, ?_⟩⟩
            refine ⟨q2, qu, [t.1, t.2.1], [u.1, u.2], rfl, rfl, SqT.of hq2, SqT.of (s4 _ _ (s3 _ _ hqu)), _, rfl, ?_⟩
            rw [lex2]
            have elb : lastBad t (some u) = (if t.1 = u.1 then decide (t.2.1 ≤ u.2) else decide (t.1 ≤ u.1)) := rfl
            rw [← elb]
            cases c5 : lastBad t (some u) with
            | true =>
              refine iteT (qbad ?_ H4 (s03.trans s4))
              rw [htab, c5]
              rfl
            | false => exact iteF ⟨rfl, s4, rfl⟩
        · rintro σ' H4 ⟨rfl, s4, hbad⟩
          refine ⟨_, rfl, _, rfl, _, rfl, (by show 2 ≤ sizeLine; decide), fun q3 nq3 => gen_heap nq3 fun H5 s5 hq3 => ⟨(by show 2 ≤ sizeLine; decide), fun q4 nq4 => gen_heap nq4 fun H6 s6 hq4 => ?_⟩⟩
          refine ⟨q4, _, rfl, SqT.of hq4, rfl, _, _, rfl, _, rfl, _, rfl, _, rfl, (by show 2 ≤ sizeLine; decide), fun q5 nq5 => gen_heap nq5 fun H7 s7 hq5 => ?_⟩
          have hd4 := s4 _ _ hd3
          have hd7 := s7 _ _ (s6 _ _ (s5 _ _ hd4))
          refine ⟨d, _, rfl, DPut.t (k := [Sum.inl t.1, Sum.inl t.2.1]) hd7 hq5 hl3, gen_put hd7 fun H8 s8 hd8 => ?_⟩
          refine ⟨_, _, rfl, rfl, ?_⟩
          have ne3 : q3 ≠ d := (ne_of_none hd4 nq3).symm
          refine ⟨some (t.1, t.2.1), .ref q3, _, _, _, _, rfl, fun b o e => ?_, hd8, ?_, fun z => (nomatch z), ?_, ?_⟩
          · exact s8 _ _ (ne_of_none e nd) (s7 _ _ (s6 _ _ (s5 _ _ (s4 _ _ (s03 _ _ e)))))
          · rw [List.take_add_one, ht]
            exact hT.put t
          · intro u e
            cases e
            exact ⟨q3, rfl, s8 _ _ ne3 (s7 _ _ (s6 _ _ hq3))⟩
          · rw [htab, hbad]
            rfl
    · rintro σ H2 ⟨lst, last, kvs, x5, x6, x7, rfl, s2, hd2, hT, hn0, hn1, htab⟩
      rw [hp.len] at hT htab
      rw [List.take_length] at hT
      rw [List.drop_length, tabOk_nil] at htab
      have hsides : ∀ t ∈ p, sideOk t.2.2 = true := fun t ht => triOk_side (tabOk_all htab t ht)
      have qgood : ∀ H', Same H H' → Q (optV (gotV ns (tabF p) ns.length 0 mine)) H' := fun H' s' => by
        have q' := q H' s'
        unfold plannedV at q'
        rw [if_pos htab] at q'
        exact q'
      -- _law_line, _law_found = [(0, len(row), 0, mine)], None
      have hS2 := s2.seq hS
      refine ⟨_, rfl, a, _, rfl, .inl hS2, _, rfl, (by show 4 ≤ sizeLine; decide), fun t0 nt0 => gen_heap nt0 fun H3 s3 ht0 => ⟨(by show 1 ≤ sizeLine; decide), fun ln nln => gen_heap nln fun H4 s4 hln => ⟨_, _, rfl, ?_⟩⟩⟩
      have s04 := s2.trans (s3.trans s4)
      have hd4 := s4 _ _ (s3 _ _ hd2)
      have ht04 := s4 _ _ ht0
      have nlnH : H ln = none := s2.free (s3.free nln)
      have nlnd : ln ≠ d := (ne_of_none (s3 _ _ hd2) nln).symm
      -- while _law_line != []
      refine ⟨fun k σ H5 => ∃ (st : List Ent) (zs : List V) (found : Option Int) (x5 x6 x7 x10 x11 x12 x13 x14 : Option V), σ = [some (.ref a), some (.ref l), some (.bl mine), some (.ref d), some last, x5, x6, x7, some (.ref ln), some (optV found), x10, x11, x12, x13, x14] ∧
        Same H H5 ∧ H5 d = some (.dT kvs) ∧ H5 ln = some (.lst zs) ∧ Stk H5 zs st.reverse ∧ (∀ e ∈ st, e.1 + e.2.1 ≤ ns.length) ∧ comb ns (tabF p) found st = (gotV ns (tabF p) ns.length 0 mine).bind (fun v => some (some v)) ∧ wts st = k ∧ wts st ≤ 8191, ?_, ?_⟩
      · refine ⟨wt ns.length, [(0, ns.length, 0, mine)], _, none, x5, x6, x7, none, none, none, none, none, rfl, s04, hd4, hln, .cons ?_ .nil, fun e he => ?_, ?_, Nat.add_zero _, ?_⟩
        · rw [ht04]
          unfold entV
          rw [el]
          simp
        · rw [List.mem_singleton] at he
          subst he
          show 0 + ns.length ≤ ns.length
          omega
        · rw [comb_cons]
          unfold resE
          show ((gotV ns (tabF p) ns.length 0 mine).bind fun v => some (v + 0)).bind _ = _
          cases gotV ns (tabF p) ns.length 0 mine with
          | none => rfl
          | some v =>
            show some (some (v + 0)) = some (some v)
            rw [Int.add_zero]
        · show wt ns.length + 0 ≤ 8191
          have := wt_le ns.length h12
          omega
      · rintro k σ H5 ⟨st, zs, found, x5, x6, x7, x10, x11, x12, x13, x14, rfl, s5, hd5, hln5, hst, hin, hcomb, hk, hle⟩
        refine ⟨_, rfl, Nat.zero_le _, fun e ne => gen_heap ne fun H6 s6 he => ?_⟩
        have hln6 := s6 _ _ hln5
        have hd6 := s6 _ _ hd5
        have hst6 := hst.mono s6
        have s06 := s5.trans s6
        refine ⟨.list (st.reverse.map entD), .list [], .lst (SqL.of hln6) hst6.dp, .lst (SqL.of he) .nil, (Sh.list (sha_ents st.reverse)).shaped (by decide), (Sh.list (.nil 0)).shaped (by decide), _, rfl, ?_⟩
        cases st with
        | nil =>
          have e0 : (!PyData.eqv (.list (([] : List Ent).reverse.map entD)) (.list [])) = false := by
            rw [show PyData.eqv (.list (([] : List Ent).reverse.map entD)) (.list []) = true from eqv_same ((Sh.list (.nil 0)).shaped (by decide))]
            rfl
          refine iteFb e0 ⟨_, rfl, ?_⟩
          rw [comb_nil] at hcomb
          have q' := qgood H6 s06
          cases eg : gotV ns (tabF p) ns.length 0 mine with
          | none =>
            rw [eg] at hcomb
            cases hcomb
          | some v =>
            rw [eg] at hcomb q'
            have e1 : found = some v := Option.some.inj hcomb
            subst e1
            exact q'
        | cons e r =>
          have e0 : (!PyData.eqv (.list ((e :: r).reverse.map entD)) (.list [])) = true := by
            cases er : (e :: r).reverse with
            | nil => simp at er
            | cons f g =>
              rw [eqv_ents]
              rfl
          refine iteTb e0 ?_
          obtain ⟨low, n, sum, turn⟩ := e
          rw [List.reverse_cons] at hst6
          obtain ⟨ys, qe, rfl, hys, hqe⟩ := hst6.snoc
          have hn : low + n ≤ ns.length := hin _ List.mem_cons_self
          have hyl : ys.length = r.length := by rw [hys.len, List.length_reverse]
          have hrl := wts_len r
          have hwt : wts ((low, n, sum, turn) :: r) = wt n + wts r := rfl
          have hwp := wt_pos n
          -- low, behind, sum, turn = line.pop()
          refine ⟨fun σ' H' => ∃ (st : List Ent) (zs : List V) (found : Option Int) (x5 x6 x7 x10 x11 x12 x13 x14 : Option V), σ' = [some (.ref a), some (.ref l), some (.bl mine), some (.ref d), some last, x5, x6, x7, some (.ref ln), some (optV found), x10, x11, x12, x13, x14] ∧
            Same H H' ∧ H' d = some (.dT kvs) ∧ H' ln = some (.lst zs) ∧ Stk H' zs st.reverse ∧ (∀ e ∈ st, e.1 + e.2.1 ≤ ns.length) ∧ comb ns (tabF p) found st = (gotV ns (tabF p) ns.length 0 mine).bind (fun v => some (some v)) ∧ wts st < k ∧ wts st ≤ 8191, ?_, ?_⟩
          · rintro σ' H' ⟨st, zs, found, x5, x6, x7, x10, x11, x12, x13, x14, e1, e2, e3, e4, e5, e6, e7, e8, e9⟩
            exact ⟨wts st, e8, st, zs, found, x5, x6, x7, x10, x11, x12, x13, x14, e1, e2, e3, e4, e5, e6, e7, rfl, e9⟩
          refine ⟨_, rfl, .inl ⟨rfl, _, SqL.of hln6⟩, ln, _, .ref qe, rfl, rfl, hln6, by simp, gen_put hln6 fun H7 s7 hln7 => ?_⟩
          rw [List.dropLast_concat] at hln7
          have nqe : qe ≠ ln := ne_of hqe hln6 (by intro z; cases z)
          have hqe7 := s7 _ _ nqe hqe
          have hys7 := hys.butO s7 hln6 (by intro _ z; cases z)
          have hd7 := s7 _ _ nlnd.symm hd6
          have s07 : Same H H7 := fun b o e => s7 _ _ (ne_of_none e nlnH) (s06 _ _ e)
          refine ⟨qe, _, rfl, SqT.of hqe7, rfl, _, _, rfl, _, _, rfl, _, _, rfl, _, _, rfl, rfl, ?_⟩
          -- if low == behind
          refine ⟨_, rfl, _, rfl, rfl, _, rfl, ?_⟩
          cases n with
          | zero =>
            refine iteTb (decide_eq_true rfl) ?_
            rw [comb_leaf] at hcomb
            refine ⟨_, rfl, rfl, _, rfl, ?_⟩
            have fin : ∀ z, z = minO found sum → ∃ (st : List Ent) (zs : List V) (found : Option Int) (x5 x6 x7 x10 x11 x12 x13 x14 : Option V), _ = [some (.ref a), some (.ref l), some (.bl mine), some (.ref d), some last, x5, x6, x7, some (.ref ln), some (optV found), x10, x11, x12, x13, x14] ∧
                Same H H7 ∧ H7 d = some (.dT kvs) ∧ H7 ln = some (.lst zs) ∧ Stk H7 zs st.reverse ∧ (∀ e ∈ st, e.1 + e.2.1 ≤ ns.length) ∧ comb ns (tabF p) found st = (gotV ns (tabF p) ns.length 0 mine).bind (fun v => some (some v)) ∧ wts st < k ∧ wts st ≤ 8191 := fun z ez =>
              ⟨r, ys, some z, some (.int (low : Int)), some (.int ((low + 0 : Nat) : Int)), x7, some (.int sum), some (.bl turn), x12, x13, x14, rfl, s07, hd7, hln7, hys7, fun e he => hin e (List.mem_cons_of_mem _ he), by rw [ez]; exact hcomb, by omega, by omega⟩
            cases found with
            | none => exact iteT ⟨_, rfl, fin sum rfl⟩
            | some f0 => exact iteF ⟨_, rfl, _, rfl, _, _, rfl, fin _ rfl⟩
          | succ m =>
            refine iteFb (decide_eq_false (fun z => by have z' : (low : Int) = ((low + (m + 1) : Nat) : Int) := V.int.inj z; omega)) ?_
            have hwt2 : wt (m + 1) = 2 * wt m + 1 := rfl
            have ev := hT.val (low : Int) ((low + (m + 1) : Nat) : Int)
            by_cases ct : turn = true
            case' pos =>
              refine ⟨_, rfl, _, rfl, iteTb ct ?_⟩
              refine ⟨_, rfl, _, rfl, (by show 2 ≤ sizeLine; decide), fun p1 np1 => gen_heap np1 fun H8 s8 hp1 => ?_⟩
              have hd8 := s8 _ _ hd7
              refine ⟨_, rfl, d, _, rfl, DGet.t (k := [Sum.inl (low : Int), Sum.inl ((low + (m + 1) : Nat) : Int)]) hd8 hp1, _, rfl, ?_⟩
              rcases elk : look p (low : Int) ((low + (m + 1) : Nat) : Int) with _ | sd
              · rw [elk] at ev
                rw [ev]
                refine iteT ?_
                have etab : tabF p low (low + (m + 1)) = none := by
                  unfold tabF
                  rw [elk]
                  rfl
                rw [ct, comb_lacks etab] at hcomb
                have q' := qgood H8 (s07.trans s8)
                cases eg : gotV ns (tabF p) ns.length 0 mine with
                | none =>
                  rw [eg] at q'
                  exact q'
                | some v =>
                  rw [eg] at hcomb
                  cases hcomb
              rw [elk] at ev
              rw [ev]
              refine iteF ?_
              have hsd : sideOk sd = true := hsides _ (look_mem elk)
              have etab : tabF p low (low + (m + 1)) = some (sideB sd) := by
                unfold tabF
                rw [elk]
                rfl
              rw [ct, comb_mine etab, ← ct] at hcomb
              -- [table[(low, behind)]]
              refine ⟨_, rfl, _, rfl, iteTb ct ⟨_, rfl, _, rfl, _, rfl, (by show 2 ≤ sizeLine; decide), fun p2 np2 => gen_heap np2 fun H9 s9 hp2 => ?_⟩⟩
              have hd9 := s9 _ _ hd8
              have g := DGet.t (k := [Sum.inl (low : Int), Sum.inl ((low + (m + 1) : Nat) : Int)]) (b := p2) hd9 hp2
              rw [ev] at g
              refine ⟨d, .str sd, rfl, g, (by show 1 ≤ sizeLine; decide), fun lb nlb => gen_heap nlb fun H10 s10 hlb => ?_⟩
              have elb : (HO.lst [V.str sd]) = HO.lst (sidesV [sideB sd]) := by
                show HO.lst [V.str sd] = HO.lst [V.str (sideS (sideB sd))]
                rw [← side_of hsd]
              rw [elb] at hlb
              have s710 := s8.trans (s9.trans s10)
              have nlbln : lb ≠ ln := (ne_of_none (s9 _ _ (s8 _ _ hln7)) nlb).symm
              obtain ⟨bs, hbs⟩ : ∃ bs, bs = [sideB sd] := ⟨_, rfl⟩
              rw [← hbs] at hlb
              have hw : wts ((bs.map (child ns low m sum turn)).reverse ++ r) ≤ 2 * wt m + wts r := by
                rw [hbs]
                show wt m + wts r ≤ _
                omega
              have hcomb : comb ns (tabF p) found ((bs.map (child ns low m sum turn)).reverse ++ r) = (gotV ns (tabF p) ns.length 0 mine).bind (fun v => some (some v)) := by
                rw [hbs]
                exact hcomb
              have hbl : bs.length ≤ 2 := by
                rw [hbs]
                show 1 ≤ 2
                decide
            case' neg =>
              refine ⟨_, rfl, _, rfl, iteFb (Bool.eq_false_iff.mpr ct) (iteF ?_)⟩
              refine ⟨_, rfl, _, rfl, iteFb (Bool.eq_false_iff.mpr ct) ⟨(by show 2 ≤ sizeLine; decide), fun lb nlb => gen_heap nlb fun H10 s710 hlb => ?_⟩⟩
              have nlbln : lb ≠ ln := (ne_of_none hln7 nlb).symm
              have ct0 : turn = false := Bool.eq_false_iff.mpr ct
              obtain ⟨bs, hbs⟩ : ∃ bs, bs = [true, false] := ⟨_, rfl⟩
              have hlb : H10 lb = some (.lst (sidesV bs)) := by
                rw [hbs]
                exact hlb
              have hw : wts ((bs.map (child ns low m sum turn)).reverse ++ r) ≤ 2 * wt m + wts r := by
                rw [hbs]
                show wt m + (wt m + wts r) ≤ _
                omega
              have hcomb : comb ns (tabF p) found ((bs.map (child ns low m sum turn)).reverse ++ r) = (gotV ns (tabF p) ns.length 0 mine).bind (fun v => some (some v)) := by
                rw [ct0, comb_his] at hcomb
                rw [hbs, ct0]
                exact hcomb
              have hbl : bs.length ≤ 2 := by
                rw [hbs]
                decide
            all_goals
              refine ⟨lb, rfl, ⟨_, SqL.of hlb⟩, ?_⟩
              have hd10 := s710 _ _ hd7
              have hln10 := s710 _ _ hln7
              have s010 := s07.trans s710
              refine for_list (K := K) (a := lb) (xs := sidesV bs) (fun j σ H11 => ∃ (zs : List V) (x7 x12 x13 x14 : Option V), σ = [some (.ref a), some (.ref l), some (.bl mine), some (.ref d), some last, some (.int (low : Int)), some (.int ((low + (m + 1) : Nat) : Int)), x7, some (.ref ln), some (optV found), some (.int sum), some (.bl turn), x12, x13, x14] ∧
                Same H H11 ∧ H11 d = some (.dT kvs) ∧ H11 lb = some (.lst (sidesV bs)) ∧ H11 ln = some (.lst zs) ∧ Stk H11 zs (r.reverse ++ (bs.take j).map (child ns low m sum turn))) ⟨ys, x7, x12, x13, x14, rfl, s010, hd10, hlb, hln10, by rw [List.take_zero, List.map_nil, List.append_nil]; exact hys7.mono s710⟩ ?_ ?_ ?_
              · rintro j σ H11 _ ⟨zs, x7, x12, x13, x14, rfl, s11, hd11, hlb11, hln11, hst11⟩
                exact SqL.of hlb11
              · rintro j y σ H11 hj ⟨zs, x7, x12, x13, x14, rfl, s11, hd11, hlb11, hln11, hst11⟩
                have hjl : j < bs.length := by
                  have := (List.getElem?_eq_some_iff.mp hj).1
                  rw [sidesV_len] at this
                  exact this
                have hy : y = V.str (sideS bs[j]) := by
                  unfold sidesV at hj
                  rw [List.getElem?_map, List.getElem?_eq_getElem hjl] at hj
                  exact (Option.some.inj hj).symm
                subst hy
                have hget : bs[j]? = some bs[j] := List.getElem?_eq_getElem hjl
                generalize bs[j] = b at hget
                have hS11 := s11.seq hS
                -- _law_coin
                refine ⟨fun σ' H' => σ' = [some (.ref a), some (.ref l), some (.bl mine), some (.ref d), some last, some (.int (low : Int)), some (.int ((low + (m + 1) : Nat) : Int)), some (.str (sideS b)), some (.ref ln), some (optV found), some (.int sum), some (.bl turn), some (.int (coinOf ns b low m)), x13, x14] ∧ H11 = H', ?_, ?_⟩
                · refine ⟨_, rfl, rfl, _, rfl, ?_⟩
                  cases b with
                  | true =>
                    refine iteTb (decide_eq_true rfl) ?_
                    exact ⟨_, rfl, _, rfl, a, _, _, _, rfl, rfl, hS11, at_get rfl (by omega), rfl, rfl⟩
                  | false =>
                    refine iteFb (decide_eq_false (fun z => absurd (V.str.inj z) (by decide +kernel))) ?_
                    exact ⟨_, rfl, _, rfl, _, _, rfl, rfl, a, _, _, _, rfl, rfl, hS11, at_get (j := low + m) (by omega) (by omega), rfl, rfl⟩
                rintro σ' H' ⟨rfl, rfl⟩
                -- _law_left, _law_right
                refine ⟨fun σ' H' => σ' = [some (.ref a), some (.ref l), some (.bl mine), some (.ref d), some last, some (.int (low : Int)), some (.int ((low + (m + 1) : Nat) : Int)), some (.str (sideS b)), some (.ref ln), some (optV found), some (.int sum), some (.bl turn), some (.int (coinOf ns b low m)), some (.int (lowOf b low : Nat)), some (.int ((lowOf b low + m : Nat) : Int))] ∧ Same H11 H', ?_, ?_⟩
                · refine ⟨_, rfl, rfl, _, rfl, ?_⟩
                  cases b with
                  | true =>
                    refine iteTb (decide_eq_true rfl) ?_
                    refine ⟨_, rfl, _, _, rfl, rfl, _, rfl, (by show 2 ≤ sizeLine; decide), fun t2 nt2 => ?_⟩
                    refine ⟨t2, _, rfl, SqT.of upd_same, rfl, _, _, rfl, _, _, rfl, rfl, ?_, same_new nt2 _⟩
                    have e1 : (low : Int) + 1 = ((low + 1 : Nat) : Int) := by omega
                    have e2 : ((low + (m + 1) : Nat) : Int) = ((low + 1 + m : Nat) : Int) := by omega
                    show [some (V.ref a), some (V.ref l), some (V.bl mine), some (V.ref d), some last, some (V.int (low : Int)), some (V.int ((low + (m + 1) : Nat) : Int)), some (V.str (sideS true)), some (V.ref ln), some (optV found), some (V.int sum), some (V.bl turn), some (V.int (coinOf ns true low m)), some (V.int ((low : Int) + 1)), some (V.int ((low + (m + 1) : Nat) : Int))] = _
                    rw [e1]
                    conv => lhs; rw [e2]
                    rw [← e2]
                    show _ = [some (V.ref a), some (V.ref l), some (V.bl mine), some (V.ref d), some last, some (V.int (low : Int)), some (V.int ((low + (m + 1) : Nat) : Int)), some (V.str (sideS true)), some (V.ref ln), some (optV found), some (V.int sum), some (V.bl turn), some (V.int (coinOf ns true low m)), some (V.int ((low + 1 : Nat) : Int)), some (V.int ((low + 1 + m : Nat) : Int))]
                    rw [← e2]
                  | false =>
                    refine iteFb (decide_eq_false (fun z => absurd (V.str.inj z) (by decide +kernel))) ?_
                    refine ⟨_, rfl, _, rfl, _, _, rfl, rfl, (by show 2 ≤ sizeLine; decide), fun t2 nt2 => ?_⟩
                    refine ⟨t2, _, rfl, SqT.of upd_same, rfl, _, _, rfl, _, _, rfl, rfl, ?_, same_new nt2 _⟩
                    have e2 : ((low + (m + 1) : Nat) : Int) - 1 = ((low + m : Nat) : Int) := by omega
                    show [some (V.ref a), some (V.ref l), some (V.bl mine), some (V.ref d), some last, some (V.int (low : Int)), some (V.int ((low + (m + 1) : Nat) : Int)), some (V.str (sideS false)), some (V.ref ln), some (optV found), some (V.int sum), some (V.bl turn), some (V.int (coinOf ns false low m)), some (V.int (low : Int)), some (V.int (((low + (m + 1) : Nat) : Int) - 1))] = _
                    rw [e2]
                    rfl
                rintro σ' H12 ⟨rfl, s12⟩
                have hln12 := s12 _ _ hln11
                have hd12 := s12 _ _ hd11
                have hlb12 := s12 _ _ hlb11
                have hst12 := hst11.mono s12
                have hzl : zs.length < 100000 := by
                  rw [hst11.len, List.length_append, List.length_reverse, List.length_map, List.length_take]
                  omega
                -- _law_line.append(..)
                refine ⟨_, rfl, .inl ⟨rfl, _, SqL.of hln12⟩, _, rfl, _, rfl, _, rfl, _, rfl, _, rfl, ?_⟩
                have fin : ∀ (H13 : Hp) (pt : Addr), H12 pt = none → Same H12 H13 → H13 pt = some (.tup (entV (child ns low m sum turn b))) → ∀ H14, SameBut ln H13 H14 → H14 ln = some (.lst (zs ++ [V.ref pt])) → ∃ (zs : List V) (x7 x12 x13 x14 : Option V), [some (V.ref a), some (V.ref l), some (V.bl mine), some (V.ref d), some last, some (V.int (low : Int)), some (V.int ((low + (m + 1) : Nat) : Int)), some (V.str (sideS b)), some (V.ref ln), some (optV found), some (V.int sum), some (V.bl turn), some (V.int (coinOf ns b low m)), some (V.int (lowOf b low : Nat)), some (V.int ((lowOf b low + m : Nat) : Int))] = [some (.ref a), some (.ref l), some (.bl mine), some (.ref d), some last, some (.int (low : Int)), some (.int ((low + (m + 1) : Nat) : Int)), x7, some (.ref ln), some (optV found), some (.int sum), some (.bl turn), x12, x13, x14] ∧
                    Same H H14 ∧ H14 d = some (.dT kvs) ∧ H14 lb = some (.lst (sidesV bs)) ∧ H14 ln = some (.lst zs) ∧ Stk H14 zs (r.reverse ++ (bs.take (j + 1)).map (child ns low m sum turn)) := by
                  intro H13 pt npt s13 hpt H14 s14 hln14
                  have nptl : pt ≠ ln := (ne_of_none hln12 npt).symm
                  refine ⟨_, _, _, _, _, rfl, fun b o e => ?_, s14 _ _ nlnd.symm (s13 _ _ hd12), s14 _ _ nlbln (s13 _ _ hlb12), hln14, ?_⟩
                  · exact s14 _ _ (ne_of_none e nlnH) (s13 _ _ (s12 _ _ (s11 _ _ e)))
                  · rw [List.take_add_one, hget, List.map_append, ← List.append_assoc]
                    exact Stk.app (.cons (s14 _ _ nptl hpt) .nil) ((hst12.mono s13).butO s14 (s13 _ _ hln12) (by intro _ z; cases z))
                by_cases ct2 : turn = true
                · refine iteTb ct2 ⟨_, rfl, _, _, rfl, rfl, _, rfl, _, rfl, (by show 4 ≤ sizeLine; decide), fun pt npt => gen_heap npt fun H13 s13 hpt => ?_⟩
                  have hln13 := s13 _ _ hln12
                  refine ⟨ln, _, _, rfl, rfl, hln13, size_lt hzl, gen_put hln13 fun H14 s14 hln14 => ?_⟩
                  refine fin H13 pt npt s13 ?_ H14 s14 hln14
                  rw [hpt]
                  unfold entV child forMe
                  rw [if_pos ct2]
                · refine iteFb (Bool.eq_false_iff.mpr ct2) ⟨_, rfl, _, rfl, _, _, rfl, rfl, _, rfl, _, rfl, (by show 4 ≤ sizeLine; decide), fun pt npt => gen_heap npt fun H13 s13 hpt => ?_⟩
                  have hln13 := s13 _ _ hln12
                  refine ⟨ln, _, _, rfl, rfl, hln13, size_lt hzl, gen_put hln13 fun H14 s14 hln14 => ?_⟩
                  refine fin H13 pt npt s13 ?_ H14 s14 hln14
                  rw [hpt]
                  unfold entV child forMe
                  rw [if_neg ct2]
              · rintro σ H11 ⟨zs, x7, x12, x13, x14, rfl, s11, hd11, hlb11, hln11, hst11⟩
                rw [sidesV_len, List.take_length] at hst11
                refine ⟨(bs.map (child ns low m sum turn)).reverse ++ r, zs, found, _, _, _, _, _, _, _, _, rfl, s11, hd11, hln11, ?_, fun e he => ?_, hcomb, by omega, by omega⟩
                · rw [List.reverse_append, List.reverse_reverse]
                  exact hst11
                · rcases List.mem_append.mp he with he | he
                  · obtain ⟨b, _, rfl⟩ := List.mem_map.mp (List.mem_reverse.mp he)
                    have := lowOf_le b low m
                    show lowOf b low + m ≤ ns.length
                    omega
                  · exact hin e (List.mem_cons_of_mem _ he)
theorem ok__law_shows (T : Tx K mg A) : FnOk P w K mg base CX0 2 A.f__law_shows A.d__law_shows ["_law_row_here", "_law_least", "_law_plan", "_law_mine"] (spLShows K) := by
  have G_law_got : FnOk P w K mg base CX0 1 A.f__law_got A.d__law_got ["_law_row_here", "_law_plan", "_law_mine"] (spPlanned K) := ok__law_got T
  refine T.F_law_shows.ok sc__law_shows (fun vs H Q E h => ?_) (fun cdv A' outer s H vs Q E hr h => ?_)
  · obtain ⟨a, l, ns, xs, p, mine, least, rfl, _⟩ := h
    rfl
  · obtain ⟨a, l, ns, xs, p, mine, least, rfl, hS, hl, hp, h1000, h12, q⟩ := h
    refine ⟨_, (pss_cons (ps_set (i := 4) sc__law_shows.nd rfl (Or.inl rfl) (pe_call G_law_got (hr.mono (by first | decide | omega)) (by rfl) T.g_law_got T.F_law_got.kp T.b_law_got .nil pass0 (pa_cons (pv 0) (pa_cons (pv 2) (pa_cons (pv 3) pa_nil)))))
      (pss_one (ps_ret (pe_and (pe_cmpR op_notN (pv 4) pe_non (nomark _)) (pe_one (pe_ifExp (pt_val (pv 3)) (pe_cmpR op_ge (pv 4) (pv 1) (nomark _)) (pe_cmpR op_lt (pe_un un_neg (pv 4)) (pv 1) (nomark _)))))))), ?_⟩
    refine ⟨_, rfl, _, rfl, _, rfl, ?_⟩
    refine ⟨a, l, ns, xs, p, mine, rfl, hS, hl, hp, h1000, h12, fun H1 s1 => ?_⟩
    have q' := q H1 s1
    unfold showsV at q'
    cases e : plannedV ns p mine with
    | none =>
      rw [e] at q'
      exact ⟨_, rfl, rfl, _, rfl, iteF q'⟩
    | some v =>
      rw [e] at q'
      refine ⟨_, rfl, rfl, _, rfl, iteT ⟨_, rfl, _, rfl, ?_⟩⟩
      cases mine with
      | true => exact iteT ⟨_, rfl, _, rfl, _, _, rfl, rfl, q'⟩
      | false => exact iteF ⟨_, rfl, _, rfl, _, rfl, _, _, rfl, rfl, q'⟩
end
end K03
namespace K03
open PySem PySem.Spec PyProof.Rows L2 RE
section
variable {P : Program} {w : World} {K : PySem.W.Frag} {mg : Str → Option Value} {base : Heap} {A : Ad}
theorem ok__law_all (T : Tx K mg A) : FnOk P w K mg base CX0 1 A.f__law_all A.d__law_all ["_law_row_here", "_law_side"] (spLAll K) := by
  refine T.F_law_all.ok sc__law_all (fun vs H Q E h => ?_) (fun cdv A' outer s H vs Q E hr h => ?_)
  · obtain ⟨a, ns, side, rfl, _⟩ := h
    rfl
  · obtain ⟨a, ns, side, rfl, hS, h12, q⟩ := h
    refine ⟨_, (pss_cons (ps_set (i := 2) sc__law_all.nd rfl (Or.inl rfl) (pe_lst pa_nil))
      (pss_cons (ps_for PassesOwn.never rfl (pi_range1 (by rfl) T.brange (pa_cons (pe_callB call_len_seq (by rfl) T.blen PySem.boot_len (pa_cons (pv 0) pa_nil)) pa_nil)) (pg_name (i := 3) sc__law_all.nd rfl (Or.inr rfl))
      (pss_one (ps_set (i := 2) sc__law_all.nd rfl (Or.inl rfl) (pe_op op_cat (pv 2) (pe_lc (own := [("_law_behind", 4)]) (by rfl) sc__law_all.nd (pi_range2 (by rfl) T.brange (pa_cons (pe_op op_add (pv 3) pe_int) (pa_cons (pe_op op_add (pe_callB call_len_seq (by rfl) T.blen PySem.boot_len (pa_cons (pv 0) pa_nil)) pe_int) pa_nil))) (blkOk_by (own := [("_law_behind", 4)]) (N := N__law_all) (sc := defScope s__law_all) (by decide +kernel)) (fun _ _ _ _ _ => (pg_name (i := 4) sc__law_all.nd rfl (Or.inl rfl))) (fun _ _ _ _ _ => pts_nil) (fun _ _ _ _ _ => (pe_tup (pa_cons (pv 3) (pa_cons (pv 4) (pa_cons (pv 1) pa_nil))))))))))
      (pss_one (ps_ret (pv 2))))), ?_⟩
    have el : (ns.map V.int).length = ns.length := List.length_map _
    refine ⟨Nat.zero_le _, fun f0 nf0 => gen_heap nf0 fun H1 s1 hf0 => ?_⟩
    refine ⟨_, rfl, a, _, rfl, .inl (s1.seq hS), _, rfl, by rw [el]; omega, by rw [el]; omega, ?_⟩
    refine for_range (lo := 0) (n := ((ns.map V.int).length : Int).toNat) (fun i σ H2 => ∃ (f : Addr) (xs : List V) (x3 x4 : Option V), σ = [some (.ref a), some (.str side), some (.ref f), x3, x4] ∧ Same H H2 ∧ H f = none ∧ H2 f = some (.lst xs) ∧ Tris H2 xs (allTo side ns.length i)) ⟨f0, [], none, none, rfl, s1, nf0, hf0, .nil⟩ ?_ ?_
    · rintro i σ H2 hi ⟨f, xs, x3, x4, rfl, s2, nf, hf2, hT2⟩
      rw [el] at hi
      have hi' : i < ns.length := by omega
      refine ⟨_, rfl, _, rfl, _, _, rfl, rfl, _, rfl, a, _, rfl, .inl (s2.seq hS), _, _, rfl, rfl, _, _, rfl, ⟨by omega, by omega, by rw [el]; omega, by rw [el]; omega⟩, fun D nD => ?_⟩
      have en : (((ns.map V.int).length : Int) + 1 - (0 + (i : Int) + 1)).toNat = ns.length - i := by rw [el]; omega
      refine lc_range (lo := 0 + (i : Int) + 1) (n := (((ns.map V.int).length : Int) + 1 - (0 + (i : Int) + 1)).toNat) (fun j H3 => Same H2 H3 ∧ ∃ zs, H3 D = some (.lst zs) ∧ Tris H3 zs (allCh side i j)) ⟨same_new nD _, [], upd_same, .nil⟩ ?_ ?_
      · rintro j H3 hj ⟨s3, zs, hD3, hT3⟩
        rw [en] at hj
        refine ⟨rfl, ?_⟩
        refine ⟨_, rfl, _, rfl, _, rfl, (by show 3 ≤ sizeLine; decide), fun pt npt => gen_heap npt fun H4 s4 hpt => ?_⟩
        have hD4 := s4 _ _ hD3
        have npD : pt ≠ D := (ne_of_none hD3 npt).symm
        refine ⟨zs, hD4, by rw [hT3.len, allCh_len]; exact size_lt (by omega), fun c o e => ?_, _, upd_same, ?_⟩
        · rw [upd_ne (ne_of_none e nD)]
          exact s4 _ _ (s3 _ _ e)
        · rw [allCh_succ]
          refine Tris.app (.cons ?_ .nil) ((hT3.mono s4).but (SameBut.put _) hD4)
          rw [upd_ne npD, hpt]
          unfold triV allRow
          have e1 : (0 : Int) + (i : Int) + 1 + (j : Int) = ((i + (j + 1) : Nat) : Int) := by omega
          have e0 : (0 : Int) + (i : Int) = (i : Int) := by omega
          show some (HO.tup [V.int (0 + (i : Int)), V.int (0 + (i : Int) + 1 + (j : Int)), V.str side]) = some (HO.tup [V.int (i : Int), V.int ((i + (j + 1) : Nat) : Int), V.str side])
          rw [e1, e0]
      · rintro H3 ⟨s3, zs, hD3, hT3⟩
        rw [en] at hT3
        have hf3 := s3 _ _ hf2
        refine ⟨f, D, xs, zs, rfl, rfl, hf3, hD3, ?_, fun o no => gen_heap no fun H4 s4 ho => ?_⟩
        · rw [hT2.len, hT3.len, allCh_len]
          have h1 := allTo_le side ns.length i
          have h3 : i * ns.length ≤ 12 * 12 := Nat.mul_le_mul (by omega) h12
          exact size_le (by omega)
        · refine ⟨o, xs ++ zs, _, _, rfl, s2.trans (s3.trans s4), s2.free (s3.free no), ho, ?_⟩
          rw [allTo_succ]
          exact (Tris.app hT3 (hT2.mono s3)).mono s4
    · rintro σ H2 ⟨f, xs, x3, x4, rfl, s2, nf, hf2, hT2⟩
      rw [show ((ns.map V.int).length : Int).toNat = ns.length by rw [el]; omega] at hT2
      exact ⟨_, rfl, q H2 f xs s2 nf hf2 hT2⟩
end
end K03
namespace K03
open PySem PySem.Spec PyProof.Rows L2 RE
section
variable {P : Program} {w : World} {K : PySem.W.Frag} {mg : Str → Option Value} {base : Heap} {A : Ad}
theorem ok_law (T : Tx K mg A) : FnOk P w K mg base CX0 17 A.f_law A.d_law ["_law_script"] (spLaw K) := by
  have G_law_row : FnOk P w K mg base CX0 2 A.f__law_row A.d__law_row ["_law_script", "_law_by", "_law_most"] (spLRow K) := ok__law_row T
  have G_law_worths : FnOk P w K mg base CX0 1 A.f__law_worths A.d__law_worths ["_law_row_here"] (spWorths K) := ok__law_worths T
  have G_law_says : FnOk P w K mg base CX0 1 A.f__law_says A.d__law_says ["_law_said", "_law_due"] spSays := ok__law_says T
  have G_law_all : FnOk P w K mg base CX0 1 A.f__law_all A.d__law_all ["_law_row_here", "_law_side"] (spLAll K) := ok__law_all T
  have G_law_shows : FnOk P w K mg base CX0 2 A.f__law_shows A.d__law_shows ["_law_row_here", "_law_least", "_law_plan", "_law_mine"] (spLShows K) := ok__law_shows T
  have Gjudged : FnOk P w K mg base (L2.CX P w) 16 A.f_judged A.d_judged ["row", "least"] (spJudged K A.C_BadRow A.C_BadNumber A.C_Gets A.C_Held) := ok_judged T
  have GGets_init : FnOk P w K mg base CX0 1 A.f_Gets_init A.d_Gets_init ["self", "plan"] (spInit K A.C_Gets) := ok_Gets_init T
  have GHeld_init : FnOk P w K mg base CX0 1 A.f_Held_init A.d_Held_init ["self", "plan"] (spInit K A.C_Held) := ok_Held_init T
  have GGets_shows : FnOk P w K mg base CX0 16 A.f_Gets_shows A.d_Gets_shows ["self", "row", "least"] (spShows K A.C_Gets true) := ok_Gets_shows T
  have GHeld_shows : FnOk P w K mg base CX0 16 A.f_Held_shows A.d_Held_shows ["self", "row", "least"] (spShows K A.C_Held false) := ok_Held_shows T
  refine T.Flaw.ok sc_law (fun vs H Q E h => ?_) (fun cdv A' outer s H vs Q E hr h => ?_)
  · obtain ⟨a, cs, rfl, _⟩ := h
    rfl
  · obtain ⟨a, cs, rfl, hS, h63, hbits, q⟩ := h
    refine ⟨_, (pss_cons (ps_for PassesOwn.never rfl (pi_range1 (by rfl) T.brange (pa_cons pe_int pa_nil)) (pg_name (i := 1) sc_law.nd rfl (Or.inl rfl))
      (pss_cons (ps_set (i := 2) sc_law.nd rfl (Or.inl rfl) (pe_call G_law_row (hr.mono (by first | decide | omega)) (by rfl) T.g_law_row T.F_law_row.kp T.b_law_row .nil pass0 (pa_cons (pv 0) (pa_cons (pv 1) (pa_cons pe_int pa_nil)))))
      (pss_cons (ps_par (i := 3) (j := 4) rfl sc_law.nd rfl rfl (by decide) rfl rfl (pa_cons (pe_dget (hu_of hr) (pe_call G_law_worths (hr.mono (by first | decide | omega)) (by rfl) T.g_law_worths T.F_law_worths.kp T.b_law_worths .nil pass0 (pa_cons (pv 2) pa_nil)) (pe_tup (pa_cons pe_int (pa_cons (pe_callB call_len_seq (by rfl) T.blen PySem.boot_len (pa_cons (pv 2) pa_nil)) pa_nil))) (fun _ _ => rfl)) (pa_cons (pe_callB call_len_seq (by rfl) T.blen PySem.boot_len (pa_cons (pv 2) pa_nil)) pa_nil)) (by rfl))
      (pss_cons (ps_set (i := 5) sc_law.nd rfl (Or.inl rfl) (pe_fld (pe_call Gjudged (hr.mono (by first | decide | omega)) (by rfl) T.gjudged T.Fjudged.kp T.bjudged .nil passL (pa_cons (pv 2) (pa_cons (pv 3) pa_nil))) rfl))
      (pss_cons (ps_set (i := 6) sc_law.nd rfl (Or.inl rfl) (pe_lst (pa_cons (pe_call G_law_all (hr.mono (by first | decide | omega)) (by rfl) T.g_law_all T.F_law_all.kp T.b_law_all .nil pass0 (pa_cons (pv 2) (pa_cons pe_str pa_nil))) (pa_cons (pe_call G_law_all (hr.mono (by first | decide | omega)) (by rfl) T.g_law_all T.F_law_all.kp T.b_law_all .nil pass0 (pa_cons (pv 2) (pa_cons pe_str pa_nil))) (pa_cons (pv 5) (pa_cons (pe_slice sl_list (pv 5) (po_some pe_int) po_none) (pa_cons (pe_revL (pv 5)) (pa_cons (pe_op op_cat (pv 5) (pe_slice sl_list (pv 5) (po_some (pe_un un_neg pe_int)) po_none)) (pa_cons (pe_lst pa_nil) pa_nil)))))))))
      (pss_cons (ps_set (i := 6) sc_law.nd rfl (Or.inl rfl) (pe_op op_cat (pv 6) (pe_lst (pa_cons (pe_call G_law_all (hr.mono (by first | decide | omega)) (by rfl) T.g_law_all T.F_law_all.kp T.b_law_all .nil pass0 (pa_cons (pv 2) (pa_cons pe_str pa_nil))) (pa_cons (pe_lst (pa_cons (pe_tup (pa_cons pe_int (pa_cons (pe_op op_add (pv 4) pe_int) (pa_cons pe_str pa_nil)))) pa_nil)) (pa_cons (pe_lst (pa_cons (pe_tup (pa_cons (pe_un un_neg pe_int) (pa_cons (pv 4) (pa_cons pe_str pa_nil)))) pa_nil)) (pa_cons (pe_lst (pa_cons (pe_tup (pa_cons pe_int (pa_cons pe_int (pa_cons pe_str pa_nil)))) pa_nil)) pa_nil)))))))
      (pss_cons (ps_set (i := 6) sc_law.nd rfl (Or.inl rfl) (pe_op op_cat (pv 6) (pe_lst (pa_cons (pe_op op_cat (pv 5) (pe_lst (pa_cons (pe_tup (pa_cons (pe_op op_pow pe_int pe_int) (pa_cons (pe_op op_add (pe_op op_pow pe_int pe_int) pe_int) (pa_cons pe_str pa_nil)))) pa_nil))) (pa_cons (pe_fld (pe_call Gjudged (hr.mono (by first | decide | omega)) (by rfl) T.gjudged T.Fjudged.kp T.bjudged .nil passL (pa_cons (pv 2) (pa_cons (pe_op op_add (pv 3) pe_int) pa_nil))) rfl) (pa_cons (pe_lst (pa_cons (pe_tup (pa_cons pe_int (pa_cons (pv 4) (pa_cons pe_str pa_nil)))) pa_nil)) pa_nil))))))
      (pss_one (ps_for PassesOwn.never rfl (pi_list (pv 6)) (pg_name (i := 7) sc_law.nd rfl (Or.inl rfl))
      (pss_cons (ps_set (i := 8) sc_law.nd rfl (Or.inl rfl) (pe_callTy call_list_of (by rfl) T.blist (by decide +kernel) (pa_cons (pv 7) pa_nil)))
      (pss_cons (ps_par (i := 9) (j := 10) rfl sc_law.nd rfl rfl (by decide) rfl rfl (pa_cons (pe_make T.MGets GGets_init (hr.mono (by first | decide | omega)) (by rfl) T.gGets T.bGets_init .nil pass0 (pa_cons (pv 8) pa_nil)) (pa_cons (pe_make T.MHeld GHeld_init (hr.mono (by first | decide | omega)) (by rfl) T.gHeld T.bHeld_init .nil pass0 (pa_cons (pv 8) pa_nil)) pa_nil)) (by rfl))
      (pss_cons (ps_expr (pe_bm PySem.F.plainAttrs_list PySem.F.slot_list_append PySem.F.type_list_append mt_append (pv 8) (pa_cons (pe_tup (pa_cons pe_int (pa_cons pe_int (pa_cons pe_str pa_nil)))) pa_nil)))
      (pss_cons (ps_if (PW.pt (pw_or (pt_cmpR (op_neD hr.units) (pe_fld (pv 9) rfl) (pv 7) (nomark _)) (pw_or1 (pt_cmpR (op_neD hr.units) (pe_fld (pv 10) rfl) (pv 7) (nomark _))))) (pss_one (ps_ret pe_bl)) pss_nil)
      (pss_one (ps_for PassesOwn.never rfl (pi_list (pe_lst (pa_cons (pv 3) (pa_cons (pe_op op_add (pv 3) pe_int) (pa_cons (pe_op op_sub (pv 3) pe_int) (pa_cons pe_int pa_nil)))))) (pg_name (i := 11) sc_law.nd rfl (Or.inl rfl))
      (pss_cons (ps_if (pt_not (pt_val (pe_call G_law_says (hr.mono (by first | decide | omega)) (by rfl) T.g_law_says T.F_law_says.kp T.b_law_says .nil pass0 (pa_cons (pe_meth2 (pv 9) T.clGets T.mGets_shows GGets_shows T.bGets_shows T.clHeld T.mHeld_shows GHeld_shows T.bHeld_shows (hr.mono (by first | decide | omega)) pass0 (pa_cons (pv 2) (pa_cons (pv 11) pa_nil))) (pa_cons (pe_call G_law_shows (hr.mono (by first | decide | omega)) (by rfl) T.g_law_shows T.F_law_shows.kp T.b_law_shows .nil pass0 (pa_cons (pv 2) (pa_cons (pv 11) (pa_cons (pv 7) (pa_cons pe_bl pa_nil))))) pa_nil))))) (pss_one (ps_ret pe_bl)) pss_nil)
      (pss_one (ps_if (pt_not (pt_val (pe_call G_law_says (hr.mono (by first | decide | omega)) (by rfl) T.g_law_says T.F_law_says.kp T.b_law_says .nil pass0 (pa_cons (pe_meth2 (pv 10) T.clGets T.mGets_shows GGets_shows T.bGets_shows T.clHeld T.mHeld_shows GHeld_shows T.bHeld_shows (hr.mono (by first | decide | omega)) pass0 (pa_cons (pv 2) (pa_cons (pv 11) pa_nil))) (pa_cons (pe_call G_law_shows (hr.mono (by first | decide | omega)) (by rfl) T.g_law_shows T.F_law_shows.kp T.b_law_shows .nil pass0 (pa_cons (pv 2) (pa_cons (pv 11) (pa_cons (pv 7) (pa_cons pe_bl pa_nil))))) pa_nil))))) (pss_one (ps_ret pe_bl)) pss_nil))))))))))))))))))
      (pss_one (ps_ret (pe_and (pe_cmpR op_isBl (pe_meth2 (pe_make T.MHeld GHeld_init (hr.mono (by first | decide | omega)) (by rfl) T.gHeld T.bHeld_init .nil pass0 (pa_cons (pe_lst pa_nil) pa_nil)) T.clGets T.mGets_shows GGets_shows T.bGets_shows T.clHeld T.mHeld_shows GHeld_shows T.bHeld_shows (hr.mono (by first | decide | omega)) pass0 (pa_cons (pe_lst (pa_cons pe_int pa_nil)) (pa_cons pe_int pa_nil))) pe_bl (nomark _)) (pe_and (pe_cmpR op_isBl (pe_meth2 (pe_make T.MGets GGets_init (hr.mono (by first | decide | omega)) (by rfl) T.gGets T.bGets_init .nil pass0 (pa_cons (pe_lst pa_nil) pa_nil)) T.clGets T.mGets_shows GGets_shows T.bGets_shows T.clHeld T.mHeld_shows GHeld_shows T.bHeld_shows (hr.mono (by first | decide | omega)) pass0 (pa_cons (pe_lst (pa_cons pe_int pa_nil)) (pa_cons pe_int pa_nil))) pe_bl (nomark _)) (pe_one (pe_cmpR op_isBl (pe_meth2 (pe_make T.MGets GGets_init (hr.mono (by first | decide | omega)) (by rfl) T.gGets T.bGets_init .nil pass0 (pa_cons (pe_lst pa_nil) pa_nil)) T.clGets T.mGets_shows GGets_shows T.bGets_shows T.clHeld T.mHeld_shows GHeld_shows T.bHeld_shows (hr.mono (by first | decide | omega)) pass0 (pa_cons (pe_lst pa_nil) (pa_cons pe_int pa_nil))) pe_bl (nomark _)))))))), ?_⟩
    refine ⟨3, rfl, by decide, by decide, ?_⟩
    refine for_range (lo := 0) (n := 3) (fun k σ Hx => ∃ (x1 x2 x3 x4 x5 x6 x7 x8 x9 x10 x11 : Option V), σ = [some (V.ref a), x1, x2, x3, x4, x5, x6, x7, x8, x9, x10, x11] ∧ Same H Hx) ⟨none, none, none, none, none, none, none, none, none, none, none, rfl, Same.refl _⟩ ?_ ?_
    · rintro k σ Ha hk ⟨x1, x2, x3, x4, x5, x6, x7, x8, x9, x10, x11, rfl, sa⟩
      have h1 := (sa.seq hS)
      refine ⟨_, rfl, _, rfl, a, cs, _, _, rfl, h1, h63, hbits, by omega, by omega, by decide, by decide, fun ns2 r3 H4 okns2 lenns2 sH4 nr3 hr3 => ?_⟩
      refine ⟨_, rfl, r3, ns2, rfl, (SqL.of hr3), okns2.1, fun kvs5 d6 H7 wkvs5 sH7 nd6 hd6 => ?_⟩
      have h8 := (sH7 _ _ hr3)
      refine ⟨_, rfl, r3, _, rfl, .inl (SqL.of h8), (by show 2 ≤ sizeLine; decide), fun p9 np9 => gen_heap np9 fun H10 sH10 hp9 => ?_⟩
      have h11 := (sH10 _ _ hd6)
      have g12 : DGet H10 d6 (.ref p9) (some (.int (wv ns2 ns2.length 0))) := by
        have z := DGet.t (k := keyOf 0 ns2.length) (b := p9) h11 (by rw [hp9]; exact congrArg (fun z => some (HO.tup z)) (keyEq rfl (by rw [List.length_map]; omega)))
        rw [wkvs5.val 0 ns2.length (by omega)] at z
        exact z
      have h13 := (sH10 _ _ h8)
      refine ⟨d6, (V.int (wv ns2 ns2.length 0)), rfl, g12, _, rfl, r3, _, rfl, .inl (SqL.of h13), _, _, rfl, ?_⟩
      refine ⟨_, rfl, _, rfl, _, _, rfl, .inr ⟨ns2, ⟨r3, rfl, (SqL.of h13), okns2⟩, .inr ⟨_, rfl, fun H14 o15 dx16 l17 xs18 sH14 no15 nl17 ho15 hl17 Tl17 => ?_⟩⟩⟩
      rw [show decide ((wv ns2 ns2.length 0) ≤ wv ns2 ns2.length 0) = true from decide_eq_true (Int.le_refl _)] at ho15 Tl17
      rw [if_pos rfl] at ho15
      refine ⟨o15, _, _, _, _, rfl, ho15, T.clGets, T.npGets, rfl, ?_⟩
      have h22 := (sH14 _ _ h13)
      refine ⟨_, rfl, r3, ns2, _, rfl, (SqL.of h22), okns2.1, fun H19 l20 xs21 sH19 nl20 hl20 Tl20 => ?_⟩
      have h26 := (sH19 _ _ h22)
      refine ⟨_, rfl, r3, ns2, _, rfl, (SqL.of h26), okns2.1, fun H23 l24 xs25 sH23 nl24 hl24 Tl24 => ?_⟩
      have t27 := (PlanIn.mono sH23 (PlanIn.mono sH19 (plan_in okns2.1 Tl17)))
      have h28 := (sH23 _ _ (sH19 _ _ hl17))
      obtain ⟨pc29, ic30, lc31⟩ := PlanIn.cut t27 (some 1) none
      refine ⟨_, rfl, _, rfl, _, rfl, l17, _, rfl, (SqL.of h28), fun p32 np32 => gen_heap np32 fun H33 sH33 hp32 => ?_⟩
      have t34 := (PlanIn.mono sH33 t27)
      have h35 := (sH33 _ _ h28)
      refine ⟨_, rfl, l17, _, rfl, (SqL.of h35), fun p36 np36 => gen_heap np36 fun H37 sH37 hp36 => ?_⟩
      have t38 := (PlanIn.mono sH37 t34)
      have h39 := (sH37 _ _ h35)
      obtain ⟨pc40, ic41, lc42⟩ := PlanIn.cut t38 (some (-1)) none
      refine ⟨_, rfl, _, rfl, _, rfl, _, rfl, l17, _, rfl, (SqL.of h39), fun p43 np43 => gen_heap np43 fun H44 sH44 hp43 => ?_⟩
      have t45 := (PlanIn.mono sH44 t38)
      have t46 := (PlanIn.mono sH44 ic41)
      have l47 : (planV ns2 true).length + pc40.length ≤ 1000 := by have := planV_144 (ns := ns2) (first := true) okns2.1; have := lc42; omega
      have ia48 := PlanIn.app t45 t46 l47
      have h49 := (sH44 _ _ h39)
      refine ⟨l17, p43, _, _, rfl, rfl, h49, hp43, by rw [t45.tris.len, t46.tris.len]; exact size_le (by omega), fun p50 np50 => gen_heap np50 fun H51 sH51 hp50 => ?_⟩
      refine ⟨Nat.zero_le _, fun p52 np52 => gen_heap np52 fun H53 sH53 hp52 => ?_⟩
      refine ⟨(by show 7 ≤ sizeLine; decide), fun p54 np54 => gen_heap np54 fun H55 sH55 hp54 => ?_⟩
      have h59 := (sH55 _ _ (sH53 _ _ (sH51 _ _ (sH44 _ _ (sH37 _ _ (sH33 _ _ (sH23 _ _ h26)))))))
      refine ⟨_, rfl, _, rfl, r3, ns2, _, rfl, (SqL.of h59), okns2.1, fun H56 l57 xs58 sH56 nl57 hl57 Tl57 => ?_⟩
      refine ⟨_, rfl, _, _, rfl, rfl, (by show 3 ≤ sizeLine; decide), fun p60 np60 => gen_heap np60 fun H61 sH61 hp60 => ?_⟩
      refine ⟨(by show 1 ≤ sizeLine; decide), fun p62 np62 => gen_heap np62 fun H63 sH63 hp62 => ?_⟩
      refine ⟨_, rfl, _, rfl, (by show 3 ≤ sizeLine; decide), fun p64 np64 => gen_heap np64 fun H65 sH65 hp64 => ?_⟩
      refine ⟨(by show 1 ≤ sizeLine; decide), fun p66 np66 => gen_heap np66 fun H67 sH67 hp66 => ?_⟩
      refine ⟨(by show 3 ≤ sizeLine; decide), fun p68 np68 => gen_heap np68 fun H69 sH69 hp68 => ?_⟩
      refine ⟨(by show 1 ≤ sizeLine; decide), fun p70 np70 => gen_heap np70 fun H71 sH71 hp70 => ?_⟩
      refine ⟨(by show 4 ≤ sizeLine; decide), fun p72 np72 => gen_heap np72 fun H73 sH73 hp72 => ?_⟩
      have h74 := (sH73 _ _ (sH71 _ _ (sH69 _ _ (sH67 _ _ (sH65 _ _ (sH63 _ _ (sH61 _ _ (sH56 _ _ hp54))))))))
      refine ⟨p54, p72, _, _, rfl, rfl, h74, hp72, (by show 7 + 4 ≤ sizeLine; decide), fun p75 np75 => gen_heap np75 fun H76 sH76 hp75 => ?_⟩
      refine ⟨_, rfl, _, rfl, _, _, rfl, rfl, ⟨by decide, by decide, by decide⟩, _, _, rfl, rfl, ⟨by decide, by decide, by decide⟩, _, _, rfl, rfl, (by show 3 ≤ sizeLine; decide), fun p77 np77 => gen_heap np77 fun H78 sH78 hp77 => ?_⟩
      refine ⟨(by show 1 ≤ sizeLine; decide), fun p79 np79 => gen_heap np79 fun H80 sH80 hp79 => ?_⟩
      have t81 := (PlanIn.mono sH80 (PlanIn.mono sH78 (PlanIn.mono sH76 (PlanIn.mono sH73 (PlanIn.mono sH71 (PlanIn.mono sH69 (PlanIn.mono sH67 (PlanIn.mono sH65 (PlanIn.mono sH63 (PlanIn.mono sH61 (PlanIn.mono sH56 (PlanIn.mono sH55 (PlanIn.mono sH53 (PlanIn.mono sH51 t45))))))))))))))
      have h82 := (sH80 _ _ hp77)
      have l83 : (planV ns2 true).length + 1 ≤ 1000 := by have := planV_144 (ns := ns2) (first := true) okns2.1; omega
      have ia84 := PlanIn.app t81 (one_in h82 (by decide +kernel)) l83
      have h85 := (sH80 _ _ (sH78 _ _ (sH76 _ _ (sH73 _ _ (sH71 _ _ (sH69 _ _ (sH67 _ _ (sH65 _ _ (sH63 _ _ (sH61 _ _ (sH56 _ _ (sH55 _ _ (sH53 _ _ (sH51 _ _ h49))))))))))))))
      refine ⟨l17, p79, _, _, rfl, rfl, h85, hp79, by rw [t81.tris.len]; exact size_le (by show _ + 1 ≤ 100000; omega), fun p86 np86 => gen_heap np86 fun H87 sH87 hp86 => ?_⟩
      have h88 := (sH87 _ _ (sH80 _ _ (sH78 _ _ (sH76 _ _ (sH73 _ _ (sH71 _ _ (sH69 _ _ (sH67 _ _ (sH65 _ _ (sH63 _ _ (sH61 _ _ (sH56 _ _ h59))))))))))))
      refine ⟨_, rfl, _, rfl, _, _, rfl, rfl, _, _, rfl, .inr ⟨ns2, ⟨r3, rfl, (SqL.of h88), okns2⟩, .inr ⟨_, rfl, fun H89 o90 dx91 l92 xs93 sH89 no90 nl92 ho90 hl92 Tl92 => ?_⟩⟩⟩
      rw [show decide (((wv ns2 ns2.length 0) + 1) ≤ wv ns2 ns2.length 0) = false from decide_eq_false (by omega)] at ho90 Tl92
      rw [if_neg Bool.false_ne_true] at ho90
      refine ⟨o90, _, _, _, _, rfl, ho90, T.clHeld, T.npHeld, rfl, _, rfl, (by show 3 ≤ sizeLine; decide), fun p94 np94 => gen_heap np94 fun H95 sH95 hp94 => ?_⟩
      refine ⟨(by show 1 ≤ sizeLine; decide), fun p96 np96 => gen_heap np96 fun H97 sH97 hp96 => ?_⟩
      refine ⟨(by show 3 ≤ sizeLine; decide), fun p98 np98 => gen_heap np98 fun H99 sH99 hp98 => ?_⟩
      have h100 := (sH99 _ _ (sH97 _ _ (sH95 _ _ (sH89 _ _ (sH87 _ _ (sH80 _ _ (sH78 _ _ hp75)))))))
      refine ⟨p75, p98, _, _, rfl, rfl, h100, hp98, (by show 11 + 3 ≤ sizeLine; decide), fun p101 np101 => gen_heap np101 fun H102 sH102 hp101 => ?_⟩
      have h103 := (sH102 _ _ (sH99 _ _ (sH97 _ _ hp94)))
      have h104 := (sH102 _ _ (sH99 _ _ hp96))
      have t105 := (PlanIn.mono sH102 (PlanIn.mono sH99 (PlanIn.mono sH97 (PlanIn.mono sH95 (plan_in okns2.1 Tl92)))))
      have h106 := (sH102 _ _ (sH99 _ _ (sH97 _ _ (sH95 _ _ hl92))))
      have t107 := (PlanIn.mono sH102 (PlanIn.mono sH99 (PlanIn.mono sH97 (PlanIn.mono sH95 (PlanIn.mono sH89 (PlanIn.mono sH87 ia84))))))
      have h108 := (sH102 _ _ (sH99 _ _ (sH97 _ _ (sH95 _ _ (sH89 _ _ hp86)))))
      have h109 := (sH102 _ _ (sH99 _ _ (sH97 _ _ (sH95 _ _ (sH89 _ _ (sH87 _ _ (sH80 _ _ (sH78 _ _ (sH76 _ _ (sH73 _ _ (sH71 _ _ hp68)))))))))))
      have h110 := (sH102 _ _ (sH99 _ _ (sH97 _ _ (sH95 _ _ (sH89 _ _ (sH87 _ _ (sH80 _ _ (sH78 _ _ (sH76 _ _ (sH73 _ _ hp70))))))))))
      have h111 := (sH102 _ _ (sH99 _ _ (sH97 _ _ (sH95 _ _ (sH89 _ _ (sH87 _ _ (sH80 _ _ (sH78 _ _ (sH76 _ _ (sH73 _ _ (sH71 _ _ (sH69 _ _ (sH67 _ _ hp64)))))))))))))
      have h112 := (sH102 _ _ (sH99 _ _ (sH97 _ _ (sH95 _ _ (sH89 _ _ (sH87 _ _ (sH80 _ _ (sH78 _ _ (sH76 _ _ (sH73 _ _ (sH71 _ _ (sH69 _ _ hp66))))))))))))
      have h113 := (sH102 _ _ (sH99 _ _ (sH97 _ _ (sH95 _ _ (sH89 _ _ (sH87 _ _ (sH80 _ _ (sH78 _ _ (sH76 _ _ (sH73 _ _ (sH71 _ _ (sH69 _ _ (sH67 _ _ (sH65 _ _ (sH63 _ _ hp60)))))))))))))))
      have h114 := (sH102 _ _ (sH99 _ _ (sH97 _ _ (sH95 _ _ (sH89 _ _ (sH87 _ _ (sH80 _ _ (sH78 _ _ (sH76 _ _ (sH73 _ _ (sH71 _ _ (sH69 _ _ (sH67 _ _ (sH65 _ _ hp62))))))))))))))
      have t115 := (PlanIn.mono sH102 (PlanIn.mono sH99 (PlanIn.mono sH97 (PlanIn.mono sH95 (PlanIn.mono sH89 (PlanIn.mono sH87 (PlanIn.mono sH80 (PlanIn.mono sH78 (PlanIn.mono sH76 (PlanIn.mono sH73 (PlanIn.mono sH71 (PlanIn.mono sH69 (PlanIn.mono sH67 (PlanIn.mono sH65 (PlanIn.mono sH63 (PlanIn.mono sH61 (all_in okns2.1 (by decide +kernel) Tl57)))))))))))))))))
      have h116 := (sH102 _ _ (sH99 _ _ (sH97 _ _ (sH95 _ _ (sH89 _ _ (sH87 _ _ (sH80 _ _ (sH78 _ _ (sH76 _ _ (sH73 _ _ (sH71 _ _ (sH69 _ _ (sH67 _ _ (sH65 _ _ (sH63 _ _ (sH61 _ _ hl57))))))))))))))))
      have h117 := (sH102 _ _ (sH99 _ _ (sH97 _ _ (sH95 _ _ (sH89 _ _ (sH87 _ _ (sH80 _ _ (sH78 _ _ (sH76 _ _ (sH73 _ _ (sH71 _ _ (sH69 _ _ (sH67 _ _ (sH65 _ _ (sH63 _ _ (sH61 _ _ (sH56 _ _ (sH55 _ _ hp52))))))))))))))))))
      have t118 := (PlanIn.mono sH102 (PlanIn.mono sH99 (PlanIn.mono sH97 (PlanIn.mono sH95 (PlanIn.mono sH89 (PlanIn.mono sH87 (PlanIn.mono sH80 (PlanIn.mono sH78 (PlanIn.mono sH76 (PlanIn.mono sH73 (PlanIn.mono sH71 (PlanIn.mono sH69 (PlanIn.mono sH67 (PlanIn.mono sH65 (PlanIn.mono sH63 (PlanIn.mono sH61 (PlanIn.mono sH56 (PlanIn.mono sH55 (PlanIn.mono sH53 (PlanIn.mono sH51 ia48))))))))))))))))))))
      have h119 := (sH102 _ _ (sH99 _ _ (sH97 _ _ (sH95 _ _ (sH89 _ _ (sH87 _ _ (sH80 _ _ (sH78 _ _ (sH76 _ _ (sH73 _ _ (sH71 _ _ (sH69 _ _ (sH67 _ _ (sH65 _ _ (sH63 _ _ (sH61 _ _ (sH56 _ _ (sH55 _ _ (sH53 _ _ hp50)))))))))))))))))))
      have t120 := (PlanIn.mono sH102 (PlanIn.mono sH99 (PlanIn.mono sH97 (PlanIn.mono sH95 (PlanIn.mono sH89 (PlanIn.mono sH87 (PlanIn.mono sH80 (PlanIn.mono sH78 (PlanIn.mono sH76 (PlanIn.mono sH73 (PlanIn.mono sH71 (PlanIn.mono sH69 (PlanIn.mono sH67 (PlanIn.mono sH65 (PlanIn.mono sH63 (PlanIn.mono sH61 (PlanIn.mono sH56 (PlanIn.mono sH55 (PlanIn.mono sH53 (PlanIn.mono sH51 (PlanIn.mono sH44 (PlanIn.mono sH37 (PlanIn.rev t34)))))))))))))))))))))))
      have h121 := (sH102 _ _ (sH99 _ _ (sH97 _ _ (sH95 _ _ (sH89 _ _ (sH87 _ _ (sH80 _ _ (sH78 _ _ (sH76 _ _ (sH73 _ _ (sH71 _ _ (sH69 _ _ (sH67 _ _ (sH65 _ _ (sH63 _ _ (sH61 _ _ (sH56 _ _ (sH55 _ _ (sH53 _ _ (sH51 _ _ (sH44 _ _ hp36)))))))))))))))))))))
      have t122 := (PlanIn.mono sH102 (PlanIn.mono sH99 (PlanIn.mono sH97 (PlanIn.mono sH95 (PlanIn.mono sH89 (PlanIn.mono sH87 (PlanIn.mono sH80 (PlanIn.mono sH78 (PlanIn.mono sH76 (PlanIn.mono sH73 (PlanIn.mono sH71 (PlanIn.mono sH69 (PlanIn.mono sH67 (PlanIn.mono sH65 (PlanIn.mono sH63 (PlanIn.mono sH61 (PlanIn.mono sH56 (PlanIn.mono sH55 (PlanIn.mono sH53 (PlanIn.mono sH51 (PlanIn.mono sH44 (PlanIn.mono sH37 (PlanIn.mono sH33 ic30)))))))))))))))))))))))
      have h123 := (sH102 _ _ (sH99 _ _ (sH97 _ _ (sH95 _ _ (sH89 _ _ (sH87 _ _ (sH80 _ _ (sH78 _ _ (sH76 _ _ (sH73 _ _ (sH71 _ _ (sH69 _ _ (sH67 _ _ (sH65 _ _ (sH63 _ _ (sH61 _ _ (sH56 _ _ (sH55 _ _ (sH53 _ _ (sH51 _ _ (sH44 _ _ (sH37 _ _ hp32))))))))))))))))))))))
      have t124 := (PlanIn.mono sH102 (PlanIn.mono sH99 (PlanIn.mono sH97 (PlanIn.mono sH95 (PlanIn.mono sH89 (PlanIn.mono sH87 t81))))))
      have h125 := (sH102 _ _ (sH99 _ _ (sH97 _ _ (sH95 _ _ (sH89 _ _ (sH87 _ _ h85))))))
      have t126 := (PlanIn.mono sH102 (PlanIn.mono sH99 (PlanIn.mono sH97 (PlanIn.mono sH95 (PlanIn.mono sH89 (PlanIn.mono sH87 (PlanIn.mono sH80 (PlanIn.mono sH78 (PlanIn.mono sH76 (PlanIn.mono sH73 (PlanIn.mono sH71 (PlanIn.mono sH69 (PlanIn.mono sH67 (PlanIn.mono sH65 (PlanIn.mono sH63 (PlanIn.mono sH61 (PlanIn.mono sH56 (PlanIn.mono sH55 (PlanIn.mono sH53 (PlanIn.mono sH51 (PlanIn.mono sH44 (PlanIn.mono sH37 (PlanIn.mono sH33 (all_in okns2.1 (by decide +kernel) Tl24))))))))))))))))))))))))
      have h127 := (sH102 _ _ (sH99 _ _ (sH97 _ _ (sH95 _ _ (sH89 _ _ (sH87 _ _ (sH80 _ _ (sH78 _ _ (sH76 _ _ (sH73 _ _ (sH71 _ _ (sH69 _ _ (sH67 _ _ (sH65 _ _ (sH63 _ _ (sH61 _ _ (sH56 _ _ (sH55 _ _ (sH53 _ _ (sH51 _ _ (sH44 _ _ (sH37 _ _ (sH33 _ _ hl24)))))))))))))))))))))))
      have t128 := (PlanIn.mono sH102 (PlanIn.mono sH99 (PlanIn.mono sH97 (PlanIn.mono sH95 (PlanIn.mono sH89 (PlanIn.mono sH87 (PlanIn.mono sH80 (PlanIn.mono sH78 (PlanIn.mono sH76 (PlanIn.mono sH73 (PlanIn.mono sH71 (PlanIn.mono sH69 (PlanIn.mono sH67 (PlanIn.mono sH65 (PlanIn.mono sH63 (PlanIn.mono sH61 (PlanIn.mono sH56 (PlanIn.mono sH55 (PlanIn.mono sH53 (PlanIn.mono sH51 (PlanIn.mono sH44 (PlanIn.mono sH37 (PlanIn.mono sH33 (PlanIn.mono sH23 (all_in okns2.1 (by decide +kernel) Tl20)))))))))))))))))))))))))
      have h129 := (sH102 _ _ (sH99 _ _ (sH97 _ _ (sH95 _ _ (sH89 _ _ (sH87 _ _ (sH80 _ _ (sH78 _ _ (sH76 _ _ (sH73 _ _ (sH71 _ _ (sH69 _ _ (sH67 _ _ (sH65 _ _ (sH63 _ _ (sH61 _ _ (sH56 _ _ (sH55 _ _ (sH53 _ _ (sH51 _ _ (sH44 _ _ (sH37 _ _ (sH33 _ _ (sH23 _ _ hl20))))))))))))))))))))))))
      have hpl : Plans H102 [V.ref l20, V.ref l24, V.ref l17, V.ref p32, V.ref p36, V.ref p50, V.ref p52, V.ref l57, V.ref p62, V.ref p66, V.ref p70, V.ref p86, V.ref l92, V.ref p96] := (.cons h129 t128 (.cons h127 t126 (.cons h125 t124 (.cons h123 t122 (.cons h121 t120 (.cons h119 t118 (.cons h117 (PlanIn.nil _) (.cons h116 t115 (.cons h114 (one_in h113 (by decide +kernel)) (.cons h112 (one_in h111 (by decide +kernel)) (.cons h110 (one_in h109 (by decide +kernel)) (.cons h108 t107 (.cons h106 t105 (.cons h104 (one_in h103 (by decide +kernel)) .nil))))))))))))))
      refine ⟨_, rfl, p101, rfl, ⟨_, SqL.of hp101⟩, ?_⟩
      refine for_list (K := K) (a := p101) (xs := [V.ref l20, V.ref l24, V.ref l17, V.ref p32, V.ref p36, V.ref p50, V.ref p52, V.ref l57, V.ref p62, V.ref p66, V.ref p70, V.ref p86, V.ref l92, V.ref p96]) (fun i σ Hx => ∃ (x7 x8 x9 x10 x11 : Option V), σ = [some (V.ref a), some (V.int (0 + (k : Int))), some (V.ref r3), some (V.int (wv ns2 ns2.length 0)), some (V.int ((ns2.map V.int).length : Int)), some (V.ref l17), some (V.ref p101), x7, x8, x9, x10, x11] ∧ Same H102 Hx) ⟨_, _, _, _, _, rfl, Same.refl _⟩ ?_ ?_ ?_
      · rintro i σ Hb _ ⟨x7, x8, x9, x10, x11, rfl, sb⟩
        exact SqL.of (sb _ _ hp101)
      · rintro i y σ Hb hi ⟨x7, x8, x9, x10, x11, rfl, sb⟩
        obtain ⟨l, ys, p, rfl, hl, hin⟩ := (hpl.mono sb).get hi
        refine ⟨_, rfl, l, _, rfl, .inl (SqL.of hl), fun p130 np130 => gen_heap np130 fun H131 sH131 hp130 => ?_⟩
        have t136 := (PlanIn.mono sH131 hin)
        refine ⟨_, rfl, fun o132 dx133 no132 ndx133 neo132 => ?_⟩
        have smo132 := same_make (C := A.C_Gets) no132 ndx133
        refine ⟨o132, p130, dx133, _, rfl, upd_same, smo132.seq (SqL.of hp130), fun H135 m134 bH135 nm134 ho132 hm134 => ⟨rfl, ?_⟩⟩
        have sH135 : Same H131 H135 := fun b u e => bH135 _ _ (ne_of_none e no132) (smo132 _ _ e)
        have nnm134 : H131 m134 = none := smo132.free nm134
        have h141 := (sH135 _ _ hp130)
        have t142 := (PlanIn.mono sH135 t136)
        refine ⟨_, rfl, fun o137 dx138 no137 ndx138 neo137 => ?_⟩
        have smo137 := same_make (C := A.C_Held) no137 ndx138
        refine ⟨o137, p130, dx138, _, rfl, upd_same, smo137.seq (SqL.of h141), fun H140 m139 bH140 nm139 ho137 hm139 => ⟨rfl, ?_⟩⟩
        have sH140 : Same H135 H140 := fun b u e => bH140 _ _ (ne_of_none e no137) (smo137 _ _ e)
        have nnm139 : H135 m139 = none := smo137.free nm139
        refine ⟨_, _, rfl, ?_⟩
        have t143 := (PlanIn.mono sH140 t142)
        have h144 := (sH140 _ _ h141)
        refine ⟨_, rfl, .inl ⟨rfl, _, SqL.of h144⟩, (by show 3 ≤ sizeLine; decide), fun p145 np145 => gen_heap np145 fun H146 sH146 hp145 => ?_⟩
        have h147 := (sH146 _ _ h144)
        refine ⟨p130, _, _, rfl, rfl, h147, by rw [t143.tris.len]; exact size_lt (by have := t143.len; omega), gen_put h147 fun H148 sH148 h149 => ?_⟩
        have h150 := (sH148 _ _ (ne_of_none hp130 no132).symm (sH146 _ _ (sH140 _ _ ho132)))
        have h151 := (sH148 _ _ (ne_of_none hp130 nnm134).symm (sH146 _ _ (sH140 _ _ hm134)))
        have t152 := (PlanIn.butO sH148 h147 (by intro _ z; cases z) (PlanIn.mono sH146 (PlanIn.mono sH140 (PlanIn.mono sH135 t136))))
        have h153 := (sH148 _ _ (ne_of_none hl np130) (sH146 _ _ (sH140 _ _ (sH135 _ _ (sH131 _ _ hl)))))
        have t154 := (PlanIn.butO sH148 h147 (by intro _ z; cases z) (PlanIn.mono sH146 (PlanIn.mono sH140 (PlanIn.mono sH135 (PlanIn.mono sH131 hin)))))
        refine ⟨_, rfl, o132, _, _, _, _, rfl, h150, T.clGets, T.npGets, rfl, _, rfl, (PyData.list (p.map triD)), (PyData.list (p.map triD)), (.lst (SqL.of h151) (dp_tris t152.tris)), (.lst (SqL.of h153) (dp_tris t154.tris)), (Sh.list (sha_tris _ t152.txt)).shaped (by decide), (Sh.list (sha_tris _ t154.txt)).shaped (by decide), _, rfl, ?_⟩
        refine iteFb (not_t (eqv_same ((Sh.list (sha_tris _ t152.txt)).shaped (by decide)))) ?_
        have h155 := (sH148 _ _ (ne_of_none h141 no137).symm (sH146 _ _ ho137))
        have h156 := (sH148 _ _ (ne_of_none h141 nnm139).symm (sH146 _ _ hm139))
        have t157 := (PlanIn.butO sH148 h147 (by intro _ z; cases z) (PlanIn.mono sH146 (PlanIn.mono sH140 t142)))
        refine ⟨_, rfl, o137, _, _, _, _, rfl, h155, T.clHeld, T.npHeld, rfl, _, rfl, (PyData.list (p.map triD)), (PyData.list (p.map triD)), (.lst (SqL.of h156) (dp_tris t157.tris)), (.lst (SqL.of h153) (dp_tris t154.tris)), (Sh.list (sha_tris _ t157.txt)).shaped (by decide), (Sh.list (sha_tris _ t154.txt)).shaped (by decide), _, rfl, ?_⟩
        refine iteFb (not_t (eqv_same ((Sh.list (sha_tris _ t157.txt)).shaped (by decide)))) ?_
        refine ⟨_, rfl, _, rfl, _, _, rfl, rfl, _, rfl, _, _, rfl, rfl, (by show 4 ≤ sizeLine; decide), fun p158 np158 => gen_heap np158 fun H159 sH159 hp158 => ?_⟩
        refine ⟨p158, rfl, ⟨_, (SqL.of hp158)⟩, ?_⟩
        refine for_list (K := K) (a := p158) (xs := [V.int (wv ns2 ns2.length 0), V.int ((wv ns2 ns2.length 0) + 1), V.int ((wv ns2 ns2.length 0) - 1), V.int 0]) (fun i σ Hx => ∃ (x11 : Option V), σ = [some (V.ref a), some (V.int (0 + (k : Int))), some (V.ref r3), some (V.int (wv ns2 ns2.length 0)), some (V.int ((ns2.map V.int).length : Int)), some (V.ref l17), some (V.ref p101), some (V.ref l), some (V.ref p130), some (V.ref o132), some (V.ref o137), x11] ∧ Same H159 Hx) ⟨_, rfl, Same.refl _⟩ ?_ ?_ ?_
        · rintro i σ Hc _ ⟨x11, rfl, sc⟩
          exact SqL.of (sc _ _ hp158)
        · rintro i y σ Hc hi ⟨x11, rfl, sc⟩
          obtain ⟨z, rfl⟩ : ∃ z, y = V.int z := by
            match i, hi with
            | 0, hi => exact ⟨_, (Option.some.inj hi).symm⟩
            | 1, hi => exact ⟨_, (Option.some.inj hi).symm⟩
            | 2, hi => exact ⟨_, (Option.some.inj hi).symm⟩
            | 3, hi => exact ⟨_, (Option.some.inj hi).symm⟩
            | i + 4, hi => simp at hi
          have h160 := (sc _ _ (sH159 _ _ h150))
          refine ⟨_, rfl, o132, _, _, rfl, rfl, .inl ⟨h160, ?_⟩⟩
          have h162 := (sc _ _ (sH159 _ _ (sH148 _ _ (ne_of_none (sb _ _ (sH102 _ _ (sH99 _ _ (sH97 _ _ (sH95 _ _ (sH89 _ _ h88)))))) np130) (sH146 _ _ (sH140 _ _ (sH135 _ _ (sH131 _ _ (sb _ _ (sH102 _ _ (sH99 _ _ (sH97 _ _ (sH95 _ _ (sH89 _ _ h88)))))))))))))
          have h163 := (sc _ _ (sH159 _ _ h151))
          have t164 := (PlanIn.mono sc (PlanIn.mono sH159 t152))
          refine ⟨_, rfl, _, rfl, o132, r3, m134, _, ns2, _, _, _, rfl, h160, (SqL.of h162), h163, t164.tris, (Nat.le_trans t164.len (by decide)), okns2.1, fun H161 sH161 => ?_⟩
          have h166 := (sH161 _ _ h162)
          have h167 := (sH161 _ _ (sc _ _ (sH159 _ _ h153)))
          have t168 := (PlanIn.mono sH161 (PlanIn.mono sc (PlanIn.mono sH159 t154)))
          refine ⟨_, rfl, _, rfl, _, rfl, r3, l, ns2, _, _, _, _, rfl, (SqL.of h166), (SqL.of h167), t168.tris, (Nat.le_trans t168.len (by decide)), okns2.1, fun H165 sH165 => ?_⟩
          refine ⟨_, rfl, _, rfl, ?_⟩
          refine iteF ?_
          have h169 := (sH165 _ _ (sH161 _ _ (sc _ _ (sH159 _ _ h155))))
          refine ⟨_, rfl, o137, _, _, rfl, rfl, .inr ⟨h169, ?_⟩⟩
          have h171 := (sH165 _ _ h166)
          have h172 := (sH165 _ _ (sH161 _ _ (sc _ _ (sH159 _ _ h156))))
          have t173 := (PlanIn.mono sH165 (PlanIn.mono sH161 (PlanIn.mono sc (PlanIn.mono sH159 t157))))
          refine ⟨_, rfl, _, rfl, o137, r3, m139, _, ns2, _, _, _, rfl, h169, (SqL.of h171), h172, t173.tris, (Nat.le_trans t173.len (by decide)), okns2.1, fun H170 sH170 => ?_⟩
          have h175 := (sH170 _ _ h171)
          have h176 := (sH170 _ _ (sH165 _ _ h167))
          have t177 := (PlanIn.mono sH170 (PlanIn.mono sH165 t168))
          refine ⟨_, rfl, _, rfl, _, rfl, r3, l, ns2, _, _, _, _, rfl, (SqL.of h175), (SqL.of h176), t177.tris, (Nat.le_trans t177.len (by decide)), okns2.1, fun H174 sH174 => ?_⟩
          refine ⟨_, rfl, _, rfl, ?_⟩
          refine iteF ?_
          exact ⟨_, rfl, (fun b o e => (sH174 _ _ (sH170 _ _ (sH165 _ _ (sH161 _ _ (sc _ _ e))))))⟩
        · rintro σ Hc ⟨x11, rfl, sc⟩
          exact ⟨_, _, _, _, _, rfl, (fun b o e => (sc _ _ (sH159 _ _ (sH148 _ _ (ne_of_none e (sb.free np130)) (sH146 _ _ (sH140 _ _ (sH135 _ _ (sH131 _ _ (sb _ _ e)))))))))⟩
      · rintro σ Hb ⟨x7, x8, x9, x10, x11, rfl, sb⟩
        exact ⟨_, _, _, _, _, _, _, _, _, _, _, rfl, (fun b o e => (sb _ _ (sH102 _ _ (sH99 _ _ (sH97 _ _ (sH95 _ _ (sH89 _ _ (sH87 _ _ (sH80 _ _ (sH78 _ _ (sH76 _ _ (sH73 _ _ (sH71 _ _ (sH69 _ _ (sH67 _ _ (sH65 _ _ (sH63 _ _ (sH61 _ _ (sH56 _ _ (sH55 _ _ (sH53 _ _ (sH51 _ _ (sH44 _ _ (sH37 _ _ (sH33 _ _ (sH23 _ _ (sH19 _ _ (sH14 _ _ (sH10 _ _ (sH7 _ _ (sH4 _ _ (sa _ _ e))))))))))))))))))))))))))))))))⟩
    · rintro σ Ha ⟨x1, x2, x3, x4, x5, x6, x7, x8, x9, x10, x11, rfl, sa⟩
      refine ⟨Nat.zero_le _, fun p178 np178 => gen_heap np178 fun H179 sH179 hp178 => ?_⟩
      refine fun o180 dx181 no180 ndx181 neo180 => ?_
      have smo180 := same_make (C := A.C_Held) no180 ndx181
      refine ⟨o180, p178, dx181, _, rfl, upd_same, smo180.seq (SqL.of hp178), fun H183 m182 bH183 nm182 ho180 hm182 => ⟨rfl, ?_⟩⟩
      have sH183 : Same H179 H183 := fun b u e => bH183 _ _ (ne_of_none e no180) (smo180 _ _ e)
      have nnm182 : H179 m182 = none := smo180.free nm182
      refine ⟨o180, _, _, rfl, rfl, .inr ⟨ho180, ?_⟩⟩
      refine ⟨(by show 1 ≤ sizeLine; decide), fun p184 np184 => gen_heap np184 fun H185 sH185 hp184 => ?_⟩
      have h187 := (sH185 _ _ ho180)
      have h188 := (sH185 _ _ hm182)
      refine ⟨o180, p184, m182, _, [4], _, _, _, rfl, h187, (SqL.of hp184), h188, Tris.nil, (by decide), (by decide), fun H186 sH186 => ?_⟩
      refine ⟨_, _, rfl, rfl, _, rfl, ?_⟩
      refine iteTb (isb (c := true) (by decide +kernel) rfl) ?_
      refine ⟨Nat.zero_le _, fun p189 np189 => gen_heap np189 fun H190 sH190 hp189 => ?_⟩
      refine fun o191 dx192 no191 ndx192 neo191 => ?_
      have smo191 := same_make (C := A.C_Gets) no191 ndx192
      refine ⟨o191, p189, dx192, _, rfl, upd_same, smo191.seq (SqL.of hp189), fun H194 m193 bH194 nm193 ho191 hm193 => ⟨rfl, ?_⟩⟩
      have sH194 : Same H190 H194 := fun b u e => bH194 _ _ (ne_of_none e no191) (smo191 _ _ e)
      have nnm193 : H190 m193 = none := smo191.free nm193
      refine ⟨o191, _, _, rfl, rfl, .inl ⟨ho191, ?_⟩⟩
      refine ⟨(by show 1 ≤ sizeLine; decide), fun p195 np195 => gen_heap np195 fun H196 sH196 hp195 => ?_⟩
      have h198 := (sH196 _ _ ho191)
      have h199 := (sH196 _ _ hm193)
      refine ⟨o191, p195, m193, _, [4], _, _, _, rfl, h198, (SqL.of hp195), h199, Tris.nil, (by decide), (by decide), fun H197 sH197 => ?_⟩
      refine ⟨_, _, rfl, rfl, _, rfl, ?_⟩
      refine iteTb (isb (c := false) (by decide +kernel) rfl) ?_
      refine ⟨Nat.zero_le _, fun p200 np200 => gen_heap np200 fun H201 sH201 hp200 => ?_⟩
      refine fun o202 dx203 no202 ndx203 neo202 => ?_
      have smo202 := same_make (C := A.C_Gets) no202 ndx203
      refine ⟨o202, p200, dx203, _, rfl, upd_same, smo202.seq (SqL.of hp200), fun H205 m204 bH205 nm204 ho202 hm204 => ⟨rfl, ?_⟩⟩
      have sH205 : Same H201 H205 := fun b u e => bH205 _ _ (ne_of_none e no202) (smo202 _ _ e)
      have nnm204 : H201 m204 = none := smo202.free nm204
      refine ⟨o202, _, _, rfl, rfl, .inl ⟨ho202, ?_⟩⟩
      refine ⟨Nat.zero_le _, fun p206 np206 => gen_heap np206 fun H207 sH207 hp206 => ?_⟩
      have h209 := (sH207 _ _ ho202)
      have h210 := (sH207 _ _ hm204)
      refine ⟨o202, p206, m204, _, [], _, _, _, rfl, h209, (SqL.of hp206), h210, Tris.nil, (by decide), (by decide), fun H208 sH208 => ?_⟩
      refine ⟨_, _, rfl, rfl, ?_⟩
      rw [show decide ((showsV [] ([] : List Tri) true 0) = true) = true from isb (c := true) (by decide +kernel) rfl]
      exact q _
end
end K03
namespace K03
open PySem PySem.Spec PyProof.Rows L2 RE
theorem all_mk {l : PySem.W.OpenLaw} {w : World} {K : PySem.W.Frag} {h : Heap} {mg : Str → Option Value} {fa : Addr} (X : K.In h) (G : h.Ns mainGlobals mg) (hfa : mg "law" = some (.ref fa))
    {f_is_whole f_check_row f_is_side f_worth_of f_after f_best_of f_table_of f_got f_planned f_plan_of f_judged f__law_number f__law_says f__law_row f__law_worths f__law_got f__law_shows f__law_all f_law f_Gets_init f_Gets_shows f_Held_init f_Held_shows C_EndError C_BadRow C_BadNumber C_Answer C_Gets C_Held : Addr} {od_is_whole an_is_whole od_check_row an_check_row od_is_side an_is_side od_worth_of an_worth_of od_after an_after od_best_of an_best_of od_table_of an_table_of od_got an_got od_planned an_planned od_plan_of an_plan_of od_judged an_judged od__law_number an__law_number od__law_says an__law_says od__law_row an__law_row od__law_worths an__law_worths od__law_got an__law_got od__law_shows an__law_shows od__law_all an__law_all od_law an_law od_Gets_init an_Gets_init od_Gets_shows an_Gets_shows od_Held_init an_Held_init od_Held_shows an_Held_shows : Option Addr} {sl_is_whole sl_check_row sl_is_side sl_worth_of sl_after sl_best_of sl_table_of sl_got sl_planned sl_plan_of sl_judged sl__law_number sl__law_says sl__law_row sl__law_worths sl__law_got sl__law_shows sl__law_all sl_law sl_Gets_init sl_Gets_shows sl_Held_init sl_Held_shows : Array (Option Value)} {oc_is_whole kV_is_whole dc_is_whole pm_is_whole cd_is_whole ct_is_whole oc_check_row kV_check_row dc_check_row pm_check_row cd_check_row ct_check_row oc_is_side kV_is_side dc_is_side pm_is_side cd_is_side ct_is_side oc_worth_of kV_worth_of dc_worth_of pm_worth_of cd_worth_of ct_worth_of oc_after kV_after dc_after pm_after cd_after ct_after oc_best_of kV_best_of dc_best_of pm_best_of cd_best_of ct_best_of oc_table_of kV_table_of dc_table_of pm_table_of cd_table_of ct_table_of oc_got kV_got dc_got pm_got cd_got ct_got oc_planned kV_planned dc_planned pm_planned cd_planned ct_planned oc_plan_of kV_plan_of dc_plan_of pm_plan_of cd_plan_of ct_plan_of oc_judged kV_judged dc_judged pm_judged cd_judged ct_judged oc__law_number kV__law_number dc__law_number pm__law_number cd__law_number ct__law_number oc__law_says kV__law_says dc__law_says pm__law_says cd__law_says ct__law_says oc__law_row kV__law_row dc__law_row pm__law_row cd__law_row ct__law_row oc__law_worths kV__law_worths dc__law_worths pm__law_worths cd__law_worths ct__law_worths oc__law_got kV__law_got dc__law_got pm__law_got cd__law_got ct__law_got oc__law_shows kV__law_shows dc__law_shows pm__law_shows cd__law_shows ct__law_shows oc__law_all kV__law_all dc__law_all pm__law_all cd__law_all ct__law_all oc_law kV_law dc_law pm_law cd_law ct_law oc_Gets_init kV_Gets_init dc_Gets_init pm_Gets_init cd_Gets_init ct_Gets_init oc_Gets_shows kV_Gets_shows dc_Gets_shows pm_Gets_shows cd_Gets_shows ct_Gets_shows oc_Held_init kV_Held_init dc_Held_init pm_Held_init cd_Held_init ct_Held_init oc_Held_shows kV_Held_shows dc_Held_shows pm_Held_shows cd_Held_shows ct_Held_shows : Value} {t_MOST t_GREATEST t_LEFT t_RIGHT : Tok}
    (n_EndError : PySem.W.nsIn K mainGlobals "EndError" = some (some (.ref C_EndError)))
    (n_BadRow : PySem.W.nsIn K mainGlobals "BadRow" = some (some (.ref C_BadRow)))
    (n_BadNumber : PySem.W.nsIn K mainGlobals "BadNumber" = some (some (.ref C_BadNumber)))
    (n_Answer : PySem.W.nsIn K mainGlobals "Answer" = some (some (.ref C_Answer)))
    (n_Gets : PySem.W.nsIn K mainGlobals "Gets" = some (some (.ref C_Gets)))
    (n_Held : PySem.W.nsIn K mainGlobals "Held" = some (some (.ref C_Held)))
    (at_Gets_init : PySem.W.findIn K (.ref C_Gets) "__init__" = some (some (.ref f_Gets_init)))
    (at_Gets_shows : PySem.W.findIn K (.ref C_Gets) "shows" = some (some (.ref f_Gets_shows)))
    (at_Held_init : PySem.W.findIn K (.ref C_Held) "__init__" = some (some (.ref f_Held_init)))
    (at_Held_shows : PySem.W.findIn K (.ref C_Held) "shows" = some (some (.ref f_Held_shows)))
    (a_is_whole : PySem.W.nsIn K mainGlobals "is_whole" = some (some (.ref f_is_whole)))
    (l_is_whole : K.lookup f_is_whole = some ⟨oc_is_whole, od_is_whole, .func (PySem.W.fnOf "is_whole" "is_whole" (defArgs s_is_whole) (defBody s_is_whole) (defScope s_is_whole) .none kV_is_whole dc_is_whole pm_is_whole an_is_whole cd_is_whole ct_is_whole), sl_is_whole⟩)
    (c_is_whole : PySem.W.codeIn K cd_is_whole "is_whole" = true)
    (k_is_whole : PySem.W.keepIn K (.ref f_is_whole) = true)
    (a_check_row : PySem.W.nsIn K mainGlobals "check_row" = some (some (.ref f_check_row)))
    (l_check_row : K.lookup f_check_row = some ⟨oc_check_row, od_check_row, .func (PySem.W.fnOf "check_row" "check_row" (defArgs s_check_row) (defBody s_check_row) (defScope s_check_row) .none kV_check_row dc_check_row pm_check_row an_check_row cd_check_row ct_check_row), sl_check_row⟩)
    (c_check_row : PySem.W.codeIn K cd_check_row "check_row" = true)
    (k_check_row : PySem.W.keepIn K (.ref f_check_row) = true)
    (a_is_side : PySem.W.nsIn K mainGlobals "is_side" = some (some (.ref f_is_side)))
    (l_is_side : K.lookup f_is_side = some ⟨oc_is_side, od_is_side, .func (PySem.W.fnOf "is_side" "is_side" (defArgs s_is_side) (defBody s_is_side) (defScope s_is_side) .none kV_is_side dc_is_side pm_is_side an_is_side cd_is_side ct_is_side), sl_is_side⟩)
    (c_is_side : PySem.W.codeIn K cd_is_side "is_side" = true)
    (k_is_side : PySem.W.keepIn K (.ref f_is_side) = true)
    (a_worth_of : PySem.W.nsIn K mainGlobals "worth_of" = some (some (.ref f_worth_of)))
    (l_worth_of : K.lookup f_worth_of = some ⟨oc_worth_of, od_worth_of, .func (PySem.W.fnOf "worth_of" "worth_of" (defArgs s_worth_of) (defBody s_worth_of) (defScope s_worth_of) .none kV_worth_of dc_worth_of pm_worth_of an_worth_of cd_worth_of ct_worth_of), sl_worth_of⟩)
    (c_worth_of : PySem.W.codeIn K cd_worth_of "worth_of" = true)
    (k_worth_of : PySem.W.keepIn K (.ref f_worth_of) = true)
    (a_after : PySem.W.nsIn K mainGlobals "after" = some (some (.ref f_after)))
    (l_after : K.lookup f_after = some ⟨oc_after, od_after, .func (PySem.W.fnOf "after" "after" (defArgs s_after) (defBody s_after) (defScope s_after) .none kV_after dc_after pm_after an_after cd_after ct_after), sl_after⟩)
    (c_after : PySem.W.codeIn K cd_after "after" = true)
    (k_after : PySem.W.keepIn K (.ref f_after) = true)
    (a_best_of : PySem.W.nsIn K mainGlobals "best_of" = some (some (.ref f_best_of)))
    (l_best_of : K.lookup f_best_of = some ⟨oc_best_of, od_best_of, .func (PySem.W.fnOf "best_of" "best_of" (defArgs s_best_of) (defBody s_best_of) (defScope s_best_of) .none kV_best_of dc_best_of pm_best_of an_best_of cd_best_of ct_best_of), sl_best_of⟩)
    (c_best_of : PySem.W.codeIn K cd_best_of "best_of" = true)
    (k_best_of : PySem.W.keepIn K (.ref f_best_of) = true)
    (a_table_of : PySem.W.nsIn K mainGlobals "table_of" = some (some (.ref f_table_of)))
    (l_table_of : K.lookup f_table_of = some ⟨oc_table_of, od_table_of, .func (PySem.W.fnOf "table_of" "table_of" (defArgs s_table_of) (defBody s_table_of) (defScope s_table_of) .none kV_table_of dc_table_of pm_table_of an_table_of cd_table_of ct_table_of), sl_table_of⟩)
    (c_table_of : PySem.W.codeIn K cd_table_of "table_of" = true)
    (k_table_of : PySem.W.keepIn K (.ref f_table_of) = true)
    (a_got : PySem.W.nsIn K mainGlobals "got" = some (some (.ref f_got)))
    (l_got : K.lookup f_got = some ⟨oc_got, od_got, .func (PySem.W.fnOf "got" "got" (defArgs s_got) (defBody s_got) (defScope s_got) .none kV_got dc_got pm_got an_got cd_got ct_got), sl_got⟩)
    (c_got : PySem.W.codeIn K cd_got "got" = true)
    (k_got : PySem.W.keepIn K (.ref f_got) = true)
    (a_planned : PySem.W.nsIn K mainGlobals "planned" = some (some (.ref f_planned)))
    (l_planned : K.lookup f_planned = some ⟨oc_planned, od_planned, .func (PySem.W.fnOf "planned" "planned" (defArgs s_planned) (defBody s_planned) (defScope s_planned) .none kV_planned dc_planned pm_planned an_planned cd_planned ct_planned), sl_planned⟩)
    (c_planned : PySem.W.codeIn K cd_planned "planned" = true)
    (k_planned : PySem.W.keepIn K (.ref f_planned) = true)
    (a_plan_of : PySem.W.nsIn K mainGlobals "plan_of" = some (some (.ref f_plan_of)))
    (l_plan_of : K.lookup f_plan_of = some ⟨oc_plan_of, od_plan_of, .func (PySem.W.fnOf "plan_of" "plan_of" (defArgs s_plan_of) (defBody s_plan_of) (defScope s_plan_of) .none kV_plan_of dc_plan_of pm_plan_of an_plan_of cd_plan_of ct_plan_of), sl_plan_of⟩)
    (c_plan_of : PySem.W.codeIn K cd_plan_of "plan_of" = true)
    (k_plan_of : PySem.W.keepIn K (.ref f_plan_of) = true)
    (a_judged : PySem.W.nsIn K mainGlobals "judged" = some (some (.ref f_judged)))
    (l_judged : K.lookup f_judged = some ⟨oc_judged, od_judged, .func (PySem.W.fnOf "judged" "judged" (defArgs s_judged) (defBody s_judged) (defScope s_judged) .none kV_judged dc_judged pm_judged an_judged cd_judged ct_judged), sl_judged⟩)
    (c_judged : PySem.W.codeIn K cd_judged "judged" = true)
    (k_judged : PySem.W.keepIn K (.ref f_judged) = true)
    (a__law_number : PySem.W.nsIn K mainGlobals "_law_number" = some (some (.ref f__law_number)))
    (l__law_number : K.lookup f__law_number = some ⟨oc__law_number, od__law_number, .func (PySem.W.fnOf "_law_number" "_law_number" (defArgs s__law_number) (defBody s__law_number) (defScope s__law_number) .none kV__law_number dc__law_number pm__law_number an__law_number cd__law_number ct__law_number), sl__law_number⟩)
    (c__law_number : PySem.W.codeIn K cd__law_number "_law_number" = true)
    (k__law_number : PySem.W.keepIn K (.ref f__law_number) = true)
    (a__law_says : PySem.W.nsIn K mainGlobals "_law_says" = some (some (.ref f__law_says)))
    (l__law_says : K.lookup f__law_says = some ⟨oc__law_says, od__law_says, .func (PySem.W.fnOf "_law_says" "_law_says" (defArgs s__law_says) (defBody s__law_says) (defScope s__law_says) .none kV__law_says dc__law_says pm__law_says an__law_says cd__law_says ct__law_says), sl__law_says⟩)
    (c__law_says : PySem.W.codeIn K cd__law_says "_law_says" = true)
    (k__law_says : PySem.W.keepIn K (.ref f__law_says) = true)
    (a__law_row : PySem.W.nsIn K mainGlobals "_law_row" = some (some (.ref f__law_row)))
    (l__law_row : K.lookup f__law_row = some ⟨oc__law_row, od__law_row, .func (PySem.W.fnOf "_law_row" "_law_row" (defArgs s__law_row) (defBody s__law_row) (defScope s__law_row) .none kV__law_row dc__law_row pm__law_row an__law_row cd__law_row ct__law_row), sl__law_row⟩)
    (c__law_row : PySem.W.codeIn K cd__law_row "_law_row" = true)
    (k__law_row : PySem.W.keepIn K (.ref f__law_row) = true)
    (a__law_worths : PySem.W.nsIn K mainGlobals "_law_worths" = some (some (.ref f__law_worths)))
    (l__law_worths : K.lookup f__law_worths = some ⟨oc__law_worths, od__law_worths, .func (PySem.W.fnOf "_law_worths" "_law_worths" (defArgs s__law_worths) (defBody s__law_worths) (defScope s__law_worths) .none kV__law_worths dc__law_worths pm__law_worths an__law_worths cd__law_worths ct__law_worths), sl__law_worths⟩)
    (c__law_worths : PySem.W.codeIn K cd__law_worths "_law_worths" = true)
    (k__law_worths : PySem.W.keepIn K (.ref f__law_worths) = true)
    (a__law_got : PySem.W.nsIn K mainGlobals "_law_got" = some (some (.ref f__law_got)))
    (l__law_got : K.lookup f__law_got = some ⟨oc__law_got, od__law_got, .func (PySem.W.fnOf "_law_got" "_law_got" (defArgs s__law_got) (defBody s__law_got) (defScope s__law_got) .none kV__law_got dc__law_got pm__law_got an__law_got cd__law_got ct__law_got), sl__law_got⟩)
    (c__law_got : PySem.W.codeIn K cd__law_got "_law_got" = true)
    (k__law_got : PySem.W.keepIn K (.ref f__law_got) = true)
    (a__law_shows : PySem.W.nsIn K mainGlobals "_law_shows" = some (some (.ref f__law_shows)))
    (l__law_shows : K.lookup f__law_shows = some ⟨oc__law_shows, od__law_shows, .func (PySem.W.fnOf "_law_shows" "_law_shows" (defArgs s__law_shows) (defBody s__law_shows) (defScope s__law_shows) .none kV__law_shows dc__law_shows pm__law_shows an__law_shows cd__law_shows ct__law_shows), sl__law_shows⟩)
    (c__law_shows : PySem.W.codeIn K cd__law_shows "_law_shows" = true)
    (k__law_shows : PySem.W.keepIn K (.ref f__law_shows) = true)
    (a__law_all : PySem.W.nsIn K mainGlobals "_law_all" = some (some (.ref f__law_all)))
    (l__law_all : K.lookup f__law_all = some ⟨oc__law_all, od__law_all, .func (PySem.W.fnOf "_law_all" "_law_all" (defArgs s__law_all) (defBody s__law_all) (defScope s__law_all) .none kV__law_all dc__law_all pm__law_all an__law_all cd__law_all ct__law_all), sl__law_all⟩)
    (c__law_all : PySem.W.codeIn K cd__law_all "_law_all" = true)
    (k__law_all : PySem.W.keepIn K (.ref f__law_all) = true)
    (a_law : PySem.W.nsIn K mainGlobals "law" = some (some (.ref f_law)))
    (l_law : K.lookup f_law = some ⟨oc_law, od_law, .func (PySem.W.fnOf "law" "law" (defArgs s_law) (defBody s_law) (defScope s_law) .none kV_law dc_law pm_law an_law cd_law ct_law), sl_law⟩)
    (c_law : PySem.W.codeIn K cd_law "law" = true)
    (k_law : PySem.W.keepIn K (.ref f_law) = true)
    (l_Gets_init : K.lookup f_Gets_init = some ⟨oc_Gets_init, od_Gets_init, .func (PySem.W.fnOf "__init__" "Gets.__init__" (defArgs s_Gets_init) (defBody s_Gets_init) (defScope s_Gets_init) .none kV_Gets_init dc_Gets_init pm_Gets_init an_Gets_init cd_Gets_init ct_Gets_init), sl_Gets_init⟩)
    (c_Gets_init : PySem.W.codeIn K cd_Gets_init "Gets.__init__" = true)
    (k_Gets_init : PySem.W.keepIn K (.ref f_Gets_init) = true)
    (l_Gets_shows : K.lookup f_Gets_shows = some ⟨oc_Gets_shows, od_Gets_shows, .func (PySem.W.fnOf "shows" "Gets.shows" (defArgs s_Gets_shows) (defBody s_Gets_shows) (defScope s_Gets_shows) .none kV_Gets_shows dc_Gets_shows pm_Gets_shows an_Gets_shows cd_Gets_shows ct_Gets_shows), sl_Gets_shows⟩)
    (c_Gets_shows : PySem.W.codeIn K cd_Gets_shows "Gets.shows" = true)
    (k_Gets_shows : PySem.W.keepIn K (.ref f_Gets_shows) = true)
    (l_Held_init : K.lookup f_Held_init = some ⟨oc_Held_init, od_Held_init, .func (PySem.W.fnOf "__init__" "Held.__init__" (defArgs s_Held_init) (defBody s_Held_init) (defScope s_Held_init) .none kV_Held_init dc_Held_init pm_Held_init an_Held_init cd_Held_init ct_Held_init), sl_Held_init⟩)
    (c_Held_init : PySem.W.codeIn K cd_Held_init "Held.__init__" = true)
    (k_Held_init : PySem.W.keepIn K (.ref f_Held_init) = true)
    (l_Held_shows : K.lookup f_Held_shows = some ⟨oc_Held_shows, od_Held_shows, .func (PySem.W.fnOf "shows" "Held.shows" (defArgs s_Held_shows) (defBody s_Held_shows) (defScope s_Held_shows) .none kV_Held_shows dc_Held_shows pm_Held_shows an_Held_shows cd_Held_shows ct_Held_shows), sl_Held_shows⟩)
    (c_Held_shows : PySem.W.codeIn K cd_Held_shows "Held.shows" = true)
    (k_Held_shows : PySem.W.keepIn K (.ref f_Held_shows) = true)
    (q_MOST : PySem.W.nsIn K mainGlobals "MOST" = some (some (.int 12 t_MOST)))
    (q_GREATEST : PySem.W.nsIn K mainGlobals "GREATEST" = some (some (.int 1000000 t_GREATEST)))
    (q_LEFT : PySem.W.nsIn K mainGlobals "LEFT" = some (some (.str "left" t_LEFT)))
    (q_RIGHT : PySem.W.nsIn K mainGlobals "RIGHT" = some (some (.str "right" t_RIGHT)))
    (z_all : PySem.W.nsIn K mainGlobals "all" = some none)
    (z_bool : PySem.W.nsIn K mainGlobals "bool" = some none)
    (z_int : PySem.W.nsIn K mainGlobals "int" = some none)
    (z_isinstance : PySem.W.nsIn K mainGlobals "isinstance" = some none)
    (z_len : PySem.W.nsIn K mainGlobals "len" = some none)
    (z_list : PySem.W.nsIn K mainGlobals "list" = some none)
    (z_max : PySem.W.nsIn K mainGlobals "max" = some none)
    (z_min : PySem.W.nsIn K mainGlobals "min" = some none)
    (z_range : PySem.W.nsIn K mainGlobals "range" = some none)
    (z_str : PySem.W.nsIn K mainGlobals "str" = some none)
    (z_sum : PySem.W.nsIn K mainGlobals "sum" = some none)
    (kc_EndError : PySem.W.keepIn K (.ref C_EndError) = true)
    (xc_EndError : PySem.W.excIn K C_EndError [.type "ValueError", .type "Exception", .type "BaseException", .type "object"] "ValueError.__new__" = true)
    (Bc_EndError : PySem.W.subIn K (.ref C_EndError) (.type "BaseException") = some true)
    (tc_EndError : PySem.W.typeIn K (.ref C_EndError) = some (.type "type"))
    (kc_BadRow : PySem.W.keepIn K (.ref C_BadRow) = true)
    (xc_BadRow : PySem.W.excIn K C_BadRow [.type "ValueError", .type "Exception", .type "BaseException", .type "object"] "ValueError.__new__" = true)
    (Bc_BadRow : PySem.W.subIn K (.ref C_BadRow) (.type "BaseException") = some true)
    (tc_BadRow : PySem.W.typeIn K (.ref C_BadRow) = some (.type "type"))
    (kc_BadNumber : PySem.W.keepIn K (.ref C_BadNumber) = true)
    (xc_BadNumber : PySem.W.excIn K C_BadNumber [.type "ValueError", .type "Exception", .type "BaseException", .type "object"] "ValueError.__new__" = true)
    (Bc_BadNumber : PySem.W.subIn K (.ref C_BadNumber) (.type "BaseException") = some true)
    (tc_BadNumber : PySem.W.typeIn K (.ref C_BadNumber) = some (.type "type"))
    (pg_Gets : PySem.W.plainGet K C_Gets Str.empty = true)
    (hd_Gets : PySem.W.hasDictIn K C_Gets = true)
    (po_Gets : PySem.W.plainOver K C_Gets = true)
    (sa_Gets : PySem.W.findIn K (.ref C_Gets) "__setattr__" = some (some (.builtin "object.__setattr__")))
    (mkc_Gets : PySem.W.makesIn K C_Gets = true)
    (kc_Gets : PySem.W.keepIn K (.ref C_Gets) = true)
    (np_Gets : PySem.W.findIn K (.ref C_Gets) "plan" = some none)
    (ha_Gets : PySem.W.findIn K (.ref C_Gets) "__class__" = some (some (.builtin "object.__class__")))
    (hm_Gets : PySem.W.mroIn K C_Gets (.type "object") = some true)
    (hn_Gets : PySem.W.specialIn K (.builtin "object.__class__") "__get__" = some (some (.builtin "getset_descriptor.__get__")))
    (ht_Gets : PySem.W.takesIn K (.builtin "object.__class__") = some true)
    (kit_Gets_Answer : PySem.W.kitOne K (.ref C_Gets) (.ref C_Answer) = some true)
    (kit_Gets_Gets : PySem.W.kitOne K (.ref C_Gets) (.ref C_Gets) = some true)
    (kit_Gets_Held : PySem.W.kitOne K (.ref C_Gets) (.ref C_Held) = some false)
    (fn_Gets_init : PySem.W.isFn K (.ref f_Gets_init) = true)
    (fn_Gets_shows : PySem.W.isFn K (.ref f_Gets_shows) = true)
    (pg_Held : PySem.W.plainGet K C_Held Str.empty = true)
    (hd_Held : PySem.W.hasDictIn K C_Held = true)
    (po_Held : PySem.W.plainOver K C_Held = true)
    (sa_Held : PySem.W.findIn K (.ref C_Held) "__setattr__" = some (some (.builtin "object.__setattr__")))
    (mkc_Held : PySem.W.makesIn K C_Held = true)
    (kc_Held : PySem.W.keepIn K (.ref C_Held) = true)
    (np_Held : PySem.W.findIn K (.ref C_Held) "plan" = some none)
    (ha_Held : PySem.W.findIn K (.ref C_Held) "__class__" = some (some (.builtin "object.__class__")))
    (hm_Held : PySem.W.mroIn K C_Held (.type "object") = some true)
    (hn_Held : PySem.W.specialIn K (.builtin "object.__class__") "__get__" = some (some (.builtin "getset_descriptor.__get__")))
    (ht_Held : PySem.W.takesIn K (.builtin "object.__class__") = some true)
    (kit_Held_Answer : PySem.W.kitOne K (.ref C_Held) (.ref C_Answer) = some true)
    (kit_Held_Gets : PySem.W.kitOne K (.ref C_Held) (.ref C_Gets) = some false)
    (kit_Held_Held : PySem.W.kitOne K (.ref C_Held) (.ref C_Held) = some true)
    (fn_Held_init : PySem.W.isFn K (.ref f_Held_init) = true)
    (fn_Held_shows : PySem.W.isFn K (.ref f_Held_shows) = true)
    : ∃ fd : FuncData, (∀ (s : Shared) (v : Value), BindsTo s fd ⟨[v], []⟩ [("_law_script", v)]) ∧ ∀ base : Heap, K.In base → base.Ns mainGlobals mg → FnOk l.prog w K mg base CX0 17 fa fd ["_law_script"] (spLaw K) := by
  have e := hfa.symm.trans (PySem.W.mg_of X G a_law)
  have e2 : f_law = fa := by
    have e3 := Option.some.inj e
    injection e3 with e4
    exact e4.symm
  subst e2
  have F_is_whole := fun_mk (st := s_is_whole) l_is_whole c_is_whole k_is_whole
  have b_is_whole := F_is_whole.binds (ps := ["thing"]) fun _ _ _ _ _ _ us hl => match us, hl with | [_], _ => rfl
  have F_check_row := fun_mk (st := s_check_row) l_check_row c_check_row k_check_row
  have b_check_row := F_check_row.binds (ps := ["row"]) fun _ _ _ _ _ _ us hl => match us, hl with | [_], _ => rfl
  have F_is_side := fun_mk (st := s_is_side) l_is_side c_is_side k_is_side
  have b_is_side := F_is_side.binds (ps := ["thing"]) fun _ _ _ _ _ _ us hl => match us, hl with | [_], _ => rfl
  have F_worth_of := fun_mk (st := s_worth_of) l_worth_of c_worth_of k_worth_of
  have b_worth_of := F_worth_of.binds (ps := ["row", "low", "behind", "known"]) fun _ _ _ _ _ _ us hl => match us, hl with | [_, _, _, _], _ => rfl
  have F_after := fun_mk (st := s_after) l_after c_after k_after
  have b_after := F_after.binds (ps := ["row", "low", "behind", "side"]) fun _ _ _ _ _ _ us hl => match us, hl with | [_, _, _, _], _ => rfl
  have F_best_of := fun_mk (st := s_best_of) l_best_of c_best_of k_best_of
  have b_best_of := F_best_of.binds (ps := ["row", "low", "behind", "known"]) fun _ _ _ _ _ _ us hl => match us, hl with | [_, _, _, _], _ => rfl
  have F_table_of := fun_mk (st := s_table_of) l_table_of c_table_of k_table_of
  have b_table_of := F_table_of.binds (ps := ["row", "plan"]) fun _ _ _ _ _ _ us hl => match us, hl with | [_, _], _ => rfl
  have F_got := fun_mk (st := s_got) l_got c_got k_got
  have b_got := F_got.binds (ps := ["row", "low", "behind", "table", "mine"]) fun _ _ _ _ _ _ us hl => match us, hl with | [_, _, _, _, _], _ => rfl
  have F_planned := fun_mk (st := s_planned) l_planned c_planned k_planned
  have b_planned := F_planned.binds (ps := ["row", "plan", "mine"]) fun _ _ _ _ _ _ us hl => match us, hl with | [_, _, _], _ => rfl
  have F_plan_of := fun_mk (st := s_plan_of) l_plan_of c_plan_of k_plan_of
  have b_plan_of := F_plan_of.binds (ps := ["row", "first"]) fun _ _ _ _ _ _ us hl => match us, hl with | [_, _], _ => rfl
  have F_judged := fun_mk (st := s_judged) l_judged c_judged k_judged
  have b_judged := F_judged.binds (ps := ["row", "least"]) fun _ _ _ _ _ _ us hl => match us, hl with | [_, _], _ => rfl
  have F__law_number := fun_mk (st := s__law_number) l__law_number c__law_number k__law_number
  have b__law_number := F__law_number.binds (ps := ["_law_cell", "_law_at", "_law_whole"]) fun _ _ _ _ _ _ us hl => match us, hl with | [_, _, _], _ => rfl
  have F__law_says := fun_mk (st := s__law_says) l__law_says c__law_says k__law_says
  have b__law_says := F__law_says.binds (ps := ["_law_said", "_law_due"]) fun _ _ _ _ _ _ us hl => match us, hl with | [_, _], _ => rfl
  have F__law_row := fun_mk (st := s__law_row) l__law_row c__law_row k__law_row
  have b__law_row := F__law_row.binds (ps := ["_law_script", "_law_by", "_law_most"]) fun _ _ _ _ _ _ us hl => match us, hl with | [_, _, _], _ => rfl
  have F__law_worths := fun_mk (st := s__law_worths) l__law_worths c__law_worths k__law_worths
  have b__law_worths := F__law_worths.binds (ps := ["_law_row_here"]) fun _ _ _ _ _ _ us hl => match us, hl with | [_], _ => rfl
  have F__law_got := fun_mk (st := s__law_got) l__law_got c__law_got k__law_got
  have b__law_got := F__law_got.binds (ps := ["_law_row_here", "_law_plan", "_law_mine"]) fun _ _ _ _ _ _ us hl => match us, hl with | [_, _, _], _ => rfl
  have F__law_shows := fun_mk (st := s__law_shows) l__law_shows c__law_shows k__law_shows
  have b__law_shows := F__law_shows.binds (ps := ["_law_row_here", "_law_least", "_law_plan", "_law_mine"]) fun _ _ _ _ _ _ us hl => match us, hl with | [_, _, _, _], _ => rfl
  have F__law_all := fun_mk (st := s__law_all) l__law_all c__law_all k__law_all
  have b__law_all := F__law_all.binds (ps := ["_law_row_here", "_law_side"]) fun _ _ _ _ _ _ us hl => match us, hl with | [_, _], _ => rfl
  have F_law := fun_mk (st := s_law) l_law c_law k_law
  have b_law := F_law.binds (ps := ["_law_script"]) fun _ _ _ _ _ _ us hl => match us, hl with | [_], _ => rfl
  have F_Gets_init := fun_mk (st := s_Gets_init) l_Gets_init c_Gets_init k_Gets_init
  have b_Gets_init := F_Gets_init.binds (ps := ["self", "plan"]) fun _ _ _ _ _ _ us hl => match us, hl with | [_, _], _ => rfl
  have F_Gets_shows := fun_mk (st := s_Gets_shows) l_Gets_shows c_Gets_shows k_Gets_shows
  have b_Gets_shows := F_Gets_shows.binds (ps := ["self", "row", "least"]) fun _ _ _ _ _ _ us hl => match us, hl with | [_, _, _], _ => rfl
  have F_Held_init := fun_mk (st := s_Held_init) l_Held_init c_Held_init k_Held_init
  have b_Held_init := F_Held_init.binds (ps := ["self", "plan"]) fun _ _ _ _ _ _ us hl => match us, hl with | [_, _], _ => rfl
  have F_Held_shows := fun_mk (st := s_Held_shows) l_Held_shows c_Held_shows k_Held_shows
  have b_Held_shows := F_Held_shows.binds (ps := ["self", "row", "least"]) fun _ _ _ _ _ _ us hl => match us, hl with | [_, _, _], _ => rfl
  have T : Tx K mg { f_is_whole := f_is_whole, d_is_whole := _, f_check_row := f_check_row, d_check_row := _, f_is_side := f_is_side, d_is_side := _, f_worth_of := f_worth_of, d_worth_of := _, f_after := f_after, d_after := _, f_best_of := f_best_of, d_best_of := _, f_table_of := f_table_of, d_table_of := _, f_got := f_got, d_got := _, f_planned := f_planned, d_planned := _, f_plan_of := f_plan_of, d_plan_of := _, f_judged := f_judged, d_judged := _, f__law_number := f__law_number, d__law_number := _, f__law_says := f__law_says, d__law_says := _, f__law_row := f__law_row, d__law_row := _, f__law_worths := f__law_worths, d__law_worths := _, f__law_got := f__law_got, d__law_got := _, f__law_shows := f__law_shows, d__law_shows := _, f__law_all := f__law_all, d__law_all := _, f_law := f_law, d_law := _, f_Gets_init := f_Gets_init, d_Gets_init := _, f_Gets_shows := f_Gets_shows, d_Gets_shows := _, f_Held_init := f_Held_init, d_Held_init := _, f_Held_shows := f_Held_shows, d_Held_shows := _, C_EndError := C_EndError, C_BadRow := C_BadRow, C_BadNumber := C_BadNumber, C_Answer := C_Answer, C_Gets := C_Gets, C_Held := C_Held, t_MOST := t_MOST, t_GREATEST := t_GREATEST, t_LEFT := t_LEFT, t_RIGHT := t_RIGHT } := {
    ball := PySem.W.mg_none_of X G z_all,
    bbool := PySem.W.mg_none_of X G z_bool,
    bint := PySem.W.mg_none_of X G z_int,
    bisinstance := PySem.W.mg_none_of X G z_isinstance,
    blen := PySem.W.mg_none_of X G z_len,
    blist := PySem.W.mg_none_of X G z_list,
    bmax := PySem.W.mg_none_of X G z_max,
    bmin := PySem.W.mg_none_of X G z_min,
    brange := PySem.W.mg_none_of X G z_range,
    bstr := PySem.W.mg_none_of X G z_str,
    bsum := PySem.W.mg_none_of X G z_sum,
    gMOST := PySem.W.mg_of X G q_MOST,
    gGREATEST := PySem.W.mg_of X G q_GREATEST,
    gLEFT := PySem.W.mg_of X G q_LEFT,
    gRIGHT := PySem.W.mg_of X G q_RIGHT,
    gis_whole := PySem.W.mg_of X G a_is_whole, Fis_whole := F_is_whole, bis_whole := b_is_whole,
    gcheck_row := PySem.W.mg_of X G a_check_row, Fcheck_row := F_check_row, bcheck_row := b_check_row,
    gis_side := PySem.W.mg_of X G a_is_side, Fis_side := F_is_side, bis_side := b_is_side,
    gworth_of := PySem.W.mg_of X G a_worth_of, Fworth_of := F_worth_of, bworth_of := b_worth_of,
    gafter := PySem.W.mg_of X G a_after, Fafter := F_after, bafter := b_after,
    gbest_of := PySem.W.mg_of X G a_best_of, Fbest_of := F_best_of, bbest_of := b_best_of,
    gtable_of := PySem.W.mg_of X G a_table_of, Ftable_of := F_table_of, btable_of := b_table_of,
    ggot := PySem.W.mg_of X G a_got, Fgot := F_got, bgot := b_got,
    gplanned := PySem.W.mg_of X G a_planned, Fplanned := F_planned, bplanned := b_planned,
    gplan_of := PySem.W.mg_of X G a_plan_of, Fplan_of := F_plan_of, bplan_of := b_plan_of,
    gjudged := PySem.W.mg_of X G a_judged, Fjudged := F_judged, bjudged := b_judged,
    g_law_number := PySem.W.mg_of X G a__law_number, F_law_number := F__law_number, b_law_number := b__law_number,
    g_law_says := PySem.W.mg_of X G a__law_says, F_law_says := F__law_says, b_law_says := b__law_says,
    g_law_row := PySem.W.mg_of X G a__law_row, F_law_row := F__law_row, b_law_row := b__law_row,
    g_law_worths := PySem.W.mg_of X G a__law_worths, F_law_worths := F__law_worths, b_law_worths := b__law_worths,
    g_law_got := PySem.W.mg_of X G a__law_got, F_law_got := F__law_got, b_law_got := b__law_got,
    g_law_shows := PySem.W.mg_of X G a__law_shows, F_law_shows := F__law_shows, b_law_shows := b__law_shows,
    g_law_all := PySem.W.mg_of X G a__law_all, F_law_all := F__law_all, b_law_all := b__law_all,
    glaw := PySem.W.mg_of X G a_law, Flaw := F_law, blaw := b_law,
    gEndError := PySem.W.mg_of X G n_EndError,
    kEndError := kc_EndError, xEndError := xc_EndError, BEndError := Bc_EndError, tEndError := tc_EndError,
    gBadRow := PySem.W.mg_of X G n_BadRow,
    kBadRow := kc_BadRow, xBadRow := xc_BadRow, BBadRow := Bc_BadRow, tBadRow := tc_BadRow,
    gBadNumber := PySem.W.mg_of X G n_BadNumber,
    kBadNumber := kc_BadNumber, xBadNumber := xc_BadNumber, BBadNumber := Bc_BadNumber, tBadNumber := tc_BadNumber,
    gAnswer := PySem.W.mg_of X G n_Answer,
    gGets := PySem.W.mg_of X G n_Gets,
    gHeld := PySem.W.mg_of X G n_Held,
    FGets_init := F_Gets_init, bGets_init := b_Gets_init,
    MGets := ⟨mkc_Gets, at_Gets_init, fn_Gets_init, kc_Gets⟩,
    FGets_shows := F_Gets_shows, bGets_shows := b_Gets_shows,
    mGets_shows := ⟨at_Gets_shows, fn_Gets_shows, k_Gets_shows⟩,
    FHeld_init := F_Held_init, bHeld_init := b_Held_init,
    MHeld := ⟨mkc_Held, at_Held_init, fn_Held_init, kc_Held⟩,
    FHeld_shows := F_Held_shows, bHeld_shows := b_Held_shows,
    mHeld_shows := ⟨at_Held_shows, fn_Held_shows, k_Held_shows⟩,
    clGets := ⟨pg_Gets, hd_Gets, po_Gets, sa_Gets⟩, npGets := np_Gets, tyGets := ⟨ha_Gets, hn_Gets, ht_Gets, hm_Gets⟩,
    kitGets_Answer := kit_Gets_Answer,
    kitGets_Gets := kit_Gets_Gets,
    kitGets_Held := kit_Gets_Held,
    clHeld := ⟨pg_Held, hd_Held, po_Held, sa_Held⟩, npHeld := np_Held, tyHeld := ⟨ha_Held, hn_Held, ht_Held, hm_Held⟩,
    kitHeld_Answer := kit_Held_Answer,
    kitHeld_Gets := kit_Held_Gets,
    kitHeld_Held := kit_Held_Held }
  exact ⟨_, fun s v => .of_eq rfl, fun base _ _ => ok_law T⟩
theorem bits_of {ns : List Int} (h : ∀ z ∈ ns, Builtin.Int.intBits z ≤ 1048576) : ∀ z ∈ ns, z.natAbs < 2 ^ 1048576 := fun z hz => lt_of_bits (h z hz)
end K03
open PySem PySem.W PyProof.Rows
set_option maxRecDepth 100000 in
set_option maxHeartbeats 0 in
theorem PySem.Challenge.cw_rowends_k03_plans_by_hand_holds : PySem.Challenge.rw_rowends_k03_plans_by_hand.Holds := by
  w_on; o_law; k_head; (case hw => w_witness2)
  k_fill
  refine L2.walk_ofB (l := PySem.Challenge.rw_rowends_k03_plans_by_hand) (n := 63) (k := 17) (x := "_law_script") (CX := fun _ => L2.CX0) (sp := fun w => RE.spLaw _) rfl (by decide) rfl ⟨rfl, by decide, by decide⟩ (fun w h Y => PySem.W.kIn_of Y) ?F (fun _ _ a ns hl hb _ hS => ⟨a, ns, rfl, hS, hl, K03.bits_of hb, fun _ => rfl⟩) (fun _ _ _ _ _ h => h)
  case F =>
    intro w mg fa h KX G hmg
    refine' K03.all_mk KX G hmg ?n_EndError ?n_BadRow ?n_BadNumber ?n_Answer ?n_Gets ?n_Held ?at_Gets_init ?at_Gets_shows ?at_Held_init ?at_Held_shows ?a_is_whole ?l_is_whole ?c_is_whole ?k_is_whole ?a_check_row ?l_check_row ?c_check_row ?k_check_row ?a_is_side ?l_is_side ?c_is_side ?k_is_side ?a_worth_of ?l_worth_of ?c_worth_of ?k_worth_of ?a_after ?l_after ?c_after ?k_after ?a_best_of ?l_best_of ?c_best_of ?k_best_of ?a_table_of ?l_table_of ?c_table_of ?k_table_of ?a_got ?l_got ?c_got ?k_got ?a_planned ?l_planned ?c_planned ?k_planned ?a_plan_of ?l_plan_of ?c_plan_of ?k_plan_of ?a_judged ?l_judged ?c_judged ?k_judged ?a__law_number ?l__law_number ?c__law_number ?k__law_number ?a__law_says ?l__law_says ?c__law_says ?k__law_says ?a__law_row ?l__law_row ?c__law_row ?k__law_row ?a__law_worths ?l__law_worths ?c__law_worths ?k__law_worths ?a__law_got ?l__law_got ?c__law_got ?k__law_got ?a__law_shows ?l__law_shows ?c__law_shows ?k__law_shows ?a__law_all ?l__law_all ?c__law_all ?k__law_all ?a_law ?l_law ?c_law ?k_law ?l_Gets_init ?c_Gets_init ?k_Gets_init ?l_Gets_shows ?c_Gets_shows ?k_Gets_shows ?l_Held_init ?c_Held_init ?k_Held_init ?l_Held_shows ?c_Held_shows ?k_Held_shows ?q_MOST ?q_GREATEST ?q_LEFT ?q_RIGHT ?z_all ?z_bool ?z_int ?z_isinstance ?z_len ?z_list ?z_max ?z_min ?z_range ?z_str ?z_sum ?kc_EndError ?xc_EndError ?Bc_EndError ?tc_EndError ?kc_BadRow ?xc_BadRow ?Bc_BadRow ?tc_BadRow ?kc_BadNumber ?xc_BadNumber ?Bc_BadNumber ?tc_BadNumber ?pg_Gets ?hd_Gets ?po_Gets ?sa_Gets ?mkc_Gets ?kc_Gets ?np_Gets ?ha_Gets ?hm_Gets ?hn_Gets ?ht_Gets ?kit_Gets_Answer ?kit_Gets_Gets ?kit_Gets_Held ?fn_Gets_init ?fn_Gets_shows ?pg_Held ?hd_Held ?po_Held ?sa_Held ?mkc_Held ?kc_Held ?np_Held ?ha_Held ?hm_Held ?hn_Held ?ht_Held ?kit_Held_Answer ?kit_Held_Gets ?kit_Held_Held ?fn_Held_init ?fn_Held_shows
    (case n_EndError => first | k_is | rfl)
    (case n_BadRow => first | k_is | rfl)
    (case n_BadNumber => first | k_is | rfl)
    (case n_Answer => first | k_is | rfl)
    (case n_Gets => first | k_is | rfl)
    (case n_Held => first | k_is | rfl)
    (case at_Gets_init => first | k_is | rfl)
    (case at_Gets_shows => first | k_is | rfl)
    (case at_Held_init => first | k_is | rfl)
    (case at_Held_shows => first | k_is | rfl)
    (case a_is_whole => first | k_is | rfl)
    (case l_is_whole => first | k_is | rfl)
    (case c_is_whole => first | k_is | rfl)
    (case k_is_whole => first | k_is | rfl)
    (case a_check_row => first | k_is | rfl)
    (case l_check_row => first | k_is | rfl)
    (case c_check_row => first | k_is | rfl)
    (case k_check_row => first | k_is | rfl)
    (case a_is_side => first | k_is | rfl)
    (case l_is_side => first | k_is | rfl)
    (case c_is_side => first | k_is | rfl)
    (case k_is_side => first | k_is | rfl)
    (case a_worth_of => first | k_is | rfl)
    (case l_worth_of => first | k_is | rfl)
    (case c_worth_of => first | k_is | rfl)
    (case k_worth_of => first | k_is | rfl)
    (case a_after => first | k_is | rfl)
    (case l_after => first | k_is | rfl)
    (case c_after => first | k_is | rfl)
    (case k_after => first | k_is | rfl)
    (case a_best_of => first | k_is | rfl)
    (case l_best_of => first | k_is | rfl)
    (case c_best_of => first | k_is | rfl)
    (case k_best_of => first | k_is | rfl)
    (case a_table_of => first | k_is | rfl)
    (case l_table_of => first | k_is | rfl)
    (case c_table_of => first | k_is | rfl)
    (case k_table_of => first | k_is | rfl)
    (case a_got => first | k_is | rfl)
    (case l_got => first | k_is | rfl)
    (case c_got => first | k_is | rfl)
    (case k_got => first | k_is | rfl)
    (case a_planned => first | k_is | rfl)
    (case l_planned => first | k_is | rfl)
    (case c_planned => first | k_is | rfl)
    (case k_planned => first | k_is | rfl)
    (case a_plan_of => first | k_is | rfl)
    (case l_plan_of => first | k_is | rfl)
    (case c_plan_of => first | k_is | rfl)
    (case k_plan_of => first | k_is | rfl)
    (case a_judged => first | k_is | rfl)
    (case l_judged => first | k_is | rfl)
    (case c_judged => first | k_is | rfl)
    (case k_judged => first | k_is | rfl)
    (case a__law_number => first | k_is | rfl)
    (case l__law_number => first | k_is | rfl)
    (case c__law_number => first | k_is | rfl)
    (case k__law_number => first | k_is | rfl)
    (case a__law_says => first | k_is | rfl)
    (case l__law_says => first | k_is | rfl)
    (case c__law_says => first | k_is | rfl)
    (case k__law_says => first | k_is | rfl)
    (case a__law_row => first | k_is | rfl)
    (case l__law_row => first | k_is | rfl)
    (case c__law_row => first | k_is | rfl)
    (case k__law_row => first | k_is | rfl)
    (case a__law_worths => first | k_is | rfl)
    (case l__law_worths => first | k_is | rfl)
    (case c__law_worths => first | k_is | rfl)
    (case k__law_worths => first | k_is | rfl)
    (case a__law_got => first | k_is | rfl)
    (case l__law_got => first | k_is | rfl)
    (case c__law_got => first | k_is | rfl)
    (case k__law_got => first | k_is | rfl)
    (case a__law_shows => first | k_is | rfl)
    (case l__law_shows => first | k_is | rfl)
    (case c__law_shows => first | k_is | rfl)
    (case k__law_shows => first | k_is | rfl)
    (case a__law_all => first | k_is | rfl)
    (case l__law_all => first | k_is | rfl)
    (case c__law_all => first | k_is | rfl)
    (case k__law_all => first | k_is | rfl)
    (case a_law => first | k_is | rfl)
    (case l_law => first | k_is | rfl)
    (case c_law => first | k_is | rfl)
    (case k_law => first | k_is | rfl)
    (case l_Gets_init => first | k_is | rfl)
    (case c_Gets_init => first | k_is | rfl)
    (case k_Gets_init => first | k_is | rfl)
    (case l_Gets_shows => first | k_is | rfl)
    (case c_Gets_shows => first | k_is | rfl)
    (case k_Gets_shows => first | k_is | rfl)
    (case l_Held_init => first | k_is | rfl)
    (case c_Held_init => first | k_is | rfl)
    (case k_Held_init => first | k_is | rfl)
    (case l_Held_shows => first | k_is | rfl)
    (case c_Held_shows => first | k_is | rfl)
    (case k_Held_shows => first | k_is | rfl)
    (case q_MOST => first | k_is | rfl)
    (case q_GREATEST => first | k_is | rfl)
    (case q_LEFT => first | k_is | rfl)
    (case q_RIGHT => first | k_is | rfl)
    (case z_all => first | k_is | rfl)
    (case z_bool => first | k_is | rfl)
    (case z_int => first | k_is | rfl)
    (case z_isinstance => first | k_is | rfl)
    (case z_len => first | k_is | rfl)
    (case z_list => first | k_is | rfl)
    (case z_max => first | k_is | rfl)
    (case z_min => first | k_is | rfl)
    (case z_range => first | k_is | rfl)
    (case z_str => first | k_is | rfl)
    (case z_sum => first | k_is | rfl)
    (case kc_EndError => first | k_is | rfl)
    (case xc_EndError => k_exc)
    (case Bc_EndError => first | k_is | rfl)
    (case tc_EndError => first | k_is | rfl)
    (case kc_BadRow => first | k_is | rfl)
    (case xc_BadRow => k_exc)
    (case Bc_BadRow => first | k_is | rfl)
    (case tc_BadRow => first | k_is | rfl)
    (case kc_BadNumber => first | k_is | rfl)
    (case xc_BadNumber => k_exc)
    (case Bc_BadNumber => first | k_is | rfl)
    (case tc_BadNumber => first | k_is | rfl)
    (case pg_Gets => first | k_is | rfl)
    (case hd_Gets => first | k_is | rfl)
    (case po_Gets => first | k_is | rfl)
    (case sa_Gets => first | k_is | rfl)
    (case mkc_Gets => first | k_is | rfl)
    (case kc_Gets => first | k_is | rfl)
    (case np_Gets => first | k_is | rfl)
    (case ha_Gets => first | k_is | rfl)
    (case hm_Gets => first | k_is | rfl)
    (case hn_Gets => first | k_is | rfl)
    (case ht_Gets => first | k_is | rfl)
    (case kit_Gets_Answer => first | k_is | rfl)
    (case kit_Gets_Gets => first | k_is | rfl)
    (case kit_Gets_Held => first | k_is | rfl)
    (case fn_Gets_init => first | k_is | rfl)
    (case fn_Gets_shows => first | k_is | rfl)
    (case pg_Held => first | k_is | rfl)
    (case hd_Held => first | k_is | rfl)
    (case po_Held => first | k_is | rfl)
    (case sa_Held => first | k_is | rfl)
    (case mkc_Held => first | k_is | rfl)
    (case kc_Held => first | k_is | rfl)
    (case np_Held => first | k_is | rfl)
    (case ha_Held => first | k_is | rfl)
    (case hm_Held => first | k_is | rfl)
    (case hn_Held => first | k_is | rfl)
    (case ht_Held => first | k_is | rfl)
    (case kit_Held_Answer => first | k_is | rfl)
    (case kit_Held_Gets => first | k_is | rfl)
    (case kit_Held_Held => first | k_is | rfl)
    (case fn_Held_init => first | k_is | rfl)
    (case fn_Held_shows => first | k_is | rfl)
