import PyProof.Rows.All
import Wide.All
import OpenK.AllK
import Wide.FinOn
import HandS.ForMost
import HandS.ForExc
import HandS.IsInst
import HandS.Style
import HandS.Flow
import HandS.TupLe
import HandS.TupLen
import HandS.EndBits
import HandS.HotCalls
import HandS.ExcCtx
import HandS.ExcIs
import HandS.Comp
import PySem.Challenge.RW_rowends_k05_refused
set_option Elab.async false
set_option linter.all false
set_option maxRecDepth 100000
set_option maxHeartbeats 4000000
/-! the mathematics of rows: plain Lean -/
namespace RE
/-- the worth of the stretch of n coins from low on -/
def wv (row : List Int) : Nat → Nat → Int
  | 0, _ => 0
  | n + 1, low => if row.getD (low + n) 0 - wv row n low > row.getD low 0 - wv row n (low + 1) then row.getD (low + n) 0 - wv row n low else row.getD low 0 - wv row n (low + 1)
theorem wv_zero (row : List Int) (low : Nat) : wv row 0 low = 0 := by unfold wv; rfl
theorem wv_succ (row : List Int) (n low : Nat) : wv row (n + 1) low = if row.getD (low + n) 0 - wv row n low > row.getD low 0 - wv row n (low + 1) then row.getD (low + n) 0 - wv row n low else row.getD low 0 - wv row n (low + 1) := by
  rw [wv]
theorem wv_ge1 (row : List Int) (n low : Nat) : row.getD low 0 - wv row n (low + 1) ≤ wv row (n + 1) low := by
  rw [wv_succ]
  split <;> omega
theorem wv_ge2 (row : List Int) (n low : Nat) : row.getD (low + n) 0 - wv row n low ≤ wv row (n + 1) low := by
  rw [wv_succ]
  split <;> omega
theorem wv_one_of (row : List Int) (n low : Nat) : wv row (n + 1) low = row.getD low 0 - wv row n (low + 1) ∨ wv row (n + 1) low = row.getD (low + n) 0 - wv row n low := by
  rw [wv_succ]
  split
  · exact .inr rfl
  · exact .inl rfl
/-- the sum of a stretch -/
def seg (row : List Int) : Nat → Nat → Int
  | 0, _ => 0
  | n + 1, low => row.getD low 0 + seg row n (low + 1)
theorem seg_succ (row : List Int) (n low : Nat) : seg row (n + 1) low = row.getD low 0 + seg row n (low + 1) := by rw [seg]
theorem seg_last (row : List Int) : ∀ (n low : Nat), seg row (n + 1) low = seg row n low + row.getD (low + n) 0
  | 0, low => by simp [seg]
  | n + 1, low => by
    rw [seg_succ, seg_last row n (low + 1), seg_succ]
    have e : low + 1 + n = low + (n + 1) := by omega
    rw [e]
    omega
theorem wv_parity (row : List Int) : ∀ (n low : Nat), (wv row n low - seg row n low) % 2 = 0
  | 0, low => by simp [wv, seg]
  | n + 1, low => by
    have h1 := wv_parity row n (low + 1)
    have h2 := wv_parity row n low
    have h3 := seg_succ row n low
    have h4 := seg_last row n low
    rcases wv_one_of row n low with h | h <;> omega
theorem seg_all : ∀ (row : List Int), seg row row.length 0 = row.sum := by
  have shift : ∀ (a : Int) (r : List Int) (n low : Nat), seg (a :: r) n (low + 1) = seg r n low := by
    intro a r n
    induction n with
    | zero => intro low; simp [seg]
    | succ n ih =>
      intro low
      rw [seg_succ, seg_succ, ih]
      simp
  intro row
  induction row with
  | nil => rfl
  | cons a r ih =>
    rw [List.length_cons, seg_succ, shift, ih, List.sum_cons]
    simp
/-- turned about -/
theorem getD_rev (row : List Int) (i : Nat) (h : i < row.length) : row.reverse.getD i 0 = row.getD (row.length - 1 - i) 0 := by
  rw [List.getD_eq_getElem?_getD, List.getD_eq_getElem?_getD, List.getElem?_reverse h]
theorem wv_rev (row : List Int) : ∀ (n low : Nat), low + n ≤ row.length → wv row.reverse n low = wv row n (row.length - low - n)
  | 0, low, _ => by simp [wv]
  | n + 1, low, h => by
    have h1 := wv_rev row n (low + 1) (by omega)
    have h2 := wv_rev row n low (by omega)
    have e1 : row.length - (low + 1) - n = row.length - low - (n + 1) := by omega
    have e2 : row.length - low - n = row.length - low - (n + 1) + 1 := by omega
    rw [e1] at h1
    rw [e2] at h2
    have g1 := getD_rev row low (by omega)
    have g2 := getD_rev row (low + n) (by omega)
    have e3 : row.length - 1 - low = row.length - low - (n + 1) + n := by omega
    have e4 : row.length - 1 - (low + n) = row.length - low - (n + 1) := by omega
    rw [e3] at g1
    rw [e4] at g2
    rw [wv_succ, wv_succ, h1, h2, g1, g2]
    generalize row.getD (row.length - low - (n + 1) + n) 0 = a
    generalize row.getD (row.length - low - (n + 1)) 0 = b
    generalize wv row n (row.length - low - (n + 1)) = c
    generalize wv row n (row.length - low - (n + 1) + 1) = d
    split <;> split <;> omega
theorem worth_rev (row : List Int) : wv row.reverse row.length 0 = wv row row.length 0 := by
  have h := wv_rev row row.length 0 (by omega)
  simpa using h
/-- the alternating sum of a stretch -/
def alt (row : List Int) : Nat → Nat → Int
  | 0, _ => 0
  | n + 1, low => row.getD low 0 - alt row n (low + 1)
theorem alt_succ (row : List Int) (n low : Nat) : alt row (n + 1) low = row.getD low 0 - alt row n (low + 1) := by rw [alt]
theorem alt_last (row : List Int) : ∀ (n low : Nat), alt row (n + 1) low = if n % 2 = 0 then alt row n low + row.getD (low + n) 0 else alt row n low - row.getD (low + n) 0
  | 0, low => by simp [alt]
  | n + 1, low => by
    have h := alt_last row n (low + 1)
    have e : low + 1 + n = low + (n + 1) := by omega
    rw [e] at h
    rw [alt_succ, h, alt_succ]
    by_cases c : n % 2 = 0
    · rw [if_pos c, if_neg (by omega)]
      omega
    · rw [if_neg c, if_pos (by omega)]
      omega
theorem wv_alt (row : List Int) : ∀ (n low : Nat), (n % 2 = 0 → alt row n low ≤ wv row n low ∧ - alt row n low ≤ wv row n low) ∧ (n % 2 = 1 → wv row n low ≤ alt row n low)
  | 0, low => by simp [wv, alt]
  | n + 1, low => by
    have h1 := wv_alt row n (low + 1)
    have h2 := wv_alt row n low
    have g1 := wv_ge1 row n low
    have g2 := wv_ge2 row n low
    have a1 := alt_succ row n low
    have a2 := alt_last row n low
    constructor
    · intro c
      rw [if_neg (by omega)] at a2
      have q1 := h1.2 (by omega)
      have q2 := h2.2 (by omega)
      omega
    · intro c
      rw [if_pos (by omega)] at a2
      have q1 := h1.1 (by omega)
      have q2 := h2.1 (by omega)
      rcases wv_one_of row n low with h | h <;> omega
/-- the coins of places 0, 2, 4 .. -/
def evens {α : Type} : List α → List α
  | [] => []
  | [a] => [a]
  | a :: _ :: r => a :: evens r
theorem evens_map {α β : Type} (f : α → β) : ∀ l : List α, evens (l.map f) = (evens l).map f
  | [] => rfl
  | [_] => rfl
  | a :: b :: r => by
    show f a :: evens (r.map f) = f a :: (evens r).map f
    rw [evens_map f r]
theorem evens_le {α : Type} : ∀ l : List α, (evens l).length ≤ l.length
  | [] => Nat.le_refl _
  | [_] => Nat.le_refl _
  | a :: b :: r => by
    have := evens_le r
    show (evens r).length + 1 ≤ r.length + 1 + 1
    omega
theorem alt_shift (a : Int) (r : List Int) : ∀ (n low : Nat), alt (a :: r) n (low + 1) = alt r n low
  | 0, low => by simp [alt]
  | n + 1, low => by
    rw [alt_succ, alt_succ, alt_shift a r n (low + 1)]
    simp
theorem alt_evens : ∀ row : List Int, alt row row.length 0 = (evens row).sum - (evens (row.drop 1)).sum
  | [] => rfl
  | [a] => by simp [alt, evens]
  | a :: b :: r => by
    have ih := alt_evens r
    have e1 : alt (a :: b :: r) (a :: b :: r).length 0 = a - (b - alt r r.length 0) := by
      show alt (a :: b :: r) (r.length + 1 + 1) 0 = _
      rw [alt_succ, alt_shift, alt_succ, alt_shift]
      simp
    rw [e1, ih]
    have e2 : evens (a :: b :: r) = a :: evens r := rfl
    have e3 : (a :: b :: r).drop 1 = b :: r := rfl
    rw [e2, e3]
    cases r with
    | nil => simp [evens]
    | cons c s =>
      have e4 : evens (b :: c :: s) = b :: evens s := rfl
      have e5 : (c :: s).drop 1 = s := rfl
      rw [e4, e5, List.sum_cons, List.sum_cons]
      omega
theorem sure_le (row : List Int) (h : row.length % 2 = 0) : (if (evens row).sum - (evens (row.drop 1)).sum < 0 then -((evens row).sum - (evens (row.drop 1)).sum) else (evens row).sum - (evens (row.drop 1)).sum) ≤ wv row row.length 0 := by
  have h1 := (wv_alt row row.length 0).1 h
  rw [alt_evens] at h1
  split <;> omega
theorem wv_bound (row : List Int) : ∀ (n low : Nat), (∀ i, 0 ≤ row.getD i 0 ∧ row.getD i 0 ≤ 1000000) → -(1000000 * (n : Int)) ≤ wv row n low ∧ wv row n low ≤ 1000000 * (n : Int)
  | 0, low, _ => by simp [wv]
  | n + 1, low, h => by
    have h1 := wv_bound row n (low + 1) h
    have h2 := wv_bound row n low h
    have h3 := h low
    have h4 := h (low + n)
    rcases wv_one_of row n low with e | e <;> omega
/-- the best ends of a stretch -/
def ends (row : List Int) : Nat → Nat → List Bool
  | 0, _ => []
  | n + 1, low => (if row.getD low 0 - wv row n (low + 1) = wv row (n + 1) low then [true] else []) ++ (if row.getD (low + n) 0 - wv row n low = wv row (n + 1) low then [false] else [])
theorem ends_succ (row : List Int) (n low : Nat) : ends row (n + 1) low = (if row.getD low 0 - wv row n (low + 1) = wv row (n + 1) low then [true] else []) ++ (if row.getD (low + n) 0 - wv row n low = wv row (n + 1) low then [false] else []) := by
  first
    | rfl
    | (rw [ends])
theorem ends_ne (row : List Int) (n low : Nat) : ends row (n + 1) low ≠ [] := by
  rw [ends_succ]
  rcases wv_one_of row n low with h | h
  · rw [if_pos h.symm]
    simp
  · rw [if_pos (c := row.getD (low + n) 0 - wv row n low = wv row (n + 1) low) h.symm]
    simp
end RE
/-! rules of our own over the layer -/
namespace RE
open PySem PySem.Spec PyProof.Rows L2
/-! ### great numbers -/
def CMulB (i j : Int) : Prop := ∃ a b : Nat, i.natAbs < 2 ^ a ∧ j.natAbs < 2 ^ b ∧ a + b ≤ 100000000
theorem bits_le {x : Int} {a : Nat} (h : x.natAbs < 2 ^ a) : Builtin.Int.intBits x ≤ a := by
  unfold Builtin.Int.intBits
  split
  · exact Nat.zero_le _
  · rename_i h0
    have hx : x.natAbs ≠ 0 := fun e => h0 (by
      have : x = 0 := Int.natAbs_eq_zero.mp e
      rw [this]
      rfl)
    exact (Nat.log2_lt hx).mpr h
theorem CMulB.ok {i j : Int} (h : CMulB i j) : IntMulOk i j := by
  obtain ⟨a, b, h1, h2, h3⟩ := h
  have e1 := bits_le h1
  have e2 := bits_le h2
  have e : bitsLine = 134217728 := by decide
  unfold IntMulOk
  intro z
  rw [Bool.and_eq_true] at z
  have z2 := z.2
  unfold Builtin.Int.intTooBig at z2
  have z3 := of_decide_eq_true z2
  rw [e] at z3
  omega
theorem lt_of_bits {x : Int} {a : Nat} (h : Builtin.Int.intBits x ≤ a) : x.natAbs < 2 ^ a := by
  unfold Builtin.Int.intBits at h
  by_cases h0 : x = 0
  · subst h0
    exact Nat.pow_pos (by decide)
  · have hb : ¬ ((x == 0) = true) := by simpa using h0
    rw [if_neg hb] at h
    have hx : x.natAbs ≠ 0 := fun e => h0 (Int.natAbs_eq_zero.mp e)
    have h1 : x.natAbs.log2 < a := by omega
    exact (Nat.log2_lt hx).mp h1
theorem pw_add {x y : Int} {a b : Nat} (h1 : x.natAbs < 2 ^ a) (h2 : y.natAbs < 2 ^ b) (h : b ≤ a) : (x + y).natAbs < 2 ^ (a + 1) := by
  have e : 2 ^ (a + 1) = 2 ^ a + 2 ^ a := by rw [Nat.pow_succ]; omega
  have l : 2 ^ b ≤ 2 ^ a := Nat.pow_le_pow_right (by decide) h
  have q := Int.natAbs_add_le x y
  omega
theorem pw_mul {x y : Int} {a b : Nat} (h1 : x.natAbs < 2 ^ a) (h2 : y.natAbs < 2 ^ b) : (x * y).natAbs < 2 ^ (a + b) := by
  rw [Int.natAbs_mul, Nat.pow_add]
  exact Nat.mul_lt_mul'' h1 h2
theorem pw_mono {x : Int} {a b : Nat} (h1 : x.natAbs < 2 ^ a) (h : a ≤ b) : x.natAbs < 2 ^ b := Nat.lt_of_lt_of_le h1 (Nat.pow_le_pow_right (by decide) h)
section
variable {X : Cx}
theorem op_mulB : OpR X (binaryOp .Mult) (rI CMulB fun i j => .int (i * j)) := opI fun _ _ _ _ _ _ _ hc q => mul_int q hc.ok
/-! ### xs[i] op= e -/
theorem get_list : PGet X (rIxL X.K) := by
  intro pins s σ H o i ov iv Q I ro ri h
  obtain ⟨p, xs, k, z, rfl, rfl, hq, he, q⟩ := h
  cases ro
  obtain ⟨t, rfl⟩ := ri
  obtain ⟨its, r, pl, hz⟩ := I.list hq
  obtain ⟨j, h1, h2, h3, h4, h5⟩ := atI_get he
  obtain ⟨w, ew, rw'⟩ := r.get h2
  have hl := r.length
  have hn := line63
  have fin : EP X pins σ Q w s := ⟨z, H, I, rw', q⟩
  by_cases h0 : 0 ≤ k
  · have hj : k.toNat = j := by
      rw [seqIndex_of h0 h5] at h1
      exact Option.some.inj h1
    exact wpAny_getItem_list pl.isList h0 (by omega) (by rw [hj]; simpa using ew) fin
  · have hj : (k + (its.toArray.size : Int)).toNat = j := by
      rw [seqIndex_neg (by omega) h4] at h1
      rw [List.size_toArray, ← hl]
      exact Option.some.inj h1
    exact wpAny_getItem_list_neg pl.isList (by omega) (by rw [List.size_toArray] <;> omega) (by omega) (by rw [hj]; simpa using ew) fin
/-! ### d[k] = e as one of several targets -/
def rSetD : V → V → V → Hp → (Hp → Prop) → Prop := fun o i v H Q => ∃ a H', o = .ref a ∧ DPut H a i v H' ∧ Q H'
theorem set_dT (hu : X.A.units + 1 < cLine) : PSet X rSetD := by
  intro pins s σ H o i v ov iv u Q I ro ri rv h
  obtain ⟨a, H', rfl, g, q⟩ := h
  cases ro
  exact d_setItem hu I g ri rv fun s' I' => ⟨H', I', q⟩
/-! ### xs[a::2] -/
theorem evens_pick {α : Type} : ∀ l : List α, ((List.range ((l.length + 1) / 2)).map (fun k => 2 * k)).filterMap (l[·]?) = evens l
  | [] => by simp [evens]
  | [a] => by
    have e : ([a].length + 1) / 2 = 1 := by
      show (0 + 1 + 1) / 2 = 1
      decide
    rw [e]
    simp [List.range_succ, evens]
  | a :: b :: r => by
    have ih := evens_pick r
    have e : ((a :: b :: r).length + 1) / 2 = (r.length + 1) / 2 + 1 := by
      rw [List.length_cons, List.length_cons]
      omega
    rw [e, List.range_succ_eq_map, List.map_cons, List.filterMap_cons]
    show a :: _ = a :: evens r
    rw [← ih, List.map_map, List.filterMap_map, List.filterMap_map]
    congr 1
theorem evens_from {α : Type} (xs : List α) (a : Nat) : ((List.range ((xs.length - a + 1) / 2)).map (fun k => a + 2 * k)).filterMap (xs[·]?) = evens (xs.drop a) := by
  rw [← evens_pick, List.length_drop, List.filterMap_map, List.filterMap_map]
  congr 1
  funext k
  simp [List.getElem?_drop]
theorem stepRange (a n : Nat) (h : a ≤ n) : sliceRange (a : Int) (n : Int) 2 = (List.range ((n - a + 1) / 2)).map (fun k => a + 2 * k) := by
  unfold sliceRange
  have e : (if (2 : Int) > 0 then (if (a : Int) < n then ((n : Int) - a + 2 - 1) / 2 else 0) else (if (a : Int) > n then ((a : Int) - n - 2 - 1) / (-2) else 0)).toNat = (n - a + 1) / 2 := by
    rw [if_pos (by decide)]
    by_cases c : (a : Int) < n
    · rw [if_pos c]
      omega
    · rw [if_neg c]
      omega
  show (List.range (if (2 : Int) > 0 then (if (a : Int) < n then ((n : Int) - a + 2 - 1) / 2 else 0) else (if (a : Int) > n then ((a : Int) - n - 2 - 1) / (-2) else 0)).toNat).map _ = _
  rw [e]
  refine List.map_congr_left fun k _ => ?_
  omega
def stepLo : Option Int → Nat
  | none => 0
  | some i => i.toNat
theorem step_pick (its : List Value) (lo : Option Int) (h : lo = none ∨ ∃ i, lo = some i ∧ 0 ≤ i) : slicePick its.toArray lo none (some 2) = (evens (its.drop (stepLo lo))).toArray := by
  have key : ∀ a : Nat, sliceBounds lo none (some 2) its.toArray.size = (((min a its.length : Nat) : Int), (its.length : Int), 2) → a = stepLo lo → slicePick its.toArray lo none (some 2) = (evens (its.drop (stepLo lo))).toArray := by
    intro a e ea
    unfold slicePick
    rw [e]
    show ((sliceRange ((min a its.length : Nat) : Int) (its.length : Int) 2).filterMap (its.toArray[·]?)).toArray = _
    rw [stepRange _ _ (Nat.min_le_right _ _)]
    have z : (fun k : Nat => its.toArray[k]?) = (fun k : Nat => its[k]?) := funext fun k => by simp
    rw [z, evens_from, ← ea]
    congr 1
    by_cases c : a ≤ its.length
    · rw [Nat.min_eq_left c]
    · rw [Nat.min_eq_right (by omega), List.drop_length, List.drop_eq_nil_of_le (by omega)]
  rcases h with rfl | ⟨i, rfl, hi⟩
  · exact key 0 (by simp [sliceBounds]) rfl
  · refine key i.toNat ?_ rfl
    have h1 : ¬ i < 0 := by omega
    simp only [sliceBounds, Option.getD_some, List.size_toArray, h1, if_false, show (2 : Int) > 0 by decide, if_true]
    congr 1
    omega
theorem Vals_evens : ∀ {xs : List V} {us : List Value}, Vals xs us → Vals (evens xs) (evens us)
  | _, _, .nil => .nil
  | _, _, .cons r .nil => .cons r .nil
  | _, _, .cons r (.cons _ t) => .cons r (Vals_evens t)
def tStepL (K : PySem.W.Frag) (te : TE) (tl : TO) : TE := fun σ H Q => te σ H fun x H1 => tl σ H1 fun lo H2 => (lo = none ∨ ∃ i, lo = some i ∧ 0 ≤ i) ∧ ∃ a xs, x = .ref a ∧ SqL K H2 a xs ∧ ∀ p, H2 p = none → Q (.ref p) (upd H2 p (.lst (evens (xs.drop (stepLo lo)))))
theorem pe_stepL {e : Expr} {lo : Option Expr} {te : TE} {tl : TO} {k : Nat} {p1 p3 pos : Pos} (he : PE X e te) (hl : PO X lo tl)
    (hsb : ∀ ov iv, subscripted (.Slice lo none (some (.Constant (.int 2) k p1)) p3) false ov iv = operate [ov, iv] (getItem ov iv) := by intro _ _; with_unfolding_all rfl) :
    PE X (.Subscript e (.Slice lo none (some (.Constant (.int 2) k p1)) p3) pos) (tStepL X.K te tl) := by
  refine ⟨fun pins s σ H Q I h => ?_⟩
  refine Subscript_ (thn (he.run pins s σ H _ I h) fun v s1 ⟨x, H1, I1, r1, q1⟩ => ?_)
  have hst : PO X (some (.Constant (.int 2) k p1)) (tPart (tC (.int 2))) := po_some pe_int
  refine wpAny_Slice (thn (hl.run pins s1 σ H1 _ I1 q1) fun vl s2 ⟨l, H2, I2, pl, q2⟩ => ?_)
  obtain ⟨hlo, a, xs, ex, hx, q⟩ := q2
  subst ex
  cases r1
  refine thn (po_none.run pins s2 σ H2 (fun o H3 => o = none ∧ H3 = H2) I2 ⟨rfl, rfl⟩) fun vu s3 ⟨u, H3, I3, pu, eu, e3⟩ => ?_
  subst eu e3
  refine thn (hst.run pins s3 σ H3 (fun o H4 => o = some 2 ∧ H4 = H3) I3 ⟨2, rfl, rfl, rfl⟩) fun vs s4 ⟨o, H4, I4, ps, eo, e4⟩ => ?_
  subst eo e4
  have I5 : Inv X pins σ H4 { s4 with heap := s4.heap.push { cls := .type "slice", data := .fields #[vl, vu, vs] } } := I4.kept (t' := s4.toks) fun b ob q => Heap.get?_push_of_some _ q
  obtain ⟨its, r, ht, hz⟩ := I5.list hx
  have hlen := r.length
  show wpAny (model X.prog X.w) X.A (subscriptTail e (.Slice lo none (some (.Constant (.int 2) k p1)) p3) (.ref a) (.ref s4.heap.objs.size)) (EP X pins σ Q) X.xe { s4 with heap := s4.heap.push { cls := .type "slice", data := .fields #[vl, vu, vs] } }
  refine tail_any (ops := [.ref a, .ref s4.heap.objs.size]) ht.isList.typeIs (PySem.slot_list_getitem.lookup) ?_ (hsb _ _)
  refine wpAny_getItem_list_slice ht.isList (Heap.IsSliceOf.new _ vl vu vs) pl pu ps (by decide) ?_ (by rw [List.size_toArray]; omega)
  rw [step_pick its l hlo]
  refine ⟨.ref _, _, I5.laid (t' := s4.toks) (o := .lst (evens (xs.drop (stepLo l)))) (fun b ob q => Heap.get?_push_of_some _ q) (Nat.le_refl _) ?_, rfl, q _ (I5.hok.fresh (Nat.le_refl _))⟩
  refine ⟨?_, _, 0, Vals_evens (r.drop (stepLo l)), Heap.get?_push_size _ rfl⟩
  have e1 := evens_le (xs.drop (stepLo l))
  rw [List.length_drop] at e1
  omega
/-! ### ways joined behind a statement -/
def tMid (t u : TS) : TS := fun D σ H => ∃ Mid : L2.St → Hp → Prop, t { D with nx := Mid } σ H ∧ ∀ σ' H', Mid σ' H' → u D σ' H'
theorem pss_mid {st : Stmt} {rest : List Stmt} {t u : TS} (h1 : PS X st t) (h2 : PSs X rest u) : PSs X (st :: rest) (tMid t u) := by
  refine ⟨fun pins s σ H D I h => ?_⟩
  obtain ⟨Mid, h, hm⟩ := h
  refine wpAny_execs_cons (thn (h1.run pins s σ H { D with nx := Mid } I h) fun f s1 q => ?_)
  cases f with
  | next =>
    obtain ⟨σ', H', I', q⟩ := q
    exact h2.run pins s1 σ' H' D I' (hm σ' H' q)
  | ret v => exact q
  | brk => exact q
  | cont => exact q
end
end RE
/-! heaps, known worths, kinds of values -/
namespace RE
open PySem PySem.Spec PyProof.Rows L2
theorem iteFb {b : Bool} {A B : Prop} (hb : b = false) (h : B) : if b = true then A else B := by
  subst hb
  exact iteF h
theorem iteTb {b : Bool} {A B : Prop} (hb : b = true) (h : A) : if b = true then A else B := by
  subst hb
  exact iteT h
theorem same_new {H : Hp} {p : Addr} (h : H p = none) (o : HO) : Same H (upd H p o) := fun b u q => by rw [upd_ne (ne_of_none q h)]; exact q
/-- all but the object at d is as it was -/
def SameBut (d : Addr) (H H' : Hp) : Prop := ∀ b o, b ≠ d → H b = some o → H' b = some o
theorem SameBut.refl (d : Addr) (H : Hp) : SameBut d H H := fun _ _ _ h => h
theorem SameBut.trans {d : Addr} {H H1 H2 : Hp} (a : SameBut d H H1) (b : SameBut d H1 H2) : SameBut d H H2 := fun c o n h => b c o n (a c o n h)
theorem SameBut.of {d : Addr} {H H' : Hp} (h : Same H H') : SameBut d H H' := fun b o _ e => h b o e
theorem SameBut.put {d : Addr} {H : Hp} (o : HO) : SameBut d H (upd H d o) := fun b u n e => by rw [upd_ne n]; exact e
theorem SameBut.free {d : Addr} {H H' : Hp} (s : SameBut d H H') (hd : H d = none) : Same H H' := fun b o e => s b o (ne_of_none e hd) e
theorem SameBut.seq {K : PySem.W.Frag} {d : Addr} {H H' : Hp} {a : Addr} {xs : List V} {kvs : List (List Key × V)} (e : SameBut d H H') (hd : H d = some (.dT kvs)) (h : SqL K H a xs) : SqL K H' a xs := by
  rcases h with (h | ⟨o, h⟩) | h
  · exact .inl (.inl (e _ _ (ne_of h hd (by intro z; cases z)) h))
  · exact .inl (.inr ⟨o, e _ _ (ne_of h hd (by intro z; cases z)) h⟩)
  · exact .inr h
theorem SameBut.seqL {K : PySem.W.Frag} {d : Addr} {H H' : Hp} {a : Addr} {xs : List V} (e : SameBut d H H') (hd : a ≠ d) (h : SqL K H a xs) : SqL K H' a xs := by
  rcases h with (h | ⟨o, h⟩) | h
  · exact .inl (.inl (e _ _ hd h))
  · exact .inl (.inr ⟨o, e _ _ hd h⟩)
  · exact .inr h
theorem size_le {n : Nat} (h : n ≤ 100000) : n ≤ sizeLine := Nat.le_trans h (by decide)
theorem size_lt {n : Nat} (h : n < 100000) : n < sizeLine := Nat.lt_of_lt_of_le h (by decide)
/-! ### kinds -/
def kinds : List String := ["NoneType", "bool", "int", "str", "list", "tuple", "dict"]
structure PV (K : PySem.W.Frag) (H : Hp) (x : V) (T : String) : Prop where
  ty : TyX K H x (.type T)
  mem : T ∈ kinds
theorem kinds_all {p : String → Prop} (h1 : p "NoneType") (h2 : p "bool") (h3 : p "int") (h4 : p "str") (h5 : p "list") (h6 : p "tuple") (h7 : p "dict") : ∀ T ∈ kinds, p T := by
  intro T h
  simp only [kinds, List.mem_cons, List.not_mem_nil, or_false] at h
  rcases h with rfl | rfl | rfl | rfl | rfl | rfl | rfl <;> assumption
theorem kit_int {K : PySem.W.Frag} {T : String} (m : T ∈ kinds) : PySem.W.kitOne K (.type T) (.type "int") = some (T == "int" || T == "bool") :=
  kinds_all (p := fun T => PySem.W.kitOne K (.type T) (.type "int") = some (T == "int" || T == "bool")) (kit_ty (by decide +kernel)) (kit_ty (by decide +kernel)) (kit_ty (by decide +kernel)) (kit_ty (by decide +kernel)) (kit_ty (by decide +kernel)) (kit_ty (by decide +kernel)) (kit_ty (by decide +kernel)) T m
theorem kit_bool {K : PySem.W.Frag} {T : String} (m : T ∈ kinds) : PySem.W.kitOne K (.type T) (.type "bool") = some (T == "bool") :=
  kinds_all (p := fun T => PySem.W.kitOne K (.type T) (.type "bool") = some (T == "bool")) (kit_ty (by decide +kernel)) (kit_ty (by decide +kernel)) (kit_ty (by decide +kernel)) (kit_ty (by decide +kernel)) (kit_ty (by decide +kernel)) (kit_ty (by decide +kernel)) (kit_ty (by decide +kernel)) T m
theorem kit_list {K : PySem.W.Frag} {T : String} (m : T ∈ kinds) : PySem.W.kitOne K (.type T) (.type "list") = some (T == "list") :=
  kinds_all (p := fun T => PySem.W.kitOne K (.type T) (.type "list") = some (T == "list")) (kit_ty (by decide +kernel)) (kit_ty (by decide +kernel)) (kit_ty (by decide +kernel)) (kit_ty (by decide +kernel)) (kit_ty (by decide +kernel)) (kit_ty (by decide +kernel)) (kit_ty (by decide +kernel)) T m
theorem kit_tuple {K : PySem.W.Frag} {T : String} (m : T ∈ kinds) : PySem.W.kitOne K (.type T) (.type "tuple") = some (T == "tuple") :=
  kinds_all (p := fun T => PySem.W.kitOne K (.type T) (.type "tuple") = some (T == "tuple")) (kit_ty (by decide +kernel)) (kit_ty (by decide +kernel)) (kit_ty (by decide +kernel)) (kit_ty (by decide +kernel)) (kit_ty (by decide +kernel)) (kit_ty (by decide +kernel)) (kit_ty (by decide +kernel)) T m
theorem kit_str {K : PySem.W.Frag} {T : String} (m : T ∈ kinds) : PySem.W.kitOne K (.type T) (.type "str") = some (T == "str") :=
  kinds_all (p := fun T => PySem.W.kitOne K (.type T) (.type "str") = some (T == "str")) (kit_ty (by decide +kernel)) (kit_ty (by decide +kernel)) (kit_ty (by decide +kernel)) (kit_ty (by decide +kernel)) (kit_ty (by decide +kernel)) (kit_ty (by decide +kernel)) (kit_ty (by decide +kernel)) T m
section
variable {K : PySem.W.Frag} {H H' : Hp}
theorem pv_non : PV K H .non "NoneType" := ⟨.base .non, by decide⟩
theorem pv_bl (b : Bool) : PV K H (.bl b) "bool" := ⟨.base (.bl b), by decide⟩
theorem pv_int (i : Int) : PV K H (.int i) "int" := ⟨.base (.int i), by decide⟩
theorem pv_str (x : Str) : PV K H (.str x) "str" := ⟨.base (.str x), by decide⟩
theorem pv_tup {a : Addr} {xs : List V} (e : H a = some (.tup xs)) : PV K H (.ref a) "tuple" := ⟨.base (.tup e), by decide⟩
theorem pv_dT {a : Addr} {kvs : List (List Key × V)} (e : H a = some (.dT kvs)) : PV K H (.ref a) "dict" := ⟨.base (.dT e), by decide⟩
theorem pv_dK {a : Addr} {kvs : List (Key × V)} (e : H a = some (.dK kvs)) : PV K H (.ref a) "dict" := ⟨.base (.dK e), by decide⟩
theorem pv_sq {a : Addr} {xs : List V} (h : SqL K H a xs) : PV K H (.ref a) "list" := by
  refine ⟨?_, by decide⟩
  rcases h with (h | ⟨o, h⟩) | ⟨o, its, n, h, hc, _⟩
  · exact .base (.lst h)
  · exact .base (.frz h)
  · exact .kList h hc
theorem tyx_mono {x : V} {t : Value} (s : Same H H') (h : TyX K H x t) : TyX K H' x t := by
  cases h with
  | base b =>
    cases b with
    | non => exact .base .non
    | bl y => exact .base (.bl y)
    | int i => exact .base (.int i)
    | str y => exact .base (.str y)
    | flt y => exact .base (.flt y)
    | lst e => exact .base (.lst (s _ _ e))
    | frz e => exact .base (.frz (s _ _ e))
    | tup e => exact .base (.tup (s _ _ e))
    | dK e => exact .base (.dK (s _ _ e))
    | dT e => exact .base (.dT (s _ _ e))
    | ins e cl ha hn htk hm => exact .base (.ins (s _ _ e) cl ha hn htk hm)
  | byt b => exact .byt b
  | set e => exact .set (s _ _ e)
  | kList e c => exact .kList e c
  | kTuple e c => exact .kTuple e c
  | kDict e c => exact .kDict e c
  | fTuple e => exact .fTuple (s _ _ e)
  | fDict e => exact .fDict (s _ _ e)
theorem PV.mono {x : V} {T : String} (s : Same H H') (h : PV K H x T) : PV K H' x T := ⟨tyx_mono s h.ty, h.mem⟩
theorem PV.int_of {x : V} {T : String} (h : PV K H x T) (e : T = "int") : ∃ i, x = .int i := by
  obtain ⟨ty, m⟩ := h
  subst e
  generalize ht : (Value.type "int") = t at ty
  cases ty with
  | base b => cases b <;> first | exact ⟨_, rfl⟩ | exact absurd (Value.type.inj ht) (by decide) | cases ht
  | byt b => exact absurd (Value.type.inj ht) (by decide)
  | set e => exact absurd (Value.type.inj ht) (by decide)
  | kList e c => exact absurd (Value.type.inj ht) (by decide)
  | kTuple e c => exact absurd (Value.type.inj ht) (by decide)
  | kDict e c => exact absurd (Value.type.inj ht) (by decide)
  | fTuple e => exact absurd (Value.type.inj ht) (by decide)
  | fDict e => exact absurd (Value.type.inj ht) (by decide)
theorem PV.str_of {x : V} {T : String} (h : PV K H x T) (e : T = "str") : ∃ i, x = .str i := by
  obtain ⟨ty, m⟩ := h
  subst e
  generalize ht : (Value.type "str") = t at ty
  cases ty with
  | base b => cases b <;> first | exact ⟨_, rfl⟩ | exact absurd (Value.type.inj ht) (by decide) | cases ht
  | byt b => exact absurd (Value.type.inj ht) (by decide)
  | set e => exact absurd (Value.type.inj ht) (by decide)
  | kList e c => exact absurd (Value.type.inj ht) (by decide)
  | kTuple e c => exact absurd (Value.type.inj ht) (by decide)
  | kDict e c => exact absurd (Value.type.inj ht) (by decide)
  | fTuple e => exact absurd (Value.type.inj ht) (by decide)
  | fDict e => exact absurd (Value.type.inj ht) (by decide)
theorem PV.of_int {i : Int} {T : String} (h : PV K H (.int i) T) : T = "int" := by
  obtain ⟨ty, m⟩ := h
  generalize ht : (Value.type T) = t at ty
  cases ty with
  | base b => cases b; exact Value.type.inj ht
theorem PV.of_str {i : Str} {T : String} (h : PV K H (.str i) T) : T = "str" := by
  obtain ⟨ty, m⟩ := h
  generalize ht : (Value.type T) = t at ty
  cases ty with
  | base b => cases b; exact Value.type.inj ht
end
/-! ### rows -/
def coinB : V → Bool
  | .int i => decide (0 ≤ i) && decide (i ≤ 1000000)
  | _ => false
def RowOk (ns : List Int) : Prop := ns.length ≤ 12 ∧ ∀ z ∈ ns, 0 ≤ z ∧ z ≤ 1000000
theorem RowOk.all {ns : List Int} (h : RowOk ns) : (ns.map V.int).all coinB = true := by
  rw [List.all_eq_true]
  intro x hx
  obtain ⟨z, hz, rfl⟩ := List.mem_map.mp hx
  have q := h.2 z hz
  simp [coinB, q.1, q.2]
theorem RowOk.rev {ns : List Int} (h : RowOk ns) : RowOk ns.reverse := ⟨by rw [List.length_reverse]; exact h.1, fun z hz => h.2 z (List.mem_reverse.mp hz)⟩
theorem RowOk.getD {ns : List Int} (h : RowOk ns) (i : Nat) : 0 ≤ ns.getD i 0 ∧ ns.getD i 0 ≤ 1000000 := by
  rw [List.getD_eq_getElem?_getD]
  cases e : ns[i]? with
  | none => simp
  | some z => exact h.2 z (List.mem_of_getElem? e)
theorem at_get {ns : List Int} {i : Int} {j : Nat} (e : i = (j : Int)) (h : j < ns.length) : atI (ns.map V.int) i = some (.int (ns.getD j 0)) := by
  subst e
  refine atI_nat ?_
  rw [List.getElem?_map, List.getElem?_eq_getElem h, List.getD_eq_getElem?_getD, List.getElem?_eq_getElem h]
  rfl
/-! ### the worths that are known -/
def keyOf (low n : Nat) : List Key := [Sum.inl (low : Int), Sum.inl ((low + n : Nat) : Int)]
theorem keyOf_inj {a b c d : Nat} (h : keyOf a b = keyOf c d) : a = c ∧ b = d := by
  have h1 : ((a : Int) = (c : Int)) := Sum.inl.inj (List.cons.inj h).1
  have h2 : (((a + b : Nat) : Int) = ((c + d : Nat) : Int)) := Sum.inl.inj (List.cons.inj (List.cons.inj h).2).1
  omega
structure Known (row : List Int) (kvs : List (List Key × V)) : Prop where
  val : ∀ p ∈ kvs, ∃ low n, low + n ≤ row.length ∧ p = (keyOf low n, V.int (wv row n low))
  nd : (kvs.map (·.1)).Nodup
theorem Known.nil (row : List Int) : Known row [] := ⟨fun _ h => (nomatch h), List.nodup_nil⟩
theorem valV_mem {kvs : List (List Key × V)} {k : List Key} {v : V} (h : valV kvs k = some v) : (k, v) ∈ kvs := by
  unfold valV at h
  obtain ⟨p, hp, rfl⟩ := Option.map_eq_some_iff.mp h
  have h1 := List.find?_some hp
  have h2 := List.mem_of_find?_eq_some hp
  have h3 : p.1 = k := of_decide_eq_true h1
  subst h3
  exact h2
theorem Known.get {row : List Int} {kvs : List (List Key × V)} (h : Known row kvs) {low n : Nat} {v : V} (e : valV kvs (keyOf low n) = some v) : v = .int (wv row n low) := by
  obtain ⟨a, b, _, q⟩ := h.val _ (valV_mem e)
  have q1 := congrArg Prod.fst q
  have q2 := congrArg Prod.snd q
  obtain ⟨rfl, rfl⟩ := keyOf_inj q1
  exact q2
theorem Known.put {row : List Int} {kvs : List (List Key × V)} (h : Known row kvs) {low n : Nat} (hl : low + n ≤ row.length) : Known row (putK kvs (keyOf low n) (.int (wv row n low))) := by
  unfold putK
  split
  · rename_i c
    refine ⟨fun p hp => ?_, ?_⟩
    · obtain ⟨q, hq, rfl⟩ := List.mem_map.mp hp
      obtain ⟨a, b, l, e⟩ := h.val q hq
      refine ⟨a, b, l, ?_⟩
      split
      · rename_i ek
        rw [e] at ek ⊢
        obtain ⟨rfl, rfl⟩ := keyOf_inj ek
        rfl
      · exact e
    · have e : (kvs.map fun kv => if kv.1 = keyOf low n then (kv.1, V.int (wv row n low)) else kv).map (·.1) = kvs.map (·.1) := by
        rw [List.map_map]
        refine List.map_congr_left fun q _ => ?_
        show (if q.1 = keyOf low n then (q.1, V.int (wv row n low)) else q).1 = q.1
        split <;> rfl
      rw [e]
      exact h.nd
  · rename_i c
    refine ⟨fun p hp => ?_, ?_⟩
    · rcases List.mem_append.mp hp with hp | hp
      · exact h.val p hp
      · rw [List.mem_singleton] at hp
        exact ⟨low, n, hl, hp⟩
    · rw [List.map_append, List.nodup_append]
      refine ⟨h.nd, by simp, fun x hx y hy => ?_⟩
      obtain ⟨q, hq, rfl⟩ := List.mem_map.mp hx
      have e : y = keyOf low n := by simpa using hy
      subst e
      intro z
      exact c (List.any_eq_true.mpr ⟨q, hq, decide_eq_true z⟩)
theorem nodup_le {α : Type} [DecidableEq α] : ∀ (l u : List α), l.Nodup → (∀ x ∈ l, x ∈ u) → l.length ≤ u.length
  | [], u, _, _ => Nat.zero_le _
  | a :: l, u, hn, hs => by
    have ha : a ∈ u := hs a List.mem_cons_self
    have hn' := List.nodup_cons.mp hn
    have ih := nodup_le l (u.erase a) hn'.2 fun x hx => by
      have hx' : x ∈ u := hs x (List.mem_cons_of_mem _ hx)
      have ne : x ≠ a := fun e => hn'.1 (e ▸ hx)
      exact (List.mem_erase_of_ne ne).mpr hx'
    rw [List.length_erase_of_mem ha] at ih
    have : 0 < u.length := List.length_pos_of_mem ha
    rw [List.length_cons]
    omega
theorem Known.len {row : List Int} {kvs : List (List Key × V)} (h : Known row kvs) (hr : row.length ≤ 12) : kvs.length ≤ 1000 := by
  have q := nodup_le (kvs.map (·.1)) ((List.range 13).flatMap fun a => (List.range 13).map fun b => keyOf a b) h.nd fun x hx => by
    obtain ⟨p, hp, rfl⟩ := List.mem_map.mp hx
    obtain ⟨a, b, l, e⟩ := h.val p hp
    rw [e]
    exact List.mem_flatMap.mpr ⟨a, List.mem_range.mpr (by omega), List.mem_map.mpr ⟨b, List.mem_range.mpr (by omega), rfl⟩⟩
  rw [List.length_map] at q
  have z : ((List.range 13).flatMap fun a => (List.range 13).map fun b => keyOf a b).length = 169 := by
    rw [List.length_flatMap]
    simp [List.range_succ]
  omega
def sideS : Bool → Str
  | true => "left"
  | false => "right"
end RE
/-! data in the heap, for == -/
namespace RE
open PySem PySem.Spec PyProof.Rows L2
def vD : V → PyData
  | .bl b => .bool b
  | .int i => .int i
  | .str s => .str s
  | _ => .none
def okF : V → Bool
  | .non => true
  | .bl _ => true
  | .int _ => true
  | .str s => PyData.strOk s
  | _ => false
/-- data of a bounded depth -/
structure Sh (d : PyData) (n : Nat) : Prop where
  can : d.canLay0 = true
  dep : d.depth ≤ n
structure ShA (ds : List PyData) (n : Nat) : Prop where
  can : PyData.canLayAll0 ds = true
  dep : PyData.depthAll ds ≤ n
theorem Sh.shaped {d : PyData} {n : Nat} (h : Sh d n) (hn : n ≤ 64) : SeqAt.shaped d = true := by
  unfold SeqAt.shaped
  rw [h.can, decide_eq_true (Nat.le_trans h.dep hn)]
  rfl
theorem ShA.nil (n : Nat) : ShA [] n := ⟨rfl, by simp [PyData.depthAll]⟩
theorem ShA.cons {d : PyData} {ds : List PyData} {n : Nat} (h : Sh d n) (t : ShA ds n) : ShA (d :: ds) n :=
  ⟨by simp only [PyData.canLayAll0, h.can, t.can, Bool.and_self], by have := h.dep; have := t.dep; simp only [PyData.depthAll]; omega⟩
theorem Sh.list {ds : List PyData} {n : Nat} (h : ShA ds n) : Sh (.list ds) (n + 1) := ⟨by simp only [PyData.canLay0]; exact h.can, by have := h.dep; simp only [PyData.depth]; omega⟩
theorem Sh.tuple {ds : List PyData} {n : Nat} (h : ShA ds n) : Sh (.tuple ds) (n + 1) := ⟨by simp only [PyData.canLay0]; exact h.can, by have := h.dep; simp only [PyData.depth]; omega⟩
theorem Sh.mono {d : PyData} {n m : Nat} (h : Sh d n) (l : n ≤ m) : Sh d m := ⟨h.can, Nat.le_trans h.dep l⟩
theorem sh_flat {x : V} (h : okF x = true) (n : Nat) : Sh (vD x) n := by
  cases x with
  | str s => exact ⟨by simp only [vD, PyData.canLay0]; exact h, by simp [vD, PyData.depth]⟩
  | non => exact ⟨by simp [vD, PyData.canLay0], by simp [vD, PyData.depth]⟩
  | bl b => exact ⟨by simp [vD, PyData.canLay0], by simp [vD, PyData.depth]⟩
  | int b => exact ⟨by simp [vD, PyData.canLay0], by simp [vD, PyData.depth]⟩
  | byt b => cases h
  | flt b => cases h
  | ref b => cases h
  | ty b => cases h
theorem sha_flat : ∀ {xs : List V}, xs.all okF = true → ∀ n, ShA (xs.map vD) n
  | [], _, n => .nil n
  | x :: xs, h, n => by
    have h' := Bool.and_eq_true_iff.mp (show (okF x && xs.all okF) = true from h)
    exact .cons (sh_flat h'.1 n) (sha_flat h'.2 n)
section
variable {K : PySem.W.Frag} {H H' : Hp}
theorem dp_flat {x : V} (h : okF x = true) : Dp K H x (vD x) := by
  cases x with
  | str s => exact .str s
  | non => exact .non
  | bl b => exact .bl b
  | int b => exact .int b
  | byt b => cases h
  | flt b => cases h
  | ref b => cases h
  | ty b => cases h
theorem dps_flat : ∀ {xs : List V}, xs.all okF = true → DpAll K H xs (xs.map vD)
  | [], _ => .nil
  | x :: xs, h => by
    have h' := Bool.and_eq_true_iff.mp (show (okF x && xs.all okF) = true from h)
    exact .cons (dp_flat h'.1) (dps_flat h'.2)
theorem dp_lst {a : Addr} {xs : List V} (h : SqL K H a xs) (hf : xs.all okF = true) : Dp K H (.ref a) (.list (xs.map vD)) := .lst h (dps_flat hf)
theorem dp_tup {a : Addr} {xs : List V} (h : SqT K H a xs) (hf : xs.all okF = true) : Dp K H (.ref a) (.tuple (xs.map vD)) := .tup h (dps_flat hf)
end
theorem ok_ints (ns : List Int) : (ns.map V.int).all okF = true := by
  rw [List.all_map]
  exact List.all_eq_true.mpr fun _ _ => rfl
theorem ok_strs (bs : List Bool) : (bs.map fun b => V.str (sideS b)).all okF = true := by
  rw [List.all_map]
  refine List.all_eq_true.mpr fun b _ => ?_
  cases b <;> decide +kernel
theorem shl_flat {xs : List V} (h : xs.all okF = true) : SeqAt.shaped (.list (xs.map vD)) = true := (Sh.list (sha_flat h 0)).shaped (by decide)
theorem sht_flat {xs : List V} (h : xs.all okF = true) : SeqAt.shaped (.tuple (xs.map vD)) = true := (Sh.tuple (sha_flat h 0)).shaped (by decide)
theorem eqv_same {d : PyData} (h : SeqAt.shaped d = true) : PyData.eqv d d = true := SeqAt.eqv_refl d (SeqAt.canLay_of_shaped h)
theorem eqvAll_ints : ∀ ns ms : List Int, PyData.eqvAll ((ns.map V.int).map vD) ((ms.map V.int).map vD) = decide (ns = ms)
  | [], [] => by simp [PyData.eqvAll]
  | [], _ :: _ => by simp [PyData.eqvAll]
  | _ :: _, [] => by simp [PyData.eqvAll]
  | n :: ns, m :: ms => by
    have ih := eqvAll_ints ns ms
    simp only [List.map_cons, PyData.eqvAll, vD, PyData.eqv, ih]
    by_cases c : n = m <;> by_cases c2 : ns = ms <;> simp [c, c2]
theorem eqv_ints (ns ms : List Int) : PyData.eqv (.list ((ns.map V.int).map vD)) (.list ((ms.map V.int).map vD)) = decide (ns = ms) := by
  rw [PyData.eqv]
  exact eqvAll_ints ns ms
theorem eqv_nil_r (x : V) (xs : List V) : PyData.eqv (.list ((x :: xs).map vD)) (.list []) = false := by
  rw [PyData.eqv]
  rfl
end RE
/-! the promises of the program's defs -/
namespace RE
open PySem PySem.Spec PyProof.Rows L2
def spWhole (K : PySem.W.Frag) : Sp := fun vs H Q _ => ∃ x T, vs = [x] ∧ PV K H x T ∧ Q (.bl (T == "int")) H
/-- what is no row -/
def NoRow (K : PySem.W.Frag) (H : Hp) (x : V) : Prop := (∃ T, PV K H x T ∧ (T == "list") = false) ∨
  ∃ a xs, x = .ref a ∧ SqL K H a xs ∧ (12 < xs.length ∨ (xs.length ≤ 12 ∧ (∀ y ∈ xs, ∃ T, PV K H y T) ∧ xs.all coinB = false))
def IsRow (K : PySem.W.Frag) (H : Hp) (x : V) (ns : List Int) : Prop := ∃ a, x = .ref a ∧ SqL K H a (ns.map V.int) ∧ RowOk ns
/-- a row: go on; none: the refusal -/
def spCheck (K : PySem.W.Frag) (C : Addr) : Sp := fun vs H Q E => ∃ x, vs = [x] ∧
  ((∃ ns, IsRow K H x ns ∧ ∀ H', Same H H' → Q .non H') ∨ (NoRow K H x ∧ ∀ H', Same H H' → E (.ref C) none H'))
/-- a def of a row alone -/
def spRow (K : PySem.W.Frag) (C : Addr) (R : List Int → Hp → VK → XK → Prop) : Sp := fun vs H Q E => ∃ x, vs = [x] ∧
  ((∃ ns, IsRow K H x ns ∧ R ns H Q E) ∨ (NoRow K H x ∧ ∀ H', Same H H' → E (.ref C) none H'))
def spWorthOf (K : PySem.W.Frag) (n : Nat) : Sp := fun vs H Q _ => ∃ (a d : Addr) (ns : List Int) (low m : Nat) (i j : Int) (kvs : List (List Key × V)), vs = [.ref a, .int i, .int j, .ref d] ∧ i = (low : Int) ∧ j = ((low + m : Nat) : Int) ∧
  SqL K H a (ns.map V.int) ∧ H d = some (.dT kvs) ∧ Known ns kvs ∧ ns.length ≤ 12 ∧ low + m ≤ ns.length ∧ m < n ∧
  ∀ H' kvs', SameBut d H H' → H' d = some (.dT kvs') → Known ns kvs' → Q (.int (wv ns m low)) H'
def coinOf (ns : List Int) (b : Bool) (low m : Nat) : Int := if b then ns.getD low 0 else ns.getD (low + m) 0
def lowOf (b : Bool) (low : Nat) : Nat := if b then low + 1 else low
theorem lowOf_le (b : Bool) (low m : Nat) : lowOf b low + m ≤ low + (m + 1) := by cases b <;> simp [lowOf] <;> omega
def spAfter (K : PySem.W.Frag) : Sp := fun vs H Q _ => ∃ (a : Addr) (ns : List Int) (low m : Nat) (i j : Int) (b : Bool), vs = [.ref a, .int i, .int j, .str (sideS b)] ∧ i = (low : Int) ∧ j = ((low + (m + 1) : Nat) : Int) ∧
  SqL K H a (ns.map V.int) ∧ low + (m + 1) ≤ ns.length ∧
  ∀ p, H p = none → Q (.ref p) (upd H p (.tup [.int (coinOf ns b low m), .int (lowOf b low : Nat), .int ((lowOf b low + m : Nat) : Int)]))
/-- an end is best -/
def bestB (ns : List Int) (low m : Nat) (b : Bool) : Bool := decide (coinOf ns b low m - wv ns m (lowOf b low) = wv ns (m + 1) low)
theorem ends_filter (ns : List Int) (low m : Nat) : ends ns (m + 1) low = [true, false].filter (bestB ns low m) := by
  rw [ends_succ]
  have h1 : bestB ns low m true = decide (ns.getD low 0 - wv ns m (low + 1) = wv ns (m + 1) low) := rfl
  have h2 : bestB ns low m false = decide (ns.getD (low + m) 0 - wv ns m low = wv ns (m + 1) low) := rfl
  rw [List.filter_cons, List.filter_cons, List.filter_nil, h1, h2]
  by_cases c1 : ns.getD low 0 - wv ns m (low + 1) = wv ns (m + 1) low
  · rw [if_pos c1, decide_eq_true c1, if_pos rfl]
    by_cases c2 : ns.getD (low + m) 0 - wv ns m low = wv ns (m + 1) low
    · rw [if_pos c2, decide_eq_true c2, if_pos rfl]
      rfl
    · rw [if_neg c2, decide_eq_false c2, if_neg Bool.false_ne_true]
      rfl
  · rw [if_neg c1, decide_eq_false c1, if_neg Bool.false_ne_true]
    by_cases c2 : ns.getD (low + m) 0 - wv ns m low = wv ns (m + 1) low
    · rw [if_pos c2, decide_eq_true c2, if_pos rfl]
      rfl
    · rw [if_neg c2, decide_eq_false c2, if_neg Bool.false_ne_true]
      rfl
theorem ends_le (ns : List Int) (n low : Nat) : (ends ns n low).length ≤ 2 := by
  cases n with
  | zero => exact Nat.zero_le _
  | succ m =>
    rw [ends_filter]
    exact List.length_filter_le _ _
def spBestOf (K : PySem.W.Frag) : Sp := fun vs H Q _ => ∃ (a d : Addr) (ns : List Int) (low m : Nat) (i j : Int) (kvs : List (List Key × V)), vs = [.ref a, .int i, .int j, .ref d] ∧ i = (low : Int) ∧ j = ((low + (m + 1) : Nat) : Int) ∧
  SqL K H a (ns.map V.int) ∧ H d = some (.dT kvs) ∧ Known ns kvs ∧ ns.length ≤ 12 ∧ low + (m + 1) ≤ ns.length ∧
  ∀ H' kvs' p, SameBut d H H' → H' d = some (.dT kvs') → Known ns kvs' → H p = none → H' p = some (.lst ((ends ns (m + 1) low).map fun b => V.str (sideS b))) → Q (.ref p) H'
def spWorth (K : PySem.W.Frag) (C : Addr) : Sp := spRow K C fun ns H Q _ => ∀ H', Same H H' → Q (.int (wv ns ns.length 0)) H'
def spBest (K : PySem.W.Frag) (C : Addr) : Sp := spRow K C fun ns H Q _ => ∀ H' p, Same H H' → H p = none → H' p = some (.lst ((ends ns ns.length 0).map fun b => V.str (sideS b))) → Q (.ref p) H'
def absI (i : Int) : Int := if i < 0 then -i else i
def sureV (ns : List Int) : Int := absI ((evens ns).sum - (evens (ns.drop 1)).sum)
def spSure (K : PySem.W.Frag) (C D : Addr) : Sp := spRow K C fun ns H Q E => (ns.length % 2 = 1 → ∀ H', Same H H' → E (.ref D) none H') ∧ (ns.length % 2 = 0 → ∀ H', Same H H' → Q (.int (sureV ns)) H')
end RE
/-! the promises of the laws' own defs -/
namespace RE
open PySem PySem.Spec PyProof.Rows L2
/-- some number comes -/
def spNumber : Sp := fun vs H Q _ => ∃ c a z : Int, vs = [.int c, .int a, .int z] ∧ c.natAbs < 2 ^ 2000000 ∧ a.natAbs < 2 ^ 30 ∧ ∀ r : Int, Q (.int r) H
/-- a row comes -/
def spLRow (K : PySem.W.Frag) : Sp := fun vs H Q _ => ∃ (a : Addr) (cs : List Int) (by' most : Int), vs = [.ref a, .int by', .int most] ∧ SqL K H a (cs.map V.int) ∧ cs.length ≤ 63 ∧ (∀ z ∈ cs, z.natAbs < 2 ^ 1048576) ∧ 0 ≤ by' ∧ by' ≤ 100 ∧ 0 ≤ most ∧ most ≤ 12 ∧
  ∀ (ns : List Int) (p : Addr) (H' : Hp), RowOk ns → (ns.length : Int) ≤ most → Same H H' → H p = none → H' p = some (.lst (ns.map V.int)) → Q (.ref p) H'
/-- all worths of a row -/
structure Worths (ns : List Int) (kvs : List (List Key × V)) : Prop where
  val : ∀ low n, low + n ≤ ns.length → valV kvs (keyOf low n) = some (.int (wv ns n low))
/-- the worths of stretches shorter than i, and of those of i coins that begin ahead of j -/
def Done (ns : List Int) (kvs : List (List Key × V)) (i j : Nat) : Prop := ∀ m low, low + m ≤ ns.length → (m < i ∨ (m = i ∧ low < j)) → valV kvs (keyOf low m) = some (.int (wv ns m low))
theorem Done.nil (ns : List Int) : Done ns [] 0 0 := fun m low _ h => by omega
theorem keyEq {i j : Int} {low n : Nat} (h1 : i = (low : Int)) (h2 : j = ((low + n : Nat) : Int)) : [V.int i, V.int j] = (keyOf low n).map kV := by
  show [V.int i, V.int j] = [V.int (low : Int), V.int ((low + n : Nat) : Int)]
  rw [h1, h2]
def spWorths (K : PySem.W.Frag) : Sp := fun vs H Q _ => ∃ (a : Addr) (ns : List Int), vs = [.ref a] ∧ SqL K H a (ns.map V.int) ∧ ns.length ≤ 12 ∧
  ∀ (kvs : List (List Key × V)) (d : Addr) (H' : Hp), Worths ns kvs → Same H H' → H d = none → H' d = some (.dT kvs) → Q (.ref d) H'
def spEnds (K : PySem.W.Frag) : Sp := fun vs H Q _ => ∃ (a d : Addr) (ns : List Int) (low m : Nat) (i j : Int) (kvs : List (List Key × V)), vs = [.ref a, .int i, .int j, .ref d] ∧ i = (low : Int) ∧ j = ((low + m : Nat) : Int) ∧ SqL K H a (ns.map V.int) ∧ H d = some (.dT kvs) ∧ Worths ns kvs ∧ low + m ≤ ns.length ∧
  ∀ H' p, Same H H' → H p = none → H' p = some (.lst ((ends ns m low).map fun b => V.str (sideS b))) → Q (.ref p) H'
def spLaw (K : PySem.W.Frag) : Sp := fun vs H Q _ => ∃ (a : Addr) (ns : List Int), vs = [.ref a] ∧ SqL K H a (ns.map V.int) ∧ ns.length ≤ 63 ∧ (∀ z ∈ ns, z.natAbs < 2 ^ 1048576) ∧ ∀ H', Q (.bl true) H'
/-- a sum of few great numbers -/
theorem sum_bits : ∀ (l : List Int) (k : Nat), (∀ z ∈ l, z.natAbs < 2 ^ k) → l.sum.natAbs < 2 ^ (k + l.length)
  | [], k, _ => by
    rw [List.sum_nil]
    exact Nat.pow_pos (by decide)
  | a :: l, k, h => by
    have ih := sum_bits l k fun z hz => h z (List.mem_cons_of_mem _ hz)
    have ha := pw_mono (h a List.mem_cons_self) (Nat.le_add_right k l.length)
    rw [List.sum_cons, List.length_cons, ← Nat.add_assoc]
    exact pw_add ha ih (Nat.le_refl _)
/-- the first 63 of a list that is not longer -/
theorem cut63 {xs : List V} (h : xs.length ≤ 63) : cutV xs none (some 63) = xs := by
  unfold cutV
  rw [show HT.sIx xs.length xs.length (some 63) = min 63 xs.length from HT.sIx_nat xs.length xs.length 63, HT.sIx_none, Nat.min_eq_right h, List.drop_zero, Nat.sub_zero, List.take_length]
end RE
/-! takes, greedy hands, best plays -/
namespace RE
open PySem PySem.Spec PyProof.Rows L2
/-- the coins of a stretch -/
def stretch (ns : List Int) (low n : Nat) : List Int := (ns.drop low).take n
/-- what takes give the hand that takes next, and the other one -/
def ledR (ns : List Int) : Nat → Nat → List Bool → Int × Int
  | m + 1, low, b :: bs => (coinOf ns b low m + (ledR ns m (lowOf b low) bs).2, (ledR ns m (lowOf b low) bs).1)
  | _, _, _ => (0, 0)
theorem ledR_nil (ns : List Int) (n low : Nat) : ledR ns n low [] = (0, 0) := by cases n <;> rfl
theorem ledR_cons (ns : List Int) (m low : Nat) (b : Bool) (bs : List Bool) : ledR ns (m + 1) low (b :: bs) = (coinOf ns b low m + (ledR ns m (lowOf b low) bs).2, (ledR ns m (lowOf b low) bs).1) := rfl
/-- where the stretch begins that takes leave -/
def ledLow : Nat → List Bool → Nat
  | low, [] => low
  | low, b :: bs => ledLow (lowOf b low) bs
def sidesV (bs : List Bool) : List V := bs.map fun b => V.str (sideS b)
theorem sidesV_len (bs : List Bool) : (sidesV bs).length = bs.length := List.length_map _
theorem sidesV_ok (bs : List Bool) : (sidesV bs).all okF = true := ok_strs bs
/-- greedy takes -/
def greedyV (ns : List Int) : Nat → Nat → List Bool
  | 0, _ => []
  | m + 1, low => decide (ns.getD (low + m) 0 ≤ ns.getD low 0) :: greedyV ns m (lowOf (decide (ns.getD (low + m) 0 ≤ ns.getD low 0)) low)
theorem greedyV_succ (ns : List Int) (m low : Nat) : greedyV ns (m + 1) low = decide (ns.getD (low + m) 0 ≤ ns.getD low 0) :: greedyV ns m (lowOf (decide (ns.getD (low + m) 0 ≤ ns.getD low 0)) low) := rfl
/-- all best plays of a stretch, in order -/
def plays (ns : List Int) : Nat → Nat → List (List Bool)
  | 0, _ => [[]]
  | m + 1, low => (ends ns (m + 1) low).flatMap fun b => (plays ns m (lowOf b low)).map fun p => b :: p
theorem plays_zero (ns : List Int) (low : Nat) : plays ns 0 low = [[]] := rfl
theorem plays_succ (ns : List Int) (m low : Nat) : plays ns (m + 1) low = (ends ns (m + 1) low).flatMap fun b => (plays ns m (lowOf b low)).map fun p => b :: p := rfl
def many (ns : List Int) (n low : Nat) : Int := ((plays ns n low).length : Nat)
theorem flat_len (f : Bool → List (List Bool)) : ∀ l : List Bool, (l.flatMap f).length = (l.map fun b => (f b).length).sum
  | [] => rfl
  | a :: l => by
    rw [List.flatMap_cons, List.length_append, flat_len f l, List.map_cons, List.sum_cons]
theorem plays_le (ns : List Int) : ∀ n low, (plays ns n low).length ≤ 2 ^ n
  | 0, low => by rw [plays_zero]; exact Nat.le_refl _
  | m + 1, low => by
    rw [plays_succ, flat_len]
    have h1 : ∀ l : List Bool, (l.map fun b => ((plays ns m (lowOf b low)).map fun p => b :: p).length).sum ≤ l.length * 2 ^ m := by
      intro l
      induction l with
      | nil => simp
      | cons b l ih =>
        rw [List.map_cons, List.sum_cons, List.length_map, List.length_cons, Nat.succ_mul]
        have := plays_le ns m (lowOf b low)
        omega
    have h2 := h1 (ends ns (m + 1) low)
    have h3 := ends_le ns (m + 1) low
    have h4 : (ends ns (m + 1) low).length * 2 ^ m ≤ 2 * 2 ^ m := Nat.mul_le_mul_right _ h3
    rw [Nat.pow_succ]
    omega
theorem plays_pos (ns : List Int) : ∀ n low, 0 < (plays ns n low).length
  | 0, low => by rw [plays_zero]; exact Nat.succ_pos _
  | m + 1, low => by
    rw [plays_succ]
    cases e : ends ns (m + 1) low with
    | nil => exact absurd e (ends_ne ns m low)
    | cons b l =>
      rw [List.flatMap_cons, List.length_append, List.length_map]
      have := plays_pos ns m (lowOf b low)
      omega
theorem plays_length (ns : List Int) : ∀ n low, ∀ p ∈ plays ns n low, p.length = n
  | 0, low, p, h => by
    rw [plays_zero, List.mem_singleton] at h
    rw [h]
    rfl
  | m + 1, low, p, h => by
    rw [plays_succ] at h
    obtain ⟨b, _, h⟩ := List.mem_flatMap.mp h
    obtain ⟨q, hq, rfl⟩ := List.mem_map.mp h
    rw [List.length_cons, plays_length ns m _ q hq]
theorem ends_best {ns : List Int} {m low : Nat} {b : Bool} (h : b ∈ ends ns (m + 1) low) : coinOf ns b low m - wv ns m (lowOf b low) = wv ns (m + 1) low := by
  rw [ends_filter] at h
  exact of_decide_eq_true (List.mem_filter.mp h).2
theorem plays_worth (ns : List Int) : ∀ n low, ∀ p ∈ plays ns n low, (ledR ns n low p).1 - (ledR ns n low p).2 = wv ns n low
  | 0, low, p, h => by
    rw [plays_zero, List.mem_singleton] at h
    rw [h, ledR_nil, wv_zero]
    rfl
  | m + 1, low, p, h => by
    rw [plays_succ] at h
    obtain ⟨b, hb, h⟩ := List.mem_flatMap.mp h
    obtain ⟨q, hq, rfl⟩ := List.mem_map.mp h
    have ih := plays_worth ns m _ q hq
    have e := ends_best hb
    rw [ledR_cons]
    show coinOf ns b low m + (ledR ns m (lowOf b low) q).2 - (ledR ns m (lowOf b low) q).1 = _
    omega
theorem sum_take1 {l : List Bool} {t : Nat} {b : Bool} (f : Bool → Int) (h : l[t]? = some b) : ((l.take (t + 1)).map f).sum = ((l.take t).map f).sum + f b := by
  rw [List.take_add_one, h, List.map_append, List.sum_append]
  simp
theorem many_succ (ns : List Int) (m low : Nat) : many ns (m + 1) low = ((ends ns (m + 1) low).map fun b => many ns m (lowOf b low)).sum := by
  unfold many
  rw [plays_succ, flat_len]
  generalize ends ns (m + 1) low = l
  induction l with
  | nil => rfl
  | cons b l ih =>
    rw [List.map_cons, List.sum_cons, List.map_cons, List.sum_cons, List.length_map, ← ih]
    omega
/-! ### stretches as lists -/
theorem stretch_len {ns : List Int} {low n : Nat} (h : low + n ≤ ns.length) : (stretch ns low n).length = n := by
  unfold stretch
  rw [List.length_take, List.length_drop]
  omega
theorem stretch_get {ns : List Int} {low n i : Nat} (h : i < n) : (stretch ns low n)[i]? = ns[low + i]? := by
  unfold stretch
  rw [List.getElem?_take, if_pos h, List.getElem?_drop]
theorem stretch_first {ns : List Int} {low m : Nat} (h : low + (m + 1) ≤ ns.length) : stretch ns low (m + 1) = ns.getD low 0 :: stretch ns (low + 1) m := by
  unfold stretch
  have hl : low < ns.length := by omega
  rw [List.drop_eq_getElem_cons hl, List.take_succ_cons, List.getD_eq_getElem?_getD, List.getElem?_eq_getElem hl]
  rfl
theorem stretch_last {ns : List Int} {low m : Nat} (h : low + (m + 1) ≤ ns.length) : stretch ns low (m + 1) = stretch ns low m ++ [ns.getD (low + m) 0] := by
  unfold stretch
  have hl : low + m < ns.length := by omega
  rw [List.take_add_one, List.getElem?_drop, List.getElem?_eq_getElem hl, List.getD_eq_getElem?_getD, List.getElem?_eq_getElem hl]
  rfl
theorem stretch_all (ns : List Int) : stretch ns 0 ns.length = ns := by
  unfold stretch
  rw [List.drop_zero, List.take_length]
theorem stretch_zero (ns : List Int) (low : Nat) : stretch ns low 0 = [] := by
  unfold stretch
  rw [List.take_zero]
theorem stretch_cut {ns : List Int} {low n : Nat} (h : low + n ≤ ns.length) {i j : Int} (ei : i = (low : Int)) (ej : j = ((low + n : Nat) : Int)) : cutV (ns.map V.int) (some i) (some j) = (stretch ns low n).map V.int := by
  subst ei ej
  unfold cutV stretch
  rw [show HT.sIx (ns.map V.int).length 0 (some ((low : Nat) : Int)) = min low (ns.map V.int).length from HT.sIx_nat _ 0 low, show HT.sIx (ns.map V.int).length (ns.map V.int).length (some ((low + n : Nat) : Int)) = min (low + n) (ns.map V.int).length from HT.sIx_nat _ _ (low + n), List.length_map, Nat.min_eq_left h, Nat.min_eq_left (show low ≤ ns.length by omega), ← List.map_drop, ← List.map_take]
  congr 2
  omega
end RE
/-! promises about takes and plays -/
namespace RE
open PySem PySem.Spec PyProof.Rows L2
def isSideB : V → Bool
  | .str s => decide (s = "left") || decide (s = "right")
  | _ => false
theorem isSide_side (b : Bool) : isSideB (.str (sideS b)) = true := by cases b <;> decide +kernel
def spSide (K : PySem.W.Frag) : Sp := fun vs H Q _ => ∃ x T, vs = [x] ∧ PV K H x T ∧ ∀ H', Same H H' → Q (.bl (isSideB x)) H'
def NoTakes (K : PySem.W.Frag) (H : Hp) (x : V) (n : Nat) : Prop := (∃ T, PV K H x T ∧ (T == "list") = false) ∨
  ∃ a xs, x = .ref a ∧ SqL K H a xs ∧ (n < xs.length ∨ (xs.length ≤ n ∧ (∀ y ∈ xs, ∃ T, PV K H y T) ∧ xs.all isSideB = false))
theorem all_sides (bs : List Bool) : (sidesV bs).all isSideB = true := by
  unfold sidesV
  rw [List.all_map]
  exact List.all_eq_true.mpr fun b _ => isSide_side b
def spLed (K : PySem.W.Frag) (C D : Addr) : Sp := fun vs H Q E => ∃ x t, vs = [x, t] ∧ ((NoRow K H x ∧ ∀ H', Same H H' → E (.ref C) none H') ∨ ∃ ns, IsRow K H x ns ∧
  ((NoTakes K H t ns.length ∧ ∀ H', Same H H' → E (.ref D) none H') ∨ ∃ a bs, t = .ref a ∧ SqL K H a (sidesV bs) ∧ bs.length ≤ ns.length ∧
    ∀ H' p l, Same H H' → H p = none → H l = none → H' p = some (.tup [.int (ledR ns ns.length 0 bs).1, .int (ledR ns ns.length 0 bs).2, .ref l]) → H' l = some (.lst ((stretch ns (ledLow 0 bs) (ns.length - bs.length)).map V.int)) → Q (.ref p) H'))
def spGreedy (K : PySem.W.Frag) (C : Addr) : Sp := spRow K C fun ns H Q _ => ∀ H' p, Same H H' → H p = none → H' p = some (.lst (sidesV (greedyV ns ns.length 0))) → Q (.ref p) H'
def spPlaysOf (K : PySem.W.Frag) (n : Nat) : Sp := fun vs H Q _ => ∃ (a d : Addr) (ns : List Int) (low m : Nat) (i j : Int) (kvs : List (List Key × V)), vs = [.ref a, .int i, .int j, .ref d] ∧ i = (low : Int) ∧ j = ((low + m : Nat) : Int) ∧
  SqL K H a (ns.map V.int) ∧ H d = some (.dT kvs) ∧ Known ns kvs ∧ ns.length ≤ 12 ∧ low + m ≤ ns.length ∧ m < n ∧
  ∀ H' kvs', SameBut d H H' → H' d = some (.dT kvs') → Known ns kvs' → Q (.int (many ns m low)) H'
def spHowMany (K : PySem.W.Frag) (C : Addr) : Sp := spRow K C fun ns H Q _ => ∀ H', Same H H' → Q (.int (many ns ns.length 0)) H'
/-- what is no number of a best play -/
def NoNum (K : PySem.W.Frag) (H : Hp) (x : V) (n : Int) : Prop := (∃ T, PV K H x T ∧ (T == "int") = false) ∨ ∃ k, x = .int k ∧ ¬ (0 ≤ k ∧ k < n)
def spPlayBy (K : PySem.W.Frag) (C D : Addr) : Sp := fun vs H Q E => ∃ x t, vs = [x, t] ∧ ((NoRow K H x ∧ ∀ H', Same H H' → E (.ref C) none H') ∨ ∃ ns, IsRow K H x ns ∧
  ((NoNum K H t (many ns ns.length 0) ∧ ∀ H', Same H H' → E (.ref D) none H') ∨ ∃ (k : Nat) (pl : List Bool), t = .int (k : Int) ∧ (plays ns ns.length 0)[k]? = some pl ∧
    ∀ H' p, Same H H' → H p = none → H' p = some (.lst (sidesV pl)) → Q (.ref p) H'))
/-- enumerate over a list that stays -/
theorem for_enum {K : PySem.W.Frag} {a : Addr} {xs : List V} {g : TG} {tb : TS} {D : Ends} {σ : L2.St} {H : Hp} (Pv : Nat → L2.St → Hp → Prop) (h0 : Pv 0 σ H) (hq : ∀ i σ H, Pv i σ H → SqL K H a xs)
    (hs : ∀ (i : Nat) (x : V) (T : Addr) (σ : L2.St) (H : Hp), xs[i]? = some x → Pv i σ H → H T = none → g (.ref T) σ (upd H T (.tup [.int (i : Nat), x])) fun σ2 H2 => tb { D with nx := Pv (i + 1), ct := Pv (i + 1), bk := D.nx } σ2 H2) (hd : ∀ σ H, Pv xs.length σ H → D.nx σ H) :
    ∃ W : Nat → Nat → L2.St → Hp → Prop, (∃ m, W 0 m σ H) ∧ ∀ i m σ H, W i m σ H →
      ((Ite K a).stop i H ∧ D.nx σ H) ∨ ((Ite K a).go i H ∧ ∃ N : L2.St → Hp → Prop, (∀ σ' H', N σ' H' → ∃ m', m' < m ∧ W (i + 1) m' σ' H') ∧ ∀ v H', (Ite K a).yld i H v H' → g v σ H' fun σ2 H2 => tb { D with nx := N, ct := N, bk := D.nx } σ2 H2) := by
  refine ⟨fun i m σ H => m = xs.length - i ∧ i ≤ xs.length ∧ Pv i σ H, ⟨xs.length, rfl, Nat.zero_le _, h0⟩, ?_⟩
  rintro i m σ H ⟨rfl, hi, p⟩
  have qx := hq i σ H p
  by_cases hlt : i < xs.length
  · have hx : xs[i]? = some xs[i] := List.getElem?_eq_getElem hlt
    refine .inr ⟨⟨xs, _, qx, hx⟩, Pv (i + 1), fun σ' H' p' => ⟨xs.length - (i + 1), by omega, rfl, hlt, p'⟩, fun v H' y => ?_⟩
    obtain ⟨T, x', rfl, hT, rfl, f1⟩ := y
    exact hs i x' T σ H (f1 xs qx) p hT
  · have e : i = xs.length := by omega
    subst e
    exact .inl ⟨⟨xs, qx, Nat.le_refl _⟩, hd σ H p⟩
end RE
/-! lists of takes; promises of the law's own defs about plays -/
namespace RE
open PySem PySem.Spec PyProof.Rows L2
/-- a list of lists of ends -/
inductive Lsts (H : Hp) : List V → List (List Bool) → Prop
  | nil : Lsts H [] []
  | cons {q : Addr} {pl : List Bool} {xs : List V} {pls : List (List Bool)} (h : H q = some (.lst (sidesV pl))) (t : Lsts H xs pls) : Lsts H (.ref q :: xs) (pl :: pls)
theorem Lsts.mono {H H' : Hp} (s : Same H H') : ∀ {xs : List V} {pls : List (List Bool)}, Lsts H xs pls → Lsts H' xs pls
  | _, _, .nil => .nil
  | _, _, .cons h t => .cons (s _ _ h) (t.mono s)
theorem Lsts.app {H : Hp} {ys : List V} {qls : List (List Bool)} (b : Lsts H ys qls) : ∀ {xs : List V} {pls : List (List Bool)}, Lsts H xs pls → Lsts H (xs ++ ys) (pls ++ qls)
  | _, _, .nil => b
  | _, _, .cons h t => .cons h (b.app t)
theorem Lsts.len {H : Hp} : ∀ {xs : List V} {pls : List (List Bool)}, Lsts H xs pls → xs.length = pls.length
  | _, _, .nil => rfl
  | _, _, .cons _ t => by rw [List.length_cons, List.length_cons, t.len]
theorem Lsts.get {H : Hp} : ∀ {xs : List V} {pls : List (List Bool)} {i : Nat} {pl : List Bool}, Lsts H xs pls → pls[i]? = some pl → ∃ q, xs[i]? = some (.ref q) ∧ H q = some (.lst (sidesV pl))
  | _, _, i, pl, .nil, e => by simp at e
  | _, _, 0, pl, .cons h t, e => by
    have e' := Option.some.inj e
    subst e'
    exact ⟨_, rfl, h⟩
  | _, _, i + 1, pl, .cons h t, e => by
    obtain ⟨q, h1, h2⟩ := t.get (i := i) (pl := pl) (by simpa using e)
    exact ⟨q, by simpa using h1, h2⟩
theorem Lsts.getX {H : Hp} : ∀ {xs : List V} {pls : List (List Bool)} {i : Nat} {x : V}, Lsts H xs pls → xs[i]? = some x → ∃ q pl, x = .ref q ∧ pls[i]? = some pl ∧ H q = some (.lst (sidesV pl))
  | _, _, i, x, .nil, e => by simp at e
  | _, _, 0, x, .cons h t, e => by
    have e' := Option.some.inj e
    subst e'
    exact ⟨_, _, rfl, rfl, h⟩
  | _, _, i + 1, x, .cons h t, e => by
    obtain ⟨q, pl, h1, h2, h3⟩ := t.getX (i := i) (x := x) (by simpa using e)
    exact ⟨q, pl, h1, by simpa using h2, h3⟩
/-- all but the object at D -/
def hide (D : Addr) (H : Hp) : Hp := fun a => if a = D then none else H a
theorem hide_ne {D a : Addr} {H : Hp} (h : a ≠ D) : hide D H a = H a := if_neg h
theorem hide_of (D : Addr) (H : Hp) : Same (hide D H) H := fun b o e => by
  by_cases c : b = D
  · rw [c, show hide D H D = none from if_pos rfl] at e
    cases e
  · rw [hide_ne c] at e
    exact e
theorem hide_same {D : Addr} {H H' : Hp} (s : SameBut D H H') : Same (hide D H) (hide D H') := fun b o e => by
  by_cases c : b = D
  · rw [c, show hide D H D = none from if_pos rfl] at e
    cases e
  · rw [hide_ne c] at e ⊢
    exact s b o c e
def spLPlays (K : PySem.W.Frag) (n : Nat) : Sp := fun vs H Q _ => ∃ (a d : Addr) (ns : List Int) (low m : Nat) (i j : Int) (kvs : List (List Key × V)), vs = [.ref a, .int i, .int j, .ref d] ∧ i = (low : Int) ∧ j = ((low + m : Nat) : Int) ∧
  SqL K H a (ns.map V.int) ∧ H d = some (.dT kvs) ∧ Worths ns kvs ∧ ns.length ≤ 12 ∧ low + m ≤ ns.length ∧ m < n ∧
  ∀ H' p xs, Same H H' → H p = none → H' p = some (.lst xs) → Lsts H' xs (plays ns m low) → Q (.ref p) H'
def spLLed (K : PySem.W.Frag) : Sp := fun vs H Q _ => ∃ (r a : Addr) (ns : List Int) (bs : List Bool), vs = [.ref r, .ref a] ∧ SqL K H r (ns.map V.int) ∧ SqL K H a (sidesV bs) ∧ bs.length ≤ ns.length ∧
  ∀ H' p l, Same H H' → H p = none → H l = none → H' p = some (.tup [.int (ledR ns ns.length 0 bs).1, .int (ledR ns ns.length 0 bs).2, .ref l]) → H' l = some (.lst ((stretch ns (ledLow 0 bs) (ns.length - bs.length)).map V.int)) → Q (.ref p) H'
def spLGreedy (K : PySem.W.Frag) : Sp := fun vs H Q _ => ∃ (r : Addr) (ns : List Int), vs = [.ref r] ∧ SqL K H r (ns.map V.int) ∧ ns.length ≤ 12 ∧
  ∀ H' p, Same H H' → H p = none → H' p = some (.lst (sidesV (greedyV ns ns.length 0))) → Q (.ref p) H'
theorem pop_first {ns : List Int} {low m : Nat} (h : low + (m + 1) ≤ ns.length) : ((stretch ns low (m + 1)).map V.int).eraseIdx 0 = (stretch ns (low + 1) m).map V.int ∧ ((stretch ns low (m + 1)).map V.int)[0]? = some (.int (ns.getD low 0)) := by
  rw [stretch_first h]
  exact ⟨rfl, rfl⟩
theorem pop_last {ns : List Int} {low m : Nat} (h : low + (m + 1) ≤ ns.length) : ((stretch ns low (m + 1)).map V.int).eraseIdx m = (stretch ns low m).map V.int ∧ ((stretch ns low (m + 1)).map V.int)[m]? = some (.int (ns.getD (low + m) 0)) := by
  have hl : (stretch ns low m).length = m := stretch_len (by omega)
  rw [stretch_last h, List.map_append]
  constructor
  · rw [List.eraseIdx_append_of_length_le (by rw [List.length_map]; omega), List.length_map, hl, Nat.sub_self]
    simp
  · rw [List.getElem?_append_right (by rw [List.length_map]; omega), List.length_map, hl, Nat.sub_self]
    rfl
theorem cut_tail (x : V) (xs : List V) : cutV (x :: xs) (some 1) none = xs := by
  unfold cutV
  rw [show HT.sIx (x :: xs).length 0 (some 1) = min 1 (x :: xs).length from HT.sIx_nat _ 0 1, HT.sIx_none, List.length_cons, Nat.min_eq_left (by omega)]
  simp
theorem cut_init (xs : List V) (x : V) : cutV (xs ++ [x]) none (some (-1)) = xs := by
  have e : HT.sIx (xs ++ [x]).length (xs ++ [x]).length (some (-1)) = xs.length := by
    unfold HT.sIx
    simp
    try omega
  unfold cutV
  rw [e, HT.sIx_none]
  simp
/-- the walk over a range with a step -/
theorem rgc_of {j c : Int} (h0 : 0 ≤ j) (h1 : j < 1000000) (c0 : 1 ≤ c) (c1 : c < 1000000) : ∃ n : Nat, RgC 0 j c n ∧ ∀ i : Nat, i < n → 0 ≤ (i : Int) * c ∧ (i : Int) * c < j := by
  have e : Builtin.Range.rangeSize 0 j c = (j + c - 1) / c := rangeSize_pos c0 h0
  have q0 : 0 ≤ (j + c - 1) / c := Int.ediv_nonneg (by omega) (by omega)
  have q1 : (j + c - 1) / c ≤ j + c - 1 := Int.ediv_le_self _ (by omega)
  refine ⟨((j + c - 1) / c).toNat, ⟨by omega, by omega, ?_, ?_⟩, fun i hi => ?_⟩
  · unfold Builtin.Range.small
    rw [e]
    generalize (j + c - 1) / c = q at q0 q1
    rw [if_pos (show c > 0 by omega)]
    simp only [Builtin.Range.rangeFitsLong, Bool.and_eq_true, Bool.or_eq_true, decide_eq_true_eq, beq_iff_eq]
    omega
  · rw [e, Int.toNat_of_nonneg q0]
  · exact start_inside c0 h0 (by omega) (by rw [e]; omega)
end RE
/-! heaps as letters: for printed readings -/
namespace RE
open PySem PySem.Spec PyProof.Rows L2
/-- a new object: the heap behind it is a letter -/
@[elab_as_elim] theorem gen_heap {H : Hp} {p : Addr} {o : HO} {G : Hp → Prop} (np : H p = none) (h : ∀ H', Same H H' → H' p = some o → G H') : G (upd H p o) := h _ (same_new np o) upd_same
/-- an object that is changed -/
@[elab_as_elim] theorem gen_put {H : Hp} {p : Addr} {o u : HO} {G : Hp → Prop} (hp : H p = some u) (h : ∀ H', SameBut p H H' → H' p = some o → G H') : G (upd H p o) := h _ (SameBut.put o) upd_same
theorem seqT_same {K : PySem.W.Frag} {H H' : Hp} {a : Addr} {xs : List V} (e : Same H H') (h : SqT K H a xs) : SqT K H' a xs := by
  rcases h with h | h
  · rcases h with h | ⟨o, h⟩
    · exact .inl (.inl (e _ _ h))
    · exact .inl (.inr ⟨o, e _ _ h⟩)
  · exact .inr h
theorem eqv_eq {d e : PyData} (h : SeqAt.shaped d = true) (q : d = e) : PyData.eqv d e = true := by
  subst q
  exact eqv_same h
/-- a op1 b op2 c op3 d -/
def tChain3 (r r' r'' : R2) (ta tb tc td : TE) : TE := fun σ H Q => ta σ H fun x H1 => tb σ H1 fun y H2 => r x y H2 fun z H3 => ∃ k, z = .bl k ∧
  (if k = true then tc σ H3 fun u H4 => r' y u H4 fun z' H5 => ∃ k', z' = .bl k' ∧ (if k' = true then td σ H5 fun u' H6 => r'' u u' H6 Q else Q (.bl false) H5) else Q (.bl false) H3)
section
variable {X : Cx} {a b c d : Expr} {ta tb tc td : TE} {pos : Pos}
theorem pt_chain3 {op op' op'' : CmpOp} {r r' r'' : R2} (ho : OpR X (compareOp op) r) (ho' : OpR X (compareOp op') r') (ho'' : OpR X (compareOp op'') r'') (ha : PE X a ta) (hb : PE X b tb) (hc : PE X c tc) (hd : PE X d td)
    (hm : lastMarks [op, op', op''] [b, c, d] = false := by with_unfolding_all rfl) : PT X (.Compare a [op, op', op''] [b, c, d] pos) (tTest (tChain3 r r' r'' ta tb tc td)) := by
  refine ⟨fun pins s σ H Q I h => ?_⟩
  refine isTrue_chain (thn (ha.run pins s σ H _ I h) fun v s1 ⟨x, H1, I1, r1, q1⟩ => test_link (thn (hb.run pins s1 σ H1 _ I1 q1) fun u s2 ⟨y, H2, I2, r2, q2⟩ =>
    thn (ho pins s2 σ H2 x y v u _ I2 r1 r2 q2) fun d s3 ⟨z, H3, I3, r3, k, e, q3⟩ => ?_)) hm
  subst e
  cases r3
  refine wpAny_truthy_bool ?_
  cases k with
  | false =>
    obtain ⟨k', e', q'⟩ := q3
    cases e'
    exact ite_ff ⟨H3, I3, q'⟩
  | true =>
    refine ite_tt (test_link (thn (hc.run pins s3 σ H3 _ I3 q3) fun w' s4 ⟨z', H4, I4, r4, q4⟩ => thn (ho' pins s4 σ H4 y z' u w' _ I4 r2 r4 q4) fun d' s5 ⟨z2, H5, I5, r5, k2, e2, q5⟩ => ?_))
    subst e2
    cases r5
    refine wpAny_truthy_bool ?_
    cases k2 with
    | false =>
      obtain ⟨k', e', q'⟩ := q5
      cases e'
      exact ite_ff ⟨H5, I5, q'⟩
    | true =>
      refine ite_tt (test_last (thn (hd.run pins s5 σ H5 _ I5 q5) fun w2 s6 ⟨z3, H6, I6, r6, q6⟩ => thn (ho'' pins s6 σ H6 z' z3 w' w2 _ I6 r4 r6 q6) fun d2 s7 ⟨z4, H7, I7, r7, k3, e3, q7⟩ => ?_))
      subst e3
      cases r7
      exact wpAny_truthy_bool ⟨H7, I7, q7⟩
end
theorem lex2 (a b c d : Int) : Ob.lexAt (fun j => decide (([a, b] : List Int).getD j 0 = ([c, d] : List Int).getD j 0)) (fun j => decide (([a, b] : List Int).getD j 0 ≤ ([c, d] : List Int).getD j 0)) (decide (([a, b] : List Int).length ≤ ([c, d] : List Int).length)) 0 (min ([a, b] : List Int).length ([c, d] : List Int).length) = (if a = c then decide (b ≤ d) else decide (a ≤ c)) := by
  show (if decide (a = c) = true then (if decide (b = d) = true then true else decide (b ≤ d)) else decide (a ≤ c)) = _
  by_cases h : a = c
  · rw [if_pos h, if_pos (decide_eq_true h)]
    by_cases h2 : b = d
    · rw [if_pos (decide_eq_true h2)]
      exact (decide_eq_true (by omega)).symm
    · rw [if_neg (by simpa using h2)]
  · rw [if_neg h, if_neg (by simpa using h)]
/-- what isinstance asks of an own class -/
structure OwnTy (K : PySem.W.Frag) (C : Addr) : Prop where
  ha : PySem.W.findIn K (.ref C) "__class__" = some (some (.builtin "object.__class__"))
  hn : PySem.W.specialIn K (.builtin "object.__class__") "__get__" = some (some (.builtin "getset_descriptor.__get__"))
  htk : PySem.W.takesIn K (.builtin "object.__class__") = some true
  hm : PySem.W.mroIn K C (.type "object") = some true
theorem ty_ins {K : PySem.W.Frag} {H : Hp} {a C dx : Addr} {fs : List (Str × V)} (e : H a = some (.ins C dx fs)) (cl : Cls K C) (o : OwnTy K C) : TyX K H (.ref a) (.ref C) := .base (.ins e cl o.ha o.hn o.htk o.hm)
/-- a new instance -/
theorem same_make {H : Hp} {x dx C : Addr} (nx : H x = none) (nd : H dx = none) : Same H (upd (upd H dx (.own x)) x (.ins C dx [])) := fun b o e => by
  rw [upd_ne (ne_of_none e nx), upd_ne (ne_of_none e nd)]
  exact e
/-- o.m(e, ..), o of one of two classes -/
def tMeth2 (C C' : Addr) (m : Str) (sp sp' : Sp) (E : XK) (ta : TE) (t : TA) : TE := fun σ H Q => ta σ H fun x H1 => ∃ a dx fs, x = .ref a ∧ fs.lookup m = none ∧
  ((H1 a = some (.ins C dx fs) ∧ t σ H1 fun vs H2 => sp (x :: (vs ++ [])) H2 Q E) ∨ (H1 a = some (.ins C' dx fs) ∧ t σ H1 fun vs H2 => sp' (x :: (vs ++ [])) H2 Q E))
section
variable {X : Cx} {o e : Expr} {es : List Expr} {ta : TE} {t : TA} {pos apos : Pos} {m : Str} {C C' f f' : Addr} {fd fd' : FuncData} {ps : List Str} {sp sp' : Sp} {k : Nat} {CX : L2.CXT} {E : XK}
theorem pe_meth2 {pl : Sem Bool} (he : PE X o ta) (c : Cls X.K C) (hm : Meth X.K C m f) (F : FnOk X.prog X.w X.K X.mg X.base CX k f fd ps sp) (hb : Binds X.K fd ps []) (c' : Cls X.K C') (hm' : Meth X.K C' m f') (F' : FnOk X.prog X.w X.K X.mg X.base CX k f' fd' ps sp') (hb' : Binds X.K fd' ps [])
    (hr : Room k X.A) (hx : Passes CX X E) (ha : PA X (e :: es) t)
    (hst : starEach (e :: es) X.env = (false, eval e X.env) :: starEach es X.env := by rfl) (hpl : (backTo pos (starEach es X.env)).any (·.1) = false := by rfl)
    (ht : eval (.Call (.Attribute o m apos) (e :: es) [] pos) X.env = (do
      let ov ← eval o X.env
      standAt apos.atName
      let (f, first) ← holding [ov] (getMethod ov m pl)
      callWith pos f first (backTo pos (starEach (e :: es) X.env)) (backToKw pos (keywordEach [] X.env))) := by rfl) :
    PE X (.Call (.Attribute o m apos) (e :: es) [] pos) (tMeth2 C C' m sp sp' E ta t) := by
  refine ⟨fun pins s σ H Q I h => ?_⟩
  refine PySem.W.methodCall_KW (pl := pl) (thn (he.run pins s σ H _ I h) fun u s1 ⟨x, H1, I1, rx, a, dx, fs, ex, l, q⟩ => ?_) ht
  subst ex
  obtain rfl : u = Value.ref a := rx
  rcases q with ⟨ea, q⟩ | ⟨ea, q⟩
  · refine getmeth_ok I1 ea c hm l ?_
    refine PySem.W.callWith_K (first := [.ref a]) (h₀ := X.base) I.ok.mod.kin hm.kp (thn (ha.run pos pins s1 σ H1 _ I1 q) fun us s2 ⟨vs, H2, I2, r, q2⟩ => ⟨I2.kIn, ?_⟩) hst hpl
    exact run_fn (us := .ref a :: us) (vs := .ref a :: vs) (dvs := []) F hr hb .nil hx I2 (.cons rfl r) q2
  · refine getmeth_ok I1 ea c' hm' l ?_
    refine PySem.W.callWith_K (first := [.ref a]) (h₀ := X.base) I.ok.mod.kin hm'.kp (thn (ha.run pos pins s1 σ H1 _ I1 q) fun us s2 ⟨vs, H2, I2, r, q2⟩ => ⟨I2.kIn, ?_⟩) hst hpl
    exact run_fn (us := .ref a :: us) (vs := .ref a :: vs) (dvs := []) F' hr hb' .nil hx I2 (.cons rfl r) q2
end
theorem not_t {b : Bool} (h : b = true) : (!b) = false := by rw [h]; rfl
theorem not_f {b : Bool} (h : b = false) : (!b) = true := by rw [h]; rfl
theorem isb {a b c d : Bool} (h : a = c) (h2 : decide (c = b) = d) : decide (a = b) = d := by rw [h]; exact h2
end RE
/-! what is called within an except suite: a comprehension over a range, the words about the caught error -/
namespace RE
open PySem PySem.Spec PyProof.Rows L2 L2H
/-- the block of a comprehension that bears the handled error -/
abbrev blkH (X : Cx) (p : Addr × Obj) (s : Shared) (H : Hp) (scope : Scope) (cenv : Env) (fp : List Addr) : Cx := { X.blk s H scope cenv fp with pn := [p] }
section
variable {X : Cx} {pins : List (Addr × Obj)} {σ : L2.St} {H : Hp} {s : Shared} {p : Addr × Obj}
theorem toBlkH {s0 s1 : Shared} {H0 : Hp} {scope : Scope} {cenv : Env} {fp : List Addr} {σ' : L2.St} {H' : Hp} (J : Inv (X.blk s0 H0 scope cenv fp) [] σ' H' s1)
    (hp : s1.heap.get? p.1 = some p.2 ∧ H' p.1 = none ∧ p.1 ≠ cenv.locals ∧ p.1 ∉ frs X.stack ∧ ∀ v, p.2.data ≠ .cell v) : Inv (blkH X p s0 H0 scope cenv fp) [] σ' H' s1 := by
  obtain ⟨k, a1, a2, a3, a4, a5, a6, a7, a8, a9, b1⟩ := J
  refine ⟨⟨k.mod, k.kind, k.glob, k.blt, k.above, k.inj, k.has, k.cab, k.hd, k.frames, k.stk, k.exf, k.bs, k.bsz, k.noex, k.exfs, k.funs, k.frf⟩, a1, a2, a3, a4, a5, a6, a7, fun q hq => ?_, a9, b1⟩
  obtain rfl : q = p := by simpa using (show q ∈ [p] ++ ([] : List (Addr × Obj)) from hq)
  exact hp
theorem hotBlk {s0 : Shared} {H0 : Hp} {scope : Scope} {cenv : Env} {fp : List Addr} (h : Hot1 X.A p) : HotC (blkH X p s0 H0 scope cenv fp) := ⟨p, h, List.mem_singleton.mpr rfl⟩
/-- a comprehension's run where an error is handled -/
theorem pe_lcH {elt tg iter : Expr} {ifs : List Expr} {scope : Scope} {own : List (Str × Nat)} {pos : Pos} {wi : TI} {g : TG} {tt : TT} {te : TE} (hc : HotC X) (hN : X.N.Nodup) (hi : PIH X tg iter wi) (ok : BlkOk X.N X.env.scope scope own)
    (hg : ∀ (q : Addr × Obj) (s : Shared) (H : Hp) (C : Addr) (cl : List (Str × Addr)) (fp : List Addr), PG (blkH X q s H scope (compEnvC scope cl C X.env) fp) tg g)
    (ht : ∀ (q : Addr × Obj) (s : Shared) (H : Hp) (C : Addr) (cl : List (Str × Addr)) (fp : List Addr), PTs (blkH X q s H scope (compEnvC scope cl C X.env) fp) ifs tt)
    (he : ∀ (q : Addr × Obj) (s : Shared) (H : Hp) (C : Addr) (cl : List (Str × Addr)) (fp : List Addr), PE (blkH X q s H scope (compEnvC scope cl C X.env) fp) elt te) (hs : ∀ x, foldedSetIterable iter X.env x = pure x := by intro _; rfl) :
    PE X (.ListComp elt [⟨tg, iter, ifs, 0⟩] scope pos) (tLc wi g tt te (own.map (·.2))) := by
  refine ⟨fun pins s σ H Q I h => ?_⟩
  rw [eval_ListComp]
  obtain ⟨q, hot, hq⟩ := hc
  have free1 : ∀ y ∈ scope.names, y.2 = .free → ∃ c, X.env.cells.lookup y.1 = some c := fun y hy e => (ok.free y hy e).elim (fun k => I.ok.has _ (.inl k)) (fun k => I.ok.has _ (.inr k))
  refine wpAny_comprehension_free (use := none) rfl hs (closure_ok free1) ok.kind (fun y hy e => by rw [ok.uniq y hy, e]) (thn (hi.run pins s σ H _ I h) fun xv sA hx => thn hx fun itv sB hB => ?_)
  obtain ⟨it, fp, tn, J, HB, e, IB, T, stB, fB, rest⟩ := hB
  subst e
  refine wpAny_newObj_type (newEnv_comp ?_) (by show 0 ≤ sizeLine; decide)
  generalize hD : sB.heap.objs.size = D
  have hDn : HB D = none := IB.hok.fresh (Nat.le_of_eq hD)
  obtain ⟨W, ⟨m0, w0⟩, turn⟩ := rest D hDn
  generalize hsC : ({ sB with heap := sB.heap.push { cls := .type "list", data := .seq ([] : List Value).toArray } } : Shared) = sC
  have hhC : sC.heap = sB.heap.push { cls := .type "list", data := .seq ([] : List Value).toArray } := by rw [← hsC]
  have IC : Inv X pins σ (upd HB D (.lst [])) sC := by
    rw [← hsC]
    refine IB.laid (t' := sB.toks) (fun b o e => Heap.get?_push_of_some _ e) (Nat.le_of_eq hD) ⟨Nat.zero_le _, [], 0, .nil, ?_⟩
    rw [← hD]
    exact Heap.get?_push_size _ rfl
  have below : ∀ b ∈ fp, b < sB.heap.objs.size := fun b hb => let ⟨_, e, _⟩ := T.obj _ _ stB b hb; Heap.lt_size e
  have fC : ∀ b ∈ fp, FpOk X pins (upd HB D (.lst [])) b ∧ b < sC.heap.objs.size := fun b hb => by
    have lt := below b hb
    refine ⟨⟨?_, (fB b hb).2⟩, by rw [hhC, Heap.size_push]; exact Nat.lt_succ_of_lt lt⟩
    rw [upd_ne (by rw [← hD]; exact Nat.ne_of_lt lt)]
    exact (fB b hb).1
  have stC : tn 0 sC.heap := T.keep _ _ _ stB fun b _ o e => by rw [hhC]; exact Heap.get?_push_of_some _ e
  have ID := block_start IC ok hN fC
  have pg := hg q sC (upd HB D (.lst [])) sC.heap.objs.size (cellsFrom (sC.heap.objs.size + 1) scope.names (cloFrom X.env.cells scope.names [])) fp
  have pt := ht q sC (upd HB D (.lst [])) sC.heap.objs.size (cellsFrom (sC.heap.objs.size + 1) scope.names (cloFrom X.env.cells scope.names [])) fp
  have pe := he q sC (upd HB D (.lst [])) sC.heap.objs.size (cellsFrom (sC.heap.objs.size + 1) scope.names (cloFrom X.env.cells scope.names [])) fp
  show codeAny _ _ (.compStart (.ListComp elt [⟨tg, iter, ifs, 0⟩] scope pos) 0 (.ref it) (.ref D) (compEnvC scope (cellsFrom (sC.heap.objs.size + 1) scope.names (cloFrom X.env.cells scope.names [])) sC.heap.objs.size X.env)) (compPost (model X.prog X.w) X.A X.xe none (EP X pins σ Q) (.ref D) sC.heap.objs.size) { sC with heap := pushCells (sC.heap.push { cls := .type "dict", data := .dict #[] }) scope.names }
  have nofp : ∀ b ∈ fp, (upd HB D (.lst [])) b = none := fun b hb => (fC b hb).1.1
  have pq := IC.pin q (List.mem_append_left _ hq)
  have szq : q.1 < sC.heap.objs.size := Heap.lt_size pq.1
  generalize hce : compEnvC scope (cellsFrom (sC.heap.objs.size + 1) scope.names (cloFrom X.env.cells scope.names [])) sC.heap.objs.size X.env = ce at ID pg pt pe ⊢
  have cL : ce.locals = sC.heap.objs.size := by subst hce; rfl
  have ID := toBlkH (p := q) ID ⟨pushCells_keeps _ _ _ _ (Heap.get?_push_of_some _ pq.1), pq.2.1, by rw [cL]; exact Nat.ne_of_lt szq, fun hm => (List.mem_cons.mp (IC.stkSub q.1 hm)).elim pq.2.2.1 pq.2.2.2.1, pq.2.2.2.2⟩
  generalize hHC : upd HB D (.lst []) = HC at IC ID pg pt pe w0 nofp fC pq
  generalize hsD : ({ sC with heap := pushCells (sC.heap.push { cls := .type "dict", data := .dict #[] }) scope.names } : Shared) = sD at ID ⊢
  have stD : tn 0 sD.heap := T.keep _ _ _ stC fun b _ o e => by rw [← hsD]; exact pushCells_keeps _ _ _ _ (Heap.get?_push_of_some _ e)
  have hotB : HotC (blkH X q sC HC scope ce fp) := hotBlk hot
  have fix : ∀ {σ' : L2.St} {H' : Hp} {s' : Shared}, Inv (blkH X q sC HC scope ce fp) [] σ' H' s' → (∀ b ∈ fp, H' b = none) → ∀ b ∈ fp, FpOk (blkH X q sC HC scope ce fp) [] H' b := fun {σ' H' s'} I' hn b hb =>
    ⟨hn b hb, (I'.ok.exf b hb).1, I'.ok.exfs b hb, .inl hb, fun x c e => (I'.ok.exf b hb).2 x c e, fun z hz => by
      obtain rfl : z = q := by simpa using (show z ∈ [q] ++ ([] : List (Addr × Obj)) from hz)
      exact (fC b hb).1.2.2.2.2.2 z (List.mem_append_left _ hq)⟩
  have loop : codeAny (model X.prog X.w) X.A (.compLoop (.ListComp elt [⟨tg, iter, ifs, 0⟩] scope pos) 0 (.ref it) (.ref D) ce) (compPost (model X.prog X.w) X.A X.xe none (EP X pins σ Q) (.ref D) sC.heap.objs.size) sD := by
    refine compLoop_any (fun n s' => ∃ i H', Inv (blkH X q sC HC scope ce fp) [] (wipe σ (own.map (·.2))) H' s' ∧ tn i s'.heap ∧ (∀ b ∈ fp, H' b = none) ∧ W i n H') ?_ m0 ⟨0, HC, ID, stD, nofp, w0⟩
    rintro n s5 ⟨i, H5, I5, st5, n5, w5⟩
    rcases turn i n H5 w5 with ⟨stop, qq⟩ | ⟨go, Nx, hNx, step⟩
    · refine thnF (T.done (blkH X q sC HC scope ce fp) rfl rfl rfl hotB i [] s5 _ H5 (fun _ _ => False) I5 (fix I5 n5) st5 stop) fun r s6 ⟨hr, I6⟩ => ?_
      subst hr
      have I7 : Inv X pins σ H5 s6 := IC.call' (ch := fp) I6.os I6.base I6.hok I6.bare fun b hb => ⟨(fC b hb).1.2.2.2.1, (fC b hb).1.2.1, (fC b hb).1.2.2.2.2.1, (fC b hb).1.2.2.2.2.2⟩
      have nC : H5 sC.heap.objs.size = none := by
        have z : H5 ce.locals = none := I6.free
        rw [cL] at z
        exact z
      obtain ⟨m, hn, _⟩ := I6.loc
      have hn : s6.heap.Ns ce.locals m := hn
      rw [cL] at hn
      obtain ⟨f0, f1, f2, f3, f4, f5⟩ := IC.fpOk (Nat.le_refl _) nC
      exact ⟨m, hn, fun h'' sb => ⟨.ref D, H5, I7.turned (t' := s6.toks) (fun b o hb e => (sb.2 b hb).trans e) f0 f1 f3 f4 f5, rfl, qq⟩⟩
    · refine thnF (T.item (blkH X q sC HC scope ce fp) rfl rfl rfl hotB i [] s5 _ H5 (fun _ _ => False) I5 (fix I5 n5) st5 go) fun r s6 ⟨u, hr, h6⟩ => ?_
      subst hr
      refine thnF h6 fun _ s7 ⟨x, H7, I7, r7, y7, st7, n7⟩ => ?_
      have I7' := I7.pinned (fix I7 n7) (T.obj _ _ st7)
      refine thnF (pg.run _ s7 _ H7 x u _ I7' r7 (step x H7 y7)) fun _ s8 ⟨σ8, H8, I8, hw8, q8⟩ => ?_
      refine thnF (pt.run _ s8 σ8 H8 _ I8 q8) fun b s9 ⟨H9, I9, q9⟩ => ?_
      have fin : ∀ {s' : Shared} {H' : Hp}, Inv (blkH X q sC HC scope ce fp) ([] ++ pinsAt fp s7.heap) σ8 H' s' → Nx H' → ∃ m, m < n ∧ ∃ i H', Inv (blkH X q sC HC scope ce fp) [] (wipe σ (own.map (·.2))) H' s' ∧ tn i s'.heap ∧ (∀ b ∈ fp, H' b = none) ∧ W i m H' := fun {s' H'} I' nx => by
        obtain ⟨m', hm, w'⟩ := hNx H' nx
        have still : ∀ b ∈ fp, ∀ o, s7.heap.get? b = some o → s'.heap.get? b = some o ∧ H' b = none := fun b hb o e =>
          let z := I'.pin (b, o) (List.mem_append_right _ (List.mem_append_right _ (mem_pinsAt hb e)))
          ⟨z.1, z.2.1⟩
        have hl : (wipe σ (own.map (·.2))).length = σ8.length := by rw [← hw8, wipe_length]
        refine ⟨m', hm, i + 1, H', (I'.unpinned (pins := [])).weak hl (fun j v e => ?_), T.keep _ _ _ st7 fun b hb o e => (still b hb o e).1, fun b hb => ?_, w'⟩
        · rw [← hw8] at e
          exact (wipe_some e).1
        · obtain ⟨o, e, _⟩ := T.obj _ _ st7 b hb
          exact (still b hb o e).2
      cases b with
      | false =>
        simp only [Bool.false_eq_true, if_false] at q9 ⊢
        exact fin I9 q9
      | true =>
        simp only [if_true] at q9 ⊢
        refine thnF (pe.run _ s9 σ8 H9 _ I9 q9) fun z s10 ⟨yv, H10, I10, r10, acc, hD10, hz10, nx⟩ => ?_
        exact app_ok (X := blkH X q sC HC scope ce fp) I10 hD10 hz10 r10 fun s11 I11 => fin I11 nx
  exact codeAny_compStart_list loop (T.self X.A 0 _ _ _ stD loop)
end
end RE
/-! defs called where a known error is handled; functions as values -/
namespace RE
open PySem PySem.Spec PyProof.Rows L2 L2H
/-- f keeps the promise sp while p's object is handled -/
structure FnP (P : Program) (w : World) (K : PySem.W.Frag) (mg : Str → Option Value) (base : Heap) (k : Nat) (f : Addr) (fd : FuncData) (ps : List Str) (p : Addr × Obj) (sp : Sp) : Prop where
  len : ∀ vs H Q E, sp vs H Q E → vs.length = ps.length
  run : ∀ (A : Around) (outer : List Env) (s : Shared) (H : Hp) (args : Args) (us : List Value) (vs : List V) (Q : VK) (E : XK), RoomH k A → Hot1 A p → PinOk outer H s p → Env0 P w K mg base A outer s H → BindsTo s fd args (ps.zip us) → Vals vs us → sp vs H Q E →
    codeAny (model P w) A (.call (.ref f) args) (CR CX0 outer P w H s Q E) s
theorem Fun.okP {P : Program} {w : World} {K : PySem.W.Frag} {mg : Str → Option Value} {base : Heap} {x qual : Str} {st : Stmt} {f : Addr} {fd : FuncData} {N ps : List Str} {k : Nat} {p : Addr × Obj} {sp : Sp} (F : L2.Fun K x qual st f fd) (S : FnScope N ps (defScope st)) (len : ∀ vs H Q E, sp vs H Q E → vs.length = ps.length)
    (hbody : ∀ (cdv : Value) (A : Around) (outer : List Env) (s : Shared) (H : Hp) (vs : List V) (Q : VK) (E : XK), Hot1 A p → RoomH k (A.deeper (envOfC qual (defScope st) s.heap.objs.size f cdv)) → sp vs H Q E →
      ∃ t, PSs (cxH CX0 P w K mg base N qual (defScope st) f cdv A outer s H E p) (defBody st) t ∧ t { nx := fun _ H' => Q .non H', rt := Q } (L2.start N vs) H) :
    FnP P w K mg base (k + 1) f fd ps p sp := by
  obtain ⟨oc, od, kV, doc, pm, an, cdv, ct, osl, rfl, lk, hcd⟩ := F.ex
  refine ⟨len, fun A outer s H args us vs Q E hr hot hpin e0 hb r hsp => ?_⟩
  have KX : K.In s.heap := e0.mod.kin.keeps fun b o e => (e0.bs b o e).1
  have lim : s.heap.NoLimit := e0.mod.nolimit.keeps fun b o e => (e0.bs b o e).1
  refine codeAny_call_function hr.depth (KX _ _ lk) rfl S.co S.gen rfl (PySem.W.codeRec_of KX hcd) (hb _ _ _ _ ?_)
  refine wpAny_newFunctionEnv_cells S.kind (fun ⟨n, v⟩ hy => (S.par n (List.of_mem_zip hy).1).elim .inl fun q => .inr ⟨q, PySem.W.cellsFrom_some _ _ _ (.inl q)⟩) fun env he s1 x => ?_
  subst he
  refine ⟨lim.keeps x.toInCall.keep, codeAny_func ?_⟩
  obtain ⟨t, ht, hq⟩ := hbody cdv A outer s H vs Q E hot (hr.deeper _) hsp
  have I := inv_startH (CX := CX0) (E := E) S hpin e0 (len _ _ _ _ hsp) r x
  refine wpAny_mono (ht.run [] s1 (L2.start N vs) H _ I hq) (fun fl s' hs => ?_) fun e s' hs => hs
  cases fl with
  | ret u =>
    obtain ⟨v, σ', H', J, rv, q⟩ := hs
    exact ⟨v, H', J.os, J.bare, J.base, J.hok, rv, q⟩
  | next =>
    obtain ⟨σ', H', J, q⟩ := hs
    exact ⟨.non, H', J.os, J.bare, J.base, J.hok, rfl, q⟩
  | brk => exact hs.elim fun _ z => z.elim fun _ z => z.2.elim
  | cont => exact hs.elim fun _ z => z.elim fun _ z => z.2.elim
section
variable {X : Cx} {k : Nat} {f : Addr} {fd : FuncData} {ps : List Str} {sp : Sp} {x : Str} {q pos : Pos} {e : Expr} {es : List Expr} {t : TA} {p : Addr × Obj}
theorem pe_callP (F : FnP X.prog X.w X.K X.mg X.base k f fd ps p sp) (hr : RoomH k X.A) (hot : Hot1 X.A p) (hp : p ∈ X.pn) (hg : Gl X x) (hm : X.mg x = some (.ref f)) (hk : PySem.W.keepIn X.K (.ref f) = true) (hb : Binds X.K fd ps [])
    (ha : PA X (e :: es) t) (hdb : (x == ("__debug__" : Str)) = false := by decide) (he : starEach (e :: es) X.env = (false, eval e X.env) :: starEach es X.env := by rfl) (hpl : (backTo pos (starEach es X.env)).any (·.1) = false := by rfl) :
    PE X (.Call (.Name x q) (e :: es) [] pos) (tCall sp [] E0 t) := by
  refine ⟨fun pins s σ H Q I h => ?_⟩
  refine wpAny_Call_Name_kw (ld_glob I hg hm ?_ hdb)
  refine PySem.W.callWith_K (h₀ := X.base) I.ok.mod.kin hk (thn (ha.run pos pins s σ H _ I h) fun us s1 ⟨vs, H1, I1, r, z⟩ => ⟨I1.kIn, ?_⟩) he hpl
  have z : sp (vs ++ []) H1 Q E0 := z
  rw [List.append_nil] at z
  have hl : us.length = ps.length := r.length.symm.trans (F.len _ _ _ _ z)
  have b := hb s1 us I1.kIn (by rw [List.append_nil]; exact hl)
  rw [List.append_nil] at b
  have g := I1.pin p (List.mem_append_left _ hp)
  have pk : PinOk X.stack H1 s1 p := ⟨g.1, g.2.1, fun hm => (List.mem_cons.mp (I1.stkSub p.1 hm)).elim g.2.2.1 g.2.2.2.1, g.2.2.2.2⟩
  refine wpAny_call (codeAny_mono (F.run X.A X.stack s1 H1 ⟨us, []⟩ us vs Q E0 hr hot pk I1.env0 b r z) fun y s' hq => ?_)
  cases y with
  | error er => exact False.elim hq
  | ok fl =>
    cases fl with
    | ret u => exact I1.after hq
    | next => exact hq.elim
    | brk => exact hq.elim
    | cont => exact hq.elim
/-- isinstance of the handled error -/
def rIsP (K : PySem.W.Frag) (cls : Value) (d : Option Addr) (a : Addr) : List V → Hp → VK → Prop := fun xs H Q => ∃ (D : Addr) (c : V) (cv : Value) (b : Bool), cls = .ref D ∧ d = none ∧ ExcC K D ∧ xs = [.ref a, c] ∧ ClsV c cv ∧ PySem.W.kitOne K (.ref D) cv = some b ∧ Q (.bl b) H
theorem call_isP {cls : Value} {d : Option Addr} (hp : p ∈ X.pn) (hz : Zc cls d p.2) (hf : ∃ vs, p.2.data = .fields vs) : CallR X (.builtin "isinstance") (rIsP X.K cls d p.1) := by
  intro pins s σ H xs us Q I r ⟨D, c, cv, b, e1, e2, C, ex, hc, hk, q⟩
  subst e1 e2 ex
  cases r with
  | cons rx rr =>
    cases rr with
    | cons rt rr =>
      cases rr
      cases rx
      obtain rfl := hc.eq rt
      have hget := (I.pin p (List.mem_append_left _ hp)).1
      obtain ⟨vs, hv⟩ := hf
      obtain ⟨a, oe⟩ := p
      have J : PySem.W.InstAt s.heap a oe D none := by
        obtain ⟨oc, od, oda, osl⟩ := oe
        obtain ⟨h1, h2⟩ := hz
        dsimp only at h1 h2 hv
        subst h1 h2 hv
        exact ⟨hget, rfl, rfl, trivial⟩
      exact PySem.W.kia_one (PySem.W.handS_kitx_exc C.hg C.hk C.hs C.hd C.ha C.hn C.ht C.hm) I.kIn J hk (fun z => nomatch z) fun tk => ⟨.bl b, H, I.kept (t' := tk) fun _ _ z => z, rfl, q⟩
theorem hot_suite {a : Addr} {oe : Obj} {cls : Value} {d : Option Addr} {A : Around} (hz : L2N.Zn cls d oe) (hf : ∃ vs, oe.data = .fields vs) : Hot1 (A.mark (some (.ref a))) (a, oe) := by
  obtain ⟨vs, e⟩ := hf
  exact ⟨rfl, vs, e, hz.2.2 vs e⟩
theorem roomH_suite {a : Addr} {A : Around} (r : Room k A) : RoomH k (A.mark (some (.ref a))) := ⟨r.dp, r.un⟩
end
/-! ### functions as values -/
def CanX (P : Program) (w : World) (K : PySem.W.Frag) (mg : Str → Option Value) (base : Heap) (CX : CXT) (k : Nat) (f : Addr) (sp : Sp) : Prop := ∃ fd ps, FnOk P w K mg base CX k f fd ps sp ∧ Binds K fd ps [] ∧ PySem.W.keepIn K (.ref f) = true
section
variable {X : Cx} {k : Nat} {CX : CXT} {E : L2.St → XK} {fx : Expr} {tf : TE} {pos : Pos} {e : Expr} {es : List Expr} {t : TA}
/-- fx(..): what fx tells may be called -/
def tCallV (P : Program) (w : World) (K : PySem.W.Frag) (mg : Str → Option Value) (base : Heap) (CX : CXT) (k : Nat) (E : L2.St → XK) (tf : TE) (t : TA) : TE := fun σ H Q => tf σ H fun v H1 => ∃ (f : Addr) (sp : Sp), v = .ref f ∧ CanX P w K mg base CX k f sp ∧ t σ H1 fun vs H2 => sp vs H2 Q (E σ)
theorem pe_callV (hfx : PE X fx tf) (hr : Room k X.A) (hx : ∀ σ, PassesAt CX X σ (E σ)) (ha : PA X (e :: es) t)
    (hev : eval (.Call fx (e :: es) [] pos) X.env = (do callWith pos (← eval fx X.env) [] (backTo pos (starEach (e :: es) X.env)) (backToKw pos (keywordEach [] X.env))) := by rfl)
    (he : starEach (e :: es) X.env = (false, eval e X.env) :: starEach es X.env := by rfl) (hpl : (backTo pos (starEach es X.env)).any (·.1) = false := by rfl) :
    PE X (.Call fx (e :: es) [] pos) (tCallV X.prog X.w X.K X.mg X.base CX k E tf t) := by
  refine ⟨fun pins s σ H Q I h => Call_ (thn (hfx.run pins s σ H _ I h) fun u s1 ⟨v, H1, I1, r1, f, sp, ev, ⟨fd, ps, F, hb, hk⟩, ht⟩ => ?_) hev⟩
  subst ev
  cases r1
  refine PySem.W.callWith_K (h₀ := X.base) I.ok.mod.kin hk (thn (ha.run pos pins s1 σ H1 _ I1 ht) fun us s2 ⟨vs, H2, I2, r, z⟩ => ⟨I2.kIn, ?_⟩) he hpl
  have hl : us.length = ps.length := r.length.symm.trans (F.len _ _ _ _ z)
  have b := hb s2 us I2.kIn (by rw [List.append_nil]; exact hl)
  rw [List.append_nil] at b
  refine wpAny_call (codeAny_mono (F.run X.A X.stack s2 H2 ⟨us, []⟩ us vs Q (E σ) hr I2.env0 b r z) fun y s' hq => ?_)
  cases y with
  | error er => exact hx σ pins H2 s2 er s' I2 hq
  | ok fl =>
    cases fl with
    | ret u => exact I2.after hq
    | next => exact hq.elim
    | brk => exact hq.elim
    | cont => exact hq.elim
end
theorem passAtOf {X : Cx} {CX : CXT} {E : XK} (h : Passes CX X E) (σ : L2.St) : PassesAt CX X σ E := fun pins H s e s' I c => h pins σ H s e s' I c
theorem unitsH {k : Nat} {A : Around} (r : RoomH k A) : A.units + 64 < cLine := by have := r.un; omega
/-! ### errors with no context -/
theorem passN {X : Cx} : Passes (L2N.CX X.prog X.w) X E0 := fun _ _ _ _ _ _ _ h => by
  obtain ⟨_, _, _, _, _, _, _, _, _, _, _, _, z⟩ := h
  exact z.elim
theorem takesN {X : Cx} : L2N.Takes X (fun _ _ _ _ => False) := fun _ _ x => by
  obtain ⟨_, _, _, _, _, _, _, _, _, _, _, _, _, _, _, _, z⟩ := x
  exact z.elim
theorem Fun.okN {P : Program} {w : World} {K : PySem.W.Frag} {mg : Str → Option Value} {base : Heap} {x qual : Str} {st : Stmt} {f : Addr} {fd : FuncData} {N ps : List Str} {k : Nat} {sp : Sp} (F : L2.Fun K x qual st f fd) (S : FnScope N ps (defScope st)) (len : ∀ vs H Q E, sp vs H Q E → vs.length = ps.length)
    (hb : ∀ (cdv : Value) (A : Around) (outer : List Env) (s : Shared) (H : Hp) (vs : List V) (Q : VK) (E : XK), Room k (A.deeper (envOfC qual (defScope st) s.heap.objs.size f cdv)) → sp vs H Q E →
      ∃ t, PSs (cxOf (L2N.CX P w) P w K mg base N qual (defScope st) f cdv A outer s H E) (defBody st) t ∧ t { nx := fun _ H' => Q .non H', rt := Q } (start N vs) H) : FnOk P w K mg base (L2N.CX P w) (k + 1) f fd ps sp := by
  obtain ⟨oc, od, kV, doc, pm, an, cdv, ct, osl, rfl, lk, hcd⟩ := F.ex
  exact fn_of lk hcd S len fun A outer s H vs Q E hr hsp => hb cdv A outer s H vs Q E hr hsp
end RE
/-! plans: plain -/
namespace RE
open PySem PySem.Spec PyProof.Rows L2
/-- a line of a plan: where the stretch begins, where it ends, which end -/
abbrev Tri := Int × Int × Str
def triV (t : Tri) : List V := [.int t.1, .int t.2.1, .str t.2.2]
def sideOk (s : Str) : Bool := decide (s = "left") || decide (s = "right")
def triOk (n : Nat) (t : Tri) : Bool := decide (0 ≤ t.1) && (decide (t.1 < t.2.1) && (decide (t.2.1 ≤ (n : Int)) && sideOk t.2.2))
/-- not behind, by both numbers -/
def notAfter (a b : Int × Int) : Bool := if a.1 = b.1 then decide (a.2 ≤ b.2) else decide (a.1 ≤ b.1)
def lastBad (t : Tri) : Option (Int × Int) → Bool
  | none => false
  | some l => notAfter (t.1, t.2.1) l
def tabOk (n : Nat) : Option (Int × Int) → List Tri → Bool
  | _, [] => true
  | last, t :: r => triOk n t && (!lastBad t last && tabOk n (some (t.1, t.2.1)) r)
theorem tabOk_nil (n : Nat) (l : Option (Int × Int)) : tabOk n l [] = true := rfl
theorem tabOk_cons (n : Nat) (l : Option (Int × Int)) (t : Tri) (r : List Tri) : tabOk n l (t :: r) = (triOk n t && (!lastBad t l && tabOk n (some (t.1, t.2.1)) r)) := rfl
/-- the end that a plan tells for a stretch -/
def look (p : List Tri) (a b : Int) : Option Str := (p.reverse.find? fun t => decide (t.1 = a) && decide (t.2.1 = b)).map (·.2.2)
theorem look_nil (a b : Int) : look [] a b = none := rfl
theorem look_app (p : List Tri) (t : Tri) (a b : Int) : look (p ++ [t]) a b = if t.1 = a ∧ t.2.1 = b then some t.2.2 else look p a b := by
  unfold look
  rw [List.reverse_append, List.reverse_singleton, List.singleton_append, List.find?_cons]
  by_cases h : t.1 = a ∧ t.2.1 = b
  · rw [if_pos h, decide_eq_true h.1, decide_eq_true h.2]
    rfl
  · rw [if_neg h]
    have e : (decide (t.1 = a) && decide (t.2.1 = b)) = false := by
      by_cases c1 : t.1 = a
      · rw [decide_eq_false (fun c2 => h ⟨c1, c2⟩), Bool.and_false]
      · rw [decide_eq_false c1, Bool.false_and]
    rw [e]
theorem look_mem {p : List Tri} {a b : Int} {s : Str} (h : look p a b = some s) : (a, b, s) ∈ p := by
  unfold look at h
  obtain ⟨t, ht, rfl⟩ := Option.map_eq_some_iff.mp h
  have h1 := List.find?_some ht
  have h2 := List.mem_reverse.mp (List.mem_of_find?_eq_some ht)
  have h3 := Bool.and_eq_true_iff.mp h1
  have e1 : t.1 = a := of_decide_eq_true h3.1
  have e2 : t.2.1 = b := of_decide_eq_true h3.2
  subst e1 e2
  exact h2
theorem look_of {p : List Tri} {a b : Int} {s : Str} (h : (a, b, s) ∈ p) (u : ∀ s', (a, b, s') ∈ p → s' = s) : look p a b = some s := by
  cases e : look p a b with
  | some s' => rw [u s' (look_mem e)]
  | none =>
    unfold look at e
    have e' := Option.map_eq_none_iff.mp e
    have q := List.find?_eq_none.mp e' (a, b, s) (List.mem_reverse.mpr h)
    simp at q
def sideB (s : Str) : Bool := decide (s = "left")
theorem side_of {s : Str} (h : sideOk s = true) : s = sideS (sideB s) := by
  unfold sideOk at h
  unfold sideB
  by_cases c : s = "left"
  · rw [decide_eq_true c]
    exact c
  · rw [decide_eq_false c] at h ⊢
    exact of_decide_eq_true h
theorem sideB_sideS (b : Bool) : sideB (sideS b) = b := by cases b <;> decide +kernel
theorem sideOk_sideS (b : Bool) : sideOk (sideS b) = true := by cases b <;> decide +kernel
theorem tabOk_all {n : Nat} : ∀ {p : List Tri} {l : Option (Int × Int)}, tabOk n l p = true → ∀ t ∈ p, triOk n t = true
  | [], _, _, t, h => (nomatch h)
  | u :: r, l, h, t, ht => by
    rw [tabOk_cons] at h
    have h1 := Bool.and_eq_true_iff.mp h
    rcases List.mem_cons.mp ht with rfl | ht
    · exact h1.1
    · exact tabOk_all (Bool.and_eq_true_iff.mp h1.2).2 t ht
theorem triOk_side {n : Nat} {t : Tri} (h : triOk n t = true) : sideOk t.2.2 = true := (Bool.and_eq_true_iff.mp (Bool.and_eq_true_iff.mp (Bool.and_eq_true_iff.mp h).2).2).2
/-- the table as ends -/
def tabF (p : List Tri) (low behind : Nat) : Option Bool := (look p (low : Int) (behind : Int)).map sideB
/-- how much more the planner gets from a stretch at the least -/
def gotV (ns : List Int) (f : Nat → Nat → Option Bool) : Nat → Nat → Bool → Option Int
  | 0, _, _ => some 0
  | m + 1, low, true => (f low (low + (m + 1))).bind fun b => (gotV ns f m (lowOf b low) false).bind fun r => some (r + coinOf ns b low m)
  | m + 1, low, false => (gotV ns f m (low + 1) true).bind fun r1 => (gotV ns f m low true).bind fun r2 =>
      some (if r2 + -coinOf ns false low m < r1 + -coinOf ns true low m then r2 + -coinOf ns false low m else r1 + -coinOf ns true low m)
theorem gotV_zero (ns : List Int) (f : Nat → Nat → Option Bool) (low : Nat) (b : Bool) : gotV ns f 0 low b = some 0 := rfl
theorem gotV_mine (ns : List Int) (f : Nat → Nat → Option Bool) (m low : Nat) : gotV ns f (m + 1) low true = (f low (low + (m + 1))).bind fun b => (gotV ns f m (lowOf b low) false).bind fun r => some (r + coinOf ns b low m) := rfl
theorem gotV_his (ns : List Int) (f : Nat → Nat → Option Bool) (m low : Nat) : gotV ns f (m + 1) low false = (gotV ns f m (low + 1) true).bind fun r1 => (gotV ns f m low true).bind fun r2 =>
      some (if r2 + -coinOf ns false low m < r1 + -coinOf ns true low m then r2 + -coinOf ns false low m else r1 + -coinOf ns true low m) := rfl
def optV : Option Int → V
  | none => .non
  | some i => .int i
def plannedV (ns : List Int) (p : List Tri) (mine : Bool) : Option Int := if tabOk ns.length none p = true then gotV ns (tabF p) ns.length 0 mine else none
def showsV (ns : List Int) (p : List Tri) (first : Bool) (least : Int) : Bool :=
  match plannedV ns p first with
  | none => false
  | some v => if first then decide (least ≤ v) else decide (-v < least)
/-! ### plans that are told -/
def bestEnd (ns : List Int) (low m : Nat) : Bool := (ends ns (m + 1) low).headD true
theorem bestEnd_mem (ns : List Int) (low m : Nat) : bestEnd ns low m ∈ ends ns (m + 1) low := by
  unfold bestEnd
  cases e : ends ns (m + 1) low with
  | nil => exact absurd e (ends_ne ns m low)
  | cons b l => exact List.mem_cons_self
theorem bestEnd_at (ns : List Int) (low m : Nat) : (sidesV (ends ns (m + 1) low))[0]? = some (.str (sideS (bestEnd ns low m))) := by
  unfold bestEnd
  cases e : ends ns (m + 1) low with
  | nil => exact absurd e (ends_ne ns m low)
  | cons b l => rfl
def parOf (first : Bool) : Nat := if first then 0 else 1
/-- whether a line stands for the stretch of k + 1 coins from low on -/
def lineB (n : Nat) (first : Bool) (k : Nat) : Bool := decide ((n - (k + 1)) % 2 = parOf first)
def lineV (ns : List Int) (low k : Nat) : Tri := ((low : Int), ((low + (k + 1) : Nat) : Int), sideS (bestEnd ns low k))
def chunk (ns : List Int) (first : Bool) (low : Nat) (j : Nat) : List Tri := ((List.range j).filter (lineB ns.length first)).map (lineV ns low)
def planTo (ns : List Int) (first : Bool) (i : Nat) : List Tri := (List.range i).flatMap fun low => chunk ns first low (ns.length - low)
def planV (ns : List Int) (first : Bool) : List Tri := planTo ns first ns.length
theorem planTo_succ (ns : List Int) (first : Bool) (i : Nat) : planTo ns first (i + 1) = planTo ns first i ++ chunk ns first i (ns.length - i) := by
  unfold planTo
  rw [List.range_succ, List.flatMap_append]
  simp
theorem chunk_succ (ns : List Int) (first : Bool) (low j : Nat) : chunk ns first low (j + 1) = chunk ns first low j ++ (if lineB ns.length first j = true then [lineV ns low j] else []) := by
  unfold chunk
  rw [List.range_succ, List.filter_append, List.map_append]
  congr 1
  by_cases c : lineB ns.length first j = true
  · rw [if_pos c]
    simp [c]
  · rw [if_neg c]
    simp [c]
theorem chunk_zero (ns : List Int) (first : Bool) (low : Nat) : chunk ns first low 0 = [] := rfl
theorem mem_planV {ns : List Int} {first : Bool} {t : Tri} : t ∈ planV ns first ↔ ∃ low k, low + (k + 1) ≤ ns.length ∧ lineB ns.length first k = true ∧ t = lineV ns low k := by
  unfold planV planTo chunk
  constructor
  · intro h
    obtain ⟨low, h1, h⟩ := List.mem_flatMap.mp h
    obtain ⟨k, h2, rfl⟩ := List.mem_map.mp h
    have h3 := List.mem_filter.mp h2
    have h4 := List.mem_range.mp h3.1
    have h5 := List.mem_range.mp h1
    exact ⟨low, k, by omega, h3.2, rfl⟩
  · rintro ⟨low, k, h, hb, rfl⟩
    exact List.mem_flatMap.mpr ⟨low, List.mem_range.mpr (by omega), List.mem_map.mpr ⟨k, List.mem_filter.mpr ⟨List.mem_range.mpr (by omega), hb⟩, rfl⟩⟩
theorem chunk_le (ns : List Int) (first : Bool) (low j : Nat) : (chunk ns first low j).length ≤ j := by
  unfold chunk
  rw [List.length_map]
  have := List.length_filter_le (lineB ns.length first) (List.range j)
  rw [List.length_range] at this
  exact this
theorem planTo_le (ns : List Int) (first : Bool) : ∀ i, (planTo ns first i).length ≤ i * ns.length
  | 0 => Nat.zero_le _
  | i + 1 => by
    rw [planTo_succ, List.length_append, Nat.succ_mul]
    have h1 := planTo_le ns first i
    have h2 := chunk_le ns first i (ns.length - i)
    omega
/-- strictly ahead -/
def ahead (s t : Tri) : Prop := s.1 < t.1 ∨ (s.1 = t.1 ∧ s.2.1 < t.2.1)
theorem ahead_ok {s t : Tri} (h : ahead s t) : lastBad t (some (s.1, s.2.1)) = false := by
  unfold lastBad notAfter
  show (if t.1 = s.1 then decide (t.2.1 ≤ s.2.1) else decide (t.1 ≤ s.1)) = false
  rcases h with h | ⟨h1, h2⟩
  · rw [if_neg (by omega)]
    exact decide_eq_false (by omega)
  · rw [if_pos h1.symm]
    exact decide_eq_false (by omega)
theorem tabOk_of {n : Nat} : ∀ {p : List Tri} {l : Option (Int × Int)}, (∀ t ∈ p, triOk n t = true) → p.Pairwise ahead → (∀ t ∈ p, lastBad t l = false) → tabOk n l p = true
  | [], _, _, _, _ => rfl
  | t :: r, l, h1, h2, h3 => by
    have h2' := List.pairwise_cons.mp h2
    rw [tabOk_cons, h1 t List.mem_cons_self, h3 t List.mem_cons_self, tabOk_of (fun u hu => h1 u (List.mem_cons_of_mem _ hu)) h2'.2 (fun u hu => ahead_ok (h2'.1 u hu))]
    rfl
theorem planV_ahead (ns : List Int) (first : Bool) : (planV ns first).Pairwise ahead := by
  unfold planV planTo
  rw [List.pairwise_flatMap]
  refine ⟨fun low _ => ?_, ?_⟩
  · unfold chunk
    rw [List.pairwise_map]
    refine (List.Pairwise.filter _ List.pairwise_lt_range).imp ?_
    intro a b h
    exact .inr ⟨rfl, by show ((low + (a + 1) : Nat) : Int) < ((low + (b + 1) : Nat) : Int); omega⟩
  · refine List.pairwise_lt_range.imp ?_
    intro a b h x hx y hy
    unfold chunk at hx hy
    obtain ⟨k, _, rfl⟩ := List.mem_map.mp hx
    obtain ⟨k', _, rfl⟩ := List.mem_map.mp hy
    exact .inl (by show (a : Int) < (b : Int); omega)
theorem planV_ok (ns : List Int) (first : Bool) : tabOk ns.length none (planV ns first) = true := by
  refine tabOk_of (fun t ht => ?_) (planV_ahead ns first) (fun _ _ => rfl)
  obtain ⟨low, k, h, _, rfl⟩ := mem_planV.mp ht
  unfold triOk lineV
  show (decide ((0 : Int) ≤ (low : Int)) && (decide ((low : Int) < ((low + (k + 1) : Nat) : Int)) && (decide (((low + (k + 1) : Nat) : Int) ≤ (ns.length : Int)) && sideOk (sideS (bestEnd ns low k))))) = true
  rw [decide_eq_true (by omega), decide_eq_true (by omega), decide_eq_true (by omega), sideOk_sideS]
  rfl
theorem planV_look {ns : List Int} {first : Bool} {low k : Nat} (h : low + (k + 1) ≤ ns.length) (hb : lineB ns.length first k = true) : tabF (planV ns first) low (low + (k + 1)) = some (bestEnd ns low k) := by
  unfold tabF
  have e : look (planV ns first) (low : Int) ((low + (k + 1) : Nat) : Int) = some (sideS (bestEnd ns low k)) := by
    refine look_of (mem_planV.mpr ⟨low, k, h, hb, rfl⟩) fun s' hs => ?_
    obtain ⟨low', k', _, _, e⟩ := mem_planV.mp hs
    have e1 : (low : Int) = (low' : Int) := congrArg (fun t : Tri => t.1) e
    have e2 : ((low + (k + 1) : Nat) : Int) = ((low' + (k' + 1) : Nat) : Int) := congrArg (fun t : Tri => t.2.1) e
    have e3 : s' = sideS (bestEnd ns low' k') := congrArg (fun t : Tri => t.2.2) e
    have e4 : low' = low := by omega
    have e5 : k' = k := by omega
    rw [e3, e4, e5]
  rw [e]
  exact congrArg some (sideB_sideS _)
theorem gotV_plan (ns : List Int) (first : Bool) : ∀ m low, low + m ≤ ns.length →
    ((ns.length - m) % 2 = parOf first → gotV ns (tabF (planV ns first)) m low true = some (wv ns m low)) ∧
    (¬ (ns.length - m) % 2 = parOf first → gotV ns (tabF (planV ns first)) m low false = some (-wv ns m low))
  | 0, low, _ => by
    rw [wv_zero, gotV_zero, gotV_zero]
    exact ⟨fun _ => rfl, fun _ => rfl⟩
  | m + 1, low, h => by
    have hp : parOf first < 2 := by cases first <;> decide
    constructor
    · intro hpar
      rw [gotV_mine, planV_look h (decide_eq_true hpar)]
      have hb := ends_best (bestEnd_mem ns low m)
      have hl := lowOf_le (bestEnd ns low m) low m
      have ih := (gotV_plan ns first m (lowOf (bestEnd ns low m) low) (by omega)).2 (by omega)
      show ((gotV ns (tabF (planV ns first)) m (lowOf (bestEnd ns low m) low) false).bind fun r => some (r + coinOf ns (bestEnd ns low m) low m)) = _
      rw [ih]
      show some (-wv ns m (lowOf (bestEnd ns low m) low) + coinOf ns (bestEnd ns low m) low m) = _
      congr 1
      omega
    · intro hpar
      have ih1 := (gotV_plan ns first m (low + 1) (by omega)).1 (by omega)
      have ih2 := (gotV_plan ns first m low (by omega)).1 (by omega)
      rw [gotV_his, ih1, ih2]
      show some (if wv ns m low + -coinOf ns false low m < wv ns m (low + 1) + -coinOf ns true low m then wv ns m low + -coinOf ns false low m else wv ns m (low + 1) + -coinOf ns true low m) = _
      have e1 : coinOf ns true low m = ns.getD low 0 := rfl
      have e2 : coinOf ns false low m = ns.getD (low + m) 0 := rfl
      rw [wv_succ, e1, e2]
      congr 1
      split <;> split <;> omega
theorem planned_first (ns : List Int) : plannedV ns (planV ns true) true = some (wv ns ns.length 0) := by
  unfold plannedV
  rw [if_pos (planV_ok ns true)]
  exact (gotV_plan ns true ns.length 0 (by omega)).1 (by rw [Nat.sub_self]; rfl)
theorem planned_other (ns : List Int) : plannedV ns (planV ns false) false = some (-wv ns ns.length 0) := by
  unfold plannedV
  rw [if_pos (planV_ok ns false)]
  exact (gotV_plan ns false ns.length 0 (by omega)).2 (by rw [Nat.sub_self]; show ¬ (0 % 2 = 1); decide)
/-- a plan told for a row shows what it tells -/
theorem shows_first (ns : List Int) (least : Int) : showsV ns (planV ns true) true least = decide (least ≤ wv ns ns.length 0) := by
  unfold showsV
  rw [planned_first]
  rfl
theorem shows_other (ns : List Int) (least : Int) : showsV ns (planV ns false) false least = decide (wv ns ns.length 0 < least) := by
  unfold showsV
  rw [planned_other]
  show decide (- -wv ns ns.length 0 < least) = _
  rw [Int.neg_neg]
theorem shows_bad {ns : List Int} {p : List Tri} (h : tabOk ns.length none p = false) (first : Bool) (least : Int) : showsV ns p first least = false := by
  unfold showsV plannedV
  rw [h]
  rfl
theorem tabOk_bad {n : Nat} : ∀ {p : List Tri} {l : Option (Int × Int)}, (∃ t ∈ p, triOk n t = false) → tabOk n l p = false
  | [], _, h => by
    obtain ⟨_, h, _⟩ := h
    exact (nomatch h)
  | u :: r, l, h => by
    obtain ⟨t, ht, hb⟩ := h
    rw [tabOk_cons]
    rcases List.mem_cons.mp ht with rfl | ht
    · rw [hb]
      rfl
    · rw [tabOk_bad ⟨t, ht, hb⟩, Bool.and_false, Bool.and_false]
/-! ### lines in the heap -/
inductive Tris (H : Hp) : List V → List Tri → Prop
  | nil : Tris H [] []
  | cons {q : Addr} {t : Tri} {xs : List V} {p : List Tri} (h : H q = some (.tup (triV t))) (r : Tris H xs p) : Tris H (.ref q :: xs) (t :: p)
theorem Tris.mono {H H' : Hp} (s : Same H H') : ∀ {xs : List V} {p : List Tri}, Tris H xs p → Tris H' xs p
  | _, _, .nil => .nil
  | _, _, .cons h t => .cons (s _ _ h) (t.mono s)
theorem Tris.app {H : Hp} {ys : List V} {q : List Tri} (b : Tris H ys q) : ∀ {xs : List V} {p : List Tri}, Tris H xs p → Tris H (xs ++ ys) (p ++ q)
  | _, _, .nil => b
  | _, _, .cons h t => .cons h (b.app t)
theorem Tris.len {H : Hp} : ∀ {xs : List V} {p : List Tri}, Tris H xs p → xs.length = p.length
  | _, _, .nil => rfl
  | _, _, .cons _ t => by rw [List.length_cons, List.length_cons, t.len]
theorem Tris.getX {H : Hp} : ∀ {xs : List V} {p : List Tri} {i : Nat} {x : V}, Tris H xs p → xs[i]? = some x → ∃ q t, x = .ref q ∧ p[i]? = some t ∧ H q = some (.tup (triV t))
  | _, _, i, x, .nil, e => by simp at e
  | _, _, 0, x, .cons h t, e => by
    have e' := Option.some.inj e
    subst e'
    exact ⟨_, _, rfl, rfl, h⟩
  | _, _, i + 1, x, .cons h t, e => by
    obtain ⟨q, pl, h1, h2, h3⟩ := t.getX (i := i) (x := x) (by simpa using e)
    exact ⟨q, pl, h1, by simpa using h2, h3⟩
/-- what is a list is no line: a change of lists leaves lines -/
theorem Tris.butO {H H' : Hp} {l : Addr} {o : HO} (s : SameBut l H H') (hl : H l = some o) (ho : ∀ ys, HO.tup ys ≠ o) : ∀ {xs : List V} {p : List Tri}, Tris H xs p → Tris H' xs p
  | _, _, .nil => .nil
  | _, _, .cons h t => .cons (s _ _ (ne_of h hl (ho _)) h) (t.butO s hl ho)
theorem Tris.but {H H' : Hp} {l : Addr} {ys : List V} (s : SameBut l H H') (hl : H l = some (.lst ys)) {xs : List V} {p : List Tri} (h : Tris H xs p) : Tris H' xs p := h.butO s hl (by intro _ z; cases z)
/-- the table in the heap -/
structure Tab (p : List Tri) (kvs : List (List Key × V)) : Prop where
  val : ∀ a b : Int, valV kvs [Sum.inl a, Sum.inl b] = (look p a b).map V.str
  len : kvs.length ≤ p.length
theorem Tab.nil : Tab [] [] := ⟨fun _ _ => rfl, Nat.le_refl _⟩
theorem putK_len (kvs : List (List Key × V)) (k : List Key) (v : V) : (putK kvs k v).length ≤ kvs.length + 1 := by
  unfold putK
  split
  · rw [List.length_map]
    omega
  · rw [List.length_append]
    exact Nat.le_refl _
theorem Tab.put {p : List Tri} {kvs : List (List Key × V)} (h : Tab p kvs) (t : Tri) : Tab (p ++ [t]) (putK kvs [Sum.inl t.1, Sum.inl t.2.1] (.str t.2.2)) := by
  refine ⟨fun a b => ?_, ?_⟩
  · rw [valV_put, look_app, h.val]
    by_cases c : t.1 = a ∧ t.2.1 = b
    · rw [if_pos c, if_pos (by rw [c.1, c.2])]
      rfl
    · rw [if_neg c, if_neg]
      intro z
      have z1 := List.cons.inj z
      have z2 := List.cons.inj z1.2
      exact c ⟨(Sum.inl.inj z1.1).symm, (Sum.inl.inj z2.1).symm⟩
  · have := putK_len kvs [Sum.inl t.1, Sum.inl t.2.1] (.str t.2.2)
    have := h.len
    rw [List.length_append]
    show _ ≤ p.length + 1
    omega
end RE
/-! promises about plans -/
namespace RE
open PySem PySem.Spec PyProof.Rows L2
def spTable (K : PySem.W.Frag) : Sp := fun vs H Q _ => ∃ (a l : Addr) (ns : List Int) (xs : List V) (p : List Tri), vs = [.ref a, .ref l] ∧ SqL K H a (ns.map V.int) ∧ SqL K H l xs ∧ Tris H xs p ∧ p.length ≤ 10000 ∧
  (tabOk ns.length none p = false → ∀ H', Same H H' → Q .non H') ∧ (tabOk ns.length none p = true → ∀ H' d kvs, Same H H' → H d = none → H' d = some (.dT kvs) → Tab p kvs → Q (.ref d) H')
def spGot (K : PySem.W.Frag) (n : Nat) : Sp := fun vs H Q _ => ∃ (a d : Addr) (ns : List Int) (p : List Tri) (low m : Nat) (i j : Int) (kvs : List (List Key × V)) (mine : Bool), vs = [.ref a, .int i, .int j, .ref d, .bl mine] ∧ i = (low : Int) ∧ j = ((low + m : Nat) : Int) ∧
  SqL K H a (ns.map V.int) ∧ H d = some (.dT kvs) ∧ Tab p kvs ∧ (∀ t ∈ p, sideOk t.2.2 = true) ∧ low + m ≤ ns.length ∧ m < n ∧ ∀ H', Same H H' → Q (optV (gotV ns (tabF p) m low mine)) H'
def spPlanned (K : PySem.W.Frag) : Sp := fun vs H Q _ => ∃ (a l : Addr) (ns : List Int) (xs : List V) (p : List Tri) (mine : Bool), vs = [.ref a, .ref l, .bl mine] ∧ SqL K H a (ns.map V.int) ∧ SqL K H l xs ∧ Tris H xs p ∧ p.length ≤ 10000 ∧ ns.length ≤ 12 ∧
  ∀ H', Same H H' → Q (optV (plannedV ns p mine)) H'
/-- C(plan) -/
def spInit (K : PySem.W.Frag) (C : Addr) : Sp := fun vs H Q _ => ∃ (x l dx : Addr) (xs : List V), vs = [.ref x, .ref l] ∧ H x = some (.ins C dx []) ∧ SqL K H l xs ∧
  ∀ H' m, SameBut x H H' → H m = none → H' x = some (.ins C dx [("plan", .ref m)]) → H' m = some (.lst xs) → Q .non H'
def spShows (K : PySem.W.Frag) (C : Addr) (first : Bool) : Sp := fun vs H Q _ => ∃ (x a l dx : Addr) (ns : List Int) (xs : List V) (p : List Tri) (least : Int), vs = [.ref x, .ref a, .int least] ∧ H x = some (.ins C dx [("plan", .ref l)]) ∧ SqL K H a (ns.map V.int) ∧ H l = some (.lst xs) ∧ Tris H xs p ∧ p.length ≤ 10000 ∧ ns.length ≤ 12 ∧
  ∀ H', Same H H' → Q (.bl (showsV ns p first least)) H'
def spPlanOf (K : PySem.W.Frag) : Sp := fun vs H Q _ => ∃ (a : Addr) (ns : List Int) (first : Bool), vs = [.ref a, .bl first] ∧ SqL K H a (ns.map V.int) ∧ ns.length ≤ 12 ∧
  ∀ H' l xs, Same H H' → H l = none → H' l = some (.lst xs) → Tris H' xs (planV ns first) → Q (.ref l) H'
def NoWhole (K : PySem.W.Frag) (H : Hp) (x : V) : Prop := ∃ T, PV K H x T ∧ (T == "int") = false
def spJudged (K : PySem.W.Frag) (R N G D : Addr) : Sp := fun vs H Q E => ∃ x t, vs = [x, t] ∧ ((NoRow K H x ∧ ∀ H', Same H H' → E (.ref R) none H') ∨ ∃ ns, IsRow K H x ns ∧
  ((NoWhole K H t ∧ ∀ H', Same H H' → E (.ref N) none H') ∨ ∃ k : Int, t = .int k ∧
    ∀ H' o dx l xs, Same H H' → H o = none → H l = none → H' o = some (.ins (if decide (k ≤ wv ns ns.length 0) = true then G else D) dx [("plan", .ref l)]) → H' l = some (.lst xs) → Tris H' xs (planV ns (decide (k ≤ wv ns ns.length 0))) → Q (.ref o) H'))
/-- the lesser one -/
def minO : Option Int → Int → Int
  | none, z => z
  | some l, z => if z < l then z else l
def forMe (mine : Bool) (c : Int) : Int := if mine then c else -c
/-- what is left of a turn of got -/
def cont (ns : List Int) (f : Nat → Nat → Option Bool) (m low : Nat) (mine : Bool) : List Bool → Option Int → Option Int
  | [], lv => lv
  | b :: r, lv => (gotV ns f m (lowOf b low) (!mine)).bind fun x => cont ns f m low mine r (some (minO lv (x + forMe mine (coinOf ns b low m))))
theorem cont_nil (ns : List Int) (f : Nat → Nat → Option Bool) (m low : Nat) (mine : Bool) (lv : Option Int) : cont ns f m low mine [] lv = lv := rfl
theorem cont_cons (ns : List Int) (f : Nat → Nat → Option Bool) (m low : Nat) (mine b : Bool) (r : List Bool) (lv : Option Int) : cont ns f m low mine (b :: r) lv = (gotV ns f m (lowOf b low) (!mine)).bind fun x => cont ns f m low mine r (some (minO lv (x + forMe mine (coinOf ns b low m)))) := rfl
theorem cont_none {ns : List Int} {f : Nat → Nat → Option Bool} {m low : Nat} {mine b : Bool} {r : List Bool} {lv : Option Int} (h : gotV ns f m (lowOf b low) (!mine) = none) : cont ns f m low mine (b :: r) lv = none := by
  rw [cont_cons, h]
  rfl
theorem cont_some {ns : List Int} {f : Nat → Nat → Option Bool} {m low : Nat} {mine b : Bool} {r : List Bool} {lv : Option Int} {x : Int} (h : gotV ns f m (lowOf b low) (!mine) = some x) : cont ns f m low mine (b :: r) lv = cont ns f m low mine r (some (minO lv (x + forMe mine (coinOf ns b low m)))) := by
  rw [cont_cons, h]
  rfl
theorem cont_mine {ns : List Int} {f : Nat → Nat → Option Bool} {m low : Nat} {b : Bool} (h : f low (low + (m + 1)) = some b) : cont ns f m low true [b] none = gotV ns f (m + 1) low true := by
  rw [gotV_mine, h]
  show _ = (gotV ns f m (lowOf b low) false).bind _
  cases e : gotV ns f m (lowOf b low) false with
  | none => exact cont_none (mine := true) e
  | some x =>
    rw [cont_some (mine := true) e, cont_nil]
    rfl
theorem cont_his {ns : List Int} {f : Nat → Nat → Option Bool} {m low : Nat} : cont ns f m low false [true, false] none = gotV ns f (m + 1) low false := by
  rw [gotV_his]
  cases e : gotV ns f m (low + 1) true with
  | none => exact cont_none (mine := false) (b := true) e
  | some x =>
    rw [cont_some (mine := false) (b := true) e]
    show _ = (gotV ns f m low true).bind _
    cases e2 : gotV ns f m low true with
    | none => exact cont_none (mine := false) (b := false) e2
    | some y =>
      rw [cont_some (mine := false) (b := false) e2, cont_nil]
      rfl
end RE
namespace K05
open PySem PySem.Spec PyProof.Rows L2 RE
/-! the text by places -/
def top (i : Nat) : Stmt := PySem.Challenge.pw_rowends_k05_refused.main.body.getD i (.Pass ⟨0, 0, 0, 0⟩)
abbrev s__wall : Stmt := top 0
abbrev N__wall : List Str := ["k"]
theorem sc__wall : FnScope N__wall ["k"] (defScope s__wall) := ⟨rfl, rfl, rfl, by decide +kernel, rfl, by decide +kernel, by decide +kernel⟩
abbrev s_is_whole : Stmt := top 12
abbrev N_is_whole : List Str := ["thing"]
theorem sc_is_whole : FnScope N_is_whole ["thing"] (defScope s_is_whole) := ⟨rfl, rfl, rfl, by decide +kernel, rfl, by decide +kernel, by decide +kernel⟩
abbrev s_check_row : Stmt := top 13
abbrev N_check_row : List Str := ["row", "coin"]
theorem sc_check_row : FnScope N_check_row ["row"] (defScope s_check_row) := ⟨rfl, rfl, rfl, by decide +kernel, rfl, by decide +kernel, by decide +kernel⟩
abbrev s_is_side : Stmt := top 14
abbrev N_is_side : List Str := ["thing"]
theorem sc_is_side : FnScope N_is_side ["thing"] (defScope s_is_side) := ⟨rfl, rfl, rfl, by decide +kernel, rfl, by decide +kernel, by decide +kernel⟩
abbrev s_worth_of : Stmt := top 15
abbrev N_worth_of : List Str := ["row", "low", "behind", "known", "first"]
theorem sc_worth_of : FnScope N_worth_of ["row", "low", "behind", "known"] (defScope s_worth_of) := ⟨rfl, rfl, rfl, by decide +kernel, rfl, by decide +kernel, by decide +kernel⟩
abbrev s_after : Stmt := top 16
abbrev N_after : List Str := ["row", "low", "behind", "side"]
theorem sc_after : FnScope N_after ["row", "low", "behind", "side"] (defScope s_after) := ⟨rfl, rfl, rfl, by decide +kernel, rfl, by decide +kernel, by decide +kernel⟩
abbrev s_best_of : Stmt := top 17
abbrev N_best_of : List Str := ["row", "low", "behind", "known", "due", "found", "side", "coin", "left", "right"]
theorem sc_best_of : FnScope N_best_of ["row", "low", "behind", "known"] (defScope s_best_of) := ⟨rfl, rfl, rfl, by decide +kernel, rfl, by decide +kernel, by decide +kernel⟩
abbrev s_worth : Stmt := top 18
abbrev N_worth : List Str := ["row"]
theorem sc_worth : FnScope N_worth ["row"] (defScope s_worth) := ⟨rfl, rfl, rfl, by decide +kernel, rfl, by decide +kernel, by decide +kernel⟩
abbrev s_best : Stmt := top 19
abbrev N_best : List Str := ["row"]
theorem sc_best : FnScope N_best ["row"] (defScope s_best) := ⟨rfl, rfl, rfl, by decide +kernel, rfl, by decide +kernel, by decide +kernel⟩
abbrev s_led : Stmt := top 20
abbrev N_led : List Str := ["row", "takes", "side", "low", "behind", "sums", "at", "coin"]
theorem sc_led : FnScope N_led ["row", "takes"] (defScope s_led) := ⟨rfl, rfl, rfl, by decide +kernel, rfl, by decide +kernel, by decide +kernel⟩
abbrev s_greedy : Stmt := top 21
abbrev N_greedy : List Str := ["row", "low", "behind", "found", "side", "coin"]
theorem sc_greedy : FnScope N_greedy ["row"] (defScope s_greedy) := ⟨rfl, rfl, rfl, by decide +kernel, rfl, by decide +kernel, by decide +kernel⟩
abbrev s_sure : Stmt := top 22
abbrev N_sure : List Str := ["row"]
theorem sc_sure : FnScope N_sure ["row"] (defScope s_sure) := ⟨rfl, rfl, rfl, by decide +kernel, rfl, by decide +kernel, by decide +kernel⟩
abbrev s_plan_of : Stmt := top 28
abbrev N_plan_of : List Str := ["row", "first", "found", "known", "low", "behind"]
theorem sc_plan_of : FnScope N_plan_of ["row", "first"] (defScope s_plan_of) := ⟨rfl, rfl, rfl, by decide +kernel, rfl, by decide +kernel, by decide +kernel⟩
abbrev s_judged : Stmt := top 29
abbrev N_judged : List Str := ["row", "least"]
theorem sc_judged : FnScope N_judged ["row", "least"] (defScope s_judged) := ⟨rfl, rfl, rfl, by decide +kernel, rfl, by decide +kernel, by decide +kernel⟩
abbrev s_plays_of : Stmt := top 30
abbrev N_plays_of : List Str := ["row", "low", "behind", "known", "found", "side", "coin", "left", "right"]
theorem sc_plays_of : FnScope N_plays_of ["row", "low", "behind", "known"] (defScope s_plays_of) := ⟨rfl, rfl, rfl, by decide +kernel, rfl, by decide +kernel, by decide +kernel⟩
abbrev s_how_many : Stmt := top 31
abbrev N_how_many : List Str := ["row"]
theorem sc_how_many : FnScope N_how_many ["row"] (defScope s_how_many) := ⟨rfl, rfl, rfl, by decide +kernel, rfl, by decide +kernel, by decide +kernel⟩
abbrev s_play_by : Stmt := top 32
abbrev N_play_by : List Str := ["row", "number", "known", "low", "behind", "found", "side", "coin", "left", "right", "many"]
theorem sc_play_by : FnScope N_play_by ["row", "number"] (defScope s_play_by) := ⟨rfl, rfl, rfl, by decide +kernel, rfl, by decide +kernel, by decide +kernel⟩
abbrev s__law_alone : Stmt := top 34
abbrev N__law_alone : List Str := ["_law_error", "_law_due", "_law_found", "_law_k"]
theorem sc__law_alone : FnScope N__law_alone ["_law_error", "_law_due"] (defScope s__law_alone) := ⟨rfl, rfl, rfl, by decide +kernel, rfl, by decide +kernel, by decide +kernel⟩
abbrev s__law_with_row : Stmt := top 35
abbrev N__law_with_row : List Str := ["_law_door", "_law_thing"]
theorem sc__law_with_row : FnScope N__law_with_row ["_law_door", "_law_thing"] (defScope s__law_with_row) := ⟨rfl, rfl, rfl, by decide +kernel, rfl, by decide +kernel, by decide +kernel⟩
abbrev s__law_no_rows : Stmt := top 36
abbrev N__law_no_rows : List Str := ["_law_cell", "_law_found", "_law_at", "_law_bad", "_law_row"]
theorem sc__law_no_rows : FnScope N__law_no_rows ["_law_cell"] (defScope s__law_no_rows) := ⟨rfl, rfl, rfl, by decide +kernel, rfl, by decide +kernel, by decide +kernel⟩
abbrev s__law_with_takes : Stmt := top 37
abbrev N__law_with_takes : List Str := ["_law_door", "_law_thing"]
theorem sc__law_with_takes : FnScope N__law_with_takes ["_law_door", "_law_thing"] (defScope s__law_with_takes) := ⟨rfl, rfl, rfl, by decide +kernel, rfl, by decide +kernel, by decide +kernel⟩
abbrev s__law_no_takes : Stmt := top 38
abbrev N__law_no_takes : List Str := ["_law_cell", "_law_found"]
theorem sc__law_no_takes : FnScope N__law_no_takes ["_law_cell"] (defScope s__law_no_takes) := ⟨rfl, rfl, rfl, by decide +kernel, rfl, by decide +kernel, by decide +kernel⟩
abbrev s__law_with_number : Stmt := top 39
abbrev N__law_with_number : List Str := ["_law_door", "_law_thing"]
theorem sc__law_with_number : FnScope N__law_with_number ["_law_door", "_law_thing"] (defScope s__law_with_number) := ⟨rfl, rfl, rfl, by decide +kernel, rfl, by decide +kernel, by decide +kernel⟩
abbrev s__law_no_numbers : Stmt := top 40
abbrev N__law_no_numbers : List Str := ["_law_cell"]
theorem sc__law_no_numbers : FnScope N__law_no_numbers ["_law_cell"] (defScope s__law_no_numbers) := ⟨rfl, rfl, rfl, by decide +kernel, rfl, by decide +kernel, by decide +kernel⟩
abbrev s__law_with_play : Stmt := top 41
abbrev N__law_with_play : List Str := ["_law_door", "_law_thing"]
theorem sc__law_with_play : FnScope N__law_with_play ["_law_door", "_law_thing"] (defScope s__law_with_play) := ⟨rfl, rfl, rfl, by decide +kernel, rfl, by decide +kernel, by decide +kernel⟩
abbrev s__law_no_plays : Stmt := top 42
abbrev N__law_no_plays : List Str := ["_law_cell"]
theorem sc__law_no_plays : FnScope N__law_no_plays ["_law_cell"] (defScope s__law_no_plays) := ⟨rfl, rfl, rfl, by decide +kernel, rfl, by decide +kernel, by decide +kernel⟩
abbrev s__law_with_odd : Stmt := top 43
abbrev N__law_with_odd : List Str := ["_law_door", "_law_thing"]
theorem sc__law_with_odd : FnScope N__law_with_odd ["_law_door", "_law_thing"] (defScope s__law_with_odd) := ⟨rfl, rfl, rfl, by decide +kernel, rfl, by decide +kernel, by decide +kernel⟩
abbrev s__law_odd : Stmt := top 44
abbrev N__law_odd : List Str := ["_law_cell"]
theorem sc__law_odd : FnScope N__law_odd ["_law_cell"] (defScope s__law_odd) := ⟨rfl, rfl, rfl, by decide +kernel, rfl, by decide +kernel, by decide +kernel⟩
abbrev s__law_refused : Stmt := top 45
abbrev N__law_refused : List Str := ["_law_ask", "_law_door", "_law_thing", "_law_due", "_law_error"]
theorem sc__law_refused : FnScope N__law_refused ["_law_ask", "_law_door", "_law_thing", "_law_due"] (defScope s__law_refused) := ⟨rfl, rfl, rfl, by decide +kernel, rfl, by decide +kernel, by decide +kernel⟩
abbrev s_law : Stmt := top 46
abbrev N_law : List Str := ["_law_script", "_law_kinds", "_law_ask", "_law_doors", "_law_things", "_law_due", "_law_door", "_law_cell", "_law_some", "_law_thing"]
theorem sc_law : FnScope N_law ["_law_script"] (defScope s_law) := ⟨rfl, rfl, rfl, by decide +kernel, rfl, by decide +kernel, by decide +kernel⟩
abbrev s_Gets_init : Stmt := inClass (top 25) 0
abbrev N_Gets_init : List Str := ["self", "plan"]
theorem sc_Gets_init : FnScope N_Gets_init ["self", "plan"] (defScope s_Gets_init) := ⟨rfl, rfl, rfl, by decide +kernel, rfl, by decide +kernel, by decide +kernel⟩
abbrev s_Gets_shows : Stmt := inClass (top 25) 1
abbrev N_Gets_shows : List Str := ["self", "row", "least"]
theorem sc_Gets_shows : FnScope N_Gets_shows ["self", "row", "least"] (defScope s_Gets_shows) := ⟨rfl, rfl, rfl, by decide +kernel, rfl, by decide +kernel, by decide +kernel⟩
abbrev s_Held_init : Stmt := inClass (top 26) 0
abbrev N_Held_init : List Str := ["self", "plan"]
theorem sc_Held_init : FnScope N_Held_init ["self", "plan"] (defScope s_Held_init) := ⟨rfl, rfl, rfl, by decide +kernel, rfl, by decide +kernel, by decide +kernel⟩
abbrev s_Held_shows : Stmt := inClass (top 26) 1
abbrev N_Held_shows : List Str := ["self", "row", "least"]
theorem sc_Held_shows : FnScope N_Held_shows ["self", "row", "least"] (defScope s_Held_shows) := ⟨rfl, rfl, rfl, by decide +kernel, rfl, by decide +kernel, by decide +kernel⟩
structure Ad where
  f__wall : Addr
  d__wall : FuncData
  f_is_whole : Addr
  d_is_whole : FuncData
  f_check_row : Addr
  d_check_row : FuncData
  f_is_side : Addr
  d_is_side : FuncData
  f_worth_of : Addr
  d_worth_of : FuncData
  f_after : Addr
  d_after : FuncData
  f_best_of : Addr
  d_best_of : FuncData
  f_worth : Addr
  d_worth : FuncData
  f_best : Addr
  d_best : FuncData
  f_led : Addr
  d_led : FuncData
  f_greedy : Addr
  d_greedy : FuncData
  f_sure : Addr
  d_sure : FuncData
  f_plan_of : Addr
  d_plan_of : FuncData
  f_judged : Addr
  d_judged : FuncData
  f_plays_of : Addr
  d_plays_of : FuncData
  f_how_many : Addr
  d_how_many : FuncData
  f_play_by : Addr
  d_play_by : FuncData
  f__law_alone : Addr
  d__law_alone : FuncData
  f__law_with_row : Addr
  d__law_with_row : FuncData
  f__law_no_rows : Addr
  d__law_no_rows : FuncData
  f__law_with_takes : Addr
  d__law_with_takes : FuncData
  f__law_no_takes : Addr
  d__law_no_takes : FuncData
  f__law_with_number : Addr
  d__law_with_number : FuncData
  f__law_no_numbers : Addr
  d__law_no_numbers : FuncData
  f__law_with_play : Addr
  d__law_with_play : FuncData
  f__law_no_plays : Addr
  d__law_no_plays : FuncData
  f__law_with_odd : Addr
  d__law_with_odd : FuncData
  f__law_odd : Addr
  d__law_odd : FuncData
  f__law_refused : Addr
  d__law_refused : FuncData
  f_law : Addr
  d_law : FuncData
  C_EndError : Addr
  C_BadRow : Addr
  C_BadTakes : Addr
  C_BadNumber : Addr
  C_Odd : Addr
  C_Answer : Addr
  C_Gets : Addr
  C_Held : Addr
  f_Gets_init : Addr
  d_Gets_init : FuncData
  f_Gets_shows : Addr
  d_Gets_shows : FuncData
  f_Held_init : Addr
  d_Held_init : FuncData
  f_Held_shows : Addr
  d_Held_shows : FuncData
  t_MOST : Tok
  t_GREATEST : Tok
  t_LEFT : Tok
  t_RIGHT : Tok
structure Tx (K : PySem.W.Frag) (mg : Str → Option Value) (A : Ad) : Prop where
  bValueError : mg "ValueError" = none
  babs : mg "abs" = none
  ball : mg "all" = none
  bbool : mg "bool" = none
  benumerate : mg "enumerate" = none
  bint : mg "int" = none
  bisinstance : mg "isinstance" = none
  blen : mg "len" = none
  blist : mg "list" = none
  bmax : mg "max" = none
  brange : mg "range" = none
  bstr : mg "str" = none
  bsum : mg "sum" = none
  gMOST : mg "MOST" = some (.int 12 A.t_MOST)
  gGREATEST : mg "GREATEST" = some (.int 1000000 A.t_GREATEST)
  gLEFT : mg "LEFT" = some (.str "left" A.t_LEFT)
  gRIGHT : mg "RIGHT" = some (.str "right" A.t_RIGHT)
  g_wall : mg "_wall" = some (.ref A.f__wall)
  F_wall : Fun K "_wall" "_wall" s__wall A.f__wall A.d__wall
  b_wall : Binds K A.d__wall ["k"] []
  gis_whole : mg "is_whole" = some (.ref A.f_is_whole)
  Fis_whole : Fun K "is_whole" "is_whole" s_is_whole A.f_is_whole A.d_is_whole
  bis_whole : Binds K A.d_is_whole ["thing"] []
  gcheck_row : mg "check_row" = some (.ref A.f_check_row)
  Fcheck_row : Fun K "check_row" "check_row" s_check_row A.f_check_row A.d_check_row
  bcheck_row : Binds K A.d_check_row ["row"] []
  gis_side : mg "is_side" = some (.ref A.f_is_side)
  Fis_side : Fun K "is_side" "is_side" s_is_side A.f_is_side A.d_is_side
  bis_side : Binds K A.d_is_side ["thing"] []
  gworth_of : mg "worth_of" = some (.ref A.f_worth_of)
  Fworth_of : Fun K "worth_of" "worth_of" s_worth_of A.f_worth_of A.d_worth_of
  bworth_of : Binds K A.d_worth_of ["row", "low", "behind", "known"] []
  gafter : mg "after" = some (.ref A.f_after)
  Fafter : Fun K "after" "after" s_after A.f_after A.d_after
  bafter : Binds K A.d_after ["row", "low", "behind", "side"] []
  gbest_of : mg "best_of" = some (.ref A.f_best_of)
  Fbest_of : Fun K "best_of" "best_of" s_best_of A.f_best_of A.d_best_of
  bbest_of : Binds K A.d_best_of ["row", "low", "behind", "known"] []
  gworth : mg "worth" = some (.ref A.f_worth)
  Fworth : Fun K "worth" "worth" s_worth A.f_worth A.d_worth
  bworth : Binds K A.d_worth ["row"] []
  gbest : mg "best" = some (.ref A.f_best)
  Fbest : Fun K "best" "best" s_best A.f_best A.d_best
  bbest : Binds K A.d_best ["row"] []
  gled : mg "led" = some (.ref A.f_led)
  Fled : Fun K "led" "led" s_led A.f_led A.d_led
  bled : Binds K A.d_led ["row", "takes"] []
  ggreedy : mg "greedy" = some (.ref A.f_greedy)
  Fgreedy : Fun K "greedy" "greedy" s_greedy A.f_greedy A.d_greedy
  bgreedy : Binds K A.d_greedy ["row"] []
  gsure : mg "sure" = some (.ref A.f_sure)
  Fsure : Fun K "sure" "sure" s_sure A.f_sure A.d_sure
  bsure : Binds K A.d_sure ["row"] []
  gplan_of : mg "plan_of" = some (.ref A.f_plan_of)
  Fplan_of : Fun K "plan_of" "plan_of" s_plan_of A.f_plan_of A.d_plan_of
  bplan_of : Binds K A.d_plan_of ["row", "first"] []
  gjudged : mg "judged" = some (.ref A.f_judged)
  Fjudged : Fun K "judged" "judged" s_judged A.f_judged A.d_judged
  bjudged : Binds K A.d_judged ["row", "least"] []
  gplays_of : mg "plays_of" = some (.ref A.f_plays_of)
  Fplays_of : Fun K "plays_of" "plays_of" s_plays_of A.f_plays_of A.d_plays_of
  bplays_of : Binds K A.d_plays_of ["row", "low", "behind", "known"] []
  ghow_many : mg "how_many" = some (.ref A.f_how_many)
  Fhow_many : Fun K "how_many" "how_many" s_how_many A.f_how_many A.d_how_many
  bhow_many : Binds K A.d_how_many ["row"] []
  gplay_by : mg "play_by" = some (.ref A.f_play_by)
  Fplay_by : Fun K "play_by" "play_by" s_play_by A.f_play_by A.d_play_by
  bplay_by : Binds K A.d_play_by ["row", "number"] []
  g_law_alone : mg "_law_alone" = some (.ref A.f__law_alone)
  F_law_alone : Fun K "_law_alone" "_law_alone" s__law_alone A.f__law_alone A.d__law_alone
  b_law_alone : Binds K A.d__law_alone ["_law_error", "_law_due"] []
  g_law_with_row : mg "_law_with_row" = some (.ref A.f__law_with_row)
  F_law_with_row : Fun K "_law_with_row" "_law_with_row" s__law_with_row A.f__law_with_row A.d__law_with_row
  b_law_with_row : Binds K A.d__law_with_row ["_law_door", "_law_thing"] []
  g_law_no_rows : mg "_law_no_rows" = some (.ref A.f__law_no_rows)
  F_law_no_rows : Fun K "_law_no_rows" "_law_no_rows" s__law_no_rows A.f__law_no_rows A.d__law_no_rows
  b_law_no_rows : Binds K A.d__law_no_rows ["_law_cell"] []
  g_law_with_takes : mg "_law_with_takes" = some (.ref A.f__law_with_takes)
  F_law_with_takes : Fun K "_law_with_takes" "_law_with_takes" s__law_with_takes A.f__law_with_takes A.d__law_with_takes
  b_law_with_takes : Binds K A.d__law_with_takes ["_law_door", "_law_thing"] []
  g_law_no_takes : mg "_law_no_takes" = some (.ref A.f__law_no_takes)
  F_law_no_takes : Fun K "_law_no_takes" "_law_no_takes" s__law_no_takes A.f__law_no_takes A.d__law_no_takes
  b_law_no_takes : Binds K A.d__law_no_takes ["_law_cell"] []
  g_law_with_number : mg "_law_with_number" = some (.ref A.f__law_with_number)
  F_law_with_number : Fun K "_law_with_number" "_law_with_number" s__law_with_number A.f__law_with_number A.d__law_with_number
  b_law_with_number : Binds K A.d__law_with_number ["_law_door", "_law_thing"] []
  g_law_no_numbers : mg "_law_no_numbers" = some (.ref A.f__law_no_numbers)
  F_law_no_numbers : Fun K "_law_no_numbers" "_law_no_numbers" s__law_no_numbers A.f__law_no_numbers A.d__law_no_numbers
  b_law_no_numbers : Binds K A.d__law_no_numbers ["_law_cell"] []
  g_law_with_play : mg "_law_with_play" = some (.ref A.f__law_with_play)
  F_law_with_play : Fun K "_law_with_play" "_law_with_play" s__law_with_play A.f__law_with_play A.d__law_with_play
  b_law_with_play : Binds K A.d__law_with_play ["_law_door", "_law_thing"] []
  g_law_no_plays : mg "_law_no_plays" = some (.ref A.f__law_no_plays)
  F_law_no_plays : Fun K "_law_no_plays" "_law_no_plays" s__law_no_plays A.f__law_no_plays A.d__law_no_plays
  b_law_no_plays : Binds K A.d__law_no_plays ["_law_cell"] []
  g_law_with_odd : mg "_law_with_odd" = some (.ref A.f__law_with_odd)
  F_law_with_odd : Fun K "_law_with_odd" "_law_with_odd" s__law_with_odd A.f__law_with_odd A.d__law_with_odd
  b_law_with_odd : Binds K A.d__law_with_odd ["_law_door", "_law_thing"] []
  g_law_odd : mg "_law_odd" = some (.ref A.f__law_odd)
  F_law_odd : Fun K "_law_odd" "_law_odd" s__law_odd A.f__law_odd A.d__law_odd
  b_law_odd : Binds K A.d__law_odd ["_law_cell"] []
  g_law_refused : mg "_law_refused" = some (.ref A.f__law_refused)
  F_law_refused : Fun K "_law_refused" "_law_refused" s__law_refused A.f__law_refused A.d__law_refused
  b_law_refused : Binds K A.d__law_refused ["_law_ask", "_law_door", "_law_thing", "_law_due"] []
  glaw : mg "law" = some (.ref A.f_law)
  Flaw : Fun K "law" "law" s_law A.f_law A.d_law
  blaw : Binds K A.d_law ["_law_script"] []
  gEndError : mg "EndError" = some (.ref A.C_EndError)
  kEndError : PySem.W.keepIn K (.ref A.C_EndError) = true
  xEndError : PySem.W.excIn K A.C_EndError [.type "ValueError", .type "Exception", .type "BaseException", .type "object"] "ValueError.__new__" = true
  BEndError : PySem.W.subIn K (.ref A.C_EndError) (.type "BaseException") = some true
  tEndError : PySem.W.typeIn K (.ref A.C_EndError) = some (.type "type")
  gBadRow : mg "BadRow" = some (.ref A.C_BadRow)
  kBadRow : PySem.W.keepIn K (.ref A.C_BadRow) = true
  xBadRow : PySem.W.excIn K A.C_BadRow [.type "ValueError", .type "Exception", .type "BaseException", .type "object"] "ValueError.__new__" = true
  BBadRow : PySem.W.subIn K (.ref A.C_BadRow) (.type "BaseException") = some true
  tBadRow : PySem.W.typeIn K (.ref A.C_BadRow) = some (.type "type")
  gBadTakes : mg "BadTakes" = some (.ref A.C_BadTakes)
  kBadTakes : PySem.W.keepIn K (.ref A.C_BadTakes) = true
  xBadTakes : PySem.W.excIn K A.C_BadTakes [.type "ValueError", .type "Exception", .type "BaseException", .type "object"] "ValueError.__new__" = true
  BBadTakes : PySem.W.subIn K (.ref A.C_BadTakes) (.type "BaseException") = some true
  tBadTakes : PySem.W.typeIn K (.ref A.C_BadTakes) = some (.type "type")
  gBadNumber : mg "BadNumber" = some (.ref A.C_BadNumber)
  kBadNumber : PySem.W.keepIn K (.ref A.C_BadNumber) = true
  xBadNumber : PySem.W.excIn K A.C_BadNumber [.type "ValueError", .type "Exception", .type "BaseException", .type "object"] "ValueError.__new__" = true
  BBadNumber : PySem.W.subIn K (.ref A.C_BadNumber) (.type "BaseException") = some true
  tBadNumber : PySem.W.typeIn K (.ref A.C_BadNumber) = some (.type "type")
  gOdd : mg "Odd" = some (.ref A.C_Odd)
  kOdd : PySem.W.keepIn K (.ref A.C_Odd) = true
  xOdd : PySem.W.excIn K A.C_Odd [.type "ValueError", .type "Exception", .type "BaseException", .type "object"] "ValueError.__new__" = true
  BOdd : PySem.W.subIn K (.ref A.C_Odd) (.type "BaseException") = some true
  tOdd : PySem.W.typeIn K (.ref A.C_Odd) = some (.type "type")
  gAnswer : mg "Answer" = some (.ref A.C_Answer)
  gGets : mg "Gets" = some (.ref A.C_Gets)
  gHeld : mg "Held" = some (.ref A.C_Held)
  ecBadRow : ExcC K A.C_BadRow
  exBadRow : PySem.W.exmOne K (.ref A.C_BadRow) (.ref A.C_EndError) = some true
  keBadRow_BadRow : PySem.W.kitOne K (.ref A.C_BadRow) (.ref A.C_BadRow) = some true
  keBadRow_BadTakes : PySem.W.kitOne K (.ref A.C_BadRow) (.ref A.C_BadTakes) = some false
  keBadRow_BadNumber : PySem.W.kitOne K (.ref A.C_BadRow) (.ref A.C_BadNumber) = some false
  keBadRow_Odd : PySem.W.kitOne K (.ref A.C_BadRow) (.ref A.C_Odd) = some false
  kvBadRow : PySem.W.kitOne K (.ref A.C_BadRow) (.type "ValueError") = some true
  ecBadTakes : ExcC K A.C_BadTakes
  exBadTakes : PySem.W.exmOne K (.ref A.C_BadTakes) (.ref A.C_EndError) = some true
  keBadTakes_BadRow : PySem.W.kitOne K (.ref A.C_BadTakes) (.ref A.C_BadRow) = some false
  keBadTakes_BadTakes : PySem.W.kitOne K (.ref A.C_BadTakes) (.ref A.C_BadTakes) = some true
  keBadTakes_BadNumber : PySem.W.kitOne K (.ref A.C_BadTakes) (.ref A.C_BadNumber) = some false
  keBadTakes_Odd : PySem.W.kitOne K (.ref A.C_BadTakes) (.ref A.C_Odd) = some false
  kvBadTakes : PySem.W.kitOne K (.ref A.C_BadTakes) (.type "ValueError") = some true
  ecBadNumber : ExcC K A.C_BadNumber
  exBadNumber : PySem.W.exmOne K (.ref A.C_BadNumber) (.ref A.C_EndError) = some true
  keBadNumber_BadRow : PySem.W.kitOne K (.ref A.C_BadNumber) (.ref A.C_BadRow) = some false
  keBadNumber_BadTakes : PySem.W.kitOne K (.ref A.C_BadNumber) (.ref A.C_BadTakes) = some false
  keBadNumber_BadNumber : PySem.W.kitOne K (.ref A.C_BadNumber) (.ref A.C_BadNumber) = some true
  keBadNumber_Odd : PySem.W.kitOne K (.ref A.C_BadNumber) (.ref A.C_Odd) = some false
  kvBadNumber : PySem.W.kitOne K (.ref A.C_BadNumber) (.type "ValueError") = some true
  ecOdd : ExcC K A.C_Odd
  exOdd : PySem.W.exmOne K (.ref A.C_Odd) (.ref A.C_EndError) = some true
  keOdd_BadRow : PySem.W.kitOne K (.ref A.C_Odd) (.ref A.C_BadRow) = some false
  keOdd_BadTakes : PySem.W.kitOne K (.ref A.C_Odd) (.ref A.C_BadTakes) = some false
  keOdd_BadNumber : PySem.W.kitOne K (.ref A.C_Odd) (.ref A.C_BadNumber) = some false
  keOdd_Odd : PySem.W.kitOne K (.ref A.C_Odd) (.ref A.C_Odd) = some true
  kvOdd : PySem.W.kitOne K (.ref A.C_Odd) (.type "ValueError") = some true
  clGets : Cls K A.C_Gets
  npGets : NoAttr K A.C_Gets "plan"
  tyGets : OwnTy K A.C_Gets
  kitGets_Answer : PySem.W.kitOne K (.ref A.C_Gets) (.ref A.C_Answer) = some true
  kitGets_Gets : PySem.W.kitOne K (.ref A.C_Gets) (.ref A.C_Gets) = some true
  kitGets_Held : PySem.W.kitOne K (.ref A.C_Gets) (.ref A.C_Held) = some false
  FGets_init : Fun K "__init__" "Gets.__init__" s_Gets_init A.f_Gets_init A.d_Gets_init
  bGets_init : Binds K A.d_Gets_init ["self", "plan"] []
  MGets : Mk K A.C_Gets A.f_Gets_init
  FGets_shows : Fun K "shows" "Gets.shows" s_Gets_shows A.f_Gets_shows A.d_Gets_shows
  bGets_shows : Binds K A.d_Gets_shows ["self", "row", "least"] []
  mGets_shows : Meth K A.C_Gets "shows" A.f_Gets_shows
  clHeld : Cls K A.C_Held
  npHeld : NoAttr K A.C_Held "plan"
  tyHeld : OwnTy K A.C_Held
  kitHeld_Answer : PySem.W.kitOne K (.ref A.C_Held) (.ref A.C_Answer) = some true
  kitHeld_Gets : PySem.W.kitOne K (.ref A.C_Held) (.ref A.C_Gets) = some false
  kitHeld_Held : PySem.W.kitOne K (.ref A.C_Held) (.ref A.C_Held) = some true
  FHeld_init : Fun K "__init__" "Held.__init__" s_Held_init A.f_Held_init A.d_Held_init
  bHeld_init : Binds K A.d_Held_init ["self", "plan"] []
  MHeld : Mk K A.C_Held A.f_Held_init
  FHeld_shows : Fun K "shows" "Held.shows" s_Held_shows A.f_Held_shows A.d_Held_shows
  bHeld_shows : Binds K A.d_Held_shows ["self", "row", "least"] []
  mHeld_shows : Meth K A.C_Held "shows" A.f_Held_shows
end K05
namespace K05
open PySem PySem.Spec PyProof.Rows L2 RE
section
variable {P : Program} {w : World} {K : PySem.W.Frag} {mg : Str → Option Value} {base : Heap} {A : Ad}
theorem ok_is_whole (T : Tx K mg A) : FnOk P w K mg base CX0 1 A.f_is_whole A.d_is_whole ["thing"] (spWhole K) := by
  refine T.Fis_whole.ok sc_is_whole (fun vs H Q E h => ?_) (fun cdv A' outer s H vs Q E hr h => ?_)
  · obtain ⟨x, T, rfl, _⟩ := h
    rfl
  · obtain ⟨x, ty, rfl, hx, q⟩ := h
    refine ⟨_, (pss_one (ps_ret (pe_and (pe_callB call_isi (by rfl) T.bisinstance (by decide +kernel) (pa_cons (pv 0) (pa_cons (pe_bltn (v := .ty "int") (by rfl) T.bint (by decide +kernel) rfl) pa_nil))) (pe_one (pe_not (pe_callB call_isi (by rfl) T.bisinstance (by decide +kernel) (pa_cons (pv 0) (pa_cons (pe_bltn (v := .ty "bool") (by rfl) T.bbool (by decide +kernel) rfl) pa_nil)))))))), ?_⟩
    refine ⟨_, rfl, _, _, _, _, _, rfl, .ty _, hx.ty, kit_int hx.mem, _, rfl, ?_⟩
    revert q
    cases e : (ty == "int" || ty == "bool") with
    | false =>
      intro q
      refine iteF ?_
      have e1 : (ty == "int") = false := (Bool.or_eq_false_iff.mp e).1
      rw [e1] at q
      exact q
    | true =>
      intro q
      refine iteT ?_
      refine ⟨_, rfl, _, _, _, _, _, rfl, .ty _, hx.ty, kit_bool hx.mem, _, rfl, ?_⟩
      have e2 : (!(ty == "bool")) = (ty == "int") := by
        rcases Bool.or_eq_true_iff.mp e with z | z
        · have := eq_of_beq z
          subst this
          decide
        · have := eq_of_beq z
          subst this
          decide
      rw [e2]
      exact q
theorem ok_check_row (T : Tx K mg A) : FnOk P w K mg base (L2N.CX P w) 2 A.f_check_row A.d_check_row ["row"] (spCheck K A.C_BadRow) := by
  have Gis_whole : FnOk P w K mg base CX0 1 A.f_is_whole A.d_is_whole ["thing"] (spWhole K) := ok_is_whole T
  refine RE.Fun.okN T.Fcheck_row sc_check_row (fun vs H Q E h => ?_) (fun cdv A' outer s H vs Q E hr h => ?_)
  · obtain ⟨x, rfl, _⟩ := h
    rfl
  · obtain ⟨x, rfl, h⟩ := h
    have h' : (∃ ty, PV K H x ty ∧ (ty == "list") = false ∧ ∀ H', Same H H' → E (.ref A.C_BadRow) none H') ∨
        ∃ (a : Addr) (xs : List V), x = .ref a ∧ SqL K H a xs ∧ (12 < xs.length → ∀ H', Same H H' → E (.ref A.C_BadRow) none H') ∧
        (xs.length ≤ 12 → (∀ y ∈ xs, ∃ T, PV K H y T)) ∧ (xs.length ≤ 12 → xs.all coinB = false → ∀ H', Same H H' → E (.ref A.C_BadRow) none H') ∧ (xs.length ≤ 12 → xs.all coinB = true → ∀ H', Same H H' → Q .non H') := by
      rcases h with ⟨ns, ⟨a, ex, hs, hok⟩, q⟩ | ⟨hn, q⟩
      · refine .inr ⟨a, _, ex, hs, (fun h => ?_), (fun _ y hy => ?_), (fun _ h => ?_), (fun _ _ => q)⟩
        · rw [List.length_map] at h
          have := hok.1
          omega
        · obtain ⟨z, _, rfl⟩ := List.mem_map.mp hy
          exact ⟨_, pv_int z⟩
        · rw [hok.all] at h
          cases h
      · rcases hn with ⟨ty, hp, e⟩ | ⟨a, xs, ex, hs, hb⟩
        · exact .inl ⟨ty, hp, e, q⟩
        · rcases hb with hb | ⟨hb, hty, ha⟩
          · exact .inr ⟨a, xs, ex, hs, (fun _ => q), (fun h => by omega), (fun h => by omega), (fun h => by omega)⟩
          · exact .inr ⟨a, xs, ex, hs, (fun h => by omega), (fun _ => hty), (fun _ _ => q), (fun _ h => by rw [ha] at h; cases h)⟩
    refine ⟨_, (pss_cons (ps_if (PW.pt (pw_or (pt_not (pt_val (pe_callB call_isi (by rfl) T.bisinstance (by decide +kernel) (pa_cons (pv 0) (pa_cons (pe_bltn (v := .ty "list") (by rfl) T.blist (by decide +kernel) rfl) pa_nil))))) (pw_or1 (pt_cmpR op_gt (pe_callB call_len_seq (by rfl) T.blen PySem.boot_len (pa_cons (pv 0) pa_nil)) (pe_glob (v := .int 12) (by rfl) T.gMOST ⟨_, rfl⟩) (nomark _))))) (pss_one (L2N.ps_raise rfl (L2N.takes_of rfl rfl rfl rfl) (L2N.pmk_own PySem.F.excBase_ValueError T.xBadRow T.gBadRow T.kBadRow (raises_own T.BBadRow T.tBadRow) rfl))) pss_nil)
      (pss_one (ps_if (pt_not (pt_val (pe_callB (cr_all rfl) (by rfl) T.ball (by decide +kernel) (pa_cons (pe_lc (own := [("coin", 1)]) (by rfl) sc_check_row.nd (pi_list (pv 0)) (blkOk_by (own := [("coin", 1)]) (N := N_check_row) (sc := defScope s_check_row) (by decide +kernel)) (fun _ _ _ _ _ => (pg_name (i := 1) sc_check_row.nd rfl (Or.inl rfl))) (fun _ _ _ _ _ => pts_nil) (fun _ _ _ _ _ => (pe_and (pe_call Gis_whole (hr.mono (by first | decide | omega)) (by rfl) T.gis_whole T.Fis_whole.kp T.bis_whole .nil pass0 (pa_cons (pv 1) pa_nil)) (pe_one (pe_chain op_le op_le pe_int (pv 1) (pe_glob (v := .int 1000000) (by rfl) T.gGREATEST ⟨_, rfl⟩)))))) pa_nil)))) (pss_one (L2N.ps_raise rfl (L2N.takes_of rfl rfl rfl rfl) (L2N.pmk_own PySem.F.excBase_ValueError T.xBadRow T.gBadRow T.kBadRow (raises_own T.BBadRow T.tBadRow) rfl))) pss_nil))), ?_⟩
    rcases h' with ⟨ty, hp, e, q⟩ | ⟨a, xs, ex, hs, h12, hty, hbad, hgood⟩
    · refine ⟨_, rfl, _, _, _, _, _, rfl, .ty _, hp.ty, kit_list hp.mem, _, rfl, ?_⟩
      rw [e]
      exact iteT (iteT (q H (Same.refl H)))
    · subst ex
      have hp := pv_sq hs
      refine ⟨_, rfl, _, _, _, _, _, rfl, .ty _, hp.ty, kit_list hp.mem, _, rfl, ?_⟩
      refine iteF ?_
      refine ⟨_, rfl, a, xs, rfl, .inl hs, _, _, rfl, rfl, _, rfl, ?_⟩
      refine ite2 (fun c => ?_) (fun c => ?_)
      · have c' : (12 : Int) < (xs.length : Int) := of_decide_eq_true c
        exact h12 (by omega) H (Same.refl H)
      · have c' : ¬ (12 : Int) < (xs.length : Int) := of_decide_eq_false (Bool.eq_false_iff.mpr c)
        have hl : xs.length ≤ 12 := by omega
        refine ⟨_, rfl, a, rfl, ⟨_, hs⟩, fun D nD => lc_list (K := K) (a := a) (xs := xs) (fun i H2 => Same H H2 ∧ H2 D = some (.lst ((xs.take i).map fun y => V.bl (coinB y)))) ⟨same_new nD _, upd_same⟩ (fun i H2 _ h2 => h2.1.seq hs) ?_ ?_⟩
        · rintro i y H2 hi ⟨s2, e2⟩
          obtain ⟨ty, hy⟩ := hty hl y (List.mem_of_getElem? hi)
          refine ⟨rfl, ?_⟩
          have hlt : i < xs.length := (List.getElem?_eq_some_iff.mp hi).1
          have fin : ∀ b, b = coinB y → ∃ acc, H2 D = some (.lst acc) ∧ acc.length < sizeLine ∧ Same H (upd H2 D (.lst (acc ++ [V.bl b]))) ∧ (upd H2 D (.lst (acc ++ [V.bl b]))) D = some (.lst ((xs.take (i + 1)).map fun y => V.bl (coinB y))) := by
            rintro b rfl
            refine ⟨_, e2, ?_, fun c o e => ?_, ?_⟩
            · rw [List.length_map, List.length_take]
              exact size_lt (by omega)
            · rw [upd_ne (ne_of_none e nD)]
              exact s2 c o e
            · rw [upd_same, List.take_add_one, hi, List.map_append]
              rfl
          refine ⟨_, rfl, y, ty, rfl, hy.mono s2, _, rfl, ?_⟩
          cases e : (ty == "int") with
          | false =>
            refine iteF ?_
            refine fin _ ?_
            cases y <;> first | rfl | (have := hy.of_int; subst this; cases e)
          | true =>
            refine iteT ?_
            obtain ⟨z, rfl⟩ := hy.int_of (eq_of_beq e)
            refine ⟨_, rfl, 0, z, rfl, rfl, _, rfl, ?_⟩
            by_cases c0 : (0 : Int) ≤ z
            · rw [decide_eq_true c0]
              refine iteT ?_
              refine ⟨z, 1000000, rfl, rfl, ?_⟩
              exact fin _ (by simp [coinB, c0])
            · rw [decide_eq_false c0]
              refine iteF ?_
              exact fin _ (by simp [coinB, c0])
        · rintro H2 ⟨s2, e2⟩
          rw [List.take_length] at e2
          have e3 : (xs.map fun y => V.bl (coinB y)) = (xs.map coinB).map V.bl := by rw [List.map_map]; rfl
          rw [e3] at e2
          refine ⟨D, _, rfl, SqL.of e2, _, rfl, ?_⟩
          have e4 : (xs.map coinB).all id = xs.all coinB := by rw [List.all_map]; rfl
          rw [e4]
          cases e : xs.all coinB with
          | true => exact iteF (hgood hl e H2 s2)
          | false => exact iteT (hbad hl e H2 s2)
end
end K05
namespace K05
open PySem PySem.Spec PyProof.Rows L2 RE
section
variable {P : Program} {w : World} {K : PySem.W.Frag} {mg : Str → Option Value} {base : Heap} {A : Ad}
theorem step_worth_of (T : Tx K mg A) {n : Nat} (Gworth_of : FnOk P w K mg base CX0 n A.f_worth_of A.d_worth_of ["row", "low", "behind", "known"] (spWorthOf K n)) :
    FnOk P w K mg base CX0 (n + 1) A.f_worth_of A.d_worth_of ["row", "low", "behind", "known"] (spWorthOf K (n + 1)) := by
  refine T.Fworth_of.ok sc_worth_of (fun vs H Q E h => ?_) (fun cdv A' outer s H vs Q E hr h => ?_)
  · obtain ⟨a, d, ns, low, m, i, j, kvs, rfl, _⟩ := h
    rfl
  · obtain ⟨a, d, ns, low, m, i, j, kvs, rfl, ei, ej, hS, hd, hk, h12, hm, hn, q⟩ := h
    refine ⟨_, (pss_cons (ps_if (pt_cmpR op_eq (pv 1) (pv 2) (nomark _)) (pss_one (ps_ret pe_int)) pss_nil)
      (pss_cons (ps_if (pt_cmp (pc_dnotin (hu_of hr) (pe_tup (pa_cons (pv 1) (pa_cons (pv 2) pa_nil))) (pv 3))) (pss_cons (ps_set (i := 4) sc_worth_of.nd rfl (Or.inl rfl) (pe_op op_sub (pe_ix ix_list (pv 0) (pv 1) (fun _ _ => rfl)) (pe_call Gworth_of (hr.mono (by first | decide | omega)) (by rfl) T.gworth_of T.Fworth_of.kp T.bworth_of .nil pass0 (pa_cons (pv 0) (pa_cons (pe_op op_add (pv 1) pe_int) (pa_cons (pv 2) (pa_cons (pv 3) pa_nil)))))))
      (pss_one (ps_dput (hu_of hr) (pv 3) (pe_tup (pa_cons (pv 1) (pa_cons (pv 2) pa_nil))) (pe_callB (call_max2 rfl) (by rfl) T.bmax (by decide +kernel) (pa_cons (pv 4) (pa_cons (pe_op op_sub (pe_ix ix_list (pv 0) (pe_op op_sub (pv 2) pe_int) (fun _ _ => rfl)) (pe_call Gworth_of (hr.mono (by first | decide | omega)) (by rfl) T.gworth_of T.Fworth_of.kp T.bworth_of .nil pass0 (pa_cons (pv 0) (pa_cons (pv 1) (pa_cons (pe_op op_sub (pv 2) pe_int) (pa_cons (pv 3) pa_nil)))))) pa_nil))) rfl))) pss_nil)
      (pss_one (ps_ret (pe_dget (hu_of hr) (pv 3) (pe_tup (pa_cons (pv 1) (pa_cons (pv 2) pa_nil))) (fun _ _ => rfl)))))), ?_⟩
    -- low == behind
    refine ⟨_, rfl, _, rfl, rfl, _, rfl, ?_⟩
    refine ite2 (fun c => ?_) (fun c => ?_)
    · have c' : i = j := V.int.inj (of_decide_eq_true c)
      have m0 : m = 0 := by omega
      subst m0
      have q' := q H kvs (SameBut.refl d H) hd hk
      rw [wv_zero] at q'
      exact q'
    · have c' : ¬ V.int i = V.int j := of_decide_eq_false (Bool.eq_false_iff.mpr c)
      have m0 : m ≠ 0 := fun e => c' (congrArg V.int (by omega))
      obtain ⟨m, rfl⟩ : ∃ m', m = m' + 1 := ⟨m - 1, by omega⟩
      have key : [V.int i, V.int j] = (keyOf low (m + 1)).map kV := by
        show [V.int i, V.int j] = [V.int (low : Int), V.int ((low + (m + 1) : Nat) : Int)]
        rw [ei, ej]
      -- (low, behind) not in known
      refine ⟨_, rfl, _, rfl, (by show 2 ≤ sizeLine; decide), fun p hp => ?_⟩
      have npd : p ≠ d := (ne_of_none hd hp).symm
      have hd1 : (upd H p (.tup [V.int i, V.int j])) d = some (.dT kvs) := by rw [upd_ne npd.symm]; exact hd
      have s1 : Same H (upd H p (.tup [V.int i, V.int j])) := same_new hp _
      refine ⟨_, rfl, d, _, rfl, DGet.t (k := keyOf low (m + 1)) hd1 (by rw [upd_same, key]), _, rfl, ?_⟩
      generalize hH1 : upd H p (.tup [V.int i, V.int j]) = H1 at hd1 s1 ⊢
      -- the last row: known[(low, behind)]
      have last : ∀ (H2 : Hp) (kvs2 : List (List Key × V)), SameBut d H H2 → H2 d = some (.dT kvs2) → Known ns kvs2 → valV kvs2 (keyOf low (m + 1)) = some (.int (wv ns (m + 1) low)) →
          ∀ p2, H2 p2 = none → DGet (upd H2 p2 (.tup [V.int i, V.int j])) d (.ref p2) (some (.int (wv ns (m + 1) low))) ∧ Q (.int (wv ns (m + 1) low)) (upd H2 p2 (.tup [V.int i, V.int j])) := fun H2 kvs2 s2 hd2 hk2 hv p2 np2 => by
        have ne2 : p2 ≠ d := (ne_of_none hd2 np2).symm
        have hd3 : (upd H2 p2 (.tup [V.int i, V.int j])) d = some (.dT kvs2) := by rw [upd_ne ne2.symm]; exact hd2
        refine ⟨?_, q _ kvs2 (s2.trans (.of (same_new np2 _))) hd3 hk2⟩
        have g := DGet.t (k := keyOf low (m + 1)) (b := p2) hd3 (by rw [upd_same, key])
        rw [hv] at g
        exact g
      cases e : valV kvs (keyOf low (m + 1)) with
      | some v =>
        refine iteF ?_
        have ev := hk.get e
        subst ev
        refine ⟨_, rfl, _, rfl, _, rfl, (by show 2 ≤ sizeLine; decide), fun p2 np2 => ?_⟩
        obtain ⟨g, q2⟩ := last H1 kvs (.of s1) hd1 hk e p2 np2
        exact ⟨d, _, rfl, g, q2⟩
      | none =>
        refine iteT ?_
        -- first = row[low] - worth_of(row, low + 1, behind, known)
        have hS1 := s1.seq hS
        refine ⟨_, rfl, _, rfl, a, _, _, _, rfl, rfl, hS1, at_get ei (by omega), _, rfl, _, rfl, _, _, rfl, rfl, _, rfl, _, rfl, ?_⟩
        refine ⟨a, d, ns, low + 1, m, _, _, kvs, rfl, by omega, by omega, hS1, hd1, hk, h12, by omega, by omega, fun H2 kvs2 s2 hd2 hk2 => ?_⟩
        have hS2 := s2.seq hd1 hS1
        refine ⟨_, _, rfl, rfl, ?_⟩
        -- known[(low, behind)] = max(first, ..)
        refine ⟨_, rfl, _, rfl, _, rfl, _, _, rfl, rfl, a, _, _, _, rfl, rfl, hS2, at_get (j := low + m) (by omega) (by omega), _, rfl, _, rfl, _, rfl, _, _, rfl, rfl, _, rfl, ?_⟩
        refine ⟨a, d, ns, low, m, _, _, kvs2, rfl, by omega, by omega, hS2, hd2, hk2, h12, by omega, by omega, fun H3 kvs3 s3 hd3 hk3 => ?_⟩
        refine ⟨_, _, rfl, rfl, _, _, rfl, ?_⟩
        have ew : (if ns.getD (low + m) 0 - wv ns m low > ns.getD low 0 - wv ns m (low + 1) then ns.getD (low + m) 0 - wv ns m low else ns.getD low 0 - wv ns m (low + 1)) = wv ns (m + 1) low := (wv_succ ns m low).symm
        rw [ew]
        refine ⟨_, rfl, _, rfl, _, rfl, (by show 2 ≤ sizeLine; decide), fun p3 np3 => ?_⟩
        have ne3 : p3 ≠ d := (ne_of_none hd3 np3).symm
        have hd4 : (upd H3 p3 (.tup [V.int i, V.int j])) d = some (.dT kvs3) := by rw [upd_ne ne3.symm]; exact hd3
        have hl : kvs3.length < sizeLine := size_lt (by have := hk3.len h12; omega)
        refine ⟨d, _, rfl, DPut.t (k := keyOf low (m + 1)) hd4 (by rw [upd_same, key]) hl, ?_⟩
        have s4 : SameBut d H (upd (upd H3 p3 (.tup [V.int i, V.int j])) d (.dT (putK kvs3 (keyOf low (m + 1)) (.int (wv ns (m + 1) low))))) := ((((SameBut.of s1).trans s2).trans s3).trans (.of (same_new np3 _))).trans (.put _)
        refine ⟨_, rfl, _, rfl, _, rfl, (by show 2 ≤ sizeLine; decide), fun p5 np5 => ?_⟩
        obtain ⟨g, q2⟩ := last _ _ s4 upd_same (hk3.put hm) (by rw [valV_put, if_pos rfl]) p5 np5
        exact ⟨d, _, rfl, g, q2⟩
theorem worth_of_all (T : Tx K mg A) : ∀ n : Nat, FnOk P w K mg base CX0 n A.f_worth_of A.d_worth_of ["row", "low", "behind", "known"] (spWorthOf K n)
  | 0 => by
    have no : ∀ vs H Q E, ¬ spWorthOf K 0 vs H Q E := fun vs H Q E h => by
      obtain ⟨a, d, ns, low, m, i, j, kvs, _, _, _, _, _, _, _, _, h0, _⟩ := h
      omega
    exact ⟨fun vs H Q E h => absurd h (no vs H Q E), fun A outer s H args us vs Q E _ _ _ _ h => absurd h (no vs H Q E)⟩
  | n + 1 => step_worth_of T (worth_of_all T n)
theorem ok_worth_of (T : Tx K mg A) : FnOk P w K mg base CX0 13 A.f_worth_of A.d_worth_of ["row", "low", "behind", "known"] (spWorthOf K 13) := worth_of_all T 13
theorem ok_after (T : Tx K mg A) : FnOk P w K mg base CX0 1 A.f_after A.d_after ["row", "low", "behind", "side"] (spAfter K) := by
  refine T.Fafter.ok sc_after (fun vs H Q E h => ?_) (fun cdv A' outer s H vs Q E hr h => ?_)
  · obtain ⟨a, ns, low, m, i, j, b, rfl, _⟩ := h
    rfl
  · obtain ⟨a, ns, low, m, i, j, b, rfl, ei, ej, hS, hm, q⟩ := h
    refine ⟨_, (pss_cons (ps_if (pt_cmpR op_eq (pv 3) (pe_glob (v := .str "left") (by rfl) T.gLEFT ⟨_, rfl⟩) (nomark _)) (pss_one (ps_ret (pe_tup (pa_cons (pe_ix ix_list (pv 0) (pv 1) (fun _ _ => rfl)) (pa_cons (pe_op op_add (pv 1) pe_int) (pa_cons (pv 2) pa_nil)))))) pss_nil)
      (pss_one (ps_ret (pe_tup (pa_cons (pe_ix ix_list (pv 0) (pe_op op_sub (pv 2) pe_int) (fun _ _ => rfl)) (pa_cons (pv 1) (pa_cons (pe_op op_sub (pv 2) pe_int) pa_nil))))))), ?_⟩
    refine ⟨_, rfl, rfl, _, rfl, ?_⟩
    cases b with
    | true =>
      have e : decide (V.str (sideS true) = V.str "left") = true := decide_eq_true rfl
      rw [e]
      refine iteT ?_
      refine ⟨_, rfl, _, rfl, a, _, _, _, rfl, rfl, hS, at_get ei (by omega), _, rfl, _, _, rfl, rfl, _, rfl, (by show 3 ≤ sizeLine; decide), fun p hp => ?_⟩
      have q' := q p hp
      have e1 : i + 1 = ((low + 1 : Nat) : Int) := by omega
      have e2 : j = ((low + 1 + m : Nat) : Int) := by omega
      show Q (.ref p) (upd H p (.tup [V.int (ns.getD low 0), V.int (i + 1), V.int j]))
      rw [e1, e2]
      exact q'
    | false =>
      have e : decide (V.str (sideS false) = V.str "left") = false := decide_eq_false (fun z => absurd (V.str.inj z) (by decide +kernel))
      rw [e]
      refine iteF ?_
      refine ⟨_, rfl, _, rfl, _, _, rfl, rfl, a, _, _, _, rfl, rfl, hS, at_get (j := low + m) (by omega) (by omega), _, rfl, _, rfl, _, _, rfl, rfl, (by show 3 ≤ sizeLine; decide), fun p hp => ?_⟩
      have q' := q p hp
      have e2 : j - 1 = ((low + m : Nat) : Int) := by omega
      show Q (.ref p) (upd H p (.tup [V.int (ns.getD (low + m) 0), V.int i, V.int (j - 1)]))
      rw [ei, e2]
      exact q'
end
end K05
namespace K05
open PySem PySem.Spec PyProof.Rows L2 RE
section
variable {P : Program} {w : World} {K : PySem.W.Frag} {mg : Str → Option Value} {base : Heap} {A : Ad}
theorem ok_best_of (T : Tx K mg A) : FnOk P w K mg base CX0 14 A.f_best_of A.d_best_of ["row", "low", "behind", "known"] (spBestOf K) := by
  have Gworth_of : FnOk P w K mg base CX0 13 A.f_worth_of A.d_worth_of ["row", "low", "behind", "known"] (spWorthOf K 13) := ok_worth_of T
  have Gafter : FnOk P w K mg base CX0 1 A.f_after A.d_after ["row", "low", "behind", "side"] (spAfter K) := ok_after T
  refine T.Fbest_of.ok sc_best_of (fun vs H Q E h => ?_) (fun cdv A' outer s H vs Q E hr h => ?_)
  · obtain ⟨a, d, ns, low, m, i, j, kvs, rfl, _⟩ := h
    rfl
  · obtain ⟨a, d, ns, low, m, i, j, kvs, rfl, ei, ej, hS, hd, hk, h12, hm, q⟩ := h
    refine ⟨_, (pss_cons (ps_par (i := 4) (j := 5) rfl sc_best_of.nd rfl rfl (by decide) rfl rfl (pa_cons (pe_call Gworth_of (hr.mono (by first | decide | omega)) (by rfl) T.gworth_of T.Fworth_of.kp T.bworth_of .nil pass0 (pa_cons (pv 0) (pa_cons (pv 1) (pa_cons (pv 2) (pa_cons (pv 3) pa_nil))))) (pa_cons (pe_lst pa_nil) pa_nil)) (by rfl))
      (pss_cons (ps_for PassesOwn.never rfl (pi_tup (pe_tup (pa_cons (pe_glob (v := .str "left") (by rfl) T.gLEFT ⟨_, rfl⟩) (pa_cons (pe_glob (v := .str "right") (by rfl) T.gRIGHT ⟨_, rfl⟩) pa_nil)))) (pg_name (i := 6) sc_best_of.nd rfl (Or.inl rfl))
      (pss_cons (ps_asg (pe_call Gafter (hr.mono (by first | decide | omega)) (by rfl) T.gafter T.Fafter.kp T.bafter .nil pass0 (pa_cons (pv 0) (pa_cons (pv 1) (pa_cons (pv 2) (pa_cons (pv 6) pa_nil))))) (pg_tup rfl (pgs_cons (pg_name (i := 7) sc_best_of.nd rfl (Or.inl rfl)) (pgs_cons (pg_name (i := 8) sc_best_of.nd rfl (Or.inl rfl)) (pgs_cons (pg_name (i := 9) sc_best_of.nd rfl (Or.inl rfl)) pgs_nil)))))
      (pss_one (ps_if (pt_cmpR op_eq (pe_op op_sub (pv 7) (pe_call Gworth_of (hr.mono (by first | decide | omega)) (by rfl) T.gworth_of T.Fworth_of.kp T.bworth_of .nil pass0 (pa_cons (pv 0) (pa_cons (pv 8) (pa_cons (pv 9) (pa_cons (pv 3) pa_nil)))))) (pv 4) (nomark _)) (pss_one (ps_expr (pe_bm PySem.F.plainAttrs_list PySem.F.slot_list_append PySem.F.type_list_append mt_append (pv 5) (pa_cons (pv 6) pa_nil)))) pss_nil))))
      (pss_one (ps_ret (pv 5))))), ?_⟩
    -- due, found = worth_of(row, low, behind, known), []
    refine ⟨_, rfl, _, rfl, _, rfl, _, rfl, ?_⟩
    refine ⟨a, d, ns, low, m + 1, _, _, kvs, rfl, ei, ej, hS, hd, hk, h12, hm, by omega, fun H1 kvs1 s1 hd1 hk1 => ?_⟩
    refine ⟨Nat.zero_le _, fun f nf => ⟨_, _, rfl, ?_⟩⟩
    have nfd : f ≠ d := (ne_of_none hd1 nf).symm
    have nfH : H f = none := by
      cases z : H f with
      | none => rfl
      | some o =>
        have := s1 f o nfd z
        rw [nf] at this
        cases this
    -- for side in (LEFT, RIGHT)
    refine ⟨(by show 2 ≤ sizeLine; decide), fun t nt => ⟨t, rfl, ⟨_, SqT.of upd_same⟩, ?_⟩⟩
    have ntf : f ≠ t := ne_of_none upd_same nt
    have hd1' : (upd H1 f (.lst [])) d = some (.dT kvs1) := by rw [upd_ne nfd.symm]; exact hd1
    have ntd : d ≠ t := ne_of_none hd1' nt
    refine for_tup (K := K) (a := t) (xs := [V.str "left", V.str "right"]) (fun k σ H2 => ∃ kvs2 x6 x7 x8 x9, σ = [some (.ref a), some (.int i), some (.int j), some (.ref d), some (.int (wv ns (m + 1) low)), some (.ref f), x6, x7, x8, x9] ∧
      SameBut d H H2 ∧ H2 d = some (.dT kvs2) ∧ Known ns kvs2 ∧ H2 f = some (.lst ((([true, false].take k).filter (bestB ns low m)).map fun b => V.str (sideS b))) ∧ H2 t = some (.tup [V.str "left", V.str "right"])) ?_ (fun k σ H2 _ ⟨_, _, _, _, _, _, _, _, _, _, ht⟩ => SqT.of ht) ?_ ?_
    · refine ⟨kvs1, none, none, none, none, rfl, fun b o nb e => ?_, ?_, hk1, ?_, upd_same⟩
      · have e1 := s1 b o nb e
        have n1 : b ≠ f := ne_of_none e nfH
        have e2 : (upd H1 f (.lst [])) b = some o := by rw [upd_ne n1]; exact e1
        rw [upd_ne (ne_of_none e2 nt)]
        exact e2
      · rw [upd_ne ntd]
        exact hd1'
      · rw [upd_ne ntf, upd_same]
        rfl
    · rintro k y σ H2 hi ⟨kvs2, x6, x7, x8, x9, rfl, s2, hd2, hk2, hf2, ht2⟩
      obtain ⟨b, rfl, hb⟩ : ∃ b, y = V.str (sideS b) ∧ [true, false][k]? = some b := by
        match k, hi with
        | 0, hi => exact ⟨true, (Option.some.inj hi).symm, rfl⟩
        | 1, hi => exact ⟨false, (Option.some.inj hi).symm, rfl⟩
        | k + 2, hi => simp at hi
      have hS2 := s2.seq hd hS
      -- coin, left, right = after(row, low, behind, side)
      refine ⟨_, rfl, _, rfl, _, rfl, _, rfl, ?_⟩
      refine ⟨a, ns, low, m, _, _, b, rfl, ei, ej, hS2, hm, fun p np => ?_⟩
      refine ⟨p, _, rfl, SqT.of upd_same, rfl, _, _, rfl, _, _, rfl, _, _, rfl, rfl, ?_⟩
      have npd : d ≠ p := ne_of_none hd2 np
      have hd3 : (upd H2 p (.tup [.int (coinOf ns b low m), .int (lowOf b low : Nat), .int ((lowOf b low + m : Nat) : Int)])) d = some (.dT kvs2) := by rw [upd_ne npd]; exact hd2
      have s3 : Same H2 (upd H2 p (.tup [.int (coinOf ns b low m), .int (lowOf b low : Nat), .int ((lowOf b low + m : Nat) : Int)])) := same_new np _
      -- if coin - worth_of(row, left, right, known) == due
      refine ⟨_, rfl, _, rfl, _, rfl, _, rfl, _, rfl, ?_⟩
      refine ⟨a, d, ns, lowOf b low, m, _, _, kvs2, rfl, rfl, rfl, s3.seq hS2, hd3, hk2, h12, by have := lowOf_le b low m; omega, by omega, fun H4 kvs4 s4 hd4 hk4 => ?_⟩
      refine ⟨_, _, rfl, rfl, _, rfl, rfl, _, rfl, ?_⟩
      have s24 : SameBut d H2 H4 := (SameBut.of s3).trans s4
      have hf4 := s24 f _ nfd hf2
      have ht4 := s24 t _ ntd.symm ht2
      have cond : decide (V.int (coinOf ns b low m - wv ns m (lowOf b low)) = V.int (wv ns (m + 1) low)) = bestB ns low m b := by
        unfold bestB
        by_cases c : coinOf ns b low m - wv ns m (lowOf b low) = wv ns (m + 1) low
        · rw [decide_eq_true c, decide_eq_true (congrArg V.int c)]
        · rw [decide_eq_false c, decide_eq_false (fun z => c (V.int.inj z))]
      have tk : ([true, false].take (k + 1)).filter (bestB ns low m) = ([true, false].take k).filter (bestB ns low m) ++ (if bestB ns low m b = true then [b] else []) := by
        rw [List.take_add_one, hb, List.filter_append]
        congr 1
        by_cases c : bestB ns low m b = true
        · rw [if_pos c]
          simp [c]
        · rw [if_neg c]
          simp [c]
      rw [cond]
      cases c : bestB ns low m b with
      | true =>
        refine iteT ?_
        refine ⟨_, rfl, .inl ⟨rfl, _, SqL.of hf4⟩, _, rfl, f, _, _, rfl, rfl, hf4, ?_, ?_⟩
        · rw [List.length_map]
          have z := List.length_filter_le (bestB ns low m) ([true, false].take k)
          rw [List.length_take] at z
          exact size_lt (by have : [true, false].length = 2 := rfl; omega)
        · refine ⟨kvs4, _, _, _, _, rfl, fun b' o nb e => ?_, ?_, hk4, ?_, ?_⟩
          · rw [upd_ne (ne_of_none e nfH)]
            exact s24 b' o nb (s2 b' o nb e)
          · rw [upd_ne nfd.symm]
            exact hd4
          · rw [upd_same, tk, c, if_pos rfl, List.map_append]
            rfl
          · rw [upd_ne ntf.symm]
            exact ht4
      | false =>
        refine iteF ?_
        refine ⟨kvs4, _, _, _, _, rfl, s2.trans s24, hd4, hk4, ?_, ht4⟩
        rw [tk, c, if_neg Bool.false_ne_true, List.append_nil]
        exact hf4
    · rintro σ H2 ⟨kvs2, x6, x7, x8, x9, rfl, s2, hd2, hk2, hf2, ht2⟩
      refine ⟨_, rfl, ?_⟩
      refine q H2 kvs2 f s2 hd2 hk2 nfH ?_
      rw [ends_filter]
      exact hf2
theorem ok_worth (T : Tx K mg A) : FnOk P w K mg base (L2N.CX P w) 14 A.f_worth A.d_worth ["row"] (spWorth K A.C_BadRow) := by
  have Gworth_of : FnOk P w K mg base CX0 13 A.f_worth_of A.d_worth_of ["row", "low", "behind", "known"] (spWorthOf K 13) := ok_worth_of T
  have Gcheck_row : FnOk P w K mg base (L2N.CX P w) 2 A.f_check_row A.d_check_row ["row"] (spCheck K A.C_BadRow) := ok_check_row T
  refine RE.Fun.okN T.Fworth sc_worth (fun vs H Q E h => ?_) (fun cdv A' outer s H vs Q E hr h => ?_)
  · obtain ⟨x, rfl, _⟩ := h
    rfl
  · obtain ⟨x, rfl, h⟩ := h
    refine ⟨_, (pss_cons (ps_expr (pe_call Gcheck_row (hr.mono (by first | decide | omega)) (by rfl) T.gcheck_row T.Fcheck_row.kp T.bcheck_row .nil (L2N.passes_call (L2N.takes_of rfl rfl rfl rfl) (fun _ _ _ _ h => h)) (pa_cons (pv 0) pa_nil)))
      (pss_one (ps_ret (pe_call Gworth_of (hr.mono (by first | decide | omega)) (by rfl) T.gworth_of T.Fworth_of.kp T.bworth_of .nil pass0 (pa_cons (pv 0) (pa_cons pe_int (pa_cons (pe_callB call_len_seq (by rfl) T.blen PySem.boot_len (pa_cons (pv 0) pa_nil)) (pa_cons pe_dnewT pa_nil)))))))), ?_⟩
    refine ⟨_, rfl, ?_⟩
    rcases h with ⟨ns, hrow, q⟩ | ⟨hn, q⟩
    · refine ⟨x, rfl, .inl ⟨ns, hrow, fun H1 s1 => ?_⟩⟩
      obtain ⟨a, rfl, hS, hok⟩ := hrow
      have hS1 := s1.seq hS
      refine ⟨_, rfl, _, rfl, a, _, rfl, .inl hS1, fun d nd => ?_⟩
      refine ⟨a, d, ns, 0, ns.length, _, _, [], rfl, rfl, ?_, (same_new nd _).seq hS1, upd_same, Known.nil _, hok.1, by omega, by have := hok.1; omega, fun H2 kvs2 s2 hd2 hk2 => ?_⟩
      · rw [List.length_map]
        omega
      · exact q H2 (s1.trans (SameBut.free (fun b o nb e => s2 b o nb (by rw [upd_ne nb]; exact e)) nd))
    · exact ⟨x, rfl, .inr ⟨hn, q⟩⟩
theorem ok_best (T : Tx K mg A) : FnOk P w K mg base (L2N.CX P w) 15 A.f_best A.d_best ["row"] (spBest K A.C_BadRow) := by
  have Gbest_of : FnOk P w K mg base CX0 14 A.f_best_of A.d_best_of ["row", "low", "behind", "known"] (spBestOf K) := ok_best_of T
  have Gcheck_row : FnOk P w K mg base (L2N.CX P w) 2 A.f_check_row A.d_check_row ["row"] (spCheck K A.C_BadRow) := ok_check_row T
  refine RE.Fun.okN T.Fbest sc_best (fun vs H Q E h => ?_) (fun cdv A' outer s H vs Q E hr h => ?_)
  · obtain ⟨x, rfl, _⟩ := h
    rfl
  · obtain ⟨x, rfl, h⟩ := h
    refine ⟨_, (pss_cons (ps_expr (pe_call Gcheck_row (hr.mono (by first | decide | omega)) (by rfl) T.gcheck_row T.Fcheck_row.kp T.bcheck_row .nil (L2N.passes_call (L2N.takes_of rfl rfl rfl rfl) (fun _ _ _ _ h => h)) (pa_cons (pv 0) pa_nil)))
      (pss_one (ps_ret (pe_ifExp (pt_cmpR (op_neD hr.units) (pv 0) (pe_lst pa_nil) (nomark _)) (pe_call Gbest_of (hr.mono (by first | decide | omega)) (by rfl) T.gbest_of T.Fbest_of.kp T.bbest_of .nil pass0 (pa_cons (pv 0) (pa_cons pe_int (pa_cons (pe_callB call_len_seq (by rfl) T.blen PySem.boot_len (pa_cons (pv 0) pa_nil)) (pa_cons pe_dnewT pa_nil))))) (pe_lst pa_nil))))), ?_⟩
    refine ⟨_, rfl, ?_⟩
    rcases h with ⟨ns, hrow, q⟩ | ⟨hn, q⟩
    · refine ⟨x, rfl, .inl ⟨ns, hrow, fun H1 s1 => ?_⟩⟩
      obtain ⟨a, rfl, hS, hok⟩ := hrow
      have hS1 := s1.seq hS
      -- row != []
      refine ⟨_, rfl, Nat.zero_le _, fun l nl => ?_⟩
      have s2 : Same H (upd H1 l (.lst [])) := s1.trans (same_new nl _)
      have hS2 := s2.seq hS
      refine ⟨_, _, dp_lst hS2 (ok_ints ns), dp_lst (xs := []) (SqL.of upd_same) rfl, shl_flat (ok_ints ns), shl_flat (xs := []) rfl, _, rfl, ?_⟩
      cases ns with
      | nil =>
        refine iteF ?_
        refine ⟨Nat.zero_le _, fun p np => ?_⟩
        exact q _ p (s2.trans (same_new np _)) (s2.free np) upd_same
      | cons z r =>
        refine iteT ?_
        refine ⟨_, rfl, _, rfl, a, _, rfl, .inl hS2, fun d nd => ?_⟩
        refine ⟨a, d, z :: r, 0, r.length, _, _, [], rfl, rfl, ?_, (same_new nd _).seq hS2, upd_same, Known.nil _, hok.1, by rw [List.length_cons]; omega, fun H3 kvs3 p s3 hd3 hk3 np hp => ?_⟩
        · rw [List.length_map, List.length_cons]
          omega
        · have s4 : Same (upd H1 l (.lst [])) H3 := SameBut.free (fun b o nb e => s3 b o nb (by rw [upd_ne nb]; exact e)) nd
          have npd : p ≠ d := fun e => by rw [e, upd_same] at np; cases np
          rw [upd_ne npd] at np
          exact q H3 p (s2.trans s4) (s2.free np) hp
    · exact ⟨x, rfl, .inr ⟨hn, q⟩⟩
theorem ok_sure (T : Tx K mg A) : FnOk P w K mg base (L2N.CX P w) 3 A.f_sure A.d_sure ["row"] (spSure K A.C_BadRow A.C_Odd) := by
  have Gcheck_row : FnOk P w K mg base (L2N.CX P w) 2 A.f_check_row A.d_check_row ["row"] (spCheck K A.C_BadRow) := ok_check_row T
  refine RE.Fun.okN T.Fsure sc_sure (fun vs H Q E h => ?_) (fun cdv A' outer s H vs Q E hr h => ?_)
  · obtain ⟨x, rfl, _⟩ := h
    rfl
  · obtain ⟨x, rfl, h⟩ := h
    refine ⟨_, (pss_cons (ps_expr (pe_call Gcheck_row (hr.mono (by first | decide | omega)) (by rfl) T.gcheck_row T.Fcheck_row.kp T.bcheck_row .nil (L2N.passes_call (L2N.takes_of rfl rfl rfl rfl) (fun _ _ _ _ h => h)) (pa_cons (pv 0) pa_nil)))
      (pss_cons (ps_if (pt_cmpR op_eq (pe_op op_mod (pe_callB call_len_seq (by rfl) T.blen PySem.boot_len (pa_cons (pv 0) pa_nil)) pe_int) pe_int (nomark _)) (pss_one (L2N.ps_raise rfl (L2N.takes_of rfl rfl rfl rfl) (L2N.pmk_own PySem.F.excBase_ValueError T.xOdd T.gOdd T.kOdd (raises_own T.BOdd T.tOdd) rfl))) pss_nil)
      (pss_one (ps_ret (pe_callB call_abs (by rfl) T.babs (by decide +kernel) (pa_cons (pe_op op_sub (pe_callB (cr_sum rfl) (by rfl) T.bsum (by decide +kernel) (pa_cons (pe_stepL (pv 0) po_none) pa_nil)) (pe_callB (cr_sum rfl) (by rfl) T.bsum (by decide +kernel) (pa_cons (pe_stepL (pv 0) (po_some pe_int)) pa_nil))) pa_nil)))))), ?_⟩
    refine ⟨_, rfl, ?_⟩
    rcases h with ⟨ns, hrow, q1, q2⟩ | ⟨hn, q⟩
    · refine ⟨x, rfl, .inl ⟨ns, hrow, fun H1 s1 => ?_⟩⟩
      obtain ⟨a, rfl, hS, hok⟩ := hrow
      have hS1 := s1.seq hS
      refine ⟨_, rfl, a, _, rfl, .inl hS1, _, _, rfl, rfl, (by show (0 : Int) < 2; decide), rfl, _, rfl, ?_⟩
      refine ite2 (fun c => ?_) (fun c => ?_)
      · have c' : (((ns.map V.int).length : Int) % 2) = 1 := V.int.inj (of_decide_eq_true c)
        rw [List.length_map] at c'
        exact q1 (by omega) H1 s1
      · have c' : ¬ (((ns.map V.int).length : Int) % 2) = 1 := fun z => c (decide_eq_true (congrArg V.int z))
        rw [List.length_map] at c'
        refine ⟨_, rfl, .inl rfl, a, _, rfl, hS1, fun p np => ?_⟩
        have s2 : Same H1 (upd H1 p (.lst (evens ((ns.map V.int).drop (stepLo none))))) := same_new np _
        have e1 : evens ((ns.map V.int).drop (stepLo none)) = (evens ns).map V.int := by
          show evens (ns.map V.int) = _
          exact evens_map V.int ns
        refine ⟨p, evens ns, rfl, SqL.of (by rw [upd_same, e1]), ?_⟩
        refine ⟨_, rfl, 1, rfl, .inr ⟨1, rfl, by decide⟩, a, _, rfl, s2.seq hS1, fun p2 np2 => ?_⟩
        have e2 : evens ((ns.map V.int).drop (stepLo (some 1))) = (evens (ns.drop 1)).map V.int := by
          show evens ((ns.map V.int).drop 1) = _
          rw [← List.map_drop]
          exact evens_map V.int _
        refine ⟨p2, evens (ns.drop 1), rfl, SqL.of (by rw [upd_same, e2]), ?_⟩
        refine ⟨_, _, rfl, rfl, _, rfl, ?_⟩
        exact q2 (by omega) _ (s1.trans (s2.trans (same_new np2 _)))
    · exact ⟨x, rfl, .inr ⟨hn, q⟩⟩
end
end K05
namespace K05
open PySem PySem.Spec PyProof.Rows L2 RE
section
variable {P : Program} {w : World} {K : PySem.W.Frag} {mg : Str → Option Value} {base : Heap} {A : Ad}
theorem ok_is_side (T : Tx K mg A) : FnOk P w K mg base CX0 1 A.f_is_side A.d_is_side ["thing"] (spSide K) := by
  refine T.Fis_side.ok sc_is_side (fun vs H Q E h => ?_) (fun cdv A' outer s H vs Q E hr h => ?_)
  · obtain ⟨x, T, rfl, _⟩ := h
    rfl
  · obtain ⟨x, ty, rfl, hx, q⟩ := h
    refine ⟨_, (pss_one (ps_ret (pe_and (pe_callB call_isi (by rfl) T.bisinstance (by decide +kernel) (pa_cons (pv 0) (pa_cons (pe_bltn (v := .ty "str") (by rfl) T.bstr (by decide +kernel) rfl) pa_nil))) (pe_one (pe_cmpR op_in_seq (pv 0) (pe_tup (pa_cons (pe_glob (v := .str "left") (by rfl) T.gLEFT ⟨_, rfl⟩) (pa_cons (pe_glob (v := .str "right") (by rfl) T.gRIGHT ⟨_, rfl⟩) pa_nil))) (by rfl)))))), ?_⟩
    refine ⟨_, rfl, _, _, _, _, _, rfl, .ty _, hx.ty, kit_str hx.mem, _, rfl, ?_⟩
    cases e : (ty == "str") with
    | false =>
      refine iteF ?_
      have z : isSideB x = false := by
        cases x <;> first | rfl | (have := hx.of_str; subst this; cases e)
      have q' := q H (Same.refl H)
      rw [z] at q'
      exact q'
    | true =>
      refine iteT ?_
      obtain ⟨z, rfl⟩ := hx.str_of (eq_of_beq e)
      refine ⟨_, rfl, (by show 2 ≤ sizeLine; decide), fun t nt => ?_⟩
      refine ⟨t, _, rfl, .inr (SqT.of upd_same), rfl, rfl, ?_⟩
      have e2 : (if false = true then !inV (V.str z) [V.str "left", V.str "right"] else inV (V.str z) [V.str "left", V.str "right"]) = isSideB (.str z) := by
        rw [if_neg Bool.false_ne_true]
        show ((("left" : Str) == z) || ((("right" : Str) == z) || false)) = (decide (z = "left") || decide (z = "right"))
        rw [Bool.or_false]
        congr 1
        · by_cases c : z = "left"
          · subst c
            simp
          · rw [decide_eq_false c]
            exact beq_eq_false_iff_ne.mpr (fun y => c y.symm)
        · by_cases c : z = "right"
          · subst c
            simp
          · rw [decide_eq_false c]
            exact beq_eq_false_iff_ne.mpr (fun y => c y.symm)
      have q' := q _ (same_new nt (.tup [V.str "left", V.str "right"]))
      rw [← e2] at q'
      exact q'
theorem ok_led (T : Tx K mg A) : FnOk P w K mg base (L2N.CX P w) 3 A.f_led A.d_led ["row", "takes"] (spLed K A.C_BadRow A.C_BadTakes) := by
  have Gcheck_row : FnOk P w K mg base (L2N.CX P w) 2 A.f_check_row A.d_check_row ["row"] (spCheck K A.C_BadRow) := ok_check_row T
  have Gis_side : FnOk P w K mg base CX0 1 A.f_is_side A.d_is_side ["thing"] (spSide K) := ok_is_side T
  have Gafter : FnOk P w K mg base CX0 1 A.f_after A.d_after ["row", "low", "behind", "side"] (spAfter K) := ok_after T
  refine RE.Fun.okN T.Fled sc_led (fun vs H Q E h => ?_) (fun cdv A' outer s H vs Q E hr h => ?_)
  · obtain ⟨x, t, rfl, _⟩ := h
    rfl
  · obtain ⟨x, t, rfl, h⟩ := h
    refine ⟨_, (pss_cons (ps_expr (pe_call Gcheck_row (hr.mono (by first | decide | omega)) (by rfl) T.gcheck_row T.Fcheck_row.kp T.bcheck_row .nil (L2N.passes_call (L2N.takes_of rfl rfl rfl rfl) (fun _ _ _ _ h => h)) (pa_cons (pv 0) pa_nil)))
      (pss_cons (ps_if (PW.pt (pw_or (pt_not (pt_val (pe_callB call_isi (by rfl) T.bisinstance (by decide +kernel) (pa_cons (pv 1) (pa_cons (pe_bltn (v := .ty "list") (by rfl) T.blist (by decide +kernel) rfl) pa_nil))))) (pw_or (pt_cmpR op_gt (pe_callB call_len_seq (by rfl) T.blen PySem.boot_len (pa_cons (pv 1) pa_nil)) (pe_callB call_len_seq (by rfl) T.blen PySem.boot_len (pa_cons (pv 0) pa_nil)) (nomark _)) (pw_or1 (pt_not (pt_val (pe_callB (cr_all rfl) (by rfl) T.ball (by decide +kernel) (pa_cons (pe_lc (own := [("side", 2)]) (by rfl) sc_led.nd (pi_list (pv 1)) (blkOk_by (own := [("side", 2)]) (N := N_led) (sc := defScope s_led) (by decide +kernel)) (fun _ _ _ _ _ => (pg_name (i := 2) sc_led.nd rfl (Or.inl rfl))) (fun _ _ _ _ _ => pts_nil) (fun _ _ _ _ _ => (pe_call Gis_side (hr.mono (by first | decide | omega)) (by rfl) T.gis_side T.Fis_side.kp T.bis_side .nil pass0 (pa_cons (pv 2) pa_nil)))) pa_nil)))))))) (pss_one (L2N.ps_raise rfl (L2N.takes_of rfl rfl rfl rfl) (L2N.pmk_own PySem.F.excBase_ValueError T.xBadTakes T.gBadTakes T.kBadTakes (raises_own T.BBadTakes T.tBadTakes) rfl))) pss_nil)
      (pss_cons (ps_par3 (i := 3) (j := 4) (l := 5) rfl sc_led.nd rfl rfl rfl (by decide) (by decide) (by decide) rfl rfl rfl (pa_cons pe_int (pa_cons (pe_callB call_len_seq (by rfl) T.blen PySem.boot_len (pa_cons (pv 0) pa_nil)) (pa_cons (pe_lst (pa_cons pe_int (pa_cons pe_int pa_nil))) pa_nil))) (by rfl))
      (pss_cons (ps_for (passes_of rfl) rfl (pi_enum (by rfl) T.benumerate (pa_cons (pv 1) pa_nil)) (pg_tup rfl (pgs_cons (pg_name (i := 6) sc_led.nd rfl (Or.inl rfl)) (pgs_cons (pg_name (i := 2) sc_led.nd rfl (Or.inl rfl)) pgs_nil)))
      (pss_cons (ps_asg (pe_call Gafter (hr.mono (by first | decide | omega)) (by rfl) T.gafter T.Fafter.kp T.bafter .nil pass0 (pa_cons (pv 0) (pa_cons (pv 3) (pa_cons (pv 4) (pa_cons (pv 2) pa_nil))))) (pg_tup rfl (pgs_cons (pg_name (i := 7) sc_led.nd rfl (Or.inl rfl)) (pgs_cons (pg_name (i := 3) sc_led.nd rfl (Or.inl rfl)) (pgs_cons (pg_name (i := 4) sc_led.nd rfl (Or.inl rfl)) pgs_nil)))))
      (pss_one (ps_augS (pv 5) (pe_op op_mod (pv 6) pe_int) get_list (pv 7) ip_add set_list))))
      (pss_one (ps_ret (pe_tup (pa_cons (pe_ix ix_list (pv 5) pe_int (fun _ _ => rfl)) (pa_cons (pe_ix ix_list (pv 5) pe_int (fun _ _ => rfl)) (pa_cons (pe_slice sl_list (pv 0) (po_some (pv 3)) (po_some (pv 4))) pa_nil)))))))))), ?_⟩
    refine ⟨_, rfl, ?_⟩
    rcases h with ⟨hn, q⟩ | ⟨ns, hrow, h⟩
    · exact ⟨x, rfl, .inr ⟨hn, q⟩⟩
    refine ⟨x, rfl, .inl ⟨ns, hrow, fun H1 s1 => ?_⟩⟩
    obtain ⟨r, rfl, hS, hok⟩ := hrow
    have hS1 := s1.seq hS
    have el : (ns.map V.int).length = ns.length := List.length_map _
    -- what is handed in as takes
    have h' : (∃ ty, PV K H t ty ∧ (ty == "list") = false ∧ ∀ H', Same H H' → E (.ref A.C_BadTakes) none H') ∨
        ∃ (a : Addr) (xs : List V), t = .ref a ∧ SqL K H a xs ∧ (ns.length < xs.length → ∀ H', Same H H' → E (.ref A.C_BadTakes) none H') ∧
        (xs.length ≤ ns.length → (∀ y ∈ xs, ∃ T, PV K H y T)) ∧ (xs.length ≤ ns.length → xs.all isSideB = false → ∀ H', Same H H' → E (.ref A.C_BadTakes) none H') ∧ (xs.length ≤ ns.length → xs.all isSideB = true → ∃ bs, xs = sidesV bs ∧
          ∀ H' p l, Same H H' → H p = none → H l = none → H' p = some (.tup [.int (ledR ns ns.length 0 bs).1, .int (ledR ns ns.length 0 bs).2, .ref l]) → H' l = some (.lst ((stretch ns (ledLow 0 bs) (ns.length - bs.length)).map V.int)) → Q (.ref p) H') := by
      rcases h with ⟨hn, q⟩ | ⟨a, bs, ex, hs, hl, q⟩
      · rcases hn with ⟨ty, hp, e⟩ | ⟨a, xs, ex, hs, hb⟩
        · exact .inl ⟨ty, hp, e, q⟩
        · rcases hb with hb | ⟨hb, hty, ha⟩
          · exact .inr ⟨a, xs, ex, hs, (fun _ => q), (fun h => by omega), (fun h => by omega), (fun h => by omega)⟩
          · exact .inr ⟨a, xs, ex, hs, (fun h => by omega), (fun _ => hty), (fun _ _ => q), (fun _ h => by rw [ha] at h; cases h)⟩
      · refine .inr ⟨a, _, ex, hs, (fun h => ?_), (fun _ y hy => ?_), (fun _ h => ?_), (fun _ _ => ⟨bs, rfl, q⟩)⟩
        · rw [sidesV_len] at h
          omega
        · obtain ⟨b, _, rfl⟩ := List.mem_map.mp hy
          exact ⟨_, pv_str _⟩
        · rw [all_sides] at h
          cases h
    rcases h' with ⟨ty, hp, e, q⟩ | ⟨a, xs, ex, hs, hlong, hty, hbad, hgood⟩
    · have hp1 := hp.mono s1
      refine ⟨_, rfl, _, _, _, _, _, rfl, .ty _, hp1.ty, kit_list hp1.mem, _, rfl, ?_⟩
      rw [e]
      exact iteT (iteT (q H1 s1))
    subst ex
    have hs1 := s1.seq hs
    have hp := pv_sq hs1
    refine ⟨_, rfl, _, _, _, _, _, rfl, .ty _, hp.ty, kit_list hp.mem, _, rfl, ?_⟩
    refine iteF ?_
    refine ⟨_, rfl, a, xs, rfl, .inl hs1, _, rfl, r, _, rfl, .inl hS1, _, _, rfl, rfl, _, rfl, ?_⟩
    by_cases c : ns.length < xs.length
    · refine iteTb (decide_eq_true (by rw [el]; omega)) ?_
      exact iteT (hlong c H1 s1)
    refine iteFb (decide_eq_false (by rw [el]; omega)) ?_
    have hl : xs.length ≤ ns.length := by omega
    have hn12 := hok.1
    refine ⟨_, rfl, a, rfl, ⟨_, hs1⟩, fun D nD => lc_list (K := K) (a := a) (xs := xs) (fun i H2 => Same H1 H2 ∧ H2 D = some (.lst ((xs.take i).map fun y => V.bl (isSideB y)))) ⟨same_new nD _, upd_same⟩ (fun i H2 _ h2 => h2.1.seq hs1) ?_ ?_⟩
    · rintro i y H2 hi ⟨s2, e2⟩
      obtain ⟨ty, hy⟩ := hty hl y (List.mem_of_getElem? hi)
      refine ⟨rfl, ?_⟩
      have hlt : i < xs.length := (List.getElem?_eq_some_iff.mp hi).1
      refine ⟨_, rfl, y, ty, rfl, hy.mono (s1.trans s2), fun H3 s3 => ?_⟩
      refine ⟨_, s3 _ _ e2, ?_, fun c o e => ?_, ?_⟩
      · rw [List.length_map, List.length_take]
        exact size_lt (by omega)
      · rw [upd_ne (ne_of_none e nD)]
        exact s3 c o (s2 c o e)
      · rw [upd_same, List.take_add_one, hi, List.map_append]
        rfl
    · rintro H2 ⟨s2, e2⟩
      rw [List.take_length] at e2
      have e3 : (xs.map fun y => V.bl (isSideB y)) = (xs.map isSideB).map V.bl := by rw [List.map_map]; rfl
      rw [e3] at e2
      refine ⟨D, _, rfl, SqL.of e2, _, rfl, ?_⟩
      have e4 : (xs.map isSideB).all id = xs.all isSideB := by rw [List.all_map]; rfl
      rw [e4]
      cases e : xs.all isSideB with
      | false => exact iteT (hbad hl e H2 (s1.trans s2))
      | true =>
        refine iteF ?_
        obtain ⟨bs, rfl, q⟩ := hgood hl e
        rw [sidesV_len] at hl
        have s12 := s1.trans s2
        -- low, behind, sums = 0, len(row), [0, 0]
        refine ⟨_, rfl, r, _, rfl, .inl (s12.seq hS), (by show 2 ≤ sizeLine; decide), fun u nu => ⟨_, _, _, rfl, ?_⟩⟩
        have s3 := same_new nu (.lst [V.int 0, V.int 0])
        have hs3 := s3.seq (s2.seq hs1)
        refine ⟨_, rfl, a, _, rfl, hs3, ?_⟩
        refine for_enum (K := K) (a := a) (xs := sidesV bs) (fun i σ H4 => ∃ (x2 : Option V) (low n : Nat) (x6 x7 : Option V) (x y : Int), σ = [some (.ref r), some (.ref a), x2, some (.int (low : Int)), some (.int ((low + n : Nat) : Int)), some (.ref u), x6, x7] ∧
          Same H2 H4 ∧ H4 u = some (.lst [V.int x, V.int y]) ∧ low + n ≤ ns.length ∧ n + i = ns.length ∧ ledLow low (bs.drop i) = ledLow 0 bs ∧
          (i % 2 = 0 → x + (ledR ns n low (bs.drop i)).1 = (ledR ns ns.length 0 bs).1 ∧ y + (ledR ns n low (bs.drop i)).2 = (ledR ns ns.length 0 bs).2) ∧
          (i % 2 = 1 → y + (ledR ns n low (bs.drop i)).1 = (ledR ns ns.length 0 bs).2 ∧ x + (ledR ns n low (bs.drop i)).2 = (ledR ns ns.length 0 bs).1)) ?_ ?_ ?_ ?_
        · refine ⟨none, 0, ns.length, none, none, 0, 0, ?_, s3, upd_same, by omega, rfl, rfl, fun _ => ⟨by rw [List.drop_zero]; omega, by rw [List.drop_zero]; omega⟩, fun h => by omega⟩
          rw [el, Nat.zero_add]
          rfl
        · rintro i σ H4 ⟨x2, low, n, x6, x7, x, y, rfl, s4, _⟩
          exact s4.seq (s2.seq hs1)
        · rintro i y T σ H4 hi ⟨x2, low, n, x6, x7, x, yy, rfl, s4, hu4, hn, hni, hlow, hev, hod⟩ nT
          have hlt : i < bs.length := by
            have := (List.getElem?_eq_some_iff.mp hi).1
            rw [sidesV_len] at this
            exact this
          have hy : y = V.str (sideS bs[i]) := by
            unfold sidesV at hi
            rw [List.getElem?_map, List.getElem?_eq_getElem hlt] at hi
            exact (Option.some.inj hi).symm
          subst hy
          have hdrop : bs.drop i = bs[i] :: bs.drop (i + 1) := List.drop_eq_getElem_cons hlt
          obtain ⟨m, rfl⟩ : ∃ m, n = m + 1 := ⟨n - 1, by omega⟩
          generalize hb : bs[i] = b at *
          have s5 := same_new nT (.tup [.int (i : Nat), V.str (sideS b)])
          -- at, side
          refine ⟨T, _, rfl, SqT.of upd_same, rfl, _, _, rfl, _, _, rfl, rfl, ?_⟩
          -- coin, low, behind = after(row, low, behind, side)
          have hS5 := (s12.trans (s4.trans s5)).seq hS
          refine ⟨_, rfl, _, rfl, _, rfl, _, rfl, ?_⟩
          refine ⟨r, ns, low, m, _, _, b, rfl, rfl, rfl, hS5, hn, fun p np => ?_⟩
          have s6 := same_new np (.tup [.int (coinOf ns b low m), .int (lowOf b low : Nat), .int ((lowOf b low + m : Nat) : Int)])
          refine ⟨p, _, rfl, SqT.of upd_same, rfl, _, _, rfl, _, _, rfl, _, _, rfl, rfl, ?_⟩
          have hu6 := s6 _ _ (s5 _ _ hu4)
          rw [hdrop] at hlow hev hod
          rw [ledR_cons] at hev hod
          -- sums[at % 2] += coin
          rcases Nat.mod_two_eq_zero_or_one i with par | par
          · have ei : ((i : Nat) : Int) % 2 = ((0 : Nat) : Int) := by omega
            obtain ⟨h1, h2⟩ := hev par
            refine ⟨_, rfl, _, rfl, _, _, rfl, rfl, (by show (0 : Int) < 2; decide), u, _, _, .int x, rfl, rfl, SqL.of hu6, (by rw [ei]; exact atI_nat rfl), _, rfl, _, _, rfl, rfl, u, _, _, 0, rfl, rfl, hu6, (by rw [ei]; rfl), ?_⟩
            refine ⟨_, lowOf b low, m, _, _, _, yy, rfl, fun c o e => ?_, upd_same, by have := lowOf_le b low m; omega, by omega, hlow, fun h => by omega, fun _ => ⟨?_, ?_⟩⟩
            · rw [upd_ne (ne_of_none e nu)]
              exact s6 c o (s5 c o (s4 c o e))
            · show yy + (ledR ns m (lowOf b low) (bs.drop (i + 1))).1 = _
              exact h2
            · show (x + coinOf ns b low m) + (ledR ns m (lowOf b low) (bs.drop (i + 1))).2 = _
              have h1' : x + (coinOf ns b low m + (ledR ns m (lowOf b low) (bs.drop (i + 1))).2) = (ledR ns ns.length 0 bs).1 := h1
              omega
          · have ei : ((i : Nat) : Int) % 2 = ((1 : Nat) : Int) := by omega
            obtain ⟨h1, h2⟩ := hod par
            refine ⟨_, rfl, _, rfl, _, _, rfl, rfl, (by show (0 : Int) < 2; decide), u, _, _, .int yy, rfl, rfl, SqL.of hu6, (by rw [ei]; exact atI_nat rfl), _, rfl, _, _, rfl, rfl, u, _, _, 1, rfl, rfl, hu6, (by rw [ei]; rfl), ?_⟩
            refine ⟨_, lowOf b low, m, _, _, x, _, rfl, fun c o e => ?_, upd_same, by have := lowOf_le b low m; omega, by omega, hlow, fun _ => ⟨?_, ?_⟩, fun h => by omega⟩
            · rw [upd_ne (ne_of_none e nu)]
              exact s6 c o (s5 c o (s4 c o e))
            · show x + (ledR ns m (lowOf b low) (bs.drop (i + 1))).1 = _
              exact h2
            · show (yy + coinOf ns b low m) + (ledR ns m (lowOf b low) (bs.drop (i + 1))).2 = _
              have h1' : yy + (coinOf ns b low m + (ledR ns m (lowOf b low) (bs.drop (i + 1))).2) = (ledR ns ns.length 0 bs).2 := h1
              omega
        · rintro σ H4 ⟨x2, low, n, x6, x7, x, y, rfl, s4, hu4, hn, hni, hlow, hev, hod⟩
          rw [sidesV_len] at hni hlow hev hod
          rw [List.drop_length] at hlow hev hod
          rw [ledR_nil] at hev hod
          have hx : x = (ledR ns ns.length 0 bs).1 ∧ y = (ledR ns ns.length 0 bs).2 := by
            rcases Nat.mod_two_eq_zero_or_one bs.length with par | par
            · obtain ⟨h1, h2⟩ := hev par
              exact ⟨by have : x + 0 = _ := h1; omega, by have : y + 0 = _ := h2; omega⟩
            · obtain ⟨h1, h2⟩ := hod par
              exact ⟨by have : x + 0 = _ := h2; omega, by have : y + 0 = _ := h1; omega⟩
          have hlow' : low = ledLow 0 bs := hlow
          have hn' : n = ns.length - bs.length := by omega
          have sH4 := s12.trans s4
          -- return (sums[0], sums[1], row[low:behind])
          refine ⟨_, rfl, u, _, _, _, rfl, rfl, SqL.of hu4, atI_nat (j := 0) rfl, _, rfl, u, _, _, _, rfl, rfl, SqL.of hu4, atI_nat (j := 1) rfl, _, rfl, _, rfl, _, rfl, _, rfl, _, rfl, r, _, rfl, sH4.seq hS, fun l nl => ⟨(by show 3 ≤ sizeLine; decide), fun p np => ?_⟩⟩
          have s7 := same_new nl (.lst (cutV (ns.map V.int) (some (low : Int)) (some ((low + n : Nat) : Int))))
          have s8 := same_new np (.tup [V.int x, V.int y, V.ref l])
          refine q _ p l (sH4.trans (s7.trans s8)) ((sH4.trans s7).free np) (sH4.free nl) ?_ ?_
          · rw [upd_same, hx.1, hx.2]
          · refine s8 _ _ ?_
            rw [upd_same, stretch_cut hn rfl rfl, hlow', hn']
theorem ok_greedy (T : Tx K mg A) : FnOk P w K mg base (L2N.CX P w) 3 A.f_greedy A.d_greedy ["row"] (spGreedy K A.C_BadRow) := by
  have Gcheck_row : FnOk P w K mg base (L2N.CX P w) 2 A.f_check_row A.d_check_row ["row"] (spCheck K A.C_BadRow) := ok_check_row T
  have Gafter : FnOk P w K mg base CX0 1 A.f_after A.d_after ["row", "low", "behind", "side"] (spAfter K) := ok_after T
  refine RE.Fun.okN T.Fgreedy sc_greedy (fun vs H Q E h => ?_) (fun cdv A' outer s H vs Q E hr h => ?_)
  · obtain ⟨x, rfl, _⟩ := h
    rfl
  · obtain ⟨x, rfl, h⟩ := h
    refine ⟨_, (pss_cons (ps_expr (pe_call Gcheck_row (hr.mono (by first | decide | omega)) (by rfl) T.gcheck_row T.Fcheck_row.kp T.bcheck_row .nil (L2N.passes_call (L2N.takes_of rfl rfl rfl rfl) (fun _ _ _ _ h => h)) (pa_cons (pv 0) pa_nil)))
      (pss_cons (ps_par3 (i := 1) (j := 2) (l := 3) rfl sc_greedy.nd rfl rfl rfl (by decide) (by decide) (by decide) rfl rfl rfl (pa_cons pe_int (pa_cons (pe_callB call_len_seq (by rfl) T.blen PySem.boot_len (pa_cons (pv 0) pa_nil)) (pa_cons (pe_lst pa_nil) pa_nil))) (by rfl))
      (pss_cons (ps_while (passes_of rfl) (pt_cmpR op_lt (pv 1) (pv 2) (nomark _))
      (pss_mid (ps_set (i := 4) sc_greedy.nd rfl (Or.inl rfl) (pe_ifExp (pt_cmpR op_ge (pe_ix ix_list (pv 0) (pv 1) (fun _ _ => rfl)) (pe_ix ix_list (pv 0) (pe_op op_sub (pv 2) pe_int) (fun _ _ => rfl)) (nomark _)) (pe_glob (v := .str "left") (by rfl) T.gLEFT ⟨_, rfl⟩) (pe_glob (v := .str "right") (by rfl) T.gRIGHT ⟨_, rfl⟩)))
      (pss_cons (ps_expr (pe_bm PySem.F.plainAttrs_list PySem.F.slot_list_append PySem.F.type_list_append mt_append (pv 3) (pa_cons (pv 4) pa_nil)))
      (pss_one (ps_asg (pe_call Gafter (hr.mono (by first | decide | omega)) (by rfl) T.gafter T.Fafter.kp T.bafter .nil pass0 (pa_cons (pv 0) (pa_cons (pv 1) (pa_cons (pv 2) (pa_cons (pv 4) pa_nil))))) (pg_tup rfl (pgs_cons (pg_name (i := 5) sc_greedy.nd rfl (Or.inl rfl)) (pgs_cons (pg_name (i := 1) sc_greedy.nd rfl (Or.inl rfl)) (pgs_cons (pg_name (i := 2) sc_greedy.nd rfl (Or.inl rfl)) pgs_nil)))))))))
      (pss_one (ps_ret (pv 3)))))), ?_⟩
    refine ⟨_, rfl, ?_⟩
    rcases h with ⟨ns, hrow, q⟩ | ⟨hn, q⟩
    · refine ⟨x, rfl, .inl ⟨ns, hrow, fun H1 s1 => ?_⟩⟩
      obtain ⟨r, rfl, hS, hok⟩ := hrow
      have hS1 := s1.seq hS
      have el : (ns.map V.int).length = ns.length := List.length_map _
      refine ⟨_, rfl, r, _, rfl, .inl hS1, Nat.zero_le _, fun f nf => ⟨_, _, _, rfl, ?_⟩⟩
      -- while low < behind
      refine ⟨fun n σ H2 => ∃ (low : Nat) (acc : List Bool) (x4 x5 : Option V), σ = [some (.ref r), some (.int (low : Int)), some (.int ((low + n : Nat) : Int)), some (.ref f), x4, x5] ∧ Same H1 H2 ∧ H2 f = some (.lst (sidesV acc)) ∧ low + n ≤ ns.length ∧ acc.length + n = ns.length ∧ acc ++ greedyV ns n low = greedyV ns ns.length 0, ?_, ?_⟩
      · refine ⟨ns.length, 0, [], none, none, ?_, same_new nf _, upd_same, by omega, by simp, rfl⟩
        rw [el, Nat.zero_add]
        rfl
      · rintro n σ H2 ⟨low, acc, x4, x5, rfl, s2, hf2, hn, hl, hg⟩
        have hS2 := s2.seq hS1
        refine ⟨_, rfl, _, rfl, _, _, rfl, rfl, _, rfl, ?_⟩
        cases n with
        | zero =>
          refine iteFb (decide_eq_false (by omega)) ?_
          refine ⟨_, rfl, ?_⟩
          have e : greedyV ns 0 low = [] := rfl
          rw [e, List.append_nil] at hg
          subst hg
          exact q H2 f (s1.trans s2) (s1.free nf) hf2
        | succ m =>
          refine iteTb (decide_eq_true (by omega)) ?_
          refine ⟨fun σ' H' => ∃ (low : Nat) (acc : List Bool) (x4 x5 : Option V), σ' = [some (.ref r), some (.int (low : Int)), some (.int ((low + m : Nat) : Int)), some (.ref f), x4, x5] ∧ Same H1 H' ∧ H' f = some (.lst (sidesV acc)) ∧ low + m ≤ ns.length ∧ acc.length + m = ns.length ∧ acc ++ greedyV ns m low = greedyV ns ns.length 0, fun σ' H' h => ⟨m, Nat.lt_succ_self m, h⟩, ?_⟩
          -- side = LEFT if row[low] >= row[behind - 1] else RIGHT
          refine ⟨fun σ' H' => σ' = [some (.ref r), some (.int (low : Int)), some (.int ((low + (m + 1) : Nat) : Int)), some (.ref f), some (.str (sideS (decide (ns.getD (low + m) 0 ≤ ns.getD low 0)))), x5] ∧ H' = H2, ?_, ?_⟩
          · refine ⟨_, rfl, _, rfl, r, _, _, _, rfl, rfl, hS2, at_get (j := low) rfl (by omega), _, rfl, _, rfl, _, _, rfl, rfl, r, _, _, _, rfl, rfl, hS2, at_get (j := low + m) (by omega) (by omega), _, _, rfl, rfl, _, rfl, ?_⟩
            by_cases c : ns.getD (low + m) 0 ≤ ns.getD low 0
            · refine iteTb (decide_eq_true c) ?_
              refine ⟨?_, rfl⟩
              rw [decide_eq_true c]
              rfl
            · refine iteFb (decide_eq_false c) ?_
              refine ⟨?_, rfl⟩
              rw [decide_eq_false c]
              rfl
          · rintro σ' H' ⟨rfl, rfl⟩
            rw [greedyV_succ] at hg
            generalize decide (ns.getD (low + m) 0 ≤ ns.getD low 0) = b at hg ⊢
            -- found.append(side)
            refine ⟨_, rfl, .inl ⟨rfl, _, SqL.of hf2⟩, _, rfl, f, _, _, rfl, rfl, hf2, by rw [sidesV_len]; have := hok.1; exact size_lt (by omega), ?_⟩
            have s3 : Same H1 (upd H' f (.lst (sidesV acc ++ [V.str (sideS b)]))) := fun c o e => by
              rw [upd_ne (ne_of_none e nf)]
              exact s2 c o e
            have hS3 := s3.seq hS1
            -- coin, low, behind = after(row, low, behind, side)
            refine ⟨_, rfl, _, rfl, _, rfl, _, rfl, ?_⟩
            refine ⟨r, ns, low, m, _, _, b, rfl, rfl, rfl, hS3, hn, fun p np => ?_⟩
            have s6 := same_new np (.tup [.int (coinOf ns b low m), .int (lowOf b low : Nat), .int ((lowOf b low + m : Nat) : Int)])
            refine ⟨p, _, rfl, SqT.of upd_same, rfl, _, _, rfl, _, _, rfl, _, _, rfl, rfl, ?_⟩
            refine ⟨lowOf b low, acc ++ [b], _, _, rfl, s3.trans s6, ?_, by have := lowOf_le b low m; omega, by rw [List.length_append]; show acc.length + 1 + m = _; omega, ?_⟩
            · refine s6 _ _ ?_
              rw [upd_same]
              unfold sidesV
              rw [List.map_append]
              rfl
            · rw [List.append_assoc]
              exact hg
    · exact ⟨x, rfl, .inr ⟨hn, q⟩⟩
end
end K05
namespace K05
open PySem PySem.Spec PyProof.Rows L2 RE
section
variable {P : Program} {w : World} {K : PySem.W.Frag} {mg : Str → Option Value} {base : Heap} {A : Ad}
theorem step_plays_of (T : Tx K mg A) {n : Nat} (Gplays_of : FnOk P w K mg base CX0 (n + 14) A.f_plays_of A.d_plays_of ["row", "low", "behind", "known"] (spPlaysOf K n)) :
    FnOk P w K mg base CX0 (n + 1 + 14) A.f_plays_of A.d_plays_of ["row", "low", "behind", "known"] (spPlaysOf K (n + 1)) := by
  have Gbest_of : FnOk P w K mg base CX0 14 A.f_best_of A.d_best_of ["row", "low", "behind", "known"] (spBestOf K) := ok_best_of T
  have Gafter : FnOk P w K mg base CX0 1 A.f_after A.d_after ["row", "low", "behind", "side"] (spAfter K) := ok_after T
  rw [show n + 1 + 14 = n + 14 + 1 by omega]
  refine T.Fplays_of.ok sc_plays_of (fun vs H Q E h => ?_) (fun cdv A' outer s H vs Q E hr h => ?_)
  · obtain ⟨a, d, ns, low, m, i, j, kvs, rfl, _⟩ := h
    rfl
  · obtain ⟨a, d, ns, low, m, i, j, kvs, rfl, ei, ej, hS, hd, hk, h12, hm, hn, q⟩ := h
    refine ⟨_, (pss_cons (ps_if (pt_cmpR op_eq (pv 1) (pv 2) (nomark _)) (pss_one (ps_ret pe_int)) pss_nil)
      (pss_cons (ps_set (i := 4) sc_plays_of.nd rfl (Or.inl rfl) pe_int)
      (pss_cons (ps_for PassesOwn.never rfl (pi_list (pe_call Gbest_of (hr.mono (by first | decide | omega)) (by rfl) T.gbest_of T.Fbest_of.kp T.bbest_of .nil pass0 (pa_cons (pv 0) (pa_cons (pv 1) (pa_cons (pv 2) (pa_cons (pv 3) pa_nil)))))) (pg_name (i := 5) sc_plays_of.nd rfl (Or.inl rfl))
      (pss_cons (ps_asg (pe_call Gafter (hr.mono (by first | decide | omega)) (by rfl) T.gafter T.Fafter.kp T.bafter .nil pass0 (pa_cons (pv 0) (pa_cons (pv 1) (pa_cons (pv 2) (pa_cons (pv 5) pa_nil))))) (pg_tup rfl (pgs_cons (pg_name (i := 6) sc_plays_of.nd rfl (Or.inl rfl)) (pgs_cons (pg_name (i := 7) sc_plays_of.nd rfl (Or.inl rfl)) (pgs_cons (pg_name (i := 8) sc_plays_of.nd rfl (Or.inl rfl)) pgs_nil)))))
      (pss_one (ps_aug (i := 4) sc_plays_of.nd rfl (Or.inl rfl) (pe_call Gplays_of (hr.mono (by first | decide | omega)) (by rfl) T.gplays_of T.Fplays_of.kp T.bplays_of .nil pass0 (pa_cons (pv 0) (pa_cons (pv 7) (pa_cons (pv 8) (pa_cons (pv 3) pa_nil))))) ip_add))))
      (pss_one (ps_ret (pv 4)))))), ?_⟩
    refine ⟨_, rfl, _, rfl, rfl, _, rfl, ?_⟩
    cases m with
    | zero =>
      refine iteTb (decide_eq_true (congrArg V.int (by omega))) ?_
      exact q H kvs (SameBut.refl d H) hd hk
    | succ m =>
      refine iteFb (decide_eq_false (fun z => by have z' : i = j := V.int.inj z; omega)) ?_
      -- for side in best_of(..)
      refine ⟨_, rfl, _, rfl, _, rfl, _, rfl, ?_⟩
      refine ⟨a, d, ns, low, m, _, _, kvs, rfl, ei, ej, hS, hd, hk, h12, hm, fun H1 kvs1 p s1 hd1 hk1 np hp => ?_⟩
      have hpd : p ≠ d := ne_of hp hd1 (by intro z; cases z)
      refine ⟨p, rfl, ⟨_, SqL.of hp⟩, ?_⟩
      refine for_list (K := K) (a := p) (xs := sidesV (ends ns (m + 1) low)) (fun t σ H2 => ∃ (kvs2 : List (List Key × V)) (x5 x6 x7 x8 : Option V), σ = [some (.ref a), some (.int i), some (.int j), some (.ref d), some (.int (((ends ns (m + 1) low).take t).map fun b => many ns m (lowOf b low)).sum), x5, x6, x7, x8] ∧
        SameBut d H1 H2 ∧ H2 d = some (.dT kvs2) ∧ Known ns kvs2) ⟨kvs1, none, none, none, none, rfl, SameBut.refl _ _, hd1, hk1⟩ ?_ ?_ ?_
      · rintro t σ H2 _ ⟨kvs2, x5, x6, x7, x8, rfl, s2, hd2, hk2⟩
        exact SqL.of (s2 _ _ hpd hp)
      · rintro t y σ H2 hi ⟨kvs2, x5, x6, x7, x8, rfl, s2, hd2, hk2⟩
        have hlt : t < (ends ns (m + 1) low).length := by
          have := (List.getElem?_eq_some_iff.mp hi).1
          rw [sidesV_len] at this
          exact this
        have hy : y = V.str (sideS (ends ns (m + 1) low)[t]) := by
          unfold sidesV at hi
          rw [List.getElem?_map, List.getElem?_eq_getElem hlt] at hi
          exact (Option.some.inj hi).symm
        subst hy
        have hget : (ends ns (m + 1) low)[t]? = some (ends ns (m + 1) low)[t] := List.getElem?_eq_getElem hlt
        generalize (ends ns (m + 1) low)[t] = b at hget
        have hS2 := (s1.trans s2).seq hd hS
        refine ⟨_, rfl, _, rfl, _, rfl, _, rfl, ?_⟩
        refine ⟨a, ns, low, m, _, _, b, rfl, ei, ej, hS2, hm, fun p2 np2 => ?_⟩
        have s3 := same_new np2 (.tup [.int (coinOf ns b low m), .int (lowOf b low : Nat), .int ((lowOf b low + m : Nat) : Int)])
        refine ⟨p2, _, rfl, SqT.of upd_same, rfl, _, _, rfl, _, _, rfl, _, _, rfl, rfl, ?_⟩
        have hd3 := s3 _ _ hd2
        -- found += plays_of(row, left, right, known)
        refine ⟨_, rfl, _, rfl, _, rfl, _, rfl, _, rfl, ?_⟩
        refine ⟨a, d, ns, lowOf b low, m, _, _, kvs2, rfl, rfl, rfl, s3.seq hS2, hd3, hk2, h12, by have := lowOf_le b low m; omega, by omega, fun H4 kvs4 s4 hd4 hk4 => ?_⟩
        refine ⟨_, _, rfl, rfl, ?_⟩
        refine ⟨kvs4, some (.str (sideS b)), some (.int (coinOf ns b low m)), some (.int (lowOf b low : Nat)), some (.int ((lowOf b low + m : Nat) : Int)), ?_, s2.trans ((SameBut.of s3).trans s4), hd4, hk4⟩
        rw [sum_take1 _ hget]
        rfl
      · rintro σ H2 ⟨kvs2, x5, x6, x7, x8, rfl, s2, hd2, hk2⟩
        refine ⟨_, rfl, ?_⟩
        have q' := q H2 kvs2 (s1.trans s2) hd2 hk2
        rw [many_succ] at q'
        rw [sidesV_len, List.take_length]
        exact q'
theorem plays_of_all (T : Tx K mg A) : ∀ n : Nat, FnOk P w K mg base CX0 (n + 14) A.f_plays_of A.d_plays_of ["row", "low", "behind", "known"] (spPlaysOf K n)
  | 0 => by
    have no : ∀ vs H Q E, ¬ spPlaysOf K 0 vs H Q E := fun vs H Q E h => by
      obtain ⟨a, d, ns, low, m, i, j, kvs, _, _, _, _, _, _, _, _, h0, _⟩ := h
      omega
    exact ⟨fun vs H Q E h => absurd h (no vs H Q E), fun A outer s H args us vs Q E _ _ _ _ h => absurd h (no vs H Q E)⟩
  | n + 1 => step_plays_of T (plays_of_all T n)
theorem ok_plays_of (T : Tx K mg A) : FnOk P w K mg base CX0 27 A.f_plays_of A.d_plays_of ["row", "low", "behind", "known"] (spPlaysOf K 13) := plays_of_all T 13
theorem ok_how_many (T : Tx K mg A) : FnOk P w K mg base (L2N.CX P w) 28 A.f_how_many A.d_how_many ["row"] (spHowMany K A.C_BadRow) := by
  have Gplays_of : FnOk P w K mg base CX0 27 A.f_plays_of A.d_plays_of ["row", "low", "behind", "known"] (spPlaysOf K 13) := ok_plays_of T
  have Gcheck_row : FnOk P w K mg base (L2N.CX P w) 2 A.f_check_row A.d_check_row ["row"] (spCheck K A.C_BadRow) := ok_check_row T
  refine RE.Fun.okN T.Fhow_many sc_how_many (fun vs H Q E h => ?_) (fun cdv A' outer s H vs Q E hr h => ?_)
  · obtain ⟨x, rfl, _⟩ := h
    rfl
  · obtain ⟨x, rfl, h⟩ := h
    refine ⟨_, (pss_cons (ps_expr (pe_call Gcheck_row (hr.mono (by first | decide | omega)) (by rfl) T.gcheck_row T.Fcheck_row.kp T.bcheck_row .nil (L2N.passes_call (L2N.takes_of rfl rfl rfl rfl) (fun _ _ _ _ h => h)) (pa_cons (pv 0) pa_nil)))
      (pss_one (ps_ret (pe_call Gplays_of (hr.mono (by first | decide | omega)) (by rfl) T.gplays_of T.Fplays_of.kp T.bplays_of .nil pass0 (pa_cons (pv 0) (pa_cons pe_int (pa_cons (pe_callB call_len_seq (by rfl) T.blen PySem.boot_len (pa_cons (pv 0) pa_nil)) (pa_cons pe_dnewT pa_nil)))))))), ?_⟩
    refine ⟨_, rfl, ?_⟩
    rcases h with ⟨ns, hrow, q⟩ | ⟨hn, q⟩
    · refine ⟨x, rfl, .inl ⟨ns, hrow, fun H1 s1 => ?_⟩⟩
      obtain ⟨a, rfl, hS, hok⟩ := hrow
      have hS1 := s1.seq hS
      refine ⟨_, rfl, _, rfl, a, _, rfl, .inl hS1, fun d nd => ?_⟩
      refine ⟨a, d, ns, 0, ns.length, _, _, [], rfl, rfl, ?_, (same_new nd _).seq hS1, upd_same, Known.nil _, hok.1, by omega, by have := hok.1; omega, fun H2 kvs2 s2 hd2 hk2 => ?_⟩
      · rw [List.length_map]
        omega
      · exact q H2 (s1.trans (SameBut.free (fun b o nb e => s2 b o nb (by rw [upd_ne nb]; exact e)) nd))
    · exact ⟨x, rfl, .inr ⟨hn, q⟩⟩
theorem ok_play_by (T : Tx K mg A) : FnOk P w K mg base (L2N.CX P w) 28 A.f_play_by A.d_play_by ["row", "number"] (spPlayBy K A.C_BadRow A.C_BadNumber) := by
  have Gplays_of : FnOk P w K mg base CX0 27 A.f_plays_of A.d_plays_of ["row", "low", "behind", "known"] (spPlaysOf K 13) := ok_plays_of T
  have Gcheck_row : FnOk P w K mg base (L2N.CX P w) 2 A.f_check_row A.d_check_row ["row"] (spCheck K A.C_BadRow) := ok_check_row T
  have Gbest_of : FnOk P w K mg base CX0 14 A.f_best_of A.d_best_of ["row", "low", "behind", "known"] (spBestOf K) := ok_best_of T
  have Gafter : FnOk P w K mg base CX0 1 A.f_after A.d_after ["row", "low", "behind", "side"] (spAfter K) := ok_after T
  have Gis_whole : FnOk P w K mg base CX0 1 A.f_is_whole A.d_is_whole ["thing"] (spWhole K) := ok_is_whole T
  refine RE.Fun.okN T.Fplay_by sc_play_by (fun vs H Q E h => ?_) (fun cdv A' outer s H vs Q E hr h => ?_)
  · obtain ⟨x, t, rfl, _⟩ := h
    rfl
  · obtain ⟨x, t, rfl, h⟩ := h
    refine ⟨_, (pss_cons (ps_expr (pe_call Gcheck_row (hr.mono (by first | decide | omega)) (by rfl) T.gcheck_row T.Fcheck_row.kp T.bcheck_row .nil (L2N.passes_call (L2N.takes_of rfl rfl rfl rfl) (fun _ _ _ _ h => h)) (pa_cons (pv 0) pa_nil)))
      (pss_cons (ps_asg (pe_tup (pa_cons pe_dnewT (pa_cons pe_int (pa_cons (pe_callB call_len_seq (by rfl) T.blen PySem.boot_len (pa_cons (pv 0) pa_nil)) (pa_cons (pe_lst pa_nil) pa_nil))))) (pg_tup rfl (pgs_cons (pg_name (i := 2) sc_play_by.nd rfl (Or.inl rfl)) (pgs_cons (pg_name (i := 3) sc_play_by.nd rfl (Or.inl rfl)) (pgs_cons (pg_name (i := 4) sc_play_by.nd rfl (Or.inl rfl)) (pgs_cons (pg_name (i := 5) sc_play_by.nd rfl (Or.inl rfl)) pgs_nil))))))
      (pss_cons (ps_if (PW.pt (pw_or (pt_not (pt_val (pe_call Gis_whole (hr.mono (by first | decide | omega)) (by rfl) T.gis_whole T.Fis_whole.kp T.bis_whole .nil pass0 (pa_cons (pv 1) pa_nil)))) (pw_or1 (pt_not (pt_chain op_le op_lt pe_int (pv 1) (pe_call Gplays_of (hr.mono (by first | decide | omega)) (by rfl) T.gplays_of T.Fplays_of.kp T.bplays_of .nil pass0 (pa_cons (pv 0) (pa_cons (pv 3) (pa_cons (pv 4) (pa_cons (pv 2) pa_nil)))))))))) (pss_one (L2N.ps_raise rfl (L2N.takes_of rfl rfl rfl rfl) (L2N.pmk_own PySem.F.excBase_ValueError T.xBadNumber T.gBadNumber T.kBadNumber (raises_own T.BBadNumber T.tBadNumber) rfl))) pss_nil)
      (pss_cons (ps_while (passes_of rfl) (pt_cmpR op_lt (pv 3) (pv 4) (nomark _))
      (pss_one (ps_for (passes_of rfl) rfl (pi_list (pe_call Gbest_of (hr.mono (by first | decide | omega)) (by rfl) T.gbest_of T.Fbest_of.kp T.bbest_of .nil pass0 (pa_cons (pv 0) (pa_cons (pv 3) (pa_cons (pv 4) (pa_cons (pv 2) pa_nil)))))) (pg_name (i := 6) sc_play_by.nd rfl (Or.inl rfl))
      (pss_cons (ps_asg (pe_call Gafter (hr.mono (by first | decide | omega)) (by rfl) T.gafter T.Fafter.kp T.bafter .nil pass0 (pa_cons (pv 0) (pa_cons (pv 3) (pa_cons (pv 4) (pa_cons (pv 6) pa_nil))))) (pg_tup rfl (pgs_cons (pg_name (i := 7) sc_play_by.nd rfl (Or.inl rfl)) (pgs_cons (pg_name (i := 8) sc_play_by.nd rfl (Or.inl rfl)) (pgs_cons (pg_name (i := 9) sc_play_by.nd rfl (Or.inl rfl)) pgs_nil)))))
      (pss_cons (ps_set (i := 10) sc_play_by.nd rfl (Or.inl rfl) (pe_call Gplays_of (hr.mono (by first | decide | omega)) (by rfl) T.gplays_of T.Fplays_of.kp T.bplays_of .nil pass0 (pa_cons (pv 0) (pa_cons (pv 8) (pa_cons (pv 9) (pa_cons (pv 2) pa_nil))))))
      (pss_cons (ps_if (pt_chain op_le op_lt pe_int (pv 1) (pv 10)) (pss_cons (ps_expr (pe_bm PySem.F.plainAttrs_list PySem.F.slot_list_append PySem.F.type_list_append mt_append (pv 5) (pa_cons (pv 6) pa_nil)))
      (pss_cons (ps_par (i := 3) (j := 4) rfl sc_play_by.nd rfl rfl (by decide) rfl rfl (pa_cons (pv 8) (pa_cons (pv 9) pa_nil)) (by rfl))
      (pss_one ps_break))) pss_nil)
      (pss_one (ps_aug (i := 1) sc_play_by.nd rfl (Or.inl rfl) (pv 10) ip_sub))))))))
      (pss_one (ps_ret (pv 5))))))), ?_⟩
    refine ⟨_, rfl, ?_⟩
    rcases h with ⟨hn, q⟩ | ⟨ns, hrow, h⟩
    · exact ⟨x, rfl, .inr ⟨hn, q⟩⟩
    refine ⟨x, rfl, .inl ⟨ns, hrow, fun H1 s1 => ?_⟩⟩
    obtain ⟨r, rfl, hS, hok⟩ := hrow
    have hS1 := s1.seq hS
    have h12 := hok.1
    have el : (ns.map V.int).length = ns.length := List.length_map _
    -- known, low, behind, found = {}, 0, len(row), []
    refine fun d nd => ?_
    have s2 := same_new nd (.dT [])
    refine ⟨_, rfl, r, _, rfl, .inl (s2.seq hS1), Nat.zero_le _, fun f nf => ?_⟩
    have s3 := s2.trans (same_new nf (.lst []))
    have hd3 := same_new nf (.lst []) _ _ (upd_same (H := H1) (a := d) (o := .dT []))
    have hf3 : (upd (upd H1 d (.dT [])) f (.lst [])) f = some (.lst []) := upd_same
    generalize hH3 : upd (upd H1 d (.dT [])) f (.lst []) = H3 at s3 hd3 hf3
    have nfH : H1 f = none := s2.free nf
    refine ⟨(by show 4 ≤ sizeLine; decide), fun p4 np4 => ?_⟩
    have s4 := same_new np4 (.tup [.ref d, .int 0, .int ((ns.map V.int).length : Int), .ref f])
    refine ⟨p4, _, rfl, SqT.of upd_same, rfl, _, _, rfl, _, _, rfl, _, _, rfl, _, _, rfl, rfl, ?_⟩
    have hd4 := s4 _ _ hd3
    have hf4 := s4 _ _ hf3
    have s14 := s3.trans s4
    generalize hH4 : upd H3 p4 (.tup [.ref d, .int 0, .int ((ns.map V.int).length : Int), .ref f]) = H4 at s4 hd4 hf4 s14
    have nfd : f ≠ d := ne_of hf4 hd4 (by intro z; cases z)
    -- the number
    have h' : (∃ ty, PV K H t ty ∧ (ty == "int") = false ∧ ∀ H', Same H H' → E (.ref A.C_BadNumber) none H') ∨ ∃ k : Int, t = .int k ∧
        (¬ (0 ≤ k ∧ k < many ns ns.length 0) → ∀ H', Same H H' → E (.ref A.C_BadNumber) none H') ∧ (0 ≤ k → k < many ns ns.length 0 → ∃ pl, (plays ns ns.length 0)[k.toNat]? = some pl ∧ ∀ H' p, Same H H' → H p = none → H' p = some (.lst (sidesV pl)) → Q (.ref p) H') := by
      rcases h with ⟨hn, q⟩ | ⟨k, pl, ex, hp, q⟩
      · rcases hn with ⟨ty, hp, e⟩ | ⟨k, ex, hb⟩
        · exact .inl ⟨ty, hp, e, q⟩
        · exact .inr ⟨k, ex, fun _ => q, fun h1 h2 => absurd ⟨h1, h2⟩ hb⟩
      · have hlt := (List.getElem?_eq_some_iff.mp hp).1
        refine .inr ⟨(k : Int), ex, fun h => absurd ⟨by omega, by unfold many; omega⟩ h, fun _ _ => ⟨pl, ?_, q⟩⟩
        rw [Int.toNat_natCast]
        exact hp
    rcases h' with ⟨ty, hp, e, q⟩ | ⟨k, rfl, hbad, hgood⟩
    · refine ⟨_, rfl, ?_⟩
      refine ⟨_, ty, rfl, hp.mono (s1.trans s14), _, rfl, ?_⟩
      rw [e]
      exact iteT (iteT (q H4 (s1.trans s14)))
    refine ⟨_, rfl, ?_⟩
    refine ⟨_, _, rfl, pv_int k, _, rfl, ?_⟩
    refine iteF ?_
    refine ⟨_, rfl, _, _, rfl, rfl, _, rfl, ?_⟩
    by_cases c0 : 0 ≤ k
    rotate_left
    · refine iteFb (decide_eq_false c0) ?_
      exact ⟨_, rfl, iteT (hbad (fun z => c0 z.1) H4 (s1.trans s14))⟩
    refine iteTb (decide_eq_true c0) ?_
    refine ⟨_, rfl, _, rfl, _, rfl, _, rfl, ?_⟩
    refine ⟨r, d, ns, 0, ns.length, _, _, [], rfl, rfl, by rw [el]; omega, s14.seq hS1, hd4, Known.nil _, h12, by omega, by omega, fun H5 kvs5 s5 hd5 hk5 => ?_⟩
    have hf5 := s5 _ _ nfd hf4
    have s15 : Same H1 H5 := fun b o e => s5 b o (ne_of_none e nd) (s14 b o e)
    refine ⟨_, _, rfl, rfl, _, rfl, ?_⟩
    by_cases c1 : k < many ns ns.length 0
    rotate_left
    · rw [decide_eq_false c1]
      exact iteT (hbad (fun z => c1 z.2) H5 (s1.trans s15))
    rw [decide_eq_true c1]
    refine iteF ?_
    obtain ⟨pl, hpl, q⟩ := hgood c0 c1
    -- while low < behind
    refine ⟨fun n σ H6 => ∃ (low k : Nat) (acc rest : List Bool) (kvs6 : List (List Key × V)) (x6 x7 x8 x9 x10 : Option V), σ = [some (.ref r), some (.int (k : Int)), some (.ref d), some (.int (low : Int)), some (.int ((low + n : Nat) : Int)), some (.ref f), x6, x7, x8, x9, x10] ∧
      Same H1 H6 ∧ H6 d = some (.dT kvs6) ∧ Known ns kvs6 ∧ H6 f = some (.lst (sidesV acc)) ∧ low + n ≤ ns.length ∧ acc.length + n = ns.length ∧ (plays ns n low)[k]? = some rest ∧ acc ++ rest = pl, ?_, ?_⟩
    · refine ⟨ns.length, 0, k.toNat, [], pl, kvs5, none, none, none, none, none, ?_, s15, hd5, hk5, hf5, by omega, by simp, hpl, rfl⟩
      rw [Int.toNat_of_nonneg c0, el, Nat.zero_add]
      rfl
    · rintro n σ H6 ⟨low, k, acc, rest, kvs6, x6, x7, x8, x9, x10, rfl, s6, hd6, hk6, hf6, hn, hl, hrest, hacc⟩
      refine ⟨_, rfl, _, rfl, _, _, rfl, rfl, _, rfl, ?_⟩
      cases n with
      | zero =>
        refine iteFb (decide_eq_false (by omega)) ?_
        refine ⟨_, rfl, ?_⟩
        rw [plays_zero] at hrest
        have e : rest = [] := by
          cases k with
          | zero => exact (Option.some.inj hrest).symm
          | succ k => simp at hrest
        subst e
        rw [List.append_nil] at hacc
        subst hacc
        exact q H6 f (s1.trans s6) (s1.free nfH) hf6
      | succ m =>
        refine iteTb (decide_eq_true (by omega)) ?_
        refine ⟨fun σ' H' => ∃ (low k : Nat) (acc rest : List Bool) (kvs6 : List (List Key × V)) (x6 x7 x8 x9 x10 : Option V), σ' = [some (.ref r), some (.int (k : Int)), some (.ref d), some (.int (low : Int)), some (.int ((low + m : Nat) : Int)), some (.ref f), x6, x7, x8, x9, x10] ∧
          Same H1 H' ∧ H' d = some (.dT kvs6) ∧ Known ns kvs6 ∧ H' f = some (.lst (sidesV acc)) ∧ low + m ≤ ns.length ∧ acc.length + m = ns.length ∧ (plays ns m low)[k]? = some rest ∧ acc ++ rest = pl, fun σ' H' h => ⟨m, Nat.lt_succ_self m, h⟩, ?_⟩
        -- for side in best_of(row, low, behind, known)
        refine ⟨_, rfl, _, rfl, _, rfl, _, rfl, ?_⟩
        refine ⟨r, d, ns, low, m, _, _, kvs6, rfl, rfl, rfl, s6.seq hS1, hd6, hk6, h12, hn, fun H7 kvs7 p s7 hd7 hk7 np hp => ?_⟩
        have hpd : p ≠ d := ne_of hp hd7 (by intro z; cases z)
        have hpf : p ≠ f := (ne_of_none hf6 np).symm
        have hf7 := s7 _ _ nfd hf6
        have s17 : Same H1 H7 := fun b o e => s7 b o (ne_of_none e nd) (s6 b o e)
        rw [plays_succ] at hrest
        refine ⟨p, rfl, ⟨_, SqL.of hp⟩, ?_⟩
        refine for_list (K := K) (a := p) (xs := sidesV (ends ns (m + 1) low)) (fun t σ H8 => ∃ (k : Nat) (kvs8 : List (List Key × V)) (x6 x7 x8 x9 x10 : Option V), σ = [some (.ref r), some (.int (k : Int)), some (.ref d), some (.int (low : Int)), some (.int ((low + (m + 1) : Nat) : Int)), some (.ref f), x6, x7, x8, x9, x10] ∧
          Same H1 H8 ∧ H8 d = some (.dT kvs8) ∧ Known ns kvs8 ∧ H8 f = some (.lst (sidesV acc)) ∧ H8 p = some (.lst (sidesV (ends ns (m + 1) low))) ∧ (((ends ns (m + 1) low).drop t).flatMap fun b => (plays ns m (lowOf b low)).map fun p => b :: p)[k]? = some rest) ⟨k, kvs7, x6, x7, x8, x9, x10, rfl, s17, hd7, hk7, hf7, hp, hrest⟩ ?_ ?_ ?_
        · rintro t σ H8 _ ⟨k, kvs8, x6, x7, x8, x9, x10, rfl, s8, hd8, hk8, hf8, hp8, hr8⟩
          exact SqL.of hp8
        · rintro t y σ H8 hi ⟨k, kvs8, x6, x7, x8, x9, x10, rfl, s8, hd8, hk8, hf8, hp8, hr8⟩
          have hlt : t < (ends ns (m + 1) low).length := by
            have := (List.getElem?_eq_some_iff.mp hi).1
            rw [sidesV_len] at this
            exact this
          have hy : y = V.str (sideS (ends ns (m + 1) low)[t]) := by
            unfold sidesV at hi
            rw [List.getElem?_map, List.getElem?_eq_getElem hlt] at hi
            exact (Option.some.inj hi).symm
          subst hy
          rw [List.drop_eq_getElem_cons hlt, List.flatMap_cons] at hr8
          generalize (ends ns (m + 1) low)[t] = b at hr8
          have hS8 := s8.seq hS1
          refine ⟨_, rfl, _, rfl, _, rfl, _, rfl, ?_⟩
          refine ⟨r, ns, low, m, _, _, b, rfl, rfl, rfl, hS8, hn, fun p2 np2 => ?_⟩
          have s9 := same_new np2 (.tup [.int (coinOf ns b low m), .int (lowOf b low : Nat), .int ((lowOf b low + m : Nat) : Int)])
          refine ⟨p2, _, rfl, SqT.of upd_same, rfl, _, _, rfl, _, _, rfl, _, _, rfl, rfl, ?_⟩
          have hd9 := s9 _ _ hd8
          -- many = plays_of(row, left, right, known)
          refine ⟨_, rfl, _, rfl, _, rfl, _, rfl, ?_⟩
          refine ⟨r, d, ns, lowOf b low, m, _, _, kvs8, rfl, rfl, rfl, s9.seq hS8, hd9, hk8, h12, by have := lowOf_le b low m; omega, by omega, fun H10 kvs10 s10 hd10 hk10 => ?_⟩
          have hf10 := s10 _ _ nfd (s9 _ _ hf8)
          have hp10 := s10 _ _ hpd (s9 _ _ hp8)
          have s1a : Same H1 H10 := fun b o e => s10 b o (ne_of_none e nd) (s9 b o (s8 b o e))
          -- if 0 <= number < many
          refine ⟨_, rfl, _, _, rfl, rfl, _, rfl, ?_⟩
          refine iteTb (decide_eq_true (by omega)) ?_
          refine ⟨_, rfl, _, _, rfl, rfl, _, rfl, ?_⟩
          by_cases c : k < (plays ns m (lowOf b low)).length
          · refine iteTb (decide_eq_true (by unfold many; omega)) ?_
            rw [List.getElem?_append_left (by rw [List.length_map]; exact c), List.getElem?_map] at hr8
            obtain ⟨rest', hr', rfl⟩ := Option.map_eq_some_iff.mp hr8
            -- found.append(side)
            refine ⟨_, rfl, .inl ⟨rfl, _, SqL.of hf10⟩, _, rfl, f, _, _, rfl, rfl, hf10, by rw [sidesV_len]; exact size_lt (by omega), ?_⟩
            -- low, behind = left, right
            refine ⟨_, rfl, _, rfl, _, _, rfl, ?_⟩
            refine ⟨lowOf b low, k, acc ++ [b], rest', kvs10, _, _, _, _, _, rfl, fun b o e => ?_, ?_, hk10, ?_, by have := lowOf_le b low m; omega, by rw [List.length_append]; show acc.length + 1 + m = _; omega, hr', by rw [List.append_assoc]; exact hacc⟩
            · rw [upd_ne (ne_of_none e nfH)]
              exact s1a b o e
            · rw [upd_ne nfd.symm]
              exact hd10
            · rw [upd_same]
              unfold sidesV
              rw [List.map_append]
              rfl
          · refine iteFb (decide_eq_false (by unfold many; omega)) ?_
            rw [List.getElem?_append_right (by rw [List.length_map]; omega), List.length_map] at hr8
            -- number -= many
            refine ⟨_, rfl, _, rfl, _, _, rfl, rfl, ?_⟩
            refine ⟨k - (plays ns m (lowOf b low)).length, kvs10, some (.str (sideS b)), some (.int (coinOf ns b low m)), some (.int (lowOf b low : Nat)), some (.int ((lowOf b low + m : Nat) : Int)), some (.int (many ns m (lowOf b low))), ?_, s1a, hd10, hk10, hf10, hp10, hr8⟩
            have ek : ((k - (plays ns m (lowOf b low)).length : Nat) : Int) = (k : Int) - many ns m (lowOf b low) := by
              unfold many
              omega
            rw [ek]
            rfl
        · rintro σ H8 ⟨k, kvs8, x6, x7, x8, x9, x10, rfl, s8, hd8, hk8, hf8, hp8, hr8⟩
          rw [sidesV_len, List.drop_length] at hr8
          simp at hr8
end
end K05
namespace K05
open PySem PySem.Spec PyProof.Rows L2 RE
section
variable {P : Program} {w : World} {K : PySem.W.Frag} {mg : Str → Option Value} {base : Heap} {A : Ad}
end
end K05
namespace K05
open PySem PySem.Spec PyProof.Rows L2 RE
section
variable {P : Program} {w : World} {K : PySem.W.Frag} {mg : Str → Option Value} {base : Heap} {A : Ad}
theorem ok_Gets_init (T : Tx K mg A) : FnOk P w K mg base CX0 1 A.f_Gets_init A.d_Gets_init ["self", "plan"] (spInit K A.C_Gets) := by
  refine T.FGets_init.ok sc_Gets_init (fun vs H Q E h => ?_) (fun cdv A' outer s H vs Q E hr h => ?_)
  · obtain ⟨x, l, dx, xs, rfl, _⟩ := h
    rfl
  · obtain ⟨x, l, dx, xs, rfl, hx, hl, q⟩ := h
    refine ⟨_, (pss_one (ps_fld (pv 0) (pe_callTy call_list_of (by rfl) T.blist (by decide +kernel) (pa_cons (pv 1) pa_nil)) rfl)), ?_⟩
    refine ⟨_, rfl, l, _, rfl, .inl hl, fun m nm => gen_heap nm fun H1 s1 hm => ?_⟩
    have hx1 := s1 _ _ hx
    refine ⟨_, rfl, x, _, dx, [], rfl, hx1, T.clGets, T.npGets, (by show 0 < 1000; decide), gen_put hx1 fun H2 s2 hx2 => ?_⟩
    exact q H2 m ((SameBut.of s1).trans s2) nm hx2 (s2 _ _ (ne_of_none hx nm).symm hm)
theorem ok_Held_init (T : Tx K mg A) : FnOk P w K mg base CX0 1 A.f_Held_init A.d_Held_init ["self", "plan"] (spInit K A.C_Held) := by
  refine T.FHeld_init.ok sc_Held_init (fun vs H Q E h => ?_) (fun cdv A' outer s H vs Q E hr h => ?_)
  · obtain ⟨x, l, dx, xs, rfl, _⟩ := h
    rfl
  · obtain ⟨x, l, dx, xs, rfl, hx, hl, q⟩ := h
    refine ⟨_, (pss_one (ps_fld (pv 0) (pe_callTy call_list_of (by rfl) T.blist (by decide +kernel) (pa_cons (pv 1) pa_nil)) rfl)), ?_⟩
    refine ⟨_, rfl, l, _, rfl, .inl hl, fun m nm => gen_heap nm fun H1 s1 hm => ?_⟩
    have hx1 := s1 _ _ hx
    refine ⟨_, rfl, x, _, dx, [], rfl, hx1, T.clHeld, T.npHeld, (by show 0 < 1000; decide), gen_put hx1 fun H2 s2 hx2 => ?_⟩
    exact q H2 m ((SameBut.of s1).trans s2) nm hx2 (s2 _ _ (ne_of_none hx nm).symm hm)
theorem ok_plan_of (T : Tx K mg A) : FnOk P w K mg base CX0 15 A.f_plan_of A.d_plan_of ["row", "first"] (spPlanOf K) := by
  have Gbest_of : FnOk P w K mg base CX0 14 A.f_best_of A.d_best_of ["row", "low", "behind", "known"] (spBestOf K) := ok_best_of T
  refine T.Fplan_of.ok sc_plan_of (fun vs H Q E h => ?_) (fun cdv A' outer s H vs Q E hr h => ?_)
  · obtain ⟨a, ns, first, rfl, _⟩ := h
    rfl
  · obtain ⟨a, ns, first, rfl, hS, h12, q⟩ := h
    refine ⟨_, (pss_cons (ps_par (i := 2) (j := 3) rfl sc_plan_of.nd rfl rfl (by decide) rfl rfl (pa_cons (pe_lst pa_nil) (pa_cons pe_dnewT pa_nil)) (by rfl))
      (pss_cons (ps_for PassesOwn.never rfl (pi_range1 (by rfl) T.brange (pa_cons (pe_callB call_len_seq (by rfl) T.blen PySem.boot_len (pa_cons (pv 0) pa_nil)) pa_nil)) (pg_name (i := 4) sc_plan_of.nd rfl (Or.inl rfl))
      (pss_one (ps_for PassesOwn.never rfl (pi_range2 (by rfl) T.brange (pa_cons (pe_op op_add (pv 4) pe_int) (pa_cons (pe_op op_add (pe_callB call_len_seq (by rfl) T.blen PySem.boot_len (pa_cons (pv 0) pa_nil)) pe_int) pa_nil))) (pg_name (i := 5) sc_plan_of.nd rfl (Or.inl rfl))
      (pss_one (ps_if (pt_cmpR op_eq (pe_op op_mod (pe_op op_add (pe_op op_sub (pe_callB call_len_seq (by rfl) T.blen PySem.boot_len (pa_cons (pv 0) pa_nil)) (pv 5)) (pv 4)) pe_int) (pe_ifExp (pt_val (pv 1)) pe_int pe_int) (nomark _)) (pss_one (ps_expr (pe_bm PySem.F.plainAttrs_list PySem.F.slot_list_append PySem.F.type_list_append mt_append (pv 2) (pa_cons (pe_tup (pa_cons (pv 4) (pa_cons (pv 5) (pa_cons (pe_ix ix_list (pe_call Gbest_of (hr.mono (by first | decide | omega)) (by rfl) T.gbest_of T.Fbest_of.kp T.bbest_of .nil pass0 (pa_cons (pv 0) (pa_cons (pv 4) (pa_cons (pv 5) (pa_cons (pv 3) pa_nil))))) pe_int (fun _ _ => rfl)) pa_nil)))) pa_nil)))) pss_nil)))))
      (pss_one (ps_ret (pv 2))))), ?_⟩
    have el : (ns.map V.int).length = ns.length := List.length_map _
    refine ⟨Nat.zero_le _, fun f nf => gen_heap nf fun H1 s1 hf => fun d nd => gen_heap nd fun H2 s2 hd => ⟨_, _, rfl, ?_⟩⟩
    have s02 := s1.trans s2
    have hf2 := s2 _ _ hf
    have ndf : d ≠ f := (ne_of_none hf nd).symm
    have ndH : H d = none := s1.free nd
    refine ⟨_, rfl, a, _, rfl, .inl (s02.seq hS), _, rfl, by rw [el]; omega, by rw [el]; omega, ?_⟩
    refine for_range (lo := 0) (n := ((ns.map V.int).length : Int).toNat) (fun i σ H3 => ∃ (xs : List V) (kvs : List (List Key × V)) (x4 x5 : Option V), σ = [some (.ref a), some (.bl first), some (.ref f), some (.ref d), x4, x5] ∧ Same H H3 ∧ H3 f = some (.lst xs) ∧ H3 d = some (.dT kvs) ∧ Known ns kvs ∧ Tris H3 xs (planTo ns first i)) ⟨[], [], none, none, rfl, s02, hf2, hd, Known.nil _, .nil⟩ ?_ ?_
    · rintro i σ H3 hi ⟨xs, kvs, x4, x5, rfl, s3, hf3, hd3, hk3, hT3⟩
      rw [el] at hi
      have hi' : i < ns.length := by omega
      have e0 : (0 : Int) + (i : Int) = (i : Int) := by omega
      refine ⟨_, rfl, _, _, rfl, rfl, _, rfl, a, _, rfl, .inl (s3.seq hS), _, _, rfl, rfl, _, _, rfl, ⟨by omega, by omega, by rw [el]; omega, by rw [el]; omega⟩, ?_⟩
      have en : (((ns.map V.int).length : Int) + 1 - (0 + (i : Int) + 1)).toNat = ns.length - i := by rw [el]; omega
      refine for_range (lo := 0 + (i : Int) + 1) (n := (((ns.map V.int).length : Int) + 1 - (0 + (i : Int) + 1)).toNat) (fun j σ H4 => ∃ (xs : List V) (kvs : List (List Key × V)) (x5 : Option V), σ = [some (.ref a), some (.bl first), some (.ref f), some (.ref d), some (.int (0 + (i : Int))), x5] ∧ Same H H4 ∧ H4 f = some (.lst xs) ∧ H4 d = some (.dT kvs) ∧ Known ns kvs ∧ Tris H4 xs (planTo ns first i ++ chunk ns first i j)) ⟨xs, kvs, x5, rfl, s3, hf3, hd3, hk3, by rw [chunk_zero, List.append_nil]; exact hT3⟩ ?_ ?_
      · rintro j σ H4 hj ⟨xs, kvs, x5, rfl, s4, hf4, hd4, hk4, hT4⟩
        rw [en] at hj
        have hS4 := s4.seq hS
        refine ⟨_, rfl, a, _, rfl, .inl hS4, _, rfl, _, _, rfl, rfl, _, rfl, _, _, rfl, rfl, _, _, rfl, rfl, (by show (0 : Int) < 2; decide), _, rfl, _, rfl, ?_⟩
        have xlen : xs.length ≤ 200 := by
          rw [hT4.len, List.length_append]
          have h1 := planTo_le ns first i
          have h2 := chunk_le ns first i j
          have h3 : i * ns.length ≤ 12 * 12 := Nat.mul_le_mul (by omega) h12
          omega
        have eb : (((ns.map V.int).length : Int) - (0 + (i : Int) + 1 + (j : Int)) + (0 + (i : Int))) % 2 = (((ns.length - (j + 1)) % 2 : Nat) : Int) := by rw [el]; omega
        have test : ∀ (z : Int), z = ((parOf first : Nat) : Int) → decide (V.int ((((ns.map V.int).length : Int) - (0 + (i : Int) + 1 + (j : Int)) + (0 + (i : Int))) % 2) = V.int z) = lineB ns.length first j := by
          rintro z rfl
          unfold lineB
          rw [eb]
          by_cases c : (ns.length - (j + 1)) % 2 = parOf first
          · rw [decide_eq_true c, c]
            exact decide_eq_true rfl
          · rw [decide_eq_false c]
            exact decide_eq_false (fun z => c (by have z' := V.int.inj z; omega))
        cases first with
        | true =>
          refine iteT ⟨rfl, _, rfl, ?_⟩
          rw [test 0 rfl]
          cases c : lineB ns.length true j with
          | false =>
            refine iteF ?_
            refine ⟨xs, kvs, _, rfl, s4, hf4, hd4, hk4, ?_⟩
            rw [chunk_succ, c, if_neg Bool.false_ne_true, List.append_nil]
            exact hT4
          | true =>
            refine iteT ?_
            refine ⟨_, rfl, .inl ⟨rfl, _, SqL.of hf4⟩, _, rfl, _, rfl, _, rfl, _, rfl, _, rfl, _, rfl, ?_⟩
            refine ⟨a, d, ns, i, j, _, _, kvs, rfl, e0, by omega, hS4, hd4, hk4, h12, by omega, fun H5 kvs5 pb s5 hd5 hk5 npb hpb => ?_⟩
            refine ⟨pb, _, _, _, rfl, rfl, SqL.of hpb, atI_nat (j := 0) (bestEnd_at ns i j), (by show 3 ≤ sizeLine; decide), fun pt npt => gen_heap npt fun H6 s6 hpt => ?_⟩
            have hf6 := s6 _ _ (s5 _ _ ndf.symm hf4)
            refine ⟨f, _, _, rfl, rfl, hf6, size_lt (by omega), gen_put hf6 fun H7 s7 hf7 => ?_⟩
            have npf : pt ≠ f := ne_of hpt hf6 (by intro z; cases z)
            refine ⟨_, kvs5, _, rfl, fun b o e => ?_, hf7, s7 _ _ ndf (s6 _ _ hd5), hk5, ?_⟩
            · exact s7 _ _ (ne_of_none e nf) (s6 _ _ (s5 _ _ (ne_of_none e ndH) (s4 _ _ e)))
            · rw [chunk_succ, c, if_pos rfl, ← List.append_assoc]
              have hT5 : Tris H5 xs (planTo ns true i ++ chunk ns true i j) := hT4.butO s5 hd4 (by intro _ z; cases z)
              refine Tris.app (.cons (s7 _ _ npf ?_) .nil) ((hT5.mono s6).but s7 hf6)
              rw [hpt]
              unfold triV lineV
              have e1 : (0 : Int) + (i : Int) + 1 + (j : Int) = ((i + (j + 1) : Nat) : Int) := by omega
              show some (HO.tup [V.int (0 + (i : Int)), V.int (0 + (i : Int) + 1 + (j : Int)), V.str (sideS (bestEnd ns i j))]) = some (HO.tup [V.int (i : Int), V.int ((i + (j + 1) : Nat) : Int), V.str (sideS (bestEnd ns i j))])
              rw [e1, e0]
        | false =>
          refine iteF ⟨rfl, _, rfl, ?_⟩
          rw [test 1 rfl]
          cases c : lineB ns.length false j with
          | false =>
            refine iteF ?_
            refine ⟨xs, kvs, _, rfl, s4, hf4, hd4, hk4, ?_⟩
            rw [chunk_succ, c, if_neg Bool.false_ne_true, List.append_nil]
            exact hT4
          | true =>
            refine iteT ?_
            refine ⟨_, rfl, .inl ⟨rfl, _, SqL.of hf4⟩, _, rfl, _, rfl, _, rfl, _, rfl, _, rfl, _, rfl, ?_⟩
            refine ⟨a, d, ns, i, j, _, _, kvs, rfl, e0, by omega, hS4, hd4, hk4, h12, by omega, fun H5 kvs5 pb s5 hd5 hk5 npb hpb => ?_⟩
            refine ⟨pb, _, _, _, rfl, rfl, SqL.of hpb, atI_nat (j := 0) (bestEnd_at ns i j), (by show 3 ≤ sizeLine; decide), fun pt npt => gen_heap npt fun H6 s6 hpt => ?_⟩
            have hf6 := s6 _ _ (s5 _ _ ndf.symm hf4)
            refine ⟨f, _, _, rfl, rfl, hf6, size_lt (by omega), gen_put hf6 fun H7 s7 hf7 => ?_⟩
            have npf : pt ≠ f := ne_of hpt hf6 (by intro z; cases z)
            refine ⟨_, kvs5, _, rfl, fun b o e => ?_, hf7, s7 _ _ ndf (s6 _ _ hd5), hk5, ?_⟩
            · exact s7 _ _ (ne_of_none e nf) (s6 _ _ (s5 _ _ (ne_of_none e ndH) (s4 _ _ e)))
            · rw [chunk_succ, c, if_pos rfl, ← List.append_assoc]
              have hT5 : Tris H5 xs (planTo ns false i ++ chunk ns false i j) := hT4.butO s5 hd4 (by intro _ z; cases z)
              refine Tris.app (.cons (s7 _ _ npf ?_) .nil) ((hT5.mono s6).but s7 hf6)
              rw [hpt]
              unfold triV lineV
              have e1 : (0 : Int) + (i : Int) + 1 + (j : Int) = ((i + (j + 1) : Nat) : Int) := by omega
              show some (HO.tup [V.int (0 + (i : Int)), V.int (0 + (i : Int) + 1 + (j : Int)), V.str (sideS (bestEnd ns i j))]) = some (HO.tup [V.int (i : Int), V.int ((i + (j + 1) : Nat) : Int), V.str (sideS (bestEnd ns i j))])
              rw [e1, e0]
      · rintro σ H4 ⟨xs, kvs, x5, rfl, s4, hf4, hd4, hk4, hT4⟩
        rw [en] at hT4
        rw [← planTo_succ] at hT4
        exact ⟨xs, kvs, _, _, rfl, s4, hf4, hd4, hk4, hT4⟩
    · rintro σ H3 ⟨xs, kvs, x4, x5, rfl, s3, hf3, hd3, hk3, hT3⟩
      rw [show ((ns.map V.int).length : Int).toNat = ns.length by rw [el]; omega] at hT3
      exact ⟨_, rfl, q H3 f xs s3 nf hf3 hT3⟩
theorem ok_judged (T : Tx K mg A) : FnOk P w K mg base (L2N.CX P w) 16 A.f_judged A.d_judged ["row", "least"] (spJudged K A.C_BadRow A.C_BadNumber A.C_Gets A.C_Held) := by
  have Gworth_of : FnOk P w K mg base CX0 13 A.f_worth_of A.d_worth_of ["row", "low", "behind", "known"] (spWorthOf K 13) := ok_worth_of T
  have Gcheck_row : FnOk P w K mg base (L2N.CX P w) 2 A.f_check_row A.d_check_row ["row"] (spCheck K A.C_BadRow) := ok_check_row T
  have Gis_whole : FnOk P w K mg base CX0 1 A.f_is_whole A.d_is_whole ["thing"] (spWhole K) := ok_is_whole T
  have Gplan_of : FnOk P w K mg base CX0 15 A.f_plan_of A.d_plan_of ["row", "first"] (spPlanOf K) := ok_plan_of T
  have GGets_init : FnOk P w K mg base CX0 1 A.f_Gets_init A.d_Gets_init ["self", "plan"] (spInit K A.C_Gets) := ok_Gets_init T
  have GHeld_init : FnOk P w K mg base CX0 1 A.f_Held_init A.d_Held_init ["self", "plan"] (spInit K A.C_Held) := ok_Held_init T
  refine RE.Fun.okN T.Fjudged sc_judged (fun vs H Q E h => ?_) (fun cdv A' outer s H vs Q E hr h => ?_)
  · obtain ⟨x, t, rfl, _⟩ := h
    rfl
  · obtain ⟨x, t, rfl, h⟩ := h
    refine ⟨_, (pss_cons (ps_expr (pe_call Gcheck_row (hr.mono (by first | decide | omega)) (by rfl) T.gcheck_row T.Fcheck_row.kp T.bcheck_row .nil (L2N.passes_call (L2N.takes_of rfl rfl rfl rfl) (fun _ _ _ _ h => h)) (pa_cons (pv 0) pa_nil)))
      (pss_cons (ps_if (pt_not (pt_val (pe_call Gis_whole (hr.mono (by first | decide | omega)) (by rfl) T.gis_whole T.Fis_whole.kp T.bis_whole .nil pass0 (pa_cons (pv 1) pa_nil)))) (pss_one (L2N.ps_raise rfl (L2N.takes_of rfl rfl rfl rfl) (L2N.pmk_own PySem.F.excBase_ValueError T.xBadNumber T.gBadNumber T.kBadNumber (raises_own T.BBadNumber T.tBadNumber) rfl))) pss_nil)
      (pss_cons (ps_if (pt_cmpR op_ge (pe_call Gworth_of (hr.mono (by first | decide | omega)) (by rfl) T.gworth_of T.Fworth_of.kp T.bworth_of .nil pass0 (pa_cons (pv 0) (pa_cons pe_int (pa_cons (pe_callB call_len_seq (by rfl) T.blen PySem.boot_len (pa_cons (pv 0) pa_nil)) (pa_cons pe_dnewT pa_nil))))) (pv 1) (nomark _)) (pss_one (ps_ret (pe_make T.MGets GGets_init (hr.mono (by first | decide | omega)) (by rfl) T.gGets T.bGets_init .nil pass0 (pa_cons (pe_call Gplan_of (hr.mono (by first | decide | omega)) (by rfl) T.gplan_of T.Fplan_of.kp T.bplan_of .nil pass0 (pa_cons (pv 0) (pa_cons pe_bl pa_nil))) pa_nil)))) pss_nil)
      (pss_one (ps_ret (pe_make T.MHeld GHeld_init (hr.mono (by first | decide | omega)) (by rfl) T.gHeld T.bHeld_init .nil pass0 (pa_cons (pe_call Gplan_of (hr.mono (by first | decide | omega)) (by rfl) T.gplan_of T.Fplan_of.kp T.bplan_of .nil pass0 (pa_cons (pv 0) (pa_cons pe_bl pa_nil))) pa_nil))))))), ?_⟩
    refine ⟨_, rfl, ?_⟩
    rcases h with ⟨hn, q⟩ | ⟨ns, hrow, h⟩
    · exact ⟨x, rfl, .inr ⟨hn, q⟩⟩
    refine ⟨x, rfl, .inl ⟨ns, hrow, fun H1 s1 => ?_⟩⟩
    obtain ⟨r, rfl, hS, hok⟩ := hrow
    have hS1 := s1.seq hS
    have el : (ns.map V.int).length = ns.length := List.length_map _
    rcases h with ⟨⟨ty, hp, e⟩, q⟩ | ⟨k, rfl, q⟩
    · refine ⟨_, rfl, ?_⟩
      refine ⟨_, ty, rfl, hp.mono s1, _, rfl, ?_⟩
      rw [e]
      exact iteT (q H1 s1)
    refine ⟨_, rfl, ?_⟩
    refine ⟨_, _, rfl, pv_int k, _, rfl, iteF ?_⟩
    -- if worth_of(..) >= least
    refine ⟨_, rfl, _, rfl, r, _, rfl, .inl hS1, fun d nd => gen_heap nd fun H2 s2 hd => ?_⟩
    refine ⟨r, d, ns, 0, ns.length, _, _, [], rfl, rfl, by rw [el]; omega, s2.seq hS1, hd, Known.nil _, hok.1, by omega, by have := hok.1; omega, fun H3 kvs3 s3 hd3 hk3 => ?_⟩
    have s13 : Same H1 H3 := fun b o e => s3 _ _ (ne_of_none e nd) (s2 _ _ e)
    have s03 := s1.trans s13
    refine ⟨_, rfl, _, _, rfl, rfl, _, rfl, ?_⟩
    refine ite2 (fun c => ?_) (fun c => ?_)
    · have c' : k ≤ wv ns ns.length 0 := of_decide_eq_true c
      rw [decide_eq_true c', if_pos rfl] at q
      refine ⟨_, rfl, ?_⟩
      refine ⟨r, ns, true, rfl, s03.seq hS, hok.1, fun H4 l xs s4 nl hl hT => ?_⟩
      refine fun o dx no ndx nex => ?_
      have s5 := same_make (C := A.C_Gets) no ndx
      refine ⟨o, l, dx, xs, rfl, upd_same, SqL.of (s5 _ _ hl), fun H6 m s6 nm ho hm => ⟨rfl, ?_⟩⟩
      have hT6 : Tris H6 xs (planV ns true) := (hT.mono s5).butO s6 upd_same (by intro _ z; cases z)
      refine q H6 o dx m xs (fun b u e => ?_) ((s03.trans s4).free no) ((s03.trans s4).free (s5.free nm)) ho hm hT6
      have e4 := s4 _ _ (s03 _ _ e)
      exact s6 _ _ (ne_of_none e4 no) (s5 _ _ e4)
    · have c' : ¬ k ≤ wv ns ns.length 0 := fun z => c (decide_eq_true z)
      rw [decide_eq_false c', if_neg Bool.false_ne_true] at q
      refine ⟨_, rfl, ?_⟩
      refine ⟨r, ns, false, rfl, s03.seq hS, hok.1, fun H4 l xs s4 nl hl hT => ?_⟩
      refine fun o dx no ndx nex => ?_
      have s5 := same_make (C := A.C_Held) no ndx
      refine ⟨o, l, dx, xs, rfl, upd_same, SqL.of (s5 _ _ hl), fun H6 m s6 nm ho hm => ⟨rfl, ?_⟩⟩
      have hT6 : Tris H6 xs (planV ns false) := (hT.mono s5).butO s6 upd_same (by intro _ z; cases z)
      refine q H6 o dx m xs (fun b u e => ?_) ((s03.trans s4).free no) ((s03.trans s4).free (s5.free nm)) ho hm hT6
      have e4 := s4 _ _ (s03 _ _ e)
      exact s6 _ _ (ne_of_none e4 no) (s5 _ _ e4)
end
end K05
namespace K05
open PySem PySem.Spec PyProof.Rows L2 L2H RE
/-- what _law_alone is asked: the handled error, and its class by number -/
def spAlone (Cs : List Addr) (a : Addr) (cls : Value) (d : Option Addr) : Sp := fun vs H Q _ => ∃ (C : Addr) (due : Nat), vs = [.ref a, .int (due : Int)] ∧ cls = .ref C ∧ d = none ∧ Cs[due]? = some C ∧ ∀ H', Same H H' → Q (.bl true) H'
section
variable {P : Program} {w : World} {K : PySem.W.Frag} {mg : Str → Option Value} {base : Heap} {A : Ad}
theorem ok__law_alone (T : Tx K mg A) (p : Addr × Obj) (cls : Value) (d : Option Addr) (hz : L2N.Zn cls d p.2) (hf : ∃ vs, p.2.data = .fields vs) : FnP P w K mg base 1 A.f__law_alone A.d__law_alone ["_law_error", "_law_due"] p (spAlone [A.C_BadRow, A.C_BadTakes, A.C_BadNumber, A.C_Odd] p.1 cls d) := by
  refine RE.Fun.okP T.F_law_alone sc__law_alone (fun vs H Q E h => ?_) (fun cdv A' outer s H vs Q E hot hr h => ?_)
  · obtain ⟨C, due, rfl, _⟩ := h
    rfl
  · obtain ⟨C, due, rfl, rfl, rfl, hC, q⟩ := h
    refine ⟨_, (pss_cons (ps_set (i := 2) sc__law_alone.nd rfl (Or.inl rfl) (pe_lst (pa_cons (pe_callB (call_isP List.mem_cons_self hz.zc hf) (by rfl) T.bisinstance (by decide +kernel) (pa_cons (pv 0) (pa_cons (pe_glob (v := .ref A.C_BadRow) (by rfl) T.gBadRow rfl) pa_nil))) (pa_cons (pe_callB (call_isP List.mem_cons_self hz.zc hf) (by rfl) T.bisinstance (by decide +kernel) (pa_cons (pv 0) (pa_cons (pe_glob (v := .ref A.C_BadTakes) (by rfl) T.gBadTakes rfl) pa_nil))) (pa_cons (pe_callB (call_isP List.mem_cons_self hz.zc hf) (by rfl) T.bisinstance (by decide +kernel) (pa_cons (pv 0) (pa_cons (pe_glob (v := .ref A.C_BadNumber) (by rfl) T.gBadNumber rfl) pa_nil))) pa_nil)))))
      (pss_cons (ps_expr (pe_bm PySem.F.plainAttrs_list PySem.F.slot_list_append PySem.F.type_list_append mt_append (pv 2) (pa_cons (pe_callB (call_isP List.mem_cons_self hz.zc hf) (by rfl) T.bisinstance (by decide +kernel) (pa_cons (pv 0) (pa_cons (pe_glob (v := .ref A.C_Odd) (by rfl) T.gOdd rfl) pa_nil))) pa_nil)))
      (pss_one (ps_ret (pe_and (pe_cmpR (op_eqD (unitsH hr)) (pv 2) (pe_lcH (own := [("_law_k", 3)]) ⟨p, hot, List.mem_cons_self⟩ sc__law_alone.nd (pi_range1H (by rfl) T.brange (pa_cons pe_int pa_nil)) (blkOk_by (own := [("_law_k", 3)]) (N := N__law_alone) (sc := defScope s__law_alone) (by decide +kernel)) (fun _ _ _ _ _ _ => (pg_name (i := 3) sc__law_alone.nd rfl (Or.inl rfl))) (fun _ _ _ _ _ _ => pts_nil) (fun _ _ _ _ _ _ => (pe_cmpR op_eq (pv 3) (pv 1) (nomark _)))) (nomark _)) (pe_one (pe_callB (call_isP List.mem_cons_self hz.zc hf) (by rfl) T.bisinstance (by decide +kernel) (pa_cons (pv 0) (pa_cons (pe_bltn (v := .ty "ValueError") (by rfl) T.bValueError (by decide +kernel) rfl) pa_nil))))))))), ?_⟩
    match due, hC with
    | 0, hC =>
      obtain rfl : A.C_BadRow = C := Option.some.inj hC
      refine ⟨_, rfl, A.C_BadRow, _, _, _, rfl, rfl, T.ecBadRow, rfl, .own _, T.keBadRow_BadRow, _, rfl, A.C_BadRow, _, _, _, rfl, rfl, T.ecBadRow, rfl, .own _, T.keBadRow_BadTakes, _, rfl, A.C_BadRow, _, _, _, rfl, rfl, T.ecBadRow, rfl, .own _, T.keBadRow_BadNumber, (by show 3 ≤ sizeLine; decide), fun f nf => gen_heap nf fun H1 s1 hf1 => ?_⟩
      refine ⟨_, rfl, .inl ⟨rfl, _, SqL.of hf1⟩, _, rfl, A.C_BadRow, _, _, _, rfl, rfl, T.ecBadRow, rfl, .own _, T.keBadRow_Odd, f, _, _, rfl, rfl, hf1, (by show 3 < sizeLine; decide), gen_put hf1 fun H2 s2 hf2 => ?_⟩
      refine ⟨_, rfl, 4, rfl, by decide, by decide, fun D nD => ?_⟩
      refine lc_range (lo := 0) (n := 4) (fun i Hx => Same H2 Hx ∧ Hx D = some (.lst ((List.range i).map fun (i : Nat) => V.bl (decide (V.int (0 + (i : Int)) = V.int 0))))) ⟨same_new nD _, upd_same⟩ ?_ ?_
      · rintro i Hx hi ⟨sx, hD⟩
        refine ⟨rfl, _, rfl, _, rfl, rfl, _, hD, by rw [List.length_map, List.length_range]; exact size_lt (by omega), fun c o e => ?_, ?_⟩
        · rw [upd_ne (ne_of_none e nD)]
          exact sx _ _ e
        · rw [upd_same, List.range_succ, List.map_append]
          rfl
      · rintro Hx ⟨sx, hD⟩
        have lit : ((List.range 4).map fun (i : Nat) => V.bl (decide (V.int (0 + (i : Int)) = V.int 0))) = [V.bl true, V.bl false, V.bl false, V.bl false] := by decide +kernel
        rw [lit] at hD
        refine ⟨_, _, .lst (SqL.of (sx _ _ hf2)) (.cons (.bl _) (.cons (.bl _) (.cons (.bl _) (.cons (.bl _) .nil)))), .lst (SqL.of hD) (.cons (.bl _) (.cons (.bl _) (.cons (.bl _) (.cons (.bl _) .nil)))), (Sh.list (.cons (sh_flat (x := .bl true) rfl 0) (.cons (sh_flat (x := .bl false) rfl 0) (.cons (sh_flat (x := .bl false) rfl 0) (.cons (sh_flat (x := .bl false) rfl 0) (.nil 0)))))).shaped (by decide), (Sh.list (.cons (sh_flat (x := .bl true) rfl 0) (.cons (sh_flat (x := .bl false) rfl 0) (.cons (sh_flat (x := .bl false) rfl 0) (.cons (sh_flat (x := .bl false) rfl 0) (.nil 0)))))).shaped (by decide), ?_⟩
        rw [show PyData.eqv (PyData.list [PyData.bool true, PyData.bool false, PyData.bool false, PyData.bool false]) (PyData.list [PyData.bool true, PyData.bool false, PyData.bool false, PyData.bool false]) = true from eqv_same ((Sh.list (.cons (sh_flat (x := .bl true) rfl 0) (.cons (sh_flat (x := .bl false) rfl 0) (.cons (sh_flat (x := .bl false) rfl 0) (.cons (sh_flat (x := .bl false) rfl 0) (.nil 0)))))).shaped (by decide))]
        refine ⟨true, rfl, iteTb rfl ?_⟩
        refine ⟨_, rfl, A.C_BadRow, _, _, _, rfl, rfl, T.ecBadRow, rfl, .ty _, T.kvBadRow, ?_⟩
        exact q _ ((((SameBut.of s1).trans s2).free nf).trans sx)
    | 1, hC =>
      obtain rfl : A.C_BadTakes = C := Option.some.inj hC
      refine ⟨_, rfl, A.C_BadTakes, _, _, _, rfl, rfl, T.ecBadTakes, rfl, .own _, T.keBadTakes_BadRow, _, rfl, A.C_BadTakes, _, _, _, rfl, rfl, T.ecBadTakes, rfl, .own _, T.keBadTakes_BadTakes, _, rfl, A.C_BadTakes, _, _, _, rfl, rfl, T.ecBadTakes, rfl, .own _, T.keBadTakes_BadNumber, (by show 3 ≤ sizeLine; decide), fun f nf => gen_heap nf fun H1 s1 hf1 => ?_⟩
      refine ⟨_, rfl, .inl ⟨rfl, _, SqL.of hf1⟩, _, rfl, A.C_BadTakes, _, _, _, rfl, rfl, T.ecBadTakes, rfl, .own _, T.keBadTakes_Odd, f, _, _, rfl, rfl, hf1, (by show 3 < sizeLine; decide), gen_put hf1 fun H2 s2 hf2 => ?_⟩
      refine ⟨_, rfl, 4, rfl, by decide, by decide, fun D nD => ?_⟩
      refine lc_range (lo := 0) (n := 4) (fun i Hx => Same H2 Hx ∧ Hx D = some (.lst ((List.range i).map fun (i : Nat) => V.bl (decide (V.int (0 + (i : Int)) = V.int 1))))) ⟨same_new nD _, upd_same⟩ ?_ ?_
      · rintro i Hx hi ⟨sx, hD⟩
        refine ⟨rfl, _, rfl, _, rfl, rfl, _, hD, by rw [List.length_map, List.length_range]; exact size_lt (by omega), fun c o e => ?_, ?_⟩
        · rw [upd_ne (ne_of_none e nD)]
          exact sx _ _ e
        · rw [upd_same, List.range_succ, List.map_append]
          rfl
      · rintro Hx ⟨sx, hD⟩
        have lit : ((List.range 4).map fun (i : Nat) => V.bl (decide (V.int (0 + (i : Int)) = V.int 1))) = [V.bl false, V.bl true, V.bl false, V.bl false] := by decide +kernel
        rw [lit] at hD
        refine ⟨_, _, .lst (SqL.of (sx _ _ hf2)) (.cons (.bl _) (.cons (.bl _) (.cons (.bl _) (.cons (.bl _) .nil)))), .lst (SqL.of hD) (.cons (.bl _) (.cons (.bl _) (.cons (.bl _) (.cons (.bl _) .nil)))), (Sh.list (.cons (sh_flat (x := .bl false) rfl 0) (.cons (sh_flat (x := .bl true) rfl 0) (.cons (sh_flat (x := .bl false) rfl 0) (.cons (sh_flat (x := .bl false) rfl 0) (.nil 0)))))).shaped (by decide), (Sh.list (.cons (sh_flat (x := .bl false) rfl 0) (.cons (sh_flat (x := .bl true) rfl 0) (.cons (sh_flat (x := .bl false) rfl 0) (.cons (sh_flat (x := .bl false) rfl 0) (.nil 0)))))).shaped (by decide), ?_⟩
        rw [show PyData.eqv (PyData.list [PyData.bool false, PyData.bool true, PyData.bool false, PyData.bool false]) (PyData.list [PyData.bool false, PyData.bool true, PyData.bool false, PyData.bool false]) = true from eqv_same ((Sh.list (.cons (sh_flat (x := .bl false) rfl 0) (.cons (sh_flat (x := .bl true) rfl 0) (.cons (sh_flat (x := .bl false) rfl 0) (.cons (sh_flat (x := .bl false) rfl 0) (.nil 0)))))).shaped (by decide))]
        refine ⟨true, rfl, iteTb rfl ?_⟩
        refine ⟨_, rfl, A.C_BadTakes, _, _, _, rfl, rfl, T.ecBadTakes, rfl, .ty _, T.kvBadTakes, ?_⟩
        exact q _ ((((SameBut.of s1).trans s2).free nf).trans sx)
    | 2, hC =>
      obtain rfl : A.C_BadNumber = C := Option.some.inj hC
      refine ⟨_, rfl, A.C_BadNumber, _, _, _, rfl, rfl, T.ecBadNumber, rfl, .own _, T.keBadNumber_BadRow, _, rfl, A.C_BadNumber, _, _, _, rfl, rfl, T.ecBadNumber, rfl, .own _, T.keBadNumber_BadTakes, _, rfl, A.C_BadNumber, _, _, _, rfl, rfl, T.ecBadNumber, rfl, .own _, T.keBadNumber_BadNumber, (by show 3 ≤ sizeLine; decide), fun f nf => gen_heap nf fun H1 s1 hf1 => ?_⟩
      refine ⟨_, rfl, .inl ⟨rfl, _, SqL.of hf1⟩, _, rfl, A.C_BadNumber, _, _, _, rfl, rfl, T.ecBadNumber, rfl, .own _, T.keBadNumber_Odd, f, _, _, rfl, rfl, hf1, (by show 3 < sizeLine; decide), gen_put hf1 fun H2 s2 hf2 => ?_⟩
      refine ⟨_, rfl, 4, rfl, by decide, by decide, fun D nD => ?_⟩
      refine lc_range (lo := 0) (n := 4) (fun i Hx => Same H2 Hx ∧ Hx D = some (.lst ((List.range i).map fun (i : Nat) => V.bl (decide (V.int (0 + (i : Int)) = V.int 2))))) ⟨same_new nD _, upd_same⟩ ?_ ?_
      · rintro i Hx hi ⟨sx, hD⟩
        refine ⟨rfl, _, rfl, _, rfl, rfl, _, hD, by rw [List.length_map, List.length_range]; exact size_lt (by omega), fun c o e => ?_, ?_⟩
        · rw [upd_ne (ne_of_none e nD)]
          exact sx _ _ e
        · rw [upd_same, List.range_succ, List.map_append]
          rfl
      · rintro Hx ⟨sx, hD⟩
        have lit : ((List.range 4).map fun (i : Nat) => V.bl (decide (V.int (0 + (i : Int)) = V.int 2))) = [V.bl false, V.bl false, V.bl true, V.bl false] := by decide +kernel
        rw [lit] at hD
        refine ⟨_, _, .lst (SqL.of (sx _ _ hf2)) (.cons (.bl _) (.cons (.bl _) (.cons (.bl _) (.cons (.bl _) .nil)))), .lst (SqL.of hD) (.cons (.bl _) (.cons (.bl _) (.cons (.bl _) (.cons (.bl _) .nil)))), (Sh.list (.cons (sh_flat (x := .bl false) rfl 0) (.cons (sh_flat (x := .bl false) rfl 0) (.cons (sh_flat (x := .bl true) rfl 0) (.cons (sh_flat (x := .bl false) rfl 0) (.nil 0)))))).shaped (by decide), (Sh.list (.cons (sh_flat (x := .bl false) rfl 0) (.cons (sh_flat (x := .bl false) rfl 0) (.cons (sh_flat (x := .bl true) rfl 0) (.cons (sh_flat (x := .bl false) rfl 0) (.nil 0)))))).shaped (by decide), ?_⟩
        rw [show PyData.eqv (PyData.list [PyData.bool false, PyData.bool false, PyData.bool true, PyData.bool false]) (PyData.list [PyData.bool false, PyData.bool false, PyData.bool true, PyData.bool false]) = true from eqv_same ((Sh.list (.cons (sh_flat (x := .bl false) rfl 0) (.cons (sh_flat (x := .bl false) rfl 0) (.cons (sh_flat (x := .bl true) rfl 0) (.cons (sh_flat (x := .bl false) rfl 0) (.nil 0)))))).shaped (by decide))]
        refine ⟨true, rfl, iteTb rfl ?_⟩
        refine ⟨_, rfl, A.C_BadNumber, _, _, _, rfl, rfl, T.ecBadNumber, rfl, .ty _, T.kvBadNumber, ?_⟩
        exact q _ ((((SameBut.of s1).trans s2).free nf).trans sx)
    | 3, hC =>
      obtain rfl : A.C_Odd = C := Option.some.inj hC
      refine ⟨_, rfl, A.C_Odd, _, _, _, rfl, rfl, T.ecOdd, rfl, .own _, T.keOdd_BadRow, _, rfl, A.C_Odd, _, _, _, rfl, rfl, T.ecOdd, rfl, .own _, T.keOdd_BadTakes, _, rfl, A.C_Odd, _, _, _, rfl, rfl, T.ecOdd, rfl, .own _, T.keOdd_BadNumber, (by show 3 ≤ sizeLine; decide), fun f nf => gen_heap nf fun H1 s1 hf1 => ?_⟩
      refine ⟨_, rfl, .inl ⟨rfl, _, SqL.of hf1⟩, _, rfl, A.C_Odd, _, _, _, rfl, rfl, T.ecOdd, rfl, .own _, T.keOdd_Odd, f, _, _, rfl, rfl, hf1, (by show 3 < sizeLine; decide), gen_put hf1 fun H2 s2 hf2 => ?_⟩
      refine ⟨_, rfl, 4, rfl, by decide, by decide, fun D nD => ?_⟩
      refine lc_range (lo := 0) (n := 4) (fun i Hx => Same H2 Hx ∧ Hx D = some (.lst ((List.range i).map fun (i : Nat) => V.bl (decide (V.int (0 + (i : Int)) = V.int 3))))) ⟨same_new nD _, upd_same⟩ ?_ ?_
      · rintro i Hx hi ⟨sx, hD⟩
        refine ⟨rfl, _, rfl, _, rfl, rfl, _, hD, by rw [List.length_map, List.length_range]; exact size_lt (by omega), fun c o e => ?_, ?_⟩
        · rw [upd_ne (ne_of_none e nD)]
          exact sx _ _ e
        · rw [upd_same, List.range_succ, List.map_append]
          rfl
      · rintro Hx ⟨sx, hD⟩
        have lit : ((List.range 4).map fun (i : Nat) => V.bl (decide (V.int (0 + (i : Int)) = V.int 3))) = [V.bl false, V.bl false, V.bl false, V.bl true] := by decide +kernel
        rw [lit] at hD
        refine ⟨_, _, .lst (SqL.of (sx _ _ hf2)) (.cons (.bl _) (.cons (.bl _) (.cons (.bl _) (.cons (.bl _) .nil)))), .lst (SqL.of hD) (.cons (.bl _) (.cons (.bl _) (.cons (.bl _) (.cons (.bl _) .nil)))), (Sh.list (.cons (sh_flat (x := .bl false) rfl 0) (.cons (sh_flat (x := .bl false) rfl 0) (.cons (sh_flat (x := .bl false) rfl 0) (.cons (sh_flat (x := .bl true) rfl 0) (.nil 0)))))).shaped (by decide), (Sh.list (.cons (sh_flat (x := .bl false) rfl 0) (.cons (sh_flat (x := .bl false) rfl 0) (.cons (sh_flat (x := .bl false) rfl 0) (.cons (sh_flat (x := .bl true) rfl 0) (.nil 0)))))).shaped (by decide), ?_⟩
        rw [show PyData.eqv (PyData.list [PyData.bool false, PyData.bool false, PyData.bool false, PyData.bool true]) (PyData.list [PyData.bool false, PyData.bool false, PyData.bool false, PyData.bool true]) = true from eqv_same ((Sh.list (.cons (sh_flat (x := .bl false) rfl 0) (.cons (sh_flat (x := .bl false) rfl 0) (.cons (sh_flat (x := .bl false) rfl 0) (.cons (sh_flat (x := .bl true) rfl 0) (.nil 0)))))).shaped (by decide))]
        refine ⟨true, rfl, iteTb rfl ?_⟩
        refine ⟨_, rfl, A.C_Odd, _, _, _, rfl, rfl, T.ecOdd, rfl, .ty _, T.kvOdd, ?_⟩
        exact q _ ((((SameBut.of s1).trans s2).free nf).trans sx)
    | due + 4, hC => simp at hC
/-- a refusal by one class alone -/
def spRef (P : Program) (w : World) (K : PySem.W.Frag) (mg : Str → Option Value) (base : Heap) (Cs : List Addr) : Sp := fun vs H Q _ => ∃ (f C : Addr) (sp : Sp) (due : Nat) (door : Int) (x : V), vs = [.ref f, .int door, x, .int (due : Int)] ∧ CanX P w K mg base (L2N.CX P w) 29 f sp ∧ Cs[due]? = some C ∧
  (∀ Q' E', (∀ H', Same H H' → E' (.ref C) none H') → sp [.int door, x] H Q' E') ∧ ∀ H', Same H H' → Q (.bl true) H'
theorem ok__law_refused (T : Tx K mg A) : FnOk P w K mg base CX0 30 A.f__law_refused A.d__law_refused ["_law_ask", "_law_door", "_law_thing", "_law_due"] (spRef P w K mg base [A.C_BadRow, A.C_BadTakes, A.C_BadNumber, A.C_Odd]) := by
  have G_law_alone := fun (p : Addr × Obj) (cls : Value) (d : Option Addr) (hz : L2N.Zn cls d p.2) (hf : ∃ vs, p.2.data = .fields vs) => ok__law_alone (P := P) (w := w) (base := base) T p cls d hz hf
  refine T.F_law_refused.ok sc__law_refused (fun vs H Q E h => ?_) (fun cdv A' outer s H vs Q E hr h => ?_)
  · obtain ⟨f, C, sp, due, door, x, rfl, _⟩ := h
    rfl
  · obtain ⟨f, C, sp, due, door, x, rfl, hcan, hC, hsp, q⟩ := h
    refine ⟨_, (pss_cons (L2N.ps_try_as (i := 4) rfl rfl sc__law_refused.nd rfl rfl ⟨rfl, by decide, .inl T.gEndError⟩ takesN (fun W pn xe tk _ => (pss_one (ps_expr (show PE _ _ (tCallV P w K mg base (L2N.CX P w) 29 (WE W) _ _) from pe_callV (k := 29) (pv 0) (hr.mono (by first | decide | omega)) (fun σ => L2N.passAt tk σ) (pa_cons (pv 1) (pa_cons (pv 2) pa_nil))))))
      (fun a oe cls d pn hz hf => (pss_one (ps_ret (pe_callP (G_law_alone (a, oe) cls d hz hf) (roomH_suite (hr.mono (by first | decide | omega))) (hot_suite hz hf) List.mem_cons_self (by rfl) T.g_law_alone T.F_law_alone.kp T.b_law_alone (pa_cons (pv 4) (pa_cons (pv 3) pa_nil)))))))
      (pss_one (ps_ret pe_bl))), ?_⟩
    refine ⟨_, rfl, f, sp, rfl, hcan, _, rfl, _, rfl, ?_⟩
    refine hsp _ _ (fun H2 s2 => ?_)
    have hex : PySem.W.exmOne K (.ref C) (.ref A.C_EndError) = some true := by
      match due, hC with
      | 0, hC =>
        obtain rfl : A.C_BadRow = C := Option.some.inj hC
        exact T.exBadRow
      | 1, hC =>
        obtain rfl : A.C_BadTakes = C := Option.some.inj hC
        exact T.exBadTakes
      | 2, hC =>
        obtain rfl : A.C_BadNumber = C := Option.some.inj hC
        exact T.exBadNumber
      | 3, hC =>
        obtain rfl : A.C_Odd = C := Option.some.inj hC
        exact T.exOdd
      | due + 4, hC => simp at hC
    refine ⟨true, hex, fun _ a na => ?_, fun z => (nomatch z)⟩
    exact ⟨_, rfl, _, rfl, C, due, rfl, rfl, rfl, hC, fun H3 s3 => q H3 (s2.trans s3)⟩
end
end K05
/-! what is asked at a door, what is handed in there -/
namespace RE
open PySem PySem.Spec PyProof.Rows L2
variable {K : PySem.W.Frag} {H H' : Hp}
theorem NoRow.mono {x : V} (s : Same H H') (h : NoRow K H x) : NoRow K H' x := by
  rcases h with ⟨T, pv, hT⟩ | ⟨a, xs, rfl, hS, h⟩
  · exact .inl ⟨T, pv.mono s, hT⟩
  · refine .inr ⟨a, xs, rfl, s.seq hS, ?_⟩
    rcases h with h | ⟨h1, h2, h3⟩
    · exact .inl h
    · exact .inr ⟨h1, fun y hy => let ⟨T, p⟩ := h2 y hy; ⟨T, p.mono s⟩, h3⟩
theorem NoTakes.mono {x : V} {n : Nat} (s : Same H H') (h : NoTakes K H x n) : NoTakes K H' x n := by
  rcases h with ⟨T, pv, hT⟩ | ⟨a, xs, rfl, hS, h⟩
  · exact .inl ⟨T, pv.mono s, hT⟩
  · refine .inr ⟨a, xs, rfl, s.seq hS, ?_⟩
    rcases h with h | ⟨h1, h2, h3⟩
    · exact .inl h
    · exact .inr ⟨h1, fun y hy => let ⟨T, p⟩ := h2 y hy; ⟨T, p.mono s⟩, h3⟩
theorem NoWhole.mono {x : V} (s : Same H H') (h : NoWhole K H x) : NoWhole K H' x := let ⟨T, p, e⟩ := h; ⟨T, p.mono s, e⟩
def NoPlay (x : V) : Prop := ∃ k : Int, x = .int k ∧ ¬ (0 ≤ k ∧ k < 2)
def OddRow (K : PySem.W.Frag) (H : Hp) (x : V) : Prop := ∃ ns, IsRow K H x ns ∧ ns.length % 2 = 1
theorem OddRow.mono {x : V} (s : Same H H') (h : OddRow K H x) : OddRow K H' x := by
  obtain ⟨ns, ⟨a, e, hS, ok⟩, h⟩ := h
  exact ⟨ns, ⟨a, e, s.seq hS, ok⟩, h⟩
/-- what is bad stays bad -/
def Stays (bad : Hp → V → Prop) : Prop := ∀ (H H' : Hp) (x : V), Same H H' → bad H x → bad H' x
def spAsk (bad : Hp → V → Prop) (doors : Nat) (C : Addr) : Sp := fun vs H Q E => ∃ (door : Int) (x : V), vs = [.int door, x] ∧ 0 ≤ door ∧ door < (doors : Int) ∧ bad H x ∧ ∀ H', Same H H' → E (.ref C) none H'
def spThings (bad : Hp → V → Prop) : Sp := fun vs H Q _ => ∃ c : Int, vs = [.int c] ∧ 0 ≤ c ∧ c < 10 ^ 60 ∧ ∀ H' p xs, Same H H' → H' p = some (.lst xs) → 0 < xs.length → xs.length ≤ 64 → (∀ x ∈ xs, bad H' x) → Q (.ref p) H'
/-- the heap without f -/
def less (H : Hp) (f : Addr) : Hp := fun b => if b = f then none else H b
theorem less_ne {f b : Addr} (h : b ≠ f) : less H f b = H b := if_neg h
theorem less_same (H : Hp) (f : Addr) : Same (less H f) H := fun b o e => by
  unfold less at e
  by_cases h : b = f
  · rw [if_pos h] at e; cases e
  · rw [if_neg h] at e; exact e
theorem less_but {f : Addr} (s : SameBut f H H') : Same (less H f) (less H' f) := fun b o e => by
  unfold less at e ⊢
  by_cases h : b = f
  · rw [if_pos h] at e; cases e
  · rw [if_neg h] at e ⊢
    exact s b o h e
theorem less_new {f : Addr} (n : H f = none) (s : Same H H') : Same H (less H' f) := fun b o e => by
  rw [less_ne (ne_of_none e n)]
  exact s b o e
theorem all_false_at {p : V → Bool} : ∀ {xs : List V} {y : V}, y ∈ xs → p y = false → xs.all p = false := fun {xs y} hy e => by
  cases h : xs.all p with
  | false => rfl
  | true => rw [List.all_eq_true.mp h y hy] at e; cases e
theorem pvs_nil : ∀ y ∈ ([] : List V), ∃ T, PV K H y T := fun _ z => nomatch z
theorem pvs_cons {x : V} {xs : List V} {T : String} (h : PV K H x T) (t : ∀ y ∈ xs, ∃ T, PV K H y T) : ∀ y ∈ x :: xs, ∃ T, PV K H y T := List.forall_mem_cons.mpr ⟨⟨T, h⟩, t⟩
theorem coin_lo {z : Int} (h : z < 0) : coinB (.int z) = false := by
  unfold coinB; simp; omega
theorem coin_hi {z : Int} (h : 1000000 < z) : coinB (.int z) = false := by
  unfold coinB; simp; omega
theorem ixN_lt {n j : Nat} (h : j < n) : ixN n (j : Int) = some j := by
  unfold ixN
  rw [if_pos (Int.natCast_nonneg j), if_pos (by omega), Int.toNat_natCast]
theorem coin_no {x : V} {T : String} (pv : PV K H x T) (hT : (T == "int") = false) : coinB x = false := by
  cases x with
  | int i =>
    rw [pv.of_int] at hT
    cases hT
  | _ => rfl
/-- a row of four with one bad coin -/
theorem bad4 {r : Addr} {x : V} {T : String} {j : Nat} (hr : H r = some (.lst ([V.int 1, V.int 2, V.int 3, V.int 4].set j x))) (hj : j < 4) (pv : PV K H x T) (hT : (T == "int") = false) : NoRow K H (.ref r) := by
  refine .inr ⟨r, _, rfl, SqL.of hr, .inr ⟨by rw [List.length_set]; decide, fun y hy => ?_, all_false_at (y := x) ?_ (coin_no pv hT)⟩⟩
  · rcases List.mem_or_eq_of_mem_set hy with h | h
    · have : ∃ i, y = .int i := by
        simp only [List.mem_cons, List.not_mem_nil, or_false] at h
        rcases h with rfl | rfl | rfl | rfl <;> exact ⟨_, rfl⟩
      obtain ⟨i, rfl⟩ := this
      exact ⟨_, pv_int i⟩
    · subst h
      exact ⟨T, pv⟩
  · rcases (show j = 0 ∨ j = 1 ∨ j = 2 ∨ j = 3 by omega) with rfl | rfl | rfl | rfl <;> simp
theorem rep_len (k : Nat) (y : V) : (List.replicate k [y]).flatten.length = k := by
  rw [List.length_flatten, List.map_replicate, List.sum_replicate_nat]
  simp
theorem rep_le {k : Int} (h : k ≤ 64) : 1 * k.toNat ≤ sizeLine := Nat.le_trans (show 1 * k.toNat ≤ 64 by omega) (by decide)
theorem rep_gt {k : Int} {y : V} (h : 3 < k) : 3 < ((List.replicate k.toNat [y]).flatten).length := by
  rw [rep_len]
  omega
end RE
namespace K05
open PySem PySem.Spec PyProof.Rows L2 L2H RE
section
variable {P : Program} {w : World} {K : PySem.W.Frag} {mg : Str → Option Value} {base : Heap} {A : Ad}
theorem ok__law_with_row (T : Tx K mg A) : FnOk P w K mg base (L2N.CX P w) 29 A.f__law_with_row A.d__law_with_row ["_law_door", "_law_thing"] (spAsk (NoRow K) 8 A.C_BadRow) := by
  have Gled : FnOk P w K mg base (L2N.CX P w) 3 A.f_led A.d_led ["row", "takes"] (spLed K A.C_BadRow A.C_BadTakes) := ok_led T
  have Gjudged : FnOk P w K mg base (L2N.CX P w) 16 A.f_judged A.d_judged ["row", "least"] (spJudged K A.C_BadRow A.C_BadNumber A.C_Gets A.C_Held) := ok_judged T
  have Gplay_by : FnOk P w K mg base (L2N.CX P w) 28 A.f_play_by A.d_play_by ["row", "number"] (spPlayBy K A.C_BadRow A.C_BadNumber) := ok_play_by T
  refine RE.Fun.okN T.F_law_with_row sc__law_with_row (fun vs H Q E h => ?_) (fun cdv A' outer s H vs Q E hr h => ?_)
  · obtain ⟨door, x, rfl, _⟩ := h
    rfl
  · obtain ⟨door, x, rfl, h0, h8, bad, q⟩ := h
    refine ⟨_, (pss_cons (ps_if (pt_cmpR op_lt (pv 0) pe_int (nomark _)) (pss_one (ps_ret (show PE _ _ (tCallV P w K mg base (L2N.CX P w) 28 (fun _ => E) _ _) from pe_callV (k := 28) (pe_ix ix_tup (pe_tup (pa_cons (pe_glob (v := .ref A.f_worth) (by rfl) T.gworth rfl) (pa_cons (pe_glob (v := .ref A.f_best) (by rfl) T.gbest rfl) (pa_cons (pe_glob (v := .ref A.f_greedy) (by rfl) T.ggreedy rfl) (pa_cons (pe_glob (v := .ref A.f_sure) (by rfl) T.gsure rfl) (pa_cons (pe_glob (v := .ref A.f_how_many) (by rfl) T.ghow_many rfl) pa_nil)))))) (pv 0) (fun _ _ => rfl)) (hr.mono (by first | decide | omega)) (passAtOf (L2N.passes_call (L2N.takes_of rfl rfl rfl rfl) (fun _ _ _ _ h => h))) (pa_cons (pv 1) pa_nil)))) pss_nil)
      (pss_cons (ps_if (pt_cmpR op_eq (pv 0) pe_int (nomark _)) (pss_one (ps_ret (pe_call Gled (hr.mono (by first | decide | omega)) (by rfl) T.gled T.Fled.kp T.bled .nil (L2N.passes_call (L2N.takes_of rfl rfl rfl rfl) (fun _ _ _ _ h => h)) (pa_cons (pv 1) (pa_cons pe_non pa_nil))))) pss_nil)
      (pss_one (ps_ret (pe_ifExp (pt_cmpR op_eq (pv 0) pe_int (nomark _)) (pe_call Gjudged (hr.mono (by first | decide | omega)) (by rfl) T.gjudged T.Fjudged.kp T.bjudged .nil (L2N.passes_call (L2N.takes_of rfl rfl rfl rfl) (fun _ _ _ _ h => h)) (pa_cons (pv 1) (pa_cons pe_non pa_nil))) (pe_call Gplay_by (hr.mono (by first | decide | omega)) (by rfl) T.gplay_by T.Fplay_by.kp T.bplay_by .nil (L2N.passes_call (L2N.takes_of rfl rfl rfl rfl) (fun _ _ _ _ h => h)) (pa_cons (pv 1) (pa_cons pe_non pa_nil)))))))), ?_⟩
    by_cases h5 : door < 5
    · refine ⟨_, rfl, _, _, rfl, rfl, _, rfl, iteTb (decide_eq_true h5) ?_⟩
      refine ⟨(by show 5 ≤ sizeLine; decide), fun p np => gen_heap np fun H1 s1 hp => ?_⟩
      have b1 := bad.mono s1
      have q1 : ∀ H', Same H1 H' → E (.ref A.C_BadRow) none H' := fun H' s' => q H' (s1.trans s')
      have hd : door = 0 ∨ door = 1 ∨ door = 2 ∨ door = 3 ∨ door = 4 := by omega
      rcases hd with rfl | rfl | rfl | rfl | rfl
      · exact ⟨_, rfl, p, _, _, _, rfl, rfl, SqT.of hp, rfl, A.f_worth, spWorth K A.C_BadRow, rfl, ⟨_, _, (ok_worth T).mono (by decide), T.bworth, T.Fworth.kp⟩, _, rfl, x, rfl, .inr ⟨b1, q1⟩⟩
      · exact ⟨_, rfl, p, _, _, _, rfl, rfl, SqT.of hp, rfl, A.f_best, spBest K A.C_BadRow, rfl, ⟨_, _, (ok_best T).mono (by decide), T.bbest, T.Fbest.kp⟩, _, rfl, x, rfl, .inr ⟨b1, q1⟩⟩
      · exact ⟨_, rfl, p, _, _, _, rfl, rfl, SqT.of hp, rfl, A.f_greedy, spGreedy K A.C_BadRow, rfl, ⟨_, _, (ok_greedy T).mono (by decide), T.bgreedy, T.Fgreedy.kp⟩, _, rfl, x, rfl, .inr ⟨b1, q1⟩⟩
      · exact ⟨_, rfl, p, _, _, _, rfl, rfl, SqT.of hp, rfl, A.f_sure, spSure K A.C_BadRow A.C_Odd, rfl, ⟨_, _, (ok_sure T).mono (by decide), T.bsure, T.Fsure.kp⟩, _, rfl, x, rfl, .inr ⟨b1, q1⟩⟩
      · exact ⟨_, rfl, p, _, _, _, rfl, rfl, SqT.of hp, rfl, A.f_how_many, spHowMany K A.C_BadRow, rfl, ⟨_, _, (ok_how_many T).mono (by decide), T.bhow_many, T.Fhow_many.kp⟩, _, rfl, x, rfl, .inr ⟨b1, q1⟩⟩
    · refine ⟨_, rfl, _, _, rfl, rfl, _, rfl, iteFb (decide_eq_false h5) ?_⟩
      by_cases e5 : door = 5
      · subst e5
        exact ⟨_, rfl, rfl, _, rfl, iteTb (decide_eq_true rfl) ⟨_, rfl, x, .non, rfl, .inl ⟨bad, q⟩⟩⟩
      · refine ⟨_, rfl, rfl, _, rfl, iteFb (decide_eq_false (fun z => e5 (V.int.inj z))) ?_⟩
        by_cases e6 : door = 6
        · subst e6
          exact ⟨_, rfl, rfl, _, rfl, iteTb (decide_eq_true rfl) ⟨_, rfl, x, .non, rfl, .inl ⟨bad, q⟩⟩⟩
        · exact ⟨_, rfl, rfl, _, rfl, iteFb (decide_eq_false (fun z => e6 (V.int.inj z))) ⟨_, rfl, x, .non, rfl, .inl ⟨bad, q⟩⟩⟩
theorem row12 {K : PySem.W.Frag} {H : Hp} {a : Addr} (h : H a = some (.lst [V.int 1, V.int 2])) : IsRow K H (.ref a) [1, 2] := ⟨a, rfl, SqL.of h, by decide, by decide⟩
theorem ok__law_with_takes (T : Tx K mg A) : FnOk P w K mg base (L2N.CX P w) 29 A.f__law_with_takes A.d__law_with_takes ["_law_door", "_law_thing"] (spAsk (fun H x => NoTakes K H x 3) 1 A.C_BadTakes) := by
  have Gled : FnOk P w K mg base (L2N.CX P w) 3 A.f_led A.d_led ["row", "takes"] (spLed K A.C_BadRow A.C_BadTakes) := ok_led T
  refine RE.Fun.okN T.F_law_with_takes sc__law_with_takes (fun vs H Q E h => ?_) (fun cdv A' outer s H vs Q E hr h => ?_)
  · obtain ⟨door, x, rfl, _⟩ := h
    rfl
  · obtain ⟨door, x, rfl, h0, h8, bad, q⟩ := h
    refine ⟨_, (pss_one (ps_ret (pe_call Gled (hr.mono (by first | decide | omega)) (by rfl) T.gled T.Fled.kp T.bled .nil (L2N.passes_call (L2N.takes_of rfl rfl rfl rfl) (fun _ _ _ _ h => h)) (pa_cons (pe_lst (pa_cons pe_int (pa_cons pe_int (pa_cons pe_int pa_nil)))) (pa_cons (pv 1) pa_nil))))), ?_⟩
    refine ⟨(by show 3 ≤ sizeLine; decide), fun p np => gen_heap np fun H1 s1 hp => ?_⟩
    exact ⟨_, rfl, _, _, rfl, .inr ⟨[1, 2, 3], ⟨p, rfl, SqL.of hp, by decide, by decide⟩, .inl ⟨bad.mono s1, fun H' s' => q H' (s1.trans s')⟩⟩⟩
theorem ok__law_with_number (T : Tx K mg A) : FnOk P w K mg base (L2N.CX P w) 29 A.f__law_with_number A.d__law_with_number ["_law_door", "_law_thing"] (spAsk (NoWhole K) 2 A.C_BadNumber) := by
  have Gjudged : FnOk P w K mg base (L2N.CX P w) 16 A.f_judged A.d_judged ["row", "least"] (spJudged K A.C_BadRow A.C_BadNumber A.C_Gets A.C_Held) := ok_judged T
  have Gplay_by : FnOk P w K mg base (L2N.CX P w) 28 A.f_play_by A.d_play_by ["row", "number"] (spPlayBy K A.C_BadRow A.C_BadNumber) := ok_play_by T
  refine RE.Fun.okN T.F_law_with_number sc__law_with_number (fun vs H Q E h => ?_) (fun cdv A' outer s H vs Q E hr h => ?_)
  · obtain ⟨door, x, rfl, _⟩ := h
    rfl
  · obtain ⟨door, x, rfl, h0, h8, bad, q⟩ := h
    refine ⟨_, (pss_one (ps_ret (pe_ifExp (pt_cmpR op_eq (pv 0) pe_int (nomark _)) (pe_call Gjudged (hr.mono (by first | decide | omega)) (by rfl) T.gjudged T.Fjudged.kp T.bjudged .nil (L2N.passes_call (L2N.takes_of rfl rfl rfl rfl) (fun _ _ _ _ h => h)) (pa_cons (pe_lst (pa_cons pe_int (pa_cons pe_int pa_nil))) (pa_cons (pv 1) pa_nil))) (pe_call Gplay_by (hr.mono (by first | decide | omega)) (by rfl) T.gplay_by T.Fplay_by.kp T.bplay_by .nil (L2N.passes_call (L2N.takes_of rfl rfl rfl rfl) (fun _ _ _ _ h => h)) (pa_cons (pe_lst (pa_cons pe_int (pa_cons pe_int pa_nil))) (pa_cons (pe_ifExp (pt_cmpR op_isN (pv 1) pe_non (nomark _)) pe_int (pv 1)) pa_nil)))))), ?_⟩
    by_cases e0 : door = 0
    · subst e0
      refine ⟨_, rfl, rfl, _, rfl, iteTb (decide_eq_true rfl) ?_⟩
      refine ⟨(by show 2 ≤ sizeLine; decide), fun p np => gen_heap np fun H1 s1 hp => ?_⟩
      exact ⟨_, rfl, _, _, rfl, .inr ⟨[1, 2], row12 hp, .inl ⟨bad.mono s1, fun H' s' => q H' (s1.trans s')⟩⟩⟩
    · refine ⟨_, rfl, rfl, _, rfl, iteFb (decide_eq_false (fun z => e0 (V.int.inj z))) ?_⟩
      refine ⟨(by show 2 ≤ sizeLine; decide), fun p np => gen_heap np fun H1 s1 hp => ?_⟩
      by_cases en : x = .non
      · subst en
        refine ⟨_, rfl, rfl, _, rfl, iteTb (decide_eq_true rfl) ?_⟩
        exact ⟨_, _, rfl, .inr ⟨[1, 2], row12 hp, .inl ⟨.inr ⟨2, rfl, by decide +kernel⟩, fun H' s' => q H' (s1.trans s')⟩⟩⟩
      · refine ⟨_, rfl, rfl, _, rfl, iteFb (decide_eq_false en) ?_⟩
        exact ⟨_, rfl, _, _, rfl, .inr ⟨[1, 2], row12 hp, .inl ⟨.inl (bad.mono s1), fun H' s' => q H' (s1.trans s')⟩⟩⟩
theorem ok__law_with_play (T : Tx K mg A) : FnOk P w K mg base (L2N.CX P w) 29 A.f__law_with_play A.d__law_with_play ["_law_door", "_law_thing"] (spAsk (fun _ x => NoPlay x) 1 A.C_BadNumber) := by
  have Gplay_by : FnOk P w K mg base (L2N.CX P w) 28 A.f_play_by A.d_play_by ["row", "number"] (spPlayBy K A.C_BadRow A.C_BadNumber) := ok_play_by T
  refine RE.Fun.okN T.F_law_with_play sc__law_with_play (fun vs H Q E h => ?_) (fun cdv A' outer s H vs Q E hr h => ?_)
  · obtain ⟨door, x, rfl, _⟩ := h
    rfl
  · obtain ⟨door, x, rfl, h0, h8, ⟨k, rfl, hk⟩, q⟩ := h
    refine ⟨_, (pss_one (ps_ret (pe_call Gplay_by (hr.mono (by first | decide | omega)) (by rfl) T.gplay_by T.Fplay_by.kp T.bplay_by .nil (L2N.passes_call (L2N.takes_of rfl rfl rfl rfl) (fun _ _ _ _ h => h)) (pa_cons (pe_lst (pa_cons pe_int (pa_cons pe_int pa_nil))) (pa_cons (pv 1) pa_nil))))), ?_⟩
    refine ⟨(by show 2 ≤ sizeLine; decide), fun p np => gen_heap np fun H1 s1 hp => ?_⟩
    refine ⟨_, rfl, _, _, rfl, .inr ⟨[1, 2], row12 hp, .inl ⟨.inr ⟨k, rfl, ?_⟩, fun H' s' => q H' (s1.trans s')⟩⟩⟩
    rw [show many [1, 2] ([1, 2] : List Int).length 0 = 2 by decide +kernel]
    exact hk
theorem ok__law_with_odd (T : Tx K mg A) : FnOk P w K mg base (L2N.CX P w) 29 A.f__law_with_odd A.d__law_with_odd ["_law_door", "_law_thing"] (spAsk (OddRow K) 1 A.C_Odd) := by
  have Gsure : FnOk P w K mg base (L2N.CX P w) 3 A.f_sure A.d_sure ["row"] (spSure K A.C_BadRow A.C_Odd) := ok_sure T
  refine RE.Fun.okN T.F_law_with_odd sc__law_with_odd (fun vs H Q E h => ?_) (fun cdv A' outer s H vs Q E hr h => ?_)
  · obtain ⟨door, x, rfl, _⟩ := h
    rfl
  · obtain ⟨door, x, rfl, h0, h8, ⟨ns, hrow, hodd⟩, q⟩ := h
    refine ⟨_, (pss_one (ps_ret (pe_call Gsure (hr.mono (by first | decide | omega)) (by rfl) T.gsure T.Fsure.kp T.bsure .nil (L2N.passes_call (L2N.takes_of rfl rfl rfl rfl) (fun _ _ _ _ h => h)) (pa_cons (pv 1) pa_nil)))), ?_⟩
    exact ⟨_, rfl, x, rfl, .inl ⟨ns, hrow, fun _ => q, fun z => by omega⟩⟩
end
end K05
namespace K05
open PySem PySem.Spec PyProof.Rows L2 L2H RE
section
variable {P : Program} {w : World} {K : PySem.W.Frag} {mg : Str → Option Value} {base : Heap} {A : Ad}
theorem ok__law_no_numbers (T : Tx K mg A) : FnOk P w K mg base CX0 1 A.f__law_no_numbers A.d__law_no_numbers ["_law_cell"] (spThings (NoWhole K)) := by
  refine T.F_law_no_numbers.ok sc__law_no_numbers (fun vs H Q E h => ?_) (fun cdv A' outer s H vs Q E hr h => ?_)
  · obtain ⟨c, rfl, _⟩ := h
    rfl
  · obtain ⟨c, rfl, h0, h60, q⟩ := h
    refine ⟨_, (pss_one (ps_ret (pe_lst (pa_cons pe_non (pa_cons pe_str (pa_cons pe_bl (pa_cons pe_bl (pa_cons (pe_lst (pa_cons pe_int pa_nil)) (pa_cons (pe_tup (pa_cons pe_int pa_nil)) (pa_cons pe_dnewT (pa_cons pe_str pa_nil))))))))))), ?_⟩
    refine ⟨(by show 1 ≤ sizeLine; decide), fun p1 np1 => gen_heap np1 fun H2 sH2 hp1 => ?_⟩
    refine ⟨(by show 1 ≤ sizeLine; decide), fun p3 np3 => gen_heap np3 fun H4 sH4 hp3 => ?_⟩
    refine fun p7 np7 => gen_heap np7 fun H8 sH8 hp7 => ?_
    refine ⟨(by show 8 ≤ sizeLine; decide), fun p9 np9 => gen_heap np9 fun H10 sH10 hp9 => ?_⟩
    have h11 := (sH10 _ _ hp7)
    have h12 := (sH10 _ _ (sH8 _ _ hp3))
    have h13 := (sH10 _ _ (sH8 _ _ (sH4 _ _ hp1)))
    exact q _ p9 _ (fun b o e => (sH10 _ _ (sH8 _ _ (sH4 _ _ (sH2 _ _ e))))) hp9 (by show 0 < 8; decide) (by show 8 ≤ 64; decide) (List.forall_mem_cons.mpr ⟨⟨_, pv_non, rfl⟩, (List.forall_mem_cons.mpr ⟨⟨_, (pv_str _), rfl⟩, (List.forall_mem_cons.mpr ⟨⟨_, (pv_bl _), rfl⟩, (List.forall_mem_cons.mpr ⟨⟨_, (pv_bl _), rfl⟩, (List.forall_mem_cons.mpr ⟨⟨_, (pv_sq (SqL.of h13)), rfl⟩, (List.forall_mem_cons.mpr ⟨⟨_, (pv_tup h12), rfl⟩, (List.forall_mem_cons.mpr ⟨⟨_, (pv_dT h11), rfl⟩, (List.forall_mem_cons.mpr ⟨⟨_, (pv_str _), rfl⟩, (fun _ z => nomatch z)⟩)⟩)⟩)⟩)⟩)⟩)⟩)⟩)
theorem ok__law_no_plays (T : Tx K mg A) : FnOk P w K mg base CX0 1 A.f__law_no_plays A.d__law_no_plays ["_law_cell"] (spThings (fun _ x => NoPlay x)) := by
  refine T.F_law_no_plays.ok sc__law_no_plays (fun vs H Q E h => ?_) (fun cdv A' outer s H vs Q E hr h => ?_)
  · obtain ⟨c, rfl, _⟩ := h
    rfl
  · obtain ⟨c, rfl, h0, h60, q⟩ := h
    refine ⟨_, (pss_one (ps_ret (pe_lst (pa_cons (pe_un un_neg pe_int) (pa_cons (pe_op op_sub (pe_un un_neg pe_int) (pv 0)) (pa_cons pe_int (pa_cons (pe_op op_add pe_int (pv 0)) pa_nil))))))), ?_⟩
    refine ⟨_, rfl, _, rfl, _, rfl, _, _, rfl, rfl, _, rfl, _, _, rfl, rfl, (by show 4 ≤ sizeLine; decide), fun p1 np1 => gen_heap np1 fun H2 sH2 hp1 => ?_⟩
    exact q _ p1 _ (fun b o e => (sH2 _ _ e)) hp1 (by show 0 < 4; decide) (by show 4 ≤ 64; decide) (List.forall_mem_cons.mpr ⟨⟨_, rfl, by omega⟩, (List.forall_mem_cons.mpr ⟨⟨_, rfl, by omega⟩, (List.forall_mem_cons.mpr ⟨⟨_, rfl, by omega⟩, (List.forall_mem_cons.mpr ⟨⟨_, rfl, by omega⟩, (fun _ z => nomatch z)⟩)⟩)⟩)⟩)
theorem ok__law_odd (T : Tx K mg A) : FnOk P w K mg base CX0 1 A.f__law_odd A.d__law_odd ["_law_cell"] (spThings (OddRow K)) := by
  refine T.F_law_odd.ok sc__law_odd (fun vs H Q E h => ?_) (fun cdv A' outer s H vs Q E hr h => ?_)
  · obtain ⟨c, rfl, _⟩ := h
    rfl
  · obtain ⟨c, rfl, h0, h60, q⟩ := h
    refine ⟨_, (pss_one (ps_ret (pe_lst (pa_cons (pe_lst (pa_cons pe_int pa_nil)) (pa_cons (pe_lst (pa_cons pe_int (pa_cons pe_int (pa_cons pe_int pa_nil)))) (pa_cons (pe_op op_rep (pe_lst (pa_cons pe_int pa_nil)) pe_int) (pa_cons (pe_lst (pa_cons (pe_op op_mod (pv 0) pe_int) pa_nil)) pa_nil))))))), ?_⟩
    refine ⟨(by show 1 ≤ sizeLine; decide), fun p1 np1 => gen_heap np1 fun H2 sH2 hp1 => ?_⟩
    refine ⟨(by show 3 ≤ sizeLine; decide), fun p3 np3 => gen_heap np3 fun H4 sH4 hp3 => ?_⟩
    refine ⟨(by show 1 ≤ sizeLine; decide), fun p5 np5 => gen_heap np5 fun H6 sH6 hp5 => ?_⟩
    refine ⟨p5, _, _, rfl, rfl, hp5, (by decide), (by decide), (by show 11 ≤ sizeLine; decide), fun p7 np7 => gen_heap np7 fun H8 sH8 hp7 => ?_⟩
    replace hp7 : H8 p7 = some (.lst [V.int 5, V.int 5, V.int 5, V.int 5, V.int 5, V.int 5, V.int 5, V.int 5, V.int 5, V.int 5, V.int 5]) := hp7
    refine ⟨_, rfl, _, _, rfl, rfl, (by show (0 : Int) < 1000001; decide), (by show 1 ≤ sizeLine; decide), fun p9 np9 => gen_heap np9 fun H10 sH10 hp9 => ?_⟩
    refine ⟨(by show 4 ≤ sizeLine; decide), fun p11 np11 => gen_heap np11 fun H12 sH12 hp11 => ?_⟩
    have h13 := (sH12 _ _ hp9)
    have h14 := (sH12 _ _ (sH10 _ _ hp7))
    have h15 := (sH12 _ _ (sH10 _ _ (sH8 _ _ (sH6 _ _ hp3))))
    have h16 := (sH12 _ _ (sH10 _ _ (sH8 _ _ (sH6 _ _ (sH4 _ _ hp1)))))
    exact q _ p11 _ (fun b o e => (sH12 _ _ (sH10 _ _ (sH8 _ _ (sH6 _ _ (sH4 _ _ (sH2 _ _ e))))))) hp11 (by show 0 < 4; decide) (by show 4 ≤ 64; decide) (List.forall_mem_cons.mpr ⟨⟨[1], ⟨p1, rfl, SqL.of h16, (by show 1 ≤ 12; decide), by decide⟩, (by show 1 % 2 = 1; decide)⟩, (List.forall_mem_cons.mpr ⟨⟨[1, 2, 3], ⟨p3, rfl, SqL.of h15, (by show 3 ≤ 12; decide), by decide⟩, (by show 3 % 2 = 1; decide)⟩, (List.forall_mem_cons.mpr ⟨⟨[5, 5, 5, 5, 5, 5, 5, 5, 5, 5, 5], ⟨p7, rfl, SqL.of h14, (by show 11 ≤ 12; decide), by decide⟩, (by show 11 % 2 = 1; decide)⟩, (List.forall_mem_cons.mpr ⟨⟨[(c % 1000001)], ⟨p9, rfl, SqL.of h13, (by show 1 ≤ 12; decide), fun z hz => by rw [List.mem_singleton] at hz; omega⟩, (by show 1 % 2 = 1; decide)⟩, (fun _ z => nomatch z)⟩)⟩)⟩)⟩)
theorem ok__law_no_takes (T : Tx K mg A) : FnOk P w K mg base CX0 1 A.f__law_no_takes A.d__law_no_takes ["_law_cell"] (spThings (fun H x => NoTakes K H x 3)) := by
  refine T.F_law_no_takes.ok sc__law_no_takes (fun vs H Q E h => ?_) (fun cdv A' outer s H vs Q E hr h => ?_)
  · obtain ⟨c, rfl, _⟩ := h
    rfl
  · obtain ⟨c, rfl, h0, h60, q⟩ := h
    refine ⟨_, (pss_cons (ps_set (i := 1) sc__law_no_takes.nd rfl (Or.inl rfl) (pe_lst (pa_cons pe_non (pa_cons pe_int (pa_cons (pe_tup pa_nil) (pa_cons (pe_tup (pa_cons pe_str pa_nil)) (pa_cons pe_str (pa_cons pe_dnewT (pa_cons (pe_op op_rep (pe_lst (pa_cons pe_str pa_nil)) pe_int) (pa_cons (pe_lst (pa_cons pe_str pa_nil)) (pa_cons (pe_lst (pa_cons pe_str pa_nil)) (pa_cons (pe_lst (pa_cons pe_non pa_nil)) (pa_cons (pe_lst (pa_cons pe_int pa_nil)) (pa_cons (pe_lst (pa_cons pe_str (pa_cons pe_bl pa_nil))) (pa_cons (pe_lst (pa_cons (pe_lst (pa_cons pe_str pa_nil)) pa_nil)) pa_nil)))))))))))))))
      (pss_one (ps_ret (pe_op op_cat (pv 1) (pe_lst (pa_cons (pe_lst (pa_cons pe_str (pa_cons (pe_tup (pa_cons pe_str pa_nil)) pa_nil))) (pa_cons (pe_op op_rep (pe_lst (pa_cons pe_str pa_nil)) (pe_op op_add pe_int (pe_op op_mod (pv 0) pe_int))) (pa_cons (pe_lst (pa_cons (pv 0) pa_nil)) pa_nil)))))))), ?_⟩
    refine ⟨Nat.zero_le _, fun p1 np1 => gen_heap np1 fun H2 sH2 hp1 => ?_⟩
    refine ⟨(by show 1 ≤ sizeLine; decide), fun p3 np3 => gen_heap np3 fun H4 sH4 hp3 => ?_⟩
    refine fun p7 np7 => gen_heap np7 fun H8 sH8 hp7 => ?_
    refine ⟨(by show 1 ≤ sizeLine; decide), fun p9 np9 => gen_heap np9 fun H10 sH10 hp9 => ?_⟩
    refine ⟨p9, _, _, rfl, rfl, hp9, (by decide), (by decide), (by show 4 ≤ sizeLine; decide), fun p11 np11 => gen_heap np11 fun H12 sH12 hp11 => ?_⟩
    replace hp11 : H12 p11 = some (.lst [V.str "left", V.str "left", V.str "left", V.str "left"]) := hp11
    refine ⟨(by show 1 ≤ sizeLine; decide), fun p13 np13 => gen_heap np13 fun H14 sH14 hp13 => ?_⟩
    refine ⟨(by show 1 ≤ sizeLine; decide), fun p15 np15 => gen_heap np15 fun H16 sH16 hp15 => ?_⟩
    refine ⟨(by show 1 ≤ sizeLine; decide), fun p17 np17 => gen_heap np17 fun H18 sH18 hp17 => ?_⟩
    refine ⟨(by show 1 ≤ sizeLine; decide), fun p19 np19 => gen_heap np19 fun H20 sH20 hp19 => ?_⟩
    refine ⟨(by show 2 ≤ sizeLine; decide), fun p21 np21 => gen_heap np21 fun H22 sH22 hp21 => ?_⟩
    refine ⟨(by show 1 ≤ sizeLine; decide), fun p23 np23 => gen_heap np23 fun H24 sH24 hp23 => ?_⟩
    refine ⟨(by show 1 ≤ sizeLine; decide), fun p25 np25 => gen_heap np25 fun H26 sH26 hp25 => ?_⟩
    refine ⟨(by show 13 ≤ sizeLine; decide), fun p27 np27 => gen_heap np27 fun H28 sH28 hp27 => ?_⟩
    refine ⟨_, rfl, (by show 1 ≤ sizeLine; decide), fun p29 np29 => gen_heap np29 fun H30 sH30 hp29 => ?_⟩
    refine ⟨(by show 2 ≤ sizeLine; decide), fun p31 np31 => gen_heap np31 fun H32 sH32 hp31 => ?_⟩
    refine ⟨(by show 1 ≤ sizeLine; decide), fun p33 np33 => gen_heap np33 fun H34 sH34 hp33 => ?_⟩
    refine ⟨_, rfl, _, _, rfl, rfl, (by show (0 : Int) < 9; decide), _, _, rfl, rfl, p33, _, _, rfl, rfl, hp33, (by omega), (by omega), (rep_le (by omega)), fun p35 np35 => gen_heap np35 fun H36 sH36 hp35 => ?_⟩
    refine ⟨_, rfl, (by show 1 ≤ sizeLine; decide), fun p37 np37 => gen_heap np37 fun H38 sH38 hp37 => ?_⟩
    refine ⟨(by show 3 ≤ sizeLine; decide), fun p39 np39 => gen_heap np39 fun H40 sH40 hp39 => ?_⟩
    have h41 := (sH40 _ _ (sH38 _ _ (sH36 _ _ (sH34 _ _ (sH32 _ _ (sH30 _ _ hp27))))))
    refine ⟨p27, p39, _, _, rfl, rfl, h41, hp39, (by show 13 + 3 ≤ sizeLine; decide), fun p42 np42 => gen_heap np42 fun H43 sH43 hp42 => ?_⟩
    have h44 := (sH43 _ _ (sH40 _ _ hp37))
    have h45 := (sH43 _ _ (sH40 _ _ (sH38 _ _ hp35)))
    have h46 := (sH43 _ _ (sH40 _ _ (sH38 _ _ (sH36 _ _ (sH34 _ _ hp31)))))
    have h47 := (sH43 _ _ (sH40 _ _ (sH38 _ _ (sH36 _ _ (sH34 _ _ (sH32 _ _ hp29))))))
    have h48 := (sH43 _ _ (sH40 _ _ (sH38 _ _ (sH36 _ _ (sH34 _ _ (sH32 _ _ (sH30 _ _ (sH28 _ _ hp25))))))))
    have h49 := (sH43 _ _ (sH40 _ _ (sH38 _ _ (sH36 _ _ (sH34 _ _ (sH32 _ _ (sH30 _ _ (sH28 _ _ (sH26 _ _ hp23)))))))))
    have h50 := (sH43 _ _ (sH40 _ _ (sH38 _ _ (sH36 _ _ (sH34 _ _ (sH32 _ _ (sH30 _ _ (sH28 _ _ (sH26 _ _ (sH24 _ _ hp21))))))))))
    have h51 := (sH43 _ _ (sH40 _ _ (sH38 _ _ (sH36 _ _ (sH34 _ _ (sH32 _ _ (sH30 _ _ (sH28 _ _ (sH26 _ _ (sH24 _ _ (sH22 _ _ hp19)))))))))))
    have h52 := (sH43 _ _ (sH40 _ _ (sH38 _ _ (sH36 _ _ (sH34 _ _ (sH32 _ _ (sH30 _ _ (sH28 _ _ (sH26 _ _ (sH24 _ _ (sH22 _ _ (sH20 _ _ hp17))))))))))))
    have h53 := (sH43 _ _ (sH40 _ _ (sH38 _ _ (sH36 _ _ (sH34 _ _ (sH32 _ _ (sH30 _ _ (sH28 _ _ (sH26 _ _ (sH24 _ _ (sH22 _ _ (sH20 _ _ (sH18 _ _ hp15)))))))))))))
    have h54 := (sH43 _ _ (sH40 _ _ (sH38 _ _ (sH36 _ _ (sH34 _ _ (sH32 _ _ (sH30 _ _ (sH28 _ _ (sH26 _ _ (sH24 _ _ (sH22 _ _ (sH20 _ _ (sH18 _ _ (sH16 _ _ hp13))))))))))))))
    have h55 := (sH43 _ _ (sH40 _ _ (sH38 _ _ (sH36 _ _ (sH34 _ _ (sH32 _ _ (sH30 _ _ (sH28 _ _ (sH26 _ _ (sH24 _ _ (sH22 _ _ (sH20 _ _ (sH18 _ _ (sH16 _ _ (sH14 _ _ hp11)))))))))))))))
    have h56 := (sH43 _ _ (sH40 _ _ (sH38 _ _ (sH36 _ _ (sH34 _ _ (sH32 _ _ (sH30 _ _ (sH28 _ _ (sH26 _ _ (sH24 _ _ (sH22 _ _ (sH20 _ _ (sH18 _ _ (sH16 _ _ (sH14 _ _ (sH12 _ _ (sH10 _ _ hp7)))))))))))))))))
    have h57 := (sH43 _ _ (sH40 _ _ (sH38 _ _ (sH36 _ _ (sH34 _ _ (sH32 _ _ (sH30 _ _ (sH28 _ _ (sH26 _ _ (sH24 _ _ (sH22 _ _ (sH20 _ _ (sH18 _ _ (sH16 _ _ (sH14 _ _ (sH12 _ _ (sH10 _ _ (sH8 _ _ hp3))))))))))))))))))
    have h58 := (sH43 _ _ (sH40 _ _ (sH38 _ _ (sH36 _ _ (sH34 _ _ (sH32 _ _ (sH30 _ _ (sH28 _ _ (sH26 _ _ (sH24 _ _ (sH22 _ _ (sH20 _ _ (sH18 _ _ (sH16 _ _ (sH14 _ _ (sH12 _ _ (sH10 _ _ (sH8 _ _ (sH4 _ _ hp1)))))))))))))))))))
    exact q _ p42 _ (fun b o e => (sH43 _ _ (sH40 _ _ (sH38 _ _ (sH36 _ _ (sH34 _ _ (sH32 _ _ (sH30 _ _ (sH28 _ _ (sH26 _ _ (sH24 _ _ (sH22 _ _ (sH20 _ _ (sH18 _ _ (sH16 _ _ (sH14 _ _ (sH12 _ _ (sH10 _ _ (sH8 _ _ (sH4 _ _ (sH2 _ _ e))))))))))))))))))))) hp42 (by show 0 < 16; decide) (by show 16 ≤ 64; decide) (List.forall_mem_cons.mpr ⟨.inl ⟨_, pv_non, rfl⟩, (List.forall_mem_cons.mpr ⟨.inl ⟨_, (pv_int _), rfl⟩, (List.forall_mem_cons.mpr ⟨.inl ⟨_, (pv_tup h58), rfl⟩, (List.forall_mem_cons.mpr ⟨.inl ⟨_, (pv_tup h57), rfl⟩, (List.forall_mem_cons.mpr ⟨.inl ⟨_, (pv_str _), rfl⟩, (List.forall_mem_cons.mpr ⟨.inl ⟨_, (pv_dT h56), rfl⟩, (List.forall_mem_cons.mpr ⟨.inr ⟨p11, _, rfl, SqL.of h55, .inl (by decide)⟩, (List.forall_mem_cons.mpr ⟨.inr ⟨p13, _, rfl, SqL.of h54, .inr ⟨(by show 1 ≤ 3; decide), (pvs_cons (pv_str _) pvs_nil), all_false_at List.mem_cons_self ((by decide +kernel))⟩⟩, (List.forall_mem_cons.mpr ⟨.inr ⟨p15, _, rfl, SqL.of h53, .inr ⟨(by show 1 ≤ 3; decide), (pvs_cons (pv_str _) pvs_nil), all_false_at List.mem_cons_self ((by decide +kernel))⟩⟩, (List.forall_mem_cons.mpr ⟨.inr ⟨p17, _, rfl, SqL.of h52, .inr ⟨(by show 1 ≤ 3; decide), (pvs_cons pv_non pvs_nil), all_false_at List.mem_cons_self (rfl)⟩⟩, (List.forall_mem_cons.mpr ⟨.inr ⟨p19, _, rfl, SqL.of h51, .inr ⟨(by show 1 ≤ 3; decide), (pvs_cons (pv_int _) pvs_nil), all_false_at List.mem_cons_self (rfl)⟩⟩, (List.forall_mem_cons.mpr ⟨.inr ⟨p21, _, rfl, SqL.of h50, .inr ⟨(by show 2 ≤ 3; decide), (pvs_cons (pv_str _) (pvs_cons (pv_bl _) pvs_nil)), all_false_at (List.mem_cons_of_mem _ List.mem_cons_self) (rfl)⟩⟩, (List.forall_mem_cons.mpr ⟨.inr ⟨p25, _, rfl, SqL.of h48, .inr ⟨(by show 1 ≤ 3; decide), (pvs_cons (pv_sq (SqL.of h49)) pvs_nil), all_false_at List.mem_cons_self (rfl)⟩⟩, (List.forall_mem_cons.mpr ⟨.inr ⟨p31, _, rfl, SqL.of h46, .inr ⟨(by show 2 ≤ 3; decide), (pvs_cons (pv_str _) (pvs_cons (pv_tup h47) pvs_nil)), all_false_at (List.mem_cons_of_mem _ List.mem_cons_self) (rfl)⟩⟩, (List.forall_mem_cons.mpr ⟨.inr ⟨p35, _, rfl, SqL.of h45, .inl (rep_gt (by omega))⟩, (List.forall_mem_cons.mpr ⟨.inr ⟨p37, _, rfl, SqL.of h44, .inr ⟨(by show 1 ≤ 3; decide), (pvs_cons (pv_int _) pvs_nil), all_false_at List.mem_cons_self (rfl)⟩⟩, (fun _ z => nomatch z)⟩)⟩)⟩)⟩)⟩)⟩)⟩)⟩)⟩)⟩)⟩)⟩)⟩)⟩)⟩)⟩)
theorem ok__law_no_rows (T : Tx K mg A) : FnOk P w K mg base CX0 1 A.f__law_no_rows A.d__law_no_rows ["_law_cell"] (spThings (NoRow K)) := by
  refine T.F_law_no_rows.ok sc__law_no_rows (fun vs H Q E h => ?_) (fun cdv A' outer s H vs Q E hr h => ?_)
  · obtain ⟨c, rfl, _⟩ := h
    rfl
  · obtain ⟨c, rfl, h0, h60, q⟩ := h
    refine ⟨_, (pss_cons (ps_set (i := 1) sc__law_no_rows.nd rfl (Or.inl rfl) (pe_lst (pa_cons pe_non (pa_cons pe_int (pa_cons (pe_tup pa_nil) (pa_cons (pe_tup (pa_cons pe_int (pa_cons pe_int pa_nil))) (pa_cons pe_str (pa_cons pe_dnewT (pa_cons (pe_op op_rep (pe_lst (pa_cons pe_int pa_nil)) pe_int) (pa_cons (pe_lst (pa_cons (pe_un un_neg pe_int) pa_nil)) (pa_cons (pe_lst (pa_cons pe_int pa_nil)) (pa_cons (pe_lst (pa_cons pe_int (pa_cons (pe_op op_sub (pe_un un_neg pe_int) (pv 0)) pa_nil))) (pa_cons (pe_lst (pa_cons (pe_op op_add pe_int (pv 0)) (pa_cons pe_int pa_nil))) (pa_cons (pe_lst (pa_cons (pe_lst (pa_cons pe_int pa_nil)) pa_nil)) pa_nil))))))))))))))
      (pss_cons (ps_for PassesOwn.never rfl (pi_enum (by rfl) T.benumerate (pa_cons (pe_lst (pa_cons pe_non (pa_cons pe_bl (pa_cons pe_bl (pa_cons pe_str (pa_cons (pe_lst (pa_cons pe_int pa_nil)) (pa_cons (pe_tup (pa_cons pe_int pa_nil)) (pa_cons pe_dnewT pa_nil)))))))) pa_nil)) (pg_tup rfl (pgs_cons (pg_name (i := 2) sc__law_no_rows.nd rfl (Or.inl rfl)) (pgs_cons (pg_name (i := 3) sc__law_no_rows.nd rfl (Or.inl rfl)) pgs_nil)))
      (pss_cons (ps_set (i := 4) sc__law_no_rows.nd rfl (Or.inl rfl) (pe_lst (pa_cons pe_int (pa_cons pe_int (pa_cons pe_int (pa_cons pe_int pa_nil))))))
      (pss_cons (ps_asg (pv 3) (pg_sub (pv 4) (pe_op op_mod (pv 2) pe_int) set_list))
      (pss_one (ps_expr (pe_bm PySem.F.plainAttrs_list PySem.F.slot_list_append PySem.F.type_list_append mt_append (pv 1) (pa_cons (pv 4) pa_nil)))))))
      (pss_one (ps_ret (pv 1))))), ?_⟩
    refine ⟨Nat.zero_le _, fun p1 np1 => gen_heap np1 fun H2 sH2 hp1 => ?_⟩
    refine ⟨(by show 2 ≤ sizeLine; decide), fun p3 np3 => gen_heap np3 fun H4 sH4 hp3 => ?_⟩
    refine fun p7 np7 => gen_heap np7 fun H8 sH8 hp7 => ?_
    refine ⟨(by show 1 ≤ sizeLine; decide), fun p9 np9 => gen_heap np9 fun H10 sH10 hp9 => ?_⟩
    refine ⟨p9, _, _, rfl, rfl, hp9, (by decide), (by decide), (by show 13 ≤ sizeLine; decide), fun p11 np11 => gen_heap np11 fun H12 sH12 hp11 => ?_⟩
    replace hp11 : H12 p11 = some (.lst [V.int 1, V.int 1, V.int 1, V.int 1, V.int 1, V.int 1, V.int 1, V.int 1, V.int 1, V.int 1, V.int 1, V.int 1, V.int 1]) := hp11
    refine ⟨_, rfl, (by show 1 ≤ sizeLine; decide), fun p13 np13 => gen_heap np13 fun H14 sH14 hp13 => ?_⟩
    refine ⟨(by show 1 ≤ sizeLine; decide), fun p15 np15 => gen_heap np15 fun H16 sH16 hp15 => ?_⟩
    refine ⟨_, rfl, _, rfl, _, _, rfl, rfl, (by show 2 ≤ sizeLine; decide), fun p17 np17 => gen_heap np17 fun H18 sH18 hp17 => ?_⟩
    refine ⟨_, rfl, _, _, rfl, rfl, (by show 2 ≤ sizeLine; decide), fun p19 np19 => gen_heap np19 fun H20 sH20 hp19 => ?_⟩
    refine ⟨(by show 1 ≤ sizeLine; decide), fun p21 np21 => gen_heap np21 fun H22 sH22 hp21 => ?_⟩
    refine ⟨(by show 1 ≤ sizeLine; decide), fun p23 np23 => gen_heap np23 fun H24 sH24 hp23 => ?_⟩
    have h25 := (sH24 _ _ hp21)
    have h26 := (sH24 _ _ (sH22 _ _ hp19))
    have h27 := (sH24 _ _ (sH22 _ _ (sH20 _ _ hp17)))
    have h28 := (sH24 _ _ (sH22 _ _ (sH20 _ _ (sH18 _ _ hp15))))
    have h29 := (sH24 _ _ (sH22 _ _ (sH20 _ _ (sH18 _ _ (sH16 _ _ hp13)))))
    have h30 := (sH24 _ _ (sH22 _ _ (sH20 _ _ (sH18 _ _ (sH16 _ _ (sH14 _ _ hp11))))))
    have h31 := (sH24 _ _ (sH22 _ _ (sH20 _ _ (sH18 _ _ (sH16 _ _ (sH14 _ _ (sH12 _ _ (sH10 _ _ hp7))))))))
    have h32 := (sH24 _ _ (sH22 _ _ (sH20 _ _ (sH18 _ _ (sH16 _ _ (sH14 _ _ (sH12 _ _ (sH10 _ _ (sH8 _ _ hp3)))))))))
    have h33 := (sH24 _ _ (sH22 _ _ (sH20 _ _ (sH18 _ _ (sH16 _ _ (sH14 _ _ (sH12 _ _ (sH10 _ _ (sH8 _ _ (sH4 _ _ hp1))))))))))
    have hb0 : ∀ x ∈ [V.non, V.int 5, V.ref p1, V.ref p3, V.str "12", V.ref p7, V.ref p11, V.ref p13, V.ref p15, V.ref p17, V.ref p19, V.ref p23], NoRow K H24 x := (List.forall_mem_cons.mpr ⟨.inl ⟨_, pv_non, rfl⟩, (List.forall_mem_cons.mpr ⟨.inl ⟨_, (pv_int _), rfl⟩, (List.forall_mem_cons.mpr ⟨.inl ⟨_, (pv_tup h33), rfl⟩, (List.forall_mem_cons.mpr ⟨.inl ⟨_, (pv_tup h32), rfl⟩, (List.forall_mem_cons.mpr ⟨.inl ⟨_, (pv_str _), rfl⟩, (List.forall_mem_cons.mpr ⟨.inl ⟨_, (pv_dT h31), rfl⟩, (List.forall_mem_cons.mpr ⟨.inr ⟨p11, _, rfl, SqL.of h30, .inl (by decide)⟩, (List.forall_mem_cons.mpr ⟨.inr ⟨p13, _, rfl, SqL.of h29, .inr ⟨(by show 1 ≤ 12; decide), (pvs_cons (pv_int _) pvs_nil), all_false_at List.mem_cons_self (coin_lo (by omega))⟩⟩, (List.forall_mem_cons.mpr ⟨.inr ⟨p15, _, rfl, SqL.of h28, .inr ⟨(by show 1 ≤ 12; decide), (pvs_cons (pv_int _) pvs_nil), all_false_at List.mem_cons_self (coin_hi (by omega))⟩⟩, (List.forall_mem_cons.mpr ⟨.inr ⟨p17, _, rfl, SqL.of h27, .inr ⟨(by show 2 ≤ 12; decide), (pvs_cons (pv_int _) (pvs_cons (pv_int _) pvs_nil)), all_false_at (List.mem_cons_of_mem _ List.mem_cons_self) (coin_lo (by omega))⟩⟩, (List.forall_mem_cons.mpr ⟨.inr ⟨p19, _, rfl, SqL.of h26, .inr ⟨(by show 2 ≤ 12; decide), (pvs_cons (pv_int _) (pvs_cons (pv_int _) pvs_nil)), all_false_at List.mem_cons_self (coin_hi (by omega))⟩⟩, (List.forall_mem_cons.mpr ⟨.inr ⟨p23, _, rfl, SqL.of hp23, .inr ⟨(by show 1 ≤ 12; decide), (pvs_cons (pv_sq (SqL.of h25)) pvs_nil), all_false_at List.mem_cons_self (rfl)⟩⟩, (fun _ z => nomatch z)⟩)⟩)⟩)⟩)⟩)⟩)⟩)⟩)⟩)⟩)⟩)⟩)
    refine ⟨(by show 12 ≤ sizeLine; decide), fun f nf => gen_heap nf fun H34 sH34 hf => ?_⟩
    have hb1 : ∀ x ∈ [V.non, V.int 5, V.ref p1, V.ref p3, V.str "12", V.ref p7, V.ref p11, V.ref p13, V.ref p15, V.ref p17, V.ref p19, V.ref p23], NoRow K (less H34 f) x := fun x hx => (hb0 x hx).mono (less_new nf sH34)
    refine ⟨(by show 1 ≤ sizeLine; decide), fun p35 np35 => gen_heap np35 fun H36 sH36 hp35 => ?_⟩
    refine ⟨(by show 1 ≤ sizeLine; decide), fun p37 np37 => gen_heap np37 fun H38 sH38 hp37 => ?_⟩
    refine fun p41 np41 => gen_heap np41 fun H42 sH42 hp41 => ?_
    refine ⟨(by show 7 ≤ sizeLine; decide), fun b nb => gen_heap nb fun H43 sH43 hb => ?_⟩
    have sl : Same H34 H43 := (fun b o e => (sH43 _ _ (sH42 _ _ (sH38 _ _ (sH36 _ _ e)))))
    have hfl : H43 f = some (.lst [V.non, V.int 5, V.ref p1, V.ref p3, V.str "12", V.ref p7, V.ref p11, V.ref p13, V.ref p15, V.ref p17, V.ref p19, V.ref p23]) := sl _ _ hf
    have hbl : b ≠ f := (ne_of_none ((sH42 _ _ (sH38 _ _ (sH36 _ _ hf)))) nb).symm
    have h44 := (sH43 _ _ hp41)
    have h45 := (sH43 _ _ (sH42 _ _ hp37))
    have h46 := (sH43 _ _ (sH42 _ _ (sH38 _ _ hp35)))
    have hpv : ∀ y ∈ [V.non, V.bl true, V.bl false, V.str "1", V.ref p35, V.ref p37, V.ref p41], ∃ T, PV K (less H43 f) y T ∧ (T == "int") = false := (List.forall_mem_cons.mpr ⟨⟨_, pv_non, rfl⟩, (List.forall_mem_cons.mpr ⟨⟨_, (pv_bl _), rfl⟩, (List.forall_mem_cons.mpr ⟨⟨_, (pv_bl _), rfl⟩, (List.forall_mem_cons.mpr ⟨⟨_, (pv_str _), rfl⟩, (List.forall_mem_cons.mpr ⟨⟨_, (pv_sq (SqL.of ((less_ne (ne_of_none hf np35).symm).trans h46))), rfl⟩, (List.forall_mem_cons.mpr ⟨⟨_, (pv_tup ((less_ne (ne_of_none (sH36 _ _ hf) np37).symm).trans h45)), rfl⟩, (List.forall_mem_cons.mpr ⟨⟨_, (pv_dT ((less_ne (ne_of_none (sH38 _ _ (sH36 _ _ hf)) np41).symm).trans h44)), rfl⟩, (fun _ z => nomatch z)⟩)⟩)⟩)⟩)⟩)⟩)⟩)
    refine ⟨b, _, rfl, SqL.of hb, ?_⟩
    refine for_enum (K := K) (a := b) (xs := [V.non, V.bl true, V.bl false, V.str "1", V.ref p35, V.ref p37, V.ref p41]) (fun i σ Hx => ∃ (xs : List V) (x2 x3 x4 : Option V), σ = [some (.int c), some (.ref f), x2, x3, x4] ∧ SameBut f H43 Hx ∧ Hx f = some (.lst xs) ∧ xs.length = 12 + i ∧ ∀ x ∈ xs, NoRow K (less Hx f) x) ⟨_, none, none, none, rfl, SameBut.refl _ _, hfl, rfl, fun x hx => (hb1 x hx).mono (less_but (SameBut.of sl))⟩ ?_ ?_ ?_
    · rintro i σ Hx ⟨xs, x2, x3, x4, rfl, sx, hfx, hlx, hnx⟩
      exact SqL.of (sx _ _ hbl hb)
    · rintro i x T σ Hx hi ⟨xs, x2, x3, x4, rfl, sx, hfx, hlx, hnx⟩ nT
      have hi7 : i < 7 := (List.getElem?_eq_some_iff.mp hi).1
      obtain ⟨Ty, pv, hTy⟩ := hpv x (List.mem_of_getElem? hi)
      refine gen_heap nT fun Ha sa hTa => ?_
      refine ⟨T, _, rfl, SqT.of hTa, rfl, _, _, rfl, _, _, rfl, rfl, ?_⟩
      refine ⟨(by show 4 ≤ sizeLine; decide), fun r nr => gen_heap nr fun Hb sb hr => ?_⟩
      have hfb := sb _ _ (sa _ _ hfx)
      have nrf : r ≠ f := (ne_of_none (sa _ _ hfx) nr).symm
      refine ⟨_, rfl, _, rfl, _, rfl, _, _, rfl, rfl, (by show (0 : Int) < 4; decide), r, _, _, i % 4, rfl, rfl, hr, (by rw [show ((i : Nat) : Int) % 4 = ((i % 4 : Nat) : Int) by omega]; exact ixN_lt (by show i % 4 < 4; omega)), gen_put hr fun Hc sc hrc => ?_⟩
      have hfc := sc _ _ nrf.symm hfb
      refine ⟨_, rfl, .inl ⟨rfl, _, SqL.of hfc⟩, _, rfl, f, _, _, rfl, rfl, hfc, size_lt (by omega), gen_put hfc fun Hd sd hfd => ?_⟩
      have st : SameBut f Hx Hd := fun b o n e => sd _ _ n (sc _ _ (ne_of_none (sa _ _ e) nr) (sb _ _ (sa _ _ e)))
      refine ⟨_, some (.int (i : Nat)), some x, some (.ref r), rfl, sx.trans st, hfd, by rw [List.length_append, hlx]; show 12 + i + 1 = _; omega, fun y hy => ?_⟩
      rcases List.mem_append.mp hy with h | h
      · exact (hnx y h).mono (less_but st)
      · rw [List.mem_singleton] at h
        subst h
        exact bad4 ((less_ne nrf).trans (sd _ _ nrf hrc)) (by omega) (pv.mono (less_but (sx.trans st))) hTy
    · rintro σ Hx ⟨xs, x2, x3, x4, rfl, sx, hfx, hlx, hnx⟩
      have hl : xs.length = 19 := hlx
      exact ⟨_, rfl, q _ f xs (fun b o e => sx _ _ (ne_of_none (sH24 _ _ (sH22 _ _ (sH20 _ _ (sH18 _ _ (sH16 _ _ (sH14 _ _ (sH12 _ _ (sH10 _ _ (sH8 _ _ (sH4 _ _ (sH2 _ _ e))))))))))) nf) (sl _ _ (sH34 _ _ (sH24 _ _ (sH22 _ _ (sH20 _ _ (sH18 _ _ (sH16 _ _ (sH14 _ _ (sH12 _ _ (sH10 _ _ (sH8 _ _ (sH4 _ _ (sH2 _ _ e)))))))))))))) hfx (by omega) (by omega) fun x hx => (hnx x hx).mono (less_same _ _)⟩
end
end K05
namespace K05
open PySem PySem.Spec PyProof.Rows L2 L2H RE
/-- a kind of refusal: who is asked, at how many doors, by what, and its class -/
structure Kind (P : Program) (w : World) (K : PySem.W.Frag) (mg : Str → Option Value) (base : Heap) (Cs : List Addr) (f g : Addr) (doors due : Nat) : Prop where
  ex : ∃ (C : Addr) (bad : Hp → V → Prop), 0 < doors ∧ doors ≤ 8 ∧ Stays bad ∧ CanX P w K mg base CX0 29 g (spThings bad) ∧ CanX P w K mg base (L2N.CX P w) 29 f (spAsk bad doors C) ∧ Cs[due]? = some C
/-- a tuple that tells one -/
def KindAt (P : Program) (w : World) (K : PySem.W.Frag) (mg : Str → Option Value) (base : Heap) (Cs : List Addr) (H : Hp) (x : V) : Prop := ∃ (p f g : Addr) (doors due : Nat), x = .ref p ∧ H p = some (.tup [.ref f, .int (doors : Int), .ref g, .int (due : Int)]) ∧ Kind P w K mg base Cs f g doors due
theorem atI_mod {xs : List V} (k : Int) (h : 0 < xs.length) : ∃ y ∈ xs, atI xs (k % (xs.length : Int)) = some y := by
  have h1 : 0 ≤ k % (xs.length : Int) := Int.emod_nonneg _ (by omega)
  have h2 : k % (xs.length : Int) < (xs.length : Int) := Int.emod_lt_of_pos _ (by omega)
  obtain ⟨j, hj⟩ := Int.eq_ofNat_of_zero_le h1
  have hlt : j < xs.length := by omega
  refine ⟨xs[j], List.getElem_mem hlt, ?_⟩
  rw [hj]
  exact atI_nat (List.getElem?_eq_getElem hlt)
theorem all_rep (n : Nat) : (List.replicate n true).all id = true := by
  induction n with
  | zero => rfl
  | succ n ih => rw [List.replicate_succ, List.all_cons, ih]; rfl
section
variable {P : Program} {w : World} {K : PySem.W.Frag} {mg : Str → Option Value} {base : Heap} {A : Ad}
theorem kind__law_with_row (T : Tx K mg A) : Kind P w K mg base [A.C_BadRow, A.C_BadTakes, A.C_BadNumber, A.C_Odd] A.f__law_with_row A.f__law_no_rows 8 0 := ⟨A.C_BadRow, (NoRow K), by decide, by decide, fun _ _ _ s h => NoRow.mono s h, ⟨_, _, (ok__law_no_rows T).mono (by decide), T.b_law_no_rows, T.F_law_no_rows.kp⟩, ⟨_, _, (ok__law_with_row T).mono (by decide), T.b_law_with_row, T.F_law_with_row.kp⟩, rfl⟩
theorem kind__law_with_takes (T : Tx K mg A) : Kind P w K mg base [A.C_BadRow, A.C_BadTakes, A.C_BadNumber, A.C_Odd] A.f__law_with_takes A.f__law_no_takes 1 1 := ⟨A.C_BadTakes, (fun H x => NoTakes K H x 3), by decide, by decide, fun _ _ _ s h => NoTakes.mono s h, ⟨_, _, (ok__law_no_takes T).mono (by decide), T.b_law_no_takes, T.F_law_no_takes.kp⟩, ⟨_, _, (ok__law_with_takes T).mono (by decide), T.b_law_with_takes, T.F_law_with_takes.kp⟩, rfl⟩
theorem kind__law_with_number (T : Tx K mg A) : Kind P w K mg base [A.C_BadRow, A.C_BadTakes, A.C_BadNumber, A.C_Odd] A.f__law_with_number A.f__law_no_numbers 2 2 := ⟨A.C_BadNumber, (NoWhole K), by decide, by decide, fun _ _ _ s h => NoWhole.mono s h, ⟨_, _, (ok__law_no_numbers T).mono (by decide), T.b_law_no_numbers, T.F_law_no_numbers.kp⟩, ⟨_, _, (ok__law_with_number T).mono (by decide), T.b_law_with_number, T.F_law_with_number.kp⟩, rfl⟩
theorem kind__law_with_play (T : Tx K mg A) : Kind P w K mg base [A.C_BadRow, A.C_BadTakes, A.C_BadNumber, A.C_Odd] A.f__law_with_play A.f__law_no_plays 1 2 := ⟨A.C_BadNumber, (fun _ x => NoPlay x), by decide, by decide, fun _ _ _ _ h => h, ⟨_, _, (ok__law_no_plays T).mono (by decide), T.b_law_no_plays, T.F_law_no_plays.kp⟩, ⟨_, _, (ok__law_with_play T).mono (by decide), T.b_law_with_play, T.F_law_with_play.kp⟩, rfl⟩
theorem kind__law_with_odd (T : Tx K mg A) : Kind P w K mg base [A.C_BadRow, A.C_BadTakes, A.C_BadNumber, A.C_Odd] A.f__law_with_odd A.f__law_odd 1 3 := ⟨A.C_Odd, (OddRow K), by decide, by decide, fun _ _ _ s h => OddRow.mono s h, ⟨_, _, (ok__law_odd T).mono (by decide), T.b_law_odd, T.F_law_odd.kp⟩, ⟨_, _, (ok__law_with_odd T).mono (by decide), T.b_law_with_odd, T.F_law_with_odd.kp⟩, rfl⟩
theorem ok_law (T : Tx K mg A) : FnOk P w K mg base CX0 31 A.f_law A.d_law ["_law_script"] (spLaw K) := by
  have G_law_refused : FnOk P w K mg base CX0 30 A.f__law_refused A.d__law_refused ["_law_ask", "_law_door", "_law_thing", "_law_due"] (spRef P w K mg base [A.C_BadRow, A.C_BadTakes, A.C_BadNumber, A.C_Odd]) := ok__law_refused T
  have Gworth : FnOk P w K mg base (L2N.CX P w) 14 A.f_worth A.d_worth ["row"] (spWorth K A.C_BadRow) := ok_worth T
  have Gled : FnOk P w K mg base (L2N.CX P w) 3 A.f_led A.d_led ["row", "takes"] (spLed K A.C_BadRow A.C_BadTakes) := ok_led T
  have Gsure : FnOk P w K mg base (L2N.CX P w) 3 A.f_sure A.d_sure ["row"] (spSure K A.C_BadRow A.C_Odd) := ok_sure T
  have Gplay_by : FnOk P w K mg base (L2N.CX P w) 28 A.f_play_by A.d_play_by ["row", "number"] (spPlayBy K A.C_BadRow A.C_BadNumber) := ok_play_by T
  refine T.Flaw.ok sc_law (fun vs H Q E h => ?_) (fun cdv A' outer s H vs Q E hr h => ?_)
  · obtain ⟨a, ns, rfl, _⟩ := h
    rfl
  · obtain ⟨a, ns, rfl, hS, h63, hbits, q⟩ := h
    refine ⟨_, (pss_cons (ps_set (i := 1) sc_law.nd rfl (Or.inl rfl) (pe_lst (pa_cons (pe_tup (pa_cons (pe_glob (v := .ref A.f__law_with_row) (by rfl) T.g_law_with_row rfl) (pa_cons pe_int (pa_cons (pe_glob (v := .ref A.f__law_no_rows) (by rfl) T.g_law_no_rows rfl) (pa_cons pe_int pa_nil))))) (pa_cons (pe_tup (pa_cons (pe_glob (v := .ref A.f__law_with_takes) (by rfl) T.g_law_with_takes rfl) (pa_cons pe_int (pa_cons (pe_glob (v := .ref A.f__law_no_takes) (by rfl) T.g_law_no_takes rfl) (pa_cons pe_int pa_nil))))) pa_nil))))
      (pss_cons (ps_set (i := 1) sc_law.nd rfl (Or.inl rfl) (pe_op op_cat (pv 1) (pe_lst (pa_cons (pe_tup (pa_cons (pe_glob (v := .ref A.f__law_with_number) (by rfl) T.g_law_with_number rfl) (pa_cons pe_int (pa_cons (pe_glob (v := .ref A.f__law_no_numbers) (by rfl) T.g_law_no_numbers rfl) (pa_cons pe_int pa_nil))))) (pa_cons (pe_tup (pa_cons (pe_glob (v := .ref A.f__law_with_play) (by rfl) T.g_law_with_play rfl) (pa_cons pe_int (pa_cons (pe_glob (v := .ref A.f__law_no_plays) (by rfl) T.g_law_no_plays rfl) (pa_cons pe_int pa_nil))))) pa_nil)))))
      (pss_cons (ps_expr (pe_bm PySem.F.plainAttrs_list PySem.F.slot_list_append PySem.F.type_list_append mt_append (pv 1) (pa_cons (pe_tup (pa_cons (pe_glob (v := .ref A.f__law_with_odd) (by rfl) T.g_law_with_odd rfl) (pa_cons pe_int (pa_cons (pe_glob (v := .ref A.f__law_odd) (by rfl) T.g_law_odd rfl) (pa_cons pe_int pa_nil))))) pa_nil)))
      (pss_cons (ps_for PassesOwn.never rfl (pi_list (pv 1)) (pg_tup rfl (pgs_cons (pg_name (i := 2) sc_law.nd rfl (Or.inr rfl)) (pgs_cons (pg_name (i := 3) sc_law.nd rfl (Or.inl rfl)) (pgs_cons (pg_name (i := 4) sc_law.nd rfl (Or.inl rfl)) (pgs_cons (pg_name (i := 5) sc_law.nd rfl (Or.inr rfl)) pgs_nil)))))
      (pss_cons (ps_for PassesOwn.never rfl (pi_range1 (by rfl) T.brange (pa_cons (pv 3) pa_nil)) (pg_name (i := 6) sc_law.nd rfl (Or.inr rfl))
      (pss_one (ps_if (pt_not (pt_val (pe_callB (cr_all rfl) (by rfl) T.ball (by decide +kernel) (pa_cons (pe_lc (own := [("_law_thing", 9)]) (by rfl) sc_law.nd (pi_list (show PE _ _ (tCallV P w K mg base CX0 29 (fun _ => E0) _ _) from pe_callV (k := 29) (pv 4) (hr.mono (by first | decide | omega)) (passAtOf pass0) (pa_cons (pe_callB call_len_seq (by rfl) T.blen PySem.boot_len (pa_cons (pv 0) pa_nil)) pa_nil))) (blkOk_by (own := [("_law_thing", 9)]) (N := N_law) (sc := defScope s_law) (by decide +kernel)) (fun _ _ _ _ _ => (pg_name (i := 9) sc_law.nd rfl (Or.inl rfl))) (fun _ _ _ _ _ => pts_nil) (fun _ _ _ _ _ => (pe_call G_law_refused (hr.mono (by first | decide | omega)) (by rfl) T.g_law_refused T.F_law_refused.kp T.b_law_refused .nil pass0 (pa_cons (pv 2) (pa_cons (pv 6) (pa_cons (pv 9) (pa_cons (pv 5) pa_nil))))))) pa_nil)))) (pss_one (ps_ret pe_bl)) pss_nil)))
      (pss_one (ps_for PassesOwn.never rfl (pi_list (pv 0)) (pg_name (i := 7) sc_law.nd rfl (Or.inl rfl))
      (pss_cons (ps_set (i := 8) sc_law.nd rfl (Or.inl rfl) (show PE _ _ (tCallV P w K mg base CX0 29 (fun _ => E0) _ _) from pe_callV (k := 29) (pv 4) (hr.mono (by first | decide | omega)) (passAtOf pass0) (pa_cons (pe_op op_mod (pv 7) (pe_op op_pow pe_int pe_int)) pa_nil)))
      (pss_one (ps_if (pt_not (pt_val (pe_call G_law_refused (hr.mono (by first | decide | omega)) (by rfl) T.g_law_refused T.F_law_refused.kp T.b_law_refused .nil pass0 (pa_cons (pv 2) (pa_cons (pe_op op_mod (pv 7) (pv 3)) (pa_cons (pe_ix ix_list (pv 8) (pe_op op_mod (pe_op op_fdiv (pv 7) pe_int) (pe_callB call_len_seq (by rfl) T.blen PySem.boot_len (pa_cons (pv 8) pa_nil))) (fun _ _ => rfl)) (pa_cons (pv 5) pa_nil))))))) (pss_one (ps_ret pe_bl)) pss_nil)))))))
      (pss_cons (ps_if (PW.pt (pw_or (pt_cmpR op_ne (pe_call Gworth (hr.mono (by first | decide | omega)) (by rfl) T.gworth T.Fworth.kp T.bworth .nil passN (pa_cons (pe_op op_rep (pe_lst (pa_cons pe_int pa_nil)) pe_int) pa_nil)) pe_int (nomark _)) (pw_or (pt_cmpR (op_neD hr.units) (pe_call Gled (hr.mono (by first | decide | omega)) (by rfl) T.gled T.Fled.kp T.bled .nil passN (pa_cons (pe_lst pa_nil) (pa_cons (pe_lst pa_nil) pa_nil))) (pe_tup (pa_cons pe_int (pa_cons pe_int (pa_cons (pe_lst pa_nil) pa_nil)))) (nomark _)) (pw_or1 (pt_cmpR op_ne (pe_call Gsure (hr.mono (by first | decide | omega)) (by rfl) T.gsure T.Fsure.kp T.bsure .nil passN (pa_cons (pe_lst pa_nil) pa_nil)) pe_int (nomark _)))))) (pss_one (ps_ret pe_bl)) pss_nil)
      (pss_one (ps_ret (pe_cmpR (op_eqD hr.units) (pe_call Gplay_by (hr.mono (by first | decide | omega)) (by rfl) T.gplay_by T.Fplay_by.kp T.bplay_by .nil passN (pa_cons (pe_lst (pa_cons pe_int (pa_cons pe_int pa_nil))) (pa_cons pe_int pa_nil))) (pe_lst (pa_cons pe_str (pa_cons pe_str pa_nil))) (nomark _))))))))), ?_⟩
    refine ⟨(by show 4 ≤ sizeLine; decide), fun p1 np1 => gen_heap np1 fun H2 sH2 hp1 => ?_⟩
    refine ⟨(by show 4 ≤ sizeLine; decide), fun p3 np3 => gen_heap np3 fun H4 sH4 hp3 => ?_⟩
    refine ⟨(by show 2 ≤ sizeLine; decide), fun p5 np5 => gen_heap np5 fun H6 sH6 hp5 => ?_⟩
    refine ⟨_, rfl, (by show 4 ≤ sizeLine; decide), fun p7 np7 => gen_heap np7 fun H8 sH8 hp7 => ?_⟩
    refine ⟨(by show 4 ≤ sizeLine; decide), fun p9 np9 => gen_heap np9 fun H10 sH10 hp9 => ?_⟩
    refine ⟨(by show 2 ≤ sizeLine; decide), fun p11 np11 => gen_heap np11 fun H12 sH12 hp11 => ?_⟩
    have h13 := (sH12 _ _ (sH10 _ _ (sH8 _ _ hp5)))
    refine ⟨p5, p11, _, _, rfl, rfl, h13, hp11, (by show 2 + 2 ≤ sizeLine; decide), fun p14 np14 => gen_heap np14 fun H15 sH15 hp14 => ?_⟩
    refine ⟨_, rfl, .inl ⟨rfl, _, SqL.of hp14⟩, (by show 4 ≤ sizeLine; decide), fun p16 np16 => gen_heap np16 fun H17 sH17 hp16 => ?_⟩
    have h18 := (sH17 _ _ hp14)
    refine ⟨p14, _, _, rfl, rfl, h18, (by show 4 < sizeLine; decide), gen_put h18 fun H19 sH19 h20 => ?_⟩
    have h21 := (sH19 _ _ (ne_of_none hp14 np16).symm hp16)
    have h22 := (sH19 _ _ (ne_of_none (sH12 _ _ hp9) np14) (sH17 _ _ (sH15 _ _ (sH12 _ _ hp9))))
    have h23 := (sH19 _ _ (ne_of_none (sH12 _ _ (sH10 _ _ hp7)) np14) (sH17 _ _ (sH15 _ _ (sH12 _ _ (sH10 _ _ hp7)))))
    have h24 := (sH19 _ _ (ne_of_none (sH12 _ _ (sH10 _ _ (sH8 _ _ (sH6 _ _ hp3)))) np14) (sH17 _ _ (sH15 _ _ (sH12 _ _ (sH10 _ _ (sH8 _ _ (sH6 _ _ hp3)))))))
    have h25 := (sH19 _ _ (ne_of_none (sH12 _ _ (sH10 _ _ (sH8 _ _ (sH6 _ _ (sH4 _ _ hp1))))) np14) (sH17 _ _ (sH15 _ _ (sH12 _ _ (sH10 _ _ (sH8 _ _ (sH6 _ _ (sH4 _ _ hp1))))))))
    have hks : ∀ x ∈ [V.ref p1, V.ref p3, V.ref p7, V.ref p9, V.ref p16], KindAt P w K mg base [A.C_BadRow, A.C_BadTakes, A.C_BadNumber, A.C_Odd] H19 x := (List.forall_mem_cons.mpr ⟨⟨p1, _, _, 8, 0, rfl, h25, kind__law_with_row T⟩, (List.forall_mem_cons.mpr ⟨⟨p3, _, _, 1, 1, rfl, h24, kind__law_with_takes T⟩, (List.forall_mem_cons.mpr ⟨⟨p7, _, _, 2, 2, rfl, h23, kind__law_with_number T⟩, (List.forall_mem_cons.mpr ⟨⟨p9, _, _, 1, 2, rfl, h22, kind__law_with_play T⟩, (List.forall_mem_cons.mpr ⟨⟨p16, _, _, 1, 3, rfl, h21, kind__law_with_odd T⟩, (fun _ z => nomatch z)⟩)⟩)⟩)⟩)⟩)
    have hSk : SqL K H19 a (ns.map V.int) := Same.seq (fun b o e => (sH19 _ _ (ne_of_none e (sH2.free (sH4.free (sH6.free (sH8.free (sH10.free (sH12.free np14))))))) (sH17 _ _ (sH15 _ _ (sH12 _ _ (sH10 _ _ (sH8 _ _ (sH6 _ _ (sH4 _ _ (sH2 _ _ e)))))))))) hS
    refine ⟨_, rfl, p14, rfl, ⟨_, SqL.of h20⟩, ?_⟩
    refine for_list (K := K) (a := p14) (xs := [V.ref p1, V.ref p3, V.ref p7, V.ref p9, V.ref p16]) (fun i σ Hx => ∃ (x2 x3 x4 x5 x6 x7 x8 x9 : Option V), σ = [some (.ref a), some (.ref p14), x2, x3, x4, x5, x6, x7, x8, x9] ∧ Same H19 Hx) ⟨none, none, none, none, none, none, none, none, rfl, Same.refl _⟩ ?_ ?_ ?_
    · rintro i σ Hx _ ⟨x2, x3, x4, x5, x6, x7, x8, x9, rfl, sx⟩
      exact SqL.of (sx _ _ h20)
    · rintro i y σ Hx hi ⟨x2, x3, x4, x5, x6, x7, x8, x9, rfl, sx⟩
      obtain ⟨p, f, gg, doors, due, rfl, hp, ⟨C, bad, hd0, hd8, stays, cang, canf, hC⟩⟩ := hks y (List.mem_of_getElem? hi)
      refine ⟨p, _, rfl, SqT.of (sx _ _ hp), rfl, _, _, rfl, _, _, rfl, _, _, rfl, _, _, rfl, rfl, ?_⟩
      refine ⟨_, rfl, _, rfl, by omega, by omega, ?_⟩
      refine for_range (lo := 0) (n := ((doors : Nat) : Int).toNat) (fun i σ Hy => ∃ (y6 y7 y8 y9 : Option V), σ = [some (.ref a), some (.ref p14), some (.ref f), some (.int (doors : Int)), some (.ref gg), some (.int (due : Int)), y6, y7, y8, y9] ∧ Same H19 Hy) ⟨_, _, _, _, rfl, sx⟩ ?_ ?_
      · rintro j σ Hy hj ⟨y6, y7, y8, y9, rfl, sy⟩
        refine ⟨_, rfl, gg, _, rfl, cang, _, rfl, a, _, rfl, .inl (sy.seq hSk), ((ns.map V.int).length : Int), rfl, by omega, by rw [List.length_map]; omega, fun Hz pz xs sz hz hpos h64 hbad => ?_⟩
        refine ⟨pz, rfl, ⟨_, SqL.of hz⟩, fun D nD => ?_⟩
        refine lc_list (K := K) (a := pz) (xs := xs) (fun i Hu => Same Hz Hu ∧ Hu D = some (.lst ((List.replicate i true).map V.bl))) ⟨same_new nD _, upd_same⟩ ?_ ?_ ?_
        · rintro i Hu _ ⟨su, hD⟩
          exact SqL.of (su _ _ hz)
        · rintro i x Hu hi ⟨su, hD⟩
          have hi64 : i < xs.length := (List.getElem?_eq_some_iff.mp hi).1
          refine ⟨rfl, _, rfl, _, rfl, _, rfl, _, rfl, ?_⟩
          refine ⟨f, C, _, due, _, x, rfl, canf, hC, fun Q' E' hE => ⟨_, x, rfl, by omega, by omega, stays _ _ _ su (hbad x (List.mem_of_getElem? hi)), hE⟩, fun Hv sv => ?_⟩
          refine ⟨_, sv _ _ hD, by rw [List.length_map, List.length_replicate]; exact size_lt (by omega), fun c u e => ?_, ?_⟩
          · rw [upd_ne (ne_of_none e nD)]
            exact sv _ _ (su _ _ e)
          · rw [upd_same, List.replicate_succ', List.map_append]
            rfl
        · rintro Hu ⟨su, hD⟩
          refine ⟨D, _, rfl, SqL.of hD, _, rfl, ?_⟩
          rw [all_rep]
          exact iteF ⟨_, _, _, _, rfl, sy.trans (sz.trans su)⟩
      · rintro σ Hy ⟨y6, y7, y8, y9, rfl, sy⟩
        refine ⟨_, rfl, a, rfl, ⟨_, sy.seq hSk⟩, ?_⟩
        refine for_list (K := K) (a := a) (xs := ns.map V.int) (fun i σ Hz => ∃ (z6 z7 z8 z9 : Option V), σ = [some (.ref a), some (.ref p14), some (.ref f), some (.int (doors : Int)), some (.ref gg), some (.int (due : Int)), z6, z7, z8, z9] ∧ Same H19 Hz) ⟨_, _, _, _, rfl, sy⟩ ?_ ?_ ?_
        · rintro j σ Hz _ ⟨z6, z7, z8, z9, rfl, sz⟩
          exact sz.seq hSk
        · rintro j y σ Hz hj ⟨z6, z7, z8, z9, rfl, sz⟩
          obtain ⟨z, _, rfl⟩ := List.mem_map.mp (List.mem_of_getElem? hj)
          refine ⟨_, rfl, gg, _, rfl, cang, _, rfl, _, _, rfl, rfl, ⟨by decide, by decide, by decide⟩, _, _, rfl, rfl, (by show (0 : Int) < 10 ^ 60; decide +kernel), _, rfl, Int.emod_nonneg _ (by decide +kernel), Int.emod_lt_of_pos _ (by decide +kernel), fun Hu pz xs su hz hpos h64 hbad => ?_⟩
          obtain ⟨v, hv, hat⟩ := atI_mod (xs := xs) (z / 7) hpos
          refine ⟨_, rfl, _, rfl, _, rfl, _, _, rfl, rfl, (by omega), _, rfl, _, rfl, _, _, rfl, rfl, ⟨by decide, by decide⟩, _, rfl, pz, _, rfl, .inl (SqL.of hz), _, _, rfl, rfl, (by omega), pz, _, _, _, rfl, rfl, SqL.of hz, hat, _, rfl, ?_⟩
          refine ⟨f, C, _, due, _, v, rfl, canf, hC, fun Q' E' hE => ⟨_, v, rfl, Int.emod_nonneg _ (by omega), Int.emod_lt_of_pos _ (by omega), hbad v hv, hE⟩, fun Hv sv => ?_⟩
          exact ⟨_, rfl, iteF ⟨_, _, _, _, rfl, sz.trans (su.trans sv)⟩⟩
        · rintro σ Hz ⟨z6, z7, z8, z9, rfl, sz⟩
          exact ⟨_, _, _, _, _, _, _, _, rfl, sz⟩
    · rintro σ Hx ⟨x2, x3, x4, x5, x6, x7, x8, x9, rfl, sx⟩
      refine ⟨(by show 1 ≤ sizeLine; decide), fun p26 np26 => gen_heap np26 fun H27 sH27 hp26 => ?_⟩
      refine ⟨p26, _, _, rfl, rfl, hp26, (by decide), (by decide), (by show 12 ≤ sizeLine; decide), fun p28 np28 => gen_heap np28 fun H29 sH29 hp28 => ?_⟩
      replace hp28 : H29 p28 = some (.lst [V.int 1000000, V.int 1000000, V.int 1000000, V.int 1000000, V.int 1000000, V.int 1000000, V.int 1000000, V.int 1000000, V.int 1000000, V.int 1000000, V.int 1000000, V.int 1000000]) := hp28
      refine ⟨_, rfl, .inl ⟨[1000000, 1000000, 1000000, 1000000, 1000000, 1000000, 1000000, 1000000, 1000000, 1000000, 1000000, 1000000], ⟨p28, rfl, (SqL.of hp28), ⟨by decide, by decide⟩⟩, fun H30 sH30 => ?_⟩⟩
      refine ⟨rfl, _, rfl, ?_⟩
      refine iteFb (not_t (by decide +kernel)) ?_
      refine ⟨Nat.zero_le _, fun p31 np31 => gen_heap np31 fun H32 sH32 hp31 => ?_⟩
      refine ⟨Nat.zero_le _, fun p33 np33 => gen_heap np33 fun H34 sH34 hp33 => ?_⟩
      have h35 := (sH34 _ _ hp31)
      refine ⟨_, _, rfl, .inr ⟨[], ⟨p31, rfl, (SqL.of h35), ⟨by decide, fun z hz => (nomatch hz)⟩⟩, .inr ⟨p33, [], rfl, (SqL.of hp33), (by decide), fun H36 p37 l38 sH36 np37 nl38 hp37 hl38 => ?_⟩⟩⟩
      refine ⟨Nat.zero_le _, fun p39 np39 => gen_heap np39 fun H40 sH40 hp39 => ?_⟩
      refine ⟨(by show 3 ≤ sizeLine; decide), fun p41 np41 => gen_heap np41 fun H42 sH42 hp41 => ?_⟩
      have h43 := (sH42 _ _ (sH40 _ _ hl38))
      have h44 := (sH42 _ _ (sH40 _ _ hp37))
      have h45 := (sH42 _ _ hp39)
      refine ⟨(PyData.tuple [PyData.int ((ledR [] ([] : List Int).length 0 []).1), PyData.int ((ledR [] ([] : List Int).length 0 []).2), PyData.list (((stretch [] (ledLow 0 []) (([] : List Int).length - ([] : List Bool).length)).map V.int).map vD)]), (PyData.tuple [PyData.int 0, PyData.int 0, PyData.list []]), (.tup (SqT.of h44) (.cons (.int _) (.cons (.int _) (.cons (dp_lst (SqL.of h43) (ok_ints (stretch [] (ledLow 0 []) (([] : List Int).length - ([] : List Bool).length)))) .nil)))), (.tup (SqT.of hp41) (.cons (.int _) (.cons (.int _) (.cons (.lst (SqL.of h45) .nil) .nil)))), (Sh.tuple (.cons (sh_flat (x := V.int ((ledR [] ([] : List Int).length 0 []).1)) rfl 1) (.cons (sh_flat (x := V.int ((ledR [] ([] : List Int).length 0 []).2)) rfl 1) (.cons (Sh.list (sha_flat (ok_ints (stretch [] (ledLow 0 []) (([] : List Int).length - ([] : List Bool).length))) 0)) (.nil 1))))).shaped (by decide), (Sh.tuple (.cons (sh_flat (x := V.int 0) rfl 1) (.cons (sh_flat (x := V.int 0) rfl 1) (.cons (Sh.list (.nil 0)) (.nil 1))))).shaped (by decide), _, rfl, ?_⟩
      refine iteFb (not_t (eqv_eq ((Sh.tuple (.cons (sh_flat (x := V.int ((ledR [] ([] : List Int).length 0 []).1)) rfl 1) (.cons (sh_flat (x := V.int ((ledR [] ([] : List Int).length 0 []).2)) rfl 1) (.cons (Sh.list (sha_flat (ok_ints (stretch [] (ledLow 0 []) (([] : List Int).length - ([] : List Bool).length))) 0)) (.nil 1))))).shaped (by decide)) rfl)) ?_
      refine ⟨Nat.zero_le _, fun p46 np46 => gen_heap np46 fun H47 sH47 hp46 => ?_⟩
      refine ⟨_, rfl, .inl ⟨[], ⟨p46, rfl, (SqL.of hp46), ⟨by decide, fun z hz => (nomatch hz)⟩⟩, fun h => absurd (show ([] : List Int).length % 2 = 0 from rfl) (by omega), fun _ H48 sH48 => ?_⟩⟩
      refine ⟨rfl, _, rfl, ?_⟩
      refine iteFb (not_t (by decide +kernel)) ?_
      refine ⟨(by show 2 ≤ sizeLine; decide), fun p49 np49 => gen_heap np49 fun H50 sH50 hp49 => ?_⟩
      refine ⟨_, _, rfl, .inr ⟨[1, 2], ⟨p49, rfl, (SqL.of hp49), ⟨by decide, by decide⟩⟩, .inr ⟨1, [false, false], rfl, by decide +kernel, fun H51 p52 sH51 np52 hp52 => ?_⟩⟩⟩
      refine ⟨(by show 2 ≤ sizeLine; decide), fun p53 np53 => gen_heap np53 fun H54 sH54 hp53 => ?_⟩
      have h55 := (sH54 _ _ hp52)
      refine ⟨(PyData.list [PyData.str "right", PyData.str "right"]), (PyData.list [PyData.str "right", PyData.str "right"]), (.lst (SqL.of h55) (.cons (.str _) (.cons (.str _) .nil))), (.lst (SqL.of hp53) (.cons (.str _) (.cons (.str _) .nil))), (Sh.list (.cons (sh_flat (x := V.str "right") (by decide +kernel) 0) (.cons (sh_flat (x := V.str "right") (by decide +kernel) 0) (.nil 0)))).shaped (by decide), (Sh.list (.cons (sh_flat (x := V.str "right") (by decide +kernel) 0) (.cons (sh_flat (x := V.str "right") (by decide +kernel) 0) (.nil 0)))).shaped (by decide), ?_⟩
      rw [show PyData.eqv (PyData.list [PyData.str "right", PyData.str "right"]) (PyData.list [PyData.str "right", PyData.str "right"]) = true from eqv_same ((Sh.list (.cons (sh_flat (x := V.str "right") (by decide +kernel) 0) (.cons (sh_flat (x := V.str "right") (by decide +kernel) 0) (.nil 0)))).shaped (by decide))]
      exact q _
end
end K05
namespace K05
open PySem PySem.Spec PyProof.Rows L2 RE
theorem all_mk {l : PySem.W.OpenLaw} {w : World} {K : PySem.W.Frag} {h : Heap} {mg : Str → Option Value} {fa : Addr} (X : K.In h) (G : h.Ns mainGlobals mg) (hfa : mg "law" = some (.ref fa))
    {f__wall f_is_whole f_check_row f_is_side f_worth_of f_after f_best_of f_worth f_best f_led f_greedy f_sure f_plan_of f_judged f_plays_of f_how_many f_play_by f__law_alone f__law_with_row f__law_no_rows f__law_with_takes f__law_no_takes f__law_with_number f__law_no_numbers f__law_with_play f__law_no_plays f__law_with_odd f__law_odd f__law_refused f_law f_Gets_init f_Gets_shows f_Held_init f_Held_shows C_EndError C_BadRow C_BadTakes C_BadNumber C_Odd C_Answer C_Gets C_Held : Addr} {od__wall an__wall od_is_whole an_is_whole od_check_row an_check_row od_is_side an_is_side od_worth_of an_worth_of od_after an_after od_best_of an_best_of od_worth an_worth od_best an_best od_led an_led od_greedy an_greedy od_sure an_sure od_plan_of an_plan_of od_judged an_judged od_plays_of an_plays_of od_how_many an_how_many od_play_by an_play_by od__law_alone an__law_alone od__law_with_row an__law_with_row od__law_no_rows an__law_no_rows od__law_with_takes an__law_with_takes od__law_no_takes an__law_no_takes od__law_with_number an__law_with_number od__law_no_numbers an__law_no_numbers od__law_with_play an__law_with_play od__law_no_plays an__law_no_plays od__law_with_odd an__law_with_odd od__law_odd an__law_odd od__law_refused an__law_refused od_law an_law od_Gets_init an_Gets_init od_Gets_shows an_Gets_shows od_Held_init an_Held_init od_Held_shows an_Held_shows : Option Addr} {sl__wall sl_is_whole sl_check_row sl_is_side sl_worth_of sl_after sl_best_of sl_worth sl_best sl_led sl_greedy sl_sure sl_plan_of sl_judged sl_plays_of sl_how_many sl_play_by sl__law_alone sl__law_with_row sl__law_no_rows sl__law_with_takes sl__law_no_takes sl__law_with_number sl__law_no_numbers sl__law_with_play sl__law_no_plays sl__law_with_odd sl__law_odd sl__law_refused sl_law sl_Gets_init sl_Gets_shows sl_Held_init sl_Held_shows : Array (Option Value)} {oc__wall kV__wall dc__wall pm__wall ct__wall cd__wall oc_is_whole kV_is_whole dc_is_whole pm_is_whole ct_is_whole cd_is_whole oc_check_row kV_check_row dc_check_row pm_check_row ct_check_row cd_check_row oc_is_side kV_is_side dc_is_side pm_is_side ct_is_side cd_is_side oc_worth_of kV_worth_of dc_worth_of pm_worth_of ct_worth_of cd_worth_of oc_after kV_after dc_after pm_after ct_after cd_after oc_best_of kV_best_of dc_best_of pm_best_of ct_best_of cd_best_of oc_worth kV_worth dc_worth pm_worth ct_worth cd_worth oc_best kV_best dc_best pm_best ct_best cd_best oc_led kV_led dc_led pm_led ct_led cd_led oc_greedy kV_greedy dc_greedy pm_greedy ct_greedy cd_greedy oc_sure kV_sure dc_sure pm_sure ct_sure cd_sure oc_plan_of kV_plan_of dc_plan_of pm_plan_of ct_plan_of cd_plan_of oc_judged kV_judged dc_judged pm_judged ct_judged cd_judged oc_plays_of kV_plays_of dc_plays_of pm_plays_of ct_plays_of cd_plays_of oc_how_many kV_how_many dc_how_many pm_how_many ct_how_many cd_how_many oc_play_by kV_play_by dc_play_by pm_play_by ct_play_by cd_play_by oc__law_alone kV__law_alone dc__law_alone pm__law_alone ct__law_alone cd__law_alone oc__law_with_row kV__law_with_row dc__law_with_row pm__law_with_row ct__law_with_row cd__law_with_row oc__law_no_rows kV__law_no_rows dc__law_no_rows pm__law_no_rows ct__law_no_rows cd__law_no_rows oc__law_with_takes kV__law_with_takes dc__law_with_takes pm__law_with_takes ct__law_with_takes cd__law_with_takes oc__law_no_takes kV__law_no_takes dc__law_no_takes pm__law_no_takes ct__law_no_takes cd__law_no_takes oc__law_with_number kV__law_with_number dc__law_with_number pm__law_with_number ct__law_with_number cd__law_with_number oc__law_no_numbers kV__law_no_numbers dc__law_no_numbers pm__law_no_numbers ct__law_no_numbers cd__law_no_numbers oc__law_with_play kV__law_with_play dc__law_with_play pm__law_with_play ct__law_with_play cd__law_with_play oc__law_no_plays kV__law_no_plays dc__law_no_plays pm__law_no_plays ct__law_no_plays cd__law_no_plays oc__law_with_odd kV__law_with_odd dc__law_with_odd pm__law_with_odd ct__law_with_odd cd__law_with_odd oc__law_odd kV__law_odd dc__law_odd pm__law_odd ct__law_odd cd__law_odd oc__law_refused kV__law_refused dc__law_refused pm__law_refused ct__law_refused cd__law_refused oc_law kV_law dc_law pm_law ct_law cd_law oc_Gets_init kV_Gets_init dc_Gets_init pm_Gets_init ct_Gets_init cd_Gets_init oc_Gets_shows kV_Gets_shows dc_Gets_shows pm_Gets_shows ct_Gets_shows cd_Gets_shows oc_Held_init kV_Held_init dc_Held_init pm_Held_init ct_Held_init cd_Held_init oc_Held_shows kV_Held_shows dc_Held_shows pm_Held_shows ct_Held_shows cd_Held_shows : Value} {t_MOST t_GREATEST t_LEFT t_RIGHT : Tok}
    (n_EndError : PySem.W.nsIn K mainGlobals "EndError" = some (some (.ref C_EndError)))
    (n_BadRow : PySem.W.nsIn K mainGlobals "BadRow" = some (some (.ref C_BadRow)))
    (n_BadTakes : PySem.W.nsIn K mainGlobals "BadTakes" = some (some (.ref C_BadTakes)))
    (n_BadNumber : PySem.W.nsIn K mainGlobals "BadNumber" = some (some (.ref C_BadNumber)))
    (n_Odd : PySem.W.nsIn K mainGlobals "Odd" = some (some (.ref C_Odd)))
    (n_Answer : PySem.W.nsIn K mainGlobals "Answer" = some (some (.ref C_Answer)))
    (n_Gets : PySem.W.nsIn K mainGlobals "Gets" = some (some (.ref C_Gets)))
    (n_Held : PySem.W.nsIn K mainGlobals "Held" = some (some (.ref C_Held)))
    (at_Gets_init : PySem.W.findIn K (.ref C_Gets) "__init__" = some (some (.ref f_Gets_init)))
    (at_Gets_shows : PySem.W.findIn K (.ref C_Gets) "shows" = some (some (.ref f_Gets_shows)))
    (at_Held_init : PySem.W.findIn K (.ref C_Held) "__init__" = some (some (.ref f_Held_init)))
    (at_Held_shows : PySem.W.findIn K (.ref C_Held) "shows" = some (some (.ref f_Held_shows)))
    (a__wall : PySem.W.nsIn K mainGlobals "_wall" = some (some (.ref f__wall)))
    (l__wall : K.lookup f__wall = some ⟨oc__wall, od__wall, .func (PySem.W.fnOf "_wall" "_wall" (defArgs s__wall) (defBody s__wall) (defScope s__wall) .none kV__wall dc__wall pm__wall an__wall cd__wall ct__wall), sl__wall⟩)
    (c__wall : PySem.W.codeIn K cd__wall "_wall" = true)
    (k__wall : PySem.W.keepIn K (.ref f__wall) = true)
    (a_is_whole : PySem.W.nsIn K mainGlobals "is_whole" = some (some (.ref f_is_whole)))
    (l_is_whole : K.lookup f_is_whole = some ⟨oc_is_whole, od_is_whole, .func (PySem.W.fnOf "is_whole" "is_whole" (defArgs s_is_whole) (defBody s_is_whole) (defScope s_is_whole) .none kV_is_whole dc_is_whole pm_is_whole an_is_whole cd_is_whole ct_is_whole), sl_is_whole⟩)
    (c_is_whole : PySem.W.codeIn K cd_is_whole "is_whole" = true)
    (k_is_whole : PySem.W.keepIn K (.ref f_is_whole) = true)
    (a_check_row : PySem.W.nsIn K mainGlobals "check_row" = some (some (.ref f_check_row)))
    (l_check_row : K.lookup f_check_row = some ⟨oc_check_row, od_check_row, .func (PySem.W.fnOf "check_row" "check_row" (defArgs s_check_row) (defBody s_check_row) (defScope s_check_row) .none kV_check_row dc_check_row pm_check_row an_check_row cd_check_row ct_check_row), sl_check_row⟩)
    (c_check_row : PySem.W.codeIn K cd_check_row "check_row" = true)
    (k_check_row : PySem.W.keepIn K (.ref f_check_row) = true)
    (a_is_side : PySem.W.nsIn K mainGlobals "is_side" = some (some (.ref f_is_side)))
    (l_is_side : K.lookup f_is_side = some ⟨oc_is_side, od_is_side, .func (PySem.W.fnOf "is_side" "is_side" (defArgs s_is_side) (defBody s_is_side) (defScope s_is_side) .none kV_is_side dc_is_side pm_is_side an_is_side cd_is_side ct_is_side), sl_is_side⟩)
    (c_is_side : PySem.W.codeIn K cd_is_side "is_side" = true)
    (k_is_side : PySem.W.keepIn K (.ref f_is_side) = true)
    (a_worth_of : PySem.W.nsIn K mainGlobals "worth_of" = some (some (.ref f_worth_of)))
    (l_worth_of : K.lookup f_worth_of = some ⟨oc_worth_of, od_worth_of, .func (PySem.W.fnOf "worth_of" "worth_of" (defArgs s_worth_of) (defBody s_worth_of) (defScope s_worth_of) .none kV_worth_of dc_worth_of pm_worth_of an_worth_of cd_worth_of ct_worth_of), sl_worth_of⟩)
    (c_worth_of : PySem.W.codeIn K cd_worth_of "worth_of" = true)
    (k_worth_of : PySem.W.keepIn K (.ref f_worth_of) = true)
    (a_after : PySem.W.nsIn K mainGlobals "after" = some (some (.ref f_after)))
    (l_after : K.lookup f_after = some ⟨oc_after, od_after, .func (PySem.W.fnOf "after" "after" (defArgs s_after) (defBody s_after) (defScope s_after) .none kV_after dc_after pm_after an_after cd_after ct_after), sl_after⟩)
    (c_after : PySem.W.codeIn K cd_after "after" = true)
    (k_after : PySem.W.keepIn K (.ref f_after) = true)
    (a_best_of : PySem.W.nsIn K mainGlobals "best_of" = some (some (.ref f_best_of)))
    (l_best_of : K.lookup f_best_of = some ⟨oc_best_of, od_best_of, .func (PySem.W.fnOf "best_of" "best_of" (defArgs s_best_of) (defBody s_best_of) (defScope s_best_of) .none kV_best_of dc_best_of pm_best_of an_best_of cd_best_of ct_best_of), sl_best_of⟩)
    (c_best_of : PySem.W.codeIn K cd_best_of "best_of" = true)
    (k_best_of : PySem.W.keepIn K (.ref f_best_of) = true)
    (a_worth : PySem.W.nsIn K mainGlobals "worth" = some (some (.ref f_worth)))
    (l_worth : K.lookup f_worth = some ⟨oc_worth, od_worth, .func (PySem.W.fnOf "worth" "worth" (defArgs s_worth) (defBody s_worth) (defScope s_worth) .none kV_worth dc_worth pm_worth an_worth cd_worth ct_worth), sl_worth⟩)
    (c_worth : PySem.W.codeIn K cd_worth "worth" = true)
    (k_worth : PySem.W.keepIn K (.ref f_worth) = true)
    (a_best : PySem.W.nsIn K mainGlobals "best" = some (some (.ref f_best)))
    (l_best : K.lookup f_best = some ⟨oc_best, od_best, .func (PySem.W.fnOf "best" "best" (defArgs s_best) (defBody s_best) (defScope s_best) .none kV_best dc_best pm_best an_best cd_best ct_best), sl_best⟩)
    (c_best : PySem.W.codeIn K cd_best "best" = true)
    (k_best : PySem.W.keepIn K (.ref f_best) = true)
    (a_led : PySem.W.nsIn K mainGlobals "led" = some (some (.ref f_led)))
    (l_led : K.lookup f_led = some ⟨oc_led, od_led, .func (PySem.W.fnOf "led" "led" (defArgs s_led) (defBody s_led) (defScope s_led) .none kV_led dc_led pm_led an_led cd_led ct_led), sl_led⟩)
    (c_led : PySem.W.codeIn K cd_led "led" = true)
    (k_led : PySem.W.keepIn K (.ref f_led) = true)
    (a_greedy : PySem.W.nsIn K mainGlobals "greedy" = some (some (.ref f_greedy)))
    (l_greedy : K.lookup f_greedy = some ⟨oc_greedy, od_greedy, .func (PySem.W.fnOf "greedy" "greedy" (defArgs s_greedy) (defBody s_greedy) (defScope s_greedy) .none kV_greedy dc_greedy pm_greedy an_greedy cd_greedy ct_greedy), sl_greedy⟩)
    (c_greedy : PySem.W.codeIn K cd_greedy "greedy" = true)
    (k_greedy : PySem.W.keepIn K (.ref f_greedy) = true)
    (a_sure : PySem.W.nsIn K mainGlobals "sure" = some (some (.ref f_sure)))
    (l_sure : K.lookup f_sure = some ⟨oc_sure, od_sure, .func (PySem.W.fnOf "sure" "sure" (defArgs s_sure) (defBody s_sure) (defScope s_sure) .none kV_sure dc_sure pm_sure an_sure cd_sure ct_sure), sl_sure⟩)
    (c_sure : PySem.W.codeIn K cd_sure "sure" = true)
    (k_sure : PySem.W.keepIn K (.ref f_sure) = true)
    (a_plan_of : PySem.W.nsIn K mainGlobals "plan_of" = some (some (.ref f_plan_of)))
    (l_plan_of : K.lookup f_plan_of = some ⟨oc_plan_of, od_plan_of, .func (PySem.W.fnOf "plan_of" "plan_of" (defArgs s_plan_of) (defBody s_plan_of) (defScope s_plan_of) .none kV_plan_of dc_plan_of pm_plan_of an_plan_of cd_plan_of ct_plan_of), sl_plan_of⟩)
    (c_plan_of : PySem.W.codeIn K cd_plan_of "plan_of" = true)
    (k_plan_of : PySem.W.keepIn K (.ref f_plan_of) = true)
    (a_judged : PySem.W.nsIn K mainGlobals "judged" = some (some (.ref f_judged)))
    (l_judged : K.lookup f_judged = some ⟨oc_judged, od_judged, .func (PySem.W.fnOf "judged" "judged" (defArgs s_judged) (defBody s_judged) (defScope s_judged) .none kV_judged dc_judged pm_judged an_judged cd_judged ct_judged), sl_judged⟩)
    (c_judged : PySem.W.codeIn K cd_judged "judged" = true)
    (k_judged : PySem.W.keepIn K (.ref f_judged) = true)
    (a_plays_of : PySem.W.nsIn K mainGlobals "plays_of" = some (some (.ref f_plays_of)))
    (l_plays_of : K.lookup f_plays_of = some ⟨oc_plays_of, od_plays_of, .func (PySem.W.fnOf "plays_of" "plays_of" (defArgs s_plays_of) (defBody s_plays_of) (defScope s_plays_of) .none kV_plays_of dc_plays_of pm_plays_of an_plays_of cd_plays_of ct_plays_of), sl_plays_of⟩)
    (c_plays_of : PySem.W.codeIn K cd_plays_of "plays_of" = true)
    (k_plays_of : PySem.W.keepIn K (.ref f_plays_of) = true)
    (a_how_many : PySem.W.nsIn K mainGlobals "how_many" = some (some (.ref f_how_many)))
    (l_how_many : K.lookup f_how_many = some ⟨oc_how_many, od_how_many, .func (PySem.W.fnOf "how_many" "how_many" (defArgs s_how_many) (defBody s_how_many) (defScope s_how_many) .none kV_how_many dc_how_many pm_how_many an_how_many cd_how_many ct_how_many), sl_how_many⟩)
    (c_how_many : PySem.W.codeIn K cd_how_many "how_many" = true)
    (k_how_many : PySem.W.keepIn K (.ref f_how_many) = true)
    (a_play_by : PySem.W.nsIn K mainGlobals "play_by" = some (some (.ref f_play_by)))
    (l_play_by : K.lookup f_play_by = some ⟨oc_play_by, od_play_by, .func (PySem.W.fnOf "play_by" "play_by" (defArgs s_play_by) (defBody s_play_by) (defScope s_play_by) .none kV_play_by dc_play_by pm_play_by an_play_by cd_play_by ct_play_by), sl_play_by⟩)
    (c_play_by : PySem.W.codeIn K cd_play_by "play_by" = true)
    (k_play_by : PySem.W.keepIn K (.ref f_play_by) = true)
    (a__law_alone : PySem.W.nsIn K mainGlobals "_law_alone" = some (some (.ref f__law_alone)))
    (l__law_alone : K.lookup f__law_alone = some ⟨oc__law_alone, od__law_alone, .func (PySem.W.fnOf "_law_alone" "_law_alone" (defArgs s__law_alone) (defBody s__law_alone) (defScope s__law_alone) .none kV__law_alone dc__law_alone pm__law_alone an__law_alone cd__law_alone ct__law_alone), sl__law_alone⟩)
    (c__law_alone : PySem.W.codeIn K cd__law_alone "_law_alone" = true)
    (k__law_alone : PySem.W.keepIn K (.ref f__law_alone) = true)
    (a__law_with_row : PySem.W.nsIn K mainGlobals "_law_with_row" = some (some (.ref f__law_with_row)))
    (l__law_with_row : K.lookup f__law_with_row = some ⟨oc__law_with_row, od__law_with_row, .func (PySem.W.fnOf "_law_with_row" "_law_with_row" (defArgs s__law_with_row) (defBody s__law_with_row) (defScope s__law_with_row) .none kV__law_with_row dc__law_with_row pm__law_with_row an__law_with_row cd__law_with_row ct__law_with_row), sl__law_with_row⟩)
    (c__law_with_row : PySem.W.codeIn K cd__law_with_row "_law_with_row" = true)
    (k__law_with_row : PySem.W.keepIn K (.ref f__law_with_row) = true)
    (a__law_no_rows : PySem.W.nsIn K mainGlobals "_law_no_rows" = some (some (.ref f__law_no_rows)))
    (l__law_no_rows : K.lookup f__law_no_rows = some ⟨oc__law_no_rows, od__law_no_rows, .func (PySem.W.fnOf "_law_no_rows" "_law_no_rows" (defArgs s__law_no_rows) (defBody s__law_no_rows) (defScope s__law_no_rows) .none kV__law_no_rows dc__law_no_rows pm__law_no_rows an__law_no_rows cd__law_no_rows ct__law_no_rows), sl__law_no_rows⟩)
    (c__law_no_rows : PySem.W.codeIn K cd__law_no_rows "_law_no_rows" = true)
    (k__law_no_rows : PySem.W.keepIn K (.ref f__law_no_rows) = true)
    (a__law_with_takes : PySem.W.nsIn K mainGlobals "_law_with_takes" = some (some (.ref f__law_with_takes)))
    (l__law_with_takes : K.lookup f__law_with_takes = some ⟨oc__law_with_takes, od__law_with_takes, .func (PySem.W.fnOf "_law_with_takes" "_law_with_takes" (defArgs s__law_with_takes) (defBody s__law_with_takes) (defScope s__law_with_takes) .none kV__law_with_takes dc__law_with_takes pm__law_with_takes an__law_with_takes cd__law_with_takes ct__law_with_takes), sl__law_with_takes⟩)
    (c__law_with_takes : PySem.W.codeIn K cd__law_with_takes "_law_with_takes" = true)
    (k__law_with_takes : PySem.W.keepIn K (.ref f__law_with_takes) = true)
    (a__law_no_takes : PySem.W.nsIn K mainGlobals "_law_no_takes" = some (some (.ref f__law_no_takes)))
    (l__law_no_takes : K.lookup f__law_no_takes = some ⟨oc__law_no_takes, od__law_no_takes, .func (PySem.W.fnOf "_law_no_takes" "_law_no_takes" (defArgs s__law_no_takes) (defBody s__law_no_takes) (defScope s__law_no_takes) .none kV__law_no_takes dc__law_no_takes pm__law_no_takes an__law_no_takes cd__law_no_takes ct__law_no_takes), sl__law_no_takes⟩)
    (c__law_no_takes : PySem.W.codeIn K cd__law_no_takes "_law_no_takes" = true)
    (k__law_no_takes : PySem.W.keepIn K (.ref f__law_no_takes) = true)
    (a__law_with_number : PySem.W.nsIn K mainGlobals "_law_with_number" = some (some (.ref f__law_with_number)))
    (l__law_with_number : K.lookup f__law_with_number = some ⟨oc__law_with_number, od__law_with_number, .func (PySem.W.fnOf "_law_with_number" "_law_with_number" (defArgs s__law_with_number) (defBody s__law_with_number) (defScope s__law_with_number) .none kV__law_with_number dc__law_with_number pm__law_with_number an__law_with_number cd__law_with_number ct__law_with_number), sl__law_with_number⟩)
    (c__law_with_number : PySem.W.codeIn K cd__law_with_number "_law_with_number" = true)
    (k__law_with_number : PySem.W.keepIn K (.ref f__law_with_number) = true)
    (a__law_no_numbers : PySem.W.nsIn K mainGlobals "_law_no_numbers" = some (some (.ref f__law_no_numbers)))
    (l__law_no_numbers : K.lookup f__law_no_numbers = some ⟨oc__law_no_numbers, od__law_no_numbers, .func (PySem.W.fnOf "_law_no_numbers" "_law_no_numbers" (defArgs s__law_no_numbers) (defBody s__law_no_numbers) (defScope s__law_no_numbers) .none kV__law_no_numbers dc__law_no_numbers pm__law_no_numbers an__law_no_numbers cd__law_no_numbers ct__law_no_numbers), sl__law_no_numbers⟩)
    (c__law_no_numbers : PySem.W.codeIn K cd__law_no_numbers "_law_no_numbers" = true)
    (k__law_no_numbers : PySem.W.keepIn K (.ref f__law_no_numbers) = true)
    (a__law_with_play : PySem.W.nsIn K mainGlobals "_law_with_play" = some (some (.ref f__law_with_play)))
    (l__law_with_play : K.lookup f__law_with_play = some ⟨oc__law_with_play, od__law_with_play, .func (PySem.W.fnOf "_law_with_play" "_law_with_play" (defArgs s__law_with_play) (defBody s__law_with_play) (defScope s__law_with_play) .none kV__law_with_play dc__law_with_play pm__law_with_play an__law_with_play cd__law_with_play ct__law_with_play), sl__law_with_play⟩)
    (c__law_with_play : PySem.W.codeIn K cd__law_with_play "_law_with_play" = true)
    (k__law_with_play : PySem.W.keepIn K (.ref f__law_with_play) = true)
    (a__law_no_plays : PySem.W.nsIn K mainGlobals "_law_no_plays" = some (some (.ref f__law_no_plays)))
    (l__law_no_plays : K.lookup f__law_no_plays = some ⟨oc__law_no_plays, od__law_no_plays, .func (PySem.W.fnOf "_law_no_plays" "_law_no_plays" (defArgs s__law_no_plays) (defBody s__law_no_plays) (defScope s__law_no_plays) .none kV__law_no_plays dc__law_no_plays pm__law_no_plays an__law_no_plays cd__law_no_plays ct__law_no_plays), sl__law_no_plays⟩)
    (c__law_no_plays : PySem.W.codeIn K cd__law_no_plays "_law_no_plays" = true)
    (k__law_no_plays : PySem.W.keepIn K (.ref f__law_no_plays) = true)
    (a__law_with_odd : PySem.W.nsIn K mainGlobals "_law_with_odd" = some (some (.ref f__law_with_odd)))
    (l__law_with_odd : K.lookup f__law_with_odd = some ⟨oc__law_with_odd, od__law_with_odd, .func (PySem.W.fnOf "_law_with_odd" "_law_with_odd" (defArgs s__law_with_odd) (defBody s__law_with_odd) (defScope s__law_with_odd) .none kV__law_with_odd dc__law_with_odd pm__law_with_odd an__law_with_odd cd__law_with_odd ct__law_with_odd), sl__law_with_odd⟩)
    (c__law_with_odd : PySem.W.codeIn K cd__law_with_odd "_law_with_odd" = true)
    (k__law_with_odd : PySem.W.keepIn K (.ref f__law_with_odd) = true)
    (a__law_odd : PySem.W.nsIn K mainGlobals "_law_odd" = some (some (.ref f__law_odd)))
    (l__law_odd : K.lookup f__law_odd = some ⟨oc__law_odd, od__law_odd, .func (PySem.W.fnOf "_law_odd" "_law_odd" (defArgs s__law_odd) (defBody s__law_odd) (defScope s__law_odd) .none kV__law_odd dc__law_odd pm__law_odd an__law_odd cd__law_odd ct__law_odd), sl__law_odd⟩)
    (c__law_odd : PySem.W.codeIn K cd__law_odd "_law_odd" = true)
    (k__law_odd : PySem.W.keepIn K (.ref f__law_odd) = true)
    (a__law_refused : PySem.W.nsIn K mainGlobals "_law_refused" = some (some (.ref f__law_refused)))
    (l__law_refused : K.lookup f__law_refused = some ⟨oc__law_refused, od__law_refused, .func (PySem.W.fnOf "_law_refused" "_law_refused" (defArgs s__law_refused) (defBody s__law_refused) (defScope s__law_refused) .none kV__law_refused dc__law_refused pm__law_refused an__law_refused cd__law_refused ct__law_refused), sl__law_refused⟩)
    (c__law_refused : PySem.W.codeIn K cd__law_refused "_law_refused" = true)
    (k__law_refused : PySem.W.keepIn K (.ref f__law_refused) = true)
    (a_law : PySem.W.nsIn K mainGlobals "law" = some (some (.ref f_law)))
    (l_law : K.lookup f_law = some ⟨oc_law, od_law, .func (PySem.W.fnOf "law" "law" (defArgs s_law) (defBody s_law) (defScope s_law) .none kV_law dc_law pm_law an_law cd_law ct_law), sl_law⟩)
    (c_law : PySem.W.codeIn K cd_law "law" = true)
    (k_law : PySem.W.keepIn K (.ref f_law) = true)
    (l_Gets_init : K.lookup f_Gets_init = some ⟨oc_Gets_init, od_Gets_init, .func (PySem.W.fnOf "__init__" "Gets.__init__" (defArgs s_Gets_init) (defBody s_Gets_init) (defScope s_Gets_init) .none kV_Gets_init dc_Gets_init pm_Gets_init an_Gets_init cd_Gets_init ct_Gets_init), sl_Gets_init⟩)
    (c_Gets_init : PySem.W.codeIn K cd_Gets_init "Gets.__init__" = true)
    (k_Gets_init : PySem.W.keepIn K (.ref f_Gets_init) = true)
    (l_Gets_shows : K.lookup f_Gets_shows = some ⟨oc_Gets_shows, od_Gets_shows, .func (PySem.W.fnOf "shows" "Gets.shows" (defArgs s_Gets_shows) (defBody s_Gets_shows) (defScope s_Gets_shows) .none kV_Gets_shows dc_Gets_shows pm_Gets_shows an_Gets_shows cd_Gets_shows ct_Gets_shows), sl_Gets_shows⟩)
    (c_Gets_shows : PySem.W.codeIn K cd_Gets_shows "Gets.shows" = true)
    (k_Gets_shows : PySem.W.keepIn K (.ref f_Gets_shows) = true)
    (l_Held_init : K.lookup f_Held_init = some ⟨oc_Held_init, od_Held_init, .func (PySem.W.fnOf "__init__" "Held.__init__" (defArgs s_Held_init) (defBody s_Held_init) (defScope s_Held_init) .none kV_Held_init dc_Held_init pm_Held_init an_Held_init cd_Held_init ct_Held_init), sl_Held_init⟩)
    (c_Held_init : PySem.W.codeIn K cd_Held_init "Held.__init__" = true)
    (k_Held_init : PySem.W.keepIn K (.ref f_Held_init) = true)
    (l_Held_shows : K.lookup f_Held_shows = some ⟨oc_Held_shows, od_Held_shows, .func (PySem.W.fnOf "shows" "Held.shows" (defArgs s_Held_shows) (defBody s_Held_shows) (defScope s_Held_shows) .none kV_Held_shows dc_Held_shows pm_Held_shows an_Held_shows cd_Held_shows ct_Held_shows), sl_Held_shows⟩)
    (c_Held_shows : PySem.W.codeIn K cd_Held_shows "Held.shows" = true)
    (k_Held_shows : PySem.W.keepIn K (.ref f_Held_shows) = true)
    (q_MOST : PySem.W.nsIn K mainGlobals "MOST" = some (some (.int 12 t_MOST)))
    (q_GREATEST : PySem.W.nsIn K mainGlobals "GREATEST" = some (some (.int 1000000 t_GREATEST)))
    (q_LEFT : PySem.W.nsIn K mainGlobals "LEFT" = some (some (.str "left" t_LEFT)))
    (q_RIGHT : PySem.W.nsIn K mainGlobals "RIGHT" = some (some (.str "right" t_RIGHT)))
    (z_ValueError : PySem.W.nsIn K mainGlobals "ValueError" = some none)
    (z_abs : PySem.W.nsIn K mainGlobals "abs" = some none)
    (z_all : PySem.W.nsIn K mainGlobals "all" = some none)
    (z_bool : PySem.W.nsIn K mainGlobals "bool" = some none)
    (z_enumerate : PySem.W.nsIn K mainGlobals "enumerate" = some none)
    (z_int : PySem.W.nsIn K mainGlobals "int" = some none)
    (z_isinstance : PySem.W.nsIn K mainGlobals "isinstance" = some none)
    (z_len : PySem.W.nsIn K mainGlobals "len" = some none)
    (z_list : PySem.W.nsIn K mainGlobals "list" = some none)
    (z_max : PySem.W.nsIn K mainGlobals "max" = some none)
    (z_range : PySem.W.nsIn K mainGlobals "range" = some none)
    (z_str : PySem.W.nsIn K mainGlobals "str" = some none)
    (z_sum : PySem.W.nsIn K mainGlobals "sum" = some none)
    (kc_EndError : PySem.W.keepIn K (.ref C_EndError) = true)
    (xc_EndError : PySem.W.excIn K C_EndError [.type "ValueError", .type "Exception", .type "BaseException", .type "object"] "ValueError.__new__" = true)
    (Bc_EndError : PySem.W.subIn K (.ref C_EndError) (.type "BaseException") = some true)
    (tc_EndError : PySem.W.typeIn K (.ref C_EndError) = some (.type "type"))
    (kc_BadRow : PySem.W.keepIn K (.ref C_BadRow) = true)
    (xc_BadRow : PySem.W.excIn K C_BadRow [.type "ValueError", .type "Exception", .type "BaseException", .type "object"] "ValueError.__new__" = true)
    (Bc_BadRow : PySem.W.subIn K (.ref C_BadRow) (.type "BaseException") = some true)
    (tc_BadRow : PySem.W.typeIn K (.ref C_BadRow) = some (.type "type"))
    (kc_BadTakes : PySem.W.keepIn K (.ref C_BadTakes) = true)
    (xc_BadTakes : PySem.W.excIn K C_BadTakes [.type "ValueError", .type "Exception", .type "BaseException", .type "object"] "ValueError.__new__" = true)
    (Bc_BadTakes : PySem.W.subIn K (.ref C_BadTakes) (.type "BaseException") = some true)
    (tc_BadTakes : PySem.W.typeIn K (.ref C_BadTakes) = some (.type "type"))
    (kc_BadNumber : PySem.W.keepIn K (.ref C_BadNumber) = true)
    (xc_BadNumber : PySem.W.excIn K C_BadNumber [.type "ValueError", .type "Exception", .type "BaseException", .type "object"] "ValueError.__new__" = true)
    (Bc_BadNumber : PySem.W.subIn K (.ref C_BadNumber) (.type "BaseException") = some true)
    (tc_BadNumber : PySem.W.typeIn K (.ref C_BadNumber) = some (.type "type"))
    (kc_Odd : PySem.W.keepIn K (.ref C_Odd) = true)
    (xc_Odd : PySem.W.excIn K C_Odd [.type "ValueError", .type "Exception", .type "BaseException", .type "object"] "ValueError.__new__" = true)
    (Bc_Odd : PySem.W.subIn K (.ref C_Odd) (.type "BaseException") = some true)
    (tc_Odd : PySem.W.typeIn K (.ref C_Odd) = some (.type "type"))
    (pg_Gets : PySem.W.plainGet K C_Gets Str.empty = true)
    (hd_Gets : PySem.W.hasDictIn K C_Gets = true)
    (po_Gets : PySem.W.plainOver K C_Gets = true)
    (sa_Gets : PySem.W.findIn K (.ref C_Gets) "__setattr__" = some (some (.builtin "object.__setattr__")))
    (mkc_Gets : PySem.W.makesIn K C_Gets = true)
    (kc_Gets : PySem.W.keepIn K (.ref C_Gets) = true)
    (np_Gets : PySem.W.findIn K (.ref C_Gets) "plan" = some none)
    (ha_Gets : PySem.W.findIn K (.ref C_Gets) "__class__" = some (some (.builtin "object.__class__")))
    (hm_Gets : PySem.W.mroIn K C_Gets (.type "object") = some true)
    (hn_Gets : PySem.W.specialIn K (.builtin "object.__class__") "__get__" = some (some (.builtin "getset_descriptor.__get__")))
    (ht_Gets : PySem.W.takesIn K (.builtin "object.__class__") = some true)
    (kit_Gets_Answer : PySem.W.kitOne K (.ref C_Gets) (.ref C_Answer) = some true)
    (kit_Gets_Gets : PySem.W.kitOne K (.ref C_Gets) (.ref C_Gets) = some true)
    (kit_Gets_Held : PySem.W.kitOne K (.ref C_Gets) (.ref C_Held) = some false)
    (fn_Gets_init : PySem.W.isFn K (.ref f_Gets_init) = true)
    (fn_Gets_shows : PySem.W.isFn K (.ref f_Gets_shows) = true)
    (pg_Held : PySem.W.plainGet K C_Held Str.empty = true)
    (hd_Held : PySem.W.hasDictIn K C_Held = true)
    (po_Held : PySem.W.plainOver K C_Held = true)
    (sa_Held : PySem.W.findIn K (.ref C_Held) "__setattr__" = some (some (.builtin "object.__setattr__")))
    (mkc_Held : PySem.W.makesIn K C_Held = true)
    (kc_Held : PySem.W.keepIn K (.ref C_Held) = true)
    (np_Held : PySem.W.findIn K (.ref C_Held) "plan" = some none)
    (ha_Held : PySem.W.findIn K (.ref C_Held) "__class__" = some (some (.builtin "object.__class__")))
    (hm_Held : PySem.W.mroIn K C_Held (.type "object") = some true)
    (hn_Held : PySem.W.specialIn K (.builtin "object.__class__") "__get__" = some (some (.builtin "getset_descriptor.__get__")))
    (ht_Held : PySem.W.takesIn K (.builtin "object.__class__") = some true)
    (kit_Held_Answer : PySem.W.kitOne K (.ref C_Held) (.ref C_Answer) = some true)
    (kit_Held_Gets : PySem.W.kitOne K (.ref C_Held) (.ref C_Gets) = some false)
    (kit_Held_Held : PySem.W.kitOne K (.ref C_Held) (.ref C_Held) = some true)
    (fn_Held_init : PySem.W.isFn K (.ref f_Held_init) = true)
    (fn_Held_shows : PySem.W.isFn K (.ref f_Held_shows) = true)
    (ehg_BadRow : PySem.W.findIn K (.ref C_BadRow) "__getattribute__" = some (some (.builtin "BaseException.__getattribute__")))
    (ehk_BadRow : PySem.W.findIn K (.ref C_BadRow) "__getattr__" = some none)
    (ehs_BadRow : PySem.W.subIn K (.ref C_BadRow) (.type "BaseException") = some true)
    (ehd_BadRow : PySem.W.hasDictIn K C_BadRow = true)
    (eha_BadRow : PySem.W.findIn K (.ref C_BadRow) "__class__" = some (some (.builtin "object.__class__")))
    (ehn_BadRow : PySem.W.specialIn K (.builtin "object.__class__") "__get__" = some (some (.builtin "getset_descriptor.__get__")))
    (eht_BadRow : PySem.W.takesIn K (.builtin "object.__class__") = some true)
    (ehm_BadRow : PySem.W.mroIn K C_BadRow (.type "object") = some true)
    (exm_BadRow : PySem.W.exmOne K (.ref C_BadRow) (.ref C_EndError) = some true)
    (kx_BadRow_BadRow : PySem.W.kitOne K (.ref C_BadRow) (.ref C_BadRow) = some true)
    (kx_BadRow_BadTakes : PySem.W.kitOne K (.ref C_BadRow) (.ref C_BadTakes) = some false)
    (kx_BadRow_BadNumber : PySem.W.kitOne K (.ref C_BadRow) (.ref C_BadNumber) = some false)
    (kx_BadRow_Odd : PySem.W.kitOne K (.ref C_BadRow) (.ref C_Odd) = some false)
    (kv_BadRow : PySem.W.kitOne K (.ref C_BadRow) (.type "ValueError") = some true)
    (ehg_BadTakes : PySem.W.findIn K (.ref C_BadTakes) "__getattribute__" = some (some (.builtin "BaseException.__getattribute__")))
    (ehk_BadTakes : PySem.W.findIn K (.ref C_BadTakes) "__getattr__" = some none)
    (ehs_BadTakes : PySem.W.subIn K (.ref C_BadTakes) (.type "BaseException") = some true)
    (ehd_BadTakes : PySem.W.hasDictIn K C_BadTakes = true)
    (eha_BadTakes : PySem.W.findIn K (.ref C_BadTakes) "__class__" = some (some (.builtin "object.__class__")))
    (ehn_BadTakes : PySem.W.specialIn K (.builtin "object.__class__") "__get__" = some (some (.builtin "getset_descriptor.__get__")))
    (eht_BadTakes : PySem.W.takesIn K (.builtin "object.__class__") = some true)
    (ehm_BadTakes : PySem.W.mroIn K C_BadTakes (.type "object") = some true)
    (exm_BadTakes : PySem.W.exmOne K (.ref C_BadTakes) (.ref C_EndError) = some true)
    (kx_BadTakes_BadRow : PySem.W.kitOne K (.ref C_BadTakes) (.ref C_BadRow) = some false)
    (kx_BadTakes_BadTakes : PySem.W.kitOne K (.ref C_BadTakes) (.ref C_BadTakes) = some true)
    (kx_BadTakes_BadNumber : PySem.W.kitOne K (.ref C_BadTakes) (.ref C_BadNumber) = some false)
    (kx_BadTakes_Odd : PySem.W.kitOne K (.ref C_BadTakes) (.ref C_Odd) = some false)
    (kv_BadTakes : PySem.W.kitOne K (.ref C_BadTakes) (.type "ValueError") = some true)
    (ehg_BadNumber : PySem.W.findIn K (.ref C_BadNumber) "__getattribute__" = some (some (.builtin "BaseException.__getattribute__")))
    (ehk_BadNumber : PySem.W.findIn K (.ref C_BadNumber) "__getattr__" = some none)
    (ehs_BadNumber : PySem.W.subIn K (.ref C_BadNumber) (.type "BaseException") = some true)
    (ehd_BadNumber : PySem.W.hasDictIn K C_BadNumber = true)
    (eha_BadNumber : PySem.W.findIn K (.ref C_BadNumber) "__class__" = some (some (.builtin "object.__class__")))
    (ehn_BadNumber : PySem.W.specialIn K (.builtin "object.__class__") "__get__" = some (some (.builtin "getset_descriptor.__get__")))
    (eht_BadNumber : PySem.W.takesIn K (.builtin "object.__class__") = some true)
    (ehm_BadNumber : PySem.W.mroIn K C_BadNumber (.type "object") = some true)
    (exm_BadNumber : PySem.W.exmOne K (.ref C_BadNumber) (.ref C_EndError) = some true)
    (kx_BadNumber_BadRow : PySem.W.kitOne K (.ref C_BadNumber) (.ref C_BadRow) = some false)
    (kx_BadNumber_BadTakes : PySem.W.kitOne K (.ref C_BadNumber) (.ref C_BadTakes) = some false)
    (kx_BadNumber_BadNumber : PySem.W.kitOne K (.ref C_BadNumber) (.ref C_BadNumber) = some true)
    (kx_BadNumber_Odd : PySem.W.kitOne K (.ref C_BadNumber) (.ref C_Odd) = some false)
    (kv_BadNumber : PySem.W.kitOne K (.ref C_BadNumber) (.type "ValueError") = some true)
    (ehg_Odd : PySem.W.findIn K (.ref C_Odd) "__getattribute__" = some (some (.builtin "BaseException.__getattribute__")))
    (ehk_Odd : PySem.W.findIn K (.ref C_Odd) "__getattr__" = some none)
    (ehs_Odd : PySem.W.subIn K (.ref C_Odd) (.type "BaseException") = some true)
    (ehd_Odd : PySem.W.hasDictIn K C_Odd = true)
    (eha_Odd : PySem.W.findIn K (.ref C_Odd) "__class__" = some (some (.builtin "object.__class__")))
    (ehn_Odd : PySem.W.specialIn K (.builtin "object.__class__") "__get__" = some (some (.builtin "getset_descriptor.__get__")))
    (eht_Odd : PySem.W.takesIn K (.builtin "object.__class__") = some true)
    (ehm_Odd : PySem.W.mroIn K C_Odd (.type "object") = some true)
    (exm_Odd : PySem.W.exmOne K (.ref C_Odd) (.ref C_EndError) = some true)
    (kx_Odd_BadRow : PySem.W.kitOne K (.ref C_Odd) (.ref C_BadRow) = some false)
    (kx_Odd_BadTakes : PySem.W.kitOne K (.ref C_Odd) (.ref C_BadTakes) = some false)
    (kx_Odd_BadNumber : PySem.W.kitOne K (.ref C_Odd) (.ref C_BadNumber) = some false)
    (kx_Odd_Odd : PySem.W.kitOne K (.ref C_Odd) (.ref C_Odd) = some true)
    (kv_Odd : PySem.W.kitOne K (.ref C_Odd) (.type "ValueError") = some true)
    : ∃ fd : FuncData, (∀ (s : Shared) (v : Value), BindsTo s fd ⟨[v], []⟩ [("_law_script", v)]) ∧ ∀ base : Heap, K.In base → base.Ns mainGlobals mg → FnOk l.prog w K mg base CX0 31 fa fd ["_law_script"] (spLaw K) := by
  have e := hfa.symm.trans (PySem.W.mg_of X G a_law)
  have e2 : f_law = fa := by
    have e3 := Option.some.inj e
    injection e3 with e4
    exact e4.symm
  subst e2
  have F__wall := fun_mk (st := s__wall) l__wall c__wall k__wall
  have b__wall := F__wall.binds (ps := ["k"]) fun _ _ _ _ _ _ us hl => match us, hl with | [_], _ => rfl
  have F_is_whole := fun_mk (st := s_is_whole) l_is_whole c_is_whole k_is_whole
  have b_is_whole := F_is_whole.binds (ps := ["thing"]) fun _ _ _ _ _ _ us hl => match us, hl with | [_], _ => rfl
  have F_check_row := fun_mk (st := s_check_row) l_check_row c_check_row k_check_row
  have b_check_row := F_check_row.binds (ps := ["row"]) fun _ _ _ _ _ _ us hl => match us, hl with | [_], _ => rfl
  have F_is_side := fun_mk (st := s_is_side) l_is_side c_is_side k_is_side
  have b_is_side := F_is_side.binds (ps := ["thing"]) fun _ _ _ _ _ _ us hl => match us, hl with | [_], _ => rfl
  have F_worth_of := fun_mk (st := s_worth_of) l_worth_of c_worth_of k_worth_of
  have b_worth_of := F_worth_of.binds (ps := ["row", "low", "behind", "known"]) fun _ _ _ _ _ _ us hl => match us, hl with | [_, _, _, _], _ => rfl
  have F_after := fun_mk (st := s_after) l_after c_after k_after
  have b_after := F_after.binds (ps := ["row", "low", "behind", "side"]) fun _ _ _ _ _ _ us hl => match us, hl with | [_, _, _, _], _ => rfl
  have F_best_of := fun_mk (st := s_best_of) l_best_of c_best_of k_best_of
  have b_best_of := F_best_of.binds (ps := ["row", "low", "behind", "known"]) fun _ _ _ _ _ _ us hl => match us, hl with | [_, _, _, _], _ => rfl
  have F_worth := fun_mk (st := s_worth) l_worth c_worth k_worth
  have b_worth := F_worth.binds (ps := ["row"]) fun _ _ _ _ _ _ us hl => match us, hl with | [_], _ => rfl
  have F_best := fun_mk (st := s_best) l_best c_best k_best
  have b_best := F_best.binds (ps := ["row"]) fun _ _ _ _ _ _ us hl => match us, hl with | [_], _ => rfl
  have F_led := fun_mk (st := s_led) l_led c_led k_led
  have b_led := F_led.binds (ps := ["row", "takes"]) fun _ _ _ _ _ _ us hl => match us, hl with | [_, _], _ => rfl
  have F_greedy := fun_mk (st := s_greedy) l_greedy c_greedy k_greedy
  have b_greedy := F_greedy.binds (ps := ["row"]) fun _ _ _ _ _ _ us hl => match us, hl with | [_], _ => rfl
  have F_sure := fun_mk (st := s_sure) l_sure c_sure k_sure
  have b_sure := F_sure.binds (ps := ["row"]) fun _ _ _ _ _ _ us hl => match us, hl with | [_], _ => rfl
  have F_plan_of := fun_mk (st := s_plan_of) l_plan_of c_plan_of k_plan_of
  have b_plan_of := F_plan_of.binds (ps := ["row", "first"]) fun _ _ _ _ _ _ us hl => match us, hl with | [_, _], _ => rfl
  have F_judged := fun_mk (st := s_judged) l_judged c_judged k_judged
  have b_judged := F_judged.binds (ps := ["row", "least"]) fun _ _ _ _ _ _ us hl => match us, hl with | [_, _], _ => rfl
  have F_plays_of := fun_mk (st := s_plays_of) l_plays_of c_plays_of k_plays_of
  have b_plays_of := F_plays_of.binds (ps := ["row", "low", "behind", "known"]) fun _ _ _ _ _ _ us hl => match us, hl with | [_, _, _, _], _ => rfl
  have F_how_many := fun_mk (st := s_how_many) l_how_many c_how_many k_how_many
  have b_how_many := F_how_many.binds (ps := ["row"]) fun _ _ _ _ _ _ us hl => match us, hl with | [_], _ => rfl
  have F_play_by := fun_mk (st := s_play_by) l_play_by c_play_by k_play_by
  have b_play_by := F_play_by.binds (ps := ["row", "number"]) fun _ _ _ _ _ _ us hl => match us, hl with | [_, _], _ => rfl
  have F__law_alone := fun_mk (st := s__law_alone) l__law_alone c__law_alone k__law_alone
  have b__law_alone := F__law_alone.binds (ps := ["_law_error", "_law_due"]) fun _ _ _ _ _ _ us hl => match us, hl with | [_, _], _ => rfl
  have F__law_with_row := fun_mk (st := s__law_with_row) l__law_with_row c__law_with_row k__law_with_row
  have b__law_with_row := F__law_with_row.binds (ps := ["_law_door", "_law_thing"]) fun _ _ _ _ _ _ us hl => match us, hl with | [_, _], _ => rfl
  have F__law_no_rows := fun_mk (st := s__law_no_rows) l__law_no_rows c__law_no_rows k__law_no_rows
  have b__law_no_rows := F__law_no_rows.binds (ps := ["_law_cell"]) fun _ _ _ _ _ _ us hl => match us, hl with | [_], _ => rfl
  have F__law_with_takes := fun_mk (st := s__law_with_takes) l__law_with_takes c__law_with_takes k__law_with_takes
  have b__law_with_takes := F__law_with_takes.binds (ps := ["_law_door", "_law_thing"]) fun _ _ _ _ _ _ us hl => match us, hl with | [_, _], _ => rfl
  have F__law_no_takes := fun_mk (st := s__law_no_takes) l__law_no_takes c__law_no_takes k__law_no_takes
  have b__law_no_takes := F__law_no_takes.binds (ps := ["_law_cell"]) fun _ _ _ _ _ _ us hl => match us, hl with | [_], _ => rfl
  have F__law_with_number := fun_mk (st := s__law_with_number) l__law_with_number c__law_with_number k__law_with_number
  have b__law_with_number := F__law_with_number.binds (ps := ["_law_door", "_law_thing"]) fun _ _ _ _ _ _ us hl => match us, hl with | [_, _], _ => rfl
  have F__law_no_numbers := fun_mk (st := s__law_no_numbers) l__law_no_numbers c__law_no_numbers k__law_no_numbers
  have b__law_no_numbers := F__law_no_numbers.binds (ps := ["_law_cell"]) fun _ _ _ _ _ _ us hl => match us, hl with | [_], _ => rfl
  have F__law_with_play := fun_mk (st := s__law_with_play) l__law_with_play c__law_with_play k__law_with_play
  have b__law_with_play := F__law_with_play.binds (ps := ["_law_door", "_law_thing"]) fun _ _ _ _ _ _ us hl => match us, hl with | [_, _], _ => rfl
  have F__law_no_plays := fun_mk (st := s__law_no_plays) l__law_no_plays c__law_no_plays k__law_no_plays
  have b__law_no_plays := F__law_no_plays.binds (ps := ["_law_cell"]) fun _ _ _ _ _ _ us hl => match us, hl with | [_], _ => rfl
  have F__law_with_odd := fun_mk (st := s__law_with_odd) l__law_with_odd c__law_with_odd k__law_with_odd
  have b__law_with_odd := F__law_with_odd.binds (ps := ["_law_door", "_law_thing"]) fun _ _ _ _ _ _ us hl => match us, hl with | [_, _], _ => rfl
  have F__law_odd := fun_mk (st := s__law_odd) l__law_odd c__law_odd k__law_odd
  have b__law_odd := F__law_odd.binds (ps := ["_law_cell"]) fun _ _ _ _ _ _ us hl => match us, hl with | [_], _ => rfl
  have F__law_refused := fun_mk (st := s__law_refused) l__law_refused c__law_refused k__law_refused
  have b__law_refused := F__law_refused.binds (ps := ["_law_ask", "_law_door", "_law_thing", "_law_due"]) fun _ _ _ _ _ _ us hl => match us, hl with | [_, _, _, _], _ => rfl
  have F_law := fun_mk (st := s_law) l_law c_law k_law
  have b_law := F_law.binds (ps := ["_law_script"]) fun _ _ _ _ _ _ us hl => match us, hl with | [_], _ => rfl
  have F_Gets_init := fun_mk (st := s_Gets_init) l_Gets_init c_Gets_init k_Gets_init
  have b_Gets_init := F_Gets_init.binds (ps := ["self", "plan"]) fun _ _ _ _ _ _ us hl => match us, hl with | [_, _], _ => rfl
  have F_Gets_shows := fun_mk (st := s_Gets_shows) l_Gets_shows c_Gets_shows k_Gets_shows
  have b_Gets_shows := F_Gets_shows.binds (ps := ["self", "row", "least"]) fun _ _ _ _ _ _ us hl => match us, hl with | [_, _, _], _ => rfl
  have F_Held_init := fun_mk (st := s_Held_init) l_Held_init c_Held_init k_Held_init
  have b_Held_init := F_Held_init.binds (ps := ["self", "plan"]) fun _ _ _ _ _ _ us hl => match us, hl with | [_, _], _ => rfl
  have F_Held_shows := fun_mk (st := s_Held_shows) l_Held_shows c_Held_shows k_Held_shows
  have b_Held_shows := F_Held_shows.binds (ps := ["self", "row", "least"]) fun _ _ _ _ _ _ us hl => match us, hl with | [_, _, _], _ => rfl
  have T : Tx K mg { f__wall := f__wall, d__wall := _, f_is_whole := f_is_whole, d_is_whole := _, f_check_row := f_check_row, d_check_row := _, f_is_side := f_is_side, d_is_side := _, f_worth_of := f_worth_of, d_worth_of := _, f_after := f_after, d_after := _, f_best_of := f_best_of, d_best_of := _, f_worth := f_worth, d_worth := _, f_best := f_best, d_best := _, f_led := f_led, d_led := _, f_greedy := f_greedy, d_greedy := _, f_sure := f_sure, d_sure := _, f_plan_of := f_plan_of, d_plan_of := _, f_judged := f_judged, d_judged := _, f_plays_of := f_plays_of, d_plays_of := _, f_how_many := f_how_many, d_how_many := _, f_play_by := f_play_by, d_play_by := _, f__law_alone := f__law_alone, d__law_alone := _, f__law_with_row := f__law_with_row, d__law_with_row := _, f__law_no_rows := f__law_no_rows, d__law_no_rows := _, f__law_with_takes := f__law_with_takes, d__law_with_takes := _, f__law_no_takes := f__law_no_takes, d__law_no_takes := _, f__law_with_number := f__law_with_number, d__law_with_number := _, f__law_no_numbers := f__law_no_numbers, d__law_no_numbers := _, f__law_with_play := f__law_with_play, d__law_with_play := _, f__law_no_plays := f__law_no_plays, d__law_no_plays := _, f__law_with_odd := f__law_with_odd, d__law_with_odd := _, f__law_odd := f__law_odd, d__law_odd := _, f__law_refused := f__law_refused, d__law_refused := _, f_law := f_law, d_law := _, f_Gets_init := f_Gets_init, d_Gets_init := _, f_Gets_shows := f_Gets_shows, d_Gets_shows := _, f_Held_init := f_Held_init, d_Held_init := _, f_Held_shows := f_Held_shows, d_Held_shows := _, C_EndError := C_EndError, C_BadRow := C_BadRow, C_BadTakes := C_BadTakes, C_BadNumber := C_BadNumber, C_Odd := C_Odd, C_Answer := C_Answer, C_Gets := C_Gets, C_Held := C_Held, t_MOST := t_MOST, t_GREATEST := t_GREATEST, t_LEFT := t_LEFT, t_RIGHT := t_RIGHT } := {
    bValueError := PySem.W.mg_none_of X G z_ValueError,
    babs := PySem.W.mg_none_of X G z_abs,
    ball := PySem.W.mg_none_of X G z_all,
    bbool := PySem.W.mg_none_of X G z_bool,
    benumerate := PySem.W.mg_none_of X G z_enumerate,
    bint := PySem.W.mg_none_of X G z_int,
    bisinstance := PySem.W.mg_none_of X G z_isinstance,
    blen := PySem.W.mg_none_of X G z_len,
    blist := PySem.W.mg_none_of X G z_list,
    bmax := PySem.W.mg_none_of X G z_max,
    brange := PySem.W.mg_none_of X G z_range,
    bstr := PySem.W.mg_none_of X G z_str,
    bsum := PySem.W.mg_none_of X G z_sum,
    gMOST := PySem.W.mg_of X G q_MOST,
    gGREATEST := PySem.W.mg_of X G q_GREATEST,
    gLEFT := PySem.W.mg_of X G q_LEFT,
    gRIGHT := PySem.W.mg_of X G q_RIGHT,
    g_wall := PySem.W.mg_of X G a__wall, F_wall := F__wall, b_wall := b__wall,
    gis_whole := PySem.W.mg_of X G a_is_whole, Fis_whole := F_is_whole, bis_whole := b_is_whole,
    gcheck_row := PySem.W.mg_of X G a_check_row, Fcheck_row := F_check_row, bcheck_row := b_check_row,
    gis_side := PySem.W.mg_of X G a_is_side, Fis_side := F_is_side, bis_side := b_is_side,
    gworth_of := PySem.W.mg_of X G a_worth_of, Fworth_of := F_worth_of, bworth_of := b_worth_of,
    gafter := PySem.W.mg_of X G a_after, Fafter := F_after, bafter := b_after,
    gbest_of := PySem.W.mg_of X G a_best_of, Fbest_of := F_best_of, bbest_of := b_best_of,
    gworth := PySem.W.mg_of X G a_worth, Fworth := F_worth, bworth := b_worth,
    gbest := PySem.W.mg_of X G a_best, Fbest := F_best, bbest := b_best,
    gled := PySem.W.mg_of X G a_led, Fled := F_led, bled := b_led,
    ggreedy := PySem.W.mg_of X G a_greedy, Fgreedy := F_greedy, bgreedy := b_greedy,
    gsure := PySem.W.mg_of X G a_sure, Fsure := F_sure, bsure := b_sure,
    gplan_of := PySem.W.mg_of X G a_plan_of, Fplan_of := F_plan_of, bplan_of := b_plan_of,
    gjudged := PySem.W.mg_of X G a_judged, Fjudged := F_judged, bjudged := b_judged,
    gplays_of := PySem.W.mg_of X G a_plays_of, Fplays_of := F_plays_of, bplays_of := b_plays_of,
    ghow_many := PySem.W.mg_of X G a_how_many, Fhow_many := F_how_many, bhow_many := b_how_many,
    gplay_by := PySem.W.mg_of X G a_play_by, Fplay_by := F_play_by, bplay_by := b_play_by,
    g_law_alone := PySem.W.mg_of X G a__law_alone, F_law_alone := F__law_alone, b_law_alone := b__law_alone,
    g_law_with_row := PySem.W.mg_of X G a__law_with_row, F_law_with_row := F__law_with_row, b_law_with_row := b__law_with_row,
    g_law_no_rows := PySem.W.mg_of X G a__law_no_rows, F_law_no_rows := F__law_no_rows, b_law_no_rows := b__law_no_rows,
    g_law_with_takes := PySem.W.mg_of X G a__law_with_takes, F_law_with_takes := F__law_with_takes, b_law_with_takes := b__law_with_takes,
    g_law_no_takes := PySem.W.mg_of X G a__law_no_takes, F_law_no_takes := F__law_no_takes, b_law_no_takes := b__law_no_takes,
    g_law_with_number := PySem.W.mg_of X G a__law_with_number, F_law_with_number := F__law_with_number, b_law_with_number := b__law_with_number,
    g_law_no_numbers := PySem.W.mg_of X G a__law_no_numbers, F_law_no_numbers := F__law_no_numbers, b_law_no_numbers := b__law_no_numbers,
    g_law_with_play := PySem.W.mg_of X G a__law_with_play, F_law_with_play := F__law_with_play, b_law_with_play := b__law_with_play,
    g_law_no_plays := PySem.W.mg_of X G a__law_no_plays, F_law_no_plays := F__law_no_plays, b_law_no_plays := b__law_no_plays,
    g_law_with_odd := PySem.W.mg_of X G a__law_with_odd, F_law_with_odd := F__law_with_odd, b_law_with_odd := b__law_with_odd,
    g_law_odd := PySem.W.mg_of X G a__law_odd, F_law_odd := F__law_odd, b_law_odd := b__law_odd,
    g_law_refused := PySem.W.mg_of X G a__law_refused, F_law_refused := F__law_refused, b_law_refused := b__law_refused,
    glaw := PySem.W.mg_of X G a_law, Flaw := F_law, blaw := b_law,
    gEndError := PySem.W.mg_of X G n_EndError,
    kEndError := kc_EndError, xEndError := xc_EndError, BEndError := Bc_EndError, tEndError := tc_EndError,
    gBadRow := PySem.W.mg_of X G n_BadRow,
    kBadRow := kc_BadRow, xBadRow := xc_BadRow, BBadRow := Bc_BadRow, tBadRow := tc_BadRow,
    gBadTakes := PySem.W.mg_of X G n_BadTakes,
    kBadTakes := kc_BadTakes, xBadTakes := xc_BadTakes, BBadTakes := Bc_BadTakes, tBadTakes := tc_BadTakes,
    gBadNumber := PySem.W.mg_of X G n_BadNumber,
    kBadNumber := kc_BadNumber, xBadNumber := xc_BadNumber, BBadNumber := Bc_BadNumber, tBadNumber := tc_BadNumber,
    gOdd := PySem.W.mg_of X G n_Odd,
    kOdd := kc_Odd, xOdd := xc_Odd, BOdd := Bc_Odd, tOdd := tc_Odd,
    gAnswer := PySem.W.mg_of X G n_Answer,
    gGets := PySem.W.mg_of X G n_Gets,
    gHeld := PySem.W.mg_of X G n_Held,
    FGets_init := F_Gets_init, bGets_init := b_Gets_init,
    MGets := ⟨mkc_Gets, at_Gets_init, fn_Gets_init, kc_Gets⟩,
    FGets_shows := F_Gets_shows, bGets_shows := b_Gets_shows,
    mGets_shows := ⟨at_Gets_shows, fn_Gets_shows, k_Gets_shows⟩,
    FHeld_init := F_Held_init, bHeld_init := b_Held_init,
    MHeld := ⟨mkc_Held, at_Held_init, fn_Held_init, kc_Held⟩,
    FHeld_shows := F_Held_shows, bHeld_shows := b_Held_shows,
    mHeld_shows := ⟨at_Held_shows, fn_Held_shows, k_Held_shows⟩,
    clGets := ⟨pg_Gets, hd_Gets, po_Gets, sa_Gets⟩, npGets := np_Gets, tyGets := ⟨ha_Gets, hn_Gets, ht_Gets, hm_Gets⟩,
    kitGets_Answer := kit_Gets_Answer,
    kitGets_Gets := kit_Gets_Gets,
    kitGets_Held := kit_Gets_Held,
    clHeld := ⟨pg_Held, hd_Held, po_Held, sa_Held⟩, npHeld := np_Held, tyHeld := ⟨ha_Held, hn_Held, ht_Held, hm_Held⟩,
    kitHeld_Answer := kit_Held_Answer,
    kitHeld_Gets := kit_Held_Gets,
    kitHeld_Held := kit_Held_Held,
    ecBadRow := ⟨ehg_BadRow, ehk_BadRow, ehs_BadRow, ehd_BadRow, eha_BadRow, ehn_BadRow, eht_BadRow, ehm_BadRow⟩, exBadRow := exm_BadRow,
    keBadRow_BadRow := kx_BadRow_BadRow,
    keBadRow_BadTakes := kx_BadRow_BadTakes,
    keBadRow_BadNumber := kx_BadRow_BadNumber,
    keBadRow_Odd := kx_BadRow_Odd,
    kvBadRow := kv_BadRow,
    ecBadTakes := ⟨ehg_BadTakes, ehk_BadTakes, ehs_BadTakes, ehd_BadTakes, eha_BadTakes, ehn_BadTakes, eht_BadTakes, ehm_BadTakes⟩, exBadTakes := exm_BadTakes,
    keBadTakes_BadRow := kx_BadTakes_BadRow,
    keBadTakes_BadTakes := kx_BadTakes_BadTakes,
    keBadTakes_BadNumber := kx_BadTakes_BadNumber,
    keBadTakes_Odd := kx_BadTakes_Odd,
    kvBadTakes := kv_BadTakes,
    ecBadNumber := ⟨ehg_BadNumber, ehk_BadNumber, ehs_BadNumber, ehd_BadNumber, eha_BadNumber, ehn_BadNumber, eht_BadNumber, ehm_BadNumber⟩, exBadNumber := exm_BadNumber,
    keBadNumber_BadRow := kx_BadNumber_BadRow,
    keBadNumber_BadTakes := kx_BadNumber_BadTakes,
    keBadNumber_BadNumber := kx_BadNumber_BadNumber,
    keBadNumber_Odd := kx_BadNumber_Odd,
    kvBadNumber := kv_BadNumber,
    ecOdd := ⟨ehg_Odd, ehk_Odd, ehs_Odd, ehd_Odd, eha_Odd, ehn_Odd, eht_Odd, ehm_Odd⟩, exOdd := exm_Odd,
    keOdd_BadRow := kx_Odd_BadRow,
    keOdd_BadTakes := kx_Odd_BadTakes,
    keOdd_BadNumber := kx_Odd_BadNumber,
    keOdd_Odd := kx_Odd_Odd,
    kvOdd := kv_Odd }
  exact ⟨_, fun s v => .of_eq rfl, fun base _ _ => ok_law T⟩
theorem bits_of {ns : List Int} (h : ∀ z ∈ ns, Builtin.Int.intBits z ≤ 1048576) : ∀ z ∈ ns, z.natAbs < 2 ^ 1048576 := fun z hz => lt_of_bits (h z hz)
end K05
open PySem PySem.W PyProof.Rows
set_option maxRecDepth 100000 in
set_option maxHeartbeats 0 in
theorem PySem.Challenge.cw_rowends_k05_refused_holds : PySem.Challenge.rw_rowends_k05_refused.Holds := by
  w_on; o_law; k_head; (case hw => w_witness2)
  k_fill
  refine L2.walk_ofB (l := PySem.Challenge.rw_rowends_k05_refused) (n := 63) (k := 31) (x := "_law_script") (CX := fun _ => L2.CX0) (sp := fun w => RE.spLaw _) rfl (by decide) rfl ⟨rfl, by decide, by decide⟩ (fun w h Y => PySem.W.kIn_of Y) ?F (fun _ _ a ns hl hb _ hS => ⟨a, ns, rfl, hS, hl, K05.bits_of hb, fun _ => rfl⟩) (fun _ _ _ _ _ h => h)
  case F =>
    intro w mg fa h KX G hmg
    refine' K05.all_mk KX G hmg ?n_EndError ?n_BadRow ?n_BadTakes ?n_BadNumber ?n_Odd ?n_Answer ?n_Gets ?n_Held ?at_Gets_init ?at_Gets_shows ?at_Held_init ?at_Held_shows ?a__wall ?l__wall ?c__wall ?k__wall ?a_is_whole ?l_is_whole ?c_is_whole ?k_is_whole ?a_check_row ?l_check_row ?c_check_row ?k_check_row ?a_is_side ?l_is_side ?c_is_side ?k_is_side ?a_worth_of ?l_worth_of ?c_worth_of ?k_worth_of ?a_after ?l_after ?c_after ?k_after ?a_best_of ?l_best_of ?c_best_of ?k_best_of ?a_worth ?l_worth ?c_worth ?k_worth ?a_best ?l_best ?c_best ?k_best ?a_led ?l_led ?c_led ?k_led ?a_greedy ?l_greedy ?c_greedy ?k_greedy ?a_sure ?l_sure ?c_sure ?k_sure ?a_plan_of ?l_plan_of ?c_plan_of ?k_plan_of ?a_judged ?l_judged ?c_judged ?k_judged ?a_plays_of ?l_plays_of ?c_plays_of ?k_plays_of ?a_how_many ?l_how_many ?c_how_many ?k_how_many ?a_play_by ?l_play_by ?c_play_by ?k_play_by ?a__law_alone ?l__law_alone ?c__law_alone ?k__law_alone ?a__law_with_row ?l__law_with_row ?c__law_with_row ?k__law_with_row ?a__law_no_rows ?l__law_no_rows ?c__law_no_rows ?k__law_no_rows ?a__law_with_takes ?l__law_with_takes ?c__law_with_takes ?k__law_with_takes ?a__law_no_takes ?l__law_no_takes ?c__law_no_takes ?k__law_no_takes ?a__law_with_number ?l__law_with_number ?c__law_with_number ?k__law_with_number ?a__law_no_numbers ?l__law_no_numbers ?c__law_no_numbers ?k__law_no_numbers ?a__law_with_play ?l__law_with_play ?c__law_with_play ?k__law_with_play ?a__law_no_plays ?l__law_no_plays ?c__law_no_plays ?k__law_no_plays ?a__law_with_odd ?l__law_with_odd ?c__law_with_odd ?k__law_with_odd ?a__law_odd ?l__law_odd ?c__law_odd ?k__law_odd ?a__law_refused ?l__law_refused ?c__law_refused ?k__law_refused ?a_law ?l_law ?c_law ?k_law ?l_Gets_init ?c_Gets_init ?k_Gets_init ?l_Gets_shows ?c_Gets_shows ?k_Gets_shows ?l_Held_init ?c_Held_init ?k_Held_init ?l_Held_shows ?c_Held_shows ?k_Held_shows ?q_MOST ?q_GREATEST ?q_LEFT ?q_RIGHT ?z_ValueError ?z_abs ?z_all ?z_bool ?z_enumerate ?z_int ?z_isinstance ?z_len ?z_list ?z_max ?z_range ?z_str ?z_sum ?kc_EndError ?xc_EndError ?Bc_EndError ?tc_EndError ?kc_BadRow ?xc_BadRow ?Bc_BadRow ?tc_BadRow ?kc_BadTakes ?xc_BadTakes ?Bc_BadTakes ?tc_BadTakes ?kc_BadNumber ?xc_BadNumber ?Bc_BadNumber ?tc_BadNumber ?kc_Odd ?xc_Odd ?Bc_Odd ?tc_Odd ?pg_Gets ?hd_Gets ?po_Gets ?sa_Gets ?mkc_Gets ?kc_Gets ?np_Gets ?ha_Gets ?hm_Gets ?hn_Gets ?ht_Gets ?kit_Gets_Answer ?kit_Gets_Gets ?kit_Gets_Held ?fn_Gets_init ?fn_Gets_shows ?pg_Held ?hd_Held ?po_Held ?sa_Held ?mkc_Held ?kc_Held ?np_Held ?ha_Held ?hm_Held ?hn_Held ?ht_Held ?kit_Held_Answer ?kit_Held_Gets ?kit_Held_Held ?fn_Held_init ?fn_Held_shows ?ehg_BadRow ?ehk_BadRow ?ehs_BadRow ?ehd_BadRow ?eha_BadRow ?ehn_BadRow ?eht_BadRow ?ehm_BadRow ?exm_BadRow ?kx_BadRow_BadRow ?kx_BadRow_BadTakes ?kx_BadRow_BadNumber ?kx_BadRow_Odd ?kv_BadRow ?ehg_BadTakes ?ehk_BadTakes ?ehs_BadTakes ?ehd_BadTakes ?eha_BadTakes ?ehn_BadTakes ?eht_BadTakes ?ehm_BadTakes ?exm_BadTakes ?kx_BadTakes_BadRow ?kx_BadTakes_BadTakes ?kx_BadTakes_BadNumber ?kx_BadTakes_Odd ?kv_BadTakes ?ehg_BadNumber ?ehk_BadNumber ?ehs_BadNumber ?ehd_BadNumber ?eha_BadNumber ?ehn_BadNumber ?eht_BadNumber ?ehm_BadNumber ?exm_BadNumber ?kx_BadNumber_BadRow ?kx_BadNumber_BadTakes ?kx_BadNumber_BadNumber ?kx_BadNumber_Odd ?kv_BadNumber ?ehg_Odd ?ehk_Odd ?ehs_Odd ?ehd_Odd ?eha_Odd ?ehn_Odd ?eht_Odd ?ehm_Odd ?exm_Odd ?kx_Odd_BadRow ?kx_Odd_BadTakes ?kx_Odd_BadNumber ?kx_Odd_Odd ?kv_Odd
    (case n_EndError => first | k_is | rfl)
    (case n_BadRow => first | k_is | rfl)
    (case n_BadTakes => first | k_is | rfl)
    (case n_BadNumber => first | k_is | rfl)
    (case n_Odd => first | k_is | rfl)
    (case n_Answer => first | k_is | rfl)
    (case n_Gets => first | k_is | rfl)
    (case n_Held => first | k_is | rfl)
    (case at_Gets_init => first | k_is | rfl)
    (case at_Gets_shows => first | k_is | rfl)
    (case at_Held_init => first | k_is | rfl)
    (case at_Held_shows => first | k_is | rfl)
    (case a__wall => first | k_is | rfl)
    (case l__wall => first | k_is | rfl)
    (case c__wall => first | k_is | rfl)
    (case k__wall => first | k_is | rfl)
    (case a_is_whole => first | k_is | rfl)
    (case l_is_whole => first | k_is | rfl)
    (case c_is_whole => first | k_is | rfl)
    (case k_is_whole => first | k_is | rfl)
    (case a_check_row => first | k_is | rfl)
    (case l_check_row => first | k_is | rfl)
    (case c_check_row => first | k_is | rfl)
    (case k_check_row => first | k_is | rfl)
    (case a_is_side => first | k_is | rfl)
    (case l_is_side => first | k_is | rfl)
    (case c_is_side => first | k_is | rfl)
    (case k_is_side => first | k_is | rfl)
    (case a_worth_of => first | k_is | rfl)
    (case l_worth_of => first | k_is | rfl)
    (case c_worth_of => first | k_is | rfl)
    (case k_worth_of => first | k_is | rfl)
    (case a_after => first | k_is | rfl)
    (case l_after => first | k_is | rfl)
    (case c_after => first | k_is | rfl)
    (case k_after => first | k_is | rfl)
    (case a_best_of => first | k_is | rfl)
    (case l_best_of => first | k_is | rfl)
    (case c_best_of => first | k_is | rfl)
    (case k_best_of => first | k_is | rfl)
    (case a_worth => first | k_is | rfl)
    (case l_worth => first | k_is | rfl)
    (case c_worth => first | k_is | rfl)
    (case k_worth => first | k_is | rfl)
    (case a_best => first | k_is | rfl)
    (case l_best => first | k_is | rfl)
    (case c_best => first | k_is | rfl)
    (case k_best => first | k_is | rfl)
    (case a_led => first | k_is | rfl)
    (case l_led => first | k_is | rfl)
    (case c_led => first | k_is | rfl)
    (case k_led => first | k_is | rfl)
    (case a_greedy => first | k_is | rfl)
    (case l_greedy => first | k_is | rfl)
    (case c_greedy => first | k_is | rfl)
    (case k_greedy => first | k_is | rfl)
    (case a_sure => first | k_is | rfl)
    (case l_sure => first | k_is | rfl)
    (case c_sure => first | k_is | rfl)
    (case k_sure => first | k_is | rfl)
    (case a_plan_of => first | k_is | rfl)
    (case l_plan_of => first | k_is | rfl)
    (case c_plan_of => first | k_is | rfl)
    (case k_plan_of => first | k_is | rfl)
    (case a_judged => first | k_is | rfl)
    (case l_judged => first | k_is | rfl)
    (case c_judged => first | k_is | rfl)
    (case k_judged => first | k_is | rfl)
    (case a_plays_of => first | k_is | rfl)
    (case l_plays_of => first | k_is | rfl)
    (case c_plays_of => first | k_is | rfl)
    (case k_plays_of => first | k_is | rfl)
    (case a_how_many => first | k_is | rfl)
    (case l_how_many => first | k_is | rfl)
    (case c_how_many => first | k_is | rfl)
    (case k_how_many => first | k_is | rfl)
    (case a_play_by => first | k_is | rfl)
    (case l_play_by => first | k_is | rfl)
    (case c_play_by => first | k_is | rfl)
    (case k_play_by => first | k_is | rfl)
    (case a__law_alone => first | k_is | rfl)
    (case l__law_alone => first | k_is | rfl)
    (case c__law_alone => first | k_is | rfl)
    (case k__law_alone => first | k_is | rfl)
    (case a__law_with_row => first | k_is | rfl)
    (case l__law_with_row => first | k_is | rfl)
    (case c__law_with_row => first | k_is | rfl)
    (case k__law_with_row => first | k_is | rfl)
    (case a__law_no_rows => first | k_is | rfl)
    (case l__law_no_rows => first | k_is | rfl)
    (case c__law_no_rows => first | k_is | rfl)
    (case k__law_no_rows => first | k_is | rfl)
    (case a__law_with_takes => first | k_is | rfl)
    (case l__law_with_takes => first | k_is | rfl)
    (case c__law_with_takes => first | k_is | rfl)
    (case k__law_with_takes => first | k_is | rfl)
    (case a__law_no_takes => first | k_is | rfl)
    (case l__law_no_takes => first | k_is | rfl)
    (case c__law_no_takes => first | k_is | rfl)
    (case k__law_no_takes => first | k_is | rfl)
    (case a__law_with_number => first | k_is | rfl)
    (case l__law_with_number => first | k_is | rfl)
    (case c__law_with_number => first | k_is | rfl)
    (case k__law_with_number => first | k_is | rfl)
    (case a__law_no_numbers => first | k_is | rfl)
    (case l__law_no_numbers => first | k_is | rfl)
    (case c__law_no_numbers => first | k_is | rfl)
    (case k__law_no_numbers => first | k_is | rfl)
    (case a__law_with_play => first | k_is | rfl)
    (case l__law_with_play => first | k_is | rfl)
    (case c__law_with_play => first | k_is | rfl)
    (case k__law_with_play => first | k_is | rfl)
    (case a__law_no_plays => first | k_is | rfl)
    (case l__law_no_plays => first | k_is | rfl)
    (case c__law_no_plays => first | k_is | rfl)
    (case k__law_no_plays => first | k_is | rfl)
    (case a__law_with_odd => first | k_is | rfl)
    (case l__law_with_odd => first | k_is | rfl)
    (case c__law_with_odd => first | k_is | rfl)
    (case k__law_with_odd => first | k_is | rfl)
    (case a__law_odd => first | k_is | rfl)
    (case l__law_odd => first | k_is | rfl)
    (case c__law_odd => first | k_is | rfl)
    (case k__law_odd => first | k_is | rfl)
    (case a__law_refused => first | k_is | rfl)
    (case l__law_refused => first | k_is | rfl)
    (case c__law_refused => first | k_is | rfl)
    (case k__law_refused => first | k_is | rfl)
    (case a_law => first | k_is | rfl)
    (case l_law => first | k_is | rfl)
    (case c_law => first | k_is | rfl)
    (case k_law => first | k_is | rfl)
    (case l_Gets_init => first | k_is | rfl)
    (case c_Gets_init => first | k_is | rfl)
    (case k_Gets_init => first | k_is | rfl)
    (case l_Gets_shows => first | k_is | rfl)
    (case c_Gets_shows => first | k_is | rfl)
    (case k_Gets_shows => first | k_is | rfl)
    (case l_Held_init => first | k_is | rfl)
    (case c_Held_init => first | k_is | rfl)
    (case k_Held_init => first | k_is | rfl)
    (case l_Held_shows => first | k_is | rfl)
    (case c_Held_shows => first | k_is | rfl)
    (case k_Held_shows => first | k_is | rfl)
    (case q_MOST => first | k_is | rfl)
    (case q_GREATEST => first | k_is | rfl)
    (case q_LEFT => first | k_is | rfl)
    (case q_RIGHT => first | k_is | rfl)
    (case z_ValueError => first | k_is | rfl)
    (case z_abs => first | k_is | rfl)
    (case z_all => first | k_is | rfl)
    (case z_bool => first | k_is | rfl)
    (case z_enumerate => first | k_is | rfl)
    (case z_int => first | k_is | rfl)
    (case z_isinstance => first | k_is | rfl)
    (case z_len => first | k_is | rfl)
    (case z_list => first | k_is | rfl)
    (case z_max => first | k_is | rfl)
    (case z_range => first | k_is | rfl)
    (case z_str => first | k_is | rfl)
    (case z_sum => first | k_is | rfl)
    (case kc_EndError => first | k_is | rfl)
    (case xc_EndError => k_exc)
    (case Bc_EndError => first | k_is | rfl)
    (case tc_EndError => first | k_is | rfl)
    (case kc_BadRow => first | k_is | rfl)
    (case xc_BadRow => k_exc)
    (case Bc_BadRow => first | k_is | rfl)
    (case tc_BadRow => first | k_is | rfl)
    (case kc_BadTakes => first | k_is | rfl)
    (case xc_BadTakes => k_exc)
    (case Bc_BadTakes => first | k_is | rfl)
    (case tc_BadTakes => first | k_is | rfl)
    (case kc_BadNumber => first | k_is | rfl)
    (case xc_BadNumber => k_exc)
    (case Bc_BadNumber => first | k_is | rfl)
    (case tc_BadNumber => first | k_is | rfl)
    (case kc_Odd => first | k_is | rfl)
    (case xc_Odd => k_exc)
    (case Bc_Odd => first | k_is | rfl)
    (case tc_Odd => first | k_is | rfl)
    (case pg_Gets => first | k_is | rfl)
    (case hd_Gets => first | k_is | rfl)
    (case po_Gets => first | k_is | rfl)
    (case sa_Gets => first | k_is | rfl)
    (case mkc_Gets => first | k_is | rfl)
    (case kc_Gets => first | k_is | rfl)
    (case np_Gets => first | k_is | rfl)
    (case ha_Gets => first | k_is | rfl)
    (case hm_Gets => first | k_is | rfl)
    (case hn_Gets => first | k_is | rfl)
    (case ht_Gets => first | k_is | rfl)
    (case kit_Gets_Answer => first | k_is | rfl)
    (case kit_Gets_Gets => first | k_is | rfl)
    (case kit_Gets_Held => first | k_is | rfl)
    (case fn_Gets_init => first | k_is | rfl)
    (case fn_Gets_shows => first | k_is | rfl)
    (case pg_Held => first | k_is | rfl)
    (case hd_Held => first | k_is | rfl)
    (case po_Held => first | k_is | rfl)
    (case sa_Held => first | k_is | rfl)
    (case mkc_Held => first | k_is | rfl)
    (case kc_Held => first | k_is | rfl)
    (case np_Held => first | k_is | rfl)
    (case ha_Held => first | k_is | rfl)
    (case hm_Held => first | k_is | rfl)
    (case hn_Held => first | k_is | rfl)
    (case ht_Held => first | k_is | rfl)
    (case kit_Held_Answer => first | k_is | rfl)
    (case kit_Held_Gets => first | k_is | rfl)
    (case kit_Held_Held => first | k_is | rfl)
    (case fn_Held_init => first | k_is | rfl)
    (case fn_Held_shows => first | k_is | rfl)
    (case ehg_BadRow => first | k_is | rfl)
    (case ehk_BadRow => first | k_is | rfl)
    (case ehs_BadRow => first | k_is | rfl)
    (case ehd_BadRow => first | k_is | rfl)
    (case eha_BadRow => first | k_is | rfl)
    (case ehn_BadRow => first | k_is | rfl)
    (case eht_BadRow => first | k_is | rfl)
    (case ehm_BadRow => first | k_is | rfl)
    (case exm_BadRow => first | k_is | rfl)
    (case kx_BadRow_BadRow => first | k_is | rfl)
    (case kx_BadRow_BadTakes => first | k_is | rfl)
    (case kx_BadRow_BadNumber => first | k_is | rfl)
    (case kx_BadRow_Odd => first | k_is | rfl)
    (case kv_BadRow => first | k_is | rfl)
    (case ehg_BadTakes => first | k_is | rfl)
    (case ehk_BadTakes => first | k_is | rfl)
    (case ehs_BadTakes => first | k_is | rfl)
    (case ehd_BadTakes => first | k_is | rfl)
    (case eha_BadTakes => first | k_is | rfl)
    (case ehn_BadTakes => first | k_is | rfl)
    (case eht_BadTakes => first | k_is | rfl)
    (case ehm_BadTakes => first | k_is | rfl)
    (case exm_BadTakes => first | k_is | rfl)
    (case kx_BadTakes_BadRow => first | k_is | rfl)
    (case kx_BadTakes_BadTakes => first | k_is | rfl)
    (case kx_BadTakes_BadNumber => first | k_is | rfl)
    (case kx_BadTakes_Odd => first | k_is | rfl)
    (case kv_BadTakes => first | k_is | rfl)
    (case ehg_BadNumber => first | k_is | rfl)
    (case ehk_BadNumber => first | k_is | rfl)
    (case ehs_BadNumber => first | k_is | rfl)
    (case ehd_BadNumber => first | k_is | rfl)
    (case eha_BadNumber => first | k_is | rfl)
    (case ehn_BadNumber => first | k_is | rfl)
    (case eht_BadNumber => first | k_is | rfl)
    (case ehm_BadNumber => first | k_is | rfl)
    (case exm_BadNumber => first | k_is | rfl)
    (case kx_BadNumber_BadRow => first | k_is | rfl)
    (case kx_BadNumber_BadTakes => first | k_is | rfl)
    (case kx_BadNumber_BadNumber => first | k_is | rfl)
    (case kx_BadNumber_Odd => first | k_is | rfl)
    (case kv_BadNumber => first | k_is | rfl)
    (case ehg_Odd => first | k_is | rfl)
    (case ehk_Odd => first | k_is | rfl)
    (case ehs_Odd => first | k_is | rfl)
    (case ehd_Odd => first | k_is | rfl)
    (case eha_Odd => first | k_is | rfl)
    (case ehn_Odd => first | k_is | rfl)
    (case eht_Odd => first | k_is | rfl)
    (case ehm_Odd => first | k_is | rfl)
    (case exm_Odd => first | k_is | rfl)
    (case kx_Odd_BadRow => first | k_is | rfl)
    (case kx_Odd_BadTakes => first | k_is | rfl)
    (case kx_Odd_BadNumber => first | k_is | rfl)
    (case kx_Odd_Odd => first | k_is | rfl)
    (case kv_Odd => first | k_is | rfl)
