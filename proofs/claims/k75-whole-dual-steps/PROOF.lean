import PyProof.Rows.All
import Wide.All
import OpenK.AllK
import Wide.FinOn
import HandS.ForMost
import HandS.IsInst
import KE.DatumOrd
import PySem.Challenge.RW_latticepoints_k75_whole_dual_steps
set_option Elab.async false
set_option linter.all false
set_option maxRecDepth 100000
set_option maxHeartbeats 8000000
/-! Steps of n / m by rounding up: the plain laws. -/
namespace K75

/-- l are the steps of n / m (rounded up), m and n without a common divisor -/
inductive HJ : Int → Int → List Int → Prop
  | nil : HJ 1 0 []
  | cons {n m c : Int} {l : List Int} (h1 : 0 < m) (h2 : 0 ≤ c * m - n) (h3 : c * m - n < m) (t : HJ m (c * m - n) l) : HJ n m (c :: l)

theorem HJ.inv {n m : Int} {l : List Int} (h : HJ n m l) (hm : 0 < m) : ∃ c t, l = c :: t ∧ 0 ≤ c * m - n ∧ c * m - n < m ∧ HJ m (c * m - n) t := by
  cases h with
  | nil => omega
  | cons h1 h2 h3 t => exact ⟨_, _, rfl, h2, h3, t⟩
theorem HJ.inv0 {n : Int} {l : List Int} (h : HJ n 0 l) : n = 1 ∧ l = [] := by
  cases h with
  | nil => exact ⟨rfl, rfl⟩
  | cons h1 h2 h3 t => exact absurd h1 (by decide)

/-- the rounded quotient is above one where n is greater than m -/
theorem two_le {n m c : Int} (hm : 0 < m) (h : m < n) (h2 : 0 ≤ c * m - n) : 2 ≤ c := by
  by_cases hc : c ≤ 1
  · have := Int.mul_le_mul_of_nonneg_right hc (Int.le_of_lt hm)
    omega
  · omega
theorem HJ.ge2 {n m : Int} {l : List Int} (h : HJ n m l) (hmn : m < n) : ∀ x ∈ l, 2 ≤ x := by
  induction h with
  | nil => intro x hx; cases hx
  | cons h1 h2 h3 t ih =>
    intro x hx
    rcases List.mem_cons.mp hx with rfl | hx
    · exact two_le h1 hmn h2
    · exact ih h3 x hx

/-- the sum of all numbers less one -/
def low (l : List Int) : Int := (l.map (· - 1)).sum
theorem low_cons (c : Int) (l : List Int) : low (c :: l) = c - 1 + low l := by
  simp [low]

theorem dual_step {n m : Int} {A B : List Int} (hm : 0 < m) (h2 : 2 * m < n) (a : HJ n m A) (b : HJ n (n - m) B) :
    ∃ c T U, A = c :: T ∧ B = 2 :: U ∧ HJ (n - m) m ((c - 1) :: T) ∧ HJ (n - m) (n - m - m) U := by
  obtain ⟨c, T, rfl, c1, c2, tT⟩ := a.inv hm
  obtain ⟨d, U, rfl, d1, d2, tU⟩ := b.inv (by omega)
  have hd2 : 2 ≤ d := two_le (by omega) (by omega) d1
  have hd3 : d ≤ 2 := by
    by_cases hc : 3 ≤ d
    · have := Int.mul_le_mul_of_nonneg_right hc (show 0 ≤ n - m by omega)
      omega
    · omega
  have ed : d = 2 := by omega
  subst ed
  have e1 : (c - 1) * m - (n - m) = c * m - n := by grind
  have e2 : (2 : Int) * (n - m) - n = n - m - m := by omega
  rw [e2] at tU
  exact ⟨c, T, U, rfl, rfl, .cons hm (by rw [e1]; exact c1) (by rw [e1]; exact c2) (by rw [e1]; exact tT), tU⟩

theorem dual : ∀ (k : Nat) {n m : Int} {A B : List Int}, n.toNat ≤ k → 0 < m → m < n → HJ n m A → HJ n (n - m) B →
    low A = (A.length : Int) + B.length - 1 ∧ low B = (A.length : Int) + B.length - 1
  | 0, n, m, A, B, hk, hm, hn, a, b => by omega
  | k + 1, n, m, A, B, hk, hm, hn, a, b => by
    have main : ∀ {m : Int} {A B : List Int}, 0 < m → 2 * m < n → HJ n m A → HJ n (n - m) B → low A = (A.length : Int) + B.length - 1 ∧ low B = (A.length : Int) + B.length - 1 := by
      intro m A B hm h2 a b
      obtain ⟨c, T, U, rfl, rfl, a', b'⟩ := dual_step hm h2 a b
      obtain ⟨i1, i2⟩ := dual k (n := n - m) (m := m) (by omega) hm (by omega) a' b'
      rw [low_cons] at i1
      rw [low_cons, low_cons]
      simp only [List.length_cons] at i1 i2 ⊢
      omega
    rcases Int.lt_trichotomy (2 * m) n with h | h | h
    · exact main hm h a b
    · obtain ⟨c, T, rfl, c1, c2, tT⟩ := a.inv hm
      obtain ⟨d, U, rfl, d1, d2, tU⟩ := b.inv (by omega)
      have em : n - m = m := by omega
      rw [em] at d1 d2 tU
      have hc : c = 2 := by
        have h1 := two_le hm hn c1
        by_cases h3 : 3 ≤ c
        · have := Int.mul_le_mul_of_nonneg_right h3 (Int.le_of_lt hm)
          omega
        · omega
      have hd : d = 2 := by
        have h1 := two_le hm hn d1
        by_cases h3 : 3 ≤ d
        · have := Int.mul_le_mul_of_nonneg_right h3 (Int.le_of_lt hm)
          omega
        · omega
      subst hc hd
      have e0 : 2 * m - n = 0 := by omega
      rw [e0] at tT tU
      obtain ⟨_, rfl⟩ := tT.inv0
      obtain ⟨_, rfl⟩ := tU.inv0
      decide
    · have a' : HJ n (n - (n - m)) A := by
        have e : n - (n - m) = m := by omega
        rw [e]
        exact a
      obtain ⟨i1, i2⟩ := main (m := n - m) (by omega) (by omega) b a'
      constructor <;> omega

/-! ### turned steps -/
/-- one turn of the way back -/
def back (s : Int × Int) (a : Int) : Int × Int := (a * s.1 - s.2, s.1)
/-- the fraction of steps that stand the other way round -/
def whole (l : List Int) : Int × Int := l.foldl back (1, 0)

theorem back_end {r s : Int} {l : List Int} (h : HJ r s l) : ∀ {t b n m : Int}, t * r - b * s = n → n ∣ b * m - r → n ∣ t * m - s → ∃ b', l.foldl back (t, b) = (n, b') ∧ n ∣ b' * m - 1 := by
  induction h with
  | nil =>
    intro t b n m e d1 d2
    refine ⟨b, ?_, d1⟩
    have : t = n := by omega
    rw [this]
    rfl
  | @cons r s c l h1 h2 h3 t ih =>
    intro t b n m e d1 d2
    refine ih (t := c * t - b) (b := t) (n := n) (m := m) ?_ d2 ?_
    · rw [← e]; grind
    · have e2 : (c * t - b) * m - (c * s - r) = c * (t * m - s) - (b * m - r) := by grind
      rw [e2]
      exact Int.dvd_sub (Int.dvd_mul_of_dvd_right d2) d1
theorem whole_of {n m : Int} {l : List Int} (h : HJ n m l) : ∃ b, whole l = (n, b) ∧ n ∣ b * m - 1 :=
  back_end h (t := 1) (b := 0) (by omega) (by
    have : (0 : Int) * m - n = n * (-1) := by omega
    rw [this]
    exact Int.dvd_mul_right _ _) (by
    have : (1 : Int) * m - m = 0 := by omega
    rw [this]
    exact Int.dvd_zero _)

/-! ### no common divisor -/
def Cop (n m : Int) : Prop := ∀ d : Int, d ∣ n → d ∣ m → d ∣ 1
theorem cop_of {n m : Int} (h : Int.gcd n m = 1) : Cop n m := fun d h1 h2 => by
  have := Int.dvd_coe_gcd h1 h2
  rw [h] at this
  exact this
theorem Cop.gcd {n m : Int} (h : Cop n m) : Int.gcd n m = 1 := by
  have h1 := h _ (Int.gcd_dvd_left n m) (Int.gcd_dvd_right n m)
  have h2 : (Int.gcd n m : Int) = 1 := Int.eq_one_of_dvd_one (Int.natCast_nonneg _) h1
  omega
theorem Cop.turn {n m : Int} (h : Cop n m) (c : Int) : Cop m (c * m - n) := fun d h1 h2 => by
  refine h d ?_ h1
  have e : n = c * m - (c * m - n) := by omega
  rw [e]
  exact Int.dvd_sub (Int.dvd_mul_of_dvd_right h1) h2
theorem Cop.one {n : Int} (h : Cop n 0) (hn : 0 < n) : n = 1 := Int.eq_one_of_dvd_one (Int.le_of_lt hn) (h n (Int.dvd_refl n) (Int.dvd_zero n))
theorem Cop.symm {n m : Int} (h : Cop n m) : Cop m n := fun d h1 h2 => h d h2 h1
theorem Cop.other {n m : Int} (h : Cop n m) : Cop n (n - m) := fun d h1 h2 => by
  refine h d h1 ?_
  have e : m = n - (n - m) := by omega
  rw [e]
  exact Int.dvd_sub h1 h2

/-- the way back stays without a common divisor, the upper greater than the lower -/
structure Fine (s : Int × Int) : Prop where
  lo : 0 < s.2
  lt : s.2 < s.1
  cop : Int.gcd s.1 s.2 = 1
theorem Fine.back {s : Int × Int} {a : Int} (h : Fine s) (ha : 2 ≤ a) : Fine (back s a) := by
  obtain ⟨t, b⟩ := s
  have h0 : 0 < b := h.lo
  have h1 : b < t := h.lt
  have hc : Int.gcd t b = 1 := h.cop
  refine ⟨?_, ?_, ?_⟩
  · show 0 < t
    omega
  · show t < a * t - b
    have := Int.mul_le_mul_of_nonneg_right ha (show 0 ≤ t by omega)
    omega
  · show Int.gcd (a * t - b) t = 1
    exact (((cop_of hc).symm.turn a).symm).gcd
theorem fine_first {a : Int} (ha : 2 ≤ a) : Fine (a, 1) := ⟨by show (0 : Int) < 1; decide, by show 1 < a; omega, by show Int.gcd a 1 = 1; simp⟩

/-- the round-up -/
theorem up_rest {n m : Int} (hm : 0 < m) : 0 ≤ -(-n / m) * m - n ∧ -(-n / m) * m - n < m := by
  have h1 := Int.emod_add_mul_ediv (-n) m
  have h2 := Int.emod_nonneg (-n) (show m ≠ 0 by omega)
  have h3 := Int.emod_lt_of_pos (-n) hm
  have e : -(-n / m) * m = -(m * (-n / m)) := by grind
  rw [e]
  omega

/-! ### the common divisor's loop -/
theorem gcd_abs (a b : Int) : Int.gcd (if a < 0 then -a else a) (if b < 0 then -b else b) = Int.gcd a b := by
  have h : ∀ x : Int, (if x < 0 then -x else x).natAbs = x.natAbs := fun x => by
    split <;> omega
  unfold Int.gcd
  rw [h, h]
theorem gcd_turn {x y : Int} (hx : 0 ≤ x) (hy : 0 < y) : Int.gcd y (x % y) = Int.gcd x y := by
  have e : x % y = x - y * (x / y) := by
    have := Int.emod_add_mul_ediv x y
    omega
  have h1 := Int.gcd_dvd_left x y
  have h2 := Int.gcd_dvd_right x y
  have h3 := Int.gcd_dvd_left y (x % y)
  have h4 := Int.gcd_dvd_right y (x % y)
  refine Nat.dvd_antisymm ?_ ?_
  · refine Int.ofNat_dvd.mp (Int.dvd_coe_gcd ?_ h3)
    have e2 : x = x % y + y * (x / y) := by omega
    rw [e2]
    have h5 : (((y.gcd (x % y) : Nat)) : Int) ∣ x % y + y * (x / y) := Int.dvd_add h4 (Int.dvd_mul_of_dvd_left h3)
    rw [← e2]
    rw [← e2] at h5
    exact h5
  · refine Int.ofNat_dvd.mp (Int.dvd_coe_gcd h2 ?_)
    rw [e]
    exact Int.dvd_sub h1 (Int.dvd_mul_of_dvd_left h2)
/-- both divided by their common divisor -/
theorem parted {a b : Int} (ha : 0 < a) (hb : 0 < b) : 0 < Int.gcd a b ∧ 1 ≤ a / (Int.gcd a b : Int) ∧ a / (Int.gcd a b : Int) ≤ a ∧ 1 ≤ b / (Int.gcd a b : Int) ∧ b / (Int.gcd a b : Int) ≤ b ∧
    Int.gcd (a / (Int.gcd a b : Int)) (b / (Int.gcd a b : Int)) = 1 ∧ (Int.gcd a b : Int) ≤ a := by
  have h0 : 0 < Int.gcd a b := Int.gcd_pos_of_ne_zero_left _ (by omega)
  have h1 := Int.gcd_dvd_left a b
  have h2 := Int.gcd_dvd_right a b
  have l1 := Int.le_of_dvd ha h1
  have l2 := Int.le_of_dvd hb h2
  have p : (0 : Int) < (Int.gcd a b : Int) := by omega
  refine ⟨h0, ?_, ?_, ?_, ?_, ?_, l1⟩
  · exact (Int.le_ediv_iff_mul_le p).mpr (by omega)
  · exact Int.ediv_le_self _ (by omega)
  · exact (Int.le_ediv_iff_mul_le p).mpr (by omega)
  · exact Int.ediv_le_self _ (by omega)
  · have := Int.gcd_ediv_gcd_ediv_gcd h0
    exact this
theorem one_mod {b m n : Int} (h : n ∣ b * m - 1) : b * m % n = 1 % n := Int.emod_eq_emod_iff_emod_sub_eq_zero.mpr (Int.emod_eq_zero_of_dvd h)
end K75
/-! Two rules beside the layer's: t[lo::-1] of a tuple t, and max of a tuple of ints. -/
namespace B75
open PySem PyProof.Rows
/-- places k - 1, k - 2, .., 0 of an array -/
theorem from_behind (xs : Array Value) : ∀ k : Nat, k ≤ xs.size → (List.range k).filterMap (fun m : Nat => xs[(((k : Int) - 1) + (m : Int) * (-1)).toNat]?) = (xs.toList.take k).reverse
  | 0, _ => rfl
  | k + 1, hk => by
    have hlt : k < xs.size := hk
    have first : (((k + 1 : Nat) : Int) - 1 + ((0 : Nat) : Int) * (-1)).toNat = k := by omega
    have shift : ∀ m : Nat, (((k + 1 : Nat) : Int) - 1 + ((m + 1 : Nat) : Int) * (-1)).toNat = (((k : Nat) : Int) - 1 + (m : Int) * (-1)).toNat := fun m => by omega
    have ih := from_behind xs k (Nat.le_of_lt hlt)
    rw [List.range_succ_eq_map, List.filterMap_cons, first, Array.getElem?_eq_getElem hlt, List.filterMap_map]
    have same : ((fun m : Nat => xs[(((k + 1 : Nat) : Int) - 1 + (m : Int) * (-1)).toNat]?) ∘ Nat.succ) = fun m : Nat => xs[(((k : Nat) : Int) - 1 + (m : Int) * (-1)).toNat]? := funext fun m => congrArg (fun z : Nat => xs[z]?) (shift m)
    rw [same, ih, List.take_add_one, Array.getElem?_toList, Array.getElem?_eq_getElem hlt]
    simp
/-- a walk downward from place k - 1 has k places -/
theorem places_down (k : Nat) : Builtin.Slice.slicePlaces ((k : Int) - 1) (-1) (-1) = k := by
  have one : (-(-1) : Int) = 1 := rfl
  simp only [Builtin.Slice.slicePlaces, one, Int.ediv_one, show ¬ ((-1 : Int) > 0) from by decide, if_false]
  by_cases h : (k : Int) - 1 > -1
  · simp only [h, if_true]
    omega
  · simp only [h, if_false]
    omega
section
variable {P : Program} {W : World} {B : Around} {X : Value → Shared → Prop} {s : Shared} {sl : Addr} {vl vs : Value} {lo : Option Int} {k : Nat}
theorem way_no {α : Type} {c : Bool} {M : Model} {a b : Sem α} {Q : α → Shared → Prop} (hc : c = false) (h : wpAny M B b Q X s) : wpAny M B (if c = true then a else b) Q X s := by
  subst hc
  exact h
theorem way_yes {α : Type} {c : Bool} {M : Model} {a b : Sem α} {Q : α → Shared → Prop} (hc : c = true) (h : wpAny M B a Q X s) : wpAny M B (if c = true then a else b) Q X s := by
  subst hc
  exact h
theorem applied_down {n : Nat} {Q : Int × Int × Nat → Shared → Prop} (S : s.heap.IsSliceOf sl vl .none vs) (pl : IsPart vl lo) (ps : IsPart vs (some (-1)))
    (ha : Builtin.Slice.sliceAdjust lo none (-1) (n : Int) = ((k : Int) - 1, -1)) (h : Q ((k : Int) - 1, -1, k) s) : wpAny (model P W) B (Builtin.Slice.sliceApplied (.ref sl) (pure (n : Int))) Q X s := by
  obtain ⟨o, here, _, parts⟩ := S
  delta Builtin.Slice.sliceApplied Builtin.Slice.sliceFields
  refine wpAny_bind (wpAny_bind (wpAny_field here parts (x := vl) rfl (wpAny_bind (wpAny_field here parts (x := .none) rfl (wpAny_bind (wpAny_field here parts (x := vs) rfl (wpAny_pure (wpAny_bind (HT.slicePart_ ps ?_)))))))))
  refine way_no (c := ((-1 : Int) == 0)) rfl (wpAny_bind (HT.slicePart_ pl (wpAny_bind (HT.slicePart_ IsPart.none (wpAny_bind (wpAny_pure ?_))))))
  show wpAny _ _ (pure ((Builtin.Slice.sliceAdjust lo none (-1) (n : Int)).1, (-1 : Int), Builtin.Slice.slicePlaces (Builtin.Slice.sliceAdjust lo none (-1) (n : Int)).1 (Builtin.Slice.sliceAdjust lo none (-1) (n : Int)).2 (-1))) _ _ s
  rw [ha, places_down]
  exact wpAny_pure h
/-- t[lo::-1] -/
theorem item_down {t : Addr} {xs : Array Value} {Q : Value → Shared → Prop} (T : IsTup s.heap t xs) (S : s.heap.IsSliceOf sl vl .none vs) (pl : IsPart vl lo) (ps : IsPart vs (some (-1))) (hk : k ≤ xs.size)
    (ha : Builtin.Slice.sliceAdjust lo none (-1) (xs.size : Int) = ((k : Int) - 1, -1)) (fit : xs.size ≤ sizeLine)
    (h : Q (.ref s.heap.objs.size) { s with heap := s.heap.push { cls := .type "tuple", data := .seq (xs.toList.take k).reverse.toArray } }) : wpAny (model P W) B (getItem (.ref t) (.ref sl)) Q X s := by
  have kind : s.TypeIs (.ref sl) "slice" := S.elim fun o z => ⟨o, z.1, z.2.1⟩
  have room : sizeOk (.seq (xs.toList.take k).reverse.toArray) := by
    show (xs.toList.take k).reverse.toArray.size ≤ sizeLine
    simp only [List.size_toArray, List.length_reverse, List.length_take]
    omega
  have part : (((k : Int) - 1 == 0) && ((-1 : Int) == 1) && (k == xs.size)) = false := by
    rw [show ((-1 : Int) == 1) = false from rfl, Bool.and_false, Bool.false_and]
  delta getItem
  refine wpAny_holding (wpAny_bind (wpAny_sequenceKey T.typeIs (by decide) (wpAny_bind (wpAny_callSpecial?_slot T.typeIs slot_tuple_getitem (wpAny_call_entry slot_tuple_getitem T.typeIs entry_tuple_getitem ?body (args_tuple_getitem _ _))))))
  refine wpAny_bind (m := Builtin.Tuple.tupleItemsOf (.ref t)) (tupleItemsOf_ T (wpAny_bind (wpAny_typeOf kind (way_yes (by decide) (wpAny_bind (applied_down S pl ps ha ?_))))))
  refine way_no part ?_
  rw [from_behind xs k hk]
  exact wpAny_bind (wpAny_newObj_type (wpAny_bind (wpAny_pure (wpAny_pure ⟨_, rfl, wpAny_pure h⟩))) room)
end
/-- the greatest of some ints -/
theorem greatest (n : Int) (ns : List Int) : PySem.W.maxOf n ns ∈ n :: ns ∧ ∀ y ∈ n :: ns, y ≤ PySem.W.maxOf n ns := by
  induction ns generalizing n with
  | nil => exact ⟨List.mem_cons_self, fun y hy => by
      have e : y = n := by simpa using hy
      rw [e]
      exact Int.le_refl n⟩
  | cons z zs ih =>
    by_cases h : n < z
    · have e : PySem.W.maxOf n (z :: zs) = PySem.W.maxOf z zs := by
        show zs.foldl _ (if decide (n < z) = true then z else n) = _
        rw [decide_eq_true h]
        rfl
      rw [e]
      obtain ⟨i1, i2⟩ := ih z
      refine ⟨List.mem_cons_of_mem n i1, fun y hy => ?_⟩
      rcases List.mem_cons.mp hy with q | q
      · have := i2 z List.mem_cons_self
        omega
      · exact i2 y q
    · have e : PySem.W.maxOf n (z :: zs) = PySem.W.maxOf n zs := by
        show zs.foldl _ (if decide (n < z) = true then z else n) = _
        rw [decide_eq_false h]
        rfl
      rw [e]
      obtain ⟨i1, i2⟩ := ih n
      refine ⟨?_, fun y hy => ?_⟩
      · rcases List.mem_cons.mp i1 with q | q
        · rw [q]
          exact List.mem_cons_self
        · exact List.mem_cons_of_mem n (List.mem_cons_of_mem z q)
      · have top := i2 n List.mem_cons_self
        rcases List.mem_cons.mp hy with q | q
        · omega
        · rcases List.mem_cons.mp q with q | q
          · omega
          · exact i2 y (List.mem_cons_of_mem n q)
end B75
namespace L2
open PySem PyProof.Rows
/-- t[lo::-1], t a tuple: its first k items, turned -/
def tBack (K : PySem.W.Frag) (te : TE) (tl : TO) : TE := fun σ H Q => te σ H fun x H1 => tl σ H1 fun l H2 => ∃ (a : Addr) (xs : List V) (k : Nat), x = .ref a ∧ SqT K H2 a xs ∧ k ≤ xs.length ∧
  Builtin.Slice.sliceAdjust l none (-1) (xs.length : Int) = ((k : Int) - 1, -1) ∧ ∀ p, H2 p = none → Q (.ref p) (upd H2 p (.tup (xs.take k).reverse))
section
variable {X : Cx}
theorem pe_sliceBack {e : Expr} {lo : Option Expr} {te : TE} {tl : TO} {k : Nat} {p1 p2 p3 pos : Pos} (he : PE X e te) (hl : PO X lo tl) :
    PE X (.Subscript e (.Slice lo none (some (.UnaryOp .USub (.Constant (.int 1) k p1) p2)) p3) pos) (tBack X.K te tl) where
  run pins s σ H Q I h := by
    have step := po_some (X := X) (pe_un (pos := p2) un_neg (pe_int (i := 1) (j := k) (pos := p1)))
    refine Subscript_ (thn (he.run pins s σ H _ I h) ?_)
    rintro v s1 ⟨x, H1, I1, rx, z⟩
    refine wpAny_Slice (thn (hl.run pins s1 σ H1 _ I1 z) ?_)
    rintro vl s2 ⟨l, H2, I2, pl, a, xs, m, rfl, hx, hm, ha, q⟩
    rw [evalPart_none]
    refine wpAny_pure (thn (step.run pins s2 σ H2 (fun o H3 => o = some (-1) ∧ H3 = H2) I2 ⟨1, rfl, -1, rfl, rfl, rfl⟩) ?_)
    rintro vs s3 ⟨_, _, I3, ps, rfl, rfl⟩
    cases rx
    have J := I3.kept (t' := s3.toks) (h' := s3.heap.push { cls := .type "slice", data := .fields #[vl, .none, vs] }) fun b ob => Heap.get?_push_of_some _
    obtain ⟨its, r, T, fit⟩ := J.tuple hx
    have size : its.toArray.size = xs.length := by simpa using r.length.symm
    refine tail_any (s := { s3 with heap := s3.heap.push { cls := .type "slice", data := .fields #[vl, .none, vs] } }) (ops := [.ref a, .ref s3.heap.objs.size]) T.typeIs slot_tuple_getitem.lookup ?_ (by with_unfolding_all rfl)
    refine B75.item_down T (Heap.IsSliceOf.new _ vl .none vs) pl ps (size ▸ hm) (size ▸ ha) (size ▸ fit) ?_
    refine ⟨.ref _, _, J.laid (t' := s3.toks) (o := .tup (xs.take m).reverse) (fun b ob => Heap.get?_push_of_some _) (Nat.le_refl _) ⟨?_, _, (r.take m).reverse, IsTup.new _ _⟩, rfl, q _ (J.hok.fresh (Nat.le_refl _))⟩
    simp only [List.length_reverse, List.length_take]
    omega
/-- a slice that begins at the last item takes all -/
theorem adjust_all (n : Nat) : Builtin.Slice.sliceAdjust none none (-1) (n : Int) = ((n : Int) - 1, -1) := rfl
/-- one that begins at the last but one takes all but one -/
theorem adjust_but {n : Nat} (h : 1 ≤ n) : Builtin.Slice.sliceAdjust (some (-2)) none (-1) (n : Int) = (((n - 1 : Nat) : Int) - 1, -1) := by
  have e : max (-2 + (n : Int)) (-1) = ((n - 1 : Nat) : Int) - 1 := by omega
  exact congrArg (fun z : Int => (z, (-1 : Int))) e
/-- max(t), t a tuple of ints -/
def rMaxT (K : PySem.W.Frag) : List V → Hp → VK → Prop := fun vs H Q => ∃ (a : Addr) (ns : List Int), vs = [.ref a] ∧ ns ≠ [] ∧ SqT K H a (ns.map V.int) ∧ ∀ m, m ∈ ns → (∀ y ∈ ns, y ≤ m) → Q (.int m) H
theorem cr_maxT (hc : X.calm = true) (hu : X.A.units + 64 < cLine) : CallR X (.builtin "max") (rMaxT X.K) := by
  rintro pins s σ H vs us Q I r ⟨a, l, rfl, some_, hx, q⟩
  obtain ⟨n, ns, rfl⟩ := List.exists_cons_of_ne_nil some_
  obtain ⟨u, rfl, ru⟩ := vals1 r
  cases ru
  obtain ⟨its, rv, T, _⟩ := I.tuple hx
  refine PySem.W.max_tuple_datum (x := n) (xs := ns) (I.ok.hd hc) T (PySem.W.HoldAll.of_ints (intsAre_of rv)) (Nat.lt_of_le_of_lt (Nat.add_le_add_left (by decide : 1 + 0 ≤ 64) _) hu) fun i v h' tk _ hv k => ?_
  obtain ⟨t, rfl⟩ := PySem.W.int_of_holds hv
  exact ⟨.int _, H, I.kept k, ⟨t, rfl⟩, q _ (B75.greatest n ns).1 (B75.greatest n ns).2⟩
end
end L2
namespace W75
open PySem PySem.Spec PyProof.Rows L2
/-! ### the text -/
def topS (i : Nat) : Stmt := PySem.Challenge.pw_latticepoints_k75_whole_dual_steps.main.body.getD i (.Pass ⟨0, 0, 0, 0⟩)
abbrev sIsIn : Stmt := topS 6
abbrev sGcd : Stmt := topS 7
abbrev sReduced : Stmt := topS 8
abbrev sMinus : Stmt := topS 9
abbrev sOver : Stmt := topS 10
abbrev sSteps : Stmt := topS 16
abbrev sFrom : Stmt := topS 17
abbrev sTaken : Stmt := topS 19
abbrev sLgcd : Stmt := topS 20
abbrev sTwo : Stmt := topS 21
abbrev sPick : Stmt := topS 22
abbrev sLaw : Stmt := topS 23
theorem same_upd {H : Hp} {p : Addr} {o : HO} (h : H p = none) : Same H (upd H p o) := fun b x e => by
  rw [upd_ne (ne_of_none e h)]
  exact e
/-! ### small defs: promises -/
def spIsIn : Sp := fun vs H Q _ => ∃ v lo hi : Int, vs = [.int v, .int lo, .int hi] ∧ Q (.bl (decide (lo ≤ v) && decide (v ≤ hi))) H
def spGcd : Sp := fun vs H Q _ => ∃ a b : Int, vs = [.int a, .int b] ∧ Q (.int ((Int.gcd a b : Nat) : Int)) H
def spReduced : Sp := fun vs H Q _ => ∃ n d : Int, vs = [.int n, .int d] ∧ 0 < d ∧ Int.gcd n d = 1 ∧ ∀ p, H p = none → Q (.ref p) (upd H p (.tup [.int n, .int d]))
def spMinus : Sp := fun vs H Q _ => ∃ (p q : Addr) (a b t : Int), vs = [.ref p, .ref q] ∧ H p = some (.tup [.int a, .int 1]) ∧ H q = some (.tup [.int b, .int t]) ∧ -(2 ^ 64) < a ∧ a < 2 ^ 64 ∧ 0 < t ∧ Int.gcd (a * t - b) t = 1 ∧
  ∀ z, H z = none → Q (.ref z) (upd H z (.tup [.int (a * t - b), .int t]))
def spOver : Sp := fun vs H Q _ => ∃ (p q : Addr) (t b : Int), vs = [.ref p, .ref q] ∧ H p = some (.tup [.int 1, .int 1]) ∧ H q = some (.tup [.int t, .int b]) ∧ 0 < t ∧ Int.gcd t b = 1 ∧
  ∀ z, H z = none → Q (.ref z) (upd H z (.tup [.int b, .int t]))
section
variable {P : Program} {w : World} {K : PySem.W.Frag} {mg : Str → Option Value} {base : Heap}
theorem scI : FnScope ["value", "least", "most"] ["value", "least", "most"] (defScope sIsIn) := ⟨rfl, rfl, rfl, by decide +kernel, rfl, by decide +kernel, by decide +kernel⟩
theorem scG : FnScope ["one", "other"] ["one", "other"] (defScope sGcd) := ⟨rfl, rfl, rfl, by decide +kernel, rfl, by decide +kernel, by decide +kernel⟩
theorem scR : FnScope ["numerator", "denominator", "common"] ["numerator", "denominator"] (defScope sReduced) := ⟨rfl, rfl, rfl, by decide +kernel, rfl, by decide +kernel, by decide +kernel⟩
theorem scM : FnScope ["one", "other"] ["one", "other"] (defScope sMinus) := ⟨rfl, rfl, rfl, by decide +kernel, rfl, by decide +kernel, by decide +kernel⟩
theorem scO : FnScope ["one", "other"] ["one", "other"] (defScope sOver) := ⟨rfl, rfl, rfl, by decide +kernel, rfl, by decide +kernel, by decide +kernel⟩

theorem ok_isin {f : Addr} {fd : FuncData} (F : Fun K "is_in" "is_in" sIsIn f fd) (mIs : mg "isinstance" = none) (mI : mg "int" = none) (mB : mg "bool" = none) : FnOk P w K mg base CX0 1 f fd ["value", "least", "most"] spIsIn := by
  refine F.ok scI (fun vs H Q E h => ?_) (fun cdv A outer s H vs Q E hr h => ?_)
  · obtain ⟨v, lo, hi, rfl, _⟩ := h
    rfl
  · obtain ⟨v, lo, hi, rfl, q⟩ := h
    refine ⟨_, pss_one (ps_ret (pe_and (pe_callB call_isi (by rfl) mIs (by decide +kernel) (pa_cons (pv 0) (pa_cons (pe_bltn (v := .ty "int") (u := .type "int") (by rfl) mI (by decide +kernel) rfl) pa_nil)))
      (pe_and (pe_not (pe_callB call_isi (by rfl) mIs (by decide +kernel) (pa_cons (pv 0) (pa_cons (pe_bltn (v := .ty "bool") (u := .type "bool") (by rfl) mB (by decide +kernel) rfl) pa_nil))))
        (pe_one (pe_chain op_le op_le (pv 1) (pv 0) (pv 2)))))), ?_⟩
    refine ⟨.int v, rfl, .int v, .ty "int", .type "int", .type "int", true, rfl, .ty "int", .base (.int v), kit_ty (by decide +kernel), true, rfl, iteT ?_⟩
    refine ⟨.int v, rfl, .int v, .ty "bool", .type "int", .type "bool", false, rfl, .ty "bool", .base (.int v), kit_ty (by decide +kernel), false, rfl, true, rfl, iteT ?_⟩
    refine ⟨.int lo, rfl, .int v, rfl, lo, v, rfl, rfl, _, rfl, ite2 (fun c => ?_) (fun c => ?_)⟩
    · refine ⟨.int hi, rfl, v, hi, rfl, rfl, ?_⟩
      rw [c, Bool.true_and] at q
      exact q
    · rw [Bool.eq_false_iff.mpr c, Bool.false_and] at q
      exact q

theorem ok_gcd {f : Addr} {fd : FuncData} (F : Fun K "gcd" "gcd" sGcd f fd) (mA : mg "abs" = none) : FnOk P w K mg base CX0 1 f fd ["one", "other"] spGcd := by
  refine F.ok scG (fun vs H Q E h => ?_) (fun cdv A outer s H vs Q E hr h => ?_)
  · obtain ⟨a, b, rfl, _⟩ := h
    rfl
  · obtain ⟨a, b, rfl, q⟩ := h
    refine ⟨_, pss_cons (ps_par (i := 0) (j := 1) rfl scG.nd rfl rfl (by decide) rfl rfl (pa_cons (pe_callB call_abs (by rfl) mA (by decide +kernel) (pa_cons (pv 0) pa_nil)) (pa_cons (pe_callB call_abs (by rfl) mA (by decide +kernel) (pa_cons (pv 1) pa_nil)) pa_nil)) (by rfl))
      (pss_cons (ps_while PassesOwn.never (pt_cmpR op_ne (pv 1) pe_int (nomark _)) (pss_one (ps_par (i := 0) (j := 1) rfl scG.nd rfl rfl (by decide) rfl rfl (pa_cons (pv 1) (pa_cons (pe_op op_mod (pv 0) (pv 1)) pa_nil)) (by rfl))))
      (pss_one (ps_ret (pv 0)))), ?_⟩
    refine ⟨.int a, rfl, a, rfl, .int b, rfl, b, rfl, _, _, rfl, ?_⟩
    refine ⟨fun m σ H' => ∃ x y : Int, σ = [some (.int x), some (.int y)] ∧ H' = H ∧ 0 ≤ x ∧ 0 ≤ y ∧ Int.gcd x y = Int.gcd a b ∧ m = y.toNat, ⟨_, _, _, rfl, rfl, by split <;> omega, by split <;> omega, K75.gcd_abs a b, rfl⟩, ?_⟩
    rintro m σ H' ⟨x, y, rfl, rfl, hx, hy, hg, rfl⟩
    refine ⟨.int y, rfl, rfl, _, rfl, ite2 (fun c => ?_) (fun c => ?_)⟩
    · have hy0 : y ≠ 0 := fun e => by
        subst e
        exact absurd c (by decide)
      have hyp : 0 < y := by omega
      refine ⟨fun σ' H2 => σ' = [some (.int y), some (.int (x % y))] ∧ H2 = H', fun σ' H2 hN => ?_, ?_⟩
      · obtain ⟨e1, e2⟩ := hN
        have r0 := Int.emod_nonneg x hy0
        have r1 := Int.emod_lt_of_pos x hyp
        exact ⟨(x % y).toNat, by omega, y, x % y, e1, e2, hy, r0, (K75.gcd_turn hx hyp).trans hg, rfl⟩
      · exact ⟨.int y, rfl, .int x, rfl, .int y, rfl, x, y, rfl, rfl, hyp, _, _, rfl, rfl, rfl⟩
    · have hy0 : y = 0 := by
        by_cases e : y = 0
        · exact e
        · refine absurd ?_ c
          rw [decide_eq_false (fun z => e (V.int.inj z))]
          rfl
      subst hy0
      refine ⟨.int x, rfl, ?_⟩
      have e : ((Int.gcd a b : Nat) : Int) = x := by
        rw [← hg, Int.gcd_zero_right]
        omega
      rw [e] at q
      exact q

theorem ok_reduced {f fG : Addr} {fd fdG : FuncData} (F : Fun K "reduced" "reduced" sReduced f fd) (FG : Fun K "gcd" "gcd" sGcd fG fdG) (bG : Binds K fdG ["one", "other"] []) (gG : mg "gcd" = some (.ref fG)) (mA : mg "abs" = none) :
    FnOk P w K mg base CX0 2 f fd ["numerator", "denominator"] spReduced := by
  have GG : FnOk P w K mg base CX0 1 fG fdG ["one", "other"] spGcd := ok_gcd FG mA
  refine F.ok scR (fun vs H Q E h => ?_) (fun cdv A outer s H vs Q E hr h => ?_)
  · obtain ⟨n, d, rfl, _⟩ := h
    rfl
  · obtain ⟨n, d, rfl, hd, hg, q⟩ := h
    refine ⟨_, pss_cons (ps_set (i := 2) scR.nd rfl (.inl rfl) (pe_call GG hr (by rfl) gG FG.kp bG .nil pass0 (pa_cons (pv 0) (pa_cons (pv 1) pa_nil))))
      (pss_cons (ps_if (pt_cmpR op_lt (pv 1) pe_int (nomark _)) (pss_one ps_never) pss_nil)
      (pss_one (ps_ret (pe_tup (pa_cons (pe_op op_fdiv (pv 0) (pv 2)) (pa_cons (pe_op op_fdiv (pv 1) (pv 2)) pa_nil)))))), ?_⟩
    refine ⟨.int n, rfl, .int d, rfl, n, d, rfl, ?_⟩
    rw [hg]
    refine ⟨.int d, rfl, d, 0, rfl, rfl, _, rfl, ite2 (fun c => ?_) (fun c => ?_)⟩
    · exact absurd (of_decide_eq_true c) (by omega)
    · refine ⟨.int n, rfl, .int 1, rfl, n, 1, rfl, rfl, ⟨by decide, by decide⟩, .int d, rfl, .int 1, rfl, d, 1, rfl, rfl, ⟨by decide, by decide⟩, by show 2 ≤ sizeLine; decide, fun p hp => ?_⟩
      show Q (.ref p) (upd H p (.tup [.int (n / 1), .int (d / 1)]))
      rw [Int.ediv_one, Int.ediv_one]
      exact q p hp

theorem ok_minus {f fR fG : Addr} {fd fdR fdG : FuncData} (F : Fun K "minus" "minus" sMinus f fd) (FR : Fun K "reduced" "reduced" sReduced fR fdR) (bR : Binds K fdR ["numerator", "denominator"] []) (gR : mg "reduced" = some (.ref fR))
    (FG : Fun K "gcd" "gcd" sGcd fG fdG) (bG : Binds K fdG ["one", "other"] []) (gG : mg "gcd" = some (.ref fG)) (mA : mg "abs" = none) : FnOk P w K mg base CX0 3 f fd ["one", "other"] spMinus := by
  have GR : FnOk P w K mg base CX0 2 fR fdR ["numerator", "denominator"] spReduced := ok_reduced FR FG bG gG mA
  refine F.ok scM (fun vs H Q E h => ?_) (fun cdv A outer s H vs Q E hr h => ?_)
  · obtain ⟨p, q, a, b, t, rfl, _⟩ := h
    rfl
  · obtain ⟨p, r, a, b, t, rfl, hp, hq, h1, h2, h3, h4, q⟩ := h
    refine ⟨_, pss_one (ps_ret (pe_call GR hr (by rfl) gR FR.kp bR .nil pass0 (pa_cons
        (pe_op op_sub (pe_op op_mul (pe_ix ix_tup (pv 0) pe_int (fun _ _ => rfl)) (pe_ix ix_tup (pv 1) pe_int (fun _ _ => rfl))) (pe_op op_mul (pe_ix ix_tup (pv 1) pe_int (fun _ _ => rfl)) (pe_ix ix_tup (pv 0) pe_int (fun _ _ => rfl))))
        (pa_cons (pe_op op_mul (pe_ix ix_tup (pv 0) pe_int (fun _ _ => rfl)) (pe_ix ix_tup (pv 1) pe_int (fun _ _ => rfl))) pa_nil)))), ?_⟩
    refine ⟨.ref p, rfl, p, _, 0, .int a, rfl, rfl, SqT.of hp, atI_nat (j := 0) rfl, .ref r, rfl, r, _, 1, .int t, rfl, rfl, SqT.of hq, atI_nat (j := 1) rfl, a, t, rfl, rfl, .inl ⟨h1, h2⟩, ?_⟩
    refine ⟨.ref r, rfl, r, _, 0, .int b, rfl, rfl, SqT.of hq, atI_nat (j := 0) rfl, .ref p, rfl, p, _, 1, .int 1, rfl, rfl, SqT.of hp, atI_nat (j := 1) rfl, b, 1, rfl, rfl, .inr ⟨by decide, by decide⟩, a * t, b * 1, rfl, rfl, ?_⟩
    refine ⟨.ref p, rfl, p, _, 1, .int 1, rfl, rfl, SqT.of hp, atI_nat (j := 1) rfl, .ref r, rfl, r, _, 1, .int t, rfl, rfl, SqT.of hq, atI_nat (j := 1) rfl, 1, t, rfl, rfl, .inl ⟨by decide, by decide⟩, ?_⟩
    refine ⟨a * t - b * 1, 1 * t, rfl, by omega, ?_, fun z hz => ?_⟩
    · rw [Int.mul_one, Int.one_mul]
      exact h4
    · rw [Int.mul_one, Int.one_mul]
      exact q z hz

theorem ok_over {f fR fG : Addr} {fd fdR fdG : FuncData} (F : Fun K "over" "over" sOver f fd) (FR : Fun K "reduced" "reduced" sReduced fR fdR) (bR : Binds K fdR ["numerator", "denominator"] []) (gR : mg "reduced" = some (.ref fR))
    (FG : Fun K "gcd" "gcd" sGcd fG fdG) (bG : Binds K fdG ["one", "other"] []) (gG : mg "gcd" = some (.ref fG)) (mA : mg "abs" = none) : FnOk P w K mg base CX0 3 f fd ["one", "other"] spOver := by
  have GR : FnOk P w K mg base CX0 2 fR fdR ["numerator", "denominator"] spReduced := ok_reduced FR FG bG gG mA
  refine F.ok scO (fun vs H Q E h => ?_) (fun cdv A outer s H vs Q E hr h => ?_)
  · obtain ⟨p, q, t, b, rfl, _⟩ := h
    rfl
  · obtain ⟨p, r, t, b, rfl, hp, hq, h3, h4, q⟩ := h
    refine ⟨_, pss_one (ps_ret (pe_call GR hr (by rfl) gR FR.kp bR .nil pass0 (pa_cons
        (pe_op op_mul (pe_ix ix_tup (pv 0) pe_int (fun _ _ => rfl)) (pe_ix ix_tup (pv 1) pe_int (fun _ _ => rfl)))
        (pa_cons (pe_op op_mul (pe_ix ix_tup (pv 0) pe_int (fun _ _ => rfl)) (pe_ix ix_tup (pv 1) pe_int (fun _ _ => rfl))) pa_nil)))), ?_⟩
    refine ⟨.ref p, rfl, p, _, 0, .int 1, rfl, rfl, SqT.of hp, atI_nat (j := 0) rfl, .ref r, rfl, r, _, 1, .int b, rfl, rfl, SqT.of hq, atI_nat (j := 1) rfl, 1, b, rfl, rfl, .inl ⟨by decide, by decide⟩, ?_⟩
    refine ⟨.ref p, rfl, p, _, 1, .int 1, rfl, rfl, SqT.of hp, atI_nat (j := 1) rfl, .ref r, rfl, r, _, 0, .int t, rfl, rfl, SqT.of hq, atI_nat (j := 0) rfl, 1, t, rfl, rfl, .inl ⟨by decide, by decide⟩, ?_⟩
    refine ⟨1 * b, 1 * t, rfl, by omega, ?_, fun z hz => ?_⟩
    · rw [Int.one_mul, Int.one_mul, Int.gcd_comm]
      exact h4
    · rw [Int.one_mul, Int.one_mul]
      exact q z hz
end
end W75
namespace W75
open PySem PySem.Spec PyProof.Rows L2
/-! ### steps -/
def spSteps : Sp := fun vs H Q _ => ∃ n m : Int, vs = [.int n, .int m] ∧ 0 < m ∧ m < n ∧ n ≤ 1900 ∧ Int.gcd n m = 1 ∧
  ∀ (l : List Int) (H' : Hp) (p : Addr), K75.HJ n m l → l.length ≤ 1900 → Same H H' → H' p = some (.tup (l.map V.int)) → Q (.ref p) H'
theorem tup_len {xs : List Int} {n : Nat} (h : xs.length ≤ n) (hn : n ≤ 1000000) : (xs.map V.int).length < sizeLine := by
  rw [List.length_map, sizeLine_eq]
  omega
section
variable {P : Program} {w : World} {K : PySem.W.Frag} {mg : Str → Option Value} {base : Heap}
theorem scS : FnScope ["n", "m", "found", "one"] ["n", "m"] (defScope sSteps) := ⟨rfl, rfl, rfl, by decide +kernel, rfl, by decide +kernel, by decide +kernel⟩
theorem ok_steps {f fI fG : Addr} {fd fdI fdG : FuncData} {tG tM : Tok} (F : Fun K "steps" "steps" sSteps f fd) (FI : Fun K "is_in" "is_in" sIsIn fI fdI) (bI : Binds K fdI ["value", "least", "most"] []) (gI : mg "is_in" = some (.ref fI))
    (FG : Fun K "gcd" "gcd" sGcd fG fdG) (bG : Binds K fdG ["one", "other"] []) (gG : mg "gcd" = some (.ref fG)) (mA : mg "abs" = none) (mIs : mg "isinstance" = none) (mI : mg "int" = none) (mB : mg "bool" = none) (mL : mg "len" = none) (mT : mg "tuple" = none)
    (gGr : mg "GREAT" = some (.int 1000000000 tG)) (gMo : mg "MOST_SUMS" = some (.int 2000 tM)) : FnOk P w K mg base CX0 2 f fd ["n", "m"] spSteps := by
  have GI : FnOk P w K mg base CX0 1 fI fdI ["value", "least", "most"] spIsIn := ok_isin FI mIs mI mB
  have GG : FnOk P w K mg base CX0 1 fG fdG ["one", "other"] spGcd := ok_gcd FG mA
  refine F.ok scS (fun vs H Q E h => ?_) (fun cdv A outer s H vs Q E hr h => ?_)
  · obtain ⟨n, m, rfl, _⟩ := h
    rfl
  · obtain ⟨n, m, rfl, h0, h1, h2, hg, q⟩ := h
    refine ⟨_, pss_cons (ps_if (PW.pt (pw_or (pt_not (pt_val (pe_call GI hr (by rfl) gI FI.kp bI .nil pass0 (pa_cons (pv 0) (pa_cons pe_int (pa_cons (pe_glob (v := .int 1000000000) (by rfl) gGr ⟨_, rfl⟩) pa_nil))))))
        (pw_or (pt_not (pt_val (pe_call GI hr (by rfl) gI FI.kp bI .nil pass0 (pa_cons (pv 1) (pa_cons pe_int (pa_cons (pe_op op_sub (pv 0) pe_int) pa_nil))))))
          (pw_or1 (pt_cmpR op_ne (pe_call GG hr (by rfl) gG FG.kp bG .nil pass0 (pa_cons (pv 0) (pa_cons (pv 1) pa_nil))) pe_int (nomark _)))))) (pss_one ps_never) pss_nil)
      (pss_cons (ps_set (i := 2) scS.nd rfl (.inl rfl) (pe_lst pa_nil))
      (pss_cons (ps_while PassesOwn.never (pt_cmpR op_gt (pv 1) pe_int (nomark _))
        (pss_cons (ps_if (pt_cmpR op_eq (pe_callB call_len_seq (by rfl) mL PySem.boot_len (pa_cons (pv 2) pa_nil)) (pe_glob (v := .int 2000) (by rfl) gMo ⟨_, rfl⟩) (nomark _)) (pss_one ps_never) pss_nil)
        (pss_cons (ps_set (i := 3) scS.nd rfl (.inl rfl) (pe_un un_neg (pe_op op_fdiv (pe_un un_neg (pv 0)) (pv 1))))
        (pss_cons (ps_expr (pe_bm PySem.F.plainAttrs_list PySem.F.slot_list_append PySem.F.type_list_append mt_append (pv 2) (pa_cons (pv 3) pa_nil)))
        (pss_one (ps_par (i := 0) (j := 1) rfl scS.nd rfl rfl (by decide) rfl rfl (pa_cons (pv 1) (pa_cons (pe_op op_sub (pe_op op_mul (pv 3) (pv 1)) (pv 0)) pa_nil)) (by rfl)))))))
      (pss_one (ps_ret (pe_callTy call_tuple_of (by rfl) mT (by decide +kernel) (pa_cons (pv 2) pa_nil)))))), ?_⟩
    have e1 : (decide (2 ≤ n) && decide (n ≤ 1000000000)) = true := by
      rw [decide_eq_true (show 2 ≤ n by omega), decide_eq_true (show n ≤ 1000000000 by omega)]
      rfl
    have e2 : (decide (1 ≤ m) && decide (m ≤ n - 1)) = true := by
      rw [decide_eq_true (show 1 ≤ m by omega), decide_eq_true (show m ≤ n - 1 by omega)]
      rfl
    -- the test: nothing is wrong
    refine ⟨.int n, rfl, n, 2, 1000000000, rfl, true, congrArg V.bl e1, iteF ?_⟩
    refine ⟨.int m, rfl, .int n, rfl, n, 1, rfl, rfl, m, 1, n - 1, rfl, true, congrArg V.bl e2, iteF ?_⟩
    refine ⟨.int n, rfl, .int m, rfl, n, m, rfl, rfl, false, ?_, iteF ?_⟩
    · rw [hg]
      rfl
    -- found = []
    refine ⟨Nat.zero_le _, fun o no => ?_⟩
    have s1 : Same H (upd H o (.lst [])) := same_upd no
    refine ⟨fun k σ H' => ∃ (x y : Int) (pre : List Int) (z : Option V), σ = [some (.int x), some (.int y), some (.ref o), z] ∧ Same H H' ∧ H' o = some (.lst (pre.map V.int)) ∧ 0 ≤ y ∧ y < x ∧ x ≤ n ∧ K75.Cop x y ∧
      (pre.length : Int) + y ≤ m ∧ (∀ l, K75.HJ x y l → K75.HJ n m (pre ++ l)) ∧ k = y.toNat, ⟨_, n, m, [], none, rfl, s1, upd_same, by omega, h1, Int.le_refl _, K75.cop_of hg, by simp, fun l hl => hl, rfl⟩, ?_⟩
    rintro k σ H' ⟨x, y, pre, z, rfl, sm, eo, y0, yx, xn, cop, hlen, hall, rfl⟩
    refine ⟨.int y, rfl, y, 0, rfl, rfl, _, rfl, ite2 (fun c => ?_) (fun c => ?_)⟩
    · have yp : 0 < y := of_decide_eq_true c
      have hpre : pre.length ≤ 1900 := by omega
      obtain ⟨r0, r1⟩ := K75.up_rest (n := x) yp
      refine ⟨fun σ' H2 => ∃ c : Int, c = -(-x / y) ∧ σ' = [some (.int y), some (.int (c * y - x)), some (.ref o), some (.int c)] ∧ Same H H2 ∧ H2 o = some (.lst ((pre ++ [c]).map V.int)), fun σ' H2 hN => ?_, ?_⟩
      · obtain ⟨c, rfl, rfl, sm2, eo2⟩ := hN
        refine ⟨(-(-x / y) * y - x).toNat, by omega, y, _, pre ++ [-(-x / y)], _, rfl, sm2, eo2, r0, r1, by omega, cop.turn _, ?_, fun l hl => ?_, rfl⟩
        · rw [List.length_append, List.length_singleton]
          omega
        · rw [List.append_assoc]
          exact hall _ (.cons yp r0 r1 hl)
      · -- len(found) == MOST_SUMS
        refine ⟨.ref o, rfl, o, _, rfl, .inl (SqL.of eo), rfl, _, rfl, ite2 (fun d => ?_) (fun d => ?_)⟩
        · have q1 := V.int.inj (of_decide_eq_true d)
          rw [List.length_map] at q1
          omega
        -- one = -(-n // m)
        refine ⟨.int x, rfl, x, rfl, .int y, rfl, -x, y, rfl, rfl, ⟨yp, by omega⟩, -x / y, rfl, ?_⟩
        -- found.append(one)
        refine ⟨.ref o, rfl, .inl ⟨rfl, _, SqL.of eo⟩, .int (-(-x / y)), rfl, o, _, _, rfl, rfl, eo, tup_len hpre (by decide), ?_⟩
        -- n, m = m, one * m - n
        refine ⟨.int y, rfl, .int (-(-x / y)), rfl, .int y, rfl, _, _, rfl, rfl, .inr ⟨by omega, by omega⟩, .int x, rfl, _, _, rfl, rfl, _, _, rfl, ?_⟩
        refine ⟨_, rfl, rfl, fun b u e => ?_, ?_⟩
        · by_cases hb : b = o
          · subst hb
            rw [no] at e
            cases e
          · rw [upd_ne hb]
            exact sm b u e
        · rw [upd_same, List.map_append]
          rfl
    · have hy : y = 0 := by
        by_cases hy : 0 < y
        · exact absurd (decide_eq_true hy) c
        · omega
      subst hy
      have hx := cop.one yx
      subst hx
      have hj := hall [] .nil
      rw [List.append_nil] at hj
      refine ⟨.ref o, rfl, o, _, rfl, .inl ⟨SqL.of eo, fun p np => ?_⟩⟩
      exact q pre _ p hj (by omega) (sm.trans (same_upd np)) upd_same
end
end W75
namespace W75
open PySem PySem.Spec PyProof.Rows L2
/-! ### from_steps: the steps stand in the tuple the other way round -/
def spFrom : Sp := fun vs H Q _ => ∃ (p : Addr) (a : Int) (T : List Int), vs = [.ref p] ∧ H p = some (.tup ((a :: T).map V.int).reverse) ∧ T.length < 60 ∧ (∀ x ∈ a :: T, 2 ≤ x ∧ x ≤ 1000) ∧
  ∀ (H' : Hp) (z : Addr), Same H H' → H' z = some (.tup [.int (K75.whole (a :: T)).1, .int (K75.whole (a :: T)).2]) → Q (.ref z) H'
theorem back_take {T : List Int} {i : Nat} {x : Int} {s : Int × Int} (h : T[i]? = some x) : (T.take (i + 1)).foldl K75.back s = K75.back ((T.take i).foldl K75.back s) x := by
  rw [List.take_add_one, h, List.foldl_append]
  rfl
theorem fine_take {a : Int} {T : List Int} (h : ∀ x ∈ a :: T, 2 ≤ x ∧ x ≤ 1000) : ∀ i, K75.Fine ((T.take i).foldl K75.back (a, 1)) := by
  have main : ∀ (L : List Int) (s : Int × Int), (∀ x ∈ L, 2 ≤ x) → K75.Fine s → K75.Fine (L.foldl K75.back s) := by
    intro L
    induction L with
    | nil => exact fun s _ f => f
    | cons y r ih => exact fun s hy f => ih _ (fun x hx => hy x (List.mem_cons_of_mem _ hx)) (f.back (hy y List.mem_cons_self))
  exact fun i => main _ _ (fun x hx => (h x (List.mem_cons_of_mem _ (List.mem_of_mem_take hx))).1) (K75.fine_first (h a List.mem_cons_self).1)
section
variable {P : Program} {w : World} {K : PySem.W.Frag} {mg : Str → Option Value} {base : Heap}
theorem scF : FnScope ["row", "one", "found"] ["row"] (defScope sFrom) := ⟨rfl, rfl, rfl, by decide +kernel, rfl, by decide +kernel, by decide +kernel⟩
theorem ok_from {f fI fM fO fR fG : Addr} {fd fdI fdM fdO fdR fdG : FuncData} {tF tS : Tok} (F : Fun K "from_steps" "from_steps" sFrom f fd) (FI : Fun K "is_in" "is_in" sIsIn fI fdI) (bI : Binds K fdI ["value", "least", "most"] []) (gI : mg "is_in" = some (.ref fI))
    (FM : Fun K "minus" "minus" sMinus fM fdM) (bM : Binds K fdM ["one", "other"] []) (gM : mg "minus" = some (.ref fM)) (FO : Fun K "over" "over" sOver fO fdO) (bO : Binds K fdO ["one", "other"] []) (gO : mg "over" = some (.ref fO))
    (FR : Fun K "reduced" "reduced" sReduced fR fdR) (bR : Binds K fdR ["numerator", "denominator"] []) (gR : mg "reduced" = some (.ref fR))
    (FG : Fun K "gcd" "gcd" sGcd fG fdG) (bG : Binds K fdG ["one", "other"] []) (gG : mg "gcd" = some (.ref fG)) (mA : mg "abs" = none) (mIs : mg "isinstance" = none) (mI : mg "int" = none) (mB : mg "bool" = none) (mL : mg "len" = none) (mT : mg "tuple" = none)
    (gFar : mg "FAR" = some (.int 1000 tF)) (gMo : mg "MOST_STEPS" = some (.int 60 tS)) : FnOk P w K mg base CX0 4 f fd ["row"] spFrom := by
  have GI : FnOk P w K mg base CX0 1 fI fdI ["value", "least", "most"] spIsIn := ok_isin FI mIs mI mB
  have GM : FnOk P w K mg base CX0 3 fM fdM ["one", "other"] spMinus := ok_minus FM FR bR gR FG bG gG mA
  have GO : FnOk P w K mg base CX0 3 fO fdO ["one", "other"] spOver := ok_over FO FR bR gR FG bG gG mA
  refine F.ok scF (fun vs H Q E h => ?_) (fun cdv A outer s H vs Q E hr h => ?_)
  · obtain ⟨p, a, T, rfl, _⟩ := h
    rfl
  · obtain ⟨p, a, T, rfl, hp, hlen, hall, q⟩ := h
    have hr1 : Room 1 _ := hr.mono (by decide)
    refine ⟨_, pss_cons (ps_if (PW.pt (pw_or (pt_not (pt_val (pe_callB call_isi (by rfl) mIs (by decide +kernel) (pa_cons (pv 0) (pa_cons (pe_bltn (v := .ty "tuple") (u := .type "tuple") (by rfl) mT (by decide +kernel) rfl) pa_nil)))))
          (pw_or1 (pt_not (pt_chain op_le op_le pe_int (pe_callB call_len_seq (by rfl) mL PySem.boot_len (pa_cons (pv 0) pa_nil)) (pe_glob (v := .int 60) (by rfl) gMo ⟨_, rfl⟩)))))) (pss_one ps_never) pss_nil)
      (pss_cons (ps_if (pt_cmpR (op_neD hr.units) (pe_lc (own := [("one", 1)]) (g := gName 1) (by rfl) scF.nd (pi_tup (pv 0)) (blkOk_by (N := ["row", "one", "found"]) (sc := defScope sFrom) (own := [("one", 1)]) (by decide +kernel)) (fun _ _ _ _ _ => pg_name (i := 1) scF.nd rfl (Or.inl rfl))
          (fun _ _ _ _ _ => pts_one (pt_not (pt_val (pe_call GI hr1 (by rfl) gI FI.kp bI .nil pass0 (pa_cons (pv 1) (pa_cons pe_int (pa_cons (pe_glob (v := .int 1000) (by rfl) gFar ⟨_, rfl⟩) pa_nil)))))))
          (fun _ _ _ _ _ => pv 1)) (pe_lst pa_nil) (nomark _)) (pss_one ps_never) pss_nil)
      (pss_cons (ps_set (i := 2) scF.nd rfl (.inl rfl) (pe_tup (pa_cons (pe_ix ix_tup (pv 0) (pe_un un_neg pe_int) (fun _ _ => rfl)) (pa_cons pe_int pa_nil))))
      (pss_cons (ps_for PassesOwn.never rfl (pi_tup (pe_sliceBack (pv 0) (po_some (pe_un un_neg pe_int)))) (pg_name (i := 1) scF.nd rfl (.inl rfl))
        (pss_one (ps_set (i := 2) scF.nd rfl (.inl rfl) (pe_call GM hr (by rfl) gM FM.kp bM .nil pass0 (pa_cons (pe_tup (pa_cons (pv 1) (pa_cons pe_int pa_nil)))
          (pa_cons (pe_call GO hr (by rfl) gO FO.kp bO .nil pass0 (pa_cons (pe_tup (pa_cons pe_int (pa_cons pe_int pa_nil))) (pa_cons (pv 2) pa_nil))) pa_nil))))))
      (pss_one (ps_ret (pv 2)))))), ?_⟩
    have hl : (((a :: T).map V.int).reverse).length = T.length + 1 := by
      rw [List.length_reverse, List.length_map, List.length_cons]
    -- the first test
    refine ⟨.ref p, rfl, .ref p, .ty "tuple", .type "tuple", .type "tuple", true, rfl, .ty "tuple", .base (.tup hp), kit_ty (by decide +kernel), true, rfl, iteF ?_⟩
    refine ⟨.ref p, rfl, p, _, rfl, .inr (SqT.of hp), 1, _, rfl, rfl, true, ?_, iteT ?_⟩
    · rw [hl]
      exact congrArg V.bl (decide_eq_true (by omega))
    refine ⟨_, 60, rfl, rfl, true, ?_, iteF ?_⟩
    · rw [hl]
      exact congrArg V.bl (decide_eq_true (by omega))
    -- the second test: the list of bad steps is empty
    refine ⟨.ref p, rfl, p, rfl, ⟨_, SqT.of hp⟩, fun D hD => ?_⟩
    have s1 : Same H (upd H D (.lst [])) := same_upd hD
    refine lc_tup (K := K) (a := p) (xs := ((a :: T).map V.int).reverse) (fun i H' => H' = upd H D (.lst [])) rfl (fun i H' _ e => ?_) ?_ (fun H' e => ?_)
    · subst e
      exact SqT.of (s1 _ _ hp)
    · rintro i y H' hy rfl
      obtain ⟨x, hx, rfl⟩ : ∃ x ∈ a :: T, y = V.int x := by
        have hm := List.mem_of_getElem? hy
        rw [List.mem_reverse, List.mem_map] at hm
        obtain ⟨x, hx, e⟩ := hm
        exact ⟨x, hx, e.symm⟩
      obtain ⟨b1, b2⟩ := hall x hx
      have e1 : (decide (2 ≤ x) && decide (x ≤ 1000)) = true := by
        rw [decide_eq_true b1, decide_eq_true b2]
        rfl
      refine ⟨rfl, .int x, rfl, x, 2, 1000, rfl, true, congrArg V.bl e1, iteF ?_⟩
      rfl
    · subst e
      refine ⟨Nat.zero_le _, fun D2 hD2 => ?_⟩
      have s2 : Same (upd H D (.lst [])) (upd (upd H D (.lst [])) D2 (.lst [])) := same_upd hD2
      have s12 := s1.trans s2
      refine ⟨.list [], .list [], .lst (SqL.of (s2 _ _ upd_same)) .nil, .lst (SqL.of upd_same) .nil, by decide +kernel, by decide +kernel, false, by decide +kernel, iteF ?_⟩
      -- found = (row[-1], 1)
      have hz : ((a :: T).map V.int).reverse = (T.map V.int).reverse ++ [V.int a] := by
        rw [List.map_cons, List.reverse_cons]
      refine ⟨.ref p, rfl, 1, rfl, p, _, -1, .int a, rfl, rfl, SqT.of (s12 _ _ hp), by rw [hz]; exact atI_last _ _, by show 2 ≤ sizeLine; decide, fun g hg => ?_⟩
      have s3 : Same H (upd (upd (upd H D (.lst [])) D2 (.lst [])) g (.tup [.int a, .int 1])) := s12.trans (same_upd hg)
      -- row[-2::-1]
      refine ⟨.ref p, rfl, 2, rfl, -2, rfl, p, _, T.length, rfl, SqT.of (s3 _ _ hp), by rw [hl]; omega, by rw [hl]; exact adjust_but (by omega), fun z hz2 => ?_⟩
      have s4 := s3.trans (same_upd (o := .tup ((((a :: T).map V.int).reverse).take T.length).reverse) hz2)
      have hcut : ((((a :: T).map V.int).reverse).take T.length).reverse = T.map V.int := by
        rw [hz, List.take_append_of_le_length (by rw [List.length_reverse, List.length_map]; exact Nat.le_refl _), List.take_of_length_le (by rw [List.length_reverse, List.length_map]; exact Nat.le_refl _), List.reverse_reverse]
      rw [hcut] at s4 ⊢
      have gz : g ≠ z := ne_of_none upd_same hz2
      refine ⟨z, rfl, ⟨_, SqT.of upd_same⟩, for_tup (K := K) (a := z) (xs := T.map V.int) (fun i σ H' => ∃ (y : Option V) (r : Addr), σ = [some (.ref p), y, some (.ref r)] ∧ Same H H' ∧ H' z = some (.tup (T.map V.int)) ∧
        H' r = some (.tup [.int ((T.take i).foldl K75.back (a, 1)).1, .int ((T.take i).foldl K75.back (a, 1)).2])) ?_ ?_ ?_ ?_⟩
      · exact ⟨none, g, rfl, s4, upd_same, by rw [upd_ne gz]; exact upd_same⟩
      · rintro i σ H' _ ⟨y, r, rfl, sm, ez, er⟩
        exact SqT.of ez
      · rintro i v σ H' hv ⟨y, r, rfl, sm, ez, er⟩
        obtain ⟨x, hx, rfl⟩ : ∃ x, T[i]? = some x ∧ v = V.int x := by
          rw [List.getElem?_map] at hv
          cases e : T[i]? with
          | none =>
            rw [e] at hv
            cases hv
          | some x =>
            rw [e] at hv
            exact ⟨x, rfl, (Option.some.inj hv).symm⟩
        have fi := fine_take hall i
        have step := back_take (s := (a, 1)) hx
        obtain ⟨b1, b2⟩ := hall x (List.mem_cons_of_mem _ (List.mem_of_getElem? hx))
        have fb := fi.back b1
        -- minus((one, 1), over((1, 1), found))
        refine ⟨.int x, rfl, by show 2 ≤ sizeLine; decide, fun u hu => ?_⟩
        have su : Same H' (upd H' u (.tup [.int x, .int 1])) := same_upd hu
        refine ⟨by show 2 ≤ sizeLine; decide, fun v hv2 => ?_⟩
        have sv : Same (upd H' u (.tup [.int x, .int 1])) (upd (upd H' u (.tup [.int x, .int 1])) v (.tup [.int 1, .int 1])) := same_upd hv2
        refine ⟨.ref r, rfl, v, r, _, _, rfl, upd_same, (su.trans sv) _ _ er, Int.lt_trans fi.lo fi.lt, fi.cop, fun o ho => ?_⟩
        have so := (su.trans sv).trans (same_upd (o := .tup [.int ((T.take i).foldl K75.back (a, 1)).2, .int ((T.take i).foldl K75.back (a, 1)).1]) ho)
        refine ⟨u, o, x, _, _, rfl, (sv.trans (same_upd ho)) _ _ upd_same, upd_same, by omega, by omega, Int.lt_trans fi.lo fi.lt, fb.cop, fun k hk => ?_⟩
        refine ⟨_, k, rfl, sm.trans (so.trans (same_upd hk)), (so.trans (same_upd hk)) _ _ ez, ?_⟩
        rw [upd_same, step]
        rfl
      · rintro σ H' ⟨y, r, rfl, sm, ez, er⟩
        rw [List.length_map, List.take_length] at er
        refine ⟨.ref r, rfl, q _ _ sm ?_⟩
        rw [er]
        have e0 : K75.whole (a :: T) = T.foldl K75.back (a, 1) := by
          show T.foldl K75.back (K75.back (1, 0) a) = _
          have : K75.back (1, 0) a = (a, 1) := by
            show (a * 1 - 0, (1 : Int)) = (a, 1)
            rw [Int.mul_one, Int.sub_zero]
          rw [this]
        rw [e0]
end
end W75
namespace W75
open PySem PySem.Spec PyProof.Rows L2
/-! ### the law's draws -/
/-- the row of draws at r: the script, three ints -/
structure RowAt (K : PySem.W.Frag) (a r : Addr) (ns : List Int) (H : Hp) : Prop where
  script : SqL K H a (ns.map V.int)
  row : ∃ i x y : Int, 0 ≤ i ∧ H r = some (.lst [.ref a, .int i, .int x, .int y])
/-- all but r stands -/
def But (r : Addr) (H H' : Hp) : Prop := ∀ b o, b ≠ r → H b = some o → H' b = some o
theorem But.refl (r : Addr) (H : Hp) : But r H H := fun _ _ _ e => e
theorem But.trans {r : Addr} {H H1 H2 : Hp} (a : But r H H1) (b : But r H1 H2) : But r H H2 := fun c o h e => b c o h (a c o h e)
theorem but_upd {r : Addr} {H : Hp} {o : HO} : But r H (upd H r o) := fun b u h e => by
  rw [upd_ne h]
  exact e
/-- the script is not the row -/
theorem script_upd {K : PySem.W.Frag} {H : Hp} {a b r : Addr} {ns : List Int} {t : List V} {o : HO} (h : SqL K H a (ns.map V.int)) (hr : H r = some (.lst (.ref b :: t))) : SqL K (upd H r o) a (ns.map V.int) := by
  rcases h with (h | ⟨u, h⟩) | h
  · have ne : a ≠ r := by
      rintro rfl
      rw [hr] at h
      injection h with h
      injection h with h
      cases ns with
      | nil => cases h
      | cons n ns =>
        rw [List.map_cons] at h
        injection h with h _
        cases h
    exact .inl (.inl (by rw [upd_ne ne]; exact h))
  · have ne : a ≠ r := by
      rintro rfl
      rw [hr] at h
      cases h
    exact .inl (.inr ⟨u, by rw [upd_ne ne]; exact h⟩)
  · exact .inr h
theorem rowAt_upd {K : PySem.W.Frag} {a r : Addr} {ns : List Int} {H : Hp} {b : Addr} {t : List V} {i x y : Int} (h : SqL K H a (ns.map V.int)) (hr : H r = some (.lst (.ref b :: t))) (hi : 0 ≤ i) : RowAt K a r ns (upd H r (.lst [.ref a, .int i, .int x, .int y])) :=
  ⟨script_upd h hr, i, x, y, hi, upd_same⟩
theorem RowAt.same {K : PySem.W.Frag} {a r : Addr} {ns : List Int} {H H' : Hp} (h : RowAt K a r ns H) (s : Same H H') : RowAt K a r ns H' := by
  obtain ⟨i, x, y, hi, e⟩ := h.row
  exact ⟨s.seq h.script, i, x, y, hi, s _ _ e⟩
def spTaken (K : PySem.W.Frag) : Sp := fun vs H Q _ => ∃ (a r : Addr) (ns : List Int) (many : Int), vs = [.ref r, .int many] ∧ RowAt K a r ns H ∧ 0 < many ∧ many ≤ 1000000 ∧
  ∀ (v : Int) (H' : Hp), 0 ≤ v → v < many → RowAt K a r ns H' → But r H H' → Q (.int v) H'
def spTwo (K : PySem.W.Frag) : Sp := fun vs H Q _ => ∃ (a r : Addr) (ns : List Int) (most : Int), vs = [.ref r, .int most] ∧ RowAt K a r ns H ∧ 0 < most ∧ most ≤ 1900 ∧
  ∀ (u v : Int) (H' : Hp) (p : Addr), 1 ≤ u → u ≤ 1900 → 1 ≤ v → v ≤ 1900 → Int.gcd u v = 1 → RowAt K a r ns H' → But r H H' → H' p = some (.tup [.int u, .int v]) → Q (.ref p) H'
def spPick (K : PySem.W.Frag) : Sp := fun vs H Q _ => ∃ (a r t : Addr) (ns : List Int), vs = [.ref r, .ref t] ∧ RowAt K a r ns H ∧ H t = some (.lst [.int 12, .int 300, .int 1900]) ∧
  ∀ (v : Int) (H' : Hp), 0 < v → v ≤ 1900 → RowAt K a r ns H' → But r H H' → Q (.int v) H'
section
variable {P : Program} {w : World} {K : PySem.W.Frag} {mg : Str → Option Value} {base : Heap}
theorem scT : FnScope ["_law_row", "_law_many", "_law_found", "_law_cell"] ["_law_row", "_law_many"] (defScope sTaken) := ⟨rfl, rfl, rfl, by decide +kernel, rfl, by decide +kernel, by decide +kernel⟩
theorem scLg : FnScope ["_law_one", "_law_other"] ["_law_one", "_law_other"] (defScope sLgcd) := ⟨rfl, rfl, rfl, by decide +kernel, rfl, by decide +kernel, by decide +kernel⟩
theorem scTw : FnScope ["_law_row", "_law_most", "_law_a", "_law_b", "_law_common"] ["_law_row", "_law_most"] (defScope sTwo) := ⟨rfl, rfl, rfl, by decide +kernel, rfl, by decide +kernel, by decide +kernel⟩
theorem scP : FnScope ["_law_row", "_law_things"] ["_law_row", "_law_things"] (defScope sPick) := ⟨rfl, rfl, rfl, by decide +kernel, rfl, by decide +kernel, by decide +kernel⟩

theorem ok_lgcd {f : Addr} {fd : FuncData} (F : Fun K "_law_gcd" "_law_gcd" sLgcd f fd) (mA : mg "abs" = none) (mI : mg "int" = none) : FnOk P w K mg base CX0 1 f fd ["_law_one", "_law_other"] spGcd := by
  refine F.ok scLg (fun vs H Q E h => ?_) (fun cdv A outer s H vs Q E hr h => ?_)
  · obtain ⟨a, b, rfl, _⟩ := h
    rfl
  · obtain ⟨a, b, rfl, q⟩ := h
    refine ⟨_, pss_cons (ps_par (i := 0) (j := 1) rfl scLg.nd rfl rfl (by decide) rfl rfl (pa_cons (pe_callB call_abs (by rfl) mA (by decide +kernel) (pa_cons (pv 0) pa_nil)) (pa_cons (pe_callB call_abs (by rfl) mA (by decide +kernel) (pa_cons (pv 1) pa_nil)) pa_nil)) (by rfl))
      (pss_cons (ps_while PassesOwn.never (pt_cmpR op_ne (pv 1) pe_int (nomark _)) (pss_one (ps_par (i := 0) (j := 1) rfl scLg.nd rfl rfl (by decide) rfl rfl (pa_cons (pv 1) (pa_cons (pe_op op_mod (pe_callTy call_int1 (by rfl) mI (by decide +kernel) (pa_cons (pv 0) pa_nil)) (pv 1)) pa_nil)) (by rfl))))
      (pss_one (ps_ret (pv 0)))), ?_⟩
    refine ⟨.int a, rfl, a, rfl, .int b, rfl, b, rfl, _, _, rfl, ?_⟩
    refine ⟨fun m σ H' => ∃ x y : Int, σ = [some (.int x), some (.int y)] ∧ H' = H ∧ 0 ≤ x ∧ 0 ≤ y ∧ Int.gcd x y = Int.gcd a b ∧ m = y.toNat, ⟨_, _, _, rfl, rfl, by split <;> omega, by split <;> omega, K75.gcd_abs a b, rfl⟩, ?_⟩
    rintro m σ H' ⟨x, y, rfl, rfl, hx, hy, hg, rfl⟩
    refine ⟨.int y, rfl, rfl, _, rfl, ite2 (fun c => ?_) (fun c => ?_)⟩
    · have hy0 : y ≠ 0 := fun e => by
        subst e
        exact absurd c (by decide)
      have hyp : 0 < y := by omega
      refine ⟨fun σ' H2 => σ' = [some (.int y), some (.int (x % y))] ∧ H2 = H', fun σ' H2 hN => ?_, ?_⟩
      · obtain ⟨e1, e2⟩ := hN
        have r0 := Int.emod_nonneg x hy0
        have r1 := Int.emod_lt_of_pos x hyp
        exact ⟨(x % y).toNat, by omega, y, x % y, e1, e2, hy, r0, (K75.gcd_turn hx hyp).trans hg, rfl⟩
      · exact ⟨.int y, rfl, .int x, rfl, .inl ⟨x, rfl, .int y, rfl, x, y, rfl, rfl, hyp, _, _, rfl, rfl, rfl⟩⟩
    · have hy0 : y = 0 := by
        by_cases e : y = 0
        · exact e
        · refine absurd ?_ c
          rw [decide_eq_false (fun z => e (V.int.inj z))]
          rfl
      subst hy0
      refine ⟨.int x, rfl, ?_⟩
      have e : ((Int.gcd a b : Nat) : Int) = x := by
        rw [← hg, Int.gcd_zero_right]
        omega
      rw [e] at q
      exact q

theorem ok_taken {f : Addr} {fd : FuncData} (F : Fun K "_law_taken" "_law_taken" sTaken f fd) (mI : mg "int" = none) (mL : mg "len" = none) : FnOk P w K mg base CX0 1 f fd ["_law_row", "_law_many"] (spTaken K) := by
  refine F.ok scT (fun vs H Q E h => ?_) (fun cdv A outer s H vs Q E hr h => ?_)
  · obtain ⟨a, r, ns, many, rfl, _⟩ := h
    rfl
  · obtain ⟨a, r, ns, many, rfl, ⟨hS, i, x, y, hi, hR⟩, m0, m1, q⟩ := h
    refine ⟨_, pss_cons (ps_if (pt_cmpR op_gt (pe_ix ix_list (pv 0) pe_int (fun _ _ => rfl)) pe_int (nomark _))
        (pss_cons (ps_set (i := 2) scT.nd rfl (.inl rfl) (pe_op op_mod (pe_callTy call_int1 (by rfl) mI (by decide +kernel) (pa_cons (pe_ix ix_list (pv 0) pe_int (fun _ _ => rfl)) pa_nil)) (pv 1)))
        (pss_cons (ps_asg (pe_op op_fdiv (pe_ix ix_list (pv 0) pe_int (fun _ _ => rfl)) (pv 1)) (pg_sub (pv 0) pe_int set_list))
        (pss_one (ps_ret (pv 2))))) pss_nil)
      (pss_cons (ps_asg (pe_op op_add (pe_ix ix_list (pv 0) pe_int (fun _ _ => rfl)) pe_int) (pg_sub (pv 0) pe_int set_list))
      (pss_cons (ps_if (pt_cmpR op_gt (pe_ix ix_list (pv 0) pe_int (fun _ _ => rfl)) (pe_callB call_len_seq (by rfl) mL PySem.boot_len (pa_cons (pe_ix ix_list (pv 0) pe_int (fun _ _ => rfl)) pa_nil)) (nomark _))
        (pss_cons (ps_asg (pe_op op_mod (pe_callTy call_int1 (by rfl) mI (by decide +kernel) (pa_cons (pe_op op_add (pe_op op_mul (pe_ix ix_list (pv 0) pe_int (fun _ _ => rfl)) pe_int) pe_int) pa_nil)) pe_int) (pg_sub (pv 0) pe_int set_list))
        (pss_one (ps_ret (pe_op op_mod (pe_callTy call_int1 (by rfl) mI (by decide +kernel) (pa_cons (pe_op op_fdiv (pe_ix ix_list (pv 0) pe_int (fun _ _ => rfl)) pe_int) pa_nil)) (pv 1))))) pss_nil)
      (pss_cons (ps_set (i := 3) scT.nd rfl (.inl rfl) (pe_ix ix_list (pe_ix ix_list (pv 0) pe_int (fun _ _ => rfl)) (pe_op op_sub (pe_ix ix_list (pv 0) pe_int (fun _ _ => rfl)) pe_int) (fun _ _ => rfl)))
      (pss_cons (ps_asg (pe_op op_mod (pe_callTy call_int1 (by rfl) mI (by decide +kernel) (pa_cons (pe_op op_add (pe_op op_add (pe_op op_mul (pe_ix ix_list (pv 0) pe_int (fun _ _ => rfl)) pe_int) (pv 3)) pe_int) pa_nil)) pe_int) (pg_sub (pv 0) pe_int set_list))
      (pss_cons (ps_if (pt_cmpR op_ge (pv 3) (pe_op op_pow pe_int pe_int) (nomark _)) (pss_one (ps_asg (pe_op op_fdiv (pv 3) (pv 1)) (pg_sub (pv 0) pe_int set_list))) pss_nil)
      (pss_one (ps_ret (pe_op op_mod (pe_callTy call_int1 (by rfl) mI (by decide +kernel) (pa_cons (pv 3) pa_nil)) (pv 1))))))))), ?_⟩
    have fin : ∀ (z : Int) (H' : Hp), RowAt K a r ns H' → But r H H' → Q (.int (z % many)) H' := fun z H' h1 h2 => q _ H' (Int.emod_nonneg z (by omega)) (Int.emod_lt_of_pos z m0) h1 h2
    -- if row[3] > 0
    refine ⟨.ref r, rfl, r, _, 3, .int y, rfl, rfl, SqL.of hR, atI_nat (j := 3) rfl, y, 0, rfl, rfl, _, rfl, ite2 (fun c => ?_) (fun c => ?_)⟩
    · refine ⟨.ref r, rfl, r, _, 3, .int y, rfl, rfl, SqL.of hR, atI_nat (j := 3) rfl, .inl ⟨y, rfl, .int many, rfl, y, many, rfl, rfl, m0, ?_⟩⟩
      refine ⟨.ref r, rfl, r, _, 3, .int y, rfl, rfl, SqL.of hR, atI_nat (j := 3) rfl, .int many, rfl, y, many, rfl, rfl, ⟨m0, by omega⟩, .ref r, rfl, r, _, 3, 3, rfl, rfl, hR, rfl, ?_⟩
      refine ⟨.int (y % many), rfl, fin y _ (rowAt_upd hS hR hi) but_upd⟩
    -- row[1] = row[1] + 1
    · refine ⟨.ref r, rfl, r, _, 1, .int i, rfl, rfl, SqL.of hR, atI_nat (j := 1) rfl, i, 1, rfl, rfl, .ref r, rfl, r, _, 1, 1, rfl, rfl, hR, rfl, ?_⟩
      have R1 : (upd H r (.lst [.ref a, .int (i + 1), .int x, .int y])) r = some (.lst [.ref a, .int (i + 1), .int x, .int y]) := upd_same
      have S1 : SqL K (upd H r (.lst [.ref a, .int (i + 1), .int x, .int y])) a (ns.map V.int) := script_upd hS hR
      show (tSeq _ _) _ _ (upd H r (.lst [.ref a, .int (i + 1), .int x, .int y]))
      -- if row[1] > len(row[0])
      refine ⟨.ref r, rfl, r, _, 1, .int (i + 1), rfl, rfl, SqL.of R1, atI_nat (j := 1) rfl, .ref r, rfl, r, _, 0, .ref a, rfl, rfl, SqL.of R1, atI_nat (j := 0) rfl, a, _, rfl, .inl S1, i + 1, _, rfl, rfl, _, rfl, ite2 (fun d => ?_) (fun d => ?_)⟩
      · refine ⟨.ref r, rfl, r, _, 2, .int x, rfl, rfl, SqL.of R1, atI_nat (j := 2) rfl, x, 48271, rfl, rfl, .inr ⟨by decide, by decide⟩, _, 11, rfl, rfl, .inl ⟨_, rfl, _, 2147483647, rfl, rfl, by show (0 : Int) < 2147483647; decide, .ref r, rfl, r, _, 2, 2, rfl, rfl, R1, rfl, ?_⟩⟩
        refine ⟨.ref r, rfl, r, _, 2, _, rfl, rfl, SqL.of upd_same, atI_nat (j := 2) rfl, _, 7, rfl, rfl, ⟨by decide, by decide⟩, .inl ⟨_, rfl, .int many, rfl, _, many, rfl, rfl, m0, ?_⟩⟩
        exact fin _ _ (rowAt_upd S1 R1 (by omega)) (but_upd.trans but_upd)
      · have hlt : i < ns.length := by
          have q1 : ¬ ((((ns.map V.int).length : Nat) : Int) < i + 1) := fun z => d (decide_eq_true z)
          rw [List.length_map] at q1
          omega
        obtain ⟨j, rfl⟩ : ∃ j : Nat, i = (j : Int) := ⟨i.toNat, by omega⟩
        have hj : j < ns.length := by omega
        have gj : (ns.map V.int)[j]? = some (.int ns[j]) := by
          rw [List.getElem?_map, List.getElem?_eq_getElem hj]
          rfl
        -- cell = row[0][row[1] - 1]
        refine ⟨.ref r, rfl, r, _, 0, .ref a, rfl, rfl, SqL.of R1, atI_nat (j := 0) rfl, .ref r, rfl, r, _, 1, .int ((j : Int) + 1), rfl, rfl, SqL.of R1, atI_nat (j := 1) rfl, _, 1, rfl, rfl, a, _, _, .int ns[j], rfl, rfl, S1, ?_, ?_⟩
        · have e : ((j : Int) + 1) - 1 = (j : Int) := by omega
          rw [e]
          exact atI_nat gj
        -- row[2] = ..
        refine ⟨.ref r, rfl, r, _, 2, .int x, rfl, rfl, SqL.of R1, atI_nat (j := 2) rfl, x, 48271, rfl, rfl, .inr ⟨by decide, by decide⟩, .int ns[j], rfl, _, _, rfl, rfl, _, 11, rfl, rfl, .inl ⟨_, rfl, _, 2147483647, rfl, rfl, by show (0 : Int) < 2147483647; decide, .ref r, rfl, r, _, 2, 2, rfl, rfl, R1, rfl, ?_⟩⟩
        have R2 : (upd (upd H r (.lst [.ref a, .int ((j : Int) + 1), .int x, .int y])) r (.lst [.ref a, .int ((j : Int) + 1), .int ((x * 48271 + ns[j] + 11) % 2147483647), .int y])) r = some (.lst [.ref a, .int ((j : Int) + 1), .int ((x * 48271 + ns[j] + 11) % 2147483647), .int y]) := upd_same
        have S2 : SqL K (upd (upd H r (.lst [.ref a, .int ((j : Int) + 1), .int x, .int y])) r (.lst [.ref a, .int ((j : Int) + 1), .int ((x * 48271 + ns[j] + 11) % 2147483647), .int y])) a (ns.map V.int) := script_upd S1 R1
        -- if cell >= 10 ** 18
        refine ⟨.int ns[j], rfl, 10, 18, rfl, rfl, ⟨by decide, by decide, by decide⟩, ns[j], _, rfl, rfl, _, rfl, ite2 (fun e => ?_) (fun e => ?_)⟩
        · refine ⟨.int ns[j], rfl, .int many, rfl, _, many, rfl, rfl, ⟨m0, by omega⟩, .ref r, rfl, r, _, 3, 3, rfl, rfl, R2, rfl, ?_⟩
          refine ⟨.int ns[j], rfl, .inl ⟨_, rfl, .int many, rfl, _, many, rfl, rfl, m0, ?_⟩⟩
          exact fin _ _ (rowAt_upd S2 R2 (by omega)) ((but_upd.trans but_upd).trans but_upd)
        · refine ⟨.int ns[j], rfl, .inl ⟨_, rfl, .int many, rfl, _, many, rfl, rfl, m0, ?_⟩⟩
          exact fin _ _ ⟨S2, _, _, _, by omega, R2⟩ (but_upd.trans but_upd)
end
end W75
namespace W75
open PySem PySem.Spec PyProof.Rows L2
section
variable {P : Program} {w : World} {K : PySem.W.Frag} {mg : Str → Option Value} {base : Heap}
theorem ok_two {f fT fL : Addr} {fd fdT fdL : FuncData} (F : Fun K "_law_two" "_law_two" sTwo f fd) (FT : Fun K "_law_taken" "_law_taken" sTaken fT fdT) (bT : Binds K fdT ["_law_row", "_law_many"] []) (gT : mg "_law_taken" = some (.ref fT))
    (FL : Fun K "_law_gcd" "_law_gcd" sLgcd fL fdL) (bL : Binds K fdL ["_law_one", "_law_other"] []) (gL : mg "_law_gcd" = some (.ref fL)) (mA : mg "abs" = none) (mI : mg "int" = none) (mL : mg "len" = none) : FnOk P w K mg base CX0 2 f fd ["_law_row", "_law_most"] (spTwo K) := by
  have GT : FnOk P w K mg base CX0 1 fT fdT ["_law_row", "_law_many"] (spTaken K) := ok_taken FT mI mL
  have GL : FnOk P w K mg base CX0 1 fL fdL ["_law_one", "_law_other"] spGcd := ok_lgcd FL mA mI
  refine F.ok scTw (fun vs H Q E h => ?_) (fun cdv A outer s H vs Q E hr h => ?_)
  · obtain ⟨a, r, ns, most, rfl, _⟩ := h
    rfl
  · obtain ⟨a, r, ns, most, rfl, hR, m0, m1, q⟩ := h
    refine ⟨_, pss_cons (ps_par (i := 2) (j := 3) rfl scTw.nd rfl rfl (by decide) rfl rfl (pa_cons (pe_op op_add pe_int (pe_call GT hr (by rfl) gT FT.kp bT .nil pass0 (pa_cons (pv 0) (pa_cons (pv 1) pa_nil))))
          (pa_cons (pe_op op_add pe_int (pe_call GT hr (by rfl) gT FT.kp bT .nil pass0 (pa_cons (pv 0) (pa_cons (pv 1) pa_nil)))) pa_nil)) (by rfl))
      (pss_cons (ps_set (i := 4) scTw.nd rfl (.inl rfl) (pe_call GL hr (by rfl) gL FL.kp bL .nil pass0 (pa_cons (pv 2) (pa_cons (pv 3) pa_nil))))
      (pss_one (ps_ret (pe_tup (pa_cons (pe_op op_fdiv (pv 2) (pv 4)) (pa_cons (pe_op op_fdiv (pv 3) (pv 4)) pa_nil)))))), ?_⟩
    refine ⟨.ref r, rfl, .int most, rfl, a, r, ns, most, rfl, hR, m0, by omega, fun x H1 x0 x1 R1 B1 => ⟨1, x, rfl, rfl, ?_⟩⟩
    refine ⟨.ref r, rfl, .int most, rfl, a, r, ns, most, rfl, R1, m0, by omega, fun y H2 y0 y1 R2 B2 => ⟨1, y, rfl, rfl, _, _, rfl, ?_⟩⟩
    obtain ⟨g0, u1, u2, v1, v2, g1, ga⟩ := K75.parted (a := 1 + x) (b := 1 + y) (by omega) (by omega)
    refine ⟨.int (1 + x), rfl, .int (1 + y), rfl, 1 + x, 1 + y, rfl, ?_⟩
    refine ⟨.int (1 + x), rfl, _, rfl, 1 + x, _, rfl, rfl, ⟨by omega, by omega⟩, .int (1 + y), rfl, _, rfl, 1 + y, _, rfl, rfl, ⟨by omega, by omega⟩, by show 2 ≤ sizeLine; decide, fun p hp => ?_⟩
    exact q _ _ _ p u1 (by omega) v1 (by omega) g1 (R2.same (same_upd hp)) ((B1.trans B2).trans fun b o h e => same_upd hp b o e) upd_same
theorem ok_pick {f fT : Addr} {fd fdT : FuncData} (F : Fun K "_law_pick" "_law_pick" sPick f fd) (FT : Fun K "_law_taken" "_law_taken" sTaken fT fdT) (bT : Binds K fdT ["_law_row", "_law_many"] []) (gT : mg "_law_taken" = some (.ref fT))
    (mI : mg "int" = none) (mL : mg "len" = none) : FnOk P w K mg base CX0 2 f fd ["_law_row", "_law_things"] (spPick K) := by
  have GT : FnOk P w K mg base CX0 1 fT fdT ["_law_row", "_law_many"] (spTaken K) := ok_taken FT mI mL
  refine F.ok scP (fun vs H Q E h => ?_) (fun cdv A outer s H vs Q E hr h => ?_)
  · obtain ⟨a, r, t, ns, rfl, _⟩ := h
    rfl
  · obtain ⟨a, r, t, ns, rfl, hR, hT, q⟩ := h
    refine ⟨_, pss_one (ps_ret (pe_ix ix_list (pv 1) (pe_call GT hr (by rfl) gT FT.kp bT .nil pass0 (pa_cons (pv 0) (pa_cons (pe_callB call_len_seq (by rfl) mL PySem.boot_len (pa_cons (pv 1) pa_nil)) pa_nil))) (fun _ _ => rfl))), ?_⟩
    have ne : t ≠ r := by
      rintro rfl
      obtain ⟨i, x, y, _, e⟩ := hR.row
      rw [hT] at e
      cases e
    refine ⟨.ref t, rfl, .ref r, rfl, .ref t, rfl, t, _, rfl, .inl (SqL.of hT), a, r, ns, 3, rfl, hR, by decide, by decide, fun v H1 v0 v1 R1 B1 => ?_⟩
    have hT1 := B1 _ _ ne hT
    have cases3 : v = 0 ∨ v = 1 ∨ v = 2 := by omega
    rcases cases3 with rfl | rfl | rfl
    · exact ⟨t, _, 0, .int 12, rfl, rfl, SqL.of hT1, atI_nat (j := 0) rfl, q 12 H1 (by decide) (by decide) R1 B1⟩
    · exact ⟨t, _, 1, .int 300, rfl, rfl, SqL.of hT1, atI_nat (j := 1) rfl, q 300 H1 (by decide) (by decide) R1 B1⟩
    · exact ⟨t, _, 2, .int 1900, rfl, rfl, SqL.of hT1, atI_nat (j := 2) rfl, q 1900 H1 (by decide) (by decide) R1 B1⟩
end
end W75
namespace W75
open PySem PySem.Spec PyProof.Rows L2
/-! ### the law's body -/
abbrev lawN : List Str := ["_law_script", "_law_row", "_law_turn", "_law_a", "_law_b", "_law_n", "_law_m", "_law_one", "_law_other", "_law_turned", "_law_top", "_law_below", "_law_x"]
theorem scL : FnScope lawN ["_law_script"] (defScope sLaw) := ⟨rfl, rfl, rfl, by decide +kernel, rfl, by decide +kernel, by decide +kernel⟩
/-- sum([x - 1 for x in slot i]) -/
def tSum (K : PySem.W.Frag) (i : Nat) : TE := tCB (rSum K) (tCons (tLc (iTup K (tVar i)) (gName 12) tYes (tOp (rI0 fun i j => .int (i - j)) (tVar 12) (tC (.int 1))) ([(("_law_x" : Str), 12)].map (·.2))) tNil)
theorem sum_ok {K : PySem.W.Frag} {i : Nat} {σ : L2.St} {H : Hp} {Q : VK} {p : Addr} {l : List Int} (hσ : σ[i]? = some (some (.ref p))) (h13 : σ.length = 13) (hp : H p = some (.tup (l.map V.int))) (hl : l.length ≤ 1900)
    (q : ∀ H', Same H H' → Q (.int (K75.low l)) H') : tSum K i σ H Q := by
  refine ⟨.ref p, hσ, p, rfl, ⟨_, SqT.of hp⟩, fun D hD => ?_⟩
  have s0 : ∀ o, Same H (upd H D o) := fun o => same_upd hD
  refine lc_tup (K := K) (a := p) (xs := l.map V.int) (fun i H' => H' = upd H D (.lst (((l.take i).map (· - 1)).map V.int))) rfl (fun i H' _ e => ?_) ?_ (fun H' e => ?_)
  · subst e
    exact SqT.of (s0 _ _ _ hp)
  · rintro j v H' hv rfl
    obtain ⟨x, hx, rfl⟩ : ∃ x, l[j]? = some x ∧ v = V.int x := by
      rw [List.getElem?_map] at hv
      cases e : l[j]? with
      | none =>
        rw [e] at hv
        cases hv
      | some x =>
        rw [e] at hv
        exact ⟨x, rfl, (Option.some.inj hv).symm⟩
    have hj : j < l.length := (List.getElem?_eq_some_iff.mp hx).1
    refine ⟨?_, .int x, ?_, x, 1, rfl, rfl, _, upd_same, ?_, ?_⟩
    · show ((σ.set 12 none).set 12 (some (.int x))).set 12 none = σ.set 12 none
      rw [List.set_set, List.set_set]
    · show ((σ.set 12 none).set 12 (some (.int x)))[12]? = some (some (.int x))
      rw [List.getElem?_set_self (by rw [List.length_set]; omega)]
    · rw [List.length_map, List.length_map, List.length_take, sizeLine_eq]
      omega
    · show upd (upd H D _) D _ = upd H D _
      rw [upd_upd, List.take_add_one, hx, List.map_append, List.map_append]
      rfl
  · subst e
    rw [List.length_map, List.take_length]
    exact ⟨D, _, rfl, SqL.of upd_same, q _ (s0 _)⟩
/-- (max(a, b), min(a, b)) if a != b else (2, 1) -/
def tNM : TE := tIf (tTest (tOp rNe (tVar 3) (tVar 4)))
  (tTup (tCons (tCB (fun xs H Q => ∃ i j, xs = [.int i, .int j] ∧ Q (.int (if j > i then j else i)) H) (tCons (tVar 3) (tCons (tVar 4) tNil))) (tCons (tCB (fun xs H Q => ∃ i j, xs = [.int i, .int j] ∧ Q (.int (if j < i then j else i)) H) (tCons (tVar 3) (tCons (tVar 4) tNil))) tNil)))
  (tTup (tCons (tC (.int 2)) (tCons (tC (.int 1)) tNil)))
theorem nm_ok {σ : L2.St} {H : Hp} {Q : VK} {u v : Int} (h3 : σ[3]? = some (some (.int u))) (h4 : σ[4]? = some (some (.int v))) (u1 : 1 ≤ u) (u2 : u ≤ 1900) (v1 : 1 ≤ v) (v2 : v ≤ 1900) (hg : Int.gcd u v = 1)
    (q : ∀ (p : Addr) (H' : Hp) (n m : Int), 0 < m → m < n → n ≤ 1900 → Int.gcd n m = 1 → Same H H' → H' p = some (.tup [.int n, .int m]) → Q (.ref p) H') : tNM σ H Q := by
  refine ⟨.int u, h3, .int v, h4, rfl, _, rfl, ite2 (fun c => ?_) (fun c => ?_)⟩
  · have hne : u ≠ v := by
      rintro rfl
      rw [decide_eq_true rfl] at c
      cases c
    refine ⟨.int u, h3, .int v, h4, u, v, rfl, .int u, h3, .int v, h4, u, v, rfl, by show 2 ≤ sizeLine; decide, fun p hp => ?_⟩
    have s1 : ∀ o, Same H (upd H p o) := fun o => same_upd hp
    by_cases hlt : v < u
    · have e1 : (if v > u then v else u) = u := if_neg (by omega)
      have e2 : (if v < u then v else u) = v := if_pos hlt
      rw [e1, e2]
      exact q p _ u v (by omega) hlt u2 hg (s1 _) upd_same
    · have e1 : (if v > u then v else u) = v := if_pos (by omega)
      have e2 : (if v < u then v else u) = u := if_neg hlt
      rw [e1, e2]
      exact q p _ v u (by omega) (by omega) v2 (by rw [Int.gcd_comm]; exact hg) (s1 _) upd_same
  · refine ⟨by show 2 ≤ sizeLine; decide, fun p hp => ?_⟩
    exact q p _ 2 1 (by decide) (by decide) (by decide) (by decide) (same_upd hp) upd_same
/-- what the law's names hold -/
structure Txt (K : PySem.W.Frag) (mg : Str → Option Value) (fI fG fR fM fO fS fF fT fL fW fP : Addr) (fdI fdG fdR fdM fdO fdS fdF fdT fdL fdW fdP : FuncData) : Prop where
  I : Fun K "is_in" "is_in" sIsIn fI fdI
  bI : Binds K fdI ["value", "least", "most"] []
  gI : mg "is_in" = some (.ref fI)
  G : Fun K "gcd" "gcd" sGcd fG fdG
  bG : Binds K fdG ["one", "other"] []
  gG : mg "gcd" = some (.ref fG)
  R : Fun K "reduced" "reduced" sReduced fR fdR
  bR : Binds K fdR ["numerator", "denominator"] []
  gR : mg "reduced" = some (.ref fR)
  M : Fun K "minus" "minus" sMinus fM fdM
  bM : Binds K fdM ["one", "other"] []
  gM : mg "minus" = some (.ref fM)
  O : Fun K "over" "over" sOver fO fdO
  bO : Binds K fdO ["one", "other"] []
  gO : mg "over" = some (.ref fO)
  S : Fun K "steps" "steps" sSteps fS fdS
  bS : Binds K fdS ["n", "m"] []
  gS : mg "steps" = some (.ref fS)
  F : Fun K "from_steps" "from_steps" sFrom fF fdF
  bF : Binds K fdF ["row"] []
  gF : mg "from_steps" = some (.ref fF)
  T : Fun K "_law_taken" "_law_taken" sTaken fT fdT
  bT : Binds K fdT ["_law_row", "_law_many"] []
  gT : mg "_law_taken" = some (.ref fT)
  L : Fun K "_law_gcd" "_law_gcd" sLgcd fL fdL
  bL : Binds K fdL ["_law_one", "_law_other"] []
  gL : mg "_law_gcd" = some (.ref fL)
  W : Fun K "_law_two" "_law_two" sTwo fW fdW
  bW : Binds K fdW ["_law_row", "_law_most"] []
  gW : mg "_law_two" = some (.ref fW)
  P : Fun K "_law_pick" "_law_pick" sPick fP fdP
  bP : Binds K fdP ["_law_row", "_law_things"] []
  gP : mg "_law_pick" = some (.ref fP)
  mA : mg "abs" = none
  mIs : mg "isinstance" = none
  mI : mg "int" = none
  mB : mg "bool" = none
  mL : mg "len" = none
  mT : mg "tuple" = none
  mRg : mg "range" = none
  mMx : mg "max" = none
  mMn : mg "min" = none
  mSm : mg "sum" = none
  gGr : ∃ t, mg "GREAT" = some (.int 1000000000 t)
  gFar : ∃ t, mg "FAR" = some (.int 1000 t)
  gMs : ∃ t, mg "MOST_STEPS" = some (.int 60 t)
  gMo : ∃ t, mg "MOST_SUMS" = some (.int 2000 t)
def spLaw (K : PySem.W.Frag) : Sp := fun vs H Q _ => ∃ (a : Addr) (ns : List Int), vs = [.ref a] ∧ SqL K H a (ns.map V.int) ∧ ∀ H', Q (.bl true) H'
section
variable {P : Program} {w : World} {K : PySem.W.Frag} {mg : Str → Option Value} {base : Heap}
theorem ok_law {f fI fG fR fM fO fS fF fT fL fW fP : Addr} {fd fdI fdG fdR fdM fdO fdS fdF fdT fdL fdW fdP : FuncData} (F : Fun K "law" "law" sLaw f fd) (X : Txt K mg fI fG fR fM fO fS fF fT fL fW fP fdI fdG fdR fdM fdO fdS fdF fdT fdL fdW fdP) :
    FnOk P w K mg base CX0 5 f fd ["_law_script"] (spLaw K) := by
  obtain ⟨tG, gGr⟩ := X.gGr
  obtain ⟨tF, gFar⟩ := X.gFar
  obtain ⟨tS, gMs⟩ := X.gMs
  obtain ⟨tM, gMo⟩ := X.gMo
  have GW : FnOk P w K mg base CX0 2 fW fdW ["_law_row", "_law_most"] (spTwo K) := ok_two X.W X.T X.bT X.gT X.L X.bL X.gL X.mA X.mI X.mL
  have GP : FnOk P w K mg base CX0 2 fP fdP ["_law_row", "_law_things"] (spPick K) := ok_pick X.P X.T X.bT X.gT X.mI X.mL
  have GS : FnOk P w K mg base CX0 2 fS fdS ["n", "m"] spSteps := ok_steps X.S X.I X.bI X.gI X.G X.bG X.gG X.mA X.mIs X.mI X.mB X.mL X.mT gGr gMo
  have GF : FnOk P w K mg base CX0 4 fF fdF ["row"] spFrom := ok_from X.F X.I X.bI X.gI X.M X.bM X.gM X.O X.bO X.gO X.R X.bR X.gR X.G X.bG X.gG X.mA X.mIs X.mI X.mB X.mL X.mT gFar gMs
  refine F.ok scL (fun vs H Q E h => ?_) (fun cdv A outer s H vs Q E hr h => ?_)
  · obtain ⟨a, ns, rfl, _⟩ := h
    rfl
  · obtain ⟨a, ns, rfl, hS, q⟩ := h
    have hr2 : Room 2 _ := hr.mono (by decide)
    refine ⟨_, pss_cons (ps_set (i := 1) scL.nd rfl (.inl rfl) (pe_lst (pa_cons (pv 0) (pa_cons pe_int (pa_cons pe_int (pa_cons pe_int pa_nil))))))
      (pss_cons (ps_for PassesOwn.never rfl (pi_range1 (by rfl) X.mRg (pa_cons pe_int pa_nil)) (pg_name (i := 2) scL.nd rfl (.inl rfl))
        (pss_cons (ps_asg (pe_call GW hr2 (by rfl) X.gW X.W.kp X.bW .nil pass0 (pa_cons (pv 1) (pa_cons (pe_call GP hr2 (by rfl) X.gP X.P.kp X.bP .nil pass0 (pa_cons (pv 1) (pa_cons (pe_lst (pa_cons pe_int (pa_cons pe_int (pa_cons pe_int pa_nil)))) pa_nil))) pa_nil)))
            (pg_tup rfl (pgs_cons (pg_name (i := 3) scL.nd rfl (.inl rfl)) (pgs_cons (pg_name (i := 4) scL.nd rfl (.inl rfl)) pgs_nil))))
        (pss_cons (ps_asg (te := tNM) (pe_ifExp (pt_cmpR op_ne (pv 3) (pv 4) (nomark _))
              (pe_tup (pa_cons (pe_callB (call_max2 rfl) (by rfl) X.mMx (by decide +kernel) (pa_cons (pv 3) (pa_cons (pv 4) pa_nil))) (pa_cons (pe_callB (call_min2 rfl) (by rfl) X.mMn (by decide +kernel) (pa_cons (pv 3) (pa_cons (pv 4) pa_nil))) pa_nil)))
              (pe_tup (pa_cons pe_int (pa_cons pe_int pa_nil))))
            (pg_tup rfl (pgs_cons (pg_name (i := 5) scL.nd rfl (.inl rfl)) (pgs_cons (pg_name (i := 6) scL.nd rfl (.inl rfl)) pgs_nil))))
        (pss_cons (ps_par (i := 7) (j := 8) rfl scL.nd rfl rfl (by decide) rfl rfl (pa_cons (pe_call GS hr2 (by rfl) X.gS X.S.kp X.bS .nil pass0 (pa_cons (pv 5) (pa_cons (pv 6) pa_nil)))
            (pa_cons (pe_call GS hr2 (by rfl) X.gS X.S.kp X.bS .nil pass0 (pa_cons (pv 5) (pa_cons (pe_op op_sub (pv 5) (pv 6)) pa_nil))) pa_nil)) (by rfl))
        (pss_cons (ps_if (pt_cmpR op_ne
            (show PE _ _ (tSum K 7) from pe_callB (cr_sum rfl) (by rfl) X.mSm (by decide +kernel) (pa_cons (pe_lc (own := [("_law_x", 12)]) (g := gName 12) (by rfl) scL.nd (pi_tup (pv 7)) (blkOk_by (N := lawN) (sc := defScope sLaw) (own := [("_law_x", 12)]) (by decide +kernel)) (fun _ _ _ _ _ => pg_name (i := 12) scL.nd rfl (Or.inl rfl)) (fun _ _ _ _ _ => pts_nil) (fun _ _ _ _ _ => pe_op op_sub (pv 12) pe_int)) pa_nil))
            (show PE _ _ (tSum K 8) from pe_callB (cr_sum rfl) (by rfl) X.mSm (by decide +kernel) (pa_cons (pe_lc (own := [("_law_x", 12)]) (g := gName 12) (by rfl) scL.nd (pi_tup (pv 8)) (blkOk_by (N := lawN) (sc := defScope sLaw) (own := [("_law_x", 12)]) (by decide +kernel)) (fun _ _ _ _ _ => pg_name (i := 12) scL.nd rfl (Or.inl rfl)) (fun _ _ _ _ _ => pts_nil) (fun _ _ _ _ _ => pe_op op_sub (pv 12) pe_int)) pa_nil))
            (nomark _)) (pss_one ps_never) pss_nil)
        (pss_cons (ps_if (pt_cmpR op_ne
            (pe_op op_sub (pe_op op_add (pe_callB call_len_seq (by rfl) X.mL PySem.boot_len (pa_cons (pv 7) pa_nil)) (pe_callB call_len_seq (by rfl) X.mL PySem.boot_len (pa_cons (pv 8) pa_nil))) pe_int)
            (show PE _ _ (tSum K 7) from pe_callB (cr_sum rfl) (by rfl) X.mSm (by decide +kernel) (pa_cons (pe_lc (own := [("_law_x", 12)]) (g := gName 12) (by rfl) scL.nd (pi_tup (pv 7)) (blkOk_by (N := lawN) (sc := defScope sLaw) (own := [("_law_x", 12)]) (by decide +kernel)) (fun _ _ _ _ _ => pg_name (i := 12) scL.nd rfl (Or.inl rfl)) (fun _ _ _ _ _ => pts_nil) (fun _ _ _ _ _ => pe_op op_sub (pv 12) pe_int)) pa_nil))
            (nomark _)) (pss_one ps_never) pss_nil)
        (pss_cons (ps_set (i := 9) scL.nd rfl (.inl rfl) (pe_sliceBack (pv 7) po_none))
        (pss_one (ps_if (PW.pt (pw_and (pt_cmpR op_lt (pe_callB call_len_seq (by rfl) X.mL PySem.boot_len (pa_cons (pv 9) pa_nil)) pe_int (nomark _))
              (pw_and1 (pt_cmpR op_lt (pe_callB (cr_maxT rfl hr.units) (by rfl) X.mMx (by decide +kernel) (pa_cons (pv 9) pa_nil)) pe_int (nomark _)))))
            (pss_cons (ps_asg (pe_call GF hr (by rfl) X.gF X.F.kp X.bF .nil pass0 (pa_cons (pv 9) pa_nil)) (pg_tup rfl (pgs_cons (pg_name (i := 10) scL.nd rfl (.inl rfl)) (pgs_cons (pg_name (i := 11) scL.nd rfl (.inl rfl)) pgs_nil))))
            (pss_one (ps_if (PW.pt (pw_or (pt_cmpR op_ne (pv 10) (pv 5) (nomark _))
              (pw_or1 (pt_cmpR op_ne (pe_op op_mod (pe_callTy call_int1 (by rfl) X.mI (by decide +kernel) (pa_cons (pe_op op_mul (pv 11) (pv 6)) pa_nil)) (pv 5)) (pe_op op_mod pe_int (pv 5)) (nomark _))))) (pss_one ps_never) pss_nil)))
            pss_nil)))))))))
      (pss_one (ps_ret pe_bl))), ?_⟩
    -- row = [script, 0, 3375, 0]
    refine ⟨.ref a, rfl, by show 4 ≤ sizeLine; decide, fun r nr => ?_⟩
    have R0 : RowAt K a r ns (upd H r (.lst [.ref a, .int 0, .int 3375, .int 0])) := ⟨(same_upd nr).seq hS, 0, 3375, 0, by decide, upd_same⟩
    refine ⟨3, rfl, by decide, by decide, for_range (lo := 0) (n := 3) (fun i σ H' => ∃ y2 y3 y4 y5 y6 y7 y8 y9 y10 y11 y12 : Option V, σ = [some (.ref a), some (.ref r), y2, y3, y4, y5, y6, y7, y8, y9, y10, y11, y12] ∧ RowAt K a r ns H')
      ⟨none, none, none, none, none, none, none, none, none, none, none, rfl, R0⟩ ?_ (fun σ H' _ => q H')⟩
    rintro i σ H' hi ⟨y2, y3, y4, y5, y6, y7, y8, y9, y10, y11, y12, rfl, R1⟩
    -- a, b = _law_two(row, _law_pick(row, [12, 300, 1900]))
    refine ⟨.ref r, rfl, .ref r, rfl, by show 3 ≤ sizeLine; decide, fun t ht => ?_⟩
    refine ⟨a, r, t, ns, rfl, R1.same (same_upd ht), upd_same, fun v H2 v0 v1 R2 _ => ⟨a, r, ns, v, rfl, R2, v0, v1, fun x y H3 p x1 x2 y1 y2' hg R3 _ e3 => ?_⟩⟩
    refine ⟨p, _, rfl, SqT.of e3, rfl, .int x, [.int y], rfl, .int y, [], rfl, rfl, ?_⟩
    -- n, m
    refine nm_ok (u := x) (v := y) rfl rfl x1 x2 y1 y2' hg (fun p2 H4 n m m0 mn n9 hg2 s4 e4 => ?_)
    have R4 := R3.same s4
    refine ⟨p2, _, rfl, SqT.of e4, rfl, .int n, [.int m], rfl, .int m, [], rfl, rfl, ?_⟩
    -- one, other
    refine ⟨.int n, rfl, .int m, rfl, n, m, rfl, m0, mn, n9, hg2, fun A H5 pA hA lA s5 eA => ?_⟩
    refine ⟨.int n, rfl, .int n, rfl, .int m, rfl, n, m, rfl, rfl, n, n - m, rfl, by omega, by omega, n9, (K75.cop_of hg2).other.gcd, fun B H6 pB hB lB s6 eB => ⟨_, _, rfl, ?_⟩⟩
    obtain ⟨d1, d2⟩ := K75.dual n.toNat (Nat.le_refl _) m0 mn hA hB
    have eA6 := s6 _ _ eA
    -- the sums
    refine sum_ok (p := pA) (l := A) rfl rfl eA6 lA (fun H7 s7 => sum_ok (p := pB) (l := B) rfl rfl (s7 _ _ eB) lB (fun H8 s8 => ⟨rfl, _, rfl, iteNS (congrArg V.int (d1.trans d2.symm)) ?_⟩))
    have s68 := s7.trans s8
    have eA8 := s68 _ _ eA6
    have eB8 := s68 _ _ eB
    -- the lengths
    refine ⟨.ref pA, rfl, pA, _, rfl, .inr (SqT.of eA8), .ref pB, rfl, pB, _, rfl, .inr (SqT.of eB8), _, _, rfl, rfl, _, 1, rfl, rfl, ?_⟩
    refine sum_ok (p := pA) (l := A) rfl rfl eA8 lA (fun H9 s9 => ⟨rfl, _, rfl, iteNS (congrArg V.int (by rw [List.length_map, List.length_map]; exact d1.symm)) ?_⟩)
    have eA9 := s9 _ _ eA8
    -- turned
    refine ⟨.ref pA, rfl, pA, _, (A.map V.int).length, rfl, SqT.of eA9, Nat.le_refl _, adjust_all _, fun pT nT => ?_⟩
    rw [List.take_length]
    have sT := same_upd (o := .tup (A.map V.int).reverse) nT
    have R9 : RowAt K a r ns (upd H9 pT (.tup (A.map V.int).reverse)) := (R4.same ((s5.trans s6).trans (s68.trans s9))).same sT
    obtain ⟨c, T, rfl, c1, c2, hT⟩ := hA.inv m0
    refine ⟨.ref pT, rfl, pT, _, rfl, .inr (SqT.of upd_same), _, 60, rfl, rfl, _, rfl, ite2 (fun k1 => ?_) (fun k1 => ?_)⟩
    · have hlen : T.length < 60 := by
        have z := of_decide_eq_true k1
        rw [List.length_reverse, List.length_map, List.length_cons] at z
        omega
      refine ⟨.ref pT, rfl, pT, (c :: T).reverse, rfl, by simp, SqT.of (by rw [upd_same, List.map_reverse]), fun mx hmx hle => ⟨mx, 1000, rfl, rfl, _, rfl, ite2 (fun k2 => ?_) (fun k2 => ?_)⟩⟩
      · have hmx2 : mx < 1000 := of_decide_eq_true k2
        have hall : ∀ z ∈ c :: T, 2 ≤ z ∧ z ≤ 1000 := fun z hz => ⟨hA.ge2 mn z hz, by
          have := hle z (List.mem_reverse.mpr hz)
          omega⟩
        obtain ⟨b, hb, hd⟩ := K75.whole_of hA
        refine ⟨.ref pT, rfl, pT, c, T, rfl, upd_same, hlen, hall, fun H10 z s10 e10 => ?_⟩
        rw [hb] at e10
        refine ⟨z, _, rfl, SqT.of e10, rfl, .int n, [.int b], rfl, .int b, [], rfl, rfl, ?_⟩
        have hmod : b * m % n = 1 % n := K75.one_mod hd
        refine ⟨.int n, rfl, .int n, rfl, rfl, false, by rw [decide_eq_true rfl]; rfl, iteF ?_⟩
        refine ⟨.int b, rfl, .int m, rfl, b, m, rfl, rfl, .inr ⟨by omega, by omega⟩, .inl ⟨_, rfl, .int n, rfl, _, n, rfl, rfl, by show 0 < n; omega, .int n, rfl, 1, n, rfl, rfl, by show 0 < n; omega, rfl, _, rfl, iteNS (congrArg V.int hmod) ?_⟩⟩
        exact ⟨_, _, _, _, _, _, _, _, _, _, _, rfl, R9.same s10⟩
      · exact ⟨_, _, _, _, _, _, _, _, _, _, _, rfl, R9⟩
    · exact ⟨_, _, _, _, _, _, _, _, _, _, _, rfl, R9⟩
end
end W75
namespace W75
open PySem PySem.Spec PyProof.Rows L2
/-! ### what the top has written; the law's own head -/
theorem all_mk {l : PySem.W.OpenLaw} {w : World} {K : PySem.W.Frag} {h : Heap} {mg : Str → Option Value} {fa fI fG fR fM fO fS fF fT fL fW fP fZ : Addr} (X : K.In h) (G : h.Ns mainGlobals mg) (hfa : mg "law" = some (.ref fa))
    {odI anI odG anG odR anR odM anM odO anO odS anS odF anF odT anT odL anL odW anW odP anP odZ anZ : Option Addr} {slI slG slR slM slO slS slF slT slL slW slP slZ : Array (Option Value)} {ocI kVI dcI pmI cdI ctI ocG kVG dcG pmG cdG ctG ocR kVR dcR pmR cdR ctR ocM kVM dcM pmM cdM ctM ocO kVO dcO pmO cdO ctO ocS kVS dcS pmS cdS ctS ocF kVF dcF pmF cdF ctF ocT kVT dcT pmT cdT ctT ocL kVL dcL pmL cdL ctL ocW kVW dcW pmW cdW ctW ocP kVP dcP pmP cdP ctP ocZ kVZ dcZ pmZ cdZ ctZ : Value} {t_gGr t_gFar t_gMs t_gMo : Tok}
    (aI : PySem.W.nsIn K mainGlobals "is_in" = some (some (.ref fI))) (lI : K.lookup fI = some ⟨ocI, odI, .func (PySem.W.fnOf "is_in" "is_in" (defArgs sIsIn) (defBody sIsIn) (defScope sIsIn) .none kVI dcI pmI anI cdI ctI), slI⟩) (cI : PySem.W.codeIn K cdI "is_in" = true) (kI : PySem.W.keepIn K (.ref fI) = true)
    (aG : PySem.W.nsIn K mainGlobals "gcd" = some (some (.ref fG))) (lG : K.lookup fG = some ⟨ocG, odG, .func (PySem.W.fnOf "gcd" "gcd" (defArgs sGcd) (defBody sGcd) (defScope sGcd) .none kVG dcG pmG anG cdG ctG), slG⟩) (cG : PySem.W.codeIn K cdG "gcd" = true) (kG : PySem.W.keepIn K (.ref fG) = true)
    (aR : PySem.W.nsIn K mainGlobals "reduced" = some (some (.ref fR))) (lR : K.lookup fR = some ⟨ocR, odR, .func (PySem.W.fnOf "reduced" "reduced" (defArgs sReduced) (defBody sReduced) (defScope sReduced) .none kVR dcR pmR anR cdR ctR), slR⟩) (cR : PySem.W.codeIn K cdR "reduced" = true) (kR : PySem.W.keepIn K (.ref fR) = true)
    (aM : PySem.W.nsIn K mainGlobals "minus" = some (some (.ref fM))) (lM : K.lookup fM = some ⟨ocM, odM, .func (PySem.W.fnOf "minus" "minus" (defArgs sMinus) (defBody sMinus) (defScope sMinus) .none kVM dcM pmM anM cdM ctM), slM⟩) (cM : PySem.W.codeIn K cdM "minus" = true) (kM : PySem.W.keepIn K (.ref fM) = true)
    (aO : PySem.W.nsIn K mainGlobals "over" = some (some (.ref fO))) (lO : K.lookup fO = some ⟨ocO, odO, .func (PySem.W.fnOf "over" "over" (defArgs sOver) (defBody sOver) (defScope sOver) .none kVO dcO pmO anO cdO ctO), slO⟩) (cO : PySem.W.codeIn K cdO "over" = true) (kO : PySem.W.keepIn K (.ref fO) = true)
    (aS : PySem.W.nsIn K mainGlobals "steps" = some (some (.ref fS))) (lS : K.lookup fS = some ⟨ocS, odS, .func (PySem.W.fnOf "steps" "steps" (defArgs sSteps) (defBody sSteps) (defScope sSteps) .none kVS dcS pmS anS cdS ctS), slS⟩) (cS : PySem.W.codeIn K cdS "steps" = true) (kS : PySem.W.keepIn K (.ref fS) = true)
    (aF : PySem.W.nsIn K mainGlobals "from_steps" = some (some (.ref fF))) (lF : K.lookup fF = some ⟨ocF, odF, .func (PySem.W.fnOf "from_steps" "from_steps" (defArgs sFrom) (defBody sFrom) (defScope sFrom) .none kVF dcF pmF anF cdF ctF), slF⟩) (cF : PySem.W.codeIn K cdF "from_steps" = true) (kF : PySem.W.keepIn K (.ref fF) = true)
    (aT : PySem.W.nsIn K mainGlobals "_law_taken" = some (some (.ref fT))) (lT : K.lookup fT = some ⟨ocT, odT, .func (PySem.W.fnOf "_law_taken" "_law_taken" (defArgs sTaken) (defBody sTaken) (defScope sTaken) .none kVT dcT pmT anT cdT ctT), slT⟩) (cT : PySem.W.codeIn K cdT "_law_taken" = true) (kT : PySem.W.keepIn K (.ref fT) = true)
    (aL : PySem.W.nsIn K mainGlobals "_law_gcd" = some (some (.ref fL))) (lL : K.lookup fL = some ⟨ocL, odL, .func (PySem.W.fnOf "_law_gcd" "_law_gcd" (defArgs sLgcd) (defBody sLgcd) (defScope sLgcd) .none kVL dcL pmL anL cdL ctL), slL⟩) (cL : PySem.W.codeIn K cdL "_law_gcd" = true) (kL : PySem.W.keepIn K (.ref fL) = true)
    (aW : PySem.W.nsIn K mainGlobals "_law_two" = some (some (.ref fW))) (lW : K.lookup fW = some ⟨ocW, odW, .func (PySem.W.fnOf "_law_two" "_law_two" (defArgs sTwo) (defBody sTwo) (defScope sTwo) .none kVW dcW pmW anW cdW ctW), slW⟩) (cW : PySem.W.codeIn K cdW "_law_two" = true) (kW : PySem.W.keepIn K (.ref fW) = true)
    (aP : PySem.W.nsIn K mainGlobals "_law_pick" = some (some (.ref fP))) (lP : K.lookup fP = some ⟨ocP, odP, .func (PySem.W.fnOf "_law_pick" "_law_pick" (defArgs sPick) (defBody sPick) (defScope sPick) .none kVP dcP pmP anP cdP ctP), slP⟩) (cP : PySem.W.codeIn K cdP "_law_pick" = true) (kP : PySem.W.keepIn K (.ref fP) = true)
    (aZ : PySem.W.nsIn K mainGlobals "law" = some (some (.ref fZ))) (lZ : K.lookup fZ = some ⟨ocZ, odZ, .func (PySem.W.fnOf "law" "law" (defArgs sLaw) (defBody sLaw) (defScope sLaw) .none kVZ dcZ pmZ anZ cdZ ctZ), slZ⟩) (cZ : PySem.W.codeIn K cdZ "law" = true) (kZ : PySem.W.keepIn K (.ref fZ) = true)
    (zmA : PySem.W.nsIn K mainGlobals "abs" = some none)
    (zmIs : PySem.W.nsIn K mainGlobals "isinstance" = some none)
    (zmI : PySem.W.nsIn K mainGlobals "int" = some none)
    (zmB : PySem.W.nsIn K mainGlobals "bool" = some none)
    (zmL : PySem.W.nsIn K mainGlobals "len" = some none)
    (zmT : PySem.W.nsIn K mainGlobals "tuple" = some none)
    (zmRg : PySem.W.nsIn K mainGlobals "range" = some none)
    (zmMx : PySem.W.nsIn K mainGlobals "max" = some none)
    (zmMn : PySem.W.nsIn K mainGlobals "min" = some none)
    (zmSm : PySem.W.nsIn K mainGlobals "sum" = some none)
    (zgGr : PySem.W.nsIn K mainGlobals "GREAT" = some (some (.int 1000000000 t_gGr)))
    (zgFar : PySem.W.nsIn K mainGlobals "FAR" = some (some (.int 1000 t_gFar)))
    (zgMs : PySem.W.nsIn K mainGlobals "MOST_STEPS" = some (some (.int 60 t_gMs)))
    (zgMo : PySem.W.nsIn K mainGlobals "MOST_SUMS" = some (some (.int 2000 t_gMo)))
    : ∃ fd : FuncData, (∀ (s : Shared) (v : Value), BindsTo s fd ⟨[v], []⟩ [("_law_script", v)]) ∧ ∀ base : Heap, K.In base → base.Ns mainGlobals mg → FnOk l.prog w K mg base CX0 5 fa fd ["_law_script"] (spLaw K) := by
  have e := hfa.symm.trans (PySem.W.mg_of X G aZ)
  cases e
  have FI := fun_mk (st := sIsIn) lI cI kI
  have FG := fun_mk (st := sGcd) lG cG kG
  have FR := fun_mk (st := sReduced) lR cR kR
  have FM := fun_mk (st := sMinus) lM cM kM
  have FO := fun_mk (st := sOver) lO cO kO
  have FS := fun_mk (st := sSteps) lS cS kS
  have FF := fun_mk (st := sFrom) lF cF kF
  have FT := fun_mk (st := sTaken) lT cT kT
  have FL := fun_mk (st := sLgcd) lL cL kL
  have FW := fun_mk (st := sTwo) lW cW kW
  have FP := fun_mk (st := sPick) lP cP kP
  have FZ := fun_mk (st := sLaw) lZ cZ kZ
  have bI := FI.binds (ps := ["value", "least", "most"]) fun _ _ _ _ _ _ us hl => match us, hl with | [_, _, _], _ => rfl
  have bG := FG.binds (ps := ["one", "other"]) fun _ _ _ _ _ _ us hl => match us, hl with | [_, _], _ => rfl
  have bR := FR.binds (ps := ["numerator", "denominator"]) fun _ _ _ _ _ _ us hl => match us, hl with | [_, _], _ => rfl
  have bM := FM.binds (ps := ["one", "other"]) fun _ _ _ _ _ _ us hl => match us, hl with | [_, _], _ => rfl
  have bO := FO.binds (ps := ["one", "other"]) fun _ _ _ _ _ _ us hl => match us, hl with | [_, _], _ => rfl
  have bS := FS.binds (ps := ["n", "m"]) fun _ _ _ _ _ _ us hl => match us, hl with | [_, _], _ => rfl
  have bF := FF.binds (ps := ["row"]) fun _ _ _ _ _ _ us hl => match us, hl with | [_], _ => rfl
  have bT := FT.binds (ps := ["_law_row", "_law_many"]) fun _ _ _ _ _ _ us hl => match us, hl with | [_, _], _ => rfl
  have bL := FL.binds (ps := ["_law_one", "_law_other"]) fun _ _ _ _ _ _ us hl => match us, hl with | [_, _], _ => rfl
  have bW := FW.binds (ps := ["_law_row", "_law_most"]) fun _ _ _ _ _ _ us hl => match us, hl with | [_, _], _ => rfl
  have bP := FP.binds (ps := ["_law_row", "_law_things"]) fun _ _ _ _ _ _ us hl => match us, hl with | [_, _], _ => rfl
  have T : Txt K mg fI fG fR fM fO fS fF fT fL fW fP _ _ _ _ _ _ _ _ _ _ _ := { I := FI, bI := bI, gI := PySem.W.mg_of X G aI, G := FG, bG := bG, gG := PySem.W.mg_of X G aG, R := FR, bR := bR, gR := PySem.W.mg_of X G aR, M := FM, bM := bM, gM := PySem.W.mg_of X G aM, O := FO, bO := bO, gO := PySem.W.mg_of X G aO, S := FS, bS := bS, gS := PySem.W.mg_of X G aS, F := FF, bF := bF, gF := PySem.W.mg_of X G aF, T := FT, bT := bT, gT := PySem.W.mg_of X G aT, L := FL, bL := bL, gL := PySem.W.mg_of X G aL, W := FW, bW := bW, gW := PySem.W.mg_of X G aW, P := FP, bP := bP, gP := PySem.W.mg_of X G aP, mA := PySem.W.mg_none_of X G zmA, mIs := PySem.W.mg_none_of X G zmIs, mI := PySem.W.mg_none_of X G zmI, mB := PySem.W.mg_none_of X G zmB, mL := PySem.W.mg_none_of X G zmL, mT := PySem.W.mg_none_of X G zmT, mRg := PySem.W.mg_none_of X G zmRg, mMx := PySem.W.mg_none_of X G zmMx, mMn := PySem.W.mg_none_of X G zmMn, mSm := PySem.W.mg_none_of X G zmSm, gGr := ⟨_, PySem.W.mg_of X G zgGr⟩, gFar := ⟨_, PySem.W.mg_of X G zgFar⟩, gMs := ⟨_, PySem.W.mg_of X G zgMs⟩, gMo := ⟨_, PySem.W.mg_of X G zgMo⟩ }
  exact ⟨PySem.W.fnOf "law" "law" (defArgs sLaw) (defBody sLaw) (defScope sLaw) .none kVZ dcZ pmZ anZ cdZ ctZ, fun s v => .of_eq rfl, fun base _ _ => ok_law FZ T⟩
end W75
open PySem PySem.W PyProof.Rows
set_option maxHeartbeats 0 in
theorem PySem.Challenge.cw_latticepoints_k75_whole_dual_steps_holds : PySem.Challenge.rw_latticepoints_k75_whole_dual_steps.Holds := by
  w_on; o_law; k_head; (case hw => w_witness2)
  k_fill
  refine L2.walk_of (l := PySem.Challenge.rw_latticepoints_k75_whole_dual_steps) (n := 63) (k := 5) (x := "_law_script") (CX := fun _ => L2.CX0) (sp := fun w => W75.spLaw _) rfl (by decide) rfl ⟨rfl, by decide, by decide⟩ (fun w h Y => PySem.W.kIn_of Y) ?F (fun _ _ a ns hl _ hS => ⟨a, ns, rfl, hS, fun _ => rfl⟩) (fun _ _ _ _ _ h => h)
  case F =>
    intro w mg fa h KX G hmg
    refine' W75.all_mk KX G hmg ?aI ?lI ?cI ?kI ?aG ?lG ?cG ?kG ?aR ?lR ?cR ?kR ?aM ?lM ?cM ?kM ?aO ?lO ?cO ?kO ?aS ?lS ?cS ?kS ?aF ?lF ?cF ?kF ?aT ?lT ?cT ?kT ?aL ?lL ?cL ?kL ?aW ?lW ?cW ?kW ?aP ?lP ?cP ?kP ?aZ ?lZ ?cZ ?kZ ?zmA ?zmIs ?zmI ?zmB ?zmL ?zmT ?zmRg ?zmMx ?zmMn ?zmSm ?zgGr ?zgFar ?zgMs ?zgMo
    (case aI => k_is)
    (case lI => k_is)
    (case cI => k_is)
    (case kI => k_is)
    (case aG => k_is)
    (case lG => k_is)
    (case cG => k_is)
    (case kG => k_is)
    (case aR => k_is)
    (case lR => k_is)
    (case cR => k_is)
    (case kR => k_is)
    (case aM => k_is)
    (case lM => k_is)
    (case cM => k_is)
    (case kM => k_is)
    (case aO => k_is)
    (case lO => k_is)
    (case cO => k_is)
    (case kO => k_is)
    (case aS => k_is)
    (case lS => k_is)
    (case cS => k_is)
    (case kS => k_is)
    (case aF => k_is)
    (case lF => k_is)
    (case cF => k_is)
    (case kF => k_is)
    (case aT => k_is)
    (case lT => k_is)
    (case cT => k_is)
    (case kT => k_is)
    (case aL => k_is)
    (case lL => k_is)
    (case cL => k_is)
    (case kL => k_is)
    (case aW => k_is)
    (case lW => k_is)
    (case cW => k_is)
    (case kW => k_is)
    (case aP => k_is)
    (case lP => k_is)
    (case cP => k_is)
    (case kP => k_is)
    (case aZ => k_is)
    (case lZ => k_is)
    (case cZ => k_is)
    (case kZ => k_is)
    (case zmA => k_is)
    (case zmIs => k_is)
    (case zmI => k_is)
    (case zmB => k_is)
    (case zmL => k_is)
    (case zmT => k_is)
    (case zmRg => k_is)
    (case zmMx => k_is)
    (case zmMn => k_is)
    (case zmSm => k_is)
    (case zgGr => k_is)
    (case zgFar => k_is)
    (case zgMs => k_is)
    (case zgMo => k_is)
