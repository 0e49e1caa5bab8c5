import PyProof.Rows.All
import Wide.All
import OpenK.AllK
import Wide.FinOn
import PyProof.EqAt
import PyProof.EqKinds
import PyProof.TupleCall
import PySem.Challenge.RW_polyring_k18_whole_parts
import HandS.ForMost
import HandS.ForExc
import HandS.EndBits
import HandS.Zip
import HandS.Walk
import HandS.HotCalls
import HandS.SortKw
import HandS.IsInst
import HandS.Conv
import HandS.Wide
import KE.SortKeyHeap
import HandS.Codes
import HandS.Ends
-- M1
/-! # Sums in one unknown over the rests of p: lists of ints, up to multiples of p and noughts at the end. A commutative ring. -/
set_option linter.all false
namespace Pl
/-- the number at a power -/
def co : List Int → Nat → Int
  | [], _ => 0
  | x :: _, 0 => x
  | _ :: a, i + 1 => co a i
def addL : List Int → List Int → List Int
  | [], b => b
  | x :: a, [] => x :: a
  | x :: a, y :: b => (x + y) :: addL a b
def smulL (c : Int) : List Int → List Int
  | [] => []
  | x :: a => (c * x) :: smulL c a
def mulL : List Int → List Int → List Int
  | [], _ => []
  | x :: a, b => addL (smulL x b) (0 :: mulL a b)
/-- the slope -/
def derL : List Int → List Int
  | [] => []
  | _ :: a => addL a (0 :: derL a)

@[simp] theorem co_nil (i : Nat) : co [] i = 0 := rfl
@[simp] theorem co_cons_zero (x : Int) (a : List Int) : co (x :: a) 0 = x := rfl
@[simp] theorem co_cons_succ (x : Int) (a : List Int) (i : Nat) : co (x :: a) (i + 1) = co a i := rfl
theorem co_add : ∀ (a b : List Int) (i : Nat), co (addL a b) i = co a i + co b i
  | [], b, i => by simp [addL]
  | x :: a, [], i => by simp [addL]
  | x :: a, y :: b, 0 => by simp [addL]
  | x :: a, y :: b, i + 1 => by simp [addL, co_add a b i]
theorem co_smul (c : Int) : ∀ (a : List Int) (i : Nat), co (smulL c a) i = c * co a i
  | [], i => by simp [smulL]
  | x :: a, 0 => by simp [smulL]
  | x :: a, i + 1 => by simp [smulL, co_smul c a i]
theorem co_mul_zero (x : Int) (a b : List Int) : co (mulL (x :: a) b) 0 = x * co b 0 := by
  simp [mulL, co_add, co_smul]
theorem co_mul_succ (x : Int) (a b : List Int) (i : Nat) : co (mulL (x :: a) b) (i + 1) = x * co b (i + 1) + co (mulL a b) i := by
  simp [mulL, co_add, co_smul]
theorem co_mul_nil : ∀ (a : List Int) (i : Nat), co (mulL a []) i = 0
  | [], i => rfl
  | x :: a, 0 => by simp [co_mul_zero]
  | x :: a, i + 1 => by simp [co_mul_succ, co_mul_nil a i]
theorem co_mulR_zero (y : Int) (b : List Int) : ∀ a : List Int, co (mulL a (y :: b)) 0 = co a 0 * y
  | [] => by simp [mulL]
  | x :: a => by simp [co_mul_zero]
theorem co_mulR_succ (y : Int) (b : List Int) : ∀ (a : List Int) (i : Nat), co (mulL a (y :: b)) (i + 1) = co a (i + 1) * y + co (mulL a b) i
  | [], i => by simp [mulL]
  | x :: a, 0 => by simp [co_mul_succ, co_mul_zero, co_mulR_zero]; grind
  | x :: a, i + 1 => by simp [co_mul_succ, co_mulR_succ y b a i]; grind
theorem co_mul_comm : ∀ (a b : List Int) (i : Nat), co (mulL a b) i = co (mulL b a) i
  | [], b, i => by simp [mulL, co_mul_nil]
  | x :: a, b, 0 => by simp [co_mul_zero, co_mulR_zero]; grind
  | x :: a, b, i + 1 => by simp [co_mul_succ, co_mulR_succ, co_mul_comm a b i]; grind
theorem co_mul_add : ∀ (a b c : List Int) (i : Nat), co (mulL a (addL b c)) i = co (mulL a b) i + co (mulL a c) i
  | [], b, c, i => by simp [mulL]
  | x :: a, b, c, 0 => by simp [co_mul_zero, co_add]; grind
  | x :: a, b, c, i + 1 => by simp [co_mul_succ, co_add, co_mul_add a b c i]; grind
theorem co_add_mul (a b c : List Int) (i : Nat) : co (mulL (addL a b) c) i = co (mulL a c) i + co (mulL b c) i := by
  rw [co_mul_comm, co_mul_add, co_mul_comm c a, co_mul_comm c b]
theorem co_smul_mul (x : Int) : ∀ (a b : List Int) (i : Nat), co (mulL (smulL x a) b) i = x * co (mulL a b) i
  | [], b, i => by simp [mulL, smulL]
  | y :: a, b, 0 => by simp [smulL, co_mul_zero]; grind
  | y :: a, b, i + 1 => by simp [smulL, co_mul_succ, co_smul_mul x a b i]; grind
theorem co_mul_assoc : ∀ (a b c : List Int) (i : Nat), co (mulL (mulL a b) c) i = co (mulL a (mulL b c)) i
  | [], b, c, i => by simp [mulL]
  | x :: a, b, c, 0 => by
    rw [mulL, co_add_mul, co_smul_mul, co_mul_zero, co_mul_zero]; simp
  | x :: a, b, c, i + 1 => by
    rw [mulL, co_add_mul, co_smul_mul, co_mul_succ, co_mul_succ, co_mul_assoc a b c i]; simp
theorem mul_nilL (b : List Int) : mulL [] b = [] := rfl
theorem co_C_mul (x : Int) (b : List Int) : ∀ i, co (mulL [x] b) i = x * co b i
  | 0 => by rw [co_mul_zero]
  | i + 1 => by rw [co_mul_succ, mul_nilL, co_nil]; omega
theorem co_one_mul (a : List Int) (i : Nat) : co (mulL [1] a) i = co a i := by
  rw [co_C_mul]; omega
theorem co_der : ∀ (a : List Int) (i : Nat), co (derL a) i = ((i : Int) + 1) * co a (i + 1)
  | [], i => by simp [derL]
  | x :: a, 0 => by simp [derL, co_add]
  | x :: a, i + 1 => by simp [derL, co_add, co_der a i]; grind

/-- alike but for multiples of p -/
def Rel (p : Nat) (a b : List Int) : Prop := ∀ i, (p : Int) ∣ co a i - co b i
theorem Rel.refl {p : Nat} (a : List Int) : Rel p a a := fun i => ⟨0, by omega⟩
theorem Rel.of_eq {p : Nat} {a b : List Int} (h : ∀ i, co a i = co b i) : Rel p a b := fun i => ⟨0, by rw [h i]; omega⟩
theorem Rel.symm {p : Nat} {a b : List Int} (h : Rel p a b) : Rel p b a := fun i => by
  obtain ⟨k, e⟩ := h i
  exact ⟨-k, by rw [Int.mul_neg, ← e]; omega⟩
theorem Rel.trans {p : Nat} {a b c : List Int} (h : Rel p a b) (h' : Rel p b c) : Rel p a c := fun i => by
  obtain ⟨k, e⟩ := h i
  obtain ⟨l, e'⟩ := h' i
  exact ⟨k + l, by rw [Int.mul_add, ← e, ← e']; omega⟩
theorem Rel.add {p : Nat} {a a' b b' : List Int} (h : Rel p a a') (h' : Rel p b b') : Rel p (addL a b) (addL a' b') := fun i => by
  obtain ⟨k, e⟩ := h i
  obtain ⟨l, e'⟩ := h' i
  rw [co_add, co_add]
  exact ⟨k + l, by rw [Int.mul_add, ← e, ← e']; omega⟩
theorem Rel.smul {p : Nat} {a a' : List Int} (c : Int) (h : Rel p a a') : Rel p (smulL c a) (smulL c a') := fun i => by
  obtain ⟨k, e⟩ := h i
  rw [co_smul, co_smul]
  exact ⟨c * k, by rw [← Int.mul_sub, e]; grind⟩
theorem Rel.mulR {p : Nat} {b b' : List Int} (h : Rel p b b') : ∀ a : List Int, Rel p (mulL a b) (mulL a b')
  | [], i => ⟨0, by simp [mulL]⟩
  | x :: a, 0 => by
    obtain ⟨k, e⟩ := h 0
    rw [co_mul_zero, co_mul_zero]
    exact ⟨x * k, by rw [← Int.mul_sub, e]; grind⟩
  | x :: a, i + 1 => by
    obtain ⟨k, e⟩ := h (i + 1)
    obtain ⟨l, e'⟩ := Rel.mulR h a i
    rw [co_mul_succ, co_mul_succ]
    exact ⟨x * k + l, by grind⟩
theorem Rel.mul {p : Nat} {a a' b b' : List Int} (h : Rel p a a') (h' : Rel p b b') : Rel p (mulL a b) (mulL a' b') :=
  (Rel.mulR h' a).trans ((Rel.of_eq (co_mul_comm a b')).trans ((Rel.mulR h b').trans (Rel.of_eq (co_mul_comm b' a'))))
theorem Rel.der {p : Nat} {a a' : List Int} (h : Rel p a a') : Rel p (derL a) (derL a') := fun i => by
  obtain ⟨k, e⟩ := h (i + 1)
  rw [co_der, co_der]
  exact ⟨((i : Int) + 1) * k, by rw [← Int.mul_sub, e]; grind⟩

@[reducible] def polyS (p : Nat) : Setoid (List Int) := ⟨Rel p, ⟨Rel.refl, Rel.symm, Rel.trans⟩⟩
/-- the ring -/
def Poly (p : Nat) : Type := Quotient (polyS p)
def mk (p : Nat) (l : List Int) : Poly p := Quotient.mk (polyS p) l
theorem mk_eq {p : Nat} {a b : List Int} (h : Rel p a b) : mk p a = mk p b := Quotient.sound h
theorem mk_ext {p : Nat} {a b : List Int} (h : ∀ i, co a i = co b i) : mk p a = mk p b := mk_eq (.of_eq h)
theorem mk_iff {p : Nat} {a b : List Int} : mk p a = mk p b ↔ Rel p a b := ⟨fun h => Quotient.exact h, mk_eq⟩
theorem ind {p : Nat} {P : Poly p → Prop} (h : ∀ l, P (mk p l)) (f : Poly p) : P f := Quotient.ind h f

namespace Poly
variable {p : Nat}
def add (f g : Poly p) : Poly p := Quotient.lift₂ (s₁ := polyS p) (s₂ := polyS p) (fun a b => mk p (addL a b)) (fun _ _ _ _ h h' => mk_eq (Rel.add (show Rel p _ _ from h) (show Rel p _ _ from h'))) f g
def mul (f g : Poly p) : Poly p := Quotient.lift₂ (s₁ := polyS p) (s₂ := polyS p) (fun a b => mk p (mulL a b)) (fun _ _ _ _ h h' => mk_eq (Rel.mul (show Rel p _ _ from h) (show Rel p _ _ from h'))) f g
def neg (f : Poly p) : Poly p := Quotient.lift (s := polyS p) (fun a => mk p (smulL (-1) a)) (fun _ _ h => mk_eq (Rel.smul _ (show Rel p _ _ from h))) f
def der (f : Poly p) : Poly p := Quotient.lift (s := polyS p) (fun a => mk p (derL a)) (fun _ _ h => mk_eq (Rel.der (show Rel p _ _ from h))) f
def pow (f : Poly p) : Nat → Poly p
  | 0 => mk p [1]
  | n + 1 => mul (pow f n) f
instance : Add (Poly p) := ⟨add⟩
instance : Mul (Poly p) := ⟨mul⟩
instance : Neg (Poly p) := ⟨neg⟩
instance : Sub (Poly p) := ⟨fun f g => f + -g⟩
instance : NatCast (Poly p) := ⟨fun n => mk p [(n : Int)]⟩
instance : IntCast (Poly p) := ⟨fun n => mk p [n]⟩
instance (n : Nat) : OfNat (Poly p) n := ⟨mk p [(n : Int)]⟩
instance : HPow (Poly p) Nat (Poly p) := ⟨pow⟩
instance : SMul Nat (Poly p) := ⟨fun n f => (n : Poly p) * f⟩
instance : SMul Int (Poly p) := ⟨fun n f => (n : Poly p) * f⟩
theorem mk_add (a b : List Int) : mk p a + mk p b = mk p (addL a b) := rfl
theorem mk_mul (a b : List Int) : mk p a * mk p b = mk p (mulL a b) := rfl
theorem mk_neg (a : List Int) : - mk p a = mk p (smulL (-1) a) := rfl
theorem mk_nat (n : Nat) : (n : Poly p) = mk p [(n : Int)] := rfl
theorem mk_int (n : Int) : (n : Poly p) = mk p [n] := rfl
theorem mk_lit (n : Nat) : (OfNat.ofNat n : Poly p) = mk p [(n : Int)] := rfl
theorem zero_def : (0 : Poly p) = mk p [0] := rfl
theorem one_def : (1 : Poly p) = mk p [1] := rfl
theorem zero_nil : (0 : Poly p) = mk p [] := mk_ext fun i => by cases i <;> simp
theorem sub_def (f g : Poly p) : f - g = f + -g := rfl

instance : Lean.Grind.CommRing (Poly p) where
  natCast := inferInstance
  ofNat := inferInstance
  nsmul := inferInstance
  npow := inferInstance
  intCast := inferInstance
  zsmul := inferInstance
  add_zero f := by
    induction f using ind with | h a => ?_
    rw [zero_nil, mk_add]
    exact mk_ext fun i => by simp [co_add]
  add_comm f g := by
    induction f using ind with | h a => ?_
    induction g using ind with | h b => ?_
    exact mk_ext fun i => by simp [co_add]; omega
  add_assoc f g h := by
    induction f using ind with | h a => ?_
    induction g using ind with | h b => ?_
    induction h using ind with | h c => ?_
    exact mk_ext fun i => by simp [co_add]; omega
  mul_assoc f g h := by
    induction f using ind with | h a => ?_
    induction g using ind with | h b => ?_
    induction h using ind with | h c => ?_
    exact mk_ext fun i => co_mul_assoc a b c i
  mul_one f := by
    induction f using ind with | h a => ?_
    exact mk_ext fun i => by
      show co (mulL a [1]) i = co a i
      rw [co_mul_comm, co_one_mul]
  one_mul f := by
    induction f using ind with | h a => ?_
    exact mk_ext fun i => by
      show co (mulL [1] a) i = co a i
      rw [co_one_mul]
  left_distrib f g h := by
    induction f using ind with | h a => ?_
    induction g using ind with | h b => ?_
    induction h using ind with | h c => ?_
    exact mk_ext fun i => by
      show co (mulL a (addL b c)) i = co (addL (mulL a b) (mulL a c)) i
      rw [co_mul_add, co_add]
  right_distrib f g h := by
    induction f using ind with | h a => ?_
    induction g using ind with | h b => ?_
    induction h using ind with | h c => ?_
    exact mk_ext fun i => by
      show co (mulL (addL a b) c) i = co (addL (mulL a c) (mulL b c)) i
      rw [co_add_mul, co_add]
  zero_mul f := by
    induction f using ind with | h a => ?_
    rw [zero_nil]
    exact mk_ext fun i => rfl
  mul_zero f := by
    induction f using ind with | h a => ?_
    rw [zero_nil]
    exact mk_ext fun i => co_mul_nil a i
  pow_zero f := rfl
  pow_succ f n := rfl
  ofNat_succ n := mk_ext fun i => by
    show co [((n + 1 : Nat) : Int)] i = co (addL [(n : Int)] [((1 : Nat) : Int)]) i
    rw [co_add]
    cases i <;> simp
  ofNat_eq_natCast n := rfl
  nsmul_eq_natCast_mul n f := rfl
  neg_add_cancel f := by
    induction f using ind with | h a => ?_
    rw [zero_nil]
    exact mk_ext fun i => by
      show co (addL (smulL (-1) a) a) i = co [] i
      rw [co_add, co_smul, co_nil]
      omega
  sub_eq_add_neg f g := rfl
  neg_zsmul n f := by
    induction f using ind with | h a => ?_
    exact mk_ext fun i => by
      show co (mulL [-n] a) i = co (smulL (-1) (mulL [n] a)) i
      rw [co_smul, co_C_mul, co_C_mul]
      grind
  zsmul_natCast_eq_nsmul n f := rfl
  intCast_ofNat n := rfl
  intCast_neg n := mk_ext fun i => by
    show co [-n] i = co (smulL (-1) [n]) i
    rw [co_smul]
    cases i <;> simp
  mul_comm f g := by
    induction f using ind with | h a => ?_
    induction g using ind with | h b => ?_
    exact mk_ext fun i => co_mul_comm a b i

example (a b c u v d : Poly p) (h : u * a + v * b = 1) : (u * d) * a + (v * d) * b = d := by grind

/-! ### the slope -/
theorem mk_der (a : List Int) : der (mk p a) = mk p (derL a) := rfl
theorem der_add (f g : Poly p) : der (f + g) = der f + der g := by
  induction f using ind with | h a => ?_
  induction g using ind with | h b => ?_
  exact mk_ext fun i => by
    show co (derL (addL a b)) i = co (addL (derL a) (derL b)) i
    simp [co_add, co_der]; grind
def X : Poly p := mk p [0, 1]
theorem mk_cons (x : Int) (a : List Int) : mk p (x :: a) = mk p [x] + X * mk p a := mk_ext fun i => by
  show co (x :: a) i = co (addL [x] (mulL [0, 1] a)) i
  rw [co_add]
  cases i with
  | zero => rw [co_mul_zero]; simp
  | succ i => rw [co_mul_succ, co_one_mul]; simp
theorem der_cons (x : Int) (a : List Int) : der (mk p (x :: a)) = mk p a + X * der (mk p a) := by
  have h : mk p (derL (x :: a)) = mk p a + mk p (0 :: derL a) := rfl
  rw [mk_der, h, mk_cons 0, mk_der, ← zero_def]
  grind
theorem der_C (x : Int) : der (mk p [x]) = 0 := by
  rw [zero_nil]
  exact mk_ext fun i => by
    show co (derL [x]) i = _
    rw [co_der]; simp
theorem der_CM (x : Int) (g : Poly p) : der (mk p [x] * g) = mk p [x] * der g := by
  induction g using ind with | h b => ?_
  exact mk_ext fun i => by
    show co (derL (mulL [x] b)) i = co (mulL [x] (derL b)) i
    rw [co_der, co_C_mul, co_C_mul, co_der]
    grind
theorem der_XM (g : Poly p) : der (X * g) = g + X * der g := by
  induction g using ind with | h b => ?_
  have h : X * mk p b = mk p (0 :: b) := by
    rw [mk_cons 0, ← zero_def]; grind
  rw [h, der_cons]
theorem der_mul (f g : Poly p) : der (f * g) = der f * g + f * der g := by
  induction f using ind with | h a => ?_
  induction a with
  | nil =>
    rw [← zero_nil]
    have h : der (0 : Poly p) = 0 := der_C 0
    rw [show (0 : Poly p) * g = 0 by grind, h]; grind
  | cons x a ih =>
    rw [mk_cons x a]
    have e1 : (mk p [x] + X * mk p a) * g = mk p [x] * g + X * (mk p a * g) := by grind
    rw [e1, der_add, der_add, der_CM, der_XM, der_XM, ih, der_C]
    grind
theorem der_one : der (1 : Poly p) = 0 := der_C 1
theorem der_zero : der (0 : Poly p) = 0 := der_C 0
theorem der_pow (f : Poly p) (n : Nat) : der (f ^ (n + 1)) = ((n + 1 : Nat) : Poly p) * f ^ n * der f := by
  induction n with
  | zero =>
    have h : f ^ (0 + 1) = f := by grind
    rw [h]
    have h0 : ((0 + 1 : Nat) : Poly p) = 1 := rfl
    rw [h0]
    grind
  | succ n ih =>
    have h : f ^ (n + 1 + 1) = f ^ (n + 1) * f := Lean.Grind.Semiring.pow_succ _ _
    rw [h, der_mul, ih]
    have h2 : f ^ (n + 1) = f ^ n * f := Lean.Grind.Semiring.pow_succ _ _
    have h3 : ((n + 1 + 1 : Nat) : Poly p) = ((n + 1 : Nat) : Poly p) + 1 := Lean.Grind.Semiring.ofNat_succ (n + 1)
    rw [h2, h3]
    grind
theorem p_zero : ((p : Nat) : Poly p) = 0 := by
  rw [zero_nil]
  exact mk_eq fun i => by
    show (p : Int) ∣ co [(p : Int)] i - co [] i
    cases i with
    | zero => exact ⟨1, by simp⟩
    | succ i => exact ⟨0, by simp⟩
end Poly
end Pl
-- M2
/-! # Rows, lengths, division -/
set_option linter.all false
namespace Pl
/-- a row: its numbers are rests of p, the last one is not nought -/
structure IsRow (p : Nat) (l : List Int) : Prop where
  rests : ∀ x ∈ l, 0 ≤ x ∧ x < (p : Int)
  last : ∀ x, l.getLast? = some x → x ≠ 0
/-- without the noughts at the end -/
def cutL : List Int → List Int
  | [] => []
  | x :: a => if x = 0 ∧ cutL a = [] then [] else x :: cutL a
theorem co_cut : ∀ (l : List Int) (i : Nat), co (cutL l) i = co l i
  | [], i => rfl
  | x :: a, i => by
    have ih := co_cut a
    unfold cutL
    split
    · rename_i h
      obtain ⟨h1, h2⟩ := h
      cases i with
      | zero => simp [h1]
      | succ i => rw [co_cons_succ, ← ih i, h2]; rfl
    · cases i with
      | zero => rfl
      | succ i => exact ih i
theorem cut_last : ∀ (l : List Int) (x : Int), (cutL l).getLast? = some x → x ≠ 0
  | [], x, h => by simp [cutL] at h
  | y :: a, x, h => by
    have ih := cut_last a x
    unfold cutL at h
    split at h
    · simp at h
    · rename_i hn
      cases e : cutL a with
      | nil =>
        rw [e] at h hn
        simp at h hn
        omega
      | cons z b =>
        rw [e, List.getLast?_cons_cons, ← e] at h
        exact ih h
theorem cut_mem : ∀ {l : List Int} {x : Int}, x ∈ cutL l → x ∈ l
  | [], x, h => by simp [cutL] at h
  | y :: a, x, h => by
    unfold cutL at h
    split at h
    · simp at h
    · rcases List.mem_cons.mp h with e | e
      · exact List.mem_cons.mpr (.inl e)
      · exact List.mem_cons_of_mem _ (cut_mem e)
theorem cut_len : ∀ l : List Int, (cutL l).length ≤ l.length
  | [] => Nat.le_refl _
  | x :: a => by
    have ih := cut_len a
    unfold cutL
    split
    · simp
    · simp; exact ih
theorem cut_congr : ∀ {l m : List Int}, (∀ i, co l i = co m i) → cutL l = cutL m
  | [], [], _ => rfl
  | [], y :: b, h => by
    have h1 : cutL [] = cutL b := cut_congr fun i => h (i + 1)
    have h2 := h 0
    simp at h2
    unfold cutL
    rw [← h1]
    simp [cutL, ← h2]
  | x :: a, [], h => by
    have h1 : cutL a = cutL [] := cut_congr fun i => h (i + 1)
    have h2 := h 0
    simp at h2
    show cutL (x :: a) = []
    unfold cutL
    rw [h1]
    simp [cutL, h2]
  | x :: a, y :: b, h => by
    have h1 : cutL a = cutL b := cut_congr fun i => h (i + 1)
    have h2 : x = y := h 0
    unfold cutL
    rw [h1, h2]
theorem cut_row_eq : ∀ {l : List Int}, (∀ x, l.getLast? = some x → x ≠ 0) → cutL l = l
  | [], _ => rfl
  | [x], h => by
    have := h x rfl
    simp [cutL, this]
  | x :: y :: b, h => by
    have ih : cutL (y :: b) = y :: b := cut_row_eq fun z hz => h z (by rw [List.getLast?_cons_cons]; exact hz)
    unfold cutL
    rw [ih]
    simp
theorem co_ge : ∀ {l : List Int} {i : Nat}, l.length ≤ i → co l i = 0
  | [], _, _ => rfl
  | x :: a, 0, h => by simp at h
  | x :: a, i + 1, h => co_ge (l := a) (by simpa using h)
theorem co_get : ∀ (l : List Int) (i : Nat), co l i = l.getD i 0
  | [], _ => rfl
  | _ :: _, 0 => rfl
  | x :: a, i + 1 => by rw [co_cons_succ, co_get a i]; simp
theorem co_of {l : List Int} {i : Nat} {x : Int} (h : l[i]? = some x) : co l i = x := by
  rw [co_get, List.getD_eq_getElem?_getD, h]; rfl
theorem co_some {l : List Int} {i : Nat} (h : i < l.length) : l[i]? = some (co l i) := by
  rw [co_get, List.getD_eq_getElem?_getD, List.getElem?_eq_getElem h]; rfl
theorem last_co {l : List Int} {x : Int} (h : l.getLast? = some x) : co l (l.length - 1) = x := by
  rw [List.getLast?_eq_getElem?] at h
  exact co_of h
theorem co_last {l : List Int} (h : l ≠ []) : l.getLast? = some (co l (l.length - 1)) := by
  rw [List.getLast?_eq_getElem?]
  exact co_some (by have := List.length_pos_iff.mpr h; omega)
theorem co_map_mod (p : Nat) : ∀ (l : List Int) (i : Nat), co (l.map (· % (p : Int))) i = co l i % p
  | [], i => by simp
  | x :: a, 0 => by simp
  | x :: a, i + 1 => by simp [co_map_mod p a i]
/-- the row of a list -/
def rowL (p : Nat) (l : List Int) : List Int := cutL (l.map (· % (p : Int)))
theorem rowL_row {p : Nat} (hp : 0 < p) (l : List Int) : IsRow p (rowL p l) where
  rests := fun x hx => by
    obtain ⟨y, _, rfl⟩ := List.mem_map.mp (cut_mem hx)
    exact ⟨Int.emod_nonneg _ (by omega), Int.emod_lt_of_pos _ (by omega)⟩
  last := cut_last _
theorem rowL_rel (p : Nat) (l : List Int) : Rel p (rowL p l) l := fun i => by
  unfold rowL
  rw [co_cut, co_map_mod]
  exact ⟨-(co l i / p), by have := Int.emod_add_mul_ediv (co l i) p; rw [Int.mul_neg]; omega⟩
theorem mod_eq {p : Nat} {a b : Int} (h : (p : Int) ∣ a - b) : a % p = b % p := Int.emod_eq_emod_iff_emod_sub_eq_zero.mpr (Int.emod_eq_zero_of_dvd h)
theorem rowL_congr {p : Nat} {l m : List Int} (h : Rel p l m) : rowL p l = rowL p m := cut_congr fun i => by
  rw [co_map_mod, co_map_mod]
  exact mod_eq (h i)
theorem IsRow.cos {p : Nat} {l : List Int} (h : IsRow p l) (hp : 0 < p) (i : Nat) : 0 ≤ co l i ∧ co l i < p := by
  by_cases hi : i < l.length
  · exact h.rests _ (List.mem_of_getElem? (co_some hi))
  · rw [co_ge (by omega)]; omega
theorem map_mod_eq {p : Nat} : ∀ {l : List Int}, (∀ x ∈ l, 0 ≤ x ∧ x < (p : Int)) → l.map (· % (p : Int)) = l
  | [], _ => rfl
  | x :: a, h => by
    rw [List.map_cons, map_mod_eq fun y hy => h y (List.mem_cons_of_mem _ hy)]
    have := h x List.mem_cons_self
    rw [Int.emod_eq_of_lt this.1 this.2]
theorem IsRow.self {p : Nat} {l : List Int} (h : IsRow p l) : rowL p l = l := by
  unfold rowL
  rw [map_mod_eq h.rests, cut_row_eq h.last]
theorem row_inj {p : Nat} {l m : List Int} (hl : IsRow p l) (hm : IsRow p m) (h : mk p l = mk p m) : l = m := by
  rw [← hl.self, ← hm.self, rowL_congr (mk_iff.mp h)]
theorem isRow_nil (p : Nat) : IsRow p [] := ⟨fun _ h => by simp at h, fun _ h => by simp at h⟩

namespace Poly
variable {p : Nat}
def row (f : Poly p) : List Int := Quotient.lift (s := polyS p) (rowL p) (fun _ _ h => rowL_congr (show Rel p _ _ from h)) f
theorem row_mk (l : List Int) : row (mk p l) = rowL p l := rfl
theorem mk_row (f : Poly p) : mk p (row f) = f := by
  induction f using ind with | h a => ?_
  exact mk_eq (rowL_rel p a)
theorem row_row (hp : 0 < p) (f : Poly p) : IsRow p (row f) := by
  induction f using ind with | h a => ?_
  exact rowL_row hp a
theorem row_of {l : List Int} (h : IsRow p l) : row (mk p l) = l := h.self
def len (f : Poly p) : Nat := (row f).length
theorem len_of {l : List Int} (h : IsRow p l) : len (mk p l) = l.length := by
  unfold len
  rw [row_of h]
theorem dvd_mod {p : Nat} {a : Int} : (p : Int) ∣ a ↔ a % p = 0 := Int.dvd_iff_emod_eq_zero ..
theorem cut_len_le : ∀ {l : List Int} {n : Nat}, (cutL l).length ≤ n ↔ ∀ i, n ≤ i → co l i = 0
  | l, n => by
    constructor
    · intro h i hi
      rw [← co_cut]
      exact co_ge (by omega)
    · intro h
      by_cases e : cutL l = []
      · rw [e]; simp
      · have h1 := co_last e
        have h2 := cut_last l _ h1
        refine Nat.le_of_not_lt fun hn => h2 ?_
        rw [co_cut]
        exact h _ (by omega)
theorem len_le_iff {l : List Int} {n : Nat} : len (mk p l) ≤ n ↔ ∀ i, n ≤ i → (p : Int) ∣ co l i := by
  unfold len
  rw [row_mk]
  unfold rowL
  rw [cut_len_le]
  simp only [co_map_mod, dvd_mod]
theorem len_lt_iff {l : List Int} {n : Nat} : n < len (mk p l) ↔ ∃ i, n ≤ i ∧ ¬ (p : Int) ∣ co l i := by
  constructor
  · intro h
    apply Classical.byContradiction
    intro hn
    have h2 : len (mk p l) ≤ n := len_le_iff.mpr fun i hi => Classical.byContradiction fun z => hn ⟨i, hi, z⟩
    omega
  · rintro ⟨i, hi, hd⟩
    refine Nat.lt_of_not_le fun h => hd (len_le_iff.mp h i hi)
theorem len_zero : len (0 : Poly p) = 0 := by
  have h : len (0 : Poly p) ≤ 0 := by
    rw [zero_nil, len_le_iff]
    intro i _
    exact ⟨0, by simp⟩
  omega
theorem eq_zero_of_len {f : Poly p} (h : len f = 0) : f = 0 := by
  rw [← mk_row f]
  unfold len at h
  rw [List.length_eq_zero_iff.mp h, zero_nil]
theorem len_pos {f : Poly p} (h : f ≠ 0) : 0 < len f := Nat.pos_of_ne_zero fun z => h (eq_zero_of_len z)
theorem ne_of_len {f : Poly p} (h : 0 < len f) : f ≠ 0 := fun z => by rw [z, len_zero] at h; omega
theorem len_add {f g : Poly p} {n : Nat} (hf : len f ≤ n) (hg : len g ≤ n) : len (f + g) ≤ n := by
  induction f using ind with | h a => ?_
  induction g using ind with | h b => ?_
  rw [mk_add, len_le_iff]
  intro i hi
  rw [co_add]
  exact Int.dvd_add (len_le_iff.mp hf i hi) (len_le_iff.mp hg i hi)
theorem len_neg {f : Poly p} : len (-f) ≤ len f := by
  induction f using ind with | h a => ?_
  rw [mk_neg, len_le_iff]
  intro i hi
  rw [co_smul]
  exact Int.dvd_mul_of_dvd_right (len_le_iff.mp (Nat.le_refl _) i hi)
theorem len_sub {f g : Poly p} {n : Nat} (hf : len f ≤ n) (hg : len g ≤ n) : len (f - g) ≤ n := by
  rw [sub_def]
  exact len_add hf (Nat.le_trans len_neg hg)
theorem len_der (f : Poly p) : len (der f) ≤ len f - 1 := by
  induction f using ind with | h a => ?_
  rw [mk_der, len_le_iff]
  intro i hi
  rw [co_der]
  exact Int.dvd_mul_of_dvd_right (len_le_iff.mp (Nat.le_refl _) (i + 1) (by omega))
end Poly
theorem co_mul_ge : ∀ {l m : List Int} {i : Nat}, l.length + m.length ≤ i + 1 → co (mulL l m) i = 0
  | [], m, i, _ => rfl
  | x :: a, m, 0, h => by
    rw [co_mul_zero, co_ge (l := m) (by simp at h; omega)]; omega
  | x :: a, m, i + 1, h => by
    simp at h
    rw [co_mul_succ, co_ge (l := m) (by omega), co_mul_ge (by omega)]; omega
theorem co_mul_top : ∀ {l m : List Int} {n k : Nat}, l.length = n + 1 → m.length = k + 1 → co (mulL l m) (n + k) = co l n * co m k
  | [], m, n, k, h, _ => by simp at h
  | [x], m, n, k, h, hm => by
    have : n = 0 := by simp at h; omega
    subst this
    rw [Nat.zero_add, co_C_mul]; rfl
  | x :: y :: a, m, n, k, h, hm => by
    obtain ⟨n, rfl⟩ : ∃ n', n = n' + 1 := ⟨n - 1, by simp at h; omega⟩
    have e : n + 1 + k = n + k + 1 := by omega
    rw [e, co_mul_succ, co_ge (l := m) (by omega), co_mul_top (l := y :: a) (by simpa using h) hm, co_cons_succ]; omega

/-- a prime -/
structure Prm (p : Nat) : Prop where
  two : 2 ≤ p
  dv : ∀ a b : Int, (p : Int) ∣ a * b → (p : Int) ∣ a ∨ (p : Int) ∣ b
theorem Prm.pos {p : Nat} (h : Prm p) : 0 < p := Nat.lt_of_lt_of_le (by decide) h.two
theorem IsRow.last_co {p : Nat} {l : List Int} (h : IsRow p l) (hp : 0 < p) (hl : l ≠ []) : ¬ (p : Int) ∣ co l (l.length - 1) := fun hd => by
  have h1 := h.last _ (co_last hl)
  have h2 := h.cos hp (l.length - 1)
  have h3 := Int.emod_eq_zero_of_dvd hd
  rw [Int.emod_eq_of_lt h2.1 h2.2] at h3
  exact h1 h3

namespace Poly
variable {p : Nat}
/-- the last number -/
def lc (f : Poly p) : Int := co (row f) (len f - 1)
theorem lc_range (hp : 0 < p) (f : Poly p) : 0 ≤ lc f ∧ lc f < p := (row_row hp f).cos hp _
theorem lc_ne (hp : 0 < p) {f : Poly p} (h : f ≠ 0) : ¬ (p : Int) ∣ lc f :=
  (row_row hp f).last_co hp fun z => h (eq_zero_of_len (by unfold len; rw [z]; rfl))
theorem lc_mk (hp : 0 < p) {l : List Int} : (p : Int) ∣ lc (mk p l) - co l (len (mk p l) - 1) := by
  unfold lc
  have h := mk_iff.mp (mk_row (mk p l))
  exact h _
theorem len_mul_le (hp : 0 < p) (f g : Poly p) : len (f * g) ≤ len f + len g - 1 := by
  have e : f * g = mk p (mulL (row f) (row g)) := by rw [← mk_mul, mk_row, mk_row]
  rw [e, len_le_iff]
  intro i hi
  rw [co_mul_ge (by unfold len at hi; omega)]
  exact ⟨0, by simp⟩
theorem len_mul (h : Prm p) {f g : Poly p} (hf : f ≠ 0) (hg : g ≠ 0) : len (f * g) + 1 = len f + len g := by
  have e : f * g = mk p (mulL (row f) (row g)) := by rw [← mk_mul, mk_row, mk_row]
  have h1 := len_pos hf
  have h2 := len_pos hg
  have h3 := len_mul_le h.pos f g
  have h4 : len f - 1 + (len g - 1) < len (f * g) := by
    rw [e, len_lt_iff]
    refine ⟨_, Nat.le_refl _, ?_⟩
    rw [co_mul_top (by unfold len at h1 ⊢; omega) (by unfold len at h2 ⊢; omega)]
    intro hd
    rcases h.dv _ _ hd with z | z
    · exact lc_ne h.pos hf z
    · exact lc_ne h.pos hg z
  omega
theorem mul_ne (h : Prm p) {f g : Poly p} (hf : f ≠ 0) (hg : g ≠ 0) : f * g ≠ 0 := by
  have h1 := len_mul h hf hg
  have h2 := len_pos hf
  have h3 := len_pos hg
  exact ne_of_len (by omega)
theorem zero_mul' (f : Poly p) : 0 * f = 0 := by grind
theorem mul_zero' (f : Poly p) : f * 0 = 0 := by grind
theorem cancel (h : Prm p) {f g k : Poly p} (hf : f ≠ 0) (e : f * g = f * k) : g = k := by
  apply Classical.byContradiction
  intro hn
  have h1 : g - k ≠ 0 := fun z => hn (by grind)
  exact mul_ne h hf h1 (by grind)
theorem lc_mul (h : Prm p) {f g : Poly p} (hf : f ≠ 0) (hg : g ≠ 0) : (p : Int) ∣ lc (f * g) - lc f * lc g := by
  have e : f * g = mk p (mulL (row f) (row g)) := by rw [← mk_mul, mk_row, mk_row]
  have h1 := len_pos hf
  have h2 := len_pos hg
  have h3 := len_mul h hf hg
  have h4 := lc_mk h.pos (l := mulL (row f) (row g))
  rw [← e] at h4
  have e2 : len (f * g) - 1 = len f - 1 + (len g - 1) := by omega
  rw [e2, co_mul_top (by unfold len at h1 ⊢; omega) (by unfold len at h2 ⊢; omega)] at h4
  exact h4
/-- plain -/
def Mon (f : Poly p) : Prop := lc f = 1
theorem Mon.ne (h : Prm p) {f : Poly p} (m : Mon f) : f ≠ 0 := fun z => by
  subst z
  have e : lc (0 : Poly p) = 0 := by
    unfold lc
    rw [co_ge]
    show len (0 : Poly p) ≤ _
    rw [len_zero]; omega
  rw [Mon, e] at m
  omega
theorem mod_one {p : Nat} (h : Prm p) {a : Int} (h0 : 0 ≤ a ∧ a < p) (hd : (p : Int) ∣ a - 1) : a = 1 := by
  have h1 := mod_eq hd
  have h2 := h.two
  rw [Int.emod_eq_of_lt h0.1 h0.2, Int.emod_eq_of_lt (by omega) (by omega)] at h1
  exact h1
theorem Mon.mul (h : Prm p) {f g : Poly p} (hf : Mon f) (hg : Mon g) : Mon (f * g) := by
  have h1 := lc_mul h (hf.ne h) (hg.ne h)
  rw [hf, hg] at h1
  exact mod_one h (lc_range h.pos _) h1
theorem Mon.right (h : Prm p) {f g : Poly p} (hf : Mon f) (hfg : Mon (f * g)) : Mon g := by
  have hg : g ≠ 0 := fun z => hfg.ne h (by rw [z]; grind)
  have h1 := lc_mul h (hf.ne h) hg
  rw [hf, hfg] at h1
  refine mod_one h (lc_range h.pos _) ?_
  obtain ⟨k, e⟩ := h1
  exact ⟨-k, by rw [Int.mul_neg]; omega⟩
theorem len_one_C {f : Poly p} (h : len f = 1) : f = mk p [lc f] := by
  have h1 : lc f = co (row f) 0 := by unfold lc; rw [h]
  unfold len at h
  rw [h1]
  match e : row f, h with
  | [x], _ =>
    rw [← mk_row f, e]
    rfl
theorem Mon.one (h : Prm p) {f : Poly p} (m : Mon f) (hl : len f ≤ 1) : f = 1 := by
  have h1 := len_pos (m.ne h)
  have h2 := len_one_C (f := f) (by omega)
  rw [m] at h2
  rw [h2]; rfl
theorem isRow_one (h : Prm p) : IsRow p [1] := ⟨fun x hx => by
    have := h.two
    simp at hx
    subst hx
    omega, fun x hx => by simp at hx; omega⟩
theorem len_one (h : Prm p) : len (1 : Poly p) = 1 := len_of (isRow_one h)
theorem Mon_one (h : Prm p) : Mon (1 : Poly p) := by
  unfold Mon lc
  rw [len_one h]
  show co (row (mk p [1])) 0 = 1
  rw [row_of (isRow_one h)]; rfl
theorem one_ne (h : Prm p) : (1 : Poly p) ≠ 0 := (Mon_one h).ne h
theorem Mon_of_last {l : List Int} (hl : IsRow p l) (h : l.getLast? = some 1) : Mon (mk p l) := by
  unfold Mon lc
  rw [row_of hl, len_of hl]
  exact Pl.last_co h
theorem last_of_Mon {l : List Int} (hl : IsRow p l) (m : Mon (mk p l)) (hn : l ≠ []) : l.getLast? = some 1 := by
  rw [co_last hn]
  unfold Mon lc at m
  rw [row_of hl, len_of hl] at m
  rw [m]
theorem bez (a b : Nat) : ∃ x y : Int, (a : Int) * x + (b : Int) * y = (Nat.gcd a b : Int) := by
  induction a, b using Nat.gcd.induction with
  | H0 n => exact ⟨0, 1, by simp⟩
  | H1 m n hm ih =>
    obtain ⟨x, y, e⟩ := ih
    refine ⟨y - (n / m : Nat) * x, x, ?_⟩
    have h1 : (n : Int) = (n % m : Nat) + (m : Int) * (n / m : Nat) := by exact_mod_cast (Nat.mod_add_div n m).symm
    rw [Nat.gcd_rec, ← e]
    generalize ((n / m : Nat) : Int) = q at *
    generalize ((n % m : Nat) : Int) = r at *
    rw [h1]
    grind
/-- an inverse -/
theorem inv_ex (h : Prm p) {a : Int} (ha : ¬ (p : Int) ∣ a) : ∃ b : Int, (p : Int) ∣ b * a - 1 := by
  have hc : Int.gcd a p = 1 := by
    have h1 : (Int.gcd a p : Int) ∣ a := Int.gcd_dvd_left ..
    have h2 : (Int.gcd a p : Int) ∣ p := Int.gcd_dvd_right ..
    obtain ⟨k, e⟩ := h2
    have h3 : (p : Int) ∣ (Int.gcd a p : Int) * k := ⟨1, by rw [← e]; omega⟩
    have hp := h.pos
    rcases h.dv _ _ h3 with z | z
    · exact absurd (Int.dvd_trans z h1) ha
    · obtain ⟨m, e2⟩ := z
      rw [e2] at e
      have e3 : (p : Int) * ((Int.gcd a p : Int) * m) = p * 1 := by rw [Int.mul_one]; grind
      have e4 := Int.eq_of_mul_eq_mul_left (by omega) e3
      have h5 : (Int.gcd a p : Int) ∣ 1 := ⟨m, e4.symm⟩
      have h6 := Int.eq_one_of_dvd_one (by omega) h5
      omega
  obtain ⟨x, y, e⟩ := bez a.natAbs p
  have hg : Nat.gcd a.natAbs p = 1 := hc
  rw [hg] at e
  rcases Int.natAbs_eq a with z | z
  · rw [← z] at e
    exact ⟨x, -y, by rw [Int.mul_neg]; have : x * a = a * x := Int.mul_comm _ _; omega⟩
  · have z2 : (a.natAbs : Int) = -a := by omega
    rw [z2] at e
    exact ⟨-x, -y, by rw [Int.mul_neg]; have : -x * a = -a * x := by grind
                      omega⟩
end Poly
end Pl
-- M3
/-! # Division, what divides two, the slope of what has no square -/
set_option linter.all false
namespace Pl
namespace Poly
variable {p : Nat}
/-- f divides g -/
def Dv (f g : Poly p) : Prop := ∃ k, g = f * k
theorem Dv.len (h : Prm p) {f g : Poly p} (d : Dv f g) (hg : g ≠ 0) : Poly.len f ≤ Poly.len g := by
  obtain ⟨k, rfl⟩ := d
  have hf : f ≠ 0 := fun z => hg (by rw [z]; grind)
  have hk : k ≠ 0 := fun z => hg (by rw [z]; grind)
  have h1 := len_mul h hf hk
  have h2 := len_pos hk
  omega
/-- x to a power -/
def xp (p n : Nat) : Poly p := mk p (List.replicate n 0 ++ [1])
theorem co_shift : ∀ (n : Nat) (l : List Int) (i : Nat), co (List.replicate n 0 ++ l) (n + i) = co l i
  | 0, l, i => by simp
  | n + 1, l, i => by
    rw [List.replicate_succ, show n + 1 + i = n + i + 1 by omega]
    show co (List.replicate n 0 ++ l) (n + i) = _
    exact co_shift n l i
theorem co_shift_lt : ∀ (n : Nat) (l : List Int) (i : Nat), i < n → co (List.replicate n 0 ++ l) i = 0
  | n + 1, l, 0, _ => by rw [List.replicate_succ]; rfl
  | n + 1, l, i + 1, h => by
    rw [List.replicate_succ]
    show co (List.replicate n 0 ++ l) i = 0
    exact co_shift_lt n l i (by omega)
/-- x ^ n times -/
theorem xp_mul (n : Nat) (l : List Int) : xp p n * mk p l = mk p (List.replicate n 0 ++ l) := by
  induction n with
  | zero =>
    exact mk_ext fun i => by
      show co (mulL [1] l) i = co l i
      exact co_one_mul l i
  | succ n ih =>
    have e : xp p (n + 1) * mk p l = mk p [0] + X * (xp p n * mk p l) := by
      have e1 : xp p (n + 1) = mk p [0] + X * xp p n := mk_cons 0 _
      rw [e1, ← zero_def]
      grind
    rw [e, ih, ← mk_cons]
    rfl
theorem div_step (h : Prm p) {a b : Poly p} (hb : b ≠ 0) (hl : len b ≤ len a) : ∃ q, len (a - q * b) < len a := by
  have hbl := len_pos hb
  obtain ⟨c, hc⟩ := inv_ex h (lc_ne h.pos hb)
  refine ⟨mk p [lc a * c] * xp p (len a - len b), ?_⟩
  have e : a - mk p [lc a * c] * xp p (len a - len b) * b = mk p (addL (row a) (smulL (-(lc a * c)) (List.replicate (len a - len b) 0 ++ row b))) := by
    have e1 : mk p (addL (row a) (smulL (-(lc a * c)) (List.replicate (len a - len b) 0 ++ row b))) = a + -(mk p [lc a * c] * (xp p (len a - len b) * b)) := by
      rw [← mk_add, mk_row]
      refine congrArg (a + ·) ?_
      have e2 : xp p (len a - len b) * b = mk p (List.replicate (len a - len b) 0 ++ row b) := by
        rw [← xp_mul, mk_row]
      rw [e2, mk_mul, mk_neg]
      exact mk_ext fun i => by rw [co_smul, co_smul, co_C_mul]; grind
    rw [e1]
    grind
  rw [e]
  have h0 : len a = (row a).length := rfl
  have h1 : len b = (row b).length := rfl
  have hle : ∀ i, len a - 1 ≤ i → (p : Int) ∣ co (addL (row a) (smulL (-(lc a * c)) (List.replicate (len a - len b) 0 ++ row b))) i := by
    intro i hi
    rw [co_add, co_smul]
    have e3 : co (List.replicate (len a - len b) 0 ++ row b) i = co (row b) (i - (len a - len b)) := by
      have := co_shift (len a - len b) (row b) (i - (len a - len b))
      rw [show len a - len b + (i - (len a - len b)) = i by omega] at this
      exact this
    rw [e3]
    by_cases hi2 : i = len a - 1
    · have e4 : i - (len a - len b) = len b - 1 := by omega
      rw [e4, hi2]
      obtain ⟨k, hk⟩ := hc
      refine ⟨-(lc a) * k, ?_⟩
      have e5 : co (row a) (len a - 1) = lc a := rfl
      have e6 : co (row b) (len b - 1) = lc b := rfl
      rw [e5, e6]
      grind
    · rw [co_ge (l := row a) (by omega), co_ge (l := row b) (by omega)]
      exact ⟨0, by simp⟩
  have := len_le_iff.mpr hle
  omega
theorem div_ex (h : Prm p) {b : Poly p} (hb : b ≠ 0) : ∀ (n : Nat) (a : Poly p), len a ≤ n → ∃ q r, a = q * b + r ∧ len r < len b
  | 0, a, ha => ⟨0, a, by grind, by have := len_pos hb; omega⟩
  | n + 1, a, ha => by
    by_cases hl : len b ≤ len a
    · obtain ⟨q, hq⟩ := div_step h hb hl
      obtain ⟨q', r, e, hr⟩ := div_ex h hb n (a - q * b) (by omega)
      exact ⟨q' + q, r, by grind, hr⟩
    · exact ⟨0, a, by grind, by omega⟩
/-- quotient and rest are the only ones -/
theorem div_unique (h : Prm p) {b q r q' r' : Poly p} (e : q * b + r = q' * b + r') (hr : len r < len b) (hr' : len r' < len b) : q = q' ∧ r = r' := by
  have hb : b ≠ 0 := ne_of_len (by omega)
  have e1 : (q - q') * b = r' - r := by grind
  have hq : q - q' = 0 := by
    apply Classical.byContradiction
    intro hn
    have h1 := len_mul h hn hb
    rw [e1] at h1
    have h2 : len (r' - r) ≤ len b - 1 := len_sub (by omega) (by omega)
    have h3 := len_pos hn
    omega
  refine ⟨by grind, by grind⟩
/-- a unit makes plain -/
theorem plain_ex (h : Prm p) {f : Poly p} (hf : f ≠ 0) : ∃ c d : Int, Mon (mk p [c] * f) ∧ mk p [d] * (mk p [c] * f) = f := by
  obtain ⟨c, hc⟩ := inv_ex h (lc_ne h.pos hf)
  have e1 : mk p [lc f] * mk p [c] = (1 : Poly p) := by
    rw [one_def, mk_mul]
    refine mk_eq fun i => ?_
    rw [co_C_mul]
    cases i with
    | zero =>
      obtain ⟨k, e⟩ := hc
      exact ⟨k, by simp; grind⟩
    | succ i => exact ⟨0, by simp⟩
  refine ⟨c, lc f, ?_, by
    have : mk p [lc f] * (mk p [c] * f) = (mk p [lc f] * mk p [c]) * f := by grind
    rw [this, e1]; grind⟩
  have hcn : mk p [c] ≠ 0 := fun z => by
    rw [z] at e1
    exact one_ne h (by rw [← e1]; grind)
  have hl : lc (mk p [c]) = c % p := by
    have h1 : len (mk p [c]) ≤ 1 := len_le_iff.mpr fun i hi => by
      cases i with
      | zero => omega
      | succ i => exact ⟨0, by simp⟩
    have h2 := len_pos hcn
    have h3 := lc_mk h.pos (l := [c])
    rw [show len (mk p [c]) - 1 = 0 by omega, co_cons_zero] at h3
    have h4 := mod_eq h3
    have h5 := lc_range h.pos (mk p [c])
    rw [Int.emod_eq_of_lt h5.1 h5.2] at h4
    exact h4
  refine mod_one h (lc_range h.pos _) ?_
  have h1 := lc_mul h hcn hf
  rw [hl] at h1
  obtain ⟨k, e⟩ := h1
  obtain ⟨m, e2⟩ := hc
  have h3 := Int.emod_add_mul_ediv c p
  refine ⟨k + m - (c / p) * lc f, ?_⟩
  generalize c % (p : Int) = r at *
  generalize c / (p : Int) = q at *
  grind
/-- a plain one that both are multiples of, made of both -/
theorem gcd_ex (h : Prm p) : ∀ (n : Nat) (a b : Poly p), len b ≤ n → (a ≠ 0 ∨ b ≠ 0) → ∃ g s t u v : Poly p, Mon g ∧ a = g * s ∧ b = g * t ∧ u * a + v * b = g := by
  have base : ∀ a : Poly p, a ≠ 0 → ∃ g s t u v : Poly p, Mon g ∧ a = g * s ∧ 0 = g * t ∧ u * a + v * 0 = g := fun a ha => by
    obtain ⟨c, d, h1, h2⟩ := plain_ex h ha
    exact ⟨mk p [c] * a, mk p [d], 0, mk p [c], 0, h1, by grind, by grind, by grind⟩
  intro n
  induction n with
  | zero =>
    intro a b hb hab
    have hb0 : b = 0 := eq_zero_of_len (by omega)
    subst hb0
    exact base a (hab.elim id fun z => absurd rfl z)
  | succ n ih =>
    intro a b hb hab
    by_cases hb0 : b = 0
    · subst hb0
      exact base a (hab.elim id fun z => absurd rfl z)
    · obtain ⟨q, r, e, hr⟩ := div_ex h hb0 (len a) a (Nat.le_refl _)
      obtain ⟨g, s, t, u, v, m, e1, e2, e3⟩ := ih b r (by omega) (.inl hb0)
      exact ⟨g, q * s + t, s, v, u - v * q, m, by grind, e1, by grind⟩

/-- apart: made 1 of both -/
def Cop (f g : Poly p) : Prop := ∃ u v, u * f + v * g = 1
/-- nothing divides it twice -/
def Sqf (f : Poly p) : Prop := Cop f (der f)
theorem Cop.symm {f g : Poly p} (c : Cop f g) : Cop g f := by
  obtain ⟨u, v, e⟩ := c
  exact ⟨v, u, by grind⟩
theorem Cop.left {f g k : Poly p} (c : Cop (f * g) k) : Cop f k := by
  obtain ⟨u, v, e⟩ := c
  exact ⟨u * g, v, by grind⟩
theorem Cop.dv {f g k : Poly p} (c : Cop f g) (d : Dv k f) : Cop k g := by
  obtain ⟨m, rfl⟩ := d
  exact c.left
theorem Cop.mul {f g k : Poly p} (c : Cop f k) (d : Cop g k) : Cop (f * g) k := by
  obtain ⟨u, v, e⟩ := c
  obtain ⟨u', v', e'⟩ := d
  exact ⟨u * u', u * f * v' + v * u' * g + v * k * v', by grind⟩
theorem Cop.cancel {f g k : Poly p} (c : Cop f g) (d : Dv f (g * k)) : Dv f k := by
  obtain ⟨u, v, e⟩ := c
  obtain ⟨m, e2⟩ := d
  exact ⟨u * k + v * m, by grind⟩
theorem Cop.unit (h : Prm p) {f g : Poly p} (c : Cop f g) (d : Dv f g) (m : Mon f) : f = 1 := by
  obtain ⟨u, v, e⟩ := c
  obtain ⟨k, rfl⟩ := d
  have d1 : Dv f (1 : Poly p) := ⟨u + v * k, by grind⟩
  have h1 := d1.len h (one_ne h)
  rw [len_one h] at h1
  exact m.one h h1
theorem Sqf.cop {f g : Poly p} (s : Sqf (f * g)) : Cop f g := by
  obtain ⟨u, v, e⟩ := s
  rw [der_mul] at e
  exact ⟨u * g + v * der g, v * der f, by grind⟩
theorem Sqf.left {f g : Poly p} (s : Sqf (f * g)) : Sqf f := by
  obtain ⟨u, v, e⟩ := s
  rw [der_mul] at e
  exact ⟨u * g + v * der g, v * g, by grind⟩
theorem Sqf.right {f g : Poly p} (s : Sqf (f * g)) : Sqf g := by
  have e : f * g = g * f := by grind
  rw [e] at s
  exact s.left
theorem Sqf_one : Sqf (1 : Poly p) := ⟨1, 0, by grind⟩

theorem ring1 (n D x d' d s y x' : Poly p) (h : d' * s = d * y) : (n * D * d' * x + D * d * x') * (d * s) = D * d * d * (n * y * x + x' * s) := by
  have e : (n * D * d' * x + D * d * x') * (d * s) = n * D * x * d * (d' * s) + D * d * x' * d * s := by grind
  rw [e, h]
  grind
theorem ring2 (g' w g w' t : Poly p) (h : g' * w + g * w' = g * t) : g * (t - w') = g' * w := by grind
theorem ring3 (g D x d z u v y : Poly p) (h : g = D * x) (h2 : g * y = D * d * z) (h3 : u * d + v * y = 1) : g = D * d * (u * x + v * z) := by
  have e : g = g * (u * d + v * y) := by rw [h3]; grind
  have e2 : g * (u * d + v * y) = g * d * u + (g * y) * v := by grind
  rw [e, e2, h2, h]
  grind
/-- THE KEY: f without its fellows with its slope has no square -/
theorem sqf_of_gcd (h : Prm p) {g w t u v : Poly p} (hg : g ≠ 0) (hw : w ≠ 0) (hf : der (g * w) = g * t) (e : u * w + v * t = 1) : Sqf w := by
  obtain ⟨d, s, r, a, b, md, ew, ed, eg⟩ := gcd_ex h (len (der w)) w (der w) (Nat.le_refl _) (.inl hw)
  have hk : ∀ k : Nat, Dv (d ^ k) g := by
    intro k
    induction k with
    | zero => exact ⟨g, by have : d ^ 0 = 1 := Lean.Grind.Semiring.pow_zero d
                           rw [this]; grind⟩
    | succ k ih =>
      obtain ⟨x, ex⟩ := ih
      have pk : d ^ (k + 1) = d ^ k * d := Lean.Grind.Semiring.pow_succ _ _
      rw [der_mul] at hf
      -- der g * w = g * (t - der w), der g = k d^(k-1) d' x + d^k x'
      have hw1 : Dv d (der d * s) := by
        have h1 : der w = der d * s + d * der s := by rw [ew, der_mul]
        exact ⟨r - der s, by grind⟩
      obtain ⟨y, ey⟩ := hw1
      have hgw : Dv (d ^ (k + 1)) (der g * w) := by
        cases k with
        | zero =>
          have p0 : d ^ 0 = 1 := Lean.Grind.Semiring.pow_zero d
          exact ⟨der g * s, by rw [pk, p0]; grind⟩
        | succ k =>
          have pk2 : d ^ (k + 1) = d ^ k * d := Lean.Grind.Semiring.pow_succ _ _
          have e1 : der g = ((k + 1 : Nat) : Poly p) * d ^ k * der d * x + d ^ (k + 1) * der x := by
            have e0 : der g = der (d ^ (k + 1) * x) := by rw [ex]
            rw [e0, der_mul, der_pow]
          refine ⟨((k + 1 : Nat) : Poly p) * y * x + der x * s, ?_⟩
          rw [e1, pk, pk2, ew]
          exact ring1 _ _ _ _ _ _ _ _ ey
      obtain ⟨z, ez⟩ := hgw
      -- d is apart from t - der w
      have hc : Cop d (t - der w) := ⟨u * s + v * r, v, by grind⟩
      obtain ⟨u', v', e'⟩ := hc
      -- d^(k+1) divides g (t - der w), d^k divides g
      refine ⟨u' * x + v' * z, ?_⟩
      have e3 : g * (t - der w) = d ^ (k + 1) * z := by rw [← ez]; exact ring2 _ _ _ _ _ hf
      rw [pk] at e3 ⊢
      exact ring3 _ _ _ _ _ _ _ _ ex e3 e'
  have hd1 : d = 1 := by
    apply Classical.byContradiction
    intro hn
    have hl : 2 ≤ len d := Nat.lt_of_not_le fun z => hn (md.one h z)
    have hdn := md.ne h
    have hpow : ∀ k : Nat, d ^ k ≠ 0 ∧ k < len (d ^ k) := by
      intro k
      induction k with
      | zero =>
        have p0 : d ^ 0 = 1 := Lean.Grind.Semiring.pow_zero d
        rw [p0, len_one h]
        exact ⟨one_ne h, by omega⟩
      | succ k ih =>
        have pk : d ^ (k + 1) = d ^ k * d := Lean.Grind.Semiring.pow_succ _ _
        rw [pk]
        have h1 := len_mul h ih.1 hdn
        exact ⟨mul_ne h ih.1 hdn, by omega⟩
    have h1 := (hk (len g)).len h hg
    have h2 := (hpow (len g)).2
    omega
  exact ⟨a, b, by rw [eg, hd1]⟩

/-! ### a number times itself as often as the prime tells -/
theorem one_pow' (n : Nat) : (1 : Poly p) ^ n = 1 := by
  induction n with
  | zero => exact Lean.Grind.Semiring.pow_zero _
  | succ n ih => rw [Lean.Grind.Semiring.pow_succ, ih]; grind
theorem pow_add' (f : Poly p) (m n : Nat) : f ^ (m + n) = f ^ m * f ^ n := by
  induction n with
  | zero => rw [Nat.add_zero, Lean.Grind.Semiring.pow_zero]; grind
  | succ n ih => rw [← Nat.add_assoc, Lean.Grind.Semiring.pow_succ, Lean.Grind.Semiring.pow_succ, ih]; grind
theorem mul_pow' (f g : Poly p) (n : Nat) : (f * g) ^ n = f ^ n * g ^ n := by
  induction n with
  | zero => rw [Lean.Grind.Semiring.pow_zero, Lean.Grind.Semiring.pow_zero, Lean.Grind.Semiring.pow_zero]; grind
  | succ n ih => rw [Lean.Grind.Semiring.pow_succ, Lean.Grind.Semiring.pow_succ, Lean.Grind.Semiring.pow_succ, ih]; grind
theorem pow_mul' (f : Poly p) (m n : Nat) : f ^ (m * n) = (f ^ m) ^ n := by
  induction n with
  | zero => rw [Nat.mul_zero, Lean.Grind.Semiring.pow_zero, Lean.Grind.Semiring.pow_zero]
  | succ n ih => rw [Nat.mul_succ, pow_add', ih, Lean.Grind.Semiring.pow_succ]
def cho : Nat → Nat → Nat
  | _, 0 => 1
  | 0, _ + 1 => 0
  | n + 1, k + 1 => cho n k + cho n (k + 1)
theorem cho_gt : ∀ {n k : Nat}, n < k → cho n k = 0
  | 0, k + 1, _ => rfl
  | n + 1, k + 1, h => by
    show cho n k + cho n (k + 1) = 0
    rw [cho_gt (by omega), cho_gt (by omega)]
theorem cho_self : ∀ n : Nat, cho n n = 1
  | 0 => rfl
  | n + 1 => by
    show cho n n + cho n (n + 1) = 1
    rw [cho_self n, cho_gt (by omega)]
theorem cho_mul : ∀ n k : Nat, (k + 1) * cho (n + 1) (k + 1) = (n + 1) * cho n k
  | 0, 0 => rfl
  | 0, k + 1 => by
    show (k + 1 + 1) * (cho 0 (k + 1) + cho 0 (k + 1 + 1)) = (0 + 1) * cho 0 (k + 1)
    simp [cho]
  | n + 1, 0 => by
    have := cho_mul n 0
    show (0 + 1) * (cho (n + 1) 0 + cho (n + 1) (0 + 1)) = (n + 1 + 1) * cho (n + 1) 0
    have h0 : cho (n + 1) 0 = 1 := rfl
    have h1 : cho n 0 = 1 := by cases n <;> rfl
    rw [h0]
    rw [h1] at this
    omega
  | n + 1, k + 1 => by
    have h1 := cho_mul n k
    have h2 := cho_mul n (k + 1)
    show (k + 1 + 1) * (cho (n + 1) (k + 1) + cho (n + 1) (k + 1 + 1)) = (n + 1 + 1) * cho (n + 1) (k + 1)
    have h3 : cho (n + 1) (k + 1) = cho n k + cho n (k + 1) := rfl
    grind
def sumTo (f : Nat → Poly p) : Nat → Poly p
  | 0 => 0
  | n + 1 => sumTo f n + f n
theorem binom_step (a b : Poly p) (n : Nat) : ∀ m, m ≤ n → sumTo (fun k => (cho (n + 1) k : Poly p) * a ^ k * b ^ (n + 1 - k)) (m + 1)
    = a * sumTo (fun k => (cho n k : Poly p) * a ^ k * b ^ (n - k)) m + b * sumTo (fun k => (cho n k : Poly p) * a ^ k * b ^ (n - k)) (m + 1)
  | 0, _ => by
    have p0 : ∀ f : Poly p, f ^ 0 = 1 := fun f => Lean.Grind.Semiring.pow_zero f
    have h1 : cho n 0 = 1 := by cases n <;> rfl
    simp only [sumTo, p0, h1, show cho (n + 1) 0 = 1 from rfl, Nat.sub_zero]
    rw [Lean.Grind.Semiring.pow_succ b n]
    grind
  | m + 1, h => by
    have ih := binom_step a b n m (by omega)
    rw [sumTo, ih]
    have e1 : sumTo (fun k => (cho n k : Poly p) * a ^ k * b ^ (n - k)) (m + 1 + 1) = sumTo (fun k => (cho n k : Poly p) * a ^ k * b ^ (n - k)) (m + 1) + (cho n (m + 1) : Poly p) * a ^ (m + 1) * b ^ (n - (m + 1)) := rfl
    have e2 : sumTo (fun k => (cho n k : Poly p) * a ^ k * b ^ (n - k)) (m + 1) = sumTo (fun k => (cho n k : Poly p) * a ^ k * b ^ (n - k)) m + (cho n m : Poly p) * a ^ m * b ^ (n - m) := rfl
    rw [e1, e2]
    have e3 : n + 1 - (m + 1) = n - m := by omega
    have e4 : b ^ (n - m) = b ^ (n - (m + 1)) * b := by
      rw [← Lean.Grind.Semiring.pow_succ]
      congr 1
      omega
    have e5 : ((cho (n + 1) (m + 1) : Nat) : Poly p) = (cho n m : Poly p) + (cho n (m + 1) : Poly p) := by
      show mk p [((cho n m + cho n (m + 1) : Nat) : Int)] = mk p (addL [(cho n m : Int)] [(cho n (m + 1) : Int)])
      exact mk_ext fun i => by simp [addL]
    rw [e3, e5, e4, Lean.Grind.Semiring.pow_succ a m]
    grind
theorem binom (a b : Poly p) (n : Nat) : (a + b) ^ n = sumTo (fun k => (cho n k : Poly p) * a ^ k * b ^ (n - k)) (n + 1) := by
  have p0 : ∀ f : Poly p, f ^ 0 = 1 := fun f => Lean.Grind.Semiring.pow_zero f
  induction n with
  | zero =>
    simp only [sumTo, p0, cho, Nat.sub_self]
    have : ((1 : Nat) : Poly p) = 1 := rfl
    rw [this]; grind
  | succ n ih =>
    have e0 : sumTo (fun k => (cho (n + 1) k : Poly p) * a ^ k * b ^ (n + 1 - k)) (n + 1 + 1) = sumTo (fun k => (cho (n + 1) k : Poly p) * a ^ k * b ^ (n + 1 - k)) (n + 1) + (cho (n + 1) (n + 1) : Poly p) * a ^ (n + 1) * b ^ (n + 1 - (n + 1)) := rfl
    rw [Lean.Grind.Semiring.pow_succ, ih, e0, binom_step a b n n (Nat.le_refl _)]
    have e1 : sumTo (fun k => (cho n k : Poly p) * a ^ k * b ^ (n - k)) (n + 1) = sumTo (fun k => (cho n k : Poly p) * a ^ k * b ^ (n - k)) n + (cho n n : Poly p) * a ^ n * b ^ (n - n) := rfl
    rw [e1, cho_self, cho_self, Nat.sub_self, Nat.sub_self, p0, Lean.Grind.Semiring.pow_succ a n]
    have : ((1 : Nat) : Poly p) = 1 := rfl
    rw [this]
    grind
theorem sumTo_zero {f : Nat → Poly p} : ∀ m, (∀ k, k < m → f k = 0) → sumTo f m = 0
  | 0, _ => rfl
  | m + 1, h => by rw [sumTo, sumTo_zero m fun k hk => h k (by omega), h m (by omega)]; grind
theorem sumTo_head {f : Nat → Poly p} : ∀ m, (∀ k, 0 < k → k < m + 1 → f k = 0) → sumTo f (m + 1) = f 0
  | 0, _ => by simp only [sumTo]; grind
  | m + 1, h => by rw [sumTo, sumTo_head m fun k h1 h2 => h k h1 (by omega), h (m + 1) (by omega) (by omega)]; grind
theorem cast_zero {n : Nat} (h : p ∣ n) : ((n : Nat) : Poly p) = 0 := by
  rw [zero_nil]
  refine mk_eq fun i => ?_
  cases i with
  | zero =>
    obtain ⟨k, rfl⟩ := h
    exact ⟨k, by simp⟩
  | succ i => exact ⟨0, by simp⟩
theorem frob_add (h : Prm p) (a b : Poly p) : (a + b) ^ p = a ^ p + b ^ p := by
  have p0 : ∀ f : Poly p, f ^ 0 = 1 := fun f => Lean.Grind.Semiring.pow_zero f
  have h1 : ((1 : Nat) : Poly p) = 1 := rfl
  obtain ⟨n, hn⟩ : ∃ n, p = n + 1 := ⟨p - 1, by have := h.pos; omega⟩
  have mid : ∀ k, 0 < k → k < n + 1 → ((cho p k : Nat) : Poly p) = 0 := fun k hk hk2 => by
    apply cast_zero
    obtain ⟨j, rfl⟩ : ∃ j, k = j + 1 := ⟨k - 1, by omega⟩
    have e := cho_mul n j
    rw [← hn] at e
    have hd : (p : Int) ∣ ((j + 1 : Nat) : Int) * (cho p (j + 1) : Int) := ⟨cho n j, by exact_mod_cast e⟩
    rcases h.dv _ _ hd with z | z
    · have := Int.le_of_dvd (by omega) z
      omega
    · exact Int.natCast_dvd_natCast.mp z
  rw [binom, sumTo]
  have e1 : sumTo (fun k => (cho p k : Poly p) * a ^ k * b ^ (p - k)) p = b ^ p := by
    have e2 : sumTo (fun k => (cho p k : Poly p) * a ^ k * b ^ (p - k)) (n + 1) = (cho p 0 : Poly p) * a ^ 0 * b ^ (p - 0) :=
      sumTo_head n fun k h2 h3 => by rw [mid k h2 h3]; grind
    have e3 : cho p 0 = 1 := by rw [hn]; rfl
    rw [← hn] at e2
    rw [e2, e3, p0, h1, Nat.sub_zero]
    grind
  rw [e1, cho_self, Nat.sub_self, p0, h1]
  grind
theorem fermat (h : Prm p) (n : Nat) : ((n : Nat) : Poly p) ^ p = (n : Poly p) := by
  induction n with
  | zero =>
    obtain ⟨k, hk⟩ : ∃ k, p = k + 1 := ⟨p - 1, by have := h.pos; omega⟩
    have e : ((0 : Nat) : Poly p) = 0 := rfl
    rw [e]
    have : (0 : Poly p) ^ (k + 1) = 0 := by rw [Lean.Grind.Semiring.pow_succ]; grind
    rw [← hk] at this
    exact this
  | succ n ih =>
    have e : ((n + 1 : Nat) : Poly p) = (n : Poly p) + 1 := Lean.Grind.Semiring.ofNat_succ n
    rw [e, frob_add h, ih, one_pow']
theorem fermatC (h : Prm p) {x : Int} (hx : 0 ≤ x) : (mk p [x]) ^ p = mk p [x] := by
  obtain ⟨n, rfl⟩ := Int.eq_ofNat_of_zero_le hx
  exact fermat h n
/-- its numbers p places apart -/
def spread (p : Nat) : List Int → List Int
  | [] => []
  | x :: a => x :: (List.replicate (p - 1) 0 ++ spread p a)
theorem X_pow (n : Nat) : (X : Poly p) ^ n = xp p n := by
  induction n with
  | zero => exact Lean.Grind.Semiring.pow_zero _
  | succ n ih =>
    have e1 : xp p (n + 1) = mk p [0] + X * xp p n := mk_cons 0 _
    rw [Lean.Grind.Semiring.pow_succ, ih, e1, ← zero_def]; grind
theorem spread_pow (h : Prm p) : ∀ a : List Int, (∀ x ∈ a, 0 ≤ x) → mk p (spread p a) = (mk p a) ^ p
  | [], _ => by
    obtain ⟨k, hk⟩ : ∃ k, p = k + 1 := ⟨p - 1, by have := h.pos; omega⟩
    have : (mk p []) ^ (k + 1) = mk p [] := by rw [Lean.Grind.Semiring.pow_succ, ← zero_nil]; grind
    rw [← hk] at this
    exact this.symm
  | x :: a, hx => by
    have ih := spread_pow h a fun y hy => hx y (List.mem_cons_of_mem _ hy)
    have e1 : mk p (spread p (x :: a)) = mk p [x] + X * (xp p (p - 1) * mk p (spread p a)) := by
      rw [xp_mul]
      exact mk_cons x _
    rw [mk_cons x a, frob_add h, fermatC h (hx x List.mem_cons_self), mul_pow', ← ih, e1]
    have e2 : (X : Poly p) ^ p = X * xp p (p - 1) := by
      have e3 : p - 1 + 1 = p := by have := h.pos; omega
      have e4 : (X : Poly p) ^ (p - 1 + 1) = X * xp p (p - 1) := by rw [Lean.Grind.Semiring.pow_succ, X_pow]; grind
      rw [e3] at e4
      exact e4
    rw [e2]; grind
theorem co_spread (hp : 0 < p) : ∀ (a : List Int) (i : Nat), co (spread p a) i = if i % p = 0 then co a (i / p) else 0
  | [], i => by simp [spread]
  | x :: a, 0 => by simp [spread]
  | x :: a, i + 1 => by
    rw [spread, co_cons_succ]
    by_cases hi : i < p - 1
    · rw [co_shift_lt _ _ _ hi, if_neg (by rw [Nat.mod_eq_of_lt (by omega)]; omega)]
    · obtain ⟨j, rfl⟩ : ∃ j, i = p - 1 + j := ⟨i - (p - 1), by omega⟩
      rw [co_shift, co_spread hp a j]
      have e1 : p - 1 + j + 1 = j + p := by omega
      rw [e1, Nat.add_mod_right, Nat.add_div_right _ hp, co_cons_succ]
/-- every p-th number -/
def everyL (p : Nat) (l : List Int) : List Int := (List.range ((l.length + p - 1) / p)).map fun i => co l (p * i)
theorem co_range_map (f : Nat → Int) (n i : Nat) : co ((List.range n).map f) i = if i < n then f i else 0 := by
  by_cases h : i < n
  · rw [if_pos h]
    exact co_of (by rw [List.getElem?_map, List.getElem?_range h]; rfl)
  · rw [if_neg h, co_ge (by simpa using h)]
theorem co_every (hp : 0 < p) (l : List Int) (i : Nat) : co (everyL p l) i = co l (p * i) := by
  unfold everyL
  rw [co_range_map]
  split
  · rfl
  · rename_i h
    rw [co_ge]
    have h1 : (l.length + p - 1) / p ≤ i := by omega
    have h2 : l.length + p - 1 < p * (i + 1) := by
      have := Nat.lt_mul_div_succ (l.length + p - 1) hp
      have h3 : p * ((l.length + p - 1) / p + 1) ≤ p * (i + 1) := Nat.mul_le_mul_left _ (by omega)
      omega
    rw [Nat.mul_succ] at h2
    omega
/-- what has no slope is a p-th power -/
theorem root_pow (h : Prm p) {l : List Int} (hl : IsRow p l) (hd : der (mk p l) = 0) : mk p l = (mk p (everyL p l)) ^ p := by
  rw [← spread_pow h]
  · refine mk_eq fun i => ?_
    rw [co_spread h.pos, co_every h.pos]
    by_cases hi : i % p = 0
    · rw [if_pos hi]
      have : p * (i / p) = i := by have := Nat.mod_add_div i p; omega
      rw [this]
      exact ⟨0, by omega⟩
    · rw [if_neg hi]
      cases i with
      | zero => simp at hi
      | succ i =>
        rw [zero_nil, mk_der, mk_iff] at hd
        have h1 := hd i
        rw [co_der, co_nil, Int.sub_zero] at h1
        rcases h.dv _ _ h1 with z | z
        · exfalso
          apply hi
          have z2 : ((p : Nat) : Int) ∣ ((i + 1 : Nat) : Int) := by exact_mod_cast z
          exact Nat.mod_eq_zero_of_dvd (Int.natCast_dvd_natCast.mp z2)
        · rw [Int.sub_zero]
          exact z
  · intro x hx
    unfold everyL at hx
    obtain ⟨i, _, rfl⟩ := List.mem_map.mp hx
    exact (hl.cos h.pos _).1
end Poly
end Pl
-- M4
/-! # The parts of a row: what the program's loop tells, and that it is right -/
set_option linter.all false
namespace Pl
open Poly
/-- g is plain, divides both, is made of both; s and t are what it goes into them -/
structure Met (p : Nat) (a b g s t : List Int) : Prop where
  rg : IsRow p g
  rs : IsRow p s
  rt : IsRow p t
  mon : Mon (mk p g)
  ea : mk p a = mk p g * mk p s
  eb : mk p b = mk p g * mk p t
  ex : ∃ u v : Poly p, u * mk p a + v * mk p b = mk p g
theorem Mon.eq_of {p : Nat} (h : Prm p) {f g : Poly p} (mf : Mon f) (mg : Mon g) (d : Dv f g) (d' : Dv g f) : f = g := by
  obtain ⟨k, e⟩ := d
  have mk1 : Mon k := Mon.right h mf (by rw [← e]; exact mg)
  have h1 := Dv.len h d' (mf.ne h)
  have h2 := len_mul h (mf.ne h) (mk1.ne h)
  rw [← e] at h2
  have h3 := mk1.one h (by omega)
  rw [e, h3]; grind
theorem Met.unique {p : Nat} (h : Prm p) {a b g s t g' s' t' : List Int} (m : Met p a b g s t) (m' : Met p a b g' s' t') : g = g' ∧ s = s' ∧ t = t' := by
  obtain ⟨u, v, e⟩ := m.ex
  obtain ⟨u', v', e'⟩ := m'.ex
  have eg : Pl.mk p g = Pl.mk p g' := by
    refine Mon.eq_of h m.mon m'.mon ⟨u' * Pl.mk p s + v' * Pl.mk p t, ?_⟩ ⟨u * Pl.mk p s' + v * Pl.mk p t', ?_⟩
    · rw [← e', m.ea, m.eb]; grind
    · rw [← e, m'.ea, m'.eb]; grind
  have hg := m.mon.ne h
  refine ⟨row_inj m.rg m'.rg eg, row_inj m.rs m'.rs (cancel h hg ?_), row_inj m.rt m'.rt (cancel h hg ?_)⟩
  · rw [← m.ea, m'.ea, eg]
  · rw [← m.eb, m'.eb, eg]

/-- the loop of parted from wide, left, many on: what it finds, and what is left -/
inductive PLoop (p : Nat) : List Int → List Int → Nat → List (List Int × Nat) → List Int → Prop
  | done {w l : List Int} {m : Nat} : w.length ≤ 1 → PLoop p w l m [] l
  | keep {w l y z l' lf : List Int} {m : Nat} {out : List (List Int × Nat)} : 1 < w.length → Met p w l y z l' → 1 < z.length → PLoop p y l' (m + 1) out lf → PLoop p w l m ((z, m) :: out) lf
  | skip {w l y z l' lf : List Int} {m : Nat} {out : List (List Int × Nat)} : 1 < w.length → Met p w l y z l' → z.length ≤ 1 → PLoop p y l' (m + 1) out lf → PLoop p w l m out lf
theorem PLoop.unique {p : Nat} (h : Prm p) {w l lf lf' : List Int} {m : Nat} {out out' : List (List Int × Nat)} (a : PLoop p w l m out lf) (b : PLoop p w l m out' lf') : out = out' ∧ lf = lf' := by
  induction a generalizing out' lf' with
  | done h1 =>
    cases b with
    | done _ => exact ⟨rfl, rfl⟩
    | keep h2 _ _ _ => omega
    | skip h2 _ _ _ => omega
  | keep h1 m1 z1 r1 ih =>
    cases b with
    | done h2 => omega
    | keep h2 m2 z2 r2 =>
      obtain ⟨e1, e2, e3⟩ := m1.unique h m2
      subst e1 e2 e3
      obtain ⟨e4, e5⟩ := ih r2
      exact ⟨by rw [e4], e5⟩
    | skip h2 m2 z2 r2 =>
      obtain ⟨e1, e2, e3⟩ := m1.unique h m2
      subst e2
      omega
  | skip h1 m1 z1 r1 ih =>
    cases b with
    | done h2 => omega
    | keep h2 m2 z2 r2 =>
      obtain ⟨e1, e2, e3⟩ := m1.unique h m2
      subst e2
      omega
    | skip h2 m2 z2 r2 =>
      obtain ⟨e1, e2, e3⟩ := m1.unique h m2
      subst e1 e2 e3
      exact ih r2
/-- the parts, as parted tells them -/
inductive Parted (p : Nat) : List Int → List (List Int × Nat) → Prop
  | flat {a d g w t lf : List Int} {out R : List (List Int × Nat)} : IsRow p d → mk p d = der (mk p a) → Met p a d g w t → PLoop p w g 1 out lf → lf.length ≤ 1 →
      R.Perm out → R.Pairwise (·.2 ≤ ·.2) → Parted p a R
  | deep {a d g w t lf : List Int} {out Rs R : List (List Int × Nat)} : IsRow p d → mk p d = der (mk p a) → Met p a d g w t → PLoop p w g 1 out lf → 1 < lf.length → Parted p (everyL p lf) Rs →
      R.Perm (out ++ Rs.map fun x => (x.1, x.2 * p)) → R.Pairwise (·.2 ≤ ·.2) → Parted p a R

/-- all parts, each so often -/
def prodR (p : Nat) : List (List Int × Nat) → Poly p
  | [] => 1
  | x :: R => mk p x.1 ^ x.2 * prodR p R
theorem prodR_append (p : Nat) : ∀ R S : List (List Int × Nat), prodR p (R ++ S) = prodR p R * prodR p S
  | [], S => by show prodR p S = 1 * prodR p S; grind
  | x :: R, S => by
    show mk p x.1 ^ x.2 * prodR p (R ++ S) = mk p x.1 ^ x.2 * prodR p R * prodR p S
    rw [prodR_append p R S]; grind
theorem prodR_perm {p : Nat} {R S : List (List Int × Nat)} (h : R.Perm S) : prodR p R = prodR p S := by
  induction h with
  | nil => rfl
  | cons x _ ih => show _ * _ = _ * _; rw [ih]
  | swap x y l => show mk p y.1 ^ y.2 * (mk p x.1 ^ x.2 * prodR p l) = mk p x.1 ^ x.2 * (mk p y.1 ^ y.2 * prodR p l); grind
  | trans _ _ ih1 ih2 => rw [ih1, ih2]
theorem prodR_dv {p : Nat} : ∀ {R : List (List Int × Nat)} {x : List Int × Nat}, x ∈ R → Dv (mk p x.1 ^ x.2) (prodR p R)
  | y :: R, x, h => by
    rcases List.mem_cons.mp h with e | e
    · subst e
      exact ⟨prodR p R, rfl⟩
    · obtain ⟨k, e2⟩ := prodR_dv e
      exact ⟨mk p y.1 ^ y.2 * k, by show _ * prodR p R = _; rw [e2]; grind⟩
theorem Poly.Dv.trans {p : Nat} {f g k : Poly p} (a : Dv f g) (b : Dv g k) : Dv f k := by
  obtain ⟨x, rfl⟩ := a
  obtain ⟨y, rfl⟩ := b
  exact ⟨x * y, by grind⟩
theorem Poly.Dv.refl {p : Nat} (f : Poly p) : Dv f f := ⟨1, by grind⟩
theorem dv_pow {p : Nat} (f : Poly p) {n : Nat} (h : 1 ≤ n) : Dv f (f ^ n) := by
  obtain ⟨k, rfl⟩ : ∃ k, n = k + 1 := ⟨n - 1, by omega⟩
  exact ⟨f ^ k, by rw [Lean.Grind.Semiring.pow_succ]; grind⟩
theorem len_pow {p : Nat} (h : Prm p) {f : Poly p} (hf : 2 ≤ Poly.len f) (n : Nat) : f ^ n ≠ 0 ∧ n < Poly.len (f ^ n) := by
  have hf0 : f ≠ 0 := ne_of_len (by omega)
  induction n with
  | zero =>
    rw [Lean.Grind.Semiring.pow_zero, len_one h]
    exact ⟨one_ne h, by omega⟩
  | succ k ih =>
    rw [Lean.Grind.Semiring.pow_succ]
    have h1 := len_mul h ih.1 hf0
    exact ⟨mul_ne h ih.1 hf0, by omega⟩

/-- what each found one is -/
structure Fine (p : Nat) (x : List Int × Nat) : Prop where
  row : IsRow p x.1
  mon : Mon (mk p x.1)
  wide : 1 < x.1.length
  pos : 1 ≤ x.2
  sqf : Sqf (mk p x.1)
/-- what the loop keeps -/
structure LInv (p : Nat) (F W T : Poly p) (k : Nat) (w l : List Int) (A B r s : Poly p) : Prop where
  rw' : IsRow p w
  rl : IsRow p l
  mw : Mon (mk p w)
  ml : Mon (mk p l)
  eF : F = A * mk p w ^ k * mk p l
  eW : W = B * mk p w
  es : mk p w * der (mk p l) = mk p l * s
  et : T = mk p w * r + ((k : Nat) : Poly p) * B * der (mk p w) + B * s
/-- what it tells -/
structure LOut (p : Nat) (F A : Poly p) (k : Nat) (w l : List Int) (out : List (List Int × Nat)) (lf : List Int) : Prop where
  fine : ∀ x ∈ out, Fine p x ∧ k ≤ x.2 ∧ ¬ p ∣ x.2 ∧ Dv (mk p x.1) (mk p w) ∧ Cop (mk p x.1) (mk p lf)
  rise : out.Pairwise fun x y => x.2 < y.2 ∧ Cop (mk p x.1) (mk p y.1)
  rl : IsRow p lf
  ml : Mon (mk p lf)
  dl : Dv (mk p lf) (mk p l)
  eF : F = A * prodR p out * mk p lf
  flat : der (mk p lf) = 0
theorem ringA (A w k' y z l1 l : Poly p) (wk yk zk : Poly p) (e1 : wk = yk * zk) (e2 : l = y * l1) : A * wk * l = A * zk * (yk * y) * l1 := by
  rw [e1, e2]; grind
theorem ringB (y z r B z' y' s1 k : Poly p) : y * z * r + k * B * (y' * z + y * z') + B * (z * s1) = y * (z * r + k * B * z') + (k + 1) * (B * z) * y' + B * z * (s1 - y') := by grind
theorem ringC (y z l l' s1 : Poly p) (dl : Poly p) (e : y * z * dl = (y * l) * (z * s1)) : (y * z) * dl = (y * z) * (l * s1) := by rw [e]; grind
theorem ringD (y y' l l' s1 : Poly p) (e : y' * l + y * l' = l * s1) : y * l' = l * (s1 - y') := by grind
theorem ploop_ok {p : Nat} (h : Prm p) {F W T : Poly p} (hs : Sqf W) (hc : Cop W T) {w l lf : List Int} {k : Nat} {out : List (List Int × Nat)} (a : PLoop p w l k out lf) :
    ∀ A B r s : Poly p, 1 ≤ k → LInv p F W T k w l A B r s → LOut p F A k w l out lf := by
  induction a with
  | @done w l k h1 =>
    intro A B r s hk I
    have w1 : mk p w = 1 := I.mw.one h (by rw [len_of I.rw']; exact h1)
    have fl : der (mk p l) = 0 := by
      apply Classical.byContradiction
      intro hn
      have e := I.es
      rw [w1] at e
      have hl := I.ml.ne h
      have hs0 : s ≠ 0 := fun z => hn (by rw [z] at e; grind)
      have h2 := len_mul h hl hs0
      rw [← e] at h2
      have e3 : (1 : Poly p) * der (mk p l) = der (mk p l) := by grind
      rw [e3] at h2
      have h3 := len_der (mk p l)
      have h4 := len_pos hs0
      have h5 := len_pos hl
      omega
    exact ⟨fun x hx => by simp at hx, List.Pairwise.nil, I.rl, I.ml, Dv.refl _, by
      have e := I.eF
      rw [w1, one_pow'] at e
      rw [e]
      show _ = A * 1 * _
      grind, fl⟩
  | @keep w l y z l' lf k out h1 m hz hr ih =>
    intro A B r s hk I
    obtain ⟨mz, ml', s1, es1, czl, czy, ed, I2⟩ := step h hs I m
    have hp : ¬ p ∣ k := fun hd => by
      have hk0 : ((k : Nat) : Poly p) = 0 := cast_zero hd
      have e := I.et
      rw [hk0, m.ea, es1] at e
      have hdz : Dv (mk p z) T := ⟨mk p y * r + B * s1, by rw [e]; grind⟩
      have hdW : Dv (mk p z) W := ⟨B * mk p y, by rw [I.eW, m.ea]; grind⟩
      have hone := Cop.unit h (hc.dv hdW) hdz mz
      have hl := len_of m.rs
      rw [hone, len_one h] at hl
      omega
    have O := ih _ _ _ _ (by omega) I2
    have dzw : Dv (mk p z) (mk p w) := ⟨mk p y, by rw [m.ea]; grind⟩
    have dyw : Dv (mk p y) (mk p w) := ⟨mk p z, m.ea⟩
    have dl'l : Dv (mk p l') (mk p l) := ⟨mk p y, by rw [m.eb]; grind⟩
    have sz : Sqf (mk p z) := by
      rw [I.eW, m.ea] at hs
      exact hs.right.right
    refine ⟨fun x hx => ?_, List.pairwise_cons.mpr ⟨fun x hx => ?_, O.rise⟩, O.rl, O.ml, O.dl.trans dl'l, ?_, O.flat⟩
    · rcases List.mem_cons.mp hx with e | e
      · subst e
        exact ⟨⟨m.rs, mz, hz, hk, sz⟩, Nat.le_refl _, hp, dzw, (czl.symm.dv (O.dl.trans dl'l)).symm⟩
      · obtain ⟨f1, f2, f3, f4, f5⟩ := O.fine x e
        exact ⟨f1, by omega, f3, f4.trans dyw, f5⟩
    · obtain ⟨f1, f2, f3, f4, f5⟩ := O.fine x hx
      exact ⟨by show k < x.2; omega, (czy.symm.dv f4).symm⟩
    · rw [O.eF]
      show _ = A * (mk p z ^ k * prodR p out) * _
      grind
  | @skip w l y z l' lf k out h1 m hz hr ih =>
    intro A B r s hk I
    obtain ⟨mz, ml', s1, es1, czl, czy, ed, I2⟩ := step h hs I m
    have O := ih _ _ _ _ (by omega) I2
    have z1 : mk p z = 1 := mz.one h (by rw [len_of m.rs]; exact hz)
    have dyw : Dv (mk p y) (mk p w) := ⟨mk p z, m.ea⟩
    have dl'l : Dv (mk p l') (mk p l) := ⟨mk p y, by rw [m.eb]; grind⟩
    refine ⟨fun x hx => ?_, O.rise, O.rl, O.ml, O.dl.trans dl'l, ?_, O.flat⟩
    · obtain ⟨f1, f2, f3, f4, f5⟩ := O.fine x hx
      exact ⟨f1, by omega, f3, f4.trans dyw, f5⟩
    · rw [O.eF, z1, one_pow']
      grind
where
  step {p : Nat} (h : Prm p) {F W T : Poly p} (hs : Sqf W) {w l y z l' : List Int} {k : Nat} {A B r s : Poly p} (I : LInv p F W T k w l A B r s) (m : Met p w l y z l') :
      Mon (mk p z) ∧ Mon (mk p l') ∧ ∃ s1, s = mk p z * s1 ∧ Cop (mk p z) (mk p l) ∧ Cop (mk p z) (mk p y) ∧ der (mk p l) = mk p l' * s1 ∧
        LInv p F W T (k + 1) y l' (A * mk p z ^ k) (B * mk p z) (mk p z * r + ((k : Nat) : Poly p) * B * der (mk p z)) (s1 - der (mk p y)) := by
    have mz : Mon (mk p z) := Mon.right h m.mon (by rw [← m.ea]; exact I.mw)
    have ml' : Mon (mk p l') := Mon.right h m.mon (by rw [← m.eb]; exact I.ml)
    have hy := m.mon.ne h
    have hz := mz.ne h
    have sw : Sqf (mk p w) := by rw [I.eW] at hs; exact hs.right
    have cyz : Cop (mk p y) (mk p z) := by rw [m.ea] at sw; exact sw.cop
    have czl' : Cop (mk p z) (mk p l') := by
      obtain ⟨u, v, e⟩ := m.ex
      refine ⟨u, v, cancel h hy ?_⟩
      rw [m.ea, m.eb] at e
      have e2 : mk p y * (u * mk p z + v * mk p l') = u * (mk p y * mk p z) + v * (mk p y * mk p l') := by grind
      rw [e2, e]; grind
    have czl : Cop (mk p z) (mk p l) := by rw [m.eb]; exact (cyz.mul czl'.symm).symm
    have dzs : Dv (mk p z) s := czl.cancel ⟨mk p y * der (mk p l), by rw [← I.es, m.ea]; grind⟩
    obtain ⟨s1, es1⟩ := dzs
    have ed : der (mk p l) = mk p l' * s1 := by
      refine cancel h (mul_ne h hy hz) (ringC _ _ _ (mk p l') _ _ ?_)
      rw [← m.ea, ← m.eb, ← es1]
      exact I.es
    refine ⟨mz, ml', s1, es1, czl, cyz.symm, ed, m.rg, m.rt, m.mon, ml', ?_, ?_, ?_, ?_⟩
    · rw [I.eF, Lean.Grind.Semiring.pow_succ]
      exact ringA _ (mk p w) (mk p w) _ (mk p z) _ _ _ _ _ (by rw [m.ea, mul_pow']) m.eb
    · rw [I.eW, m.ea]; grind
    · refine ringD _ _ _ _ _ ?_
      rw [← der_mul, ← m.eb]
      exact ed
    · have e2 : ((k + 1 : Nat) : Poly p) = ((k : Nat) : Poly p) + 1 := Lean.Grind.Semiring.ofNat_succ k
      rw [I.et, e2, m.ea, der_mul, es1]
      exact ringB _ _ _ _ _ _ _ _

/-- what parted's answer is -/
structure Good (p : Nat) (a : List Int) (R : List (List Int × Nat)) : Prop where
  fine : ∀ x ∈ R, Fine p x
  rise : R.Pairwise fun x y => x.2 < y.2
  apart : R.Pairwise fun x y => Cop (mk p x.1) (mk p y.1)
  prod : mk p a = prodR p R
/-- the first met's loop begins well -/
theorem start_ok {p : Nat} (h : Prm p) {a d g w t : List Int} (ma : Mon (mk p a)) (ed : mk p d = der (mk p a)) (m : Met p a d g w t) :
    Sqf (mk p w) ∧ Cop (mk p w) (mk p t) ∧ LInv p (mk p a) (mk p w) (mk p t) 1 w g 1 1 0 (mk p t - der (mk p w)) := by
  have hg := m.mon.ne h
  have mw : Mon (mk p w) := Mon.right h m.mon (by rw [← m.ea]; exact ma)
  obtain ⟨u, v, e⟩ := m.ex
  have e1 : u * mk p w + v * mk p t = 1 := by
    refine cancel h hg ?_
    rw [m.ea, m.eb] at e
    have e2 : mk p g * (u * mk p w + v * mk p t) = u * (mk p g * mk p w) + v * (mk p g * mk p t) := by grind
    rw [e2, e]; grind
  have hf : der (mk p g * mk p w) = mk p g * mk p t := by rw [← m.ea, ← ed, m.eb]
  refine ⟨sqf_of_gcd h hg (mw.ne h) hf e1, ⟨u, v, e1⟩, m.rs, m.rg, mw, m.mon, ?_, by grind, ?_, ?_⟩
  · have e3 : mk p w ^ 1 = mk p w := by
      have := Lean.Grind.Semiring.pow_succ (mk p w) 0
      rw [Lean.Grind.Semiring.pow_zero] at this
      rw [this]; grind
    rw [e3, m.ea]; grind
  · rw [der_mul] at hf
    rw [ring2 _ _ _ _ _ hf]
    grind
  · have e4 : ((1 : Nat) : Poly p) = 1 := rfl
    rw [e4]; grind
theorem every_row {p : Nat} (h : Prm p) {l : List Int} (hl : IsRow p l) (ml : Mon (mk p l)) (hd : der (mk p l) = 0) : IsRow p (everyL p l) ∧ Mon (mk p (everyL p l)) ∧ p * ((everyL p l).length - 1) + 1 = l.length := by
  have hne : l ≠ [] := fun z => ml.ne h (by rw [z, zero_nil])
  have hlen : 0 < l.length := List.length_pos_iff.mpr hne
  have hlast : co l (l.length - 1) = 1 := by
    have := ml
    unfold Mon lc at this
    rw [row_of hl, len_of hl] at this
    exact this
  have hdv : p ∣ l.length - 1 := by
    cases e : l.length - 1 with
    | zero => exact ⟨0, rfl⟩
    | succ i =>
      rw [zero_nil, mk_der, mk_iff] at hd
      have h1 := hd i
      rw [co_der, co_nil, Int.sub_zero, ← e, hlast, Int.mul_one] at h1
      have z2 : ((p : Nat) : Int) ∣ ((i + 1 : Nat) : Int) := by exact_mod_cast h1
      exact Int.natCast_dvd_natCast.mp z2
  obtain ⟨j, hj⟩ := hdv
  have hp := h.pos
  have hlene : (everyL p l).length = j + 1 := by
    unfold everyL
    rw [List.length_map, List.length_range]
    have e : l.length + p - 1 = p * (j + 1) := by rw [Nat.mul_succ]; omega
    rw [e, Nat.mul_div_cancel_left _ hp]
  have hr : IsRow p (everyL p l) := by
    refine ⟨fun x hx => ?_, fun x hx => ?_⟩
    · unfold everyL at hx
      obtain ⟨i, _, rfl⟩ := List.mem_map.mp hx
      exact hl.cos hp _
    · have := Pl.last_co hx
      rw [hlene, co_every hp, Nat.add_sub_cancel, ← hj, hlast] at this
      omega
  refine ⟨hr, ?_, ?_⟩
  · unfold Mon lc
    rw [row_of hr, len_of hr, hlene, co_every hp, Nat.add_sub_cancel, ← hj]
    exact hlast
  · rw [hlene, Nat.add_sub_cancel]; omega
theorem prodR_root {p : Nat} : ∀ R : List (List Int × Nat), prodR p (R.map fun x => (x.1, x.2 * p)) = prodR p R ^ p
  | [] => (one_pow' p).symm
  | x :: R => by
    show mk p x.1 ^ (x.2 * p) * prodR p (R.map fun x => (x.1, x.2 * p)) = (mk p x.1 ^ x.2 * prodR p R) ^ p
    rw [prodR_root R, mul_pow', pow_mul']
theorem rise_of {R L : List (List Int × Nat)} (hp : R.Perm L) (hd : L.Pairwise fun x y => x.2 ≠ y.2) (hs : R.Pairwise (·.2 ≤ ·.2)) : R.Pairwise fun x y => x.2 < y.2 := by
  have h1 : R.Pairwise fun x y => x.2 ≠ y.2 := (hp.pairwise_iff (R := fun x y : List Int × Nat => x.2 ≠ y.2) (fun h => Ne.symm h)).mpr hd
  exact (h1.and hs).imp fun {x y} h => by omega
theorem one_of {R R' L : List (List Int × Nat)} (hp : R.Perm L) (hp' : R'.Perm L) (h : R.Pairwise fun x y => x.2 < y.2) (h' : R'.Pairwise fun x y => x.2 < y.2) : R = R' :=
  List.Perm.eq_of_pairwise (le := fun x y : List Int × Nat => x.2 < y.2) (fun a b _ _ h1 h2 => by omega) h h' (hp.trans hp'.symm)
theorem Parted.good {p : Nat} (h : Prm p) {a : List Int} {R : List (List Int × Nat)} (P : Parted p a R) (ma : Mon (mk p a)) : Good p a R := by
  induction P with
  | @flat a d g w t lf out R hd ed m hl hlf hp hs =>
    obtain ⟨s1, c1, I⟩ := start_ok h ma ed m
    have O := ploop_ok h s1 c1 hl _ _ _ _ (Nat.le_refl _) I
    have lf1 : mk p lf = 1 := O.ml.one h (by rw [len_of O.rl]; exact hlf)
    refine ⟨fun x hx => (O.fine x (hp.mem_iff.mp hx)).1, rise_of hp (O.rise.imp fun h => by omega) hs, (hp.pairwise_iff (R := fun x y : List Int × Nat => Cop (mk p x.1) (mk p y.1)) (fun h => h.symm)).mpr (O.rise.imp fun h => h.2), ?_⟩
    rw [prodR_perm hp, O.eF, lf1]; grind
  | @deep a d g w t lf out Rs R hd ed m hl hlf hP hp hs ih =>
    obtain ⟨s1, c1, I⟩ := start_ok h ma ed m
    have O := ploop_ok h s1 c1 hl _ _ _ _ (Nat.le_refl _) I
    obtain ⟨er, em, _⟩ := every_row h O.rl O.ml O.flat
    have G := ih em
    have hroot := root_pow h O.rl O.flat
    have dq : ∀ x ∈ Rs, Dv (mk p x.1) (mk p lf) := fun x hx => by
      have h1 : Dv (mk p x.1) (mk p (everyL p lf)) := by
        rw [G.prod]
        exact (dv_pow _ (G.fine x hx).pos).trans (prodR_dv hx)
      rw [hroot]
      exact h1.trans (dv_pow _ h.pos)
    have hall : (out ++ Rs.map fun x => (x.1, x.2 * p)).Pairwise fun x y => x.2 ≠ y.2 ∧ Cop (mk p x.1) (mk p y.1) := by
      rw [List.pairwise_append]
      refine ⟨O.rise.imp fun h => ⟨by omega, h.2⟩, ?_, fun x hx y hy => ?_⟩
      · rw [List.pairwise_map]
        refine (G.rise.and G.apart).imp fun {x y} h2 => ⟨?_, h2.2⟩
        have h3 : x.2 < y.2 := h2.1
        have h4 : x.2 * p < y.2 * p := Nat.mul_lt_mul_of_pos_right h3 h.pos
        show x.2 * p ≠ y.2 * p
        omega
      · obtain ⟨z, hz, rfl⟩ := List.mem_map.mp hy
        obtain ⟨f1, f2, f3, f4, f5⟩ := O.fine x hx
        refine ⟨fun e => f3 ⟨z.2, ?_⟩, (f5.symm.dv (dq z hz)).symm⟩
        have e' : x.2 = z.2 * p := e
        rw [e', Nat.mul_comm]
    refine ⟨fun x hx => ?_, rise_of hp (hall.imp fun h => h.1) hs, (hp.pairwise_iff (R := fun x y : List Int × Nat => Cop (mk p x.1) (mk p y.1)) (fun h => h.symm)).mpr (hall.imp fun h => h.2), ?_⟩
    · rcases List.mem_append.mp (hp.mem_iff.mp hx) with e | e
      · exact (O.fine x e).1
      · obtain ⟨z, hz, rfl⟩ := List.mem_map.mp e
        have f := G.fine z hz
        exact ⟨f.row, f.mon, f.wide, Nat.mul_pos f.pos h.pos, f.sqf⟩
    · rw [prodR_perm hp, prodR_append, prodR_root, ← G.prod, ← hroot, O.eF]; grind
theorem Parted.unique {p : Nat} (h : Prm p) {a : List Int} {R R' : List (List Int × Nat)} (P : Parted p a R) (P' : Parted p a R') (ma : Mon (mk p a)) : R = R' := by
  induction P generalizing R' with
  | @flat a d g w t lf out R hd ed m hl hlf hp hs =>
    have G := Parted.good h (.flat hd ed m hl hlf hp hs) ma
    have G' := P'.good h ma
    cases P' with
    | flat hd' ed' m' hl' hlf' hp' hs' =>
      have e1 := row_inj hd hd' (ed.trans ed'.symm)
      subst e1
      obtain ⟨e2, e3, e4⟩ := m.unique h m'
      subst e2 e3 e4
      obtain ⟨e5, e6⟩ := hl.unique h hl'
      subst e5 e6
      exact one_of hp hp' G.rise G'.rise
    | deep hd' ed' m' hl' hlf' hP' hp' hs' =>
      have e1 := row_inj hd hd' (ed.trans ed'.symm)
      subst e1
      obtain ⟨e2, e3, e4⟩ := m.unique h m'
      subst e2 e3 e4
      obtain ⟨e5, e6⟩ := hl.unique h hl'
      subst e5 e6
      omega
  | @deep a d g w t lf out Rs R hd ed m hl hlf hP hp hs ih =>
    have G := Parted.good h (.deep hd ed m hl hlf hP hp hs) ma
    have G' := P'.good h ma
    obtain ⟨s1, c1, I⟩ := start_ok h ma ed m
    have O := ploop_ok h s1 c1 hl _ _ _ _ (Nat.le_refl _) I
    obtain ⟨er, em, _⟩ := every_row h O.rl O.ml O.flat
    cases P' with
    | flat hd' ed' m' hl' hlf' hp' hs' =>
      have e1 := row_inj hd hd' (ed.trans ed'.symm)
      subst e1
      obtain ⟨e2, e3, e4⟩ := m.unique h m'
      subst e2 e3 e4
      obtain ⟨e5, e6⟩ := hl.unique h hl'
      subst e5 e6
      omega
    | deep hd' ed' m' hl' hlf' hP' hp' hs' =>
      have e1 := row_inj hd hd' (ed.trans ed'.symm)
      subst e1
      obtain ⟨e2, e3, e4⟩ := m.unique h m'
      subst e2 e3 e4
      obtain ⟨e5, e6⟩ := hl.unique h hl'
      subst e5 e6
      have e7 := ih hP' em
      subst e7
      exact one_of hp hp' G.rise G'.rise
end Pl
-- M5
/-! # What taken_out and met keep -/
set_option linter.all false
namespace Pl
open Poly
theorem mk_rowL (p : Nat) (l : List Int) : mk p (rowL p l) = mk p l := mk_eq (rowL_rel p l)
theorem mk_addL {p : Nat} (a b : List Int) : mk p (addL a b) = mk p a + mk p b := rfl
theorem mk_mulL {p : Nat} (a b : List Int) : mk p (mulL a b) = mk p a * mk p b := rfl
theorem mk_smulL {p : Nat} (n : Int) (a : List Int) : mk p (smulL n a) = mk p [n] * mk p a := mk_ext fun i => by
  show co (smulL n a) i = co (mulL [n] a) i
  rw [co_smul, co_C_mul]
theorem mk_derL {p : Nat} (a : List Int) : mk p (derL a) = der (mk p a) := rfl
theorem rowL_len_eq {p : Nat} (l : List Int) : (rowL p l).length = Poly.len (mk p l) := rfl
theorem smulL_length (n : Int) : ∀ l : List Int, (smulL n l).length = l.length
  | [] => rfl
  | x :: a => by simp [smulL, smulL_length n a]
theorem rowL_length (p : Nat) (l : List Int) : (rowL p l).length ≤ l.length := by
  have := cut_len (l.map (· % (p : Int)))
  rw [List.length_map] at this
  exact this
theorem rowL_smul_len (p : Nat) (n : Int) (l : List Int) : (rowL p (smulL n l)).length ≤ l.length := by
  have := rowL_length p (smulL n l)
  rw [smulL_length] at this
  exact this
theorem rowL_mul_len {p : Nat} (hp : 0 < p) {a b : List Int} (ha : IsRow p a) (hb : IsRow p b) : (rowL p (mulL a b)).length ≤ a.length + b.length - 1 := by
  rw [rowL_len_eq, mk_mulL]
  have := len_mul_le hp (mk p a) (mk p b)
  rw [len_of ha, len_of hb] at this
  exact this
theorem rowL_add_len {p : Nat} {a b : List Int} {n : Nat} (ha : IsRow p a) (hb : IsRow p b) (h1 : a.length ≤ n) (h2 : b.length ≤ n) (c : Int) : (rowL p (addL a (smulL c b))).length ≤ n := by
  rw [rowL_len_eq, mk_addL]
  refine len_add (by rw [len_of ha]; exact h1) ?_
  rw [← rowL_len_eq]
  exact Nat.le_trans (rowL_smul_len p c b) h2
/-- shifted -/
def sh (n : Nat) (l : List Int) : List Int := List.replicate n 0 ++ l
theorem co_sh (n : Nat) (l : List Int) (i : Nat) : co (sh n l) i = if n ≤ i then co l (i - n) else 0 := by
  unfold sh
  by_cases h : n ≤ i
  · rw [if_pos h]
    have := co_shift n l (i - n)
    rw [show n + (i - n) = i by omega] at this
    exact this
  · rw [if_neg h, co_shift_lt _ _ _ (by omega)]
/-- one turn of the division -/
theorem tk_step {p : Nat} {row bl ql ll ql' ll' : List Int} {k : Nat} {n : Int} (e : mk p row = mk p ql * mk p bl + mk p ll) (hq : ∀ m, co ql' m = if m = k then n else co ql m) (h0 : co ql k = 0)
    (hl : ∀ m, (p : Int) ∣ co ll' m - (co ll m - n * (if k ≤ m then co bl (m - k) else 0))) : mk p row = mk p ql' * mk p bl + mk p ll' := by
  have e1 : mk p ql' = mk p ql + mk p [n] * xp p k := by
    show mk p ql' = mk p (addL ql (mulL [n] (sh k [1])))
    refine mk_ext fun i => ?_
    rw [hq, co_add, co_C_mul, co_sh]
    by_cases h : i = k
    · subst h
      rw [if_pos rfl, if_pos (Nat.le_refl _), Nat.sub_self, h0, co_cons_zero]; omega
    · rw [if_neg h]
      by_cases h2 : k ≤ i
      · rw [if_pos h2]
        obtain ⟨j, hj⟩ : ∃ j, i - k = j + 1 := ⟨i - k - 1, by omega⟩
        rw [hj, co_cons_succ, co_nil]; omega
      · rw [if_neg h2]; omega
  have e2 : mk p ll' = mk p ll - mk p [n] * (xp p k * mk p bl) := by
    rw [xp_mul, ← mk_smulL, sub_def, mk_neg, mk_add]
    refine mk_eq fun i => ?_
    have := hl i
    rw [co_add, co_smul, co_smul]
    show (p : Int) ∣ co ll' i - (co ll i + -1 * (n * co (sh k bl) i))
    rw [co_sh]
    have e3 : co ll i + -1 * (n * if k ≤ i then co bl (i - k) else 0) = co ll i - n * (if k ≤ i then co bl (i - k) else 0) := by omega
    rw [e3]
    exact this
  rw [e1, e2, e]
  generalize mk p [n] = c
  generalize xp p k = x
  grind
/-- the number that is taken away at the top -/
theorem tk_top {p : Nat} {c t d : Int} (ht : (p : Int) ∣ t * d - 1) : (p : Int) ∣ c - c * t % p * d := by
  obtain ⟨k, e⟩ := ht
  have h := Int.emod_add_mul_ediv (c * t) p
  refine ⟨-c * k + (c * t / p) * d, ?_⟩
  generalize c * t % (p : Int) = r at *
  generalize c * t / (p : Int) = q at *
  have e1 : r = c * t - p * q := by omega
  rw [e1]
  have e2 : t * d = 1 + p * k := by omega
  have e3 : c - (c * t - p * q) * d = c - c * (t * d) + p * q * d := by grind
  rw [e3, e2]
  grind
/-- what met's loop keeps: A, B, C of first and second -/
structure MInv (p : Nat) (a b A1 B1 C1 A2 B2 C2 : List Int) : Prop where
  r1 : IsRow p A1 ∧ IsRow p B1 ∧ IsRow p C1
  r2 : IsRow p A2 ∧ IsRow p B2 ∧ IsRow p C2
  e1 : mk p A1 = mk p B1 * mk p a + mk p C1 * mk p b
  e2 : mk p A2 = mk p B2 * mk p a + mk p C2 * mk p b
  back : ∃ x y z w : Poly p, mk p a = x * mk p A1 + y * mk p A2 ∧ mk p b = z * mk p A1 + w * mk p A2
  ne : A1 ≠ [] ∨ A2 ≠ []
  l1 : B1.length + A1.length ≤ a.length + b.length + 1 ∧ B2.length + A1.length ≤ a.length + b.length + 1 ∧ B1.length + A2.length ≤ a.length + b.length + 1 ∧ B2.length + A2.length ≤ a.length + b.length + 1
  l2 : C1.length + A1.length ≤ a.length + b.length + 1 ∧ C2.length + A1.length ≤ a.length + b.length + 1 ∧ C1.length + A2.length ≤ a.length + b.length + 1 ∧ C2.length + A2.length ≤ a.length + b.length + 1
theorem isRow_one {p : Nat} (h : Prm p) : IsRow p [1] := Poly.isRow_one h
theorem minv_start {p : Nat} (h : Prm p) {a b : List Int} (ha : IsRow p a) (hb : IsRow p b) (hn : a ≠ [] ∨ b ≠ []) : MInv p a b a [1] [] b [] [1] where
  r1 := ⟨ha, isRow_one h, isRow_nil p⟩
  r2 := ⟨hb, isRow_nil p, isRow_one h⟩
  e1 := by rw [← zero_nil, ← one_def]; grind
  e2 := by rw [← zero_nil, ← one_def]; grind
  back := ⟨1, 0, 0, 1, by grind, by grind⟩
  ne := hn
  l1 := by simp; omega
  l2 := by simp; omega
theorem minv_step {p : Nat} (h : Prm p) {a b A1 B1 C1 A2 B2 C2 q r : List Int} (I : MInv p a b A1 B1 C1 A2 B2 C2) (hA : A2 ≠ []) (hq : IsRow p q) (hr : IsRow p r) (e : mk p A1 = mk p q * mk p A2 + mk p r)
    (hl : r.length < A2.length) (hql : q.length ≤ A1.length + 1 - A2.length) :
    MInv p a b A2 B2 C2 r (rowL p (addL B1 (smulL 1 (rowL p (mulL (rowL p (smulL (-1) q)) B2))))) (rowL p (addL C1 (smulL 1 (rowL p (mulL (rowL p (smulL (-1) q)) C2))))) := by
  have hp := h.pos
  have rl := rowL_row hp (smulL (-1) q)
  have rb := rowL_row hp (mulL (rowL p (smulL (-1) q)) B2)
  have rc := rowL_row hp (mulL (rowL p (smulL (-1) q)) C2)
  have m1 : mk p [(1 : Int)] = (1 : Poly p) := rfl
  have mneg : mk p [(-1 : Int)] = (-1 : Poly p) := by
    rw [one_def, mk_neg]
    exact mk_ext fun i => by cases i <;> rfl
  have eB : mk p (rowL p (addL B1 (smulL 1 (rowL p (mulL (rowL p (smulL (-1) q)) B2))))) = mk p B1 - mk p q * mk p B2 := by
    rw [mk_rowL, mk_addL, mk_smulL, mk_rowL, mk_mulL, mk_rowL, mk_smulL, m1, mneg]; grind
  have eC : mk p (rowL p (addL C1 (smulL 1 (rowL p (mulL (rowL p (smulL (-1) q)) C2))))) = mk p C1 - mk p q * mk p C2 := by
    rw [mk_rowL, mk_addL, mk_smulL, mk_rowL, mk_mulL, mk_rowL, mk_smulL, m1, mneg]; grind
  have zl := rowL_smul_len p (-1) q
  have zb := rowL_mul_len hp rl I.r2.2.1
  have zc := rowL_mul_len hp rl I.r2.2.2
  have kB : (rowL p (addL B1 (smulL 1 (rowL p (mulL (rowL p (smulL (-1) q)) B2))))).length ≤ max B1.length (q.length + B2.length - 1) :=
    rowL_add_len I.r1.2.1 rb (by omega) (by omega) 1
  have kC : (rowL p (addL C1 (smulL 1 (rowL p (mulL (rowL p (smulL (-1) q)) C2))))).length ≤ max C1.length (q.length + C2.length - 1) :=
    rowL_add_len I.r1.2.2 rc (by omega) (by omega) 1
  have hA0 := List.length_pos_iff.mpr hA
  obtain ⟨l1a, l1b, l1c, l1d⟩ := I.l1
  obtain ⟨l2a, l2b, l2c, l2d⟩ := I.l2
  refine ⟨I.r2, ⟨hr, rowL_row hp _, rowL_row hp _⟩, I.e2, ?_, ?_, .inl hA, ⟨by omega, by omega, by omega, by omega⟩, ⟨by omega, by omega, by omega, by omega⟩⟩
  · rw [eB, eC]
    have := I.e1
    have h2 := I.e2
    have h3 : mk p r = mk p A1 - mk p q * mk p A2 := by rw [e]; grind
    rw [h3, this, h2]; grind
  · obtain ⟨x, y, z, w, h1, h2⟩ := I.back
    exact ⟨x * mk p q + y, x, z * mk p q + w, z, by rw [h1, e]; grind, by rw [h2, e]; grind⟩
/-- exact division -/
theorem tk_exact {p : Nat} (h : Prm p) {a g q r : List Int} (hg : IsRow p g) (hr : IsRow p r) {s : Poly p} (ea : mk p a = mk p g * s) (e : mk p a = mk p q * mk p g + mk p r) (hl : r.length < g.length) : mk p a = mk p g * mk p q := by
  have h1 : mk p q * mk p g + mk p r = s * mk p g + 0 := by rw [← e, ea]; grind
  have h2 := div_unique h h1 (by rw [len_of hr, len_of hg]; exact hl) (by rw [len_zero, len_of hg]; omega)
  rw [e, h2.2]; grind
/-- the end of met -/
theorem minv_fin {p : Nat} (h : Prm p) {a b A B C B2 C2 : List Int} (I : MInv p a b A B C [] B2 C2) {t : Int} (ht : (p : Int) ∣ t * co A (A.length - 1) - 1) :
    IsRow p (rowL p (smulL t A)) ∧ Mon (mk p (rowL p (smulL t A))) ∧ (∃ x : Poly p, mk p a = mk p (rowL p (smulL t A)) * x) ∧ (∃ x : Poly p, mk p b = mk p (rowL p (smulL t A)) * x) ∧
      mk p (rowL p (smulL t B)) * mk p a + mk p (rowL p (smulL t C)) * mk p b = mk p (rowL p (smulL t A)) := by
  have hA : A ≠ [] := I.ne.elim id fun z => absurd rfl z
  have hA0 : mk p A ≠ 0 := fun z => by
    have := len_of I.r1.1
    rw [z, len_zero] at this
    have := List.length_pos_iff.mpr hA
    omega
  have elc : lc (mk p A) = co A (A.length - 1) := by unfold lc; rw [row_of I.r1.1, len_of I.r1.1]
  have hr := rowL_row h.pos (smulL t A)
  -- t times the last number is 1, so t A is plain
  have et : mk p [t] * mk p [co A (A.length - 1)] = (1 : Poly p) := by
    rw [one_def, mk_mul]
    refine mk_eq fun i => ?_
    rw [co_C_mul]
    cases i with
    | zero => exact ht
    | succ i => exact ⟨0, by simp⟩
  have htn : mk p [t] ≠ (0 : Poly p) := fun z => by
    rw [z] at et
    exact one_ne h (by rw [← et]; grind)
  have mon : Mon (mk p (rowL p (smulL t A))) := by
    rw [mk_rowL, mk_smulL]
    have h1 := lc_mul h htn hA0
    have hl : (p : Int) ∣ lc (mk p [t]) - t := by
      have h1 : Poly.len (mk p [t]) ≤ 1 := len_le_iff.mpr fun i hi => by
        cases i with
        | zero => omega
        | succ i => exact ⟨0, by simp⟩
      have h2 := len_pos htn
      have h3 := lc_mk h.pos (l := [t])
      rw [show Poly.len (mk p [t]) - 1 = 0 by omega, co_cons_zero] at h3
      exact h3
    refine mod_one h (lc_range h.pos _) ?_
    rw [elc] at h1
    obtain ⟨x, ex⟩ := h1
    obtain ⟨y, ey⟩ := hl
    obtain ⟨z, ez⟩ := ht
    refine ⟨x + y * co A (A.length - 1) + z, ?_⟩
    generalize lc (mk p [t] * mk p A) = u at *
    generalize lc (mk p [t]) = v at *
    generalize co A (A.length - 1) = d at *
    grind
  obtain ⟨x, y, z, w, h1, h2⟩ := I.back
  have eA : mk p A = mk p (rowL p (smulL t A)) * mk p [co A (A.length - 1)] := by
    rw [mk_rowL, mk_smulL]
    have : mk p [t] * mk p A * mk p [co A (A.length - 1)] = (mk p [t] * mk p [co A (A.length - 1)]) * mk p A := by grind
    rw [this, et]; grind
  rw [← zero_nil] at h1 h2
  refine ⟨hr, mon, ⟨x * mk p [co A (A.length - 1)], by rw [h1, eA]; grind⟩, ⟨z * mk p [co A (A.length - 1)], by rw [h2, eA]; grind⟩, ?_⟩
  rw [mk_rowL, mk_rowL, mk_rowL, mk_smulL, mk_smulL, mk_smulL, I.e1]; grind
end Pl
-- M6
/-! # Bounds on the parts; what no_square says of a row and its parts -/
set_option linter.all false
namespace Pl
open Poly
theorem prodR_ne {p : Nat} (h : Prm p) : ∀ {R : List (List Int × Nat)}, (∀ x ∈ R, Fine p x) → prodR p R ≠ 0
  | [], _ => one_ne h
  | x :: R, f => by
    have fx := f x List.mem_cons_self
    have h1 := (len_pow h (f := mk p x.1) (by rw [len_of fx.row]; exact fx.wide) x.2).1
    exact mul_ne h h1 (prodR_ne h fun y hy => f y (List.mem_cons_of_mem _ hy))
/-- each part divides the row so often -/
theorem Good.many_lt {p : Nat} (h : Prm p) {a : List Int} (ha : IsRow p a) {R : List (List Int × Nat)} (G : Good p a R) {x : List Int × Nat} (hx : x ∈ R) : x.2 < a.length := by
  have fx := G.fine x hx
  have h1 := (len_pow h (f := Pl.mk p x.1) (by rw [len_of fx.row]; exact fx.wide) x.2).2
  have h2 : Dv (Pl.mk p x.1 ^ x.2) (Pl.mk p a) := by rw [G.prod]; exact prodR_dv hx
  have hne : Pl.mk p a ≠ 0 := by rw [G.prod]; exact prodR_ne h G.fine
  have h3 := h2.len h hne
  rw [len_of ha] at h3
  omega
theorem Good.row_le {p : Nat} (h : Prm p) {a : List Int} (ha : IsRow p a) {R : List (List Int × Nat)} (G : Good p a R) {x : List Int × Nat} (hx : x ∈ R) : x.1.length ≤ a.length := by
  have fx := G.fine x hx
  have h2 : Dv (Pl.mk p x.1) (Pl.mk p a) := by rw [G.prod]; exact (dv_pow _ fx.pos).trans (prodR_dv hx)
  have hne : Pl.mk p a ≠ 0 := by rw [G.prod]; exact prodR_ne h G.fine
  have h3 := h2.len h hne
  rw [len_of ha, len_of fx.row] at h3
  exact h3
theorem rise_len : ∀ (R : List (List Int × Nat)) (lo n : Nat), (R.Pairwise fun x y => x.2 < y.2) → (∀ x ∈ R, lo ≤ x.2 ∧ x.2 < n) → lo ≤ n → R.length + lo ≤ n
  | [], lo, n, _, _, h => by simp; exact h
  | x :: R, lo, n, hp, hx, h => by
    have h1 := hx x List.mem_cons_self
    obtain ⟨h2, h3⟩ := List.pairwise_cons.mp hp
    have := rise_len R (x.2 + 1) n h3 (fun y hy => ⟨h2 y hy, (hx y (List.mem_cons_of_mem _ hy)).2⟩) (by omega)
    simp
    omega
theorem Good.length_le {p : Nat} (h : Prm p) {a : List Int} (ha : IsRow p a) {R : List (List Int × Nat)} (G : Good p a R) : R.length ≤ a.length := by
  have := rise_len R 0 a.length G.rise (fun x hx => ⟨Nat.zero_le _, G.many_lt h ha hx⟩) (Nat.zero_le _)
  omega
/-- a row is c times its plain one: no square just where no part is there twice -/
theorem sqf_iff {p : Nat} (h : Prm p) {a l : List Int} {c : Int} {R : List (List Int × Nat)} (G : Good p a R) (e : Pl.mk p l = Pl.mk p [c] * Pl.mk p a) (hc : ¬ (p : Int) ∣ c) : Sqf (Pl.mk p l) ↔ ∀ x ∈ R, x.2 ≤ 1 := by
  obtain ⟨c', hc'⟩ := inv_ex h hc
  have ec : Pl.mk p [c'] * Pl.mk p [c] = (1 : Poly p) := by
    rw [one_def, mk_mul]
    refine mk_eq fun i => ?_
    rw [co_C_mul]
    cases i with
    | zero => exact hc'
    | succ i => exact ⟨0, by simp⟩
  constructor
  · intro hs x hx
    refine Nat.le_of_not_lt fun hlt => ?_
    have fx := G.fine x hx
    obtain ⟨k, hk⟩ : Dv (Pl.mk p x.1 ^ x.2) (Pl.mk p a) := by rw [G.prod]; exact prodR_dv hx
    obtain ⟨n, hn⟩ : ∃ n, x.2 = n + 1 + 1 := ⟨x.2 - 2, by omega⟩
    have e2 : Pl.mk p x.1 ^ x.2 = Pl.mk p x.1 ^ n * Pl.mk p x.1 * Pl.mk p x.1 := by rw [hn, Lean.Grind.Semiring.pow_succ, Lean.Grind.Semiring.pow_succ]
    have e3 : Pl.mk p l = Pl.mk p x.1 * (Pl.mk p x.1 * (Pl.mk p x.1 ^ n * k * Pl.mk p [c])) := by rw [e, hk, e2]; grind
    generalize Pl.mk p x.1 ^ n * k * Pl.mk p [c] = z at e3
    rw [e3] at hs
    have hcop := hs.cop
    have hu := Cop.unit h hcop ⟨z, rfl⟩ fx.mon
    have hl := len_of fx.row
    rw [hu, len_one h] at hl
    have := fx.wide
    omega
  · intro hx
    -- all parts once: there is none, or one
    have hsa : Sqf (Pl.mk p a) := by
      rw [G.prod]
      match R, G.rise, G.fine, hx with
      | [], _, _, _ => exact Sqf_one
      | [x], _, f, hx =>
        have f1 := f x List.mem_cons_self
        have e1 : x.2 = 0 + 1 := by
          have := f1.pos
          have := hx x List.mem_cons_self
          omega
        show Sqf (Pl.mk p x.1 ^ x.2 * 1)
        have e2 : Pl.mk p x.1 ^ x.2 * 1 = Pl.mk p x.1 := by
          rw [e1, Lean.Grind.Semiring.pow_succ, Lean.Grind.Semiring.pow_zero]; grind
        rw [e2]
        exact f1.sqf
      | x :: y :: R, hr, f, hx =>
        exfalso
        have f1 := (f x List.mem_cons_self).pos
        have h1 := hx y (List.mem_cons_of_mem _ List.mem_cons_self)
        have h2 := (List.pairwise_cons.mp hr).1 y List.mem_cons_self
        omega
    obtain ⟨u, v, euv⟩ := hsa
    refine ⟨Pl.mk p [c'] * u, Pl.mk p [c'] * v, ?_⟩
    have ed : Poly.der (Pl.mk p l) = Pl.mk p [c] * Poly.der (Pl.mk p a) := by rw [e, der_CM]
    rw [ed, e]
    have : Pl.mk p [c'] * u * (Pl.mk p [c] * Pl.mk p a) + Pl.mk p [c'] * v * (Pl.mk p [c] * Poly.der (Pl.mk p a)) = (Pl.mk p [c'] * Pl.mk p [c]) * (u * Pl.mk p a + v * Poly.der (Pl.mk p a)) := by grind
    rw [this, ec, euv]; grind
end Pl
-- W0
set_option Elab.async false
set_option linter.all false
set_option maxRecDepth 100000
set_option maxHeartbeats 4000000
namespace Kp
open PySem PySem.Spec PyProof.Rows L2
def topS (i : Nat) : Stmt := PySem.Challenge.pw_polyring_k18_whole_parts.main.body.getD i (.Pass ⟨0, 0, 0, 0⟩)

/-! ### lists of whole numbers in the heap -/
/-- at a stands the list l -/
abbrev Ls (H : Hp) (a : Addr) (l : List Int) : Prop := H a = some (.lst (l.map V.int))
/-- a new list comes back, all else stands -/
def NewL (H : Hp) (Q : VK) (l : List Int) : Prop := ∀ H' p, Same H H' → H p = none → Ls H' p l → Q (.ref p) H'

theorem same_new {H H' : Hp} {p : Addr} {o : HO} (s : Same H H') (n : H' p = none) : Same H (upd H' p o) := fun b x e => by
  have e' := s b x e
  rw [upd_ne (ne_of_none e' n)]
  exact e'
theorem same_mut {H H' : Hp} {p : Addr} {o : HO} (s : Same H H') (n : H p = none) : Same H (upd H' p o) := fun b x e => by
  rw [upd_ne (ne_of_none e n)]
  exact s b x e
theorem small_line {n : Nat} (h : n ≤ 100000) : n < sizeLine := Nat.lt_of_le_of_lt h (by decide)
theorem small_line' {n : Nat} (h : n ≤ 100000) : n ≤ sizeLine := Nat.le_of_lt (small_line h)
theorem map_get {l : List Int} {i : Nat} (h : i < l.length) : (l.map V.int)[i]? = some (.int (Pl.co l i)) := by
  rw [List.getElem?_map, Pl.co_some h]; rfl
/-- l[i], i a number from 0 on -/
theorem at_ls {l : List Int} {z : Int} {i : Nat} (e : z = (i : Int)) (h : i < l.length) : atI (l.map V.int) z = some (.int (Pl.co l i)) := at_of e (map_get h)
theorem at_neg {l : List Int} (h : 0 < l.length) : atI (l.map V.int) (-1) = some (.int (Pl.co l (l.length - 1))) := by
  have hne : l ≠ [] := List.length_pos_iff.mp h
  have e : l.map V.int = (l.dropLast.map V.int) ++ [.int (l.getLast hne)] := by
    rw [← List.map_singleton, ← List.map_append, List.dropLast_concat_getLast]
  rw [e, atI_last]
  have h1 := Pl.co_last hne
  rw [List.getLast?_eq_getLast hne] at h1
  rw [Option.some.inj h1]
theorem ixn_nat {n : Nat} {z : Int} {i : Nat} (e : z = (i : Int)) (h : i < n) : ixN n z = some i := by
  unfold ixN
  rw [e, if_pos (by omega), if_pos (by omega)]
  rfl
theorem set_map (l : List Int) (j : Nat) (z : Int) : (l.map V.int).set j (.int z) = (l.set j z).map V.int := by
  rw [List.map_set]
theorem co_set : ∀ (l : List Int) (j : Nat) (z : Int) (i : Nat), j < l.length → Pl.co (l.set j z) i = if i = j then z else Pl.co l i
  | [], j, z, i, h => by simp at h
  | x :: a, 0, z, 0, h => by simp
  | x :: a, 0, z, i + 1, h => by simp
  | x :: a, j + 1, z, 0, h => by simp
  | x :: a, j + 1, z, i + 1, h => by
    rw [List.set_cons_succ, Pl.co_cons_succ, Pl.co_cons_succ, co_set a j z i (by simpa using h)]
    simp
theorem cut_take {l : List Int} {m : Nat} (h : ∀ j, m ≤ j → Pl.co l j = 0) (hl : m = 0 ∨ Pl.co l (m - 1) ≠ 0) : l.take m = Pl.cutL l := by
  have h1 : ∀ i, Pl.co (l.take m) i = Pl.co l i := fun i => by
    rw [Pl.co_get, Pl.co_get, List.getD_eq_getElem?_getD, List.getD_eq_getElem?_getD, List.getElem?_take]
    split
    · rfl
    · have := h i (by omega)
      rw [Pl.co_get, List.getD_eq_getElem?_getD] at this
      rw [this]; rfl
  rw [← Pl.cut_congr h1, Pl.cut_row_eq]
  intro x hx
  have h2 := Pl.last_co hx
  rw [h1, List.length_take] at h2
  have hne : l.take m ≠ [] := fun z => by rw [z] at hx; simp at hx
  have hlen := List.length_pos_iff.mpr hne
  rw [List.length_take] at hlen
  rcases hl with z | z
  · omega
  · by_cases hm : m ≤ l.length
    · rw [Nat.min_eq_left hm] at h2
      rw [← h2]; exact z
    · exfalso
      apply z
      exact Pl.co_ge (by omega)
theorem cutv_to (xs : List V) {z : Int} {m : Nat} (e : z = (m : Int)) : cutV xs none (some z) = xs.take m := by
  unfold cutV
  rw [e, HT.sIx_nat, HT.sIx_none, List.drop_zero, Nat.sub_zero]
  by_cases h : m ≤ xs.length
  · rw [Nat.min_eq_left h]
  · rw [Nat.min_eq_right (by omega), List.take_of_length_le (by omega), List.take_of_length_le (by omega)]

section
variable {P : Program} {w : World} {K : PySem.W.Frag} {mg : Str → Option Value} {base : Heap}
/-! ### cut -/
abbrev sCut : Stmt := topS 13
theorem scCut : FnScope ["numbers", "many"] ["numbers"] (defScope sCut) := ⟨rfl, rfl, rfl, by decide +kernel, rfl, by decide +kernel, by decide +kernel⟩
def spCut : Sp := fun vs H Q _ => ∃ (a : Addr) (l : List Int), vs = [.ref a] ∧ Ls H a l ∧ NewL H Q (Pl.cutL l)
theorem ok_cut {f : Addr} {fd : FuncData} {k : Nat} (F : Fun K "cut" "cut" sCut f fd) (ml : mg "len" = none) : FnOk P w K mg base CX0 (k + 1) f fd ["numbers"] spCut := by
  refine F.ok scCut (fun vs H Q E h => ?_) (fun cdv A outer s H vs Q E hr h => ?_)
  · obtain ⟨a, l, rfl, _⟩ := h
    rfl
  · obtain ⟨a, l, rfl, hl, q⟩ := h
    refine ⟨_, pss_cons (ps_set (i := 1) scCut.nd rfl (.inl rfl) (pe_callB call_len_seq (by rfl) ml PySem.boot_len (pa_cons (pv 0) pa_nil)))
      (pss_cons (ps_while PassesOwn.never (PW.pt (pw_and (pt_cmpR op_gt (pv 1) pe_int (nomark _)) (pw_and1 (pt_cmpR op_eq (pe_ix ix_list (pv 0) (pe_op op_sub (pv 1) pe_int) (fun _ _ => rfl)) pe_int (nomark _)))))
        (pss_one (ps_set (i := 1) scCut.nd rfl (.inl rfl) (pe_op op_sub (pv 1) pe_int))))
      (pss_one (ps_ret (pe_slice sl_list (pv 0) po_none (po_some (pv 1)))))), ?_⟩
    refine ⟨.ref a, rfl, a, l.map V.int, rfl, .inl (.of hl), ?_⟩
    rw [List.length_map]
    refine ⟨fun m σ H' => σ = [some (.ref a), some (.int (m : Nat))] ∧ H' = H ∧ m ≤ l.length ∧ ∀ j, m ≤ j → Pl.co l j = 0, ⟨l.length, rfl, rfl, Nat.le_refl _, fun j hj => Pl.co_ge hj⟩, ?_⟩
    rintro m σ H' ⟨rfl, rfl, hm, hz⟩
    have done : (m = 0 ∨ Pl.co l (m - 1) ≠ 0) → NewL H' Q (l.take m) := fun h => by rw [cut_take hz h]; exact q
    have fin : NewL H' Q (l.take m) → tRet (tSl (rSlL K) (tVar 0) tNoPart (tPart (tVar 1))) { nx := fun _ H' => Q .non H', rt := Q } [some (.ref a), some (.int (m : Nat))] H' := fun n =>
      ⟨.ref a, rfl, .int m, rfl, m, rfl, a, l.map V.int, rfl, .of hl, fun p hp => n _ p (same_new (Same.refl _) hp) hp (by
        rw [cutv_to _ rfl, ← List.map_take]
        exact upd_same)⟩
    refine ⟨.int m, rfl, _, _, rfl, rfl, _, rfl, ite2 (fun c => ?_) (fun c => ?_)⟩
    · have c' : (0 : Int) < m := of_decide_eq_true c
      refine ⟨.ref a, rfl, .int m, rfl, _, _, rfl, rfl, a, l.map V.int, _, _, rfl, rfl, .of hl, at_ls (i := m - 1) (by omega) (by omega), rfl, _, rfl, ite2 (fun e => ?_) (fun e => ?_)⟩
      · have e' : Pl.co l (m - 1) = 0 := V.int.inj (of_decide_eq_true e)
        refine ⟨fun σ' H2 => σ' = [some (.ref a), some (.int ((m - 1 : Nat)))] ∧ H2 = H', fun σ' H2 ⟨e1, e2⟩ => ⟨m - 1, by omega, e1, e2, by omega, fun j hj => ?_⟩, .int m, rfl, _, _, rfl, rfl, ?_, rfl⟩
        · by_cases hj2 : j = m - 1
          · rw [hj2]; exact e'
          · exact hz j (by omega)
        · show [some (V.ref a), some (V.int ((m : Int) - 1))] = _
          have : (m : Int) - 1 = ((m - 1 : Nat) : Int) := by omega
          rw [this]
      · have e' : Pl.co l (m - 1) ≠ 0 := fun z => e (decide_eq_true (by rw [z]))
        exact fin (done (.inr e'))
    · have c' : ¬ (0 : Int) < m := fun z => c (decide_eq_true z)
      exact iteF (fin (done (.inl (by omega))))
end
end Kp
-- W1
set_option Elab.async false
set_option linter.all false
set_option maxRecDepth 100000
set_option maxHeartbeats 4000000
namespace Kp
open PySem PySem.Spec PyProof.Rows L2
/-- a prime that there is as a ring -/
structure Pm (p : Nat) : Prop where
  prm : Pl.Prm p
  le : p ≤ 997
theorem Pm.pos {p : Nat} (h : Pm p) : 0 < p := h.prm.pos
theorem Pm.two {p : Nat} (h : Pm p) : 2 ≤ p := h.prm.two
/-- the built-in names are still the built-in ones -/
structure Bt (mg : Str → Option Value) : Prop where
  len : mg "len" = none
  list : mg "list" = none
  range : mg "range" = none
  max : mg "max" = none
  abs : mg "abs" = none
  sorted : mg "sorted" = none
  zip : mg "zip" = none
  isin : mg "isinstance" = none
  int : mg "int" = none
  bool : mg "bool" = none
  tuple : mg "tuple" = none
theorem bo_list : bootBuiltins "list" = some (.type "list") := by decide +kernel
theorem bo_max : bootBuiltins "max" = some (.builtin "max") := by decide +kernel
theorem bo_abs : bootBuiltins "abs" = some (.builtin "abs") := by decide +kernel
theorem bo_int : bootBuiltins "int" = some (.type "int") := by decide +kernel
theorem rep_map (k : Nat) (z : Int) : (List.replicate k [V.int z]).flatten = (List.replicate k z).map V.int := by
  induction k with
  | zero => rfl
  | succ k ih => rw [List.replicate_succ, List.flatten_cons, ih, List.replicate_succ, List.map_cons]; rfl
theorem co_append : ∀ (a b : List Int) (i : Nat), Pl.co (a ++ b) i = if i < a.length then Pl.co a i else Pl.co b (i - a.length)
  | [], b, i => by simp
  | x :: a, b, 0 => by simp
  | x :: a, b, i + 1 => by
    rw [List.cons_append, Pl.co_cons_succ, Pl.co_cons_succ, co_append a b i, List.length_cons]
    by_cases h : i < a.length
    · rw [if_pos h, if_pos (by omega)]
    · rw [if_neg h, if_neg (by omega), Nat.add_sub_add_right]
theorem co_repl (k i : Nat) : Pl.co (List.replicate k 0) i = 0 := by
  rw [Pl.co_get, List.getD_eq_getElem?_getD]
  by_cases h : i < k
  · rw [List.getElem?_replicate, if_pos h]; rfl
  · rw [List.getElem?_replicate, if_neg h]; rfl
/-- a list that is looked at from place to place -/
theorem row_by {p : Nat} {fl l : List Int} (h : ∀ j, Pl.co fl j = Pl.co l j % p) : Pl.cutL fl = Pl.rowL p l := Pl.cut_congr fun i => by
  rw [Pl.co_map_mod]
  exact h i

section
variable {P : Program} {w : World} {K : PySem.W.Frag} {mg : Str → Option Value} {base : Heap}
/-! ### shared -/
abbrev sShared : Stmt := topS 9
theorem scShared : FnScope ["one", "other", "here", "there", "many", "rest"] ["one", "other"] (defScope sShared) := ⟨rfl, rfl, rfl, by decide +kernel, rfl, by decide +kernel, by decide +kernel⟩
def spShared : Sp := fun vs H Q _ => ∃ (a b : Int), vs = [.int a, .int b] ∧ 0 ≤ a ∧ a ≤ 1000 ∧ 0 ≤ b ∧ b ≤ 1000 ∧
  ∀ (H' : Hp) (t : Addr) (u v : Int), Same H H' → H t = none → u * a + v * b = (Int.gcd a b : Int) → H' t = some (.tup [.int (Int.gcd a b : Int), .int u, .int v]) → Q (.ref t) H'
theorem gcd_step {x y : Int} (hx : 0 ≤ x) (hy : 0 < y) : Int.gcd y (x - x / y * y) = Int.gcd x y := by
  have e : x - x / y * y = x % y := by
    have := Int.emod_add_mul_ediv x y
    have h2 : y * (x / y) = x / y * y := Int.mul_comm _ _
    omega
  obtain ⟨m, rfl⟩ := Int.eq_ofNat_of_zero_le hx
  obtain ⟨n, rfl⟩ := Int.eq_ofNat_of_zero_le (Int.le_of_lt hy)
  rw [e, ← Int.natCast_emod, Int.gcd_natCast_natCast, Int.gcd_natCast_natCast, Nat.gcd_comm m n, Nat.gcd_rec n m, Nat.gcd_comm]
theorem ok_shared {f : Addr} {fd : FuncData} {k : Nat} (F : Fun K "shared" "shared" sShared f fd) : FnOk P w K mg base CX0 (k + 1) f fd ["one", "other"] spShared := by
  refine F.ok scShared (fun vs H Q E h => ?_) (fun cdv A outer s H vs Q E hr h => ?_)
  · obtain ⟨a, b, rfl, _⟩ := h
    rfl
  · obtain ⟨a, b, rfl, ha, ha2, hb, hb2, q⟩ := h
    refine ⟨_, pss_cons (ps_set (i := 2) scShared.nd rfl (.inl rfl) (pe_tup (pa_cons (pv 0) (pa_cons pe_int (pa_cons pe_int pa_nil)))))
      (pss_cons (ps_set (i := 3) scShared.nd rfl (.inl rfl) (pe_tup (pa_cons (pv 1) (pa_cons pe_int (pa_cons pe_int pa_nil)))))
      (pss_cons (ps_while PassesOwn.never (pt_cmpR op_ne (pe_ix ix_tup (pv 3) pe_int (fun _ _ => rfl)) pe_int (nomark _))
        (pss_cons (ps_set (i := 4) scShared.nd rfl (.inl rfl) (pe_op op_fdiv (pe_ix ix_tup (pv 2) pe_int (fun _ _ => rfl)) (pe_ix ix_tup (pv 3) pe_int (fun _ _ => rfl))))
        (pss_cons (ps_set (i := 5) scShared.nd rfl (.inl rfl) (pe_tup (pa_cons (pe_op op_sub (pe_ix ix_tup (pv 2) pe_int (fun _ _ => rfl)) (pe_op op_mul (pv 4) (pe_ix ix_tup (pv 3) pe_int (fun _ _ => rfl))))
          (pa_cons (pe_op op_sub (pe_ix ix_tup (pv 2) pe_int (fun _ _ => rfl)) (pe_op op_mul (pv 4) (pe_ix ix_tup (pv 3) pe_int (fun _ _ => rfl))))
          (pa_cons (pe_op op_sub (pe_ix ix_tup (pv 2) pe_int (fun _ _ => rfl)) (pe_op op_mul (pv 4) (pe_ix ix_tup (pv 3) pe_int (fun _ _ => rfl)))) pa_nil)))))
        (pss_cons (ps_set (i := 2) scShared.nd rfl (.inl rfl) (pv 3)) (pss_one (ps_set (i := 3) scShared.nd rfl (.inl rfl) (pv 5)))))))
      (pss_cons (ps_if (pt_cmpR op_lt (pe_ix ix_tup (pv 2) pe_int (fun _ _ => rfl)) pe_int (nomark _)) (pss_never) pss_nil)
      (pss_one (ps_ret (pv 2)))))), ?_⟩
    refine ⟨_, rfl, (by show 3 ≤ sizeLine; decide), fun p1 n1 => ?_⟩
    refine ⟨_, rfl, (by show 3 ≤ sizeLine; decide), fun p2 n2 => ?_⟩
    have n2H : H p2 = none := by
      by_cases e : p2 = p1
      · rw [e]; exact n1
      · rw [upd_ne e] at n2; exact n2
    have ne12 : p1 ≠ p2 := fun e => by rw [← e, upd_same] at n2; cases n2
    refine ⟨fun m σ H' => ∃ (t1 t2 : Addr) (x u1 v1 y u2 v2 : Int) (y4 y5 : Option V), m = y.toNat ∧ σ = [some (.int a), some (.int b), some (.ref t1), some (.ref t2), y4, y5] ∧ Same H H' ∧ H t1 = none ∧ H t2 = none ∧
        H' t1 = some (.tup [.int x, .int u1, .int v1]) ∧ H' t2 = some (.tup [.int y, .int u2, .int v2]) ∧ 0 ≤ x ∧ x ≤ 1000 ∧ 0 ≤ y ∧ y ≤ 1000 ∧ u1 * a + v1 * b = x ∧ u2 * a + v2 * b = y ∧ Int.gcd x y = Int.gcd a b,
      ⟨b.toNat, p1, p2, a, 1, 0, b, 0, 1, none, none, rfl, rfl, same_mut (same_mut (Same.refl _) n1) n2H, n1, n2H, ?_, upd_same, ha, ha2, hb, hb2, by omega, by omega, rfl⟩, ?_⟩
    · rw [upd_ne ne12]; exact upd_same
    rintro m σ H' ⟨t1, t2, x, u1, v1, y, u2, v2, y4, y5, rfl, rfl, sm, f1, f2, h1, h2, hx, hx2, hy, hy2, e1, e2, eg⟩
    have s1 : SqT K H' t1 [.int x, .int u1, .int v1] := .of h1
    have s2 : SqT K H' t2 [.int y, .int u2, .int v2] := .of h2
    refine ⟨.ref t2, rfl, t2, _, 0, .int y, rfl, rfl, s2, rfl, rfl, _, rfl, ?_⟩
    by_cases c : y = 0
    · subst c
      refine iteF ?_
      refine ⟨.ref t1, rfl, t1, _, 0, .int x, rfl, rfl, s1, rfl, _, _, rfl, rfl, _, rfl, ite2 (fun c => ?_) (fun _ => ?_)⟩
      · have := of_decide_eq_true c
        omega
      · have ex : x = (Int.gcd a b : Int) := by
          rw [← eg, Int.gcd_zero_right]
          omega
        exact ⟨.ref t1, rfl, q H' t1 u1 v1 sm f1 (by rw [← ex]; exact e1) (by rw [h1, ex])⟩
    · have hy0 : 0 < y := by omega
      have hd : decide (V.int y = V.int 0) = false := decide_eq_false fun z => c (V.int.inj z)
      rw [hd]
      refine iteT ?_
      refine ⟨fun σ' H2 => ∃ (t3 : Addr) (y4 y5 : Option V), σ' = [some (.int a), some (.int b), some (.ref t2), some (.ref t3), y4, y5] ∧ Same H H2 ∧ H t3 = none ∧ H2 t2 = some (.tup [.int y, .int u2, .int v2]) ∧
        H2 t3 = some (.tup [.int (x - x / y * y), .int (u1 - x / y * u2), .int (v1 - x / y * v2)]), ?_, ?_⟩
      · rintro σ' H2 ⟨t3, z4, z5, rfl, sm2, f3, k2, k3⟩
        have hlt : x - x / y * y < y := by
          have := Int.emod_lt_of_pos x hy0
          have h3 := Int.emod_add_mul_ediv x y
          have h4 : y * (x / y) = x / y * y := Int.mul_comm _ _
          omega
        have hge : 0 ≤ x - x / y * y := by
          have := Int.emod_nonneg x (show y ≠ 0 by omega)
          have h3 := Int.emod_add_mul_ediv x y
          have h4 : y * (x / y) = x / y * y := Int.mul_comm _ _
          omega
        refine ⟨(x - x / y * y).toNat, by omega, t2, t3, y, u2, v2, _, _, _, z4, z5, rfl, rfl, sm2, f2, f3, k2, k3, hy, hy2, hge, by omega, e2, ?_, ?_⟩
        · rw [← e1, ← e2]; grind
        · rw [gcd_step hx hy0]; exact eg
      · have hq : 0 ≤ x / y := Int.ediv_nonneg hx (by omega)
        have hq2 : x / y ≤ 1000 := Int.le_trans (Int.ediv_le_self _ hx) hx2
        have cm : CMul (x / y) y := .inl ⟨by omega, by omega⟩
        have cm2 : CMul (x / y) u2 := .inl ⟨by omega, by omega⟩
        have cm3 : CMul (x / y) v2 := .inl ⟨by omega, by omega⟩
        refine ⟨.ref t1, rfl, t1, _, 0, .int x, rfl, rfl, s1, rfl, .ref t2, rfl, t2, _, 0, .int y, rfl, rfl, s2, rfl, x, y, rfl, rfl, ⟨hy0, by omega⟩, ?_⟩
        refine ⟨.ref t1, rfl, t1, _, 0, .int x, rfl, rfl, s1, rfl, .int (x / y), rfl, .ref t2, rfl, t2, _, 0, .int y, rfl, rfl, s2, rfl, _, _, rfl, rfl, cm, _, _, rfl, rfl, ?_⟩
        refine ⟨.ref t1, rfl, t1, _, 1, .int u1, rfl, rfl, s1, rfl, .int (x / y), rfl, .ref t2, rfl, t2, _, 1, .int u2, rfl, rfl, s2, rfl, _, _, rfl, rfl, cm2, _, _, rfl, rfl, ?_⟩
        refine ⟨.ref t1, rfl, t1, _, 2, .int v1, rfl, rfl, s1, rfl, .int (x / y), rfl, .ref t2, rfl, t2, _, 2, .int v2, rfl, rfl, s2, rfl, _, _, rfl, rfl, cm3, _, _, rfl, rfl, ?_⟩
        refine ⟨(by show 3 ≤ sizeLine; decide), fun p3 n3 => ?_⟩
        have n3H := sm.free n3
        refine ⟨.ref t2, rfl, .ref p3, rfl, p3, some (.int (x / y)), some (.ref p3), rfl, same_new sm n3, n3H, ?_, upd_same⟩
        rw [upd_ne (ne_of_none h2 n3)]
        exact h2
/-! ### turned -/
abbrev sTurned : Stmt := topS 12
theorem scTurned : FnScope ["prime", "number"] ["prime", "number"] (defScope sTurned) := ⟨rfl, rfl, rfl, by decide +kernel, rfl, by decide +kernel, by decide +kernel⟩
def spTurned : Sp := fun vs H Q _ => ∃ (p : Nat) (n : Int), vs = [.int p, .int n] ∧ Pm p ∧ 0 ≤ n ∧ n < p ∧ n ≠ 0 ∧
  ∀ (H' : Hp) (t : Int), Same H H' → 0 ≤ t → t < p → (p : Int) ∣ t * n - 1 → Q (.int t) H'
theorem gcd_prime {p : Nat} (h : Pl.Prm p) {n : Int} (h0 : 0 ≤ n) (h1 : n < p) (h2 : n ≠ 0) : Int.gcd n p = 1 := by
  have hd : ¬ (p : Int) ∣ n := fun d => by
    have := Int.le_of_dvd (by omega) d
    omega
  have g1 : (Int.gcd n p : Int) ∣ n := Int.gcd_dvd_left ..
  have g2 : (Int.gcd n p : Int) ∣ p := Int.gcd_dvd_right ..
  obtain ⟨k, e⟩ := g2
  have h3 : (p : Int) ∣ (Int.gcd n p : Int) * k := ⟨1, by rw [← e]; omega⟩
  have hp := h.pos
  rcases h.dv _ _ h3 with z | z
  · exact absurd (Int.dvd_trans z g1) hd
  · obtain ⟨m, e2⟩ := z
    rw [e2] at e
    have e3 : (p : Int) * ((Int.gcd n p : Int) * m) = p * 1 := by rw [Int.mul_one]; grind
    have e4 := Int.eq_of_mul_eq_mul_left (by omega) e3
    have h5 : (Int.gcd n p : Int) ∣ 1 := ⟨m, e4.symm⟩
    have h6 := Int.eq_one_of_dvd_one (by omega) h5
    omega
theorem ok_turned {f fS : Addr} {fd fdS : FuncData} {k : Nat} (F : Fun K "turned" "turned" sTurned f fd) (FS : Fun K "shared" "shared" sShared fS fdS) (bS : Binds K fdS ["one", "other"] []) (gS : mg "shared" = some (.ref fS)) : FnOk P w K mg base CX0 (k + 2) f fd ["prime", "number"] spTurned := by
  have GS : FnOk P w K mg base CX0 (k + 1) fS fdS ["one", "other"] spShared := ok_shared FS
  refine F.ok scTurned (fun vs H Q E h => ?_) (fun cdv A outer s H vs Q E hr h => ?_)
  · obtain ⟨a, b, rfl, _⟩ := h
    rfl
  · obtain ⟨p, n, rfl, hp, h0, h1, h2, q⟩ := h
    refine ⟨_, pss_one (ps_ret (pe_op op_mod (pe_ix ix_tup (pe_call GS hr (by rfl) gS FS.kp bS .nil pass0 (pa_cons (pv 1) (pa_cons (pv 0) pa_nil))) pe_int (fun _ _ => rfl)) (pv 0))), ?_⟩
    have := hp.le
    have hpos := hp.pos
    refine ⟨.int n, rfl, .int p, rfl, n, p, rfl, h0, by omega, by omega, by omega, fun H' t u v sm nt e ht => ?_⟩
    refine ⟨t, _, 1, .int u, rfl, rfl, .of ht, rfl, .int p, rfl, u, p, rfl, rfl, by show (0 : Int) < p; omega, ?_⟩
    refine q H' _ sm (Int.emod_nonneg _ (by omega)) (Int.emod_lt_of_pos _ (by omega)) ?_
    rw [gcd_prime hp.prm h0 h1 h2] at e
    have h3 := Int.emod_add_mul_ediv u p
    refine ⟨-v - (u / p) * n, ?_⟩
    generalize u % (p : Int) = r at *
    generalize u / (p : Int) = s at *
    subst h3
    grind
end
end Kp
-- W2
set_option Elab.async false
set_option linter.all false
set_option maxRecDepth 100000
set_option maxHeartbeats 4000000
namespace Kp
open PySem PySem.Spec PyProof.Rows L2
/-! ### rows compared -/
def dI (l : List Int) : PyData := .list (l.map .int)
theorem dI_lay (l : List Int) : PyData.canLayAll0 (l.map PyData.int) = true := by
  induction l with
  | nil => rfl
  | cons x a ih => rw [List.map_cons, PyData.canLayAll0, ih]; rfl
theorem dI_depth (l : List Int) : PyData.depthAll (l.map PyData.int) = 0 := by
  induction l with
  | nil => rfl
  | cons x a ih => rw [List.map_cons, PyData.depthAll, ih]; rfl
theorem dI_shaped (l : List Int) : SeqAt.shaped (dI l) = true := by
  unfold SeqAt.shaped dI
  rw [PyData.canLay0, dI_lay, PyData.depth, dI_depth]
  rfl
theorem dI_all (l m : List Int) : PyData.eqvAll (l.map PyData.int) (m.map PyData.int) = decide (l = m) := by
  induction l generalizing m with
  | nil =>
    cases m with
    | nil => rfl
    | cons y b => rfl
  | cons x a ih =>
    cases m with
    | nil => rfl
    | cons y b =>
      rw [List.map_cons, List.map_cons, PyData.eqvAll, ih b, PyData.eqv]
      by_cases h : x = y
      · subst h; simp
      · simp [h]
theorem dI_eqv (l m : List Int) : PyData.eqv (dI l) (dI m) = decide (l = m) := by
  unfold dI
  rw [PyData.eqv]
  exact dI_all l m
theorem dp_all {K : PySem.W.Frag} {H : Hp} (l : List Int) : DpAll K H (l.map V.int) (l.map PyData.int) := by
  induction l with
  | nil => exact .nil
  | cons x a ih => exact .cons (.int x) ih
theorem dp_ls {K : PySem.W.Frag} {H : Hp} {a : Addr} {l : List Int} (h : Ls H a l) : Dp K H (.ref a) (dI l) := .lst (.of h) (dp_all l)
theorem ls_app {H : Hp} {D : Addr} {l : List Int} {z : Int} : Ls (upd H D (.lst (l.map V.int ++ [.int z]))) D (l ++ [z]) := by
  show upd H D (.lst (l.map V.int ++ [.int z])) D = some (.lst ((l ++ [z]).map V.int))
  rw [upd_same, List.map_append]
  rfl
theorem rowL_nil_of {p : Nat} {l : List Int} (h : ∀ i, Pl.co l i = 0) : Pl.rowL p l = [] := by
  have : Pl.rowL p l = Pl.rowL p [] := Pl.rowL_congr (.of_eq fun i => by rw [h]; rfl)
  rw [this]; rfl

section
variable {P : Program} {w : World} {K : PySem.W.Frag} {mg : Str → Option Value} {base : Heap}
/-! ### joined -/
abbrev sJoined : Stmt := topS 14
theorem scJoined : FnScope ["prime", "ones", "others", "number", "found", "at"] ["prime", "ones", "others", "number"] (defScope sJoined) := ⟨rfl, rfl, rfl, by decide +kernel, rfl, by decide +kernel, by decide +kernel⟩
def spJoined : Sp := fun vs H Q _ => ∃ (p : Nat) (a b : Addr) (la lb : List Int) (n : Int), vs = [.int p, .ref a, .ref b, .int n] ∧ Pm p ∧ Ls H a la ∧ Ls H b lb ∧ Pl.IsRow p la ∧ Pl.IsRow p lb ∧ la.length ≤ 10000 ∧ lb.length ≤ 10000 ∧
  NewL H Q (Pl.rowL p (Pl.addL la (Pl.smulL n lb)))
theorem joined_start (la lb : List Int) (j : Nat) : Pl.co (la ++ List.replicate ((lb.length : Int) - la.length).toNat 0) j = Pl.co la j := by
  rw [co_append, co_repl]
  split
  · rfl
  · rw [Pl.co_ge (by omega)]
theorem ok_joined {f fC : Addr} {fd fdC : FuncData} {k : Nat} (F : Fun K "joined" "joined" sJoined f fd) (FC : Fun K "cut" "cut" sCut fC fdC) (bC : Binds K fdC ["numbers"] []) (gC : mg "cut" = some (.ref fC)) (T : Bt mg) :
    FnOk P w K mg base CX0 (k + 2) f fd ["prime", "ones", "others", "number"] spJoined := by
  have GC : FnOk P w K mg base CX0 (k + 1) fC fdC ["numbers"] spCut := ok_cut FC T.len
  refine F.ok scJoined (fun vs H Q E h => ?_) (fun cdv A outer s H vs Q E hr h => ?_)
  · obtain ⟨p, a, b, la, lb, n, rfl, _⟩ := h
    rfl
  · obtain ⟨p, a, b, la, lb, n, rfl, hp, ha, hb, ra, rb, za, zb, q⟩ := h
    refine ⟨_, pss_cons (ps_set (i := 4) scJoined.nd rfl (.inl rfl) (pe_op op_cat (pe_callTy call_list_of (by rfl) T.list bo_list (pa_cons (pv 1) pa_nil))
        (pe_op op_rep (pe_lst (pa_cons pe_int pa_nil)) (pe_op op_sub (pe_callB call_len_seq (by rfl) T.len PySem.boot_len (pa_cons (pv 2) pa_nil)) (pe_callB call_len_seq (by rfl) T.len PySem.boot_len (pa_cons (pv 1) pa_nil))))))
      (pss_cons (ps_for PassesOwn.never rfl (pi_range1 (by rfl) T.range (pa_cons (pe_callB call_len_seq (by rfl) T.len PySem.boot_len (pa_cons (pv 2) pa_nil)) pa_nil)) (pg_name (i := 5) scJoined.nd rfl (.inl rfl))
        (pss_one (ps_asg (pe_op op_mod (pe_op op_add (pe_ix ix_list (pv 4) (pv 5) (fun _ _ => rfl)) (pe_op op_mul (pv 3) (pe_ix ix_list (pv 2) (pv 5) (fun _ _ => rfl)))) (pv 0)) (pg_sub (pv 4) (pv 5) set_list))))
      (pss_one (ps_ret (pe_call GC hr (by rfl) gC FC.kp bC .nil pass0 (pa_cons (pv 4) pa_nil))))), ?_⟩
    have hpos := hp.pos
    -- list(ones) + [0] * (..)
    refine ⟨.ref a, rfl, a, _, rfl, .inl (.of ha), fun l1 n1 => ?_⟩
    refine ⟨(by show 1 ≤ sizeLine; decide), fun l2 n2 => ?_⟩
    have s1 : Same H (upd H l1 (.lst (la.map V.int))) := same_new (Same.refl _) n1
    have s2 := same_new (o := .lst [V.int 0]) s1 n2
    refine ⟨.ref b, rfl, b, lb.map V.int, rfl, .inl (.of (s2 _ _ hb)), .ref a, rfl, a, la.map V.int, rfl, .inl (.of (s2 _ _ ha)), _, _, rfl, rfl, ?_⟩
    rw [List.length_map, List.length_map]
    refine ⟨l2, _, _, rfl, rfl, upd_same, by omega, by omega, small_line' (by show 1 * _ ≤ _; omega), fun l3 n3 => ?_⟩
    have s3 := same_new (o := .lst (List.replicate ((lb.length : Int) - la.length).toNat [V.int 0]).flatten) s2 n3
    have h1 : (upd (upd (upd H l1 (.lst (la.map V.int))) l2 (.lst [V.int 0])) l3 (.lst (List.replicate ((lb.length : Int) - la.length).toNat [V.int 0]).flatten)) l1 = some (.lst (la.map V.int)) := by
      have e12 : l1 ≠ l2 := ne_of_none upd_same n2
      have e13 : l1 ≠ l3 := ne_of_none (H := upd (upd H l1 (.lst (la.map V.int))) l2 (.lst [V.int 0])) (by rw [upd_ne e12]; exact upd_same) n3
      rw [upd_ne e13, upd_ne e12]; exact upd_same
    refine ⟨l1, l3, _, _, rfl, rfl, h1, upd_same, ?_, fun l4 n4 => ?_⟩
    · rw [rep_map, List.length_map, List.length_map, List.length_replicate]
      exact small_line' (by omega)
    have s4 := same_new (o := .lst (la.map V.int ++ (List.replicate ((lb.length : Int) - la.length).toNat [V.int 0]).flatten)) s3 n4
    have n4H := s3.free n4
    -- the loop
    refine ⟨.ref b, rfl, b, lb.map V.int, rfl, .inl (.of (s4 _ _ hb)), _, rfl, by omega, by rw [List.length_map]; omega, ?_⟩
    rw [List.length_map, Int.toNat_natCast]
    refine for_range (lo := 0) (n := lb.length) (fun i σ H' => ∃ (fl : List Int) (y5 : Option V), σ = [some (.int p), some (.ref a), some (.ref b), some (.int n), some (.ref l4), y5] ∧ Same H H' ∧ Ls H' l4 fl ∧ lb.length ≤ fl.length ∧ fl.length ≤ 20000 ∧
      ∀ j, Pl.co fl j = if j < i then (Pl.co la j + n * Pl.co lb j) % p else Pl.co la j) ?_ ?_ ?_
    · refine ⟨la ++ List.replicate ((lb.length : Int) - la.length).toNat 0, none, rfl, s4, ?_, ?_, ?_, fun j => ?_⟩
      · rw [rep_map, ← List.map_append]
        exact upd_same
      · rw [List.length_append, List.length_replicate]; omega
      · rw [List.length_append, List.length_replicate]; omega
      · rw [joined_start]; simp
    · rintro i σ H' hi ⟨fl, y5, rfl, sm, hf, z1, z2, hc⟩
      have hb' := sm _ _ hb
      have b0 := rb.cos hpos i
      have := hp.le
      refine ⟨.ref l4, rfl, .int (0 + (i : Nat)), rfl, l4, _, _, _, rfl, rfl, .of hf, at_ls (i := i) (by omega) (by omega), .int n, rfl, .ref b, rfl, .int (0 + (i : Nat)), rfl, b, _, _, _, rfl, rfl, .of hb', at_ls (i := i) (by omega) hi, _, _, rfl, rfl, .inr ⟨by omega, by omega⟩, _, _, rfl, rfl, .int p, rfl, _, _, rfl, rfl, by show (0 : Int) < p; omega, ?_⟩
      refine ⟨.ref l4, rfl, .int (0 + (i : Nat)), rfl, l4, _, _, i, rfl, rfl, hf, ixn_nat (by omega) (by rw [List.length_map]; omega), fl.set i ((Pl.co fl i + n * Pl.co lb i) % p), some (.int (0 + (i : Nat))), rfl, same_mut sm n4H, ?_, by rw [List.length_set]; exact z1, by rw [List.length_set]; exact z2, fun j => ?_⟩
      · rw [set_map]
        exact upd_same
      · rw [co_set _ _ _ _ (by omega)]
        by_cases e : j = i
        · subst e
          rw [if_pos rfl, if_pos (by omega), hc, if_neg (by omega)]
        · rw [if_neg e, hc]
          by_cases e2 : j < i
          · rw [if_pos e2, if_pos (by omega)]
          · rw [if_neg e2, if_neg (by omega)]
    · rintro σ H' ⟨fl, y5, rfl, sm, hf, z1, z2, hc⟩
      refine ⟨.ref l4, rfl, l4, fl, rfl, hf, fun H2 r sm2 nr hr => ?_⟩
      refine q H2 r (sm.trans sm2) (sm.free nr) ?_
      have e : Pl.cutL fl = Pl.rowL p (Pl.addL la (Pl.smulL n lb)) := row_by fun j => by
        rw [hc, Pl.co_add, Pl.co_smul]
        split
        · rfl
        · rename_i hj
          have ea := ra.cos hpos j
          rw [Pl.co_ge (l := lb) (by omega), Int.mul_zero, Int.add_zero, Int.emod_eq_of_lt ea.1 ea.2]
      rw [← e]
      exact hr
/-! ### multiple -/
abbrev sMultiple : Stmt := topS 16
theorem scMultiple : FnScope ["prime", "row", "number", "one"] ["prime", "row", "number"] (defScope sMultiple) := ⟨rfl, rfl, rfl, by decide +kernel, rfl, by decide +kernel, by decide +kernel⟩
def spMultiple : Sp := fun vs H Q _ => ∃ (p : Nat) (a : Addr) (l : List Int) (n : Int), vs = [.int p, .ref a, .int n] ∧ Pm p ∧ Ls H a l ∧ Pl.IsRow p l ∧ l.length ≤ 10000 ∧ NewL H Q (Pl.rowL p (Pl.smulL n l))
theorem smul_map (n : Int) : ∀ l : List Int, Pl.smulL n l = l.map (n * ·)
  | [] => rfl
  | x :: a => by rw [Pl.smulL, smul_map n a]; rfl
theorem ok_multiple {f fC : Addr} {fd fdC : FuncData} {k : Nat} (F : Fun K "multiple" "multiple" sMultiple f fd) (FC : Fun K "cut" "cut" sCut fC fdC) (bC : Binds K fdC ["numbers"] []) (gC : mg "cut" = some (.ref fC)) (T : Bt mg) :
    FnOk P w K mg base CX0 (k + 2) f fd ["prime", "row", "number"] spMultiple := by
  have GC : FnOk P w K mg base CX0 (k + 1) fC fdC ["numbers"] spCut := ok_cut FC T.len
  refine F.ok scMultiple (fun vs H Q E h => ?_) (fun cdv A outer s H vs Q E hr h => ?_)
  · obtain ⟨p, a, la, n, rfl, _⟩ := h
    rfl
  · obtain ⟨p, a, l, n, rfl, hp, ha, ra, za, q⟩ := h
    refine ⟨_, pss_one (ps_ret (pe_call GC hr (by rfl) gC FC.kp bC .nil pass0 (pa_cons (pe_lc (own := [("one", 3)]) (g := gName 3) (tt := tYes) (by rfl) scMultiple.nd (pi_list (pv 1)) (blkOk_by (own := [("one", 3)]) (N := ["prime", "row", "number", "one"]) (sc := defScope sMultiple) (by decide +kernel))
      (fun _ _ _ _ _ => pg_name (i := 3) scMultiple.nd rfl (Or.inl rfl)) (fun _ _ _ _ _ => pts_nil) (fun _ _ _ _ _ => pe_op op_mod (pe_op op_mul (pv 3) (pv 2)) (pv 0))) pa_nil))), ?_⟩
    have hpos := hp.pos
    refine ⟨.ref a, rfl, a, rfl, ⟨_, .of ha⟩, fun D hD => lc_list (K := K) (a := a) (xs := l.map V.int) (fun i H' => Same H H' ∧ Ls H' D ((l.take i).map fun x => x * n % p)) ⟨same_new (Same.refl _) hD, upd_same⟩ (fun i H' _ h => .of (h.1 _ _ ha)) ?_ ?_⟩
    · rintro i x H' hx ⟨sm, hd⟩
      have hi : i < l.length := by
        have := (List.getElem?_eq_some_iff.mp hx).1
        rw [List.length_map] at this
        exact this
      rw [map_get hi] at hx
      cases hx
      have b0 := ra.cos hpos i
      have := hp.le
      refine ⟨rfl, _, rfl, .int n, rfl, _, _, rfl, rfl, .inl ⟨by omega, by omega⟩, .int p, rfl, _, _, rfl, rfl, by show (0 : Int) < p; omega, _, hd, ?_, same_mut sm hD, ?_⟩
      · rw [List.length_map, List.length_map, List.length_take]
        exact small_line (by omega)
      · have e : (l.take (i + 1)).map (fun x => x * n % (p : Int)) = (l.take i).map (fun x => x * n % (p : Int)) ++ [Pl.co l i * n % p] := by
          rw [List.take_add_one, Pl.co_some hi, List.map_append]; rfl
        rw [e]
        exact ls_app
    · rintro H' ⟨sm, hd⟩
      rw [List.length_map, List.take_length] at hd
      refine ⟨D, _, rfl, hd, fun H2 r sm2 nr hr => ?_⟩
      refine q H2 r (sm.trans sm2) (sm.free nr) ?_
      have e : Pl.cutL (l.map fun x => x * n % (p : Int)) = Pl.rowL p (Pl.smulL n l) := by
        unfold Pl.rowL
        rw [smul_map, List.map_map]
        congr 1
        refine List.map_congr_left fun x _ => ?_
        show x * n % (p : Int) = n * x % p
        rw [Int.mul_comm]
      rw [← e]
      exact hr
/-! ### falling -/
abbrev sFalling : Stmt := topS 17
theorem scFalling : FnScope ["prime", "row", "at"] ["prime", "row"] (defScope sFalling) := ⟨rfl, rfl, rfl, by decide +kernel, rfl, by decide +kernel, by decide +kernel⟩
def spFalling : Sp := fun vs H Q _ => ∃ (p : Nat) (a : Addr) (l : List Int), vs = [.int p, .ref a] ∧ Pm p ∧ Ls H a l ∧ Pl.IsRow p l ∧ l.length ≤ 10000 ∧ NewL H Q (Pl.rowL p (Pl.derL l))
theorem ok_falling {f fC : Addr} {fd fdC : FuncData} {k : Nat} (F : Fun K "falling" "falling" sFalling f fd) (FC : Fun K "cut" "cut" sCut fC fdC) (bC : Binds K fdC ["numbers"] []) (gC : mg "cut" = some (.ref fC)) (T : Bt mg) :
    FnOk P w K mg base CX0 (k + 2) f fd ["prime", "row"] spFalling := by
  have GC : FnOk P w K mg base CX0 (k + 1) fC fdC ["numbers"] spCut := ok_cut FC T.len
  refine F.ok scFalling (fun vs H Q E h => ?_) (fun cdv A outer s H vs Q E hr h => ?_)
  · obtain ⟨p, a, la, rfl, _⟩ := h
    rfl
  · obtain ⟨p, a, l, rfl, hp, ha, ra, za, q⟩ := h
    refine ⟨_, pss_one (ps_ret (pe_call GC hr (by rfl) gC FC.kp bC .nil pass0 (pa_cons (pe_lc (own := [("at", 2)]) (g := gName 2) (tt := tYes) (by rfl) scFalling.nd (pi_range2 (by rfl) T.range (pa_cons pe_int (pa_cons (pe_callB call_len_seq (by rfl) T.len PySem.boot_len (pa_cons (pv 1) pa_nil)) pa_nil)))
      (blkOk_by (own := [("at", 2)]) (N := ["prime", "row", "at"]) (sc := defScope sFalling) (by decide +kernel))
      (fun _ _ _ _ _ => pg_name (i := 2) scFalling.nd rfl (Or.inl rfl)) (fun _ _ _ _ _ => pts_nil) (fun _ _ _ _ _ => pe_op op_mod (pe_op op_mul (pv 2) (pe_ix (r := rIxL K) ix_list (pv 1) (pv 2) (fun _ _ => rfl))) (pv 0))) pa_nil))), ?_⟩
    have hpos := hp.pos
    refine ⟨.ref a, rfl, a, l.map V.int, rfl, .inl (.of ha), 1, _, rfl, ⟨by omega, by omega, by omega, by rw [List.length_map]; omega⟩, fun D hD => lc_range (lo := 1) (n := (((l.map V.int).length : Int) - 1).toNat) (fun i H' => Same H H' ∧ Ls H' D ((List.range i).map fun (j : Nat) => ((1 + (j : Int)) * Pl.co l (j + 1)) % (p : Int))) ⟨same_new (Same.refl _) hD, upd_same⟩ ?_ ?_⟩
    · rintro i H' hi ⟨sm, hd⟩
      rw [List.length_map] at hi
      have b0 := ra.cos hpos (i + 1)
      have := hp.le
      refine ⟨rfl, _, rfl, .ref a, rfl, .int (1 + (i : Nat)), rfl, a, _, _, _, rfl, rfl, .of (sm _ _ ha), at_ls (i := i + 1) (by omega) (by omega), _, _, rfl, rfl, .inr ⟨by omega, by omega⟩, .int p, rfl, _, _, rfl, rfl, by show (0 : Int) < p; omega, _, hd, ?_, same_mut sm hD, ?_⟩
      · rw [List.length_map, List.length_map, List.length_range]
        exact small_line (by omega)
      · rw [List.range_succ, List.map_append]
        exact ls_app
    · rintro H' ⟨sm, hd⟩
      rw [List.length_map] at hd
      refine ⟨D, _, rfl, hd, fun H2 r sm2 nr hr => ?_⟩
      refine q H2 r (sm.trans sm2) (sm.free nr) ?_
      have e : Pl.cutL ((List.range ((l.length : Int) - 1).toNat).map fun (j : Nat) => ((1 + (j : Int)) * Pl.co l (j + 1)) % (p : Int)) = Pl.rowL p (Pl.derL l) := row_by fun j => by
        rw [Pl.Poly.co_range_map, Pl.co_der]
        split
        · rw [Int.add_comm]
        · rw [Pl.co_ge (l := l) (by omega), Int.mul_zero]; simp
      rw [← e]
      exact hr
/-! ### product -/
abbrev sProduct : Stmt := topS 15
theorem scProduct : FnScope ["prime", "ones", "others", "found", "at", "beside"] ["prime", "ones", "others"] (defScope sProduct) := ⟨rfl, rfl, rfl, by decide +kernel, rfl, by decide +kernel, by decide +kernel⟩
def spProduct : Sp := fun vs H Q _ => ∃ (p : Nat) (a b : Addr) (la lb : List Int), vs = [.int p, .ref a, .ref b] ∧ Pm p ∧ Ls H a la ∧ Ls H b lb ∧ Pl.IsRow p la ∧ Pl.IsRow p lb ∧ la.length ≤ 10000 ∧ lb.length ≤ 10000 ∧
  NewL H Q (Pl.rowL p (Pl.mulL la lb))
theorem co_mul_take : ∀ (l m : List Int) (i n : Nat), i < l.length → Pl.co (Pl.mulL (l.take (i + 1)) m) n = Pl.co (Pl.mulL (l.take i) m) n + (if i ≤ n then Pl.co l i * Pl.co m (n - i) else 0)
  | [], m, i, n, h => by simp at h
  | x :: a, m, 0, n, h => by
    simp only [List.take_succ_cons, List.take_zero]
    rw [Pl.co_C_mul, Pl.mul_nilL, Pl.co_nil, if_pos (Nat.zero_le _), Pl.co_cons_zero, Nat.sub_zero]; omega
  | x :: a, m, i + 1, 0, h => by
    rw [List.take_succ_cons, List.take_succ_cons, Pl.co_mul_zero, Pl.co_mul_zero, if_neg (by omega)]; omega
  | x :: a, m, i + 1, n + 1, h => by
    rw [List.take_succ_cons, List.take_succ_cons, Pl.co_mul_succ, Pl.co_mul_succ, co_mul_take a m i n (by simpa using h), Pl.co_cons_succ]
    have e : n + 1 - (i + 1) = n - i := by omega
    rw [e]
    by_cases h2 : i ≤ n
    · rw [if_pos h2, if_pos (by omega)]; omega
    · rw [if_neg h2, if_neg (by omega)]; omega
/-- what the inner loop has added -/
def inner (la lb : List Int) (i j n : Nat) : Int := if i ≤ n ∧ n - i < j then Pl.co la i * Pl.co lb (n - i) else 0
theorem inner_zero (la lb : List Int) (i n : Nat) : inner la lb i 0 n = 0 := by unfold inner; rw [if_neg (by omega)]
theorem inner_all (la lb : List Int) (i n : Nat) : inner la lb i lb.length n = if i ≤ n then Pl.co la i * Pl.co lb (n - i) else 0 := by
  unfold inner
  by_cases h : i ≤ n
  · rw [if_pos h]
    by_cases h2 : n - i < lb.length
    · rw [if_pos ⟨h, h2⟩]
    · rw [if_neg (by omega), Pl.co_ge (l := lb) (by omega)]; simp
  · rw [if_neg h, if_neg (by omega)]
theorem inner_step (la lb : List Int) (i j n : Nat) : inner la lb i (j + 1) n = if n = i + j then Pl.co la i * Pl.co lb j else inner la lb i j n := by
  unfold inner
  by_cases h : n = i + j
  · subst h
    rw [if_pos rfl, if_pos ⟨by omega, by omega⟩, Nat.add_sub_cancel_left]
  · rw [if_neg h]
    by_cases h2 : i ≤ n ∧ n - i < j
    · rw [if_pos h2, if_pos ⟨h2.1, by omega⟩]
    · rw [if_neg h2, if_neg (by omega)]
theorem inner_at (la lb : List Int) (i j : Nat) : inner la lb i j (i + j) = 0 := by
  unfold inner
  rw [if_neg (by omega)]
theorem last_ne {p : Nat} {l : List Int} {n : Nat} (hl : l.length = n + 1) (h : Pl.co l n ≠ 0) : ∀ x, l.getLast? = some x → x ≠ 0 := fun x hx => by
  have := Pl.last_co hx
  rw [hl, Nat.add_sub_cancel] at this
  rw [← this]; exact h
theorem ok_product {f : Addr} {fd : FuncData} {k : Nat} (F : Fun K "product" "product" sProduct f fd) (T : Bt mg) :
    FnOk P w K mg base CX0 (k + 1) f fd ["prime", "ones", "others"] spProduct := by
  refine F.ok scProduct (fun vs H Q E h => ?_) (fun cdv A outer s H vs Q E hr h => ?_)
  · obtain ⟨p, a, b, la, lb, rfl, _⟩ := h
    rfl
  · obtain ⟨p, a, b, la, lb, rfl, hp, ha, hb, ra, rb, za, zb, q⟩ := h
    refine ⟨_, pss_cons (ps_if (PW.pt (pw_or (pt_cmpR (op_eqD hr.units) (pv 1) (pe_lst pa_nil) (nomark _)) (pw_or1 (pt_cmpR (op_eqD hr.units) (pv 2) (pe_lst pa_nil) (nomark _))))) (pss_one (ps_ret (pe_lst pa_nil))) pss_nil)
      (pss_cons (ps_set (i := 3) scProduct.nd rfl (.inl rfl) (pe_op op_rep (pe_lst (pa_cons pe_int pa_nil)) (pe_op op_sub (pe_op op_add (pe_callB call_len_seq (by rfl) T.len PySem.boot_len (pa_cons (pv 1) pa_nil)) (pe_callB call_len_seq (by rfl) T.len PySem.boot_len (pa_cons (pv 2) pa_nil))) pe_int)))
      (pss_cons (ps_for PassesOwn.never rfl (pi_range1 (by rfl) T.range (pa_cons (pe_callB call_len_seq (by rfl) T.len PySem.boot_len (pa_cons (pv 1) pa_nil)) pa_nil)) (pg_name (i := 4) scProduct.nd rfl (.inl rfl))
        (pss_one (ps_for PassesOwn.never rfl (pi_range1 (by rfl) T.range (pa_cons (pe_callB call_len_seq (by rfl) T.len PySem.boot_len (pa_cons (pv 2) pa_nil)) pa_nil)) (pg_name (i := 5) scProduct.nd rfl (.inl rfl))
          (pss_one (ps_asg (pe_op op_mod (pe_op op_add (pe_ix ix_list (pv 3) (pe_op op_add (pv 4) (pv 5)) (fun _ _ => rfl)) (pe_op op_mul (pe_ix ix_list (pv 1) (pv 4) (fun _ _ => rfl)) (pe_ix ix_list (pv 2) (pv 5) (fun _ _ => rfl)))) (pv 0)) (pg_sub (pv 3) (pe_op op_add (pv 4) (pv 5)) set_list))))))
      (pss_one (ps_ret (pv 3))))), ?_⟩
    have hpos := hp.pos
    have hle := hp.le
    have emp : ∀ (H' : Hp) (D : Ends), D.rt = Q → Same H H' → (∀ i, Pl.co (Pl.mulL la lb) i = 0) → tRet (tLst tNil) D [some (.int p), some (.ref a), some (.ref b), none, none, none] H' := fun H' D eD sm hz => by
      refine ⟨Nat.zero_le _, fun l nl => ?_⟩
      rw [eD]
      refine q _ l (same_new sm nl) (sm.free nl) ?_
      rw [rowL_nil_of hz]
      exact upd_same
    refine ⟨.ref a, rfl, Nat.zero_le _, fun e1 n1 => ⟨dI la, dI [], dp_ls (same_new (Same.refl _) n1 _ _ ha), dp_ls (l := []) upd_same, dI_shaped _, dI_shaped _, _, rfl, ?_⟩⟩
    have s1 : Same H (upd H e1 (.lst [])) := same_new (Same.refl _) n1
    rw [dI_eqv]
    refine ite2 (fun c => ?_) (fun c => ?_)
    · have e := of_decide_eq_true c
      subst e
      exact iteT (emp _ _ rfl s1 fun i => by rw [Pl.mul_nilL, Pl.co_nil])
    have hla : la ≠ [] := fun z => c (decide_eq_true z)
    refine ⟨.ref b, rfl, Nat.zero_le _, fun e2 n2 => ⟨dI lb, dI [], dp_ls (same_new s1 n2 _ _ hb), dp_ls (l := []) upd_same, dI_shaped _, dI_shaped _, _, rfl, ?_⟩⟩
    have s2 : Same H (upd (upd H e1 (.lst [])) e2 (.lst [])) := same_new s1 n2
    rw [dI_eqv]
    refine ite2 (fun c => ?_) (fun c => ?_)
    · have e := of_decide_eq_true c
      subst e
      exact emp _ _ rfl s2 fun i => Pl.co_mul_nil _ _
    have hlb : lb ≠ [] := fun z => c (decide_eq_true z)
    have pa := List.length_pos_iff.mpr hla
    have pb := List.length_pos_iff.mpr hlb
    generalize upd (upd H e1 (.lst [])) e2 (.lst []) = H2 at s2
    -- found
    refine ⟨(by show 1 ≤ sizeLine; decide), fun l1 m1 => ?_⟩
    have s3 := same_new (o := .lst [V.int 0]) s2 m1
    refine ⟨.ref a, rfl, a, la.map V.int, rfl, .inl (.of (s3 _ _ ha)), .ref b, rfl, b, lb.map V.int, rfl, .inl (.of (s3 _ _ hb)), _, _, rfl, rfl, _, _, rfl, rfl, ?_⟩
    rw [List.length_map, List.length_map]
    refine ⟨l1, _, _, rfl, rfl, upd_same, by omega, by omega, small_line' (by show 1 * _ ≤ _; omega), fun l2 m2 => ?_⟩
    have s4 := same_new (o := .lst (List.replicate ((la.length : Int) + lb.length - 1).toNat [V.int 0]).flatten) s3 m2
    have n2H := s3.free m2
    have hlen : ((la.length : Int) + lb.length - 1).toNat = la.length + lb.length - 1 := by omega
    refine ⟨.ref a, rfl, a, la.map V.int, rfl, .inl (.of (s4 _ _ ha)), _, rfl, by omega, by rw [List.length_map]; omega, ?_⟩
    rw [List.length_map, Int.toNat_natCast]
    refine for_range (lo := 0) (n := la.length) (fun i σ H' => ∃ (fl : List Int) (y4 y5 : Option V), σ = [some (.int p), some (.ref a), some (.ref b), some (.ref l2), y4, y5] ∧ Same H H' ∧ Ls H' l2 fl ∧ fl.length = la.length + lb.length - 1 ∧
      ∀ n, Pl.co fl n = Pl.co (Pl.mulL (la.take i) lb) n % p) ?_ ?_ ?_
    · refine ⟨List.replicate (la.length + lb.length - 1) 0, none, none, rfl, s4, ?_, List.length_replicate, fun n => ?_⟩
      · rw [rep_map, hlen]
        exact upd_same
      · rw [co_repl]; simp [Pl.mulL]
    · rintro i σ H' hi ⟨fl, y4, y5, rfl, sm, hf, zf, hc⟩
      refine ⟨.ref b, rfl, b, lb.map V.int, rfl, .inl (.of (sm _ _ hb)), _, rfl, by omega, by rw [List.length_map]; omega, ?_⟩
      rw [List.length_map, Int.toNat_natCast]
      refine for_range (lo := 0) (n := lb.length) (fun j σ H' => ∃ (fl : List Int) (y5 : Option V), σ = [some (.int p), some (.ref a), some (.ref b), some (.ref l2), some (.int (0 + (i : Nat))), y5] ∧ Same H H' ∧ Ls H' l2 fl ∧ fl.length = la.length + lb.length - 1 ∧
        ∀ n, Pl.co fl n = (Pl.co (Pl.mulL (la.take i) lb) n + inner la lb i j n) % p) ?_ ?_ ?_
      · refine ⟨fl, y5, rfl, sm, hf, zf, fun n => ?_⟩
        rw [inner_zero, Int.add_zero]; exact hc n
      · rintro j σ H' hj ⟨fl, y5, rfl, sm, hf, zf, hc⟩
        have b0 := rb.cos hpos j
        have a0 := ra.cos hpos i
        refine ⟨.ref l2, rfl, .int (0 + (i : Nat)), rfl, .int (0 + (j : Nat)), rfl, _, _, rfl, rfl, l2, _, _, _, rfl, rfl, .of hf, at_ls (i := i + j) (by omega) (by omega), .ref a, rfl, .int (0 + (i : Nat)), rfl, a, _, _, _, rfl, rfl, .of (sm _ _ ha), at_ls (i := i) (by omega) (by omega),
          .ref b, rfl, .int (0 + (j : Nat)), rfl, b, _, _, _, rfl, rfl, .of (sm _ _ hb), at_ls (i := j) (by omega) (by omega), _, _, rfl, rfl, .inl ⟨by omega, by omega⟩, _, _, rfl, rfl, .int p, rfl, _, _, rfl, rfl, by show (0 : Int) < p; omega, ?_⟩
        refine ⟨.ref l2, rfl, .int (0 + (i : Nat)), rfl, .int (0 + (j : Nat)), rfl, _, _, rfl, rfl, l2, _, _, i + j, rfl, rfl, hf, ixn_nat (by omega) (by rw [List.length_map]; omega), fl.set (i + j) ((Pl.co fl (i + j) + Pl.co la i * Pl.co lb j) % p), some (.int (0 + (j : Nat))), rfl, same_mut sm n2H, ?_, by rw [List.length_set]; exact zf, fun n => ?_⟩
        · rw [set_map]
          exact upd_same
        · rw [co_set _ _ _ _ (by omega), inner_step]
          by_cases e : n = i + j
          · subst e
            rw [if_pos rfl, if_pos rfl, hc, inner_at, Int.add_zero, Int.emod_add_emod]
          · rw [if_neg e, if_neg e, hc]
      · rintro σ H' ⟨fl, y5, rfl, sm, hf, zf, hc⟩
        refine ⟨fl, some (.int (0 + (i : Nat))), y5, rfl, sm, hf, zf, fun n => ?_⟩
        rw [hc, inner_all, co_mul_take _ _ _ _ hi]
    · rintro σ H' ⟨fl, y4, y5, rfl, sm, hf, zf, hc⟩
      refine ⟨.ref l2, rfl, q H' l2 sm n2H ?_⟩
      have e1 : Pl.cutL fl = Pl.rowL p (Pl.mulL la lb) := row_by fun j => by rw [hc, List.take_length]
      have e2 : Pl.cutL fl = fl := Pl.cut_row_eq (last_ne (p := p) (n := la.length - 1 + (lb.length - 1)) (by omega) (by
        rw [hc, List.take_length, Pl.co_mul_top (by omega) (by omega)]
        intro z
        have hd := Int.dvd_of_emod_eq_zero z
        rcases hp.prm.dv _ _ hd with d | d
        · exact ra.last_co hpos hla d
        · exact rb.last_co hpos hlb d))
      rw [← e1, e2]
      exact hf
end
end Kp
-- W3
set_option Elab.async false
set_option linter.all false
set_option maxRecDepth 100000
set_option maxHeartbeats 4000000
namespace Kp
open PySem PySem.Spec PyProof.Rows L2
section
variable {P : Program} {w : World} {K : PySem.W.Frag} {mg : Str → Option Value} {base : Heap}
theorem row_last {p : Nat} {l : List Int} (h : Pl.IsRow p l) (hp : 0 < p) (hn : l ≠ []) : 0 ≤ Pl.co l (l.length - 1) ∧ Pl.co l (l.length - 1) < p ∧ Pl.co l (l.length - 1) ≠ 0 :=
  ⟨(h.cos hp _).1, (h.cos hp _).2, h.last _ (Pl.co_last hn)⟩
/-! ### plain -/
abbrev sPlain : Stmt := topS 18
theorem scPlain : FnScope ["prime", "row"] ["prime", "row"] (defScope sPlain) := ⟨rfl, rfl, rfl, by decide +kernel, rfl, by decide +kernel, by decide +kernel⟩
def spPlain : Sp := fun vs H Q _ => ∃ (p : Nat) (a : Addr) (l : List Int), vs = [.int p, .ref a] ∧ Pm p ∧ Ls H a l ∧ Pl.IsRow p l ∧ l ≠ [] ∧ l.length ≤ 10000 ∧
  ∀ t : Int, 0 ≤ t → t < p → (p : Int) ∣ t * Pl.co l (l.length - 1) - 1 → NewL H Q (Pl.rowL p (Pl.smulL t l))
theorem ok_plain {f fT fM : Addr} {fd fdT fdM : FuncData} {k : Nat} (F : Fun K "plain" "plain" sPlain f fd) (GT : FnOk P w K mg base CX0 (k + 2) fT fdT ["prime", "number"] spTurned) (kT : PySem.W.keepIn K (.ref fT) = true) (bT : Binds K fdT ["prime", "number"] []) (gT : mg "turned" = some (.ref fT))
    (GM : FnOk P w K mg base CX0 (k + 2) fM fdM ["prime", "row", "number"] spMultiple) (kM : PySem.W.keepIn K (.ref fM) = true) (bM : Binds K fdM ["prime", "row", "number"] []) (gM : mg "multiple" = some (.ref fM)) :
    FnOk P w K mg base CX0 (k + 3) f fd ["prime", "row"] spPlain := by
  refine F.ok scPlain (fun vs H Q E h => ?_) (fun cdv A outer s H vs Q E hr h => ?_)
  · obtain ⟨p, a, la, rfl, _⟩ := h
    rfl
  · obtain ⟨p, a, l, rfl, hp, ha, ra, hn, za, q⟩ := h
    refine ⟨_, pss_one (ps_ret (pe_call GM hr (by rfl) gM kM bM .nil pass0 (pa_cons (pv 0) (pa_cons (pv 1) (pa_cons (pe_call GT hr (by rfl) gT kT bT .nil pass0 (pa_cons (pv 0) (pa_cons (pe_ix ix_list (pv 1) (pe_un un_neg pe_int) (fun _ _ => rfl)) pa_nil))) pa_nil))))), ?_⟩
    have hl := row_last ra hp.pos hn
    refine ⟨.int p, rfl, .ref a, rfl, .int p, rfl, .ref a, rfl, 1, rfl, a, _, -1, _, rfl, rfl, .of ha, at_neg (List.length_pos_iff.mpr hn), p, _, rfl, hp, hl.1, hl.2.1, hl.2.2, fun H' t sm h0 h1 hd => ?_⟩
    exact ⟨p, a, l, t, rfl, hp, sm _ _ ha, ra, za, fun H2 r sm2 nr hr2 => q t h0 h1 hd H2 r (sm.trans sm2) (sm.free nr) hr2⟩
/-! ### taken_out -/
abbrev sTaken : Stmt := topS 20
theorem scTaken : FnScope ["prime", "row", "by", "left", "turn", "quotient", "back", "at", "number", "beside"] ["prime", "row", "by"] (defScope sTaken) := ⟨rfl, rfl, rfl, by decide +kernel, rfl, by decide +kernel, by decide +kernel⟩
def spTaken : Sp := fun vs H Q _ => ∃ (p : Nat) (a b : Addr) (la lb : List Int), vs = [.int p, .ref a, .ref b] ∧ Pm p ∧ Ls H a la ∧ Ls H b lb ∧ Pl.IsRow p la ∧ Pl.IsRow p lb ∧ lb ≠ [] ∧ la.length ≤ 10000 ∧ lb.length ≤ 10000 ∧
  ∀ (H' : Hp) (t x y : Addr) (q r : List Int), Same H H' → H t = none → H x = none → H y = none → x ≠ y → Ls H' x q → Ls H' y r → H' t = some (.tup [.ref x, .ref y]) → Pl.IsRow p q → Pl.IsRow p r →
    Pl.mk p la = Pl.mk p q * Pl.mk p lb + Pl.mk p r → r.length < lb.length → q.length ≤ la.length + 1 - lb.length → Q (.ref t) H'
/-- what the inner loop has taken away -/
def away (c : Int) (lb : List Int) (i j n : Nat) : Int := if i ≤ n ∧ n - i < j then c * Pl.co lb (n - i) else 0
theorem away_zero (c : Int) (lb : List Int) (i n : Nat) : away c lb i 0 n = 0 := by unfold away; rw [if_neg (by omega)]
theorem away_all (c : Int) (lb : List Int) (i n : Nat) : away c lb i lb.length n = c * (if i ≤ n then Pl.co lb (n - i) else 0) := by
  unfold away
  by_cases h : i ≤ n
  · rw [if_pos h]
    by_cases h2 : n - i < lb.length
    · rw [if_pos ⟨h, h2⟩]
    · rw [if_neg (by omega), Pl.co_ge (l := lb) (by omega)]; simp
  · rw [if_neg h, if_neg (by omega)]; simp
theorem away_step (c : Int) (lb : List Int) (i j n : Nat) : away c lb i (j + 1) n = if n = i + j then c * Pl.co lb j else away c lb i j n := by
  unfold away
  by_cases h : n = i + j
  · subst h
    rw [if_pos rfl, if_pos ⟨by omega, by omega⟩, Nat.add_sub_cancel_left]
  · rw [if_neg h]
    by_cases h2 : i ≤ n ∧ n - i < j
    · rw [if_pos h2, if_pos ⟨h2.1, by omega⟩]
    · rw [if_neg h2, if_neg (by omega)]
theorem away_at (c : Int) (lb : List Int) (i j : Nat) : away c lb i j (i + j) = 0 := by
  unfold away
  rw [if_neg (by omega)]
/-- the state of the division behind i turns -/
structure TkInv (p : Nat) (la lb ql ll : List Int) (n i : Nat) : Prop where
  zq : ql.length = n
  zl : ll.length = la.length
  rq : ∀ j, 0 ≤ Pl.co ql j ∧ Pl.co ql j < p
  rl : ∀ j, 0 ≤ Pl.co ll j ∧ Pl.co ll j < p
  e : Pl.mk p la = Pl.mk p ql * Pl.mk p lb + Pl.mk p ll
  low : ∀ j, j < n - i → Pl.co ql j = 0
  top : ∀ j, n - i + lb.length - 1 ≤ j → Pl.co ll j = 0
theorem cos_row {p : Nat} {l : List Int} (h : ∀ j, 0 ≤ Pl.co l j ∧ Pl.co l j < p) : Pl.IsRow p (Pl.cutL l) := by
  refine ⟨fun x hx => ?_, Pl.cut_last l⟩
  have hm := Pl.cut_mem hx
  obtain ⟨i, hi⟩ := List.mem_iff_getElem?.mp hm
  rw [← Pl.co_of hi]
  exact h i
theorem mk_cut (p : Nat) (l : List Int) : Pl.mk p (Pl.cutL l) = Pl.mk p l := Pl.mk_ext (Pl.co_cut l)
theorem ok_taken {f fT fC : Addr} {fd fdT fdC : FuncData} {k : Nat} (F : Fun K "taken_out" "taken_out" sTaken f fd) (GT : FnOk P w K mg base CX0 (k + 2) fT fdT ["prime", "number"] spTurned) (kT : PySem.W.keepIn K (.ref fT) = true) (bT : Binds K fdT ["prime", "number"] []) (gT : mg "turned" = some (.ref fT))
    (GC : FnOk P w K mg base CX0 (k + 1) fC fdC ["numbers"] spCut) (kC : PySem.W.keepIn K (.ref fC) = true) (bC : Binds K fdC ["numbers"] []) (gC : mg "cut" = some (.ref fC)) (T : Bt mg) :
    FnOk P w K mg base CX0 (k + 3) f fd ["prime", "row", "by"] spTaken := by
  refine F.ok scTaken (fun vs H Q E h => ?_) (fun cdv A outer s H vs Q E hr h => ?_)
  · obtain ⟨p, a, b, la, lb, rfl, _⟩ := h
    rfl
  · obtain ⟨p, a, b, la, lb, rfl, hp, ha, hb, ra, rb, hn, za, zb, q⟩ := h
    have nd := scTaken.nd
    refine ⟨_, pss_cons (ps_set (i := 3) nd rfl (.inl rfl) (pe_callTy call_list_of (by rfl) T.list bo_list (pa_cons (pv 1) pa_nil)))
      (pss_cons (ps_set (i := 4) nd rfl (.inl rfl) (pe_call GT hr (by rfl) gT kT bT .nil pass0 (pa_cons (pv 0) (pa_cons (pe_ix ix_list (pv 2) (pe_un un_neg pe_int) (fun _ _ => rfl)) pa_nil))))
      (pss_cons (ps_set (i := 5) nd rfl (.inl rfl) (pe_op op_rep (pe_lst (pa_cons pe_int pa_nil)) (pe_callB (call_max2 rfl) (by rfl) T.max bo_max (pa_cons pe_int (pa_cons (pe_op op_add (pe_op op_sub (pe_callB call_len_seq (by rfl) T.len PySem.boot_len (pa_cons (pv 1) pa_nil)) (pe_callB call_len_seq (by rfl) T.len PySem.boot_len (pa_cons (pv 2) pa_nil))) pe_int) pa_nil)))))
      (pss_cons (ps_for PassesOwn.never rfl (pi_range1 (by rfl) T.range (pa_cons (pe_callB call_len_seq (by rfl) T.len PySem.boot_len (pa_cons (pv 5) pa_nil)) pa_nil)) (pg_name (i := 6) nd rfl (.inl rfl))
        (pss_cons (ps_set (i := 7) nd rfl (.inl rfl) (pe_op op_sub (pe_op op_sub (pe_callB call_len_seq (by rfl) T.len PySem.boot_len (pa_cons (pv 5) pa_nil)) pe_int) (pv 6)))
        (pss_cons (ps_set (i := 8) nd rfl (.inl rfl) (pe_op op_mod (pe_op op_mul (pe_ix ix_list (pv 3) (pe_op op_sub (pe_op op_add (pv 7) (pe_callB call_len_seq (by rfl) T.len PySem.boot_len (pa_cons (pv 2) pa_nil))) pe_int) (fun _ _ => rfl)) (pv 4)) (pv 0)))
        (pss_cons (ps_asg (pv 8) (pg_sub (pv 5) (pv 7) set_list))
        (pss_one (ps_for PassesOwn.never rfl (pi_range1 (by rfl) T.range (pa_cons (pe_callB call_len_seq (by rfl) T.len PySem.boot_len (pa_cons (pv 2) pa_nil)) pa_nil)) (pg_name (i := 9) nd rfl (.inl rfl))
          (pss_one (ps_asg (pe_op op_mod (pe_op op_sub (pe_ix ix_list (pv 3) (pe_op op_add (pv 7) (pv 9)) (fun _ _ => rfl)) (pe_op op_mul (pv 8) (pe_ix ix_list (pv 2) (pv 9) (fun _ _ => rfl)))) (pv 0)) (pg_sub (pv 3) (pe_op op_add (pv 7) (pv 9)) set_list)))))))))
      (pss_one (ps_ret (pe_tup (pa_cons (pe_call GC (hr.mono (by omega)) (by rfl) gC kC bC .nil pass0 (pa_cons (pv 5) pa_nil)) (pa_cons (pe_call GC (hr.mono (by omega)) (by rfl) gC kC bC .nil pass0 (pa_cons (pv 3) pa_nil)) pa_nil)))))))), ?_⟩
    have hpos := hp.pos
    have hle := hp.le
    have pb := List.length_pos_iff.mpr hn
    have hlb := row_last rb hpos hn
    -- left
    refine ⟨.ref a, rfl, a, la.map V.int, rfl, .inl (.of ha), fun l1 n1 => ?_⟩
    have s1 := same_new (o := .lst (la.map V.int)) (Same.refl H) n1
    have hl1 : Ls (upd H l1 (.lst (la.map V.int))) l1 la := upd_same
    generalize upd H l1 (.lst (la.map V.int)) = H1 at s1 hl1
    -- turn
    refine ⟨.int p, rfl, .ref b, rfl, 1, rfl, b, _, -1, _, rfl, rfl, .of (s1 _ _ hb), at_neg pb, p, _, rfl, hp, hlb.1, hlb.2.1, hlb.2.2, fun H2 t sm2 t0 t1 td => ?_⟩
    have s2 := s1.trans sm2
    have hl2 : Ls H2 l1 la := sm2 _ _ hl1
    -- quotient
    refine ⟨(by show 1 ≤ sizeLine; decide), fun l2 n2 => ?_⟩
    have s3 := same_new (o := .lst [V.int 0]) s2 n2
    refine ⟨.ref a, rfl, a, la.map V.int, rfl, .inl (.of (s3 _ _ ha)), .ref b, rfl, b, lb.map V.int, rfl, .inl (.of (s3 _ _ hb)), _, _, rfl, rfl, _, _, rfl, rfl, _, _, rfl, ?_⟩
    rw [List.length_map, List.length_map]
    have hN : (if (la.length : Int) - lb.length + 1 > 0 then (la.length : Int) - lb.length + 1 else 0) = ((la.length + 1 - lb.length : Nat) : Int) := by split <;> omega
    rw [hN]
    have hNle : la.length + 1 - lb.length ≤ 10001 := by omega
    generalize hNn : la.length + 1 - lb.length = N at hNle
    refine ⟨l2, _, _, rfl, rfl, upd_same, by omega, by omega, small_line' (by show 1 * _ ≤ _; omega), fun l3 n3 => ?_⟩
    rw [Int.toNat_natCast] at *
    have s4 := same_new (o := .lst (List.replicate N [V.int 0]).flatten) s3 n3
    have n3H := s3.free n3
    have ne13 : l1 ≠ l3 := ne_of_none (H := upd H2 l2 (.lst [V.int 0])) (by rw [upd_ne (ne_of_none hl2 n2)]; exact hl2) n3
    have hl4 : Ls (upd (upd H2 l2 (.lst [V.int 0])) l3 (.lst (List.replicate N [V.int 0]).flatten)) l1 la := by
      show upd _ l3 _ l1 = _
      rw [upd_ne ne13, upd_ne (ne_of_none hl2 n2)]; exact hl2
    have hq4 : Ls (upd (upd H2 l2 (.lst [V.int 0])) l3 (.lst (List.replicate N [V.int 0]).flatten)) l3 (List.replicate N 0) := by
      rw [rep_map]; exact upd_same
    generalize upd (upd H2 l2 (.lst [V.int 0])) l3 (.lst (List.replicate N [V.int 0]).flatten) = H4 at s4 hl4 hq4
    -- the loop
    refine ⟨.ref l3, rfl, l3, _, rfl, .inl (.of hq4), _, rfl, by omega, by rw [List.length_map, List.length_replicate]; omega, ?_⟩
    rw [List.length_map, List.length_replicate, Int.toNat_natCast]
    refine for_range (lo := 0) (n := N) (fun i σ H' => ∃ (ql ll : List Int) (y6 y7 y8 y9 : Option V), σ = [some (.int p), some (.ref a), some (.ref b), some (.ref l1), some (.int t), some (.ref l3), y6, y7, y8, y9] ∧ Same H H' ∧ Ls H' l3 ql ∧ Ls H' l1 ll ∧ TkInv p la lb ql ll N i) ?_ ?_ ?_
    · refine ⟨List.replicate N 0, la, none, none, none, none, rfl, s4, hq4, hl4, List.length_replicate, rfl, fun j => by rw [co_repl]; omega, fun j => ra.cos hpos j, ?_, fun j _ => co_repl _ _, fun j hj => Pl.co_ge (by omega)⟩
      have : Pl.mk p (List.replicate N 0) = Pl.mk p [] := Pl.mk_ext fun i => by rw [co_repl]; rfl
      rw [this, ← Pl.Poly.zero_nil]; grind
    · rintro i σ H' hi ⟨ql, ll, y6, y7, y8, y9, rfl, sm, hq, hl, I⟩
      have b' := sm _ _ hb
      have zq := I.zq
      have zl := I.zl
      -- at
      refine ⟨.ref l3, rfl, l3, _, rfl, .inl (.of hq), _, _, rfl, rfl, _, rfl, _, _, rfl, rfl, ?_⟩
      dsimp only
      rw [List.length_map]
      have eat : (ql.length : Int) - 1 - (0 + (i : Nat)) = ((N - 1 - i : Nat) : Int) := by omega
      rw [eat]
      generalize hAt : N - 1 - i = k at eat
      -- number
      have htop : k + lb.length - 1 < ll.length := by omega
      refine ⟨.ref l1, rfl, .int k, rfl, .ref b, rfl, b, _, rfl, .inl (.of b'), _, _, rfl, rfl, _, _, rfl, rfl, l1, _, _, _, rfl, rfl, .of hl, at_ls (i := k + lb.length - 1) (by rw [List.length_map]; omega) htop, .int t, rfl, _, _, rfl, rfl, .inr ⟨by omega, by omega⟩, .int p, rfl, _, _, rfl, rfl, by show (0 : Int) < p; omega, ?_⟩
      have c0 := Int.emod_nonneg (Pl.co ll (k + lb.length - 1) * t) (show (p : Int) ≠ 0 by omega)
      have c1 := Int.emod_lt_of_pos (Pl.co ll (k + lb.length - 1) * t) (show (0 : Int) < p by omega)
      generalize hc : Pl.co ll (k + lb.length - 1) * t % (p : Int) = c at c0 c1
      dsimp only
      rw [hc]
      -- quotient[at] = number
      refine ⟨.int c, rfl, .ref l3, rfl, .int k, rfl, l3, _, _, k, rfl, rfl, hq, ixn_nat rfl (by rw [List.length_map]; omega), ?_⟩
      rw [set_map]
      have ne31 : l1 ≠ l3 := fun e => by
        have h1 := hq
        rw [← e] at h1
        have := h1.symm.trans hl
        have e2 : ql.map V.int = ll.map V.int := by injection this with z; injection z
        exact ne13 e
      have sm2 : Same H (upd H' l3 (.lst ((ql.set k c).map V.int))) := same_mut sm n3H
      have hq2 : Ls (upd H' l3 (.lst ((ql.set k c).map V.int))) l3 (ql.set k c) := upd_same
      have hl2 : Ls (upd H' l3 (.lst ((ql.set k c).map V.int))) l1 ll := by
        show upd _ _ _ _ = _
        rw [upd_ne ne31]; exact hl
      generalize upd H' l3 (.lst ((ql.set k c).map V.int)) = H5 at sm2 hq2 hl2
      -- the inner loop
      refine ⟨.ref b, rfl, b, lb.map V.int, rfl, .inl (.of (sm2 _ _ hb)), _, rfl, by omega, by rw [List.length_map]; omega, ?_⟩
      rw [List.length_map, Int.toNat_natCast]
      refine for_range (lo := 0) (n := lb.length) (fun j σ H' => ∃ (l' : List Int) (y9 : Option V), σ = [some (.int p), some (.ref a), some (.ref b), some (.ref l1), some (.int t), some (.ref l3), some (.int (0 + (i : Nat))), some (.int k), some (.int c), y9] ∧ Same H H' ∧ Ls H' l3 (ql.set k c) ∧ Ls H' l1 l' ∧ l'.length = la.length ∧
        ∀ n, Pl.co l' n = (Pl.co ll n - away c lb k j n) % p) ?_ ?_ ?_
      · refine ⟨ll, y9, rfl, sm2, hq2, hl2, zl, fun n => ?_⟩
        have := I.rl n
        rw [away_zero, Int.sub_zero, Int.emod_eq_of_lt this.1 this.2]
      · rintro j σ H6 hj ⟨l', z9, rfl, sm6, hq6, hl6, zl6, hco⟩
        have b0 := rb.cos hpos j
        refine ⟨.ref l1, rfl, .int k, rfl, .int (0 + (j : Nat)), rfl, _, _, rfl, rfl, l1, _, _, _, rfl, rfl, .of hl6, at_ls (i := k + j) (by omega) (by omega), .int c, rfl, .ref b, rfl, .int (0 + (j : Nat)), rfl, b, _, _, _, rfl, rfl, .of (sm6 _ _ hb), at_ls (i := j) (by omega) (by omega), _, _, rfl, rfl, .inl ⟨by omega, by omega⟩, _, _, rfl, rfl, .int p, rfl, _, _, rfl, rfl, by show (0 : Int) < p; omega, ?_⟩
        refine ⟨.ref l1, rfl, .int k, rfl, .int (0 + (j : Nat)), rfl, _, _, rfl, rfl, l1, _, _, k + j, rfl, rfl, hl6, ixn_nat (by omega) (by rw [List.length_map]; omega), l'.set (k + j) ((Pl.co l' (k + j) - c * Pl.co lb j) % p), some (.int (0 + (j : Nat))), rfl, same_mut sm6 n1, ?_, ?_, by rw [List.length_set]; exact zl6, fun n => ?_⟩
        · show upd _ _ _ _ = _
          rw [upd_ne ne31.symm]; exact hq6
        · rw [set_map]
          exact upd_same
        · rw [co_set _ _ _ _ (by omega), away_step]
          by_cases e : n = k + j
          · subst e
            rw [if_pos rfl, if_pos rfl, hco, away_at, Int.sub_zero, Int.sub_eq_add_neg, Int.emod_add_emod, ← Int.sub_eq_add_neg]
          · rw [if_neg e, if_neg e, hco]
      · rintro σ H6 ⟨l', z9, rfl, sm6, hq6, hl6, zl6, hco⟩
        have hco2 : ∀ n, Pl.co l' n = (Pl.co ll n - c * (if k ≤ n then Pl.co lb (n - k) else 0)) % p := fun n => by rw [hco, away_all]
        refine ⟨ql.set k c, l', some (.int (0 + (i : Nat))), some (.int k), some (.int c), z9, rfl, sm6, hq6, hl6, by rw [List.length_set]; exact zq, zl6, fun j => ?_, fun j => ?_, ?_, fun j hj => ?_, fun j hj => ?_⟩
        · rw [co_set _ _ _ _ (by omega)]
          split
          · exact ⟨c0, c1⟩
          · exact I.rq j
        · rw [hco2]
          exact ⟨Int.emod_nonneg _ (by omega), Int.emod_lt_of_pos _ (by omega)⟩
        · refine Pl.tk_step (k := k) (n := c) I.e (fun m => co_set _ _ _ _ (by omega)) (I.low k (by omega)) fun m => ?_
          rw [hco2]
          refine ⟨-((Pl.co ll m - c * (if k ≤ m then Pl.co lb (m - k) else 0)) / p), ?_⟩
          have := Int.emod_add_mul_ediv (Pl.co ll m - c * (if k ≤ m then Pl.co lb (m - k) else 0)) p
          rw [Int.mul_neg]; omega
        · rw [co_set _ _ _ _ (by omega), if_neg (by omega)]
          exact I.low j (by omega)
        · rw [hco2]
          by_cases e : j = k + lb.length - 1
          · have e2 : j - k = lb.length - 1 := by omega
            rw [if_pos (by omega), e2, e, ← hc]
            exact Int.emod_eq_zero_of_dvd (Pl.tk_top td)
          · rw [I.top j (by omega), if_pos (by omega), Pl.co_ge (l := lb) (by omega)]; simp
    · rintro σ H' ⟨ql, ll, y6, y7, y8, y9, rfl, sm, hq, hl, I⟩
      refine ⟨.ref l3, rfl, l3, ql, rfl, hq, fun H5 x sm5 nx hx => ?_⟩
      refine ⟨.ref l1, rfl, l1, ll, rfl, sm5 _ _ hl, fun H6 y sm6 ny hy => ?_⟩
      refine ⟨(by show 2 ≤ sizeLine; decide), fun t' nt => ?_⟩
      have smA := sm.trans (sm5.trans sm6)
      have hx6 := sm6 _ _ hx
      refine q _ t' x y (Pl.cutL ql) (Pl.cutL ll) (same_new smA nt) (smA.free nt) (sm.free nx) (sm.free (sm5.free ny)) (ne_of_none hx ny) ?_ ?_ upd_same (cos_row I.rq) (cos_row I.rl) ?_ ?_ ?_
      · show upd _ _ _ _ = _
        rw [upd_ne (ne_of_none hx6 nt)]; exact hx6
      · show upd _ _ _ _ = _
        rw [upd_ne (ne_of_none hy nt)]; exact hy
      · rw [mk_cut, mk_cut]; exact I.e
      · have h1 : (Pl.cutL ll).length ≤ lb.length - 1 := Pl.Poly.cut_len_le.mpr fun j hj => I.top j (by omega)
        omega
      · have h1 := Pl.cut_len ql
        rw [I.zq] at h1
        omega
end
end Kp
-- W4
set_option Elab.async false
set_option linter.all false
set_option maxRecDepth 100000
set_option maxHeartbeats 4000000
namespace Kp
open PySem PySem.Spec PyProof.Rows L2
theorem new_st {H : Hp} {p : Addr} {o : HO} (n : H p = none) : Same H (upd H p o) ∧ upd H p o p = some o := ⟨same_new (Same.refl _) n, upd_same⟩
/-- a triple of rows at t -/
def Tri (H : Hp) (t : Addr) (A B C : List Int) : Prop := ∃ a b c, H t = some (.tup [.ref a, .ref b, .ref c]) ∧ Ls H a A ∧ Ls H b B ∧ Ls H c C
theorem Tri.same {H H' : Hp} {t : Addr} {A B C : List Int} (h : Tri H t A B C) (s : Same H H') : Tri H' t A B C := by
  obtain ⟨a, b, c, h1, h2, h3, h4⟩ := h
  exact ⟨a, b, c, s _ _ h1, s _ _ h2, s _ _ h3, s _ _ h4⟩
section
variable {P : Program} {w : World} {K : PySem.W.Frag} {mg : Str → Option Value} {base : Heap}
/-! ### met -/
abbrev sMet : Stmt := topS 21
abbrev nMet : List Str := ["prime", "ones", "others", "first", "second", "pair", "less", "left", "right", "turn", "shared_one", "cofactors", "makers", "row"]
theorem scMet : FnScope nMet ["prime", "ones", "others"] (defScope sMet) := ⟨rfl, rfl, rfl, by decide +kernel, rfl, by decide +kernel, by decide +kernel⟩
def spMet : Sp := fun vs H Q _ => ∃ (p : Nat) (a b : Addr) (la lb : List Int), vs = [.int p, .ref a, .ref b] ∧ Pm p ∧ Ls H a la ∧ Ls H b lb ∧ Pl.IsRow p la ∧ Pl.IsRow p lb ∧ (la ≠ [] ∨ lb ≠ []) ∧ la.length ≤ 4000 ∧ lb.length ≤ 4000 ∧
  ∀ (H' : Hp) (t x1 x2 x3 x4 x5 : Addr) (g s r u v : List Int), Same H H' → H t = none → H x1 = none → H x2 = none → H x3 = none → H x4 = none → H x5 = none → x4 ≠ x5 →
    H' t = some (.tup [.ref x1, .ref x2, .ref x3, .ref x4, .ref x5]) → Ls H' x1 g → Ls H' x2 s → Ls H' x3 r → Ls H' x4 u → Ls H' x5 v → Pl.Met p la lb g s r → Pl.IsRow p u → Pl.IsRow p v →
    Pl.mk p u * Pl.mk p la + Pl.mk p v * Pl.mk p lb = Pl.mk p g → u.length ≤ la.length + lb.length + 1 → v.length ≤ la.length + lb.length + 1 → Q (.ref t) H'
theorem ok_met {f fT fM fJ fP fK : Addr} {fd fdT fdM fdJ fdP fdK : FuncData} {k : Nat} (F : Fun K "met" "met" sMet f fd)
    (GT : FnOk P w K mg base CX0 (k + 3) fT fdT ["prime", "number"] spTurned) (kT : PySem.W.keepIn K (.ref fT) = true) (bT : Binds K fdT ["prime", "number"] []) (gT : mg "turned" = some (.ref fT))
    (GM : FnOk P w K mg base CX0 (k + 3) fM fdM ["prime", "row", "number"] spMultiple) (kM : PySem.W.keepIn K (.ref fM) = true) (bM : Binds K fdM ["prime", "row", "number"] []) (gM : mg "multiple" = some (.ref fM))
    (GJ : FnOk P w K mg base CX0 (k + 3) fJ fdJ ["prime", "ones", "others", "number"] spJoined) (kJ : PySem.W.keepIn K (.ref fJ) = true) (bJ : Binds K fdJ ["prime", "ones", "others", "number"] []) (gJ : mg "joined" = some (.ref fJ))
    (GP : FnOk P w K mg base CX0 (k + 3) fP fdP ["prime", "ones", "others"] spProduct) (kP : PySem.W.keepIn K (.ref fP) = true) (bP : Binds K fdP ["prime", "ones", "others"] []) (gP : mg "product" = some (.ref fP))
    (GK : FnOk P w K mg base CX0 (k + 3) fK fdK ["prime", "row", "by"] spTaken) (kK : PySem.W.keepIn K (.ref fK) = true) (bK : Binds K fdK ["prime", "row", "by"] []) (gK : mg "taken_out" = some (.ref fK)) (T : Bt mg) :
    FnOk P w K mg base CX0 (k + 4) f fd ["prime", "ones", "others"] spMet := by
  refine F.ok scMet (fun vs H Q E h => ?_) (fun cdv A outer s H vs Q E hr h => ?_)
  · obtain ⟨p, a, b, la, lb, rfl, _⟩ := h
    rfl
  · obtain ⟨p, a, b, la, lb, rfl, hp, ha, hb, ra, rb, hn, za, zb, q⟩ := h
    have nd := scMet.nd
    refine ⟨_, pss_cons (ps_set (i := 3) nd rfl (.inl rfl) (pe_tup (pa_cons (pe_callTy call_list_of (by rfl) T.list bo_list (pa_cons (pv 1) pa_nil)) (pa_cons (pe_lst (pa_cons pe_int pa_nil)) (pa_cons (pe_lst pa_nil) pa_nil)))))
      (pss_cons (ps_set (i := 4) nd rfl (.inl rfl) (pe_tup (pa_cons (pe_callTy call_list_of (by rfl) T.list bo_list (pa_cons (pv 2) pa_nil)) (pa_cons (pe_lst pa_nil) (pa_cons (pe_lst (pa_cons pe_int pa_nil)) pa_nil)))))
      (pss_cons (ps_while PassesOwn.never (pt_cmpR (op_neD hr.units) (pe_ix ix_tup (pv 4) pe_int (fun _ _ => rfl)) (pe_lst pa_nil) (nomark _))
        (pss_cons (ps_set (i := 5) nd rfl (.inl rfl) (pe_call GK hr (by rfl) gK kK bK .nil pass0 (pa_cons (pv 0) (pa_cons (pe_ix ix_tup (pv 3) pe_int (fun _ _ => rfl)) (pa_cons (pe_ix ix_tup (pv 4) pe_int (fun _ _ => rfl)) pa_nil)))))
        (pss_cons (ps_set (i := 6) nd rfl (.inl rfl) (pe_call GM hr (by rfl) gM kM bM .nil pass0 (pa_cons (pv 0) (pa_cons (pe_ix ix_tup (pv 5) pe_int (fun _ _ => rfl)) (pa_cons (pe_un un_neg pe_int) pa_nil)))))
        (pss_cons (ps_set (i := 7) nd rfl (.inl rfl) (pe_call GJ hr (by rfl) gJ kJ bJ .nil pass0 (pa_cons (pv 0) (pa_cons (pe_ix ix_tup (pv 3) pe_int (fun _ _ => rfl)) (pa_cons (pe_call GP hr (by rfl) gP kP bP .nil pass0 (pa_cons (pv 0) (pa_cons (pv 6) (pa_cons (pe_ix ix_tup (pv 4) pe_int (fun _ _ => rfl)) pa_nil)))) (pa_cons pe_int pa_nil))))))
        (pss_cons (ps_set (i := 8) nd rfl (.inl rfl) (pe_call GJ hr (by rfl) gJ kJ bJ .nil pass0 (pa_cons (pv 0) (pa_cons (pe_ix ix_tup (pv 3) pe_int (fun _ _ => rfl)) (pa_cons (pe_call GP hr (by rfl) gP kP bP .nil pass0 (pa_cons (pv 0) (pa_cons (pv 6) (pa_cons (pe_ix ix_tup (pv 4) pe_int (fun _ _ => rfl)) pa_nil)))) (pa_cons pe_int pa_nil))))))
        (pss_cons (ps_set (i := 3) nd rfl (.inl rfl) (pv 4))
        (pss_one (ps_set (i := 4) nd rfl (.inl rfl) (pe_tup (pa_cons (pe_ix ix_tup (pv 5) pe_int (fun _ _ => rfl)) (pa_cons (pv 7) (pa_cons (pv 8) pa_nil))))))))))))
      (pss_cons (ps_set (i := 9) nd rfl (.inr rfl) (pe_call GT hr (by rfl) gT kT bT .nil pass0 (pa_cons (pv 0) (pa_cons (pe_ix ix_list (pe_ix ix_tup (pv 3) pe_int (fun _ _ => rfl)) (pe_un un_neg pe_int) (fun _ _ => rfl)) pa_nil))))
      (pss_cons (ps_set (i := 10) nd rfl (.inr rfl) (pe_call GM hr (by rfl) gM kM bM .nil pass0 (pa_cons (pv 0) (pa_cons (pe_ix ix_tup (pv 3) pe_int (fun _ _ => rfl)) (pa_cons (pv 9) pa_nil)))))
      (pss_cons (ps_setLc (i := 11) (own := [("row", 13)]) (g := gName 13) (tt := tYes) (by rfl) nd rfl rfl (sw_true rfl rfl rfl (by decide +kernel)) (pi_tup (pe_tup (pa_cons (pv 1) (pa_cons (pv 2) pa_nil))))
          (blkOk_by (own := [("row", 13)]) (N := nMet) (sc := defScope sMet) (by decide +kernel)) (fun _ _ _ _ _ => pg_name (i := 13) nd rfl (Or.inl rfl)) (fun _ _ _ _ _ => pts_nil)
          (fun _ _ _ _ _ => pe_ix (r := rIxT K) ix_tup (pe_call GK hr (by rfl) gK kK bK .nil pass0 (pa_cons (pv 0) (pa_cons (pv 13) (pa_cons (pv 10) pa_nil)))) pe_int (fun _ _ => rfl)))
      (pss_cons (ps_setLc (i := 12) (own := [("row", 13)]) (g := gName 13) (tt := tYes) (by rfl) nd rfl rfl (sw_true rfl rfl rfl (by decide +kernel)) (pi_tup (pe_slice sl_tup (pv 3) (po_some pe_int) po_none))
          (blkOk_by (own := [("row", 13)]) (N := nMet) (sc := defScope sMet) (by decide +kernel)) (fun _ _ _ _ _ => pg_name (i := 13) nd rfl (Or.inl rfl)) (fun _ _ _ _ _ => pts_nil)
          (fun _ _ _ _ _ => pe_call GM hr (by rfl) gM kM bM .nil pass0 (pa_cons (pv 0) (pa_cons (pv 13) (pa_cons (pv 9) pa_nil)))))
      (pss_one (ps_ret (pe_tup (pa_cons (pv 10) (pa_cons (pe_ix ix_list (pv 11) pe_int (fun _ _ => rfl)) (pa_cons (pe_ix ix_list (pv 11) pe_int (fun _ _ => rfl))
        (pa_cons (pe_ix ix_list (pv 12) pe_int (fun _ _ => rfl)) (pa_cons (pe_ix ix_list (pv 12) pe_int (fun _ _ => rfl)) pa_nil)))))))))))))), ?_⟩
    have hpos := hp.pos
    have hle := hp.le
    -- first
    refine ⟨.ref a, rfl, a, la.map V.int, rfl, .inl (.of ha), fun i1 n1 => ?_⟩
    obtain ⟨s1, e1⟩ := new_st (o := .lst (la.map V.int)) n1
    generalize upd H i1 (.lst (la.map V.int)) = H1 at s1 e1 ⊢
    refine ⟨(by show 1 ≤ sizeLine; decide), fun i2 n2 => ?_⟩
    obtain ⟨s2, e2⟩ := new_st (o := .lst [V.int 1]) n2
    generalize upd H1 i2 (.lst [V.int 1]) = H2 at s2 e2 ⊢
    refine ⟨Nat.zero_le _, fun i3 n3 => ?_⟩
    obtain ⟨s3, e3⟩ := new_st (o := .lst []) n3
    generalize upd H2 i3 (.lst []) = H3 at s3 e3 ⊢
    refine ⟨(by show 3 ≤ sizeLine; decide), fun t1 n4 => ?_⟩
    obtain ⟨s4, e4⟩ := new_st (o := .tup [.ref i1, .ref i2, .ref i3]) n4
    generalize upd H3 t1 (.tup [.ref i1, .ref i2, .ref i3]) = H4 at s4 e4 ⊢
    have tri1 : Tri H4 t1 la [1] [] := ⟨i1, i2, i3, e4, s4 _ _ (s3 _ _ (s2 _ _ e1)), s4 _ _ (s3 _ _ e2), s4 _ _ e3⟩
    have sm4 := s1.trans (s2.trans (s3.trans s4))
    -- second
    refine ⟨.ref b, rfl, b, lb.map V.int, rfl, .inl (.of (sm4 _ _ hb)), fun i4 n5 => ?_⟩
    obtain ⟨s5, e5⟩ := new_st (o := .lst (lb.map V.int)) n5
    generalize upd H4 i4 (.lst (lb.map V.int)) = H5 at s5 e5 ⊢
    refine ⟨Nat.zero_le _, fun i5 n6 => ?_⟩
    obtain ⟨s6, e6⟩ := new_st (o := .lst []) n6
    generalize upd H5 i5 (.lst []) = H6 at s6 e6 ⊢
    refine ⟨(by show 1 ≤ sizeLine; decide), fun i6 n7 => ?_⟩
    obtain ⟨s7, e7⟩ := new_st (o := .lst [V.int 1]) n7
    generalize upd H6 i6 (.lst [V.int 1]) = H7 at s7 e7 ⊢
    refine ⟨(by show 3 ≤ sizeLine; decide), fun t2 n8 => ?_⟩
    obtain ⟨s8, e8⟩ := new_st (o := .tup [.ref i4, .ref i5, .ref i6]) n8
    generalize upd H7 t2 (.tup [.ref i4, .ref i5, .ref i6]) = H8 at s8 e8 ⊢
    have tri2 : Tri H8 t2 lb [] [1] := ⟨i4, i5, i6, e8, s8 _ _ (s7 _ _ (s6 _ _ e5)), s8 _ _ (s7 _ _ e6), s8 _ _ e7⟩
    have sm58 := s5.trans (s6.trans (s7.trans s8))
    -- the loop
    refine ⟨fun m σ H' => ∃ (t1 t2 : Addr) (y5 y6 y7 y8 : Option V) (A1 B1 C1 A2 B2 C2 : List Int), m = A2.length ∧ σ = [some (.int p), some (.ref a), some (.ref b), some (.ref t1), some (.ref t2), y5, y6, y7, y8, none, none, none, none, none] ∧ Same H H' ∧
        Tri H' t1 A1 B1 C1 ∧ Tri H' t2 A2 B2 C2 ∧ Pl.MInv p la lb A1 B1 C1 A2 B2 C2,
      ⟨_, t1, t2, none, none, none, none, _, _, _, _, _, _, rfl, rfl, sm4.trans sm58, tri1.same sm58, tri2, Pl.minv_start hp.prm ra rb hn⟩, ?_⟩
    rintro m σ H' ⟨t1, t2, y5, y6, y7, y8, A1, B1, C1, A2, B2, C2, rfl, rfl, sm, ⟨a1, b1, c1, h1, ha1, hb1, hc1⟩, ⟨a2, b2, c2, h2, ha2, hb2, hc2⟩, I⟩
    have L1 := I.l1
    have L2 := I.l2
    have s1t : SqT K H' t1 [.ref a1, .ref b1, .ref c1] := .of h1
    refine ⟨.ref t2, rfl, t2, _, 0, .ref a2, rfl, rfl, .of h2, rfl, Nat.zero_le _, fun e0 n0 => ?_⟩
    obtain ⟨s0, ee0⟩ := new_st (o := .lst []) n0
    generalize upd H' e0 (.lst []) = G0 at s0 ee0 ⊢
    refine ⟨dI A2, dI [], dp_ls (s0 _ _ ha2), dp_ls (l := []) ee0, dI_shaped _, dI_shaped _, _, rfl, ?_⟩
    rw [dI_eqv]
    have smG := sm.trans s0
    by_cases c : A2 = []
    · subst c
      rw [decide_eq_true rfl]
      refine iteF ?_
      -- behind the loop
      have hA : A1 ≠ [] := I.ne.elim id fun z => absurd rfl z
      have hl := row_last I.r1.1 hpos hA
      refine ⟨.int p, rfl, .ref t1, rfl, t1, _, 0, .ref a1, rfl, rfl, .of (s0 _ _ h1), rfl, 1, rfl, a1, _, -1, _, rfl, rfl, .of (s0 _ _ ha1), at_neg (List.length_pos_iff.mpr hA), p, _, rfl, hp, hl.1, hl.2.1, hl.2.2, fun G1 t sG1 t0 t1' td => ?_⟩
      have sm1 := smG.trans sG1
      have s01 := s0.trans sG1
      refine ⟨.int p, rfl, .ref t1, rfl, t1, _, 0, .ref a1, rfl, rfl, .of (s01 _ _ h1), rfl, .int t, rfl, p, a1, A1, t, rfl, hp, s01 _ _ ha1, I.r1.1, by omega, fun G2 x1 sG2 nx1 hx1 => ?_⟩
      have sm2 := sm1.trans sG2
      have s02 := s01.trans sG2
      have nx1H := sm1.free nx1
      obtain ⟨rg, mg', ⟨wa, ewa⟩, ⟨wb, ewb⟩, egg⟩ := Pl.minv_fin hp.prm I td
      have zg := Pl.rowL_smul_len p t A1
      generalize hg : Pl.rowL p (Pl.smulL t A1) = g at rg mg' ewa ewb egg hx1 zg
      have gne : g ≠ [] := fun z => mg'.ne hp.prm (by rw [z, Pl.Poly.zero_nil])
      -- cofactors
      refine ⟨.ref a, rfl, .ref b, rfl, (by show 2 ≤ sizeLine; decide), fun d1 nd1 => ?_⟩
      obtain ⟨sd1, ed1⟩ := new_st (o := .tup [.ref a, .ref b]) nd1
      generalize upd G2 d1 (.tup [.ref a, .ref b]) = G3 at sd1 ed1 ⊢
      have sm3 := sm2.trans sd1
      have s03 := s02.trans sd1
      have hx13 := sd1 _ _ hx1
      refine ⟨d1, rfl, ⟨_, .of ed1⟩, fun D hD => lc_tup (K := K) (a := d1) (xs := [.ref a, .ref b]) (fun i G => Same G3 G ∧ ∃ cs : List (Addr × List Int), cs.length = i ∧ G D = some (.lst (cs.map fun c => V.ref c.1)) ∧
          ∀ j c, cs[j]? = some c → G3 c.1 = none ∧ Ls G c.1 c.2 ∧ Pl.IsRow p c.2 ∧ Pl.mk p (if j = 0 then la else lb) = Pl.mk p g * Pl.mk p c.2) ⟨same_new (Same.refl _) hD, [], rfl, upd_same, fun j c h => by simp at h⟩ (fun i G _ h => .of (h.1 _ _ ed1)) ?_ ?_⟩
      · rintro i x G hx ⟨sG, cs, zc, hDs, hcs⟩
        have hi : i < 2 := (List.getElem?_eq_some_iff.mp hx).1
        have cs2 : cs.length < sizeLine := small_line (by omega)
        -- one of both
        obtain ⟨ad, l, rfl, had, rl, zl, ⟨wl, ewl⟩, hif⟩ : ∃ (ad : Addr) (l : List Int), x = .ref ad ∧ Ls H ad l ∧ Pl.IsRow p l ∧ l.length ≤ 4000 ∧ (∃ wl, Pl.mk p l = Pl.mk p g * wl) ∧ l = if i = 0 then la else lb := by
          match i, hi, hx with
          | 0, _, hx => exact ⟨a, la, (Option.some.inj hx).symm, ha, ra, za, ⟨wa, ewa⟩, rfl⟩
          | 1, _, hx => exact ⟨b, lb, (Option.some.inj hx).symm, hb, rb, zb, ⟨wb, ewb⟩, rfl⟩
        refine ⟨rfl, .int p, rfl, .ref ad, rfl, .ref x1, rfl, p, ad, x1, l, g, rfl, hp, sG _ _ (sm3 _ _ had), sG _ _ hx13, rl, rg, gne, by omega, by omega, fun G' t' x y qq rr sG' nt nx ny hxy hqx hry ht rq rrr ee lr lq => ?_⟩
        refine ⟨t', _, 0, .ref x, rfl, rfl, .of ht, rfl, _, sG' _ _ hDs, by rw [List.length_map]; exact cs2, ?_, cs ++ [(x, qq)], by rw [List.length_append, zc]; rfl, by rw [upd_same, List.map_append]; rfl, fun j c hj => ?_⟩
        · exact same_mut (sG.trans sG') hD
        · have ex := Pl.tk_exact hp.prm rg rrr ewl ee lr
          have xD : x ≠ D := fun z => by
            rw [z, hDs] at nx
            cases nx
          rw [List.getElem?_append] at hj
          split at hj
          · obtain ⟨k1, k2, k3, k4⟩ := hcs j c hj
            refine ⟨k1, ?_, k3, k4⟩
            show upd _ _ _ _ = _
            have cD : c.1 ≠ D := fun z => by
              rw [z] at k2
              have k2' : G D = some (.lst (c.2.map V.int)) := k2
              rw [hDs] at k2'
              injection k2' with k5
              injection k5 with k6
              have := congrArg List.head? k6
              cases cs with
              | nil => simp at hj
              | cons c0 cr =>
                cases hc2 : c.2 with
                | nil => rw [hc2] at this; simp at this
                | cons z1 z2 => rw [hc2] at this; simp at this
            rw [upd_ne cD]
            exact sG' _ _ k2
          · have hj0 : j - cs.length = 0 := by
              cases hjj : j - cs.length with
              | zero => rfl
              | succ n => rw [hjj] at hj; simp at hj
            rw [hj0] at hj
            have ec : (x, qq) = c := Option.some.inj hj
            subst ec
            refine ⟨sG.free nx, ?_, rq, ?_⟩
            · show upd _ _ _ _ = _
              rw [upd_ne xD]
              exact hqx
            · have ej : j = i := by omega
              rw [ej, ← hif]
              exact ex
      · rintro G4 ⟨sG4, cs, zc, hDs, hcs⟩
        obtain ⟨c0, c1', rfl⟩ : ∃ c0 c1, cs = [c0, c1] := by
          match cs, zc with
          | [c0, c1], _ => exact ⟨c0, c1, rfl⟩
        obtain ⟨k0n, k0, k0r, k0e⟩ := hcs 0 c0 rfl
        obtain ⟨k1n, k1, k1r, k1e⟩ := hcs 1 c1' rfl
        rw [if_pos rfl] at k0e
        rw [if_neg (by omega)] at k1e
        have sm4' := sm3.trans sG4
        have s04 := s03.trans sG4
        -- makers
        refine ⟨.ref t1, rfl, 1, rfl, t1, _, rfl, .of (s04 _ _ h1), ?_, fun d2 nd2 => ?_⟩
        · rintro ⟨z, _⟩
          have z' : HT.sIx 3 0 (some 1) = 0 := z
          exact absurd z' (by decide)
        obtain ⟨sd2, ed2⟩ := new_st (o := .tup (cutV [V.ref a1, .ref b1, .ref c1] (some 1) none)) nd2
        generalize upd G4 d2 (.tup (cutV [V.ref a1, .ref b1, .ref c1] (some 1) none)) = G5 at sd2 ed2 ⊢
        have ecut : cutV [V.ref a1, .ref b1, .ref c1] (some 1) none = [.ref b1, .ref c1] := rfl
        rw [ecut] at ed2
        have sm5 := sm4'.trans sd2
        have s05 := s04.trans sd2
        refine ⟨d2, rfl, ⟨_, .of ed2⟩, fun D2 hD2 => lc_tup (K := K) (a := d2) (xs := [.ref b1, .ref c1]) (fun i G => Same G5 G ∧ ∃ cs : List (Addr × List Int), cs.length = i ∧ G D2 = some (.lst (cs.map fun c => V.ref c.1)) ∧ cs.Pairwise (fun x y => x.1 ≠ y.1) ∧
            ∀ j c, cs[j]? = some c → G5 c.1 = none ∧ c.1 ≠ D2 ∧ Ls G c.1 c.2 ∧ c.2 = Pl.rowL p (Pl.smulL t (if j = 0 then B1 else C1))) ⟨same_new (Same.refl _) hD2, [], rfl, upd_same, List.Pairwise.nil, fun j c h => by simp at h⟩ (fun i G _ h => .of (h.1 _ _ ed2)) ?_ ?_⟩
        · rintro i x G hx ⟨sG, cs, zc, hDs2, hpw, hcs⟩
          have hi : i < 2 := (List.getElem?_eq_some_iff.mp hx).1
          obtain ⟨ad, l, rfl, had, rl, zl, hif⟩ : ∃ (ad : Addr) (l : List Int), x = .ref ad ∧ Ls G5 ad l ∧ Pl.IsRow p l ∧ l.length ≤ 10000 ∧ l = if i = 0 then B1 else C1 := by
            match i, hi, hx with
            | 0, _, hx => exact ⟨b1, B1, (Option.some.inj hx).symm, s05 _ _ hb1, I.r1.2.1, by omega, rfl⟩
            | 1, _, hx => exact ⟨c1, C1, (Option.some.inj hx).symm, s05 _ _ hc1, I.r1.2.2, by omega, rfl⟩
          refine ⟨rfl, .int p, rfl, .ref ad, rfl, .int t, rfl, p, ad, l, t, rfl, hp, sG _ _ had, rl, zl, fun G' x sG' nx hx2 => ?_⟩
          have xD : x ≠ D2 := fun z => by
            rw [z, hDs2] at nx
            cases nx
          refine ⟨_, sG' _ _ hDs2, by rw [List.length_map]; exact small_line (by omega), same_mut (sG.trans sG') hD2, cs ++ [(x, Pl.rowL p (Pl.smulL t l))], by rw [List.length_append, zc]; rfl, by rw [upd_same, List.map_append]; rfl, ?_, fun j c hj => ?_⟩
          · rw [List.pairwise_append]
            refine ⟨hpw, List.pairwise_singleton _ _, fun y hy z hz => ?_⟩
            have ez : z = (x, Pl.rowL p (Pl.smulL t l)) := by simpa using hz
            subst ez
            obtain ⟨jy, hjy⟩ := List.mem_iff_getElem?.mp hy
            obtain ⟨_, _, k2, _⟩ := hcs jy y hjy
            exact ne_of_none k2 nx
          · rw [List.getElem?_append] at hj
            split at hj
            · obtain ⟨k1, k2, k3, k4⟩ := hcs j c hj
              refine ⟨k1, k2, ?_, k4⟩
              show upd _ _ _ _ = _
              rw [upd_ne k2]
              exact sG' _ _ k3
            · have hj0 : j - cs.length = 0 := by
                cases hjj : j - cs.length with
                | zero => rfl
                | succ n => rw [hjj] at hj; simp at hj
              rw [hj0] at hj
              have ec : (x, Pl.rowL p (Pl.smulL t l)) = c := Option.some.inj hj
              subst ec
              refine ⟨sG.free nx, xD, ?_, ?_⟩
              · show upd _ _ _ _ = _
                rw [upd_ne xD]
                exact hx2
              · have ej : j = i := by omega
                rw [ej, ← hif]
        · rintro G6 ⟨sG6, cs2, zc2, hDs2, hpw, hcs2⟩
          obtain ⟨m0, m1, rfl⟩ : ∃ c0 c1, cs2 = [c0, c1] := by
            match cs2, zc2 with
            | [c0, c1], _ => exact ⟨c0, c1, rfl⟩
          obtain ⟨j0n, _, j0, j0e⟩ := hcs2 0 m0 rfl
          obtain ⟨j1n, _, j1, j1e⟩ := hcs2 1 m1 rfl
          rw [if_pos rfl] at j0e
          rw [if_neg (by omega)] at j1e
          have s46 := sd2.trans sG6
          have hDs6 := s46 _ _ hDs
          refine ⟨.ref x1, rfl, .ref D, rfl, D, _, 0, .ref c0.1, rfl, rfl, .of hDs6, rfl, .ref D, rfl, D, _, 1, .ref c1'.1, rfl, rfl, .of hDs6, rfl, .ref D2, rfl, D2, _, 0, .ref m0.1, rfl, rfl, .of hDs2, rfl, .ref D2, rfl, D2, _, 1, .ref m1.1, rfl, rfl, .of hDs2, rfl,
            (by show 5 ≤ sizeLine; decide), fun t' nt => ?_⟩
          obtain ⟨st, et⟩ := new_st (o := .tup [.ref x1, .ref c0.1, .ref c1'.1, .ref m0.1, .ref m1.1]) nt
          have smE := sm5.trans sG6
          have ne : m0.1 ≠ m1.1 := (List.pairwise_cons.mp hpw).1 m1 (List.mem_singleton.mpr rfl)
          refine q _ t' x1 c0.1 c1'.1 m0.1 m1.1 g c0.2 c1'.2 m0.2 m1.2 (smE.trans st) (smE.free nt) nx1H (sm3.free k0n) (sm3.free k1n) (sm5.free j0n) (sm5.free j1n) ne et (st _ _ (s46 _ _ (sG4 _ _ hx13))) (st _ _ (s46 _ _ k0)) (st _ _ (s46 _ _ k1)) (st _ _ j0) (st _ _ j1)
            ⟨rg, k0r, k1r, mg', k0e, k1e, ⟨_, _, egg⟩⟩ ?_ ?_ ?_ ?_ ?_
          · rw [j0e]; exact Pl.rowL_row hpos _
          · rw [j1e]; exact Pl.rowL_row hpos _
          · rw [j0e, j1e]; exact egg
          · rw [j0e]
            have := Pl.rowL_smul_len p t B1
            omega
          · rw [j1e]
            have := Pl.rowL_smul_len p t C1
            omega
    · rw [decide_eq_false c]
      refine iteT ?_
      refine ⟨fun σ' G => ∃ (t3 : Addr) (y5 y6 y7 y8 : Option V) (A3 B3 C3 : List Int), σ' = [some (.int p), some (.ref a), some (.ref b), some (.ref t2), some (.ref t3), y5, y6, y7, y8, none, none, none, none, none] ∧ Same H G ∧ Tri G t2 A2 B2 C2 ∧ Tri G t3 A3 B3 C3 ∧ Pl.MInv p la lb A2 B2 C2 A3 B3 C3 ∧ A3.length < A2.length, ?_, ?_⟩
      · rintro σ' G ⟨t3, y5, y6, y7, y8, A3, B3, C3, e, sG, k1, k2, k3, k4⟩
        exact ⟨A3.length, k4, t2, t3, y5, y6, y7, y8, A2, B2, C2, A3, B3, C3, rfl, e, sG, k1, k2, k3⟩
      · -- pair
        refine ⟨.int p, rfl, .ref t1, rfl, t1, _, 0, .ref a1, rfl, rfl, .of (s0 _ _ h1), rfl, .ref t2, rfl, t2, _, 0, .ref a2, rfl, rfl, .of (s0 _ _ h2), rfl, p, a1, a2, A1, A2, rfl, hp, s0 _ _ ha1, s0 _ _ ha2, I.r1.1, I.r2.1, c, by omega, by omega,
          fun G1 tp xq xr Q1 R1 sG1 ntp nxq nxr nqr hq1 hr1 htp rq1 rr1 ee lr lq => ?_⟩
        have s01 := s0.trans sG1
        -- less
        refine ⟨.int p, rfl, .ref tp, rfl, tp, _, 0, .ref xq, rfl, rfl, .of htp, rfl, 1, rfl, p, xq, Q1, -1, rfl, hp, hq1, rq1, by omega, fun G2 xl sG2 nxl hxl => ?_⟩
        have s02 := s01.trans sG2
        have rl := Pl.rowL_row hpos (Pl.smulL (-1) Q1)
        have zl := Pl.rowL_smul_len p (-1) Q1
        -- left
        refine ⟨.int p, rfl, .ref t1, rfl, t1, _, 1, .ref b1, rfl, rfl, .of (s02 _ _ h1), rfl, .int p, rfl, .ref xl, rfl, .ref t2, rfl, t2, _, 1, .ref b2, rfl, rfl, .of (s02 _ _ h2), rfl, p, xl, b2, _, B2, rfl, hp, hxl, s02 _ _ hb2, rl, I.r2.2.1, by omega, by omega, fun G3 xm sG3 nxm hxm => ?_⟩
        have s03 := s02.trans sG3
        have rm := Pl.rowL_row hpos (Pl.mulL (Pl.rowL p (Pl.smulL (-1) Q1)) B2)
        have zm := Pl.rowL_mul_len hpos rl I.r2.2.1
        refine ⟨p, b1, xm, B1, _, 1, rfl, hp, s03 _ _ hb1, hxm, I.r1.2.1, rm, by omega, by omega, fun G4 xL sG4 nxL hxL => ?_⟩
        have s04 := s03.trans sG4
        have hxl4 := sG4 _ _ (sG3 _ _ hxl)
        -- right
        refine ⟨.int p, rfl, .ref t1, rfl, t1, _, 2, .ref c1, rfl, rfl, .of (s04 _ _ h1), rfl, .int p, rfl, .ref xl, rfl, .ref t2, rfl, t2, _, 2, .ref c2, rfl, rfl, .of (s04 _ _ h2), rfl, p, xl, c2, _, C2, rfl, hp, hxl4, s04 _ _ hc2, rl, I.r2.2.2, by omega, by omega, fun G5 xn sG5 nxn hxn => ?_⟩
        have s05 := s04.trans sG5
        have rn := Pl.rowL_row hpos (Pl.mulL (Pl.rowL p (Pl.smulL (-1) Q1)) C2)
        have zn := Pl.rowL_mul_len hpos rl I.r2.2.2
        refine ⟨p, c1, xn, C1, _, 1, rfl, hp, s05 _ _ hc1, hxn, I.r1.2.2, rn, by omega, by omega, fun G6 xR sG6 nxR hxR => ?_⟩
        have s06 := s05.trans sG6
        have s16 := sG2.trans (sG3.trans (sG4.trans (sG5.trans sG6)))
        -- first = second; second
        refine ⟨.ref t2, rfl, .ref tp, rfl, tp, _, 1, .ref xr, rfl, rfl, .of (s16 _ _ htp), rfl, .ref xL, rfl, .ref xR, rfl, (by show 3 ≤ sizeLine; decide), fun t3 n3 => ?_⟩
        obtain ⟨st, et⟩ := new_st (o := .tup [.ref xr, .ref xL, .ref xR]) n3
        exact ⟨t3, some (.ref tp), some (.ref xl), some (.ref xL), some (.ref xR), _, _, _, rfl, sm.trans (s06.trans st), ⟨a2, b2, c2, st _ _ (s06 _ _ h2), st _ _ (s06 _ _ ha2), st _ _ (s06 _ _ hb2), st _ _ (s06 _ _ hc2)⟩,
          ⟨xr, xL, xR, et, st _ _ (s16 _ _ hr1), st _ _ (sG6 _ _ (sG5 _ _ hxL)), st _ _ hxR⟩, Pl.minv_step hp.prm I c rq1 rr1 ee lr lq, lr⟩
end
end Kp
-- W5
set_option Elab.async false
set_option linter.all false
set_option maxRecDepth 100000
set_option maxHeartbeats 4000000
namespace Kp
open PySem PySem.Spec PyProof.Rows L2
theorem bo_isin : bootBuiltins "isinstance" = some (.builtin "isinstance") := by decide +kernel
theorem bo_bool : bootBuiltins "bool" = some (.type "bool") := by decide +kernel
theorem bo_range : bootBuiltins "range" = some (.type "range") := by decide +kernel
theorem kii : kitB "int" "int" = some true := by decide +kernel
theorem kib : kitB "int" "bool" = some false := by decide +kernel
theorem kll : kitB "list" "list" = some true := by decide +kernel
theorem ktt : kitB "tuple" "tuple" = some true := by decide +kernel
theorem prm_ndvd {p : Nat} (h : Pl.Prm p) {b : Int} (h2 : 2 ≤ b) (hb : b < p) : ¬ (p : Int) % b = 0 := fun e => by
  obtain ⟨m, em⟩ := Int.dvd_of_emod_eq_zero e
  have hp := h.pos
  rcases h.dv b m ⟨1, by rw [← em]; omega⟩ with z | z
  · have := Int.le_of_dvd (by omega) z
    omega
  · obtain ⟨x, ex⟩ := z
    rw [ex] at em
    have e3 : (p : Int) * (b * x) = p * 1 := by rw [Int.mul_one]; grind
    have e4 := Int.eq_of_mul_eq_mul_left (by omega) e3
    have h5 : b ∣ 1 := ⟨x, e4.symm⟩
    have h6 := Int.eq_one_of_dvd_one (by omega) h5
    omega
/-- a def of the text called where an exception is handled -/
theorem fun_okH {P : Program} {w : World} {K : PySem.W.Frag} {mg : Str → Option Value} {base : Heap} {x qual : Str} {st : Stmt} {f : Addr} {fd : FuncData} {N ps : List Str} {k : Nat} {sp : Sp} (F : Fun K x qual st f fd) (S : FnScope N ps (defScope st)) (len : ∀ vs H Q E, sp vs H Q E → vs.length = ps.length)
    (hbody : ∀ (cdv : Value) (A : Around) (outer : List Env) (s : Shared) (H : Hp) (vs : List V) (Q : VK) (E : XK) (p : Addr × Obj), L2H.RoomH k (A.deeper (envOfC qual (defScope st) s.heap.objs.size f cdv)) → L2H.HotC (L2H.cxH CX0 P w K mg base N qual (defScope st) f cdv A outer s H E p).nox → sp vs H Q E →
      ∃ t, PSs (L2H.cxH CX0 P w K mg base N qual (defScope st) f cdv A outer s H E p).nox (defBody st) t ∧ t { nx := fun _ H' => Q .non H', rt := Q } (L2.start N vs) H) : L2H.FnH P w K mg base CX0 (k + 1) f fd ps sp := by
  obtain ⟨oc, od, kV, doc, pm, an, cdv, ct, osl, rfl, lk, hcd⟩ := F.ex
  refine L2H.fn_ofH lk hcd S len fun A outer s H vs Q E p hot hr hsp => ?_
  obtain ⟨t, h, q⟩ := hbody cdv A outer s H vs Q E p hr ⟨p, hot, List.mem_singleton.mpr rfl⟩ hsp
  exact ⟨t, h.nox, q⟩
theorem hot_units {k : Nat} {A : Around} (r : L2H.RoomH k A) : A.units + 64 < cLine := by have := r.un; omega
theorem pi_range2H {X : Cx} {tg a b : Expr} {ta : TA} {p pos : Pos} (hg : Gl X "range") (hm : X.mg "range" = none) (ha : PA X [a, b] ta) (hs : starEach [a, b] X.env = [(false, eval a X.env), (false, eval b X.env)] := by rfl) (hs2 : starEach [b] X.env = [(false, eval b X.env)] := by rfl) :
    L2H.PIH X tg (.Call (.Name "range" p) [a, b] [] pos) (iRng2 ta) := by
  refine ⟨fun pins s σ H R I h => ?_⟩
  refine Call_ (ld_blt I hg hm bo_range (PyProof.Rows.callWith_type1 (thn (ha.run pos pins s σ H _ I h) fun us s1 ⟨vs, H1, I1, r1, q1⟩ => ?_) (by rw [hs, hs2]) (by rw [hs2]; rfl)))
  obtain ⟨i, j, e, ⟨q1, q2, q3, q4⟩, q⟩ := q1
  subst e
  cases r1 with
  | cons r rr =>
    cases rr with
    | cons r' rr =>
      cases rr
      obtain ⟨t, rfl⟩ := r
      obtain ⟨t', rfl⟩ := r'
      exact call_range_2 (L2H.range_itH I1 q1 q2 q3 q4 q)
theorem pass0H {X : Cx} {E : L2.St → XK} : ∀ σ, PassesAt CX0 X σ (E σ) := fun _ _ _ _ _ _ _ h => h.elim

section
variable {P : Program} {w : World} {K : PySem.W.Frag} {mg : Str → Option Value} {base : Heap}
/-! ### is_prime -/
abbrev sIsPrime : Stmt := topS 7
theorem scIsPrime : FnScope ["thing", "by"] ["thing"] (defScope sIsPrime) := ⟨rfl, rfl, rfl, by decide +kernel, rfl, by decide +kernel, by decide +kernel⟩
def spIsPrime : Sp := fun vs H Q _ => ∃ p : Nat, vs = [.int p] ∧ Pm p ∧ Q (.bl true) H
def rLe : R2 := rI0 fun i j => .bl (decide (i ≤ j))
def rLt : R2 := rI0 fun i j => .bl (decide (i < j))
def rMod : R2 := rI (fun _ j => 0 < j) fun i j => .int (i % j)
/-- the body's reading, calm or not -/
def tIsPrime (K : PySem.W.Frag) : TS :=
  tSeq (tIfS (tOr (tNot (tB (tCB (rIsi K) (tCons (tVar 0) (tCons (tC (.ty "int")) tNil))))) (tOr (tB (tCB (rIsi K) (tCons (tVar 0) (tCons (tC (.ty "bool")) tNil)))) (tNot (tTest (tChain rLe rLe (tC (.int 2)) (tVar 0) (tC (.int 997))))))) (tRet (tC (.bl false))) tNext)
    (tSeq (tFor (iRng2 (tCons (tC (.int 2)) (tCons (tC (.int 32)) tNil))) (gName 1) (tIfS (tAnd (tTest (tOp rLt (tVar 1) (tVar 0))) (tTest (tOp rEq (tOp rMod (tVar 0) (tVar 1)) (tC (.int 0))))) (tRet (tC (.bl false))) tNext))
      (tRet (tC (.bl true))))
theorem rd_is_prime {p : Nat} {H : Hp} {Q : VK} (hp : Pm p) (q : Q (.bl true) H) : tIsPrime K { nx := fun _ H' => Q .non H', rt := Q } [some (.int p), none] H := by
  have h2 := hp.two
  have hle := hp.le
  refine ⟨.int p, rfl, .int p, .ty "int", _, _, true, rfl, .ty "int", .base (.int _), kit_ty kii, _, rfl, iteF ?_⟩
  refine ⟨.int p, rfl, .int p, .ty "bool", _, _, false, rfl, .ty "bool", .base (.int _), kit_ty kib, _, rfl, iteF ?_⟩
  refine ⟨.int p, rfl, _, _, rfl, rfl, _, rfl, ?_⟩
  rw [decide_eq_true (show (2 : Int) ≤ p by omega)]
  refine iteT ⟨_, _, rfl, rfl, _, rfl, ?_⟩
  rw [decide_eq_true (show (p : Int) ≤ 997 by omega)]
  refine iteF ?_
  refine ⟨2, 32, rfl, ⟨by decide, by decide, by decide, by decide⟩, for_range (lo := 2) (n := 30) (fun i σ H' => ∃ y, σ = [some (.int p), y] ∧ H' = H) ⟨none, rfl, rfl⟩ ?_ ?_⟩
  · rintro i σ H' hi ⟨y, rfl, rfl⟩
    refine ⟨.int (2 + (i : Nat)), rfl, .int p, rfl, _, _, rfl, rfl, _, rfl, ite2 (fun c => ?_) (fun c => ?_)⟩
    · have c' : (2 : Int) + i < p := of_decide_eq_true c
      refine ⟨.int p, rfl, .int (2 + (i : Nat)), rfl, _, _, rfl, rfl, by show (0 : Int) < 2 + (i : Nat); omega, rfl, _, rfl, ?_⟩
      have hn := prm_ndvd hp.prm (b := 2 + (i : Nat)) (by omega) c'
      rw [decide_eq_false (fun z => hn (V.int.inj z))]
      exact iteF ⟨_, rfl, rfl⟩
    · exact iteF ⟨_, rfl, rfl⟩
  · rintro σ H' ⟨y, rfl, rfl⟩
    exact q
theorem ok_is_prime {f : Addr} {fd : FuncData} {k : Nat} {tk : Tok} (F : Fun K "is_prime" "is_prime" sIsPrime f fd) (T : Bt mg) (gN : mg "GREATEST_PRIME" = some (.int 997 tk)) : FnOk P w K mg base CX0 (k + 1) f fd ["thing"] spIsPrime := by
  refine F.ok scIsPrime (fun vs H Q E h => ?_) (fun cdv A outer s H vs Q E hr h => ?_)
  · obtain ⟨p, rfl, _⟩ := h
    rfl
  · obtain ⟨p, rfl, hp, q⟩ := h
    refine ⟨tIsPrime K, ?_, rd_is_prime hp q⟩
    exact pss_cons (ps_if (PW.pt (pw_or (pt_not (pt_val (pe_callB call_isi (by rfl) T.isin bo_isin (pa_cons (pv 0) (pa_cons (pe_bltn (v := .ty "int") (by rfl) T.int bo_int rfl) pa_nil)))))
        (pw_or (pt_val (pe_callB call_isi (by rfl) T.isin bo_isin (pa_cons (pv 0) (pa_cons (pe_bltn (v := .ty "bool") (by rfl) T.bool bo_bool rfl) pa_nil))))
          (pw_or1 (pt_not (pt_chain op_le op_le pe_int (pv 0) (pe_glob (v := .int 997) (by rfl) gN ⟨_, rfl⟩))))))) (pss_one (ps_ret pe_bl)) pss_nil)
      (pss_cons (ps_for PassesOwn.never rfl (pi_range2 (by rfl) T.range (pa_cons pe_int (pa_cons pe_int pa_nil))) (pg_name (i := 1) scIsPrime.nd rfl (.inl rfl))
        (pss_one (ps_if (PW.pt (pw_and (pt_cmpR op_lt (pv 1) (pv 0) (nomark _)) (pw_and1 (pt_cmpR op_eq (pe_op op_mod (pv 0) (pv 1)) pe_int (nomark _))))) (pss_one (ps_ret pe_bl)) pss_nil)))
      (pss_one (ps_ret pe_bl)))
theorem okH_is_prime {f : Addr} {fd : FuncData} {k : Nat} {tk : Tok} (F : Fun K "is_prime" "is_prime" sIsPrime f fd) (T : Bt mg) (gN : mg "GREATEST_PRIME" = some (.int 997 tk)) : L2H.FnH P w K mg base CX0 (k + 1) f fd ["thing"] spIsPrime := by
  refine fun_okH F scIsPrime (fun vs H Q E h => ?_) (fun cdv A outer s H vs Q E pp hr hot h => ?_)
  · obtain ⟨p, rfl, _⟩ := h
    rfl
  · obtain ⟨p, rfl, hp, q⟩ := h
    refine ⟨tIsPrime K, ?_, rd_is_prime hp q⟩
    exact pss_cons (ps_if (PW.pt (pw_or (pt_not (pt_val (pe_callB call_isi (by rfl) T.isin bo_isin (pa_cons (pv 0) (pa_cons (pe_bltn (v := .ty "int") (by rfl) T.int bo_int rfl) pa_nil)))))
        (pw_or (pt_val (pe_callB call_isi (by rfl) T.isin bo_isin (pa_cons (pv 0) (pa_cons (pe_bltn (v := .ty "bool") (by rfl) T.bool bo_bool rfl) pa_nil))))
          (pw_or1 (pt_not (pt_chain op_le op_le pe_int (pv 0) (pe_glob (v := .int 997) (by rfl) gN ⟨_, rfl⟩))))))) (pss_one (ps_ret pe_bl)) pss_nil)
      (pss_cons (L2H.ps_forH PassesOwn.never hot (pi_range2H (by rfl) T.range (pa_cons pe_int (pa_cons pe_int pa_nil))) (pg_name (i := 1) scIsPrime.nd rfl (.inl rfl))
        (pss_one (ps_if (PW.pt (pw_and (pt_cmpR op_lt (pv 1) (pv 0) (nomark _)) (pw_and1 (pt_cmpR op_eq (pe_op op_mod (pv 0) (pv 1)) pe_int (nomark _))))) (pss_one (ps_ret pe_bl)) pss_nil)))
      (pss_one (ps_ret pe_bl)))
/-! ### is_ring, sure_prime -/
abbrev sIsRing : Stmt := topS 8
theorem scIsRing : FnScope ["thing"] ["thing"] (defScope sIsRing) := ⟨rfl, rfl, rfl, by decide +kernel, rfl, by decide +kernel, by decide +kernel⟩
def tIsRing (K : PySem.W.Frag) (tc : TE) : TS :=
  tRet (tAndV (tCB (rIsi K) (tCons (tVar 0) (tCons (tC (.ty "int")) tNil))) (tAndV (tNotV (tCB (rIsi K) (tCons (tVar 0) (tCons (tC (.ty "bool")) tNil)))) (tOrV (tOp rEq (tVar 0) (tC (.int 0))) tc)))
theorem rd_is_ring {p : Nat} {H : Hp} {Q : VK} {tc : TE} (hp : Pm p) (hc : tc [some (.int p)] H Q) : tIsRing K tc { nx := fun _ H' => Q .non H', rt := Q } [some (.int p)] H := by
  have h2 := hp.two
  refine ⟨.int p, rfl, .int p, .ty "int", _, _, true, rfl, .ty "int", .base (.int _), kit_ty kii, _, rfl, iteT ?_⟩
  refine ⟨.int p, rfl, .int p, .ty "bool", _, _, false, rfl, .ty "bool", .base (.int _), kit_ty kib, _, rfl, _, rfl, iteT ?_⟩
  refine ⟨.int p, rfl, rfl, _, rfl, ?_⟩
  rw [decide_eq_false (fun z => by have := V.int.inj z; omega)]
  exact iteF hc
theorem ok_is_ring {f fP : Addr} {fd fdP : FuncData} {k : Nat} (F : Fun K "is_ring" "is_ring" sIsRing f fd) (T : Bt mg) (GP : FnOk P w K mg base CX0 k fP fdP ["thing"] spIsPrime) (kP : PySem.W.keepIn K (.ref fP) = true) (bP : Binds K fdP ["thing"] []) (gP : mg "is_prime" = some (.ref fP)) :
    FnOk P w K mg base CX0 (k + 1) f fd ["thing"] spIsPrime := by
  refine F.ok scIsRing (fun vs H Q E h => ?_) (fun cdv A outer s H vs Q E hr h => ?_)
  · obtain ⟨p, rfl, _⟩ := h
    rfl
  · obtain ⟨p, rfl, hp, q⟩ := h
    refine ⟨tIsRing K (tCall spIsPrime [] E0 (tCons (tVar 0) tNil)), ?_, rd_is_ring hp ⟨.int p, rfl, p, rfl, hp, q⟩⟩
    exact pss_one (ps_ret (pe_and (pe_callB call_isi (by rfl) T.isin bo_isin (pa_cons (pv 0) (pa_cons (pe_bltn (v := .ty "int") (by rfl) T.int bo_int rfl) pa_nil)))
      (pe_and (pe_not (pe_callB call_isi (by rfl) T.isin bo_isin (pa_cons (pv 0) (pa_cons (pe_bltn (v := .ty "bool") (by rfl) T.bool bo_bool rfl) pa_nil)))) (pe_one (pe_or (pe_cmpR op_eq (pv 0) pe_int (nomark _)) (pe_one (pe_call GP hr (by rfl) gP kP bP .nil pass0 (pa_cons (pv 0) pa_nil))))))))
theorem okH_is_ring {f fP : Addr} {fd fdP : FuncData} {k : Nat} (F : Fun K "is_ring" "is_ring" sIsRing f fd) (T : Bt mg) (GP : L2H.FnH P w K mg base CX0 k fP fdP ["thing"] spIsPrime) (kP : PySem.W.keepIn K (.ref fP) = true) (bP : Binds K fdP ["thing"] []) (gP : mg "is_prime" = some (.ref fP)) :
    L2H.FnH P w K mg base CX0 (k + 1) f fd ["thing"] spIsPrime := by
  refine fun_okH F scIsRing (fun vs H Q E h => ?_) (fun cdv A outer s H vs Q E pp hr hot h => ?_)
  · obtain ⟨p, rfl, _⟩ := h
    rfl
  · obtain ⟨p, rfl, hp, q⟩ := h
    refine ⟨tIsRing K (tCallS spIsPrime (fun _ => E0) (tCons (tVar 0) tNil)), ?_, rd_is_ring hp ⟨.int p, rfl, p, rfl, hp, q⟩⟩
    exact pss_one (ps_ret (pe_and (pe_callB call_isi (by rfl) T.isin bo_isin (pa_cons (pv 0) (pa_cons (pe_bltn (v := .ty "int") (by rfl) T.int bo_int rfl) pa_nil)))
      (pe_and (pe_not (pe_callB call_isi (by rfl) T.isin bo_isin (pa_cons (pv 0) (pa_cons (pe_bltn (v := .ty "bool") (by rfl) T.bool bo_bool rfl) pa_nil)))) (pe_one (pe_or (pe_cmpR op_eq (pv 0) pe_int (nomark _)) (pe_one (L2H.pe_callH GP hr hot (by rfl) gP kP bP pass0H (pa_cons (pv 0) pa_nil))))))))
abbrev sSure : Stmt := topS 11
theorem scSure : FnScope ["prime"] ["prime"] (defScope sSure) := ⟨rfl, rfl, rfl, by decide +kernel, rfl, by decide +kernel, by decide +kernel⟩
def spSure : Sp := fun vs H Q _ => ∃ p : Nat, vs = [.int p] ∧ Pm p ∧ Q .non H
def tSure (tc : TE) : TS := tIfS (tOr (tNot (tB tc)) (tTest (tOp rEq (tVar 0) (tC (.int 0))))) tNever tNext
theorem rd_sure {p : Nat} {H : Hp} {Q : VK} {tc : TE} (hp : Pm p) (hc : ∀ Q' : VK, Q' (.bl true) H → tc [some (.int p)] H Q') (q : Q .non H) : tSure tc { nx := fun _ H' => Q .non H', rt := Q } [some (.int p)] H := by
  have h2 := hp.two
  refine hc _ ⟨_, rfl, iteF ?_⟩
  refine ⟨.int p, rfl, rfl, _, rfl, ?_⟩
  rw [decide_eq_false (fun z => by have := V.int.inj z; omega)]
  exact iteF q
theorem ok_sure {f fP : Addr} {fd fdP : FuncData} {k : Nat} (F : Fun K "sure_prime" "sure_prime" sSure f fd) (GP : FnOk P w K mg base CX0 k fP fdP ["thing"] spIsPrime) (kP : PySem.W.keepIn K (.ref fP) = true) (bP : Binds K fdP ["thing"] []) (gP : mg "is_ring" = some (.ref fP)) :
    FnOk P w K mg base CX0 (k + 1) f fd ["prime"] spSure := by
  refine F.ok scSure (fun vs H Q E h => ?_) (fun cdv A outer s H vs Q E hr h => ?_)
  · obtain ⟨p, rfl, _⟩ := h
    rfl
  · obtain ⟨p, rfl, hp, q⟩ := h
    refine ⟨tSure (tCall spIsPrime [] E0 (tCons (tVar 0) tNil)), ?_, rd_sure hp (fun Q' q' => ⟨.int p, rfl, p, rfl, hp, q'⟩) q⟩
    exact pss_one (ps_if (PW.pt (pw_or (pt_not (pt_val (pe_call GP hr (by rfl) gP kP bP .nil pass0 (pa_cons (pv 0) pa_nil)))) (pw_or1 (pt_cmpR op_eq (pv 0) pe_int (nomark _))))) pss_never pss_nil)
theorem okH_sure {f fP : Addr} {fd fdP : FuncData} {k : Nat} (F : Fun K "sure_prime" "sure_prime" sSure f fd) (GP : L2H.FnH P w K mg base CX0 k fP fdP ["thing"] spIsPrime) (kP : PySem.W.keepIn K (.ref fP) = true) (bP : Binds K fdP ["thing"] []) (gP : mg "is_ring" = some (.ref fP)) :
    L2H.FnH P w K mg base CX0 (k + 1) f fd ["prime"] spSure := by
  refine fun_okH F scSure (fun vs H Q E h => ?_) (fun cdv A outer s H vs Q E pp hr hot h => ?_)
  · obtain ⟨p, rfl, _⟩ := h
    rfl
  · obtain ⟨p, rfl, hp, q⟩ := h
    refine ⟨tSure (tCallS spIsPrime (fun _ => E0) (tCons (tVar 0) tNil)), ?_, rd_sure hp (fun Q' q' => ⟨.int p, rfl, p, rfl, hp, q'⟩) q⟩
    exact pss_one (ps_if (PW.pt (pw_or (pt_not (pt_val (L2H.pe_callH GP hr hot (by rfl) gP kP bP pass0H (pa_cons (pv 0) pa_nil)))) (pw_or1 (pt_cmpR op_eq (pv 0) pe_int (nomark _))))) pss_never pss_nil)
/-! ### alone, no_square of nought, where an exception is handled -/
abbrev sAlone : Stmt := topS 24
theorem scAlone : FnScope ["prime", "row", "found"] ["prime", "row"] (defScope sAlone) := ⟨rfl, rfl, rfl, by decide +kernel, rfl, by decide +kernel, by decide +kernel⟩
def spNought : Sp := fun vs H Q _ => ∃ (p : Nat) (a : Addr), vs = [.int p, .ref a] ∧ Pm p ∧ Ls H a [] ∧ ∀ H', Same H H' → Q .non H'
theorem okH_alone {f : Addr} {fd : FuncData} {k : Nat} (F : Fun K "alone" "alone" sAlone f fd) : L2H.FnH P w K mg base CX0 (k + 1) f fd ["prime", "row"] spNought := by
  refine fun_okH F scAlone (fun vs H Q E h => ?_) (fun cdv A outer s H vs Q E pp hr hot h => ?_)
  · obtain ⟨p, a, rfl, _⟩ := h
    rfl
  · obtain ⟨p, a, rfl, hp, ha, q⟩ := h
    refine ⟨_, pss_cons (ps_if (pt_cmpR (op_eqD (hot_units hr)) (pv 1) (pe_lst pa_nil) (nomark _)) (pss_one (ps_ret pe_non)) pss_nil) pss_never, ?_⟩
    refine ⟨.ref a, rfl, Nat.zero_le _, fun e0 n0 => ?_⟩
    obtain ⟨s0, ee0⟩ := new_st (o := .lst []) n0
    generalize upd H e0 (.lst []) = G0 at s0 ee0 ⊢
    refine ⟨dI [], dI [], dp_ls (l := []) (s0 _ _ ha), dp_ls (l := []) ee0, dI_shaped _, dI_shaped _, _, rfl, ?_⟩
    rw [dI_eqv, decide_eq_true rfl]
    exact iteT (q _ s0)
abbrev sNoSq : Stmt := topS 27
theorem scNoSq : FnScope ["prime", "row"] ["prime", "row"] (defScope sNoSq) := ⟨rfl, rfl, rfl, by decide +kernel, rfl, by decide +kernel, by decide +kernel⟩
theorem okH_nosq {f fS fA : Addr} {fd fdS fdA : FuncData} {k : Nat} (F : Fun K "no_square" "no_square" sNoSq f fd) (GS : L2H.FnH P w K mg base CX0 k fS fdS ["prime"] spSure) (kS : PySem.W.keepIn K (.ref fS) = true) (bS : Binds K fdS ["prime"] []) (gS : mg "sure_prime" = some (.ref fS))
    (GA : L2H.FnH P w K mg base CX0 k fA fdA ["prime", "row"] spNought) (kA : PySem.W.keepIn K (.ref fA) = true) (bA : Binds K fdA ["prime", "row"] []) (gA : mg "alone" = some (.ref fA)) :
    L2H.FnH P w K mg base CX0 (k + 1) f fd ["prime", "row"] spNought := by
  refine fun_okH F scNoSq (fun vs H Q E h => ?_) (fun cdv A outer s H vs Q E pp hr hot h => ?_)
  · obtain ⟨p, a, rfl, _⟩ := h
    rfl
  · obtain ⟨p, a, rfl, hp, ha, q⟩ := h
    refine ⟨_, pss_cons (ps_expr (L2H.pe_callH (E := fun _ => E0) GS hr hot (by rfl) gS kS bS pass0H (pa_cons (pv 0) pa_nil))) (pss_one (ps_ret (L2H.pe_callH (E := fun _ => E0) GA hr hot (by rfl) gA kA bA pass0H (pa_cons (pv 0) (pa_cons (pv 1) pa_nil))))), ?_⟩
    exact ⟨.int p, rfl, p, rfl, hp, .int p, rfl, .ref a, rfl, p, a, rfl, hp, ha, q⟩
end
end Kp
-- W6
set_option Elab.async false
set_option linter.all false
set_option maxRecDepth 100000
set_option maxHeartbeats 4000000
namespace Kp
open PySem PySem.Spec PyProof.Rows L2
/-! ### sorted(found, key=by_often) -/
abbrev sBy : Stmt := topS 25
theorem byBody : ∃ (p1 p2 p3 p4 : Pos) (j : Nat), defBody sBy = [Stmt.Return (some (.Subscript (.Name "pair" p1) (.Constant (.int 1) j p2) p3)) p4] := ⟨_, _, _, _, _, rfl⟩
theorem by_often_runs {prog : Program} {w : World} {A : Around} {K : PySem.W.Frag} {f : Addr} {fd : FuncData} (F : Fun K "by_often" "by_often" sBy f fd) (bF : Binds K fd ["pair"] []) {s : Shared} (X : K.In s.heap) (lim : s.heap.NoLimit) (hd : A.depth < recursionLimit)
    {tp : Addr} {its : Array Value} {n : Int} {t : Tok} (ht : IsTup s.heap tp its) (h1 : its[1]? = some (.int n t)) :
    wpAny (model prog w) A (call (.ref f) [.ref tp]) (PySem.W.KeyPure (.int n) s) (fun _ _ => False) s := by
  have hb := bF s [.ref tp] X rfl
  obtain ⟨oc, od, kV, doc, pm, an, cdv, ct, osl, rfl, lk, hcd⟩ := F.ex
  refine wpAny_call ?_
  refine Att.call_fn (binds := [("pair", .ref tp)]) X lim lk hcd hd hb (by rfl) (fun s1 IC => ?_) rfl rfl rfl
  obtain ⟨h₁, tk₁, rfl⟩ := IC.toInCall.same
  have k : ∀ b o, s.heap.get? b = some o → h₁.get? b = some o := IC.toInCall.keep
  have hn := IC.toInCall.ns
  obtain ⟨p1, p2, p3, p4, j, eb⟩ := byBody
  rw [eb]
  refine wpAny_execs_cons (wpAny_Return_some (Subscript_ ?_))
  refine wpAny_Name (wpAny_loadName_local (v := .ref tp) (by rfl) (by rfl) hn (by rfl) ?_) (by decide)
  refine wpAny_Constant_int ?_
  have ht1 : IsTup h₁ tp its := by
    obtain ⟨o, ho, hr⟩ := ht
    exact ⟨o, k _ _ ho, hr⟩
  have hi : 1 < its.size := (Array.getElem?_eq_some_iff.mp h1).1
  refine subscriptTail_builtinR (x := .int n t) ht1.typeIs slot_tuple_getitem.lookup (getItem_tuple (j := 1) ht1 (by decide) (by decide) ?_ h1 ⟨rfl, ?_⟩) rfl
  · exact seqIndex_of (by decide) (by omega)
  · exact ⟨_, _, rfl, k, .int n t⟩
/-- a found part: the pair's address, the row's address, the row, how often -/
abbrev El := Addr × Addr × List Int × Nat
def rSortedBy (K : PySem.W.Frag) (fB : Addr) : List V → List V → Hp → VK → Prop := fun vs zs H Q => ∃ (a : Addr) (ps : List El), vs = [V.ref a] ∧ zs = [V.ref fB] ∧ SqL K H a (ps.map fun x => V.ref x.1) ∧
  (∀ x ∈ ps, H x.1 = some (.tup [.ref x.2.1, .int (x.2.2.2 : Nat)])) ∧ ∀ (ps' : List El) (p : Addr), ps'.Perm ps → (ps'.Pairwise fun x y => x.2.2.2 ≤ y.2.2.2) → H p = none → Q (.ref p) (upd H p (.lst (ps'.map fun x => V.ref x.1)))
theorem vals_refs : ∀ {ps : List El} {us : List Value}, Vals (ps.map fun x => V.ref x.1) us → us = ps.map fun x => Value.ref x.1
  | [], _, .nil => rfl
  | x :: ps, _, .cons r t => by
    have e := vals_refs t
    rw [e]
    have e2 : _ = Value.ref x.1 := r
    rw [e2]; rfl
theorem refs_vals : ∀ ps : List El, Vals (ps.map fun x => V.ref x.1) (ps.map fun x => Value.ref x.1)
  | [] => .nil
  | x :: ps => .cons rfl (refs_vals ps)
theorem each_refs {R : Value → El → Prop} : ∀ {ps : List El}, (∀ x ∈ ps, R (.ref x.1) x) → PySem.W.EachIs R (ps.map fun x => Value.ref x.1) ps
  | [], _ => .nil
  | x :: ps, h => .cons (h x List.mem_cons_self) (each_refs fun y hy => h y (List.mem_cons_of_mem _ hy))
theorem refs_each {R : Value → El → Prop} (hR : ∀ v x, R v x → v = .ref x.1) : ∀ {out : List Value} {ps : List El}, PySem.W.EachIs R out ps → out = ps.map fun x => Value.ref x.1
  | _, _, .nil => rfl
  | _, _, .cons r t => by
    rw [hR _ _ r, refs_each hR t]; rfl
theorem cr_sortedBy {X : Cx} {fB : Addr} {fdB : FuncData} (F : Fun X.K "by_often" "by_often" sBy fB fdB) (bF : Binds X.K fdB ["pair"] []) (hd : X.A.in1.in1.depth < recursionLimit) (hu : X.A.units + 64 < cLine) :
    CallRK X (.builtin "sorted") [Str.ofString "key"] (rSortedBy X.K fB) := by
  intro pins s σ H vs zs us ws Q I r rz h
  obtain ⟨a, ps, rfl, rfl, hs, hx, q⟩ := h
  obtain rfl := Vals.ref1 r
  obtain ⟨w1, rfl, e1⟩ := vals1 rz
  obtain rfl : w1 = Value.ref fB := e1
  obtain ⟨its, rv, hl, hz⟩ := I.list hs
  have ei := vals_refs rv
  subst ei
  rw [List.length_map] at hz
  show wpAny (model X.prog X.w) X.A (call (.builtin "sorted") [.ref a] [(Str.ofString "key", .ref fB)]) (EP X pins σ Q) X.xe s
  refine PySem.W.sorted_key_data (β := El) (bs := ps) (b := false) (f := .ref fB) (R := fun v x => v = Value.ref x.1 ∧ ∃ (jts : Array Value) (t : Tok), IsTup s.heap x.1 jts ∧ jts[1]? = some (.int (x.2.2.2 : Nat) t)) (fun x => .int (x.2.2.2 : Nat)) hl.isList
    (each_refs fun x hm => ⟨rfl, ?_⟩) (fun d hd d' hd' => ?_) (.inr fun d hd => ?_) hz (fun x _ => ?_) (PyProof.Rows.ksk_s1 _ _) (fun _ => PyProof.Rows.ksk_l1 _ _) (fun x => PyProof.Rows.ksk_t1 fB x) ?_ ?_
  · obtain ⟨_, jts, r2, ht⟩ := I.hok _ _ (hx x hm)
    obtain ⟨u1, u2, rfl, _, r4⟩ := vals2 r2
    obtain ⟨t, rfl⟩ := r4
    exact ⟨_, t, ht, rfl⟩
  · obtain ⟨x, _, rfl⟩ := List.mem_map.mp hd
    obtain ⟨y, _, rfl⟩ := List.mem_map.mp hd'
    rfl
  · obtain ⟨x, _, rfl⟩ := List.mem_map.mp hd
    exact ⟨(fun z => nomatch z), (fun xs z => nomatch z)⟩
  · show X.A.units + 2 + 0 < cLine
    omega
  · rintro v x ⟨rfl, jts, t, ht, h1⟩ _ h tk keep
    have ht2 : IsTup h x.1 jts := by
      obtain ⟨o, ho, hr⟩ := ht
      exact ⟨o, keep _ _ ho, hr⟩
    exact by_often_runs (s := { s with heap := h, toks := tk }) F bF (I.kIn.keeps keep) (I.nolimit.keeps keep) hd ht2 h1
  · intro out c h' tk keep _ hD hlen hE
    have eo := refs_each (fun _ _ z => z.1) hE
    have hp : (ps.mergeSort (PySem.W.dataLe false fun x : El => .int (x.2.2.2 : Nat))).Perm ps := List.mergeSort_perm _ _
    have hsort : (ps.mergeSort (PySem.W.dataLe false fun x : El => .int (x.2.2.2 : Nat))).Pairwise fun x y => x.2.2.2 ≤ y.2.2.2 := by
      rw [PySem.W.dataLe_int]
      refine (List.pairwise_mergeSort (fun a b c h1 h2 => ?_) (fun a b => ?_) ps).imp fun {x y} h => by have := of_decide_eq_true h; omega
      · have := of_decide_eq_true h1
        have := of_decide_eq_true h2
        exact decide_eq_true (by omega)
      · by_cases h1 : (a.2.2.2 : Int) ≤ (b.2.2.2 : Int)
        · rw [decide_eq_true h1]; rfl
        · rw [decide_eq_true (show (b.2.2.2 : Int) ≤ (a.2.2.2 : Int) by omega), Bool.or_true]
    generalize ps.mergeSort (PySem.W.dataLe false fun x : El => .int (x.2.2.2 : Nat)) = ps' at eo hp hsort
    subst eo
    refine ⟨.ref _, upd H (s.heap.objs.size + 1) (.lst (ps'.map fun x => V.ref x.1)), I.laid (t' := tk) keep (Nat.le_succ _) ⟨?_, _, c, refs_vals ps', hD⟩, rfl, q ps' _ hp hsort (I.hok.fresh (Nat.le_succ _))⟩
    rw [List.length_map, hp.length_eq]
    exact hz
end Kp
-- W7
set_option Elab.async false
set_option linter.all false
set_option maxRecDepth 100000
set_option maxHeartbeats 4000000
namespace Kp
open PySem PySem.Spec PyProof.Rows L2
section
variable {P : Program} {w : World} {K : PySem.W.Frag} {mg : Str → Option Value} {base : Heap}
theorem der_len (p : Nat) (l : List Int) : (Pl.rowL p (Pl.derL l)).length ≤ l.length := by
  rw [Pl.rowL_len_eq]
  have h := Pl.Poly.len_der (Pl.mk p l)
  have h2 := Pl.rowL_length p l
  rw [Pl.rowL_len_eq] at h2
  have h3 : Pl.mk p (Pl.derL l) = Pl.Poly.der (Pl.mk p l) := rfl
  rw [h3]
  omega
theorem mk_der_row (p : Nat) (l : List Int) : Pl.mk p (Pl.rowL p (Pl.derL l)) = Pl.Poly.der (Pl.mk p l) := Pl.mk_rowL p _
theorem met_one {p : Nat} (h : Pl.Prm p) {a b g s t : List Int} (M : Pl.Met p a b g s t) (c : Pl.Poly.Cop (Pl.mk p a) (Pl.mk p b)) : Pl.mk p g = 1 := by
  obtain ⟨x, y, exy⟩ := c
  have d1 : Pl.Poly.Dv (Pl.mk p g) (1 : Pl.Poly p) := ⟨x * Pl.mk p s + y * Pl.mk p t, by rw [← exy, M.ea, M.eb]; grind⟩
  have h1 := d1.len h (Pl.Poly.one_ne h)
  rw [Pl.Poly.len_one h] at h1
  exact M.mon.one h h1
/-! ### alone, no_square -/
def spAlone : Sp := fun vs H Q _ => ∃ (p : Nat) (a : Addr) (l : List Int), vs = [.int p, .ref a] ∧ Pm p ∧ Ls H a l ∧ Pl.IsRow p l ∧ l ≠ [] ∧ l.length ≤ 4000 ∧
  (¬ Pl.Poly.Sqf (Pl.mk p l) → ∀ H', Same H H' → Q .non H') ∧
  (Pl.Poly.Sqf (Pl.mk p l) → ∀ (H' : Hp) (t x y : Addr) (u v : List Int), Same H H' → H t = none → H x = none → H y = none → x ≠ y → x ≠ t → y ≠ t → H' t = some (.tup [.ref x, .ref y]) → Ls H' x u → Ls H' y v → Pl.IsRow p u → Pl.IsRow p v →
    Pl.mk p u * Pl.mk p l + Pl.mk p v * Pl.Poly.der (Pl.mk p l) = 1 → u.length ≤ 10000 → v.length ≤ 10000 → Q (.ref t) H')
theorem ok_alone {f fM fF : Addr} {fd fdM fdF : FuncData} {k : Nat} (F : Fun K "alone" "alone" sAlone f fd) (GM : FnOk P w K mg base CX0 k fM fdM ["prime", "ones", "others"] spMet) (kM : PySem.W.keepIn K (.ref fM) = true) (bM : Binds K fdM ["prime", "ones", "others"] []) (gM : mg "met" = some (.ref fM))
    (GF : FnOk P w K mg base CX0 k fF fdF ["prime", "row"] spFalling) (kF : PySem.W.keepIn K (.ref fF) = true) (bF : Binds K fdF ["prime", "row"] []) (gF : mg "falling" = some (.ref fF)) (T : Bt mg) :
    FnOk P w K mg base CX0 (k + 1) f fd ["prime", "row"] spAlone := by
  refine F.ok scAlone (fun vs H Q E h => ?_) (fun cdv A outer s H vs Q E hr h => ?_)
  · obtain ⟨p, a, l, rfl, _⟩ := h
    rfl
  · obtain ⟨p, a, l, rfl, hp, ha, ra, hn, za, q0, q1⟩ := h
    refine ⟨_, pss_cons (ps_if (pt_cmpR (op_eqD hr.units) (pv 1) (pe_lst pa_nil) (nomark _)) (pss_one (ps_ret pe_non)) pss_nil)
      (pss_cons (ps_set (i := 2) scAlone.nd rfl (.inl rfl) (pe_call GM hr (by rfl) gM kM bM .nil pass0 (pa_cons (pv 0) (pa_cons (pv 1) (pa_cons (pe_call GF hr (by rfl) gF kF bF .nil pass0 (pa_cons (pv 0) (pa_cons (pv 1) pa_nil))) pa_nil)))))
      (pss_cons (ps_if (pt_cmpR op_gt (pe_callB call_len_seq (by rfl) T.len PySem.boot_len (pa_cons (pe_ix ix_tup (pv 2) pe_int (fun _ _ => rfl)) pa_nil)) pe_int (nomark _)) (pss_one (ps_ret pe_non)) pss_nil)
      (pss_one (ps_ret (pe_tup (pa_cons (pe_ix ix_tup (pv 2) pe_int (fun _ _ => rfl)) (pa_cons (pe_ix ix_tup (pv 2) pe_int (fun _ _ => rfl)) pa_nil))))))), ?_⟩
    have hpos := hp.pos
    refine ⟨.ref a, rfl, Nat.zero_le _, fun e0 n0 => ?_⟩
    obtain ⟨s0, ee0⟩ := new_st (o := .lst []) n0
    generalize upd H e0 (.lst []) = G0 at s0 ee0 ⊢
    refine ⟨dI l, dI [], dp_ls (s0 _ _ ha), dp_ls (l := []) ee0, dI_shaped _, dI_shaped _, _, rfl, ?_⟩
    rw [dI_eqv, decide_eq_false hn]
    refine iteF ?_
    have zd := der_len p l
    refine ⟨.int p, rfl, .ref a, rfl, .int p, rfl, .ref a, rfl, p, a, l, rfl, hp, s0 _ _ ha, ra, by omega, fun G1 d sG1 nd hd => ?_⟩
    have sm1 := s0.trans sG1
    refine ⟨p, a, d, l, _, rfl, hp, sm1 _ _ ha, hd, ra, Pl.rowL_row hpos _, .inl hn, za, by omega, fun G2 t x1 x2 x3 x4 x5 g ss r u v sG2 nt n1 n2 n3 n4 n5 n45 ht h1 h2 h3 h4 h5 M ru rv ee zu zv => ?_⟩
    have sm2 := sm1.trans sG2
    refine ⟨.ref t, rfl, t, _, 0, .ref x1, rfl, rfl, .of ht, rfl, x1, _, rfl, .inl (.of h1), _, _, rfl, rfl, _, rfl, ?_⟩
    rw [List.length_map]
    rw [mk_der_row] at ee
    refine ite2 (fun c => ?_) (fun c => ?_)
    · have c' : (1 : Int) < g.length := of_decide_eq_true c
      refine q0 (fun hs => ?_) _ sm2
      have hu := met_one hp.prm M (by rw [mk_der_row]; exact hs)
      have hl := Pl.Poly.len_of M.rg
      rw [hu, Pl.Poly.len_one hp.prm] at hl
      omega
    · have c' : ¬ (1 : Int) < g.length := fun z => c (decide_eq_true z)
      have g1 : Pl.mk p g = 1 := M.mon.one hp.prm (by rw [Pl.Poly.len_of M.rg]; omega)
      rw [g1] at ee
      refine ⟨.ref t, rfl, t, _, 3, .ref x4, rfl, rfl, .of ht, rfl, .ref t, rfl, t, _, 4, .ref x5, rfl, rfl, .of ht, rfl, (by show 2 ≤ sizeLine; decide), fun t' nt' => ?_⟩
      obtain ⟨st, et⟩ := new_st (o := .tup [.ref x4, .ref x5]) nt'
      exact q1 ⟨_, _, ee⟩ _ t' x4 x5 u v (sm2.trans st) (sm2.free nt') (sm1.free n4) (sm1.free n5) n45 (ne_of_none h4 nt') (ne_of_none h5 nt') et (st _ _ h4) (st _ _ h5) ru rv ee (by omega) (by omega)
theorem ok_nosq {f fS fA : Addr} {fd fdS fdA : FuncData} {k : Nat} (F : Fun K "no_square" "no_square" sNoSq f fd) (GS : FnOk P w K mg base CX0 k fS fdS ["prime"] spSure) (kS : PySem.W.keepIn K (.ref fS) = true) (bS : Binds K fdS ["prime"] []) (gS : mg "sure_prime" = some (.ref fS))
    (GA : FnOk P w K mg base CX0 k fA fdA ["prime", "row"] spAlone) (kA : PySem.W.keepIn K (.ref fA) = true) (bA : Binds K fdA ["prime", "row"] []) (gA : mg "alone" = some (.ref fA)) :
    FnOk P w K mg base CX0 (k + 1) f fd ["prime", "row"] spAlone := by
  refine F.ok scNoSq (fun vs H Q E h => ?_) (fun cdv A outer s H vs Q E hr h => ?_)
  · obtain ⟨p, a, l, rfl, _⟩ := h
    rfl
  · obtain ⟨p, a, l, rfl, hp, rest⟩ := h
    refine ⟨_, pss_cons (ps_expr (pe_call GS hr (by rfl) gS kS bS .nil pass0 (pa_cons (pv 0) pa_nil))) (pss_one (ps_ret (pe_call GA hr (by rfl) gA kA bA .nil pass0 (pa_cons (pv 0) (pa_cons (pv 1) pa_nil))))), ?_⟩
    exact ⟨.int p, rfl, p, rfl, hp, .int p, rfl, .ref a, rfl, p, a, l, rfl, hp, rest⟩
/-! ### meet -/
abbrev sMeet : Stmt := topS 22
theorem scMeet : FnScope ["prime", "ones", "others"] ["prime", "ones", "others"] (defScope sMeet) := ⟨rfl, rfl, rfl, by decide +kernel, rfl, by decide +kernel, by decide +kernel⟩
/-- of two rows that are apart -/
def spMeet : Sp := fun vs H Q _ => ∃ (p : Nat) (a b : Addr) (la lb : List Int), vs = [.int p, .ref a, .ref b] ∧ Pm p ∧ Ls H a la ∧ Ls H b lb ∧ Pl.IsRow p la ∧ Pl.IsRow p lb ∧ la ≠ [] ∧ la.length ≤ 4000 ∧ lb.length ≤ 4000 ∧ Pl.Poly.Cop (Pl.mk p la) (Pl.mk p lb) ∧
  ∀ (H' : Hp) (t x1 x2 x3 x4 x5 : Addr) (u v : List Int), Same H H' → H' t = some (.tup [.ref x1, .ref x2, .ref x3, .ref x4, .ref x5]) → Ls H' x4 u → Ls H' x5 v → Pl.IsRow p u → Pl.IsRow p v →
    Pl.mk p u * Pl.mk p la + Pl.mk p v * Pl.mk p lb = 1 → u.length ≤ 10000 → v.length ≤ 10000 → Q (.ref t) H'
theorem ok_meet {f fS fM : Addr} {fd fdS fdM : FuncData} {k : Nat} (F : Fun K "meet" "meet" sMeet f fd) (GS : FnOk P w K mg base CX0 k fS fdS ["prime"] spSure) (kS : PySem.W.keepIn K (.ref fS) = true) (bS : Binds K fdS ["prime"] []) (gS : mg "sure_prime" = some (.ref fS))
    (GM : FnOk P w K mg base CX0 k fM fdM ["prime", "ones", "others"] spMet) (kM : PySem.W.keepIn K (.ref fM) = true) (bM : Binds K fdM ["prime", "ones", "others"] []) (gM : mg "met" = some (.ref fM)) :
    FnOk P w K mg base CX0 (k + 1) f fd ["prime", "ones", "others"] spMeet := by
  refine F.ok scMeet (fun vs H Q E h => ?_) (fun cdv A outer s H vs Q E hr h => ?_)
  · obtain ⟨p, a, b, la, lb, rfl, _⟩ := h
    rfl
  · obtain ⟨p, a, b, la, lb, rfl, hp, ha, hb, ra, rb, hn, za, zb, hc, q⟩ := h
    refine ⟨_, pss_cons (ps_expr (pe_call GS hr (by rfl) gS kS bS .nil pass0 (pa_cons (pv 0) pa_nil)))
      (pss_cons (ps_if (PW.pt (pw_and (pt_cmpR (op_eqD hr.units) (pv 1) (pe_lst pa_nil) (nomark _)) (pw_and1 (pt_cmpR (op_eqD hr.units) (pv 2) (pe_lst pa_nil) (nomark _))))) pss_never pss_nil)
      (pss_one (ps_ret (pe_call GM hr (by rfl) gM kM bM .nil pass0 (pa_cons (pv 0) (pa_cons (pv 1) (pa_cons (pv 2) pa_nil))))))), ?_⟩
    refine ⟨.int p, rfl, p, rfl, hp, .ref a, rfl, Nat.zero_le _, fun e0 n0 => ?_⟩
    obtain ⟨s0, ee0⟩ := new_st (o := .lst []) n0
    generalize upd H e0 (.lst []) = G0 at s0 ee0 ⊢
    refine ⟨dI la, dI [], dp_ls (s0 _ _ ha), dp_ls (l := []) ee0, dI_shaped _, dI_shaped _, _, rfl, ?_⟩
    rw [dI_eqv, decide_eq_false hn]
    refine iteF (iteF ?_)
    refine ⟨.int p, rfl, .ref a, rfl, .ref b, rfl, p, a, b, la, lb, rfl, hp, s0 _ _ ha, s0 _ _ hb, ra, rb, .inl hn, za, zb, fun G2 t x1 x2 x3 x4 x5 g ss r u v sG2 nt n1 n2 n3 n4 n5 n45 ht h1 h2 h3 h4 h5 M ru rv ee zu zv => ?_⟩
    have g1 := met_one hp.prm M hc
    rw [g1] at ee
    exact q _ t x1 x2 x3 x4 x5 u v (s0.trans sG2) ht h4 h5 ru rv ee (by omega) (by omega)
end
end Kp
-- W8
set_option Elab.async false
set_option linter.all false
set_option maxRecDepth 100000
set_option maxHeartbeats 4000000
namespace Kp
open PySem PySem.Spec PyProof.Rows L2
theorem bo_sorted : bootBuiltins "sorted" = some (.builtin "sorted") := by decide +kernel
theorem rgc_up {n p : Nat} (hp : 0 < p) (hp2 : p ≤ 1000) (hn : n ≤ 10000) : RgC 0 n p ((n + p - 1) / p) := by
  have hsz : Builtin.Range.rangeSize 0 n p = ((n + p - 1) / p : Nat) := by
    unfold Builtin.Range.rangeSize
    rw [if_pos (show (p : Int) > 0 by omega)]
    by_cases h : 0 < n
    · rw [if_pos (by omega)]
      have e : (n + p - 1) / p = (n - 1) / p + 1 := by
        rw [show n + p - 1 = n - 1 + p by omega, Nat.add_div_right _ hp]
      rw [e]
      have e2 : (n : Int) - 0 - 1 = ((n - 1 : Nat) : Int) := by omega
      rw [e2]
      simp
    · have : n = 0 := by omega
      subst this
      rw [if_neg (by omega), Nat.div_eq_of_lt (by omega)]; rfl
  have hb : (n + p - 1) / p ≤ n + p := Nat.le_trans (Nat.div_le_self _ _) (by omega)
  refine ⟨by omega, by omega, ?_, hsz⟩
  unfold Builtin.Range.small
  rw [hsz]
  generalize (n + p - 1) / p = k at *
  have h3 : (if (p : Int) > 0 then Builtin.Range.rangeFitsLong ((n : Int) + ((p : Int) - 1)) else Builtin.Range.rangeFitsLong ((n : Int) + ((p : Int) + 1))) = true := by
    rw [if_pos (by omega)]
    simp only [Builtin.Range.rangeFitsLong, Bool.and_eq_true, decide_eq_true_eq]
    omega
  rw [h3, Bool.or_true, Bool.and_true]
  simp only [Builtin.Range.rangeFitsLong, Bool.and_eq_true, decide_eq_true_eq]
  omega
/-- a found part as it lies, made behind H0 -/
def Elt (H0 H' : Hp) (x : El) : Prop := H' x.1 = some (.tup [.ref x.2.1, .int (x.2.2.2 : Nat)]) ∧ Ls H' x.2.1 x.2.2.1 ∧ H0 x.1 = none ∧ H0 x.2.1 = none
theorem Elt.same {H0 H' H2 : Hp} {x : El} (e : Elt H0 H' x) (s : Same H' H2) : Elt H0 H2 x := ⟨s _ _ e.1, s _ _ e.2.1, e.2.2.1, e.2.2.2⟩
theorem Elt.mut {H0 H' : Hp} {x : El} {c : Addr} {o : HO} (e : Elt H0 H' x) (h1 : x.1 ≠ c) (h2 : x.2.1 ≠ c) : Elt H0 (upd H' c o) x :=
  ⟨by rw [upd_ne h1]; exact e.1, by show upd _ _ _ _ = _; rw [upd_ne h2]; exact e.2.1, e.2.2.1, e.2.2.2⟩
theorem Elt.from {H0 H1 H' : Hp} {x : El} (s : Same H0 H1) (e : Elt H1 H' x) : Elt H0 H' x := ⟨e.1, e.2.1, s.free e.2.2.1, s.free e.2.2.2⟩
abbrev refsOf (es : List El) : HO := .lst (es.map fun x => V.ref x.1)
abbrev told (es : List El) : List (List Int × Nat) := es.map fun x => x.2.2
section
variable {P : Program} {w : World} {K : PySem.W.Frag} {mg : Str → Option Value} {base : Heap}
/-! ### parted -/
abbrev sParted : Stmt := topS 26
abbrev nParted : List Str := ["prime", "row", "found", "first", "left", "wide", "many", "both", "root", "pair", "at"]
theorem scParted : FnScope nParted ["prime", "row"] (defScope sParted) := ⟨rfl, rfl, rfl, by decide +kernel, rfl, by decide +kernel, by decide +kernel⟩
def spParted (d : Nat) : Sp := fun vs H Q _ => ∃ (p : Nat) (a : Addr) (l : List Int), vs = [.int p, .ref a] ∧ Pm p ∧ Ls H a l ∧ Pl.IsRow p l ∧ Pl.Poly.Mon (Pl.mk p l) ∧ l.length ≤ 2 ^ d ∧ l.length ≤ 1000 ∧
  ∀ (H' : Hp) (t : Addr) (es : List El), Same H H' → H t = none → H' t = some (refsOf es) → (∀ x ∈ es, Elt H H' x ∧ x.1 ≠ t ∧ x.2.1 ≠ t) → (es.Pairwise fun x y => x.2.1 ≠ y.2.1) → Pl.Parted p l (told es) → Q (.ref t) H'
/-- the suite of «if len(left) > 1» -/
def rootSuite : List Stmt := match (defBody sParted).getD 6 (.Pass ⟨0, 0, 0, 0⟩) with
  | .If _ b _ _ => b
  | _ => []
theorem ok_parted {f fM fF fB : Addr} {fd fdM fdF fdB : FuncData} {k d : Nat} (F : Fun K "parted" "parted" sParted f fd) (bP : Binds K fd ["prime", "row"] []) (gP : mg "parted" = some (.ref f))
    (GM : FnOk P w K mg base CX0 (k + d) fM fdM ["prime", "ones", "others"] spMet) (kM : PySem.W.keepIn K (.ref fM) = true) (bM : Binds K fdM ["prime", "ones", "others"] []) (gM : mg "met" = some (.ref fM))
    (GF : FnOk P w K mg base CX0 (k + d) fF fdF ["prime", "row"] spFalling) (kF : PySem.W.keepIn K (.ref fF) = true) (bF : Binds K fdF ["prime", "row"] []) (gF : mg "falling" = some (.ref fF))
    (FB : Fun K "by_often" "by_often" sBy fB fdB) (bB : Binds K fdB ["pair"] []) (gB : mg "by_often" = some (.ref fB)) (T : Bt mg) (hk : 4 ≤ k)
    (rec : d = 0 ∨ ∃ d', d = d' + 1 ∧ FnOk P w K mg base CX0 (k + d) f fd ["prime", "row"] (spParted d')) :
    FnOk P w K mg base CX0 (k + d + 1) f fd ["prime", "row"] (spParted d) := by
  refine F.ok scParted (fun vs H Q E h => ?_) (fun cdv A outer s H vs Q E hr h => ?_)
  · obtain ⟨p, a, l, rfl, _⟩ := h
    rfl
  · obtain ⟨p, a, l, rfl, hp, ha, ra, ma, zd, za, q⟩ := h
    have nd := scParted.nd
    have hpos := hp.pos
    have hle := hp.le
    have hne : l ≠ [] := fun z => ma.ne hp.prm (by rw [z, Pl.Poly.zero_nil])
    -- the suite of the root
    have suite : ∃ tb : TS, PSs (cxOf CX0 P w K mg base nParted "parted" (defScope sParted) f cdv A outer s H E).nox rootSuite tb ∧
        ∀ (D : Ends) (G : Hp) (fo t1 lf wd : Addr) (L : List Int) (y6 y7 : Option V) (es : List El), Same H G → H fo = none → lf ≠ fo → G fo = some (refsOf es) → Ls G lf L → Pl.IsRow p L → 1 < L.length → L.length ≤ l.length →
          (Pl.IsRow p (Pl.Poly.everyL p L) ∧ Pl.Poly.Mon (Pl.mk p (Pl.Poly.everyL p L)) ∧ p * ((Pl.Poly.everyL p L).length - 1) + 1 = L.length) → (∀ x ∈ es, Elt H G x ∧ x.1 ≠ fo ∧ x.2.1 ≠ fo) → es.length ≤ 2001 →
          (∀ (G' : Hp) (σ : L2.St) (es2 es3 : List El), σ[2]? = some (some (V.ref fo)) → Same H G' → G' fo = some (refsOf (es ++ es3)) → (∀ x ∈ es ++ es3, Elt H G' x ∧ x.1 ≠ fo ∧ x.2.1 ≠ fo) → (es3.Pairwise fun x y => x.2.1 ≠ y.2.1) → (∀ x ∈ es3, G x.2.1 = none) →
            Pl.Parted p (Pl.Poly.everyL p L) (told es2) → told es3 = (told es2).map (fun x => (x.1, x.2 * p)) → D.nx σ G') →
          tb D [some (.int p), some (.ref a), some (.ref fo), some (.ref t1), some (.ref lf), some (.ref wd), y6, y7, none, none, none] G := by
      rcases rec with h0 | ⟨d', hd', GP⟩
      · refine ⟨tNever, pss_never, ?_⟩
        intro D G fo t1 lf wd L y6 y7 es _ _ _ _ _ _ h1 h2
        rw [h0] at zd
        have e0 : 2 ^ 0 = 1 := rfl
        omega
      · refine ⟨_, pss_cons (ps_setLc (i := 8) (own := [("at", 10)]) (g := gName 10) (tt := tYes) (by rfl) nd rfl rfl (sw_true rfl rfl rfl (by decide +kernel))
              (pi_range3 (by rfl) T.range (pa_cons pe_int (pa_cons (pe_callB call_len_seq (by rfl) T.len PySem.boot_len (pa_cons (pv 4) pa_nil)) (pa_cons (pv 0) pa_nil))))
              (blkOk_by (own := [("at", 10)]) (N := nParted) (sc := defScope sParted) (by decide +kernel)) (fun _ _ _ _ _ => pg_name (i := 10) nd rfl (Or.inl rfl)) (fun _ _ _ _ _ => pts_nil)
              (fun _ _ _ _ _ => pe_ix (r := rIxL K) ix_list (pv 4) (pv 10) (fun _ _ => rfl)))
            (pss_one (ps_for PassesOwn.never rfl (pi_list (pe_call GP hr (by rfl) gP F.kp bP .nil pass0 (pa_cons (pv 0) (pa_cons (pv 8) pa_nil)))) (pg_name (i := 9) nd rfl (.inl rfl))
              (pss_one (ps_expr (pe_bm PySem.F.plainAttrs_list PySem.F.slot_list_append PySem.F.type_list_append mt_append (pv 2) (pa_cons (pe_tup (pa_cons (pe_ix ix_tup (pv 9) pe_int (fun _ _ => rfl)) (pa_cons (pe_op op_mul (pe_ix ix_tup (pv 9) pe_int (fun _ _ => rfl)) (pv 0)) pa_nil))) pa_nil)))))), ?_⟩
        intro D G fo t1 lf wd L y6 y7 es sm nfo nlf hfo hL rL h1 h2 ⟨er, em, elen⟩ hes zes fin
        have hrlen : (Pl.Poly.everyL p L).length ≤ 2 ^ d' := by
          have h3 : 2 ^ d = 2 * 2 ^ d' := by rw [hd', Nat.pow_succ]; omega
          have h4 : 2 * ((Pl.Poly.everyL p L).length - 1) ≤ p * ((Pl.Poly.everyL p L).length - 1) := Nat.mul_le_mul_right _ hp.two
          have h5 : 0 < 2 ^ d' := Nat.pow_pos (by decide)
          omega
        have hrlen2 : (Pl.Poly.everyL p L).length ≤ 1000 := by
          have h4 : 1 * ((Pl.Poly.everyL p L).length - 1) ≤ p * ((Pl.Poly.everyL p L).length - 1) := Nat.mul_le_mul_right _ hpos
          omega
        -- root
        refine ⟨.ref lf, rfl, lf, _, rfl, .inl (.of hL), .int p, rfl, 0, L.length, p, (L.length + p - 1) / p, ?_, rgc_up hpos (by omega) (by omega), fun R0 hR0 => lc_it (walk_rangeC (lo := 0) (c := p) (n := (L.length + p - 1) / p))
          (fun i G' => Same G G' ∧ Ls G' R0 ((List.range i).map fun j => Pl.co L (p * j))) ⟨same_new (Same.refl _) hR0, upd_same⟩ (fun _ _ _ _ => trivial) ?_ ?_⟩
        · rw [List.length_map]
        · rintro i x0 G' G0 hi ⟨sG, hR⟩ ⟨rfl, rfl⟩
          have hi2 : p * i < L.length := by
            have h6 : p * ((L.length + p - 1) / p) ≤ L.length + p - 1 := Nat.mul_div_le _ _
            have h7 : p * (i + 1) ≤ p * ((L.length + p - 1) / p) := Nat.mul_le_mul_left _ (by omega)
            rw [Nat.mul_succ] at h7
            omega
          refine ⟨rfl, .ref lf, rfl, .int (0 + (i : Nat) * p), rfl, lf, _, _, _, rfl, rfl, .of (sG _ _ hL), at_ls (i := p * i) (by rw [Int.zero_add, Int.mul_comm]; simp) hi2, _, hR, ?_, same_mut sG hR0, ?_⟩
          · rw [List.length_map, List.length_map, List.length_range]
            have : i ≤ p * i := Nat.le_mul_of_pos_left _ hpos
            exact small_line (by omega)
          · rw [List.range_succ, List.map_append]
            exact ls_app
        · rintro G1 ⟨sG1, hR⟩
          have hR' : Ls G1 R0 (Pl.Poly.everyL p L) := hR
          have sm1 := sm.trans sG1
          have hfo1 := sG1 _ _ hfo
          -- the call of itself
          refine ⟨.int p, rfl, .ref R0, rfl, p, R0, Pl.Poly.everyL p L, rfl, hp, hR', er, em, hrlen, hrlen2, fun G2 t2 es2 sG2 nt2 ht2 hes2 hpw2 P2 => ?_⟩
          have zes2 : es2.length ≤ 1000 := by
            have := (P2.good hp.prm em).length_le hp.prm er
            unfold told at this
            rw [List.length_map] at this
            omega
          have hfo2 := sG2 _ _ hfo1
          have t2fo : t2 ≠ fo := fun e => by rw [e, hfo1] at nt2; cases nt2
          have lenmap : (es2.map fun x => V.ref x.1).length = es2.length := List.length_map ..
          refine ⟨t2, rfl, ⟨_, .of ht2⟩, for_list (K := K) (a := t2) (xs := es2.map fun x => V.ref x.1) (fun i σ G' => ∃ (es3 : List El) (y9 : Option V), σ = [some (.int p), some (.ref a), some (.ref fo), some (.ref t1), some (.ref lf), some (.ref wd), y6, y7, some (.ref R0), y9, none] ∧
              (∀ b o, b ≠ fo → G2 b = some o → G' b = some o) ∧ Same H G' ∧ G' fo = some (refsOf (es ++ es3)) ∧ es3.length = i ∧ (∀ x ∈ es3, Elt H G' x ∧ x.1 ≠ fo ∧ x.2.1 ≠ fo) ∧ es3.map (fun x => x.2.1) = (es2.take i).map (fun x => x.2.1) ∧
              told es3 = (told (es2.take i)).map fun x => (x.1, x.2 * p)) ⟨[], none, rfl, fun b o _ e => e, sm1.trans sG2, by rw [List.append_nil]; exact hfo2, rfl, fun x hx => absurd hx (by simp), by simp, by simp⟩ (fun i σ G' _ h => ?_) ?_ ?_⟩
          · obtain ⟨es3, y9, _, keep, _⟩ := h
            exact .of (keep _ _ t2fo ht2)
          · rintro i x σ G' hx ⟨es3, y9, rfl, keep, smG, hfo', z3, hes3, haddr, htold⟩
            have hi : i < es2.length := by
              have := (List.getElem?_eq_some_iff.mp hx).1
              rw [lenmap] at this
              exact this
            have hxe : es2[i]? = some es2[i] := List.getElem?_eq_getElem hi
            rw [List.getElem?_map, hxe] at hx
            obtain rfl : V.ref es2[i].1 = x := Option.some.inj hx
            obtain ⟨⟨e1, e2, e3, e4⟩, e5, e6⟩ := hes2 es2[i] (List.getElem_mem hi)
            generalize hxx : es2[i] = ex at e1 e2 e3 e4 e5 e6 hxe
            have n1fo : ex.1 ≠ fo := fun z => by rw [z, hfo1] at e3; cases e3
            have n2fo : ex.2.1 ≠ fo := fun z => by rw [z, hfo1] at e4; cases e4
            have e1' := keep _ _ n1fo e1
            have e2' : Ls G' ex.2.1 ex.2.2.1 := keep _ _ n2fo e2
            refine ⟨.ref fo, rfl, .inl ⟨rfl, _, .of hfo'⟩, .ref ex.1, rfl, ex.1, _, 0, .ref ex.2.1, rfl, rfl, .of e1', rfl, .ref ex.1, rfl, ex.1, _, 1, .int (ex.2.2.2 : Nat), rfl, rfl, .of e1', rfl, .int p, rfl, _, _, rfl, rfl, .inr ⟨by omega, by omega⟩, (by show 2 ≤ sizeLine; decide), fun tp ntp => ?_⟩
            have emul : (fun i j : Int => V.int (i * j)) (ex.2.2.2 : Nat) (p : Nat) = V.int ((ex.2.2.2 * p : Nat)) := by
              show V.int _ = _
              rw [Int.natCast_mul]
            rw [emul]
            obtain ⟨st, et⟩ := new_st (o := .tup [.ref ex.2.1, .int (ex.2.2.2 * p : Nat)]) ntp
            have tpfo : tp ≠ fo := fun z => by rw [z, hfo'] at ntp; cases ntp
            generalize upd G' tp (.tup [.ref ex.2.1, .int (ex.2.2.2 * p : Nat)]) = G3 at st et ⊢
            refine ⟨fo, _, _, rfl, rfl, st _ _ hfo', ?_, es3 ++ [(tp, ex.2.1, ex.2.2.1, ex.2.2.2 * p)], some (.ref ex.1), rfl, fun b o hb e => ?_, same_mut (smG.trans st) nfo, ?_, by rw [List.length_append, z3]; rfl, fun y hy => ?_, ?_, ?_⟩
            · rw [List.length_map, List.length_append]
              exact small_line (by omega)
            · rw [upd_ne hb]
              exact st _ _ (keep _ _ hb e)
            · rw [upd_same, ← List.append_assoc]
              show some (HO.lst _) = some (HO.lst _)
              rw [List.map_append (l₂ := [(tp, ex.2.1, ex.2.2.1, ex.2.2.2 * p)])]
              rfl
            · rcases List.mem_append.mp hy with h3 | h3
              · obtain ⟨k1, k2, k3⟩ := hes3 y h3
                exact ⟨(k1.same st).mut k2 k3, k2, k3⟩
              · have ey : y = (tp, ex.2.1, ex.2.2.1, ex.2.2.2 * p) := by simpa using h3
                subst ey
                refine ⟨⟨?_, ?_, smG.free ntp, sm1.free e4⟩, tpfo, n2fo⟩
                · show upd _ _ _ _ = _
                  rw [upd_ne tpfo]
                  exact et
                · show upd _ _ _ _ = _
                  rw [upd_ne n2fo]
                  exact st _ _ e2'
            · rw [List.map_append, haddr, List.take_add_one, hxe, List.map_append]
              rfl
            · rw [show told (es3 ++ [(tp, ex.2.1, ex.2.2.1, ex.2.2.2 * p)]) = told es3 ++ [(ex.2.2.1, ex.2.2.2 * p)] by unfold told; rw [List.map_append]; rfl, htold, List.take_add_one, hxe]
              unfold told
              rw [List.map_append, List.map_append]
              rfl
          · rintro σ G' ⟨es3, y9, rfl, keep, smG, hfo', z3, hes3, haddr, htold⟩
            rw [lenmap, List.take_length] at haddr htold
            refine fin G' _ es2 es3 rfl smG hfo' (fun x hx => ?_) ?_ (fun x hx => ?_) P2 htold
            · rcases List.mem_append.mp hx with h3 | h3
              · obtain ⟨k1, k2, k3⟩ := hes x h3
                have k1' := k1.same (sG1.trans sG2)
                exact ⟨⟨keep _ _ k2 k1'.1, keep _ _ k3 k1'.2.1, k1'.2.2.1, k1'.2.2.2⟩, k2, k3⟩
              · exact hes3 x h3
            · have h3 : (es3.map fun x => x.2.1).Pairwise (· ≠ ·) := by
                rw [haddr]
                exact List.pairwise_map.mpr hpw2
              exact List.pairwise_map.mp h3
            · have h3 : x.2.1 ∈ es3.map (fun x => x.2.1) := List.mem_map.mpr ⟨x, hx, rfl⟩
              rw [haddr] at h3
              obtain ⟨y, hy, ey⟩ := List.mem_map.mp h3
              rw [← ey]
              exact sG1.free (hes2 y hy).1.2.2.2
    obtain ⟨tb, hb, rd⟩ := suite
    refine ⟨_, pss_cons (ps_set (i := 2) nd rfl (.inl rfl) (pe_lst pa_nil))
      (pss_cons (ps_set (i := 3) nd rfl (.inl rfl) (pe_call GM hr (by rfl) gM kM bM .nil pass0 (pa_cons (pv 0) (pa_cons (pv 1) (pa_cons (pe_call GF hr (by rfl) gF kF bF .nil pass0 (pa_cons (pv 0) (pa_cons (pv 1) pa_nil))) pa_nil)))))
      (pss_cons (ps_set (i := 4) nd rfl (.inr rfl) (pe_ix ix_tup (pv 3) pe_int (fun _ _ => rfl)))
      (pss_cons (ps_set (i := 5) nd rfl (.inl rfl) (pe_ix ix_tup (pv 3) pe_int (fun _ _ => rfl)))
      (pss_cons (ps_set (i := 6) nd rfl (.inl rfl) pe_int)
      (pss_cons (ps_while PassesOwn.never (pt_cmpR op_gt (pe_callB call_len_seq (by rfl) T.len PySem.boot_len (pa_cons (pv 5) pa_nil)) pe_int (nomark _))
        (pss_cons (ps_set (i := 7) nd rfl (.inl rfl) (pe_call GM hr (by rfl) gM kM bM .nil pass0 (pa_cons (pv 0) (pa_cons (pv 5) (pa_cons (pv 4) pa_nil)))))
        (pss_cons (ps_if (pt_cmpR op_gt (pe_callB call_len_seq (by rfl) T.len PySem.boot_len (pa_cons (pe_ix ix_tup (pv 7) pe_int (fun _ _ => rfl)) pa_nil)) pe_int (nomark _))
            (pss_one (ps_expr (pe_bm PySem.F.plainAttrs_list PySem.F.slot_list_append PySem.F.type_list_append mt_append (pv 2) (pa_cons (pe_tup (pa_cons (pe_ix ix_tup (pv 7) pe_int (fun _ _ => rfl)) (pa_cons (pv 6) pa_nil))) pa_nil)))) pss_nil)
        (pss_cons (ps_set (i := 5) nd rfl (.inl rfl) (pe_ix ix_tup (pv 7) pe_int (fun _ _ => rfl)))
        (pss_cons (ps_set (i := 4) nd rfl (.inr rfl) (pe_ix ix_tup (pv 7) pe_int (fun _ _ => rfl)))
        (pss_one (ps_set (i := 6) nd rfl (.inl rfl) (pe_op op_add (pv 6) pe_int))))))))
      (pss_cons (ps_if (pt_cmpR op_gt (pe_callB call_len_seq (by rfl) T.len PySem.boot_len (pa_cons (pv 4) pa_nil)) pe_int (nomark _)) hb pss_nil)
      (pss_one (ps_ret (pe_callBK (cr_sortedBy FB bB ((hr.mono (show 2 ≤ k + d by omega)).in1.in1.depth) hr.units) (by rfl) T.sorted bo_sorted (pa_cons (pv 2) pa_nil) (pk_cons (pe_glob (v := .ref fB) (by rfl) gB rfl) pk_nil)))))))))), ?_⟩
    -- found
    refine ⟨Nat.zero_le _, fun fo nfo => ?_⟩
    obtain ⟨s1, e1⟩ := new_st (o := .lst []) nfo
    generalize upd H fo (.lst []) = H1 at s1 e1 ⊢
    -- first
    have zd2 := der_len p l
    refine ⟨.int p, rfl, .ref a, rfl, .int p, rfl, .ref a, rfl, p, a, l, rfl, hp, s1 _ _ ha, ra, by omega, fun H2 dr sH2 ndr hdr => ?_⟩
    have s2 := s1.trans sH2
    refine ⟨p, a, dr, l, _, rfl, hp, s2 _ _ ha, hdr, ra, Pl.rowL_row hpos _, .inl hne, by omega, by omega, fun H3 t1 x1 x2 x3 x4 x5 L1 W1 T1 u v sH3 nt1 n1 n2 n3 n4 n5 n45 ht1 h1 h2 h3 h4 h5 M0 ru rv ee zu zv => ?_⟩
    have s3 := s2.trans sH3
    have e3 : H3 fo = some (refsOf []) := sH3 _ _ (sH2 _ _ e1)
    have ed : Pl.mk p (Pl.rowL p (Pl.derL l)) = Pl.Poly.der (Pl.mk p l) := mk_der_row p l
    obtain ⟨hsq, hcop, LI⟩ := Pl.start_ok hp.prm ma ed M0
    have x1fo : x1 ≠ fo := fun z => by rw [z, sH2 _ _ e1] at n1; cases n1
    have x2fo : x2 ≠ fo := fun z => by rw [z, sH2 _ _ e1] at n2; cases n2
    have mkl_ne := ma.ne hp.prm
    have lenL1 : L1.length ≤ l.length := by
      have := Pl.Poly.Dv.len (f := Pl.mk p L1) hp.prm ⟨_, M0.ea⟩ mkl_ne
      rw [Pl.Poly.len_of M0.rg, Pl.Poly.len_of ra] at this
      exact this
    have lenW1 : W1.length ≤ l.length := by
      have := Pl.Poly.Dv.len (f := Pl.mk p W1) hp.prm ⟨Pl.mk p L1, by rw [M0.ea]; grind⟩ mkl_ne
      rw [Pl.Poly.len_of M0.rs, Pl.Poly.len_of ra] at this
      exact this
    -- the end: sorted
    have sorted_end : ∀ (G : Hp) (σ : L2.St) (es : List El), σ[2]? = some (some (V.ref fo)) → Same H G → G fo = some (refsOf es) → (∀ x ∈ es, Elt H G x ∧ x.1 ≠ fo ∧ x.2.1 ≠ fo) → (es.Pairwise fun x y => x.2.1 ≠ y.2.1) →
        (∀ es' : List El, es'.Perm es → (es'.Pairwise fun x y => x.2.2.2 ≤ y.2.2.2) → Pl.Parted p l (told es')) →
        tRet (tCKw (rSortedBy K fB) (tCons (tVar 2) tNil) (tCons (tC (.ref fB)) tNil)) { nx := fun _ H' => Q .non H', rt := Q } σ G := by
      intro G σ es h2 sm hfo hes hpw hP
      refine ⟨.ref fo, h2, fo, es, rfl, rfl, .of hfo, fun x hx => (hes x hx).1.1, fun es' t perm hs nt => ?_⟩
      obtain ⟨st, et⟩ := new_st (o := refsOf es') nt
      refine q _ t es' (sm.trans st) (sm.free nt) et (fun x hx => ?_) ((perm.pairwise_iff (R := fun x y : El => x.2.1 ≠ y.2.1) (fun h => Ne.symm h)).mpr hpw) (hP es' perm hs)
      obtain ⟨k1, _, _⟩ := hes x (perm.mem_iff.mp hx)
      exact ⟨k1.same st, ne_of_none k1.1 nt, ne_of_none k1.2.1 nt⟩
    refine ⟨.ref t1, rfl, t1, _, 0, .ref x1, rfl, rfl, .of ht1, rfl, .ref t1, rfl, t1, _, 1, .ref x2, rfl, rfl, .of ht1, rfl, ?_⟩
    -- the loop
    refine ⟨fun m σ G => ∃ (lf wd : Addr) (L Wd : List Int) (n : Nat) (y7 : Option V) (es : List El), m = Wd.length + L.length ∧ σ = [some (.int p), some (.ref a), some (.ref fo), some (.ref t1), some (.ref lf), some (.ref wd), some (.int (n : Nat)), y7, none, none, none] ∧ Same H G ∧
        G fo = some (refsOf es) ∧ Ls G lf L ∧ Ls G wd Wd ∧ lf ≠ fo ∧ wd ≠ fo ∧ Pl.IsRow p L ∧ Pl.IsRow p Wd ∧ Pl.Poly.Mon (Pl.mk p L) ∧ Pl.Poly.Mon (Pl.mk p Wd) ∧ L.length ≤ l.length ∧ Wd.length ≤ l.length ∧ es.length + (Wd.length + L.length) ≤ 2001 ∧
        (∀ x ∈ es, Elt H G x ∧ x.1 ≠ fo ∧ x.2.1 ≠ fo) ∧ (es.Pairwise fun x y => x.2.1 ≠ y.2.1) ∧ ∀ out lf', Pl.PLoop p Wd L n out lf' → Pl.PLoop p W1 L1 1 (told es ++ out) lf',
      ⟨_, x1, x2, L1, W1, 1, none, [], rfl, rfl, s3, e3, h1, h2, x1fo, x2fo, M0.rg, M0.rs, LI.ml, LI.mw, lenL1, lenW1, by simp; omega, fun x hx => absurd hx (by simp), List.Pairwise.nil, fun out lf' h => h⟩, ?_⟩
    rintro m σ G ⟨lf, wd, L, Wd, n, y7, es, rfl, rfl, sm, hfo, hL, hW, nlf, nwd, rL, rW, mL, mW, zL, zW, zes, hes, hpw, hPL⟩
    refine ⟨.ref wd, rfl, wd, _, rfl, .inl (.of hW), _, _, rfl, rfl, _, rfl, ?_⟩
    rw [List.length_map]
    refine ite2 (fun c => ?_) (fun c => ?_)
    · have c' : (1 : Int) < Wd.length := of_decide_eq_true c
      refine ⟨fun σ' G' => ∃ m' < Wd.length + L.length, ∃ (lf wd : Addr) (L Wd : List Int) (n : Nat) (y7 : Option V) (es : List El), m' = Wd.length + L.length ∧ σ' = [some (.int p), some (.ref a), some (.ref fo), some (.ref t1), some (.ref lf), some (.ref wd), some (.int (n : Nat)), y7, none, none, none] ∧ Same H G' ∧
        G' fo = some (refsOf es) ∧ Ls G' lf L ∧ Ls G' wd Wd ∧ lf ≠ fo ∧ wd ≠ fo ∧ Pl.IsRow p L ∧ Pl.IsRow p Wd ∧ Pl.Poly.Mon (Pl.mk p L) ∧ Pl.Poly.Mon (Pl.mk p Wd) ∧ L.length ≤ l.length ∧ Wd.length ≤ l.length ∧ es.length + (Wd.length + L.length) ≤ 2001 ∧
        (∀ x ∈ es, Elt H G' x ∧ x.1 ≠ fo ∧ x.2.1 ≠ fo) ∧ (es.Pairwise fun x y => x.2.1 ≠ y.2.1) ∧ ∀ out lf', Pl.PLoop p Wd L n out lf' → Pl.PLoop p W1 L1 1 (told es ++ out) lf', fun σ' G' h => h, ?_⟩
      have hWn : Wd ≠ [] := fun z => by rw [z] at c'; simp at c'
      refine ⟨.int p, rfl, .ref wd, rfl, .ref lf, rfl, p, wd, lf, Wd, L, rfl, hp, hW, hL, rW, rL, .inl hWn, by omega, by omega, fun G1 tb1 y1 y2 y3 y4 y5 Yg Yz Yl u' v' sG1 ntb k1 k2 k3 k4 k5 k45 htb j1 j2 j3 j4 j5 M ru' rv' ee' zu' zv' => ?_⟩
      have smG1 := sm.trans sG1
      have hfo1 := sG1 _ _ hfo
      have y1fo : y1 ≠ fo := fun z => by rw [z, hfo] at k1; cases k1
      have y2fo : y2 ≠ fo := fun z => by rw [z, hfo] at k2; cases k2
      have y3fo : y3 ≠ fo := fun z => by rw [z, hfo] at k3; cases k3
      have mz : Pl.Poly.Mon (Pl.mk p Yz) := Pl.Poly.Mon.right hp.prm M.mon (by rw [← M.ea]; exact mW)
      have ml : Pl.Poly.Mon (Pl.mk p Yl) := Pl.Poly.Mon.right hp.prm M.mon (by rw [← M.eb]; exact mL)
      have q1 := Pl.Poly.len_mul hp.prm (M.mon.ne hp.prm) (mz.ne hp.prm)
      rw [← M.ea, Pl.Poly.len_of rW, Pl.Poly.len_of M.rg, Pl.Poly.len_of M.rs] at q1
      have q2 := Pl.Poly.len_mul hp.prm (M.mon.ne hp.prm) (ml.ne hp.prm)
      rw [← M.eb, Pl.Poly.len_of rL, Pl.Poly.len_of M.rg, Pl.Poly.len_of M.rt] at q2
      have q3 : 0 < Yz.length := by have := Pl.Poly.len_pos (mz.ne hp.prm); rw [Pl.Poly.len_of M.rs] at this; exact this
      have q4 : 0 < Yl.length := by have := Pl.Poly.len_pos (ml.ne hp.prm); rw [Pl.Poly.len_of M.rt] at this; exact this
      have q5 : 0 < Yg.length := by have := Pl.Poly.len_pos (M.mon.ne hp.prm); rw [Pl.Poly.len_of M.rg] at this; exact this
      have hes1 : ∀ x ∈ es, Elt H G1 x ∧ x.1 ≠ fo ∧ x.2.1 ≠ fo := fun x hx => ⟨(hes x hx).1.same sG1, (hes x hx).2⟩
      refine ⟨.ref tb1, rfl, tb1, _, 1, .ref y2, rfl, rfl, .of htb, rfl, y2, _, rfl, .inl (.of j2), _, _, rfl, rfl, _, rfl, ?_⟩
      rw [List.length_map]
      refine ite2 (fun c2 => ?_) (fun c2 => ?_)
      · have c2' : (1 : Int) < Yz.length := of_decide_eq_true c2
        refine ⟨.ref fo, rfl, .inl ⟨rfl, _, .of hfo1⟩, .ref tb1, rfl, tb1, _, 1, .ref y2, rfl, rfl, .of htb, rfl, _, rfl, (by show 2 ≤ sizeLine; decide), fun tp ntp => ?_⟩
        obtain ⟨st, et⟩ := new_st (o := .tup [.ref y2, .int (n : Nat)]) ntp
        have tpfo : tp ≠ fo := fun z => by rw [z, hfo1] at ntp; cases ntp
        have tbfo : tb1 ≠ fo := fun z => by rw [z, hfo] at ntb; cases ntb
        generalize upd G1 tp (.tup [.ref y2, .int (n : Nat)]) = G2 at st et ⊢
        refine ⟨fo, _, _, rfl, rfl, st _ _ hfo1, by rw [List.length_map]; exact small_line (by omega), ?_⟩
        have htb3 : upd G2 fo (.lst ((es.map fun x => V.ref x.1) ++ [.ref tp])) tb1 = some (.tup [.ref y1, .ref y2, .ref y3, .ref y4, .ref y5]) := by
          rw [upd_ne tbfo]
          exact st _ _ htb
        refine ⟨.ref tb1, rfl, tb1, _, 0, .ref y1, rfl, rfl, .of htb3, rfl, .ref tb1, rfl, tb1, _, 2, .ref y3, rfl, rfl, .of htb3, rfl, _, rfl, _, _, rfl, rfl, ?_⟩
        refine ⟨Yg.length + Yl.length, by omega, y3, y1, Yl, Yg, n + 1, some (.ref tb1), es ++ [(tp, y2, Yz, n)], rfl, rfl, same_mut (smG1.trans st) nfo, ?_, ?_, ?_, y3fo, y1fo, M.rt, M.rg, ml, M.mon, by omega, by omega, by rw [List.length_append]; simp; omega, fun x hx => ?_, ?_, fun out lf' hout => ?_⟩
        · rw [upd_same]
          show some (HO.lst _) = some (HO.lst _)
          rw [List.map_append]
          rfl
        · show upd _ _ _ _ = _
          rw [upd_ne y3fo]
          exact st _ _ j3
        · show upd _ _ _ _ = _
          rw [upd_ne y1fo]
          exact st _ _ j1
        · rcases List.mem_append.mp hx with g1 | g1
          · obtain ⟨b1, b2, b3⟩ := hes1 x g1
            exact ⟨(b1.same st).mut b2 b3, b2, b3⟩
          · have ex : x = (tp, y2, Yz, n) := by simpa using g1
            subst ex
            refine ⟨⟨?_, ?_, smG1.free ntp, sm.free k2⟩, tpfo, y2fo⟩
            · show upd _ _ _ _ = _
              rw [upd_ne tpfo]
              exact et
            · show upd _ _ _ _ = _
              rw [upd_ne y2fo]
              exact st _ _ j2
        · rw [List.pairwise_append]
          refine ⟨hpw, List.pairwise_singleton _ _, fun x hx y hy => ?_⟩
          have ey : y = (tp, y2, Yz, n) := by simpa using hy
          subst ey
          exact ne_of_none (hes x hx).1.2.1 k2
        · have h9 := hPL _ lf' (.keep (by omega) M (by omega) hout)
          rw [show told (es ++ [(tp, y2, Yz, n)]) ++ out = told es ++ ((Yz, n) :: out) by unfold told; rw [List.map_append]; simp]
          exact h9
      · have c2' : ¬ (1 : Int) < Yz.length := fun z => c2 (decide_eq_true z)
        refine ⟨.ref tb1, rfl, tb1, _, 0, .ref y1, rfl, rfl, .of htb, rfl, .ref tb1, rfl, tb1, _, 2, .ref y3, rfl, rfl, .of htb, rfl, _, rfl, _, _, rfl, rfl, ?_⟩
        exact ⟨Yg.length + Yl.length, by omega, y3, y1, Yl, Yg, n + 1, some (.ref tb1), es, rfl, rfl, smG1, hfo1, j3, j1, y3fo, y1fo, M.rt, M.rg, ml, M.mon, by omega, by omega, by omega, hes1, hpw, fun out lf' hout => hPL _ lf' (.skip (by omega) M (by omega) hout)⟩
    · -- behind the loop
      have c' : ¬ (1 : Int) < Wd.length := fun z => c (decide_eq_true z)
      have hdone := hPL [] L (.done (by omega))
      rw [List.append_nil] at hdone
      have O := Pl.ploop_ok hp.prm hsq hcop hdone _ _ _ _ (Nat.le_refl _) LI
      refine ⟨.ref lf, rfl, lf, _, rfl, .inl (.of hL), _, _, rfl, rfl, _, rfl, ?_⟩
      rw [List.length_map]
      refine ite2 (fun c2 => ?_) (fun c2 => ?_)
      · have c2' : (1 : Int) < L.length := of_decide_eq_true c2
        refine rd _ G fo t1 lf wd L _ _ es sm nfo nlf hfo hL rL (by omega) zL (Pl.every_row hp.prm O.rl O.ml O.flat) hes (by omega) fun G' σ es2 es3 h2 smG' hfo' hes' hpw3 hfresh P2 ht3 => ?_
        refine sorted_end G' σ (es ++ es3) h2 smG' hfo' hes' ?_ fun es' perm hs => ?_
        · rw [List.pairwise_append]
          exact ⟨hpw, hpw3, fun x hx y hy => ne_of_none (hes x hx).1.2.1 (hfresh y hy)⟩
        · refine .deep (Pl.rowL_row hpos _) ed M0 hdone (by omega) P2 ?_ (List.pairwise_map.mpr hs)
          rw [← ht3]
          have := perm.map (fun x : El => x.2.2)
          rw [List.map_append] at this
          exact this
      · have c2' : ¬ (1 : Int) < L.length := fun z => c2 (decide_eq_true z)
        refine sorted_end G _ es rfl sm hfo hes hpw fun es' perm hs => ?_
        exact .flat (Pl.rowL_row hpos _) ed M0 hdone (by omega) (perm.map (fun x : El => x.2.2)) (List.pairwise_map.mpr hs)
end
end Kp
-- W9
set_option Elab.async false
set_option linter.all false
set_option maxRecDepth 100000
set_option maxHeartbeats 4000000
namespace Kp
open PySem PySem.Spec PyProof.Rows L2
/-- r is l made plain -/
def PlainOf (p : Nat) (l r : List Int) : Prop := ∃ t : Int, 0 ≤ t ∧ t < p ∧ (p : Int) ∣ t * Pl.co l (l.length - 1) - 1 ∧ r = Pl.rowL p (Pl.smulL t l)
theorem one_mul_C {p : Nat} {t d : Int} (ht : (p : Int) ∣ t * d - 1) : Pl.mk p [t] * Pl.mk p [d] = (1 : Pl.Poly p) := by
  rw [Pl.Poly.one_def, Pl.Poly.mk_mul]
  refine Pl.mk_eq fun i => ?_
  rw [Pl.co_C_mul]
  cases i with
  | zero => exact ht
  | succ i => exact ⟨0, by simp⟩
theorem PlainOf.facts {p : Nat} (h : Pl.Prm p) {l r : List Int} (hl : Pl.IsRow p l) (hn : l ≠ []) (P : PlainOf p l r) : Pl.IsRow p r ∧ Pl.Poly.Mon (Pl.mk p r) ∧ Pl.mk p l = Pl.mk p [Pl.co l (l.length - 1)] * Pl.mk p r ∧ r.length ≤ l.length := by
  obtain ⟨t, h0, h1, hd, rfl⟩ := P
  have I := Pl.minv_start h hl (Pl.isRow_nil p) (.inl hn)
  have z := Pl.rowL_smul_len p t l
  have e := one_mul_C hd
  refine ⟨Pl.rowL_row h.pos _, ?_, ?_, z⟩
  · have hA0 : Pl.mk p l ≠ 0 := fun z => by
      have := Pl.Poly.len_of hl
      rw [z, Pl.Poly.len_zero] at this
      have := List.length_pos_iff.mpr hn
      omega
    have htn : Pl.mk p [t] ≠ (0 : Pl.Poly p) := fun z => by
      rw [z] at e
      exact Pl.Poly.one_ne h (by rw [← e]; grind)
    have elc : Pl.Poly.lc (Pl.mk p l) = Pl.co l (l.length - 1) := by unfold Pl.Poly.lc; rw [Pl.Poly.row_of hl, Pl.Poly.len_of hl]
    rw [Pl.mk_rowL, Pl.mk_smulL]
    have h1 := Pl.Poly.lc_mul h htn hA0
    have hlc : (p : Int) ∣ Pl.Poly.lc (Pl.mk p [t]) - t := by
      have h1 : Pl.Poly.len (Pl.mk p [t]) ≤ 1 := Pl.Poly.len_le_iff.mpr fun i hi => by
        cases i with
        | zero => omega
        | succ i => exact ⟨0, by simp⟩
      have h2 := Pl.Poly.len_pos htn
      have h3 := Pl.Poly.lc_mk h.pos (l := [t])
      rw [show Pl.Poly.len (Pl.mk p [t]) - 1 = 0 by omega, Pl.co_cons_zero] at h3
      exact h3
    refine Pl.Poly.mod_one h (Pl.Poly.lc_range h.pos _) ?_
    rw [elc] at h1
    obtain ⟨x, ex⟩ := h1
    obtain ⟨y, ey⟩ := hlc
    obtain ⟨z, ez⟩ := hd
    refine ⟨x + y * Pl.co l (l.length - 1) + z, ?_⟩
    generalize Pl.Poly.lc (Pl.mk p [t] * Pl.mk p l) = u at *
    generalize Pl.Poly.lc (Pl.mk p [t]) = v at *
    generalize Pl.co l (l.length - 1) = d at *
    grind
  · rw [Pl.mk_rowL, Pl.mk_smulL]
    have : Pl.mk p [Pl.co l (l.length - 1)] * (Pl.mk p [t] * Pl.mk p l) = (Pl.mk p [t] * Pl.mk p [Pl.co l (l.length - 1)]) * Pl.mk p l := by grind
    rw [this, e]; grind
theorem PlainOf.unique {p : Nat} (h : Pl.Prm p) {l r r' : List Int} (hl : Pl.IsRow p l) (hn : l ≠ []) (P : PlainOf p l r) (P' : PlainOf p l r') : r = r' := by
  obtain ⟨a1, _, a3, _⟩ := P.facts h hl hn
  obtain ⟨b1, _, b3, _⟩ := P'.facts h hl hn
  obtain ⟨t, _, _, hd, _⟩ := P
  have e := one_mul_C hd
  refine Pl.row_inj a1 b1 ?_
  have : Pl.mk p [Pl.co l (l.length - 1)] * Pl.mk p r = Pl.mk p [Pl.co l (l.length - 1)] * Pl.mk p r' := by rw [← a3, ← b3]
  refine Pl.Poly.cancel h (fun z => ?_) this
  rw [z] at e
  exact Pl.Poly.one_ne h (by rw [← e]; grind)

/-- NoParts as the top has left it -/
structure NP (K : PySem.W.Frag) (mg : Str → Option Value) (C : Addr) : Prop where
  g : mg "NoParts" = some (.ref C)
  x : PySem.W.excIn K C [.type "ValueError", .type "Exception", .type "BaseException", .type "object"] "ValueError.__new__" = true
  k : PySem.W.keepIn K (.ref C) = true
  b : PySem.W.subIn K (.ref C) (.type "BaseException") = some true
  t : PySem.W.typeIn K (.ref C) = some (.type "type")
  i : PySem.W.isClsIn K C = true
  s : PySem.W.subIn K (.ref C) (.ref C) = some true
theorem NP.exm {K : PySem.W.Frag} {mg : Str → Option Value} {C : Addr} (N : NP K mg C) : PySem.W.exmOne K (.ref C) (.ref C) = some true := by
  have e1 : (PySem.W.subIn K (.ref C) (.type "BaseException") == some true) = true := by rw [N.b] <;> rfl
  have e2 : ((PySem.W.clsIn K C).isSome && PySem.W.typeIn K (.ref C) == some (.type "type")) = true := by
    have h2' : (PySem.W.clsIn K C).isSome = true := N.i
    rw [h2', N.t] <;> rfl
  show (if (PySem.W.subIn K (.ref C) (.type "BaseException") == some true) = true then (if ((PySem.W.clsIn K C).isSome && PySem.W.typeIn K (.ref C) == some (.type "type")) = true then PySem.W.subIn K (.ref C) (.ref C) else none) else none) = some true
  rw [if_pos e1, if_pos e2]
  exact N.s
section
variable {P : Program} {w : World} {K : PySem.W.Frag} {mg : Str → Option Value} {base : Heap}
/-! ### parts -/
abbrev sParts : Stmt := topS 28
theorem scParts : FnScope ["prime", "row"] ["prime", "row"] (defScope sParts) := ⟨rfl, rfl, rfl, by decide +kernel, rfl, by decide +kernel, by decide +kernel⟩
def spParts : Sp := fun vs H Q _ => ∃ (p : Nat) (a : Addr) (l : List Int), vs = [.int p, .ref a] ∧ Pm p ∧ Ls H a l ∧ Pl.IsRow p l ∧ l ≠ [] ∧ l.length ≤ 128 ∧
  ∀ (H' : Hp) (t lt : Addr) (es : List El) (r : List Int), Same H H' → H t = none → H lt = none → H' t = some (.tup [.int (Pl.co l (l.length - 1)), .ref lt]) → H' lt = some (refsOf es) → (∀ x ∈ es, Elt H H' x ∧ x.1 ≠ lt ∧ x.2.1 ≠ lt) → (es.Pairwise fun x y => x.2.1 ≠ y.2.1) →
    PlainOf p l r → Pl.Parted p r (told es) → Q (.ref t) H'
theorem ok_parts {f fS fD fL : Addr} {fd fdS fdD fdL : FuncData} {k : Nat} (F : Fun K "parts" "parts" sParts f fd) (GS : FnOk P w K mg base CX0 k fS fdS ["prime"] spSure) (kS : PySem.W.keepIn K (.ref fS) = true) (bS : Binds K fdS ["prime"] []) (gS : mg "sure_prime" = some (.ref fS))
    (GD : FnOk P w K mg base CX0 k fD fdD ["prime", "row"] (spParted 7)) (kD : PySem.W.keepIn K (.ref fD) = true) (bD : Binds K fdD ["prime", "row"] []) (gD : mg "parted" = some (.ref fD))
    (GL : FnOk P w K mg base CX0 k fL fdL ["prime", "row"] spPlain) (kL : PySem.W.keepIn K (.ref fL) = true) (bL : Binds K fdL ["prime", "row"] []) (gL : mg "plain" = some (.ref fL)) :
    FnOk P w K mg base CX0 (k + 1) f fd ["prime", "row"] spParts := by
  refine F.ok scParts (fun vs H Q E h => ?_) (fun cdv A outer s H vs Q E hr h => ?_)
  · obtain ⟨p, a, l, rfl, _⟩ := h
    rfl
  · obtain ⟨p, a, l, rfl, hp, ha, ra, hn, za, q⟩ := h
    refine ⟨_, pss_cons (ps_expr (pe_call GS hr (by rfl) gS kS bS .nil pass0 (pa_cons (pv 0) pa_nil)))
      (pss_cons (ps_if (pt_cmpR (op_eqD hr.units) (pv 1) (pe_lst pa_nil) (nomark _)) pss_never pss_nil)
      (pss_one (ps_ret (pe_tup (pa_cons (pe_ix ix_list (pv 1) (pe_un un_neg pe_int) (fun _ _ => rfl)) (pa_cons (pe_call GD hr (by rfl) gD kD bD .nil pass0 (pa_cons (pv 0) (pa_cons (pe_call GL hr (by rfl) gL kL bL .nil pass0 (pa_cons (pv 0) (pa_cons (pv 1) pa_nil))) pa_nil))) pa_nil)))))), ?_⟩
    refine ⟨.int p, rfl, p, rfl, hp, .ref a, rfl, Nat.zero_le _, fun e0 n0 => ?_⟩
    obtain ⟨s0, ee0⟩ := new_st (o := .lst []) n0
    generalize upd H e0 (.lst []) = G0 at s0 ee0 ⊢
    refine ⟨dI l, dI [], dp_ls (s0 _ _ ha), dp_ls (l := []) ee0, dI_shaped _, dI_shaped _, _, rfl, ?_⟩
    rw [dI_eqv, decide_eq_false hn]
    refine iteF ?_
    refine ⟨.ref a, rfl, 1, rfl, a, _, -1, _, rfl, rfl, .of (s0 _ _ ha), at_neg (List.length_pos_iff.mpr hn), .int p, rfl, .int p, rfl, .ref a, rfl, p, a, l, rfl, hp, s0 _ _ ha, ra, hn, by omega, fun t t0 t1 td G1 r sG1 nr hr1 => ?_⟩
    have hP : PlainOf p l (Pl.rowL p (Pl.smulL t l)) := ⟨t, t0, t1, td, rfl⟩
    generalize Pl.rowL p (Pl.smulL t l) = rl at hP hr1
    obtain ⟨f1, f2, f3, f4⟩ := hP.facts hp.prm ra hn
    have sm1 := s0.trans sG1
    refine ⟨p, r, rl, rfl, hp, hr1, f1, f2, by show _ ≤ 128; omega, by omega, fun G2 lt es sG2 nlt hlt hes hpw hPa => ?_⟩
    have sm2 := sm1.trans sG2
    refine ⟨(by show 2 ≤ sizeLine; decide), fun t' nt' => ?_⟩
    obtain ⟨st, et⟩ := new_st (o := .tup [.int (Pl.co l (l.length - 1)), .ref lt]) nt'
    exact q _ t' lt es rl (sm2.trans st) (sm2.free nt') (sm1.free nlt) et (st _ _ hlt) (fun x hx => ⟨((hes x hx).1.from sm1).same st, (hes x hx).2⟩) hpw hP hPa
/-- parts of nought -/
def spPartsX (C : Addr) : Sp := fun vs H _ E => ∃ (p : Nat) (a : Addr), vs = [.int p, .ref a] ∧ Pm p ∧ Ls H a [] ∧ ∀ H', Same H H' → E (.ref C) none H'
theorem okX_parts {f fS C : Addr} {fd fdS : FuncData} {k : Nat} (F : Fun K "parts" "parts" sParts f fd) (GS : FnOk P w K mg base CX0 k fS fdS ["prime"] spSure) (kS : PySem.W.keepIn K (.ref fS) = true) (bS : Binds K fdS ["prime"] []) (gS : mg "sure_prime" = some (.ref fS)) (N : NP K mg C) :
    FnOk P w K mg base (L2N.CX P w) (k + 1) f fd ["prime", "row"] (spPartsX C) := by
  obtain ⟨oc, od, kV, doc, pm, an, cdv, ct, osl, rfl, lk, hcd⟩ := F.ex
  refine fn_of lk hcd scParts (fun vs H Q E h => ?_) (fun A outer s H vs Q E hr h => ?_)
  · obtain ⟨p, a, rfl, _⟩ := h
    rfl
  · obtain ⟨p, a, rfl, hp, ha, q⟩ := h
    refine ⟨_, pss_cons (ps_expr (pe_call GS hr (by rfl) gS kS bS .nil pass0 (pa_cons (pv 0) pa_nil)))
      (pss_cons (ps_if (pt_cmpR (op_eqD hr.units) (pv 1) (pe_lst pa_nil) (nomark _)) (pss_one (L2N.ps_raise rfl (L2N.takes_of rfl rfl rfl rfl) (L2N.pmk_own PySem.F.excBase_ValueError N.x N.g N.k (raises_own N.b N.t) rfl))) pss_nil)
      pss_never), ?_⟩
    refine ⟨.int p, rfl, p, rfl, hp, .ref a, rfl, Nat.zero_le _, fun e0 n0 => ?_⟩
    obtain ⟨s0, ee0⟩ := new_st (o := .lst []) n0
    generalize upd H e0 (.lst []) = G0 at s0 ee0 ⊢
    refine ⟨dI [], dI [], dp_ls (l := []) (s0 _ _ ha), dp_ls (l := []) ee0, dI_shaped _, dI_shaped _, _, rfl, ?_⟩
    rw [dI_eqv, decide_eq_true rfl]
    exact iteT (q _ s0)
end
end Kp
-- W10
set_option Elab.async false
set_option linter.all false
set_option maxRecDepth 100000
set_option maxHeartbeats 4000000
namespace Kp
open PySem PySem.Spec PyProof.Rows L2
/-- a number that no number below it (to 31) divides is a prime, below 1024 -/
theorem prm_of {n : Nat} (h2 : 2 ≤ n) (h3 : n ≤ 997) (hd : ∀ j : Nat, j < 30 → ¬ (2 + j < n ∧ n % (2 + j) = 0)) : Pm n := by
  refine ⟨⟨h2, fun a b hab => ?_⟩, h3⟩
  -- only 1 and n divide n
  have only : ∀ d : Nat, d ∣ n → d = 1 ∨ d = n := by
    intro d hdn
    obtain ⟨e, he⟩ := hdn
    by_cases d1 : d = 1
    · exact .inl d1
    · refine .inr ?_
      apply Classical.byContradiction
      intro dn
      have d0 : d ≠ 0 := fun z => by rw [z] at he; omega
      have e0 : e ≠ 0 := fun z => by rw [z] at he; omega
      have e1 : e ≠ 1 := fun z => by rw [z, Nat.mul_one] at he; exact dn he.symm
      by_cases hs : d ≤ 31
      · refine hd (d - 2) (by omega) ⟨?_, ?_⟩
        · have : d * 2 ≤ d * e := Nat.mul_le_mul_left _ (by omega)
          omega
        · rw [show 2 + (d - 2) = d by omega, he]
          exact Nat.mul_mod_right _ _
      · by_cases hs2 : e ≤ 31
        · refine hd (e - 2) (by omega) ⟨?_, ?_⟩
          · have : 2 * e ≤ d * e := Nat.mul_le_mul_right _ (by omega)
            omega
          · rw [show 2 + (e - 2) = e by omega, he]
            exact Nat.mul_mod_left _ _
        · have : 32 * 32 ≤ d * e := Nat.mul_le_mul (by omega) (by omega)
          omega
  have hg : Nat.gcd a.natAbs n ∣ n := Nat.gcd_dvd_right _ _
  rcases only _ hg with g1 | gn
  · refine .inr ?_
    obtain ⟨x, y, e⟩ := Pl.Poly.bez a.natAbs n
    rw [g1] at e
    obtain ⟨k, ek⟩ := hab
    rcases Int.natAbs_eq a with z | z
    · rw [← z] at e
      have h1 : b * (a * x + (n : Int) * y) = b := by rw [e]; simp
      have h2 : b * (a * x + (n : Int) * y) = (a * b) * x + (n : Int) * (b * y) := by grind
      rw [ek] at h2
      have h3 : b = (n : Int) * k * x + (n : Int) * (b * y) := h1.symm.trans h2
      exact ⟨k * x + b * y, h3.trans (by grind)⟩
    · have z2 : (a.natAbs : Int) = -a := by omega
      rw [z2] at e
      have h1 : b * (-a * x + (n : Int) * y) = b := by rw [e]; simp
      have h2 : b * (-a * x + (n : Int) * y) = -((a * b) * x) + (n : Int) * (b * y) := by grind
      rw [ek] at h2
      have h3 : b = -((n : Int) * k * x) + (n : Int) * (b * y) := h1.symm.trans h2
      exact ⟨-(k * x) + b * y, h3.trans (by grind)⟩
  · refine .inl ?_
    have : Nat.gcd a.natAbs n ∣ a.natAbs := Nat.gcd_dvd_left _ _
    rw [gn] at this
    exact Int.ofNat_dvd_left.mpr this

section
variable {P : Program} {w : World} {K : PySem.W.Frag} {mg : Str → Option Value} {base : Heap}
/-! ### _law_cell_at -/
abbrev sCell : Stmt := topS 30
theorem scCell : FnScope ["_law_script", "_law_k", "_law_cell", "_law_one", "_law_two"] ["_law_script", "_law_k"] (defScope sCell) := ⟨rfl, rfl, rfl, by decide +kernel, rfl, by decide +kernel, by decide +kernel⟩
def spCell (K : PySem.W.Frag) : Sp := fun vs H Q _ => ∃ (a : Addr) (ns : List Int) (k : Int), vs = [.ref a, .int k] ∧ SqL K H a (ns.map V.int) ∧ 0 ≤ k ∧ k ≤ 1000 ∧ ∀ z : Int, Q (.int z) H
theorem ok_cell {f : Addr} {fd : FuncData} {k : Nat} (F : Fun K "_law_cell_at" "_law_cell_at" sCell f fd) (T : Bt mg) : FnOk P w K mg base CX0 (k + 1) f fd ["_law_script", "_law_k"] (spCell K) := by
  refine F.ok scCell (fun vs H Q E h => ?_) (fun cdv A outer s H vs Q E hr h => ?_)
  · obtain ⟨a, ns, k, rfl, _⟩ := h
    rfl
  · obtain ⟨a, ns, n, rfl, ha, hk0, hk1, q⟩ := h
    have nd := scCell.nd
    refine ⟨_, pss_cons (ps_set (i := 2) nd rfl (.inl rfl) pe_int)
      (pss_cons (ps_if (pt_cmpR op_lt (pv 1) (pe_callB call_len_seq (by rfl) T.len PySem.boot_len (pa_cons (pv 0) pa_nil)) (nomark _)) (pss_one (ps_set (i := 2) nd rfl (.inl rfl) (pe_ix ix_list (pv 0) (pv 1) (fun _ _ => rfl)))) pss_nil)
      (pss_cons (ps_if (pt_cmpR op_gt (pe_callB call_abs (by rfl) T.abs bo_abs (pa_cons (pv 2) pa_nil)) (pe_op op_pow pe_int pe_int) (nomark _)) (pss_one (ps_ret (pv 2))) pss_nil)
      (pss_cons (ps_set (i := 3) nd rfl (.inl rfl) (pe_op op_mod (pe_op op_add (pe_op op_add (pe_op op_add (pe_op op_mul (pv 2) pe_int) (pe_op op_mul (pe_op op_mul pe_int (pv 1)) (pv 1))) (pe_op op_mul pe_int (pv 1))) pe_int) pe_int))
      (pss_cons (ps_set (i := 4) nd rfl (.inl rfl) (pe_op op_mod (pe_op op_mul (pe_op op_mod (pe_op op_mul (pv 3) (pv 3)) pe_int) pe_int) pe_int))
      (pss_one (ps_ret (pe_op op_add (pe_op op_mul (pe_op op_mod (pe_op op_mul (pv 4) (pv 4)) pe_int) pe_int) (pv 4)))))))), ?_⟩
    -- behind the reading of the cell
    have rest : ∀ (c : Int), tSeq (tIfS (tTest (tOp (rI0 fun i j => .bl (decide (j < i))) (tCB (fun xs H Q => ∃ i, xs = [.int i] ∧ Q (.int (if i < 0 then -i else i)) H) (tCons (tVar 2) tNil)) (tOp (rI CPow fun i j => .int (i ^ j.toNat)) (tC (.int 10)) (tC (.int 9))))) (tRet (tVar 2)) tNext)
        (tSeq (tAsg (tOp (rI (fun _ j => 0 < j) fun i j => .int (i % j)) (tOp (rI0 fun i j => .int (i + j)) (tOp (rI0 fun i j => .int (i + j)) (tOp (rI0 fun i j => .int (i + j)) (tOp (rI CMul fun i j => .int (i * j)) (tVar 2) (tC (.int 48271))) (tOp (rI CMul fun i j => .int (i * j)) (tOp (rI CMul fun i j => .int (i * j)) (tC (.int 7919)) (tVar 1)) (tVar 1))) (tOp (rI CMul fun i j => .int (i * j)) (tC (.int 104729)) (tVar 1))) (tC (.int 11))) (tC (.int 2147483647))) (gName 3))
        (tSeq (tAsg (tOp (rI (fun _ j => 0 < j) fun i j => .int (i % j)) (tOp (rI CMul fun i j => .int (i * j)) (tOp (rI (fun _ j => 0 < j) fun i j => .int (i % j)) (tOp (rI CMul fun i j => .int (i * j)) (tVar 3) (tVar 3)) (tC (.int 2147483629))) (tC (.int 69621))) (tC (.int 2147483647))) (gName 4))
        (tRet (tOp (rI0 fun i j => .int (i + j)) (tOp (rI CMul fun i j => .int (i * j)) (tOp (rI (fun _ j => 0 < j) fun i j => .int (i % j)) (tOp (rI CMul fun i j => .int (i * j)) (tVar 4) (tVar 4)) (tC (.int 2147483587))) (tC (.int 2147483647))) (tVar 4)))))
        { nx := fun _ H' => Q .non H', rt := Q } [some (.ref a), some (.int n), some (.int c), none, none] H := fun c => by
      refine ⟨.int c, rfl, c, rfl, _, _, rfl, rfl, ⟨by decide, by decide, by decide⟩, _, _, rfl, rfl, _, rfl, ite2 (fun _ => ⟨.int c, rfl, q c⟩) (fun _ => ?_)⟩
      refine ⟨.int c, rfl, _, _, rfl, rfl, .inr ⟨by decide, by decide⟩, .int n, rfl, _, _, rfl, rfl, .inl ⟨by decide, by decide⟩, .int n, rfl, _, _, rfl, rfl, .inr ⟨by omega, by omega⟩, _, _, rfl, rfl, .int n, rfl, _, _, rfl, rfl, .inl ⟨by decide, by decide⟩, _, _, rfl, rfl, _, _, rfl, rfl, _, _, rfl, rfl, by show (0 : Int) < 2147483647; decide, ?_⟩
      dsimp only
      have a0 := Int.emod_nonneg (c * 48271 + 7919 * n * n + 104729 * n + 11) (show (2147483647 : Int) ≠ 0 by decide)
      have a1 := Int.emod_lt_of_pos (c * 48271 + 7919 * n * n + 104729 * n + 11) (show (0 : Int) < 2147483647 by decide)
      generalize (c * 48271 + 7919 * n * n + 104729 * n + 11) % 2147483647 = one at a0 a1
      refine ⟨.int one, rfl, .int one, rfl, _, _, rfl, rfl, .inl ⟨by omega, by omega⟩, _, _, rfl, rfl, by show (0 : Int) < 2147483629; decide, _, _, rfl, rfl, .inr ⟨by decide, by decide⟩, _, _, rfl, rfl, by show (0 : Int) < 2147483647; decide, ?_⟩
      dsimp only
      have b0 := Int.emod_nonneg (one * one % 2147483629 * 69621) (show (2147483647 : Int) ≠ 0 by decide)
      have b1 := Int.emod_lt_of_pos (one * one % 2147483629 * 69621) (show (0 : Int) < 2147483647 by decide)
      generalize one * one % 2147483629 * 69621 % 2147483647 = two at b0 b1
      exact ⟨.int two, rfl, .int two, rfl, _, _, rfl, rfl, .inl ⟨by omega, by omega⟩, _, _, rfl, rfl, by show (0 : Int) < 2147483587; decide, _, _, rfl, rfl, .inr ⟨by decide, by decide⟩, .int two, rfl, _, _, rfl, rfl, q _⟩
    refine ⟨.int n, rfl, .ref a, rfl, a, ns.map V.int, rfl, .inl ha, _, _, rfl, rfl, _, rfl, ?_⟩
    rw [List.length_map]
    refine ite2 (fun c => ?_) (fun _ => rest 0)
    have c' : n < ns.length := of_decide_eq_true c
    exact ⟨.ref a, rfl, .int n, rfl, a, _, _, _, rfl, rfl, ha, at_ls (i := n.toNat) (by omega) (by omega), rest _⟩
/-! ### _law_whole -/
abbrev sWhole : Stmt := topS 31
theorem scWhole : FnScope ["_law_found"] ["_law_found"] (defScope sWhole) := ⟨rfl, rfl, rfl, by decide +kernel, rfl, by decide +kernel, by decide +kernel⟩
def spWhole : Sp := fun vs H Q _ => ∃ n : Int, vs = [.int n] ∧ Q (.bl true) H
theorem ok_whole {f : Addr} {fd : FuncData} {k : Nat} (F : Fun K "_law_whole" "_law_whole" sWhole f fd) (T : Bt mg) : FnOk P w K mg base CX0 (k + 1) f fd ["_law_found"] spWhole := by
  refine F.ok scWhole (fun vs H Q E h => ?_) (fun cdv A outer s H vs Q E hr h => ?_)
  · obtain ⟨n, rfl, _⟩ := h
    rfl
  · obtain ⟨n, rfl, q⟩ := h
    refine ⟨_, pss_one (ps_ret (pe_and (pe_callB call_isi (by rfl) T.isin bo_isin (pa_cons (pv 0) (pa_cons (pe_bltn (v := .ty "int") (by rfl) T.int bo_int rfl) pa_nil)))
      (pe_one (pe_not (pe_callB call_isi (by rfl) T.isin bo_isin (pa_cons (pv 0) (pa_cons (pe_bltn (v := .ty "bool") (by rfl) T.bool bo_bool rfl) pa_nil))))))), ?_⟩
    exact ⟨.int n, rfl, .int n, .ty "int", _, _, true, rfl, .ty "int", .base (.int _), kit_ty kii, _, rfl, iteT ⟨.int n, rfl, .int n, .ty "bool", _, _, false, rfl, .ty "bool", .base (.int _), kit_ty kib, _, rfl, q⟩⟩
/-! ### _law_prime_by -/
abbrev sPrimeBy : Stmt := topS 32
theorem scPrimeBy : FnScope ["_law_cell", "_law_number", "_law_k"] ["_law_cell"] (defScope sPrimeBy) := ⟨rfl, rfl, rfl, by decide +kernel, rfl, by decide +kernel, by decide +kernel⟩
def spPrimeBy : Sp := fun vs H Q _ => ∃ c : Int, vs = [.int c] ∧ ∀ (p : Nat) (H' : Hp), Pm p → Same H H' → Q (.int p) H'
/-- the numbers that divide it, of the first i -/
def divs (n : Int) (i : Nat) : List Int := ((List.range i).map fun (j : Nat) => (2 + (j : Int))).filter fun k => decide (k < n) && decide (n % k = 0)
theorem divs_succ (n : Int) (i : Nat) : divs n (i + 1) = divs n i ++ (if (decide (2 + (i : Int) < n) && decide (n % (2 + (i : Int)) = 0)) = true then [2 + (i : Int)] else []) := by
  unfold divs
  rw [List.range_succ, List.map_append, List.filter_append]
  congr 1
  simp only [List.map_cons, List.map_nil, List.filter_cons, List.filter_nil]
theorem ok_prime_by {f : Addr} {fd : FuncData} {k : Nat} (F : Fun K "_law_prime_by" "_law_prime_by" sPrimeBy f fd) (T : Bt mg) : FnOk P w K mg base CX0 (k + 1) f fd ["_law_cell"] spPrimeBy := by
  refine F.ok scPrimeBy (fun vs H Q E h => ?_) (fun cdv A outer s H vs Q E hr h => ?_)
  · obtain ⟨n, rfl, _⟩ := h
    rfl
  · obtain ⟨c, rfl, q⟩ := h
    have nd := scPrimeBy.nd
    refine ⟨_, pss_cons (ps_set (i := 1) nd rfl (.inr rfl) (pe_ix ix_list (pe_lst (pa_cons pe_int (pa_cons pe_int (pa_cons pe_int (pa_cons pe_int (pa_cons pe_int (pa_cons pe_int (pa_cons (pe_op op_add pe_int (pe_op op_mod (pe_op op_fdiv (pv 0) pe_int) pe_int)) (pa_cons (pe_op op_add pe_int (pe_op op_mod (pe_op op_fdiv (pv 0) pe_int) pe_int)) pa_nil)))))))))
        (pe_op op_mod (pv 0) pe_int) (fun _ _ => rfl)))
      (pss_cons (ps_while PassesOwn.never (pt_cmpR (op_neD hr.units) (pe_lc (own := [("_law_k", 2)]) (g := gName 2) (tt := tAnd (tTest (tOp rLt (tVar 2) (tVar 1))) (tTest (tOp rEq (tOp rMod (tVar 1) (tVar 2)) (tC (.int 0))))) (by rfl) nd (pi_range2 (by rfl) T.range (pa_cons pe_int (pa_cons pe_int pa_nil)))
            (blkOk_by (own := [("_law_k", 2)]) (N := ["_law_cell", "_law_number", "_law_k"]) (sc := defScope sPrimeBy) (by decide +kernel)) (fun _ _ _ _ _ => pg_name (i := 2) nd rfl (Or.inl rfl))
            (fun _ _ _ _ _ => pts_one (PW.pt (pw_and (pt_cmpR op_lt (pv 2) (pv 1) (nomark _)) (pw_and1 (pt_cmpR op_eq (pe_op op_mod (pv 1) (pv 2)) pe_int (nomark _)))))) (fun _ _ _ _ _ => pv 2)) (pe_lst pa_nil) (nomark _))
        (pss_one (ps_set (i := 1) nd rfl (.inr rfl) (pe_op op_sub (pv 1) pe_int))))
      (pss_one (ps_ret (pv 1)))), ?_⟩
    refine ⟨.int c, rfl, _, _, rfl, rfl, ⟨by decide, by decide⟩, _, _, rfl, rfl, by show (0 : Int) < 996; decide, _, _, rfl, rfl, .int c, rfl, _, _, rfl, rfl, ⟨by decide, by decide⟩, _, _, rfl, rfl, by show (0 : Int) < 996; decide, _, _, rfl, rfl, (by show 8 ≤ sizeLine; decide), fun l1 n1 => ?_⟩
    dsimp only
    have m0 := Int.emod_nonneg (c / 8) (show (996 : Int) ≠ 0 by decide)
    have m1 := Int.emod_lt_of_pos (c / 8) (show (0 : Int) < 996 by decide)
    generalize c / 8 % 996 = m at m0 m1 ⊢
    obtain ⟨s1, e1⟩ := new_st (o := .lst [.int 2, .int 3, .int 5, .int 7, .int 11, .int 13, .int (2 + m), .int (2 + m)]) n1
    generalize upd H l1 (.lst [.int 2, .int 3, .int 5, .int 7, .int 11, .int 13, .int (2 + m), .int (2 + m)]) = H1 at s1 e1 ⊢
    have c0 := Int.emod_nonneg c (show (8 : Int) ≠ 0 by decide)
    have c1 := Int.emod_lt_of_pos c (show (0 : Int) < 8 by decide)
    obtain ⟨v, hv, hv2, hv3⟩ : ∃ v : Int, atI [V.int 2, .int 3, .int 5, .int 7, .int 11, .int 13, .int (2 + m), .int (2 + m)] (c % 8) = some (.int v) ∧ 2 ≤ v ∧ v ≤ 997 := by
      have : c % 8 = 0 ∨ c % 8 = 1 ∨ c % 8 = 2 ∨ c % 8 = 3 ∨ c % 8 = 4 ∨ c % 8 = 5 ∨ c % 8 = 6 ∨ c % 8 = 7 := by omega
      rcases this with e | e | e | e | e | e | e | e <;> rw [e]
      · exact ⟨2, rfl, by omega, by omega⟩
      · exact ⟨3, rfl, by omega, by omega⟩
      · exact ⟨5, rfl, by omega, by omega⟩
      · exact ⟨7, rfl, by omega, by omega⟩
      · exact ⟨11, rfl, by omega, by omega⟩
      · exact ⟨13, rfl, by omega, by omega⟩
      · exact ⟨2 + m, rfl, by omega, by omega⟩
      · exact ⟨2 + m, rfl, by omega, by omega⟩
    refine ⟨.int c, rfl, _, _, rfl, rfl, by show (0 : Int) < 8; decide, l1, _, _, .int v, rfl, rfl, .of e1, hv, ?_⟩
    -- the loop
    refine ⟨fun mm σ G => ∃ n : Nat, mm = n ∧ σ = [some (.int c), some (.int (n : Nat)), none] ∧ Same H G ∧ 2 ≤ n ∧ n ≤ 997, ⟨v.toNat, v.toNat, rfl, ?_, s1, by omega, by omega⟩, ?_⟩
    · have : ((v.toNat : Nat) : Int) = v := by omega
      rw [this]; rfl
    rintro mm σ G ⟨n, emm, rfl, sm, h2, h3⟩
    refine ⟨2, 32, rfl, ⟨by decide, by decide, by decide, by decide⟩, fun D hD => lc_range (lo := 2) (n := 30) (fun i G' => Same G G' ∧ Ls G' D (divs n i)) ⟨same_new (Same.refl _) hD, upd_same⟩ ?_ ?_⟩
    · rintro i G' hi ⟨sG, hd⟩
      have hlen : (divs n i).length < sizeLine := small_line (by
        unfold divs
        refine Nat.le_trans (List.length_filter_le _ _) ?_
        rw [List.length_map, List.length_range]; omega)
      refine ⟨rfl, .int (2 + (i : Nat)), rfl, .int n, rfl, _, _, rfl, rfl, _, rfl, ite2 (fun c => ?_) (fun c => ?_)⟩
      · have c' : 2 + (i : Int) < n := of_decide_eq_true c
        refine ⟨.int n, rfl, .int (2 + (i : Nat)), rfl, _, _, rfl, rfl, by show (0 : Int) < 2 + (i : Nat); omega, rfl, _, rfl, ite2 (fun c2 => ?_) (fun c2 => ?_)⟩
        · have c2' : (n : Int) % (2 + (i : Nat)) = 0 := V.int.inj (of_decide_eq_true c2)
          refine ⟨.int (2 + (i : Nat)), rfl, _, hd, by rw [List.length_map]; exact hlen, same_mut sG hD, ?_⟩
          rw [divs_succ, if_pos (by rw [decide_eq_true c', decide_eq_true c2']; rfl)]
          exact ls_app
        · have c2' : ¬ (n : Int) % (2 + (i : Nat)) = 0 := fun z => c2 (decide_eq_true (show V.int ((n : Int) % (2 + (i : Nat))) = V.int 0 by rw [z]))
          refine ⟨sG, ?_⟩
          rw [divs_succ, if_neg (by rw [decide_eq_false c2', Bool.and_false]; decide), List.append_nil]
          exact hd
      · have c' : ¬ 2 + (i : Int) < n := fun z => c (decide_eq_true z)
        refine iteF ⟨sG, ?_⟩
        rw [divs_succ, if_neg (by rw [decide_eq_false c', Bool.false_and]; decide), List.append_nil]
        exact hd
    · rintro G1 ⟨sG, hd⟩
      refine ⟨Nat.zero_le _, fun e0 n0 => ?_⟩
      obtain ⟨s0, ee0⟩ := new_st (o := .lst []) n0
      generalize upd G1 e0 (.lst []) = G2 at s0 ee0 ⊢
      have sm2 := sm.trans (sG.trans s0)
      refine ⟨dI (divs n 30), dI [], dp_ls (s0 _ _ hd), dp_ls (l := []) ee0, dI_shaped _, dI_shaped _, _, rfl, ?_⟩
      rw [dI_eqv]
      have mem : ∀ j : Nat, j < 30 → (2 + j < n ∧ n % (2 + j) = 0) → (2 + (j : Int)) ∈ divs n 30 := fun j hj ⟨g1, g2⟩ => by
        unfold divs
        refine List.mem_filter.mpr ⟨List.mem_map.mpr ⟨j, List.mem_range.mpr hj, rfl⟩, ?_⟩
        rw [decide_eq_true (show (2 : Int) + j < n by omega), decide_eq_true (show (n : Int) % (2 + j) = 0 by exact_mod_cast g2)]
        rfl
      by_cases hz : divs n 30 = []
      · rw [decide_eq_true hz]
        refine iteF ⟨.int n, rfl, q n G2 (prm_of h2 h3 fun j hj hh => ?_) sm2⟩
        have := mem j hj hh
        rw [hz] at this
        simp at this
      · rw [decide_eq_false hz]
        refine iteT ⟨fun σ' G' => σ' = [some (.int c), some (.int ((n - 1 : Nat) : Nat)), none] ∧ G' = G2, fun σ' G' ⟨e1, e2⟩ => ?_, .int n, rfl, _, _, rfl, rfl, ?_, rfl⟩
        · -- something below it divides it: it is not 2
          have hn3 : 3 ≤ n := by
            obtain ⟨x, hx⟩ := List.exists_mem_of_ne_nil _ hz
            unfold divs at hx
            obtain ⟨h4, h5⟩ := List.mem_filter.mp hx
            obtain ⟨j, _, rfl⟩ := List.mem_map.mp h4
            have h6 := (Bool.and_eq_true_iff.mp h5).1
            have := of_decide_eq_true h6
            omega
          rw [e2]
          exact ⟨n - 1, by omega, n - 1, rfl, e1, sm2, by omega, by omega⟩
        · show [some (V.int c), some (V.int ((n : Int) - 1)), none] = _
          have : (n : Int) - 1 = ((n - 1 : Nat) : Int) := by omega
          rw [this]
end
end Kp
-- W11
set_option Elab.async false
set_option linter.all false
set_option maxRecDepth 100000
set_option maxHeartbeats 4000000
namespace Kp
open PySem PySem.Spec PyProof.Rows L2
section
variable {P : Program} {w : World} {K : PySem.W.Frag} {mg : Str → Option Value} {base : Heap}
/-! ### _law_cut -/
abbrev sLCut : Stmt := topS 33
theorem scLCut : FnScope ["_law_numbers", "_law_many"] ["_law_numbers"] (defScope sLCut) := ⟨rfl, rfl, rfl, by decide +kernel, rfl, by decide +kernel, by decide +kernel⟩
theorem ok_lcut {f : Addr} {fd : FuncData} {k : Nat} (F : Fun K "_law_cut" "_law_cut" sLCut f fd) (T : Bt mg) : FnOk P w K mg base CX0 (k + 1) f fd ["_law_numbers"] spCut := by
  refine F.ok scLCut (fun vs H Q E h => ?_) (fun cdv A outer s H vs Q E hr h => ?_)
  · obtain ⟨a, l, rfl, _⟩ := h
    rfl
  · obtain ⟨a, l, rfl, hl, q⟩ := h
    refine ⟨_, pss_cons (ps_set (i := 1) scLCut.nd rfl (.inl rfl) (pe_callB call_len_seq (by rfl) T.len PySem.boot_len (pa_cons (pv 0) pa_nil)))
      (pss_cons (ps_while PassesOwn.never (PW.pt (pw_and (pt_cmpR op_gt (pv 1) pe_int (nomark _)) (pw_and1 (pt_cmpR op_eq (pe_ix ix_list (pv 0) (pe_op op_sub (pv 1) pe_int) (fun _ _ => rfl)) pe_int (nomark _)))))
        (pss_one (ps_set (i := 1) scLCut.nd rfl (.inl rfl) (pe_op op_sub (pv 1) pe_int))))
      (pss_one (ps_ret (pe_slice sl_list (pv 0) po_none (po_some (pv 1)))))), ?_⟩
    refine ⟨.ref a, rfl, a, l.map V.int, rfl, .inl (.of hl), ?_⟩
    rw [List.length_map]
    refine ⟨fun m σ H' => σ = [some (.ref a), some (.int (m : Nat))] ∧ H' = H ∧ m ≤ l.length ∧ ∀ j, m ≤ j → Pl.co l j = 0, ⟨l.length, rfl, rfl, Nat.le_refl _, fun j hj => Pl.co_ge hj⟩, ?_⟩
    rintro m σ H' ⟨rfl, rfl, hm, hz⟩
    have done : (m = 0 ∨ Pl.co l (m - 1) ≠ 0) → NewL H' Q (l.take m) := fun h => by rw [cut_take hz h]; exact q
    have fin : NewL H' Q (l.take m) → tRet (tSl (rSlL K) (tVar 0) tNoPart (tPart (tVar 1))) { nx := fun _ H' => Q .non H', rt := Q } [some (.ref a), some (.int (m : Nat))] H' := fun n =>
      ⟨.ref a, rfl, .int m, rfl, m, rfl, a, l.map V.int, rfl, .of hl, fun p hp => n _ p (same_new (Same.refl _) hp) hp (by
        rw [cutv_to _ rfl, ← List.map_take]
        exact upd_same)⟩
    refine ⟨.int m, rfl, _, _, rfl, rfl, _, rfl, ite2 (fun c => ?_) (fun c => ?_)⟩
    · have c' : (0 : Int) < m := of_decide_eq_true c
      refine ⟨.ref a, rfl, .int m, rfl, _, _, rfl, rfl, a, l.map V.int, _, _, rfl, rfl, .of hl, at_ls (i := m - 1) (by omega) (by omega), rfl, _, rfl, ite2 (fun e => ?_) (fun e => ?_)⟩
      · have e' : Pl.co l (m - 1) = 0 := V.int.inj (of_decide_eq_true e)
        refine ⟨fun σ' H2 => σ' = [some (.ref a), some (.int ((m - 1 : Nat)))] ∧ H2 = H', fun σ' H2 ⟨e1, e2⟩ => ⟨m - 1, by omega, e1, e2, by omega, fun j hj => ?_⟩, .int m, rfl, _, _, rfl, rfl, ?_, rfl⟩
        · by_cases hj2 : j = m - 1
          · rw [hj2]; exact e'
          · exact hz j (by omega)
        · show [some (V.ref a), some (V.int ((m : Int) - 1))] = _
          have : (m : Int) - 1 = ((m - 1 : Nat) : Int) := by omega
          rw [this]
      · have e' : Pl.co l (m - 1) ≠ 0 := fun z => e (decide_eq_true (by rw [z]))
        exact fin (done (.inr e'))
    · have c' : ¬ (0 : Int) < m := fun z => c (decide_eq_true z)
      exact iteF (fin (done (.inl (by omega))))
/-! ### _law_drawn -/
abbrev sDrawn : Stmt := topS 34
theorem scDrawn : FnScope ["_law_prime", "_law_cell", "_law_size", "_law_numbers", "_law_k", "_law_mixed"] ["_law_prime", "_law_cell", "_law_size"] (defScope sDrawn) := ⟨rfl, rfl, rfl, by decide +kernel, rfl, by decide +kernel, by decide +kernel⟩
def spDrawn : Sp := fun vs H Q _ => ∃ (p : Nat) (c z : Int), vs = [.int p, .int c, .int z] ∧ Pm p ∧ 0 ≤ z ∧ z ≤ 4 ∧ ∀ r : List Int, Pl.IsRow p r → (r.length : Int) ≤ z → NewL H Q r
theorem ok_drawn {f fC : Addr} {fd fdC : FuncData} {k : Nat} (F : Fun K "_law_drawn" "_law_drawn" sDrawn f fd) (GC : FnOk P w K mg base CX0 k fC fdC ["_law_numbers"] spCut) (kC : PySem.W.keepIn K (.ref fC) = true) (bC : Binds K fdC ["_law_numbers"] []) (gC : mg "_law_cut" = some (.ref fC)) (T : Bt mg) :
    FnOk P w K mg base CX0 (k + 1) f fd ["_law_prime", "_law_cell", "_law_size"] spDrawn := by
  refine F.ok scDrawn (fun vs H Q E h => ?_) (fun cdv A outer s H vs Q E hr h => ?_)
  · obtain ⟨p, c, z, rfl, _⟩ := h
    rfl
  · obtain ⟨p, c, z, rfl, hp, z0, z1, q⟩ := h
    have nd := scDrawn.nd
    have hpos := hp.pos
    refine ⟨_, pss_cons (ps_set (i := 3) nd rfl (.inl rfl) (pe_lst pa_nil))
      (pss_cons (ps_for PassesOwn.never rfl (pi_range1 (by rfl) T.range (pa_cons (pv 2) pa_nil)) (pg_name (i := 4) nd rfl (.inl rfl))
        (pss_cons (ps_set (i := 5) nd rfl (.inl rfl) (pe_op op_mod (pe_op op_add (pv 1) (pe_op op_mul pe_int (pv 4))) pe_int))
        (pss_cons (ps_set (i := 5) nd rfl (.inl rfl) (pe_op op_mod (pe_op op_mul (pe_op op_mod (pe_op op_mul (pv 5) (pv 5)) pe_int) pe_int) pe_int))
        (pss_one (ps_expr (pe_bm PySem.F.plainAttrs_list PySem.F.slot_list_append PySem.F.type_list_append mt_append (pv 3) (pa_cons (pe_op op_mod (pe_op op_fdiv (pv 5) (pe_op op_add pe_int (pv 4))) (pv 0)) pa_nil)))))))
      (pss_one (ps_ret (pe_call GC hr (by rfl) gC kC bC .nil pass0 (pa_cons (pv 3) pa_nil))))), ?_⟩
    refine ⟨Nat.zero_le _, fun l1 n1 => ?_⟩
    obtain ⟨s1, e1⟩ := new_st (o := .lst []) n1
    generalize upd H l1 (.lst []) = H1 at s1 e1 ⊢
    refine ⟨.int z, rfl, _, rfl, by omega, by omega, for_range (lo := 0) (n := z.toNat) (fun i σ G => ∃ (nl : List Int) (y4 y5 : Option V), σ = [some (.int p), some (.int c), some (.int z), some (.ref l1), y4, y5] ∧ Same H G ∧ Ls G l1 nl ∧ nl.length = i ∧ ∀ x ∈ nl, 0 ≤ x ∧ x < (p : Int))
      ⟨[], none, none, rfl, s1, e1, rfl, fun x hx => by simp at hx⟩ ?_ ?_⟩
    · rintro i σ G hi ⟨nl, y4, y5, rfl, sm, hl, zl, hx⟩
      refine ⟨.int c, rfl, .int (0 + (i : Nat)), rfl, _, _, rfl, rfl, .inl ⟨by decide, by decide⟩, _, _, rfl, rfl, _, _, rfl, rfl, by show (0 : Int) < 2147483647; decide, ?_⟩
      dsimp only
      have a0 := Int.emod_nonneg (c + 7919 * (0 + (i : Nat))) (show (2147483647 : Int) ≠ 0 by decide)
      have a1 := Int.emod_lt_of_pos (c + 7919 * (0 + (i : Nat))) (show (0 : Int) < 2147483647 by decide)
      generalize (c + 7919 * (0 + (i : Nat))) % 2147483647 = m at a0 a1
      refine ⟨.int m, rfl, .int m, rfl, _, _, rfl, rfl, .inl ⟨by omega, by omega⟩, _, _, rfl, rfl, by show (0 : Int) < 2147483629; decide, _, _, rfl, rfl, .inr ⟨by decide, by decide⟩, _, _, rfl, rfl, by show (0 : Int) < 2147483647; decide, ?_⟩
      dsimp only
      generalize m * m % 2147483629 * 48271 % 2147483647 = m2
      refine ⟨.ref l1, rfl, .inl ⟨rfl, _, .of hl⟩, .int m2, rfl, .int (0 + (i : Nat)), rfl, _, _, rfl, rfl, _, _, rfl, rfl, ⟨by omega, by omega⟩, .int p, rfl, _, _, rfl, rfl, by show (0 : Int) < p; omega, l1, _, _, rfl, rfl, hl, by rw [List.length_map]; exact small_line (by omega), nl ++ [m2 / (1 + (0 + (i : Nat))) % p], _, _, rfl, same_mut sm n1, ls_app, by rw [List.length_append, zl]; rfl, fun x hm => ?_⟩
      rcases List.mem_append.mp hm with e | e
      · exact hx x e
      · have ex : x = m2 / (1 + (0 + (i : Nat))) % p := by simpa using e
        rw [ex]
        exact ⟨Int.emod_nonneg _ (by omega), Int.emod_lt_of_pos _ (by omega)⟩
    · rintro σ G ⟨nl, y4, y5, rfl, sm, hl, zl, hx⟩
      refine ⟨.ref l1, rfl, l1, nl, rfl, hl, fun H2 r sm2 nr hr2 => ?_⟩
      have hrow : Pl.IsRow p (Pl.cutL nl) := ⟨fun x hm => hx x (Pl.cut_mem hm), Pl.cut_last _⟩
      refine q _ hrow ?_ H2 r (sm.trans sm2) (sm.free nr) hr2
      have := Pl.cut_len nl
      omega
/-! ### _law_is_row -/
abbrev sIsRow : Stmt := topS 35
theorem scIsRow : FnScope ["_law_prime", "_law_found", "_law_number"] ["_law_prime", "_law_found"] (defScope sIsRow) := ⟨rfl, rfl, rfl, by decide +kernel, rfl, by decide +kernel, by decide +kernel⟩
def spIsRow : Sp := fun vs H Q _ => ∃ (p : Nat) (a : Addr) (l : List Int), vs = [.int p, .ref a] ∧ Ls H a l ∧ Pl.IsRow p l ∧ ∀ H', Same H H' → Q (.bl true) H'
theorem ok_is_row {f fW : Addr} {fd fdW : FuncData} {k : Nat} (F : Fun K "_law_is_row" "_law_is_row" sIsRow f fd) (GW : FnOk P w K mg base CX0 k fW fdW ["_law_found"] spWhole) (kW : PySem.W.keepIn K (.ref fW) = true) (bW : Binds K fdW ["_law_found"] []) (gW : mg "_law_whole" = some (.ref fW)) (T : Bt mg) :
    FnOk P w K mg base CX0 (k + 1) f fd ["_law_prime", "_law_found"] spIsRow := by
  refine F.ok scIsRow (fun vs H Q E h => ?_) (fun cdv A outer s H vs Q E hr h => ?_)
  · obtain ⟨p, a, l, rfl, _⟩ := h
    rfl
  · obtain ⟨p, a, l, rfl, ha, ra, q⟩ := h
    have nd := scIsRow.nd
    refine ⟨_, pss_cons (ps_if (pt_not (pt_val (pe_callB call_isi (by rfl) T.isin bo_isin (pa_cons (pv 1) (pa_cons (pe_bltn (v := .ty "list") (by rfl) T.list bo_list rfl) pa_nil))))) (pss_one (ps_ret pe_bl)) pss_nil)
      (pss_cons (ps_for PassesOwn.never rfl (pi_list (pv 1)) (pg_name (i := 2) nd rfl (.inl rfl))
        (pss_one (ps_if (PW.pt (pw_or (pt_not (pt_val (pe_call GW hr (by rfl) gW kW bW .nil pass0 (pa_cons (pv 2) pa_nil)))) (pw_or1 (pt_not (pt_chain op_le op_lt pe_int (pv 2) (pv 0)))))) (pss_one (ps_ret pe_bl)) pss_nil)))
      (pss_one (ps_ret (pe_or (pe_cmpR (op_eqD hr.units) (pv 1) (pe_lst pa_nil) (nomark _)) (pe_one (pe_cmpR op_ne (pe_ix ix_list (pv 1) (pe_un un_neg pe_int) (fun _ _ => rfl)) pe_int (nomark _))))))), ?_⟩
    refine ⟨.ref a, rfl, .ref a, .ty "list", _, _, true, rfl, .ty "list", .base (.lst ha), kit_ty kll, _, rfl, iteF ?_⟩
    refine ⟨.ref a, rfl, a, rfl, ⟨_, .of ha⟩, for_list (K := K) (a := a) (xs := l.map V.int) (fun i σ G => ∃ y, σ = [some (.int p), some (.ref a), y] ∧ G = H) ⟨none, rfl, rfl⟩ (fun i σ G _ ⟨_, _, e⟩ => by rw [e]; exact .of ha) ?_ ?_⟩
    · rintro i x σ G hx ⟨y, rfl, rfl⟩
      have hi : i < l.length := by
        have := (List.getElem?_eq_some_iff.mp hx).1
        rw [List.length_map] at this
        exact this
      rw [map_get hi] at hx
      cases hx
      have h1 := ra.rests _ (List.mem_of_getElem? (Pl.co_some hi))
      refine ⟨_, rfl, _, rfl, _, rfl, iteF ⟨_, rfl, _, _, rfl, rfl, _, rfl, ?_⟩⟩
      rw [decide_eq_true h1.1]
      refine iteT ⟨.int p, rfl, _, _, rfl, rfl, _, rfl, ?_⟩
      rw [decide_eq_true h1.2]
      exact iteF ⟨_, rfl, rfl⟩
    · rintro σ G ⟨y, rfl, rfl⟩
      refine ⟨.ref a, rfl, Nat.zero_le _, fun e0 n0 => ?_⟩
      obtain ⟨s0, ee0⟩ := new_st (o := .lst []) n0
      generalize upd G e0 (.lst []) = G2 at s0 ee0 ⊢
      refine ⟨dI l, dI [], dp_ls (s0 _ _ ha), dp_ls (l := []) ee0, dI_shaped _, dI_shaped _, _, rfl, ?_⟩
      rw [dI_eqv]
      by_cases hz : l = []
      · rw [decide_eq_true hz]
        exact iteT (q _ s0)
      · rw [decide_eq_false hz]
        refine iteF ⟨.ref a, rfl, 1, rfl, a, _, -1, _, rfl, rfl, .of (s0 _ _ ha), at_neg (List.length_pos_iff.mpr hz), rfl, ?_⟩
        have hne := ra.last _ (Pl.co_last hz)
        rw [decide_eq_false (fun z => hne (V.int.inj z))]
        exact q _ s0
/-! ### _law_times -/
abbrev sTimes : Stmt := topS 36
theorem scTimes : FnScope ["_law_prime", "_law_ones", "_law_others", "_law_found", "_law_at", "_law_beside", "_law_more"] ["_law_prime", "_law_ones", "_law_others"] (defScope sTimes) := ⟨rfl, rfl, rfl, by decide +kernel, rfl, by decide +kernel, by decide +kernel⟩
def spTimes : Sp := fun vs H Q _ => ∃ (p : Nat) (a b : Addr) (la lb : List Int), vs = [.int p, .ref a, .ref b] ∧ Pm p ∧ Ls H a la ∧ Ls H b lb ∧ Pl.IsRow p la ∧ Pl.IsRow p lb ∧ la.length ≤ 20000 ∧ lb.length ≤ 20000 ∧
  NewL H Q (Pl.rowL p (Pl.mulL la lb))
theorem ok_times {f fC : Addr} {fd fdC : FuncData} {k : Nat} (F : Fun K "_law_times" "_law_times" sTimes f fd) (GC : FnOk P w K mg base CX0 k fC fdC ["_law_numbers"] spCut) (kC : PySem.W.keepIn K (.ref fC) = true) (bC : Binds K fdC ["_law_numbers"] []) (gC : mg "_law_cut" = some (.ref fC)) (T : Bt mg) :
    FnOk P w K mg base CX0 (k + 1) f fd ["_law_prime", "_law_ones", "_law_others"] spTimes := by
  refine F.ok scTimes (fun vs H Q E h => ?_) (fun cdv A outer s H vs Q E hr h => ?_)
  · obtain ⟨p, a, b, la, lb, rfl, _⟩ := h
    rfl
  · obtain ⟨p, a, b, la, lb, rfl, hp, ha, hb, ra, rb, za, zb, q⟩ := h
    have nd := scTimes.nd
    refine ⟨_, pss_cons (ps_set (i := 3) nd rfl (.inl rfl) (pe_op op_rep (pe_lst (pa_cons pe_int pa_nil)) (pe_op op_add (pe_callB call_len_seq (by rfl) T.len PySem.boot_len (pa_cons (pv 1) pa_nil)) (pe_callB call_len_seq (by rfl) T.len PySem.boot_len (pa_cons (pv 2) pa_nil)))))
      (pss_cons (ps_for PassesOwn.never rfl (pi_range1 (by rfl) T.range (pa_cons (pe_callB call_len_seq (by rfl) T.len PySem.boot_len (pa_cons (pv 1) pa_nil)) pa_nil)) (pg_name (i := 4) nd rfl (.inl rfl))
        (pss_one (ps_for PassesOwn.never rfl (pi_range1 (by rfl) T.range (pa_cons (pe_callB call_len_seq (by rfl) T.len PySem.boot_len (pa_cons (pv 2) pa_nil)) pa_nil)) (pg_name (i := 5) nd rfl (.inl rfl))
          (pss_cons (ps_set (i := 6) nd rfl (.inl rfl) (pe_op op_mul (pe_ix ix_list (pv 1) (pv 4) (fun _ _ => rfl)) (pe_ix ix_list (pv 2) (pv 5) (fun _ _ => rfl))))
          (pss_one (ps_asg (pe_op op_mod (pe_op op_add (pe_ix ix_list (pv 3) (pe_op op_add (pv 4) (pv 5)) (fun _ _ => rfl)) (pv 6)) (pv 0)) (pg_sub (pv 3) (pe_op op_add (pv 4) (pv 5)) set_list)))))))
      (pss_one (ps_ret (pe_call GC hr (by rfl) gC kC bC .nil pass0 (pa_cons (pv 3) pa_nil))))), ?_⟩
    have hpos := hp.pos
    have hle := hp.le
    refine ⟨(by show 1 ≤ sizeLine; decide), fun l1 m1 => ?_⟩
    obtain ⟨s3, _⟩ := new_st (o := .lst [V.int 0]) m1
    refine ⟨.ref a, rfl, a, la.map V.int, rfl, .inl (.of (s3 _ _ ha)), .ref b, rfl, b, lb.map V.int, rfl, .inl (.of (s3 _ _ hb)), _, _, rfl, rfl, ?_⟩
    rw [List.length_map, List.length_map]
    refine ⟨l1, _, _, rfl, rfl, upd_same, by omega, by omega, small_line' (by show 1 * _ ≤ _; omega), fun l2 m2 => ?_⟩
    have s4 := same_new (o := .lst (List.replicate ((la.length : Int) + lb.length).toNat [V.int 0]).flatten) s3 m2
    have n2H := s3.free m2
    have hlen : ((la.length : Int) + lb.length).toNat = la.length + lb.length := by omega
    refine ⟨.ref a, rfl, a, la.map V.int, rfl, .inl (.of (s4 _ _ ha)), _, rfl, by omega, by rw [List.length_map]; omega, ?_⟩
    rw [List.length_map, Int.toNat_natCast]
    refine for_range (lo := 0) (n := la.length) (fun i σ H' => ∃ (fl : List Int) (y4 y5 y6 : Option V), σ = [some (.int p), some (.ref a), some (.ref b), some (.ref l2), y4, y5, y6] ∧ Same H H' ∧ Ls H' l2 fl ∧ fl.length = la.length + lb.length ∧
      ∀ n, Pl.co fl n = Pl.co (Pl.mulL (la.take i) lb) n % p) ?_ ?_ ?_
    · refine ⟨List.replicate (la.length + lb.length) 0, none, none, none, rfl, s4, ?_, List.length_replicate, fun n => ?_⟩
      · rw [rep_map, hlen]
        exact upd_same
      · rw [co_repl]; simp [Pl.mulL]
    · rintro i σ H' hi ⟨fl, y4, y5, y6, rfl, sm, hf, zf, hc⟩
      refine ⟨.ref b, rfl, b, lb.map V.int, rfl, .inl (.of (sm _ _ hb)), _, rfl, by omega, by rw [List.length_map]; omega, ?_⟩
      rw [List.length_map, Int.toNat_natCast]
      refine for_range (lo := 0) (n := lb.length) (fun j σ H' => ∃ (fl : List Int) (y5 y6 : Option V), σ = [some (.int p), some (.ref a), some (.ref b), some (.ref l2), some (.int (0 + (i : Nat))), y5, y6] ∧ Same H H' ∧ Ls H' l2 fl ∧ fl.length = la.length + lb.length ∧
        ∀ n, Pl.co fl n = (Pl.co (Pl.mulL (la.take i) lb) n + inner la lb i j n) % p) ?_ ?_ ?_
      · refine ⟨fl, y5, y6, rfl, sm, hf, zf, fun n => ?_⟩
        rw [inner_zero, Int.add_zero]; exact hc n
      · rintro j σ H' hj ⟨fl, y5, y6, rfl, sm, hf, zf, hc⟩
        have b0 := rb.cos hpos j
        have a0 := ra.cos hpos i
        refine ⟨.ref a, rfl, .int (0 + (i : Nat)), rfl, a, _, _, _, rfl, rfl, .of (sm _ _ ha), at_ls (i := i) (by omega) (by omega), .ref b, rfl, .int (0 + (j : Nat)), rfl, b, _, _, _, rfl, rfl, .of (sm _ _ hb), at_ls (i := j) (by omega) (by omega), _, _, rfl, rfl, .inl ⟨by omega, by omega⟩, ?_⟩
        refine ⟨.ref l2, rfl, .int (0 + (i : Nat)), rfl, .int (0 + (j : Nat)), rfl, _, _, rfl, rfl, l2, _, _, _, rfl, rfl, .of hf, at_ls (i := i + j) (by omega) (by omega), _, rfl, _, _, rfl, rfl, .int p, rfl, _, _, rfl, rfl, by show (0 : Int) < p; omega, ?_⟩
        refine ⟨.ref l2, rfl, .int (0 + (i : Nat)), rfl, .int (0 + (j : Nat)), rfl, _, _, rfl, rfl, l2, _, _, i + j, rfl, rfl, hf, ixn_nat (by omega) (by rw [List.length_map]; omega), fl.set (i + j) ((Pl.co fl (i + j) + Pl.co la i * Pl.co lb j) % p), some (.int (0 + (j : Nat))), _, rfl, same_mut sm n2H, ?_, by rw [List.length_set]; exact zf, fun n => ?_⟩
        · rw [set_map]
          exact upd_same
        · rw [co_set _ _ _ _ (by omega), inner_step]
          by_cases e : n = i + j
          · subst e
            rw [if_pos rfl, if_pos rfl, hc, inner_at, Int.add_zero, Int.emod_add_emod]
          · rw [if_neg e, if_neg e, hc]
      · rintro σ H' ⟨fl, y5, y6, rfl, sm, hf, zf, hc⟩
        refine ⟨fl, some (.int (0 + (i : Nat))), y5, y6, rfl, sm, hf, zf, fun n => ?_⟩
        rw [hc, inner_all, co_mul_take _ _ _ _ hi]
    · rintro σ H' ⟨fl, y4, y5, y6, rfl, sm, hf, zf, hc⟩
      refine ⟨.ref l2, rfl, l2, fl, rfl, hf, fun H2 r sm2 nr hr2 => ?_⟩
      refine q H2 r (sm.trans sm2) (sm.free nr) ?_
      have e1 : Pl.cutL fl = Pl.rowL p (Pl.mulL la lb) := row_by fun j => by rw [hc, List.take_length]
      rw [← e1]
      exact hr2
/-! ### _law_sum -/
abbrev sSum : Stmt := topS 37
abbrev nSum : List Str := ["_law_prime", "_law_ones", "_law_others", "_law_wide", "_law_one", "_law_other"]
theorem scSum : FnScope nSum ["_law_prime", "_law_ones", "_law_others"] (defScope sSum) := ⟨rfl, rfl, rfl, by decide +kernel, rfl, by decide +kernel, by decide +kernel⟩
def spSum : Sp := fun vs H Q _ => ∃ (p : Nat) (a b : Addr) (la lb : List Int), vs = [.int p, .ref a, .ref b] ∧ Pm p ∧ Ls H a la ∧ Ls H b lb ∧ la.length ≤ 40000 ∧ lb.length ≤ 40000 ∧ NewL H Q (Pl.rowL p (Pl.addL la lb))
theorem pad_co (l : List Int) (k j : Nat) : Pl.co (l ++ List.replicate k 0) j = Pl.co l j := by
  rw [co_append, co_repl]
  split
  · rfl
  · rw [Pl.co_ge (by omega)]
theorem ok_sum {f fC : Addr} {fd fdC : FuncData} {k : Nat} (F : Fun K "_law_sum" "_law_sum" sSum f fd) (GC : FnOk P w K mg base CX0 k fC fdC ["_law_numbers"] spCut) (kC : PySem.W.keepIn K (.ref fC) = true) (bC : Binds K fdC ["_law_numbers"] []) (gC : mg "_law_cut" = some (.ref fC)) (T : Bt mg) :
    FnOk P w K mg base CX0 (k + 1) f fd ["_law_prime", "_law_ones", "_law_others"] spSum := by
  refine F.ok scSum (fun vs H Q E h => ?_) (fun cdv A outer s H vs Q E hr h => ?_)
  · obtain ⟨p, a, b, la, lb, rfl, _⟩ := h
    rfl
  · obtain ⟨p, a, b, la, lb, rfl, hp, ha, hb, za, zb, q⟩ := h
    have nd := scSum.nd
    refine ⟨_, pss_cons (ps_set (i := 3) nd rfl (.inl rfl) (pe_callB (call_max2 rfl) (by rfl) T.max bo_max (pa_cons (pe_callB call_len_seq (by rfl) T.len PySem.boot_len (pa_cons (pv 1) pa_nil)) (pa_cons (pe_callB call_len_seq (by rfl) T.len PySem.boot_len (pa_cons (pv 2) pa_nil)) pa_nil))))
      (pss_cons (ps_set (i := 1) nd rfl (.inl rfl) (pe_op op_cat (pv 1) (pe_op op_rep (pe_lst (pa_cons pe_int pa_nil)) (pe_op op_sub (pv 3) (pe_callB call_len_seq (by rfl) T.len PySem.boot_len (pa_cons (pv 1) pa_nil))))))
      (pss_cons (ps_set (i := 2) nd rfl (.inl rfl) (pe_op op_cat (pv 2) (pe_op op_rep (pe_lst (pa_cons pe_int pa_nil)) (pe_op op_sub (pv 3) (pe_callB call_len_seq (by rfl) T.len PySem.boot_len (pa_cons (pv 2) pa_nil))))))
      (pss_one (ps_ret (pe_call GC hr (by rfl) gC kC bC .nil pass0 (pa_cons (pe_lc (own := [("_law_one", 4), ("_law_other", 5)]) (g := gTup K 2 (gCons (gName 4) (gCons (gName 5) gNil))) (tt := tYes) (by rfl) nd (pi_zip (by rfl) T.zip (pa_cons (pv 1) (pa_cons (pv 2) pa_nil)))
          (blkOk_by (own := [("_law_one", 4), ("_law_other", 5)]) (N := nSum) (sc := defScope sSum) (by decide +kernel))
          (fun _ _ _ _ _ => pg_tup rfl (pgs_cons (pg_name (i := 4) nd rfl (Or.inl rfl)) (pgs_cons (pg_name (i := 5) nd rfl (Or.inl rfl)) pgs_nil))) (fun _ _ _ _ _ => pts_nil)
          (fun _ _ _ _ _ => pe_op op_mod (pe_op op_add (pv 4) (pv 5)) (pv 0))) pa_nil)))))), ?_⟩
    have hpos := hp.pos
    refine ⟨.ref a, rfl, a, la.map V.int, rfl, .inl (.of ha), .ref b, rfl, b, lb.map V.int, rfl, .inl (.of hb), _, _, rfl, ?_⟩
    rw [List.length_map, List.length_map]
    have hN : (if (lb.length : Int) > la.length then (lb.length : Int) else la.length) = ((max la.length lb.length : Nat) : Int) := by split <;> omega
    rw [hN]
    have hW1 : la.length ≤ max la.length lb.length := by omega
    have hW2 : lb.length ≤ max la.length lb.length := by omega
    have hW3 : max la.length lb.length ≤ 40000 := by omega
    generalize max la.length lb.length = W at hW1 hW2 hW3
    -- ones
    refine ⟨.ref a, rfl, (by show 1 ≤ sizeLine; decide), fun l1 n1 => ?_⟩
    obtain ⟨s1, e1⟩ := new_st (o := .lst [V.int 0]) n1
    generalize upd H l1 (.lst [V.int 0]) = H1 at s1 e1 ⊢
    refine ⟨.int W, rfl, .ref a, rfl, a, la.map V.int, rfl, .inl (.of (s1 _ _ ha)), _, _, rfl, rfl, ?_⟩
    rw [List.length_map]
    refine ⟨l1, _, _, rfl, rfl, e1, by omega, by omega, small_line' (by show 1 * _ ≤ _; omega), fun l2 n2 => ?_⟩
    obtain ⟨s2, e2⟩ := new_st (o := .lst (List.replicate ((W : Int) - la.length).toNat [V.int 0]).flatten) n2
    generalize upd H1 l2 (.lst (List.replicate ((W : Int) - la.length).toNat [V.int 0]).flatten) = H2 at s2 e2 ⊢
    have sm2 := s1.trans s2
    rw [rep_map] at e2
    refine ⟨a, l2, _, _, rfl, rfl, sm2 _ _ ha, e2, ?_, fun l3 n3 => ?_⟩
    · rw [List.length_map, List.length_map, List.length_replicate]
      exact small_line' (by omega)
    obtain ⟨s3, e3⟩ := new_st (o := .lst (la.map V.int ++ (List.replicate ((W : Int) - la.length).toNat 0).map V.int)) n3
    generalize upd H2 l3 (.lst (la.map V.int ++ (List.replicate ((W : Int) - la.length).toNat 0).map V.int)) = H3 at s3 e3 ⊢
    rw [← List.map_append] at e3
    have sm3 := sm2.trans s3
    -- others
    refine ⟨.ref b, rfl, (by show 1 ≤ sizeLine; decide), fun l4 n4 => ?_⟩
    obtain ⟨s4, e4⟩ := new_st (o := .lst [V.int 0]) n4
    generalize upd H3 l4 (.lst [V.int 0]) = H4 at s4 e4 ⊢
    have sm4 := sm3.trans s4
    refine ⟨.int W, rfl, .ref b, rfl, b, lb.map V.int, rfl, .inl (.of (sm4 _ _ hb)), _, _, rfl, rfl, ?_⟩
    rw [List.length_map]
    refine ⟨l4, _, _, rfl, rfl, e4, by omega, by omega, small_line' (by show 1 * _ ≤ _; omega), fun l5 n5 => ?_⟩
    obtain ⟨s5, e5⟩ := new_st (o := .lst (List.replicate ((W : Int) - lb.length).toNat [V.int 0]).flatten) n5
    generalize upd H4 l5 (.lst (List.replicate ((W : Int) - lb.length).toNat [V.int 0]).flatten) = H5 at s5 e5 ⊢
    have sm5 := sm4.trans s5
    rw [rep_map] at e5
    refine ⟨b, l5, _, _, rfl, rfl, sm5 _ _ hb, e5, ?_, fun l6 n6 => ?_⟩
    · rw [List.length_map, List.length_map, List.length_replicate]
      exact small_line' (by omega)
    obtain ⟨s6, e6⟩ := new_st (o := .lst (lb.map V.int ++ (List.replicate ((W : Int) - lb.length).toNat 0).map V.int)) n6
    generalize upd H5 l6 (.lst (lb.map V.int ++ (List.replicate ((W : Int) - lb.length).toNat 0).map V.int)) = H6 at s6 e6 ⊢
    rw [← List.map_append] at e6
    have sm6 := sm5.trans s6
    have e36 := s6 _ _ (s5 _ _ (s4 _ _ e3))
    have pA := pad_co la ((W : Int) - la.length).toNat
    have pB := pad_co lb ((W : Int) - lb.length).toNat
    have zA : (la ++ List.replicate ((W : Int) - la.length).toNat 0).length = W := by rw [List.length_append, List.length_replicate]; omega
    have zB : (lb ++ List.replicate ((W : Int) - lb.length).toNat 0).length = W := by rw [List.length_append, List.length_replicate]; omega
    generalize la ++ List.replicate ((W : Int) - la.length).toNat 0 = LA at e36 pA zA
    generalize lb ++ List.replicate ((W : Int) - lb.length).toNat 0 = LB at e6 pB zB
    -- the comprehension
    refine ⟨.ref l3, rfl, .ref l6, rfl, l3, l6, _, _, rfl, .of e36, .of e6, fun D hD => lc_it (walk_zip (K := K) (a := l3) (b := l6) (xs := LA.map V.int) (ys := LB.map V.int) (n := W) (by rw [List.length_map, List.length_map, zA, zB, Nat.min_self])) (fun i G => Same H6 G ∧ Ls G D ((List.range i).map fun j => (Pl.co LA j + Pl.co LB j) % p)) ⟨same_new (Same.refl _) hD, upd_same⟩ (fun i G _ h => ⟨.of (h.1 _ _ e36), .of (h.1 _ _ e6)⟩) ?_ ?_⟩
    · rintro i x G G' hi ⟨sG, hd⟩ ⟨T', x1, y1, rfl, nT, rfl, hx1, hy1⟩
      have hx1' : some (V.int (Pl.co LA i)) = some x1 := (map_get (by omega)).symm.trans hx1
      have hy1' : some (V.int (Pl.co LB i)) = some y1 := (map_get (by omega)).symm.trans hy1
      cases hx1'
      cases hy1'
      obtain ⟨sT, eT⟩ := new_st (o := .tup [V.int (Pl.co LA i), V.int (Pl.co LB i)]) nT
      generalize upd G T' (.tup [V.int (Pl.co LA i), V.int (Pl.co LB i)]) = G2 at sT eT ⊢
      refine ⟨T', _, rfl, .of eT, rfl, _, _, rfl, _, _, rfl, rfl, rfl, _, rfl, _, rfl, _, _, rfl, rfl, .int p, rfl, _, _, rfl, rfl, by show (0 : Int) < p; omega, _, sT _ _ hd, ?_, same_mut (sG.trans sT) hD, ?_⟩
      · rw [List.length_map, List.length_map, List.length_range]
        exact small_line (by omega)
      · rw [List.range_succ, List.map_append]
        exact ls_app
    · rintro G ⟨sG, hd⟩
      refine ⟨D, _, rfl, hd, fun H2 r sm2 nr hr2 => ?_⟩
      have smG := sm6.trans sG
      refine q H2 r (smG.trans sm2) (smG.free nr) ?_
      have e : Pl.cutL ((List.range W).map fun j => (Pl.co LA j + Pl.co LB j) % (p : Int)) = Pl.rowL p (Pl.addL la lb) := row_by fun j => by
        rw [Pl.Poly.co_range_map, Pl.co_add, pA, pB]
        split
        · rfl
        · rw [Pl.co_ge (l := la) (by omega), Pl.co_ge (l := lb) (by omega)]; simp
      rw [← e]
      exact hr2
/-! ### _law_slope -/
abbrev sSlope : Stmt := topS 38
abbrev nSlope : List Str := ["_law_prime", "_law_row", "_law_k"]
theorem scSlope : FnScope nSlope ["_law_prime", "_law_row"] (defScope sSlope) := ⟨rfl, rfl, rfl, by decide +kernel, rfl, by decide +kernel, by decide +kernel⟩
theorem ok_slope {f fC : Addr} {fd fdC : FuncData} {k : Nat} (F : Fun K "_law_slope" "_law_slope" sSlope f fd) (GC : FnOk P w K mg base CX0 k fC fdC ["_law_numbers"] spCut) (kC : PySem.W.keepIn K (.ref fC) = true) (bC : Binds K fdC ["_law_numbers"] []) (gC : mg "_law_cut" = some (.ref fC)) (T : Bt mg) :
    FnOk P w K mg base CX0 (k + 1) f fd ["_law_prime", "_law_row"] spFalling := by
  refine F.ok scSlope (fun vs H Q E h => ?_) (fun cdv A outer s H vs Q E hr h => ?_)
  · obtain ⟨p, a, la, rfl, _⟩ := h
    rfl
  · obtain ⟨p, a, l, rfl, hp, ha, ra, za, q⟩ := h
    have nd := scSlope.nd
    refine ⟨_, pss_one (ps_ret (pe_call GC hr (by rfl) gC kC bC .nil pass0 (pa_cons (pe_lc (own := [("_law_k", 2)]) (g := gName 2) (tt := tYes) (by rfl) nd (pi_range1 (by rfl) T.range (pa_cons (pe_op op_sub (pe_callB call_len_seq (by rfl) T.len PySem.boot_len (pa_cons (pv 1) pa_nil)) pe_int) pa_nil))
      (blkOk_by (own := [("_law_k", 2)]) (N := nSlope) (sc := defScope sSlope) (by decide +kernel))
      (fun _ _ _ _ _ => pg_name (i := 2) nd rfl (Or.inl rfl)) (fun _ _ _ _ _ => pts_nil) (fun _ _ _ _ _ => pe_op op_mod (pe_op op_mul (pe_op op_add (pv 2) pe_int) (pe_ix (r := rIxL K) ix_list (pv 1) (pe_op op_add (pv 2) pe_int) (fun _ _ => rfl))) (pv 0))) pa_nil))), ?_⟩
    have hpos := hp.pos
    refine ⟨.ref a, rfl, a, l.map V.int, rfl, .inl (.of ha), _, _, rfl, rfl, _, rfl, by omega, by rw [List.length_map]; omega, ?_⟩
    rw [List.length_map]
    refine fun D hD => lc_range (lo := 0) (n := ((l.length : Int) - 1).toNat) (fun i H' => Same H H' ∧ Ls H' D ((List.range i).map fun (j : Nat) => (((j : Int) + 1) * Pl.co l (j + 1)) % (p : Int))) ⟨same_new (Same.refl _) hD, upd_same⟩ ?_ ?_
    · rintro i H' hi ⟨sm, hd⟩
      have b0 := ra.cos hpos (i + 1)
      have := hp.le
      refine ⟨rfl, _, rfl, _, _, rfl, rfl, .ref a, rfl, .int (0 + (i : Nat)), rfl, _, _, rfl, rfl, a, _, _, _, rfl, rfl, .of (sm _ _ ha), at_ls (i := i + 1) (by omega) (by omega), _, _, rfl, rfl, .inr ⟨by omega, by omega⟩, .int p, rfl, _, _, rfl, rfl, by show (0 : Int) < p; omega, _, hd, ?_, same_mut sm hD, ?_⟩
      · rw [List.length_map, List.length_map, List.length_range]
        exact small_line (by omega)
      · rw [List.range_succ, List.map_append]
        have e0 : ((0 : Int) + (i : Nat) + 1) = ((i : Int) + 1) := by omega
        dsimp only
        rw [e0]
        exact ls_app
    · rintro H' ⟨sm, hd⟩
      refine ⟨D, _, rfl, hd, fun H2 r sm2 nr hr => ?_⟩
      refine q H2 r (sm.trans sm2) (sm.free nr) ?_
      have e : Pl.cutL ((List.range ((l.length : Int) - 1).toNat).map fun (j : Nat) => (((j : Int) + 1) * Pl.co l (j + 1)) % (p : Int)) = Pl.rowL p (Pl.derL l) := row_by fun j => by
        rw [Pl.Poly.co_range_map, Pl.co_der]
        split
        · rfl
        · rw [Pl.co_ge (l := l) (by omega), Int.mul_zero]; simp
      rw [← e]
      exact hr
end
end Kp
-- W12
set_option Elab.async false
set_option linter.all false
set_option maxRecDepth 100000
set_option maxHeartbeats 4000000
namespace Kp
open PySem PySem.Spec PyProof.Rows L2
theorem row_one {p : Nat} {l : List Int} (h2 : 2 ≤ p) (h : ∀ x ∈ l, 0 ≤ x ∧ x < (p : Int)) : Pl.IsRow p (l ++ [1]) := by
  refine ⟨fun x hx => ?_, fun x hx => ?_⟩
  · rcases List.mem_append.mp hx with e | e
    · exact h x e
    · have ex : x = 1 := by simpa using e
      rw [ex]; omega
  · rw [List.getLast?_append] at hx
    simp at hx
    omega
theorem cutv_last {l : List Int} (h : l ≠ []) : cutV (l.map V.int) (some (-1)) none = [V.int (Pl.co l (l.length - 1))] := by
  have hp := List.length_pos_iff.mpr h
  unfold cutV
  rw [List.length_map, HT.sIx_none]
  have e : HT.sIx l.length 0 (some (-1)) = l.length - 1 := by
    show (if (-1 : Int) < 0 then ((-1 : Int) + (l.length : Int)).toNat else min (-1 : Int).toNat l.length) = _
    rw [if_pos (by decide)]
    omega
  rw [e]
  have e2 : l.length - (l.length - 1) = 1 := by omega
  rw [e2, ← List.map_drop]
  have e3 : l.drop (l.length - 1) = [Pl.co l (l.length - 1)] := by
    apply List.ext_getElem?
    intro i
    rw [List.getElem?_drop]
    cases i with
    | zero => rw [Nat.add_zero, Pl.co_some (by omega)]; rfl
    | succ i => rw [List.getElem?_eq_none (by omega)]; rfl
  rw [e3]
  rfl
theorem row_single {p : Nat} {x : Int} (h0 : 0 ≤ x) (h1 : x < p) (hn : x ≠ 0) : Pl.IsRow p [x] := by
  refine ⟨fun y hy => ?_, fun y hy => ?_⟩
  · have : y = x := by simpa using hy
    rw [this]; exact ⟨h0, h1⟩
  · have : x = y := by simpa using hy
    rw [← this]; exact hn
section
variable {P : Program} {w : World} {K : PySem.W.Frag} {mg : Str → Option Value} {base : Heap}
/-! ### _law_row_by -/
abbrev sRowBy : Stmt := topS 39
abbrev nRowBy : List Str := ["_law_script", "_law_prime", "_law_row", "_law_k", "_law_cell", "_law_size", "_law_part", "_law_often", "_law_turn"]
theorem scRowBy : FnScope nRowBy ["_law_script", "_law_prime"] (defScope sRowBy) := ⟨rfl, rfl, rfl, by decide +kernel, rfl, by decide +kernel, by decide +kernel⟩
def spRowBy (K : PySem.W.Frag) : Sp := fun vs H Q _ => ∃ (a : Addr) (ns : List Int) (p : Nat), vs = [.ref a, .int p] ∧ SqL K H a (ns.map V.int) ∧ Pm p ∧ ∀ l : List Int, Pl.IsRow p l → l.length ≤ 128 → NewL H Q l
/-- turns of «row = _law_times(prime, row, part)» -/
theorem ok_row_by {f fC fA fD fT : Addr} {fd fdC fdA fdD fdT : FuncData} {k : Nat} (F : Fun K "_law_row_by" "_law_row_by" sRowBy f fd)
    (GC : FnOk P w K mg base CX0 k fC fdC ["_law_numbers"] spCut) (kC : PySem.W.keepIn K (.ref fC) = true) (bC : Binds K fdC ["_law_numbers"] []) (gC : mg "_law_cut" = some (.ref fC))
    (GA : FnOk P w K mg base CX0 k fA fdA ["_law_script", "_law_k"] (spCell K)) (kA : PySem.W.keepIn K (.ref fA) = true) (bA : Binds K fdA ["_law_script", "_law_k"] []) (gA : mg "_law_cell_at" = some (.ref fA))
    (GD : FnOk P w K mg base CX0 k fD fdD ["_law_prime", "_law_cell", "_law_size"] spDrawn) (kD : PySem.W.keepIn K (.ref fD) = true) (bD : Binds K fdD ["_law_prime", "_law_cell", "_law_size"] []) (gD : mg "_law_drawn" = some (.ref fD))
    (GT : FnOk P w K mg base CX0 k fT fdT ["_law_prime", "_law_ones", "_law_others"] spTimes) (kT : PySem.W.keepIn K (.ref fT) = true) (bT : Binds K fdT ["_law_prime", "_law_ones", "_law_others"] []) (gT : mg "_law_times" = some (.ref fT)) (T : Bt mg) :
    FnOk P w K mg base CX0 (k + 1) f fd ["_law_script", "_law_prime"] (spRowBy K) := by
  refine F.ok scRowBy (fun vs H Q E h => ?_) (fun cdv A outer s H vs Q E hr h => ?_)
  · obtain ⟨a, ns, p, rfl, _⟩ := h
    rfl
  · obtain ⟨a, ns, p, rfl, ha, hp, q⟩ := h
    have nd := scRowBy.nd
    have hpos := hp.pos
    have hle := hp.le
    have h2 := hp.two
    refine ⟨_, pss_cons (ps_set (i := 2) nd rfl (.inl rfl) (pe_call GC hr (by rfl) gC kC bC .nil pass0 (pa_cons (pe_lst (pa_cons (pe_op op_mod (pe_call GA hr (by rfl) gA kA bA .nil pass0 (pa_cons (pv 0) (pa_cons pe_int pa_nil))) (pv 1)) pa_nil)) pa_nil)))
      (pss_cons (ps_for PassesOwn.never rfl (pi_range1 (by rfl) T.range (pa_cons (pe_op op_mod (pe_call GA hr (by rfl) gA kA bA .nil pass0 (pa_cons (pv 0) (pa_cons pe_int pa_nil))) pe_int) pa_nil)) (pg_name (i := 3) nd rfl (.inl rfl))
        (pss_cons (ps_set (i := 4) nd rfl (.inl rfl) (pe_call GA hr (by rfl) gA kA bA .nil pass0 (pa_cons (pv 0) (pa_cons (pe_op op_add pe_int (pe_op op_mul pe_int (pv 3))) pa_nil))))
        (pss_cons (ps_set (i := 5) nd rfl (.inl rfl) (pe_op op_add pe_int (pe_op op_mod (pe_call GA hr (by rfl) gA kA bA .nil pass0 (pa_cons (pv 0) (pa_cons (pe_op op_add pe_int (pv 3)) pa_nil))) pe_int)))
        (pss_cons (ps_set (i := 6) nd rfl (.inl rfl) (pe_call GD hr (by rfl) gD kD bD .nil pass0 (pa_cons (pv 1) (pa_cons (pe_op op_fdiv (pv 4) pe_int) (pa_cons (pv 5) pa_nil)))))
        (pss_cons (ps_set (i := 6) nd rfl (.inl rfl) (pe_op op_cat (pe_op op_cat (pv 6) (pe_op op_rep (pe_lst (pa_cons pe_int pa_nil)) (pe_op op_sub (pv 5) (pe_callB call_len_seq (by rfl) T.len PySem.boot_len (pa_cons (pv 6) pa_nil))))) (pe_lst (pa_cons pe_int pa_nil))))
        (pss_cons (ps_set (i := 7) nd rfl (.inl rfl) (pe_op op_add pe_int (pe_op op_fdiv (pe_op op_mul (pe_op op_mod (pe_op op_fdiv (pv 4) pe_int) pe_int) (pe_op op_mod (pe_op op_fdiv (pv 4) pe_int) pe_int)) pe_int)))
        (C8.pss_cut (ps_if (PW.pt (pw_and (pt_cmpR op_eq (pe_op op_mod (pe_op op_fdiv (pv 4) pe_int) pe_int) pe_int (nomark _)) (pw_and1 (pt_cmpR op_lt (pv 1) pe_int (nomark _)))))
            (pss_one (ps_set (i := 7) nd rfl (.inl rfl) (pe_op op_mul (pv 1) (pe_op op_add pe_int (pe_op op_mod (pe_op op_fdiv (pv 4) pe_int) pe_int)))))
            (pss_one (ps_if (PW.pt (pw_and (pt_cmpR op_eq (pe_op op_mod (pe_op op_fdiv (pv 4) pe_int) pe_int) pe_int (nomark _)) (pw_and (pt_cmpR op_lt (pv 1) pe_int (nomark _)) (pw_and1 (pt_cmpR op_eq (pv 3) pe_int (nomark _))))))
              (pss_cons (ps_set (i := 6) nd rfl (.inl rfl) (pe_lst (pa_cons (pe_op op_mod (pe_op op_fdiv (pv 4) pe_int) (pv 1)) (pa_cons pe_int pa_nil)))) (pss_one (ps_set (i := 7) nd rfl (.inl rfl) (pv 1)))) pss_nil)))
        (pss_one (ps_for PassesOwn.never rfl (pi_range1 (by rfl) T.range (pa_cons (pv 7) pa_nil)) (pg_name (i := 8) nd rfl (.inl rfl))
          (pss_one (ps_set (i := 2) nd rfl (.inl rfl) (pe_call GT hr (by rfl) gT kT bT .nil pass0 (pa_cons (pv 1) (pa_cons (pv 2) (pa_cons (pv 6) pa_nil)))))))))))))))
      (pss_cons (ps_set (i := 4) nd rfl (.inl rfl) (pe_call GA hr (by rfl) gA kA bA .nil pass0 (pa_cons (pv 0) (pa_cons pe_int pa_nil))))
      (C8.pss_cut (ps_if (PW.pt (pw_and (pt_cmpR op_eq (pe_op op_mod (pv 4) pe_int) pe_int (nomark _)) (pw_and1 (pt_cmpR op_lt (pv 1) pe_int (nomark _)))))
          (pss_cons (ps_set (i := 7) nd rfl (.inl rfl) (pv 1))
          (pss_cons (ps_while PassesOwn.never (PW.pt (pw_and (pt_cmpR op_lt (pe_op op_mul (pv 7) (pv 1)) pe_int (nomark _)) (pw_and1 (pt_cmpR op_eq (pe_op op_mod (pe_op op_fdiv (pv 4) pe_int) pe_int) pe_int (nomark _))))) (pss_one (ps_set (i := 7) nd rfl (.inl rfl) (pe_op op_mul (pv 7) (pv 1)))))
          (pss_one (ps_set (i := 2) nd rfl (.inl rfl) (pe_op op_cat (pe_op op_cat (pe_lst (pa_cons (pe_op op_mod (pe_op op_fdiv (pv 4) pe_int) (pv 1)) pa_nil)) (pe_op op_rep (pe_lst (pa_cons pe_int pa_nil)) (pe_op op_sub (pv 7) pe_int))) (pe_lst (pa_cons pe_int pa_nil))))))) pss_nil)
      (C8.pss_cut (ps_if (PW.pt (pw_and (pt_cmpR op_eq (pe_op op_mod (pv 4) pe_int) pe_int (nomark _)) (pw_and1 (pt_cmpR (op_neD hr.units) (pv 2) (pe_lst pa_nil) (nomark _)))))
          (pss_cons (ps_set (i := 2) nd rfl (.inl rfl) (pe_call GT hr (by rfl) gT kT bT .nil pass0 (pa_cons (pv 1) (pa_cons (pe_slice sl_list (pv 2) (po_some (pe_un un_neg pe_int)) po_none) (pa_cons (pe_lst (pa_cons (pe_op op_mod (pe_op op_add pe_int (pe_op op_fdiv (pv 4) pe_int)) (pv 1)) (pa_cons pe_int pa_nil))) pa_nil)))))
          (pss_one (ps_for PassesOwn.never rfl (pi_range1 (by rfl) T.range (pa_cons (pe_op op_add pe_int (pe_op op_mod (pe_op op_fdiv (pv 4) pe_int) pe_int)) pa_nil)) (pg_name (i := 8) nd rfl (.inl rfl))
            (pss_one (ps_set (i := 2) nd rfl (.inl rfl) (pe_call GT hr (by rfl) gT kT bT .nil pass0 (pa_cons (pv 1) (pa_cons (pv 2) (pa_cons (pe_lst (pa_cons (pe_op op_mod (pe_op op_fdiv (pv 4) pe_int) (pv 1)) (pa_cons pe_int pa_nil))) pa_nil))))))))) pss_nil)
      (pss_one (ps_ret (pv 2))))))), ?_⟩
    -- row = _law_cut([..])
    refine ⟨.ref a, rfl, a, ns, 1, rfl, ha, by decide, by decide, fun z => ?_⟩
    refine ⟨.int p, rfl, z, p, rfl, rfl, by show (0 : Int) < p; omega, (by show 1 ≤ sizeLine; decide), fun l0 n0 => ?_⟩
    dsimp only
    have w0 := Int.emod_nonneg z (show (p : Int) ≠ 0 by omega)
    have w1 := Int.emod_lt_of_pos z (show (0 : Int) < p by omega)
    generalize z % (p : Int) = x0 at w0 w1 ⊢
    obtain ⟨s0, e0⟩ := new_st (o := .lst [V.int x0]) n0
    generalize upd H l0 (.lst [V.int x0]) = H0 at s0 e0 ⊢
    refine ⟨l0, [x0], rfl, e0, fun H1 r0 sH1 nr0 hr0 => ?_⟩
    have s1 := s0.trans sH1
    have hrow0 : Pl.IsRow p (Pl.cutL [x0]) := cos_row fun j => by
      cases j with
      | zero => exact ⟨w0, w1⟩
      | succ j => show 0 ≤ (0 : Int) ∧ (0 : Int) < p; omega
    have hlen0 : (Pl.cutL [x0]).length ≤ 1 := Pl.cut_len [x0]
    -- the loop over the parts
    refine ⟨.ref a, rfl, a, ns, 2, rfl, s1.seq ha, by decide, by decide, fun z2 => ?_⟩
    have q0 := Int.emod_nonneg z2 (show (4 : Int) ≠ 0 by decide)
    have q1 := Int.emod_lt_of_pos z2 (show (0 : Int) < 4 by decide)
    refine ⟨_, _, rfl, rfl, by show (0 : Int) < 4; decide, _, rfl, by omega, by omega, ?_⟩
    refine for_range (lo := 0) (n := (z2 % 4).toNat) (fun i σ G => ∃ (rw' : Addr) (row : List Int) (y3 y4 y5 y6 y7 y8 : Option V), σ = [some (.ref a), some (.int p), some (.ref rw'), y3, y4, y5, y6, y7, y8] ∧ Same H G ∧ Ls G rw' row ∧ Pl.IsRow p row ∧ row.length ≤ 1 + 24 * i ∧ H rw' = none)
      ⟨r0, _, none, none, none, none, none, none, rfl, s1, hr0, hrow0, by omega, s0.free nr0⟩ ?_ ?_
    · rintro i σ G hi ⟨rw', row, y3, y4, y5, y6, y7, y8, rfl, sm, hrw, rrow, zrow, nrw⟩
      -- cell, size
      refine ⟨.ref a, rfl, .int (0 + (i : Nat)), rfl, _, _, rfl, rfl, .inl ⟨by decide, by decide⟩, _, _, rfl, rfl, a, ns, _, rfl, sm.seq ha, by omega, by omega, fun c => ?_⟩
      refine ⟨.ref a, rfl, .int (0 + (i : Nat)), rfl, _, _, rfl, rfl, a, ns, _, rfl, sm.seq ha, by omega, by omega, fun z3 => ?_⟩
      have t0 := Int.emod_nonneg z3 (show (4 : Int) ≠ 0 by decide)
      have t1 := Int.emod_lt_of_pos z3 (show (0 : Int) < 4 by decide)
      refine ⟨_, _, rfl, rfl, by show (0 : Int) < 4; decide, _, _, rfl, rfl, ?_⟩
      dsimp only
      generalize hsz : (1 : Int) + z3 % 4 = sz
      have sz1 : 1 ≤ sz := by omega
      have sz4 : sz ≤ 4 := by omega
      -- part
      refine ⟨.int p, rfl, .int c, rfl, _, _, rfl, rfl, ⟨by decide, by decide⟩, .int sz, rfl, p, _, sz, rfl, hp, by omega, sz4, fun dl rdl zdl G1 d1 sG1 nd1 hd1 => ?_⟩
      have sm1 := sm.trans sG1
      refine ⟨.ref d1, rfl, (by show 1 ≤ sizeLine; decide), fun u1 m1 => ?_⟩
      obtain ⟨su1, eu1⟩ := new_st (o := .lst [V.int 0]) m1
      generalize upd G1 u1 (.lst [V.int 0]) = G2 at su1 eu1 ⊢
      refine ⟨.int sz, rfl, .ref d1, rfl, d1, dl.map V.int, rfl, .inl (.of (su1 _ _ hd1)), _, _, rfl, rfl, ?_⟩
      rw [List.length_map]
      refine ⟨u1, _, _, rfl, rfl, eu1, by omega, by omega, small_line' (by show 1 * _ ≤ _; omega), fun u2 m2 => ?_⟩
      obtain ⟨su2, eu2⟩ := new_st (o := .lst (List.replicate (sz - dl.length).toNat [V.int 0]).flatten) m2
      generalize upd G2 u2 (.lst (List.replicate (sz - dl.length).toNat [V.int 0]).flatten) = G3 at su2 eu2 ⊢
      rw [rep_map] at eu2
      have hd3 := su2 _ _ (su1 _ _ hd1)
      refine ⟨d1, u2, _, _, rfl, rfl, hd3, eu2, by rw [List.length_map, List.length_map, List.length_replicate]; exact small_line' (by omega), fun u3 m3 => ?_⟩
      obtain ⟨su3, eu3⟩ := new_st (o := .lst (dl.map V.int ++ (List.replicate (sz - dl.length).toNat 0).map V.int)) m3
      generalize upd G3 u3 (.lst (dl.map V.int ++ (List.replicate (sz - dl.length).toNat 0).map V.int)) = G4 at su3 eu3 ⊢
      refine ⟨(by show 1 ≤ sizeLine; decide), fun u4 m4 => ?_⟩
      obtain ⟨su4, eu4⟩ := new_st (o := .lst [V.int 1]) m4
      generalize upd G4 u4 (.lst [V.int 1]) = G5 at su4 eu4 ⊢
      refine ⟨u3, u4, _, _, rfl, rfl, su4 _ _ eu3, eu4, by rw [List.length_append, List.length_map, List.length_map, List.length_replicate]; exact small_line' (by show _ + 1 ≤ _; omega), fun u5 m5 => ?_⟩
      obtain ⟨su5, eu5⟩ := new_st (o := .lst (dl.map V.int ++ (List.replicate (sz - dl.length).toNat 0).map V.int ++ [V.int 1])) m5
      generalize upd G5 u5 (.lst (dl.map V.int ++ (List.replicate (sz - dl.length).toNat 0).map V.int ++ [V.int 1])) = G6 at su5 eu5 ⊢
      have sm6 := sm1.trans (su1.trans (su2.trans (su3.trans (su4.trans su5))))
      have hpart : Ls G6 u5 ((dl ++ List.replicate (sz - dl.length).toNat 0) ++ [1]) := by
        show G6 u5 = _
        rw [eu5, List.map_append, List.map_append]; rfl
      have rpart : Pl.IsRow p ((dl ++ List.replicate (sz - dl.length).toNat 0) ++ [1]) := row_one h2 fun x hx => by
        rcases List.mem_append.mp hx with e | e
        · exact rdl.rests x e
        · have := (List.mem_replicate.mp e).2
          rw [this]; omega
      have zpart : ((dl ++ List.replicate (sz - dl.length).toNat 0) ++ [1]).length ≤ 4 + 1 := by
        rw [List.length_append, List.length_append, List.length_replicate]
        show _ + 1 ≤ _
        omega
      generalize (dl ++ List.replicate (sz - dl.length).toNat 0) ++ [1] = part at hpart rpart zpart
      have hrw6 : Ls G6 rw' row := su5 _ _ (su4 _ _ (su3 _ _ (su2 _ _ (su1 _ _ (sG1 _ _ hrw)))))
      -- often
      have o0 := Int.emod_nonneg (c / 2) (show (3 : Int) ≠ 0 by decide)
      have o1 := Int.emod_lt_of_pos (c / 2) (show (0 : Int) < 3 by decide)
      have o2 := Int.emod_nonneg (c / 6) (show (4 : Int) ≠ 0 by decide)
      have o3 := Int.emod_lt_of_pos (c / 6) (show (0 : Int) < 4 by decide)
      refine ⟨.int c, rfl, _, _, rfl, rfl, ⟨by decide, by decide⟩, _, _, rfl, rfl, by show (0 : Int) < 3; decide, .int c, rfl, _, _, rfl, rfl, ⟨by decide, by decide⟩, _, _, rfl, rfl, by show (0 : Int) < 4; decide, _, _, rfl, rfl, .inl ⟨by omega, by omega⟩, _, _, rfl, rfl, ⟨by decide, by decide⟩, _, _, rfl, rfl, ?_⟩
      dsimp only
      have hof : 0 ≤ (1 : Int) + c / 2 % 3 * (c / 6 % 4) / 2 ∧ (1 : Int) + c / 2 % 3 * (c / 6 % 4) / 2 ≤ 4 := by
        have : c / 2 % 3 * (c / 6 % 4) ≤ 2 * 3 := Int.mul_le_mul (by omega) (by omega) o2 (by omega)
        have : 0 ≤ c / 2 % 3 * (c / 6 % 4) := Int.mul_nonneg o0 o2
        omega
      generalize (1 : Int) + c / 2 % 3 * (c / 6 % 4) / 2 = of1 at hof
      -- the ifs, then the turns
      refine ⟨fun σ' G' => ∃ (pt : Addr) (pl : List Int) (o : Int) (d : Nat), σ' = [some (.ref a), some (.int p), some (.ref rw'), some (.int (0 + (i : Nat))), some (.int c), some (.int sz), some (.ref pt), some (.int o), y8] ∧ Same H G' ∧ Ls G' rw' row ∧ Ls G' pt pl ∧ Pl.IsRow p pl ∧ pl.length ≤ d + 1 ∧ d ≤ 4 ∧ 0 ≤ o ∧ o ≤ 1000 ∧ o.toNat * d ≤ 24, ?_, ?_⟩
      · have std : ∃ (pt : Addr) (pl : List Int) (o : Int) (d : Nat), [some (V.ref a), some (V.int p), some (.ref rw'), some (.int (0 + (i : Nat))), some (.int c), some (.int sz), some (.ref u5), some (.int of1), y8] = [some (.ref a), some (.int p), some (.ref rw'), some (.int (0 + (i : Nat))), some (.int c), some (.int sz), some (.ref pt), some (.int o), y8] ∧ Same H G6 ∧ Ls G6 rw' row ∧ Ls G6 pt pl ∧ Pl.IsRow p pl ∧ pl.length ≤ d + 1 ∧ d ≤ 4 ∧ 0 ≤ o ∧ o ≤ 1000 ∧ o.toNat * d ≤ 24 :=
          ⟨u5, part, of1, 4, rfl, sm6, hrw6, hpart, rpart, zpart, by omega, hof.1, by omega, by omega⟩
        refine ⟨.int c, rfl, _, _, rfl, rfl, ⟨by decide, by decide⟩, _, _, rfl, rfl, by show (0 : Int) < 5; decide, rfl, _, rfl, ite2 (fun b1 => ?_) (fun b1 => ?_)⟩
        · refine ⟨.int p, rfl, _, _, rfl, rfl, _, rfl, ite2 (fun b2 => ?_) (fun b2 => ?_)⟩
          · have b2' : (p : Int) < 4 := of_decide_eq_true b2
            have v0 := Int.emod_nonneg (c / 120) (show (2 : Int) ≠ 0 by decide)
            have v1 := Int.emod_lt_of_pos (c / 120) (show (0 : Int) < 2 by decide)
            refine ⟨.int p, rfl, .int c, rfl, _, _, rfl, rfl, ⟨by decide, by decide⟩, _, _, rfl, rfl, by show (0 : Int) < 2; decide, _, _, rfl, rfl, _, _, rfl, rfl, .inl ⟨by omega, by omega⟩, u5, part, _, 4, rfl, sm6, hrw6, hpart, rpart, zpart, by omega, ?_⟩
            have hm : (p : Int) * (1 + c / 120 % 2) ≤ 3 * 2 := Int.mul_le_mul (by omega) (by omega) (by omega) (by omega)
            have hm0 : 0 ≤ (p : Int) * (1 + c / 120 % 2) := Int.mul_nonneg (by omega) (by omega)
            exact ⟨hm0, by omega, by omega⟩
          · refine ⟨.int c, rfl, _, _, rfl, rfl, ⟨by decide, by decide⟩, _, _, rfl, rfl, by show (0 : Int) < 5; decide, rfl, _, rfl, ite2 (fun b3 => ?_) (fun b3 => iteF std)⟩
            refine ⟨.int p, rfl, _, _, rfl, rfl, _, rfl, ite2 (fun b4 => ?_) (fun b4 => iteF std)⟩
            have b4' : (p : Int) < 24 := of_decide_eq_true b4
            refine ⟨.int (0 + (i : Nat)), rfl, rfl, _, rfl, ite2 (fun b5 => ?_) (fun b5 => std)⟩
            refine ⟨.int c, rfl, _, _, rfl, rfl, ⟨by decide, by decide⟩, .int p, rfl, _, _, rfl, rfl, by show (0 : Int) < p; omega, (by show 2 ≤ sizeLine; decide), fun u6 m6 => ?_⟩
            dsimp only
            have v0 := Int.emod_nonneg (c / 120) (show (p : Int) ≠ 0 by omega)
            have v1 := Int.emod_lt_of_pos (c / 120) (show (0 : Int) < p by omega)
            generalize c / 120 % (p : Int) = xx at v0 v1 ⊢
            obtain ⟨su6, eu6⟩ := new_st (o := .lst [V.int xx, V.int 1]) m6
            generalize upd G6 u6 (.lst [V.int xx, V.int 1]) = G7 at su6 eu6 ⊢
            refine ⟨.int p, rfl, u6, [xx] ++ [1], p, 1, rfl, sm6.trans su6, su6 _ _ hrw6, (by show G7 u6 = _; rw [eu6]; rfl), row_one h2 fun y hy => ?_, by show 2 ≤ 2; omega, by omega, by omega, by omega, by omega⟩
            have : y = xx := by simpa using hy
            rw [this]; exact ⟨v0, v1⟩
        · refine iteF ?_
          refine ⟨.int c, rfl, _, _, rfl, rfl, ⟨by decide, by decide⟩, _, _, rfl, rfl, by show (0 : Int) < 5; decide, rfl, _, rfl, ite2 (fun b3 => absurd b3 b1) (fun b3 => iteF std)⟩
      · rintro σ' G' ⟨pt, pl, o, d, rfl, smG', hrw', hpt, rpl, zpl, zd, o0, o1, zo⟩
        refine ⟨.int o, rfl, _, rfl, by omega, by omega, for_range (lo := 0) (n := o.toNat) (fun j σ G2 => ∃ (rw2 : Addr) (row2 : List Int) (y8 : Option V), σ = [some (.ref a), some (.int p), some (.ref rw2), some (.int (0 + (i : Nat))), some (.int c), some (.int sz), some (.ref pt), some (.int o), y8] ∧ Same G' G2 ∧ Ls G2 rw2 row2 ∧ Pl.IsRow p row2 ∧ row2.length ≤ row.length + j * d ∧ H rw2 = none)
          ⟨rw', row, y8, rfl, Same.refl _, hrw', rrow, by omega, nrw⟩ ?_ ?_⟩
        · rintro j σ G2 hj ⟨rw2, row2, y8, rfl, sG2, hrw2, rrow2, zrow2, nrw2⟩
          have hjd : j * d ≤ 24 := Nat.le_trans (Nat.mul_le_mul_right d (Nat.le_of_lt hj)) zo
          refine ⟨.int p, rfl, .ref rw2, rfl, .ref pt, rfl, p, rw2, pt, row2, pl, rfl, hp, hrw2, sG2 _ _ hpt, rrow2, rpl, by omega, by omega, fun G3 r3 sG3 nr3 hr3 => ?_⟩
          have hm := Pl.rowL_mul_len hpos rrow2 rpl
          refine ⟨r3, _, some (.int (0 + (j : Nat))), rfl, sG2.trans sG3, hr3, Pl.rowL_row hpos _, ?_, (smG'.trans sG2).free nr3⟩
          rw [Nat.succ_mul]
          omega
        · rintro σ G2 ⟨rw2, row2, y8, rfl, sG2, hrw2, rrow2, zrow2, nrw2⟩
          exact ⟨rw2, row2, some (.int (0 + (i : Nat))), some (.int c), some (.int sz), some (.ref pt), some (.int o), y8, rfl, smG'.trans sG2, hrw2, rrow2, by omega, nrw2⟩
    · rintro σ G ⟨rw', row, y3, y4, y5, y6, y7, y8, rfl, sm, hrw, rrow, zrow, nrw⟩
      have zrow' : row.length ≤ 128 := by omega
      refine ⟨.ref a, rfl, a, ns, 9, rfl, sm.seq ha, by decide, by decide, fun c => ?_⟩
      -- x to a power of the prime, and a number
      refine ⟨fun σ' G' => ∃ (rw' : Addr) (row : List Int) (y7 : Option V), σ' = [some (.ref a), some (.int p), some (.ref rw'), y3, some (.int c), y5, y6, y7, y8] ∧ Same H G' ∧ Ls G' rw' row ∧ Pl.IsRow p row ∧ row.length ≤ 128 ∧ H rw' = none, ?_, ?_⟩
      · have std : ∃ (rw2 : Addr) (row : List Int) (y7' : Option V), [some (V.ref a), some (V.int p), some (.ref rw'), y3, some (.int c), y5, y6, y7, y8] = [some (.ref a), some (.int p), some (.ref rw2), y3, some (.int c), y5, y6, y7', y8] ∧ Same H G ∧ Ls G rw2 row ∧ Pl.IsRow p row ∧ row.length ≤ 128 ∧ H rw2 = none := ⟨rw', row, y7, rfl, sm, hrw, rrow, zrow', nrw⟩
        refine ⟨.int c, rfl, _, _, rfl, rfl, by show (0 : Int) < 8; decide, rfl, _, rfl, ite2 (fun b1 => ?_) (fun b1 => iteF std)⟩
        refine ⟨.int p, rfl, _, _, rfl, rfl, _, rfl, ite2 (fun b2 => ?_) (fun b2 => std)⟩
        have b2' : (p : Int) < 100 := of_decide_eq_true b2
        refine ⟨.int p, rfl, fun m σ' G' => ∃ o : Int, m = (100 - o).toNat ∧ σ' = [some (.ref a), some (.int p), some (.ref rw'), y3, some (.int c), y5, y6, some (.int o), y8] ∧ G' = G ∧ 1 ≤ o ∧ o < 100, ⟨_, p, rfl, rfl, rfl, by omega, b2'⟩, ?_⟩
        rintro m σ' G' ⟨o, em, rfl, rfl, o1, o2⟩
        have lastrow : tAsg (tOp rCat (tOp rCat (tLst (tCons (tOp rMod (tOp (rI CDiv fun i j => .int (i / j)) (tVar 4) (tC (.int 16))) (tVar 1)) tNil)) (tOp rRep (tLst (tCons (tC (.int 0)) tNil)) (tOp (rI0 fun i j => .int (i - j)) (tVar 7) (tC (.int 1))))) (tLst (tCons (tC (.int 1)) tNil))) (gName 2)
            { nx := fun σ' G' => ∃ (rw' : Addr) (row : List Int) (y7 : Option V), σ' = [some (.ref a), some (.int p), some (.ref rw'), y3, some (.int c), y5, y6, y7, y8] ∧ Same H G' ∧ Ls G' rw' row ∧ Pl.IsRow p row ∧ row.length ≤ 128 ∧ H rw' = none, rt := Q }
            [some (.ref a), some (.int p), some (.ref rw'), y3, some (.int c), y5, y6, some (.int o), y8] G' := by
          refine ⟨.int c, rfl, _, _, rfl, rfl, ⟨by decide, by decide⟩, .int p, rfl, _, _, rfl, rfl, by show (0 : Int) < p; omega, (by show 1 ≤ sizeLine; decide), fun u1 m1 => ?_⟩
          dsimp only
          have v0 := Int.emod_nonneg (c / 16) (show (p : Int) ≠ 0 by omega)
          have v1 := Int.emod_lt_of_pos (c / 16) (show (0 : Int) < p by omega)
          generalize c / 16 % (p : Int) = xx at v0 v1 ⊢
          obtain ⟨su1, eu1⟩ := new_st (o := .lst [V.int xx]) m1
          generalize upd G' u1 (.lst [V.int xx]) = G2 at su1 eu1 ⊢
          refine ⟨(by show 1 ≤ sizeLine; decide), fun u2 m2 => ?_⟩
          obtain ⟨su2, eu2⟩ := new_st (o := .lst [V.int 0]) m2
          generalize upd G2 u2 (.lst [V.int 0]) = G3 at su2 eu2 ⊢
          refine ⟨.int o, rfl, _, _, rfl, rfl, u2, _, _, rfl, rfl, eu2, by omega, by omega, small_line' (by show 1 * _ ≤ _; omega), fun u3 m3 => ?_⟩
          obtain ⟨su3, eu3⟩ := new_st (o := .lst (List.replicate (o - 1).toNat [V.int 0]).flatten) m3
          generalize upd G3 u3 (.lst (List.replicate (o - 1).toNat [V.int 0]).flatten) = G4 at su3 eu3 ⊢
          rw [rep_map] at eu3
          refine ⟨u1, u3, _, _, rfl, rfl, su3 _ _ (su2 _ _ eu1), eu3, by rw [List.length_map, List.length_replicate]; exact small_line' (by show 1 + _ ≤ _; omega), fun u4 m4 => ?_⟩
          obtain ⟨su4, eu4⟩ := new_st (o := .lst ([V.int xx] ++ (List.replicate (o - 1).toNat 0).map V.int)) m4
          generalize upd G4 u4 (.lst ([V.int xx] ++ (List.replicate (o - 1).toNat 0).map V.int)) = G5 at su4 eu4 ⊢
          refine ⟨(by show 1 ≤ sizeLine; decide), fun u5 m5 => ?_⟩
          obtain ⟨su5, eu5⟩ := new_st (o := .lst [V.int 1]) m5
          generalize upd G5 u5 (.lst [V.int 1]) = G6 at su5 eu5 ⊢
          refine ⟨u4, u5, _, _, rfl, rfl, su5 _ _ eu4, eu5, by rw [List.length_append, List.length_map, List.length_replicate]; exact small_line' (by show 1 + _ + 1 ≤ _; omega), fun u6 m6 => ?_⟩
          obtain ⟨su6, eu6⟩ := new_st (o := .lst ([V.int xx] ++ (List.replicate (o - 1).toNat 0).map V.int ++ [V.int 1])) m6
          generalize upd G6 u6 (.lst ([V.int xx] ++ (List.replicate (o - 1).toNat 0).map V.int ++ [V.int 1])) = G7 at su6 eu6 ⊢
          have smE := sm.trans (su1.trans (su2.trans (su3.trans (su4.trans su5))))
          refine ⟨u6, ([xx] ++ List.replicate (o - 1).toNat 0) ++ [1], some (.int o), rfl, smE.trans su6, ?_, row_one h2 fun y hy => ?_, ?_, smE.free m6⟩
          · show G7 u6 = _
            rw [eu6, List.map_append, List.map_append]; rfl
          · rcases List.mem_append.mp hy with e | e
            · have : y = xx := by simpa using e
              rw [this]; exact ⟨v0, v1⟩
            · rw [(List.mem_replicate.mp e).2]; omega
          · rw [List.length_append, List.length_append, List.length_replicate]
            show 1 + _ + 1 ≤ 128
            omega
        refine ⟨.int o, rfl, .int p, rfl, _, _, rfl, rfl, .inl ⟨by omega, by omega⟩, _, _, rfl, rfl, _, rfl, ite2 (fun b3 => ?_) (fun b3 => iteF lastrow)⟩
        have b3' : o * (p : Int) < 100 := of_decide_eq_true b3
        refine ⟨.int c, rfl, _, _, rfl, rfl, ⟨by decide, by decide⟩, _, _, rfl, rfl, by show (0 : Int) < 2; decide, rfl, _, rfl, ite2 (fun b4 => ?_) (fun b4 => lastrow)⟩
        have hgrow : o * 2 ≤ o * (p : Int) := Int.mul_le_mul_of_nonneg_left (by omega) (by omega)
        refine ⟨fun σ' G2 => σ' = [some (.ref a), some (.int p), some (.ref rw'), y3, some (.int c), y5, y6, some (.int (o * p)), y8] ∧ G2 = G', fun σ' G2 ⟨ea, eb⟩ => ⟨(100 - o * (p : Int)).toNat, by omega, o * p, rfl, ea, eb, by omega, b3'⟩, .int o, rfl, .int p, rfl, _, _, rfl, rfl, .inl ⟨by omega, by omega⟩, rfl, rfl⟩
      · rintro σ' G' ⟨rw2, row2, y7', rfl, sm', hrw', rrow', zrow2, nrw2⟩
        -- x and a number many times
        refine ⟨fun σ' G' => ∃ (rw' : Addr) (row : List Int) (y8 : Option V), σ' = [some (.ref a), some (.int p), some (.ref rw'), y3, some (.int c), y5, y6, y7', y8] ∧ Same H G' ∧ Ls G' rw' row ∧ Pl.IsRow p row ∧ row.length ≤ 128 ∧ H rw' = none, ?_, ?_⟩
        · refine ⟨.int c, rfl, _, _, rfl, rfl, by show (0 : Int) < 8; decide, rfl, _, rfl, ite2 (fun b1 => ?_) (fun b1 => iteF ⟨rw2, row2, y8, rfl, sm', hrw', rrow', zrow2, nrw2⟩)⟩
          refine ⟨.ref rw2, rfl, Nat.zero_le _, fun e0 n0 => ?_⟩
          obtain ⟨se, ee0⟩ := new_st (o := .lst []) n0
          generalize upd G' e0 (.lst []) = G2 at se ee0 ⊢
          refine ⟨dI row2, dI [], dp_ls (se _ _ hrw'), dp_ls (l := []) ee0, dI_shaped _, dI_shaped _, _, rfl, ?_⟩
          rw [dI_eqv]
          by_cases hz : row2 = []
          · rw [decide_eq_true hz]
            exact iteF ⟨rw2, row2, y8, rfl, sm'.trans se, se _ _ hrw', rrow', zrow2, nrw2⟩
          · rw [decide_eq_false hz]
            refine iteT ?_
            have hl := row_last rrow' hpos hz
            refine ⟨.int p, rfl, .ref rw2, rfl, 1, rfl, _, rfl, rw2, _, rfl, .of (se _ _ hrw'), fun u1 m1 => ?_⟩
            rw [cutv_last hz]
            generalize Pl.co row2 (row2.length - 1) = lc at hl
            obtain ⟨su1, eu1⟩ := new_st (o := .lst [V.int lc]) m1
            generalize upd G2 u1 (.lst [V.int lc]) = G3 at su1 eu1 ⊢
            refine ⟨.int c, rfl, _, _, rfl, rfl, ⟨by decide, by decide⟩, _, _, rfl, rfl, .int p, rfl, _, _, rfl, rfl, by show (0 : Int) < p; omega, (by show 2 ≤ sizeLine; decide), fun u2 m2 => ?_⟩
            dsimp only
            have v0 := Int.emod_nonneg (1 + c / 128) (show (p : Int) ≠ 0 by omega)
            have v1 := Int.emod_lt_of_pos (1 + c / 128) (show (0 : Int) < p by omega)
            generalize (1 + c / 128) % (p : Int) = xx at v0 v1 ⊢
            obtain ⟨su2, eu2⟩ := new_st (o := .lst [V.int xx, V.int 1]) m2
            generalize upd G3 u2 (.lst [V.int xx, V.int 1]) = G4 at su2 eu2 ⊢
            have rxx : Pl.IsRow p ([xx] ++ [1]) := row_one h2 fun y hy => by
              have : y = xx := by simpa using hy
              rw [this]; exact ⟨v0, v1⟩
            have rlc : Pl.IsRow p [lc] := row_single hl.1 hl.2.1 hl.2.2
            have sm4 := sm'.trans (se.trans (su1.trans su2))
            refine ⟨p, u1, u2, [lc], [xx] ++ [1], rfl, hp, su2 _ _ eu1, (by show G4 u2 = _; rw [eu2]; rfl), rlc, rxx, by show 1 ≤ _; omega, by show 2 ≤ _; omega, fun G5 r5 sG5 nr5 hr5 => ?_⟩
            have hm5 := Pl.rowL_mul_len hpos rlc rxx
            have z5 : (Pl.rowL p (Pl.mulL [lc] ([xx] ++ [1]))).length ≤ 2 := hm5
            have rr5 := Pl.rowL_row hpos (Pl.mulL [lc] ([xx] ++ [1]))
            generalize Pl.rowL p (Pl.mulL [lc] ([xx] ++ [1])) = row5 at hr5 z5 rr5
            have sm5 := sm4.trans sG5
            have g0 := Int.emod_nonneg (c / 8) (show (16 : Int) ≠ 0 by decide)
            have g1 := Int.emod_lt_of_pos (c / 8) (show (0 : Int) < 16 by decide)
            refine ⟨.int c, rfl, _, _, rfl, rfl, ⟨by decide, by decide⟩, _, _, rfl, rfl, by show (0 : Int) < 16; decide, _, _, rfl, rfl, _, rfl, by omega, by omega, ?_⟩
            refine for_range (lo := 0) (n := (5 + c / 8 % 16).toNat) (fun j σ G6 => ∃ (rw' : Addr) (row : List Int) (y8 : Option V), σ = [some (.ref a), some (.int p), some (.ref rw'), y3, some (.int c), y5, y6, y7', y8] ∧ Same H G6 ∧ Ls G6 rw' row ∧ Pl.IsRow p row ∧ row.length ≤ 2 + j ∧ H rw' = none)
              ⟨r5, row5, y8, rfl, sm5, hr5, rr5, by omega, sm4.free nr5⟩ ?_ ?_
            · rintro j σ G6 hj ⟨rw6, row6, y8, rfl, sm6, hrw6, rrow6, zrow6, nrw6⟩
              refine ⟨.int p, rfl, .ref rw6, rfl, .int c, rfl, _, _, rfl, rfl, ⟨by decide, by decide⟩, .int p, rfl, _, _, rfl, rfl, by show (0 : Int) < p; omega, (by show 2 ≤ sizeLine; decide), fun u3 m3 => ?_⟩
              dsimp only
              have v0 := Int.emod_nonneg (c / 128) (show (p : Int) ≠ 0 by omega)
              have v1 := Int.emod_lt_of_pos (c / 128) (show (0 : Int) < p by omega)
              generalize c / 128 % (p : Int) = yy at v0 v1 ⊢
              obtain ⟨su3, eu3⟩ := new_st (o := .lst [V.int yy, V.int 1]) m3
              generalize upd G6 u3 (.lst [V.int yy, V.int 1]) = G7 at su3 eu3 ⊢
              have ryy : Pl.IsRow p ([yy] ++ [1]) := row_one h2 fun y hy => by
                have : y = yy := by simpa using hy
                rw [this]; exact ⟨v0, v1⟩
              refine ⟨p, rw6, u3, row6, [yy] ++ [1], rfl, hp, su3 _ _ hrw6, (by show G7 u3 = _; rw [eu3]; rfl), rrow6, ryy, by omega, by show 2 ≤ _; omega, fun G8 r8 sG8 nr8 hr8 => ?_⟩
              have hm := Pl.rowL_mul_len hpos rrow6 ryy
              have hm2 : (Pl.rowL p (Pl.mulL row6 ([yy] ++ [1]))).length ≤ row6.length + 2 - 1 := hm
              exact ⟨r8, _, some (.int (0 + (j : Nat))), rfl, (sm6.trans su3).trans sG8, hr8, Pl.rowL_row hpos _, by omega, (sm6.trans su3).free nr8⟩
            · rintro σ G6 ⟨rw6, row6, y8, rfl, sm6, hrw6, rrow6, zrow6, nrw6⟩
              exact ⟨rw6, row6, y8, rfl, sm6, hrw6, rrow6, by omega, nrw6⟩
        · rintro σ' G' ⟨rw6, row6, y8, rfl, sm6, hrw6, rrow6, zrow6, nrw6⟩
          exact ⟨.ref rw6, rfl, q row6 rrow6 zrow6 G' rw6 sm6 nrw6 hrw6⟩
end
end Kp
-- W13
set_option Elab.async false
set_option linter.all false
set_option maxRecDepth 100000
set_option maxHeartbeats 4000000
namespace Kp
open PySem PySem.Spec PyProof.Rows L2
theorem bo_tuple : bootBuiltins "tuple" = some (.type "tuple") := by decide +kernel
section
variable {P : Program} {w : World} {K : PySem.W.Frag} {mg : Str → Option Value} {base : Heap}
/-! ### _law_comes_to_one -/
abbrev sComes : Stmt := topS 40
abbrev nComes : List Str := ["_law_prime", "_law_pair", "_law_ones", "_law_others"]
theorem scComes : FnScope nComes ["_law_prime", "_law_pair", "_law_ones", "_law_others"] (defScope sComes) := ⟨rfl, rfl, rfl, by decide +kernel, rfl, by decide +kernel, by decide +kernel⟩
def spComes : Sp := fun vs H Q _ => ∃ (p : Nat) (t x y a b : Addr) (u v la lb : List Int), vs = [.int p, .ref t, .ref a, .ref b] ∧ Pm p ∧ H t = some (.tup [.ref x, .ref y]) ∧ Ls H x u ∧ Ls H y v ∧ Ls H a la ∧ Ls H b lb ∧
  Pl.IsRow p u ∧ Pl.IsRow p v ∧ Pl.IsRow p la ∧ Pl.IsRow p lb ∧ u.length ≤ 20000 ∧ v.length ≤ 20000 ∧ la.length ≤ 20000 ∧ lb.length ≤ 20000 ∧ Pl.mk p u * Pl.mk p la + Pl.mk p v * Pl.mk p lb = 1 ∧ ∀ H', Same H H' → Q (.bl true) H'
theorem ok_comes {f fR fS fT : Addr} {fd fdR fdS fdT : FuncData} {k : Nat} (F : Fun K "_law_comes_to_one" "_law_comes_to_one" sComes f fd)
    (GR : FnOk P w K mg base CX0 k fR fdR ["_law_prime", "_law_found"] spIsRow) (kR : PySem.W.keepIn K (.ref fR) = true) (bR : Binds K fdR ["_law_prime", "_law_found"] []) (gR : mg "_law_is_row" = some (.ref fR))
    (GS : FnOk P w K mg base CX0 k fS fdS ["_law_prime", "_law_ones", "_law_others"] spSum) (kS : PySem.W.keepIn K (.ref fS) = true) (bS : Binds K fdS ["_law_prime", "_law_ones", "_law_others"] []) (gS : mg "_law_sum" = some (.ref fS))
    (GT : FnOk P w K mg base CX0 k fT fdT ["_law_prime", "_law_ones", "_law_others"] spTimes) (kT : PySem.W.keepIn K (.ref fT) = true) (bT : Binds K fdT ["_law_prime", "_law_ones", "_law_others"] []) (gT : mg "_law_times" = some (.ref fT)) (T : Bt mg) :
    FnOk P w K mg base CX0 (k + 1) f fd ["_law_prime", "_law_pair", "_law_ones", "_law_others"] spComes := by
  refine F.ok scComes (fun vs H Q E h => ?_) (fun cdv A outer s H vs Q E hr h => ?_)
  · obtain ⟨p, t, x, y, a, b, u, v, la, lb, rfl, _⟩ := h
    rfl
  · obtain ⟨p, t, x, y, a, b, u, v, la, lb, rfl, hp, ht, hx, hy, ha, hb, ru, rv, ra, rb, zu, zv, za, zb, ee, q⟩ := h
    have hpos := hp.pos
    refine ⟨_, pss_cons (ps_if (PW.pt (pw_or (pt_not (pt_val (pe_callB call_isi (by rfl) T.isin bo_isin (pa_cons (pv 1) (pa_cons (pe_bltn (v := .ty "tuple") (by rfl) T.tuple bo_tuple rfl) pa_nil))))) (pw_or1 (pt_cmpR op_ne (pe_callB call_len_seq (by rfl) T.len PySem.boot_len (pa_cons (pv 1) pa_nil)) pe_int (nomark _))))) (pss_one (ps_ret pe_bl)) pss_nil)
      (pss_cons (ps_if (PW.pt (pw_or (pt_not (pt_val (pe_call GR hr (by rfl) gR kR bR .nil pass0 (pa_cons (pv 0) (pa_cons (pe_ix ix_tup (pv 1) pe_int (fun _ _ => rfl)) pa_nil))))) (pw_or1 (pt_not (pt_val (pe_call GR hr (by rfl) gR kR bR .nil pass0 (pa_cons (pv 0) (pa_cons (pe_ix ix_tup (pv 1) pe_int (fun _ _ => rfl)) pa_nil)))))))) (pss_one (ps_ret pe_bl)) pss_nil)
      (pss_one (ps_ret (pe_cmpR (op_eqD hr.units) (pe_call GS hr (by rfl) gS kS bS .nil pass0 (pa_cons (pv 0) (pa_cons (pe_call GT hr (by rfl) gT kT bT .nil pass0 (pa_cons (pv 0) (pa_cons (pe_ix ix_tup (pv 1) pe_int (fun _ _ => rfl)) (pa_cons (pv 2) pa_nil))))
        (pa_cons (pe_call GT hr (by rfl) gT kT bT .nil pass0 (pa_cons (pv 0) (pa_cons (pe_ix ix_tup (pv 1) pe_int (fun _ _ => rfl)) (pa_cons (pv 3) pa_nil)))) pa_nil)))) (pe_lst (pa_cons pe_int pa_nil)) (nomark _))))), ?_⟩
    refine ⟨.ref t, rfl, .ref t, .ty "tuple", _, _, true, rfl, .ty "tuple", .base (.tup ht), kit_ty ktt, _, rfl, iteF ?_⟩
    refine ⟨.ref t, rfl, t, _, rfl, .inr (.of ht), rfl, _, rfl, iteNS rfl ?_⟩
    refine ⟨.int p, rfl, .ref t, rfl, t, _, 0, .ref x, rfl, rfl, .of ht, rfl, p, x, u, rfl, hx, ru, fun H1 s1 => ⟨_, rfl, iteF ?_⟩⟩
    refine ⟨.int p, rfl, .ref t, rfl, t, _, 1, .ref y, rfl, rfl, .of (s1 _ _ ht), rfl, p, y, v, rfl, s1 _ _ hy, rv, fun H2 s2' => ⟨_, rfl, iteF ?_⟩⟩
    have s2 := s1.trans s2'
    refine ⟨.int p, rfl, .int p, rfl, .ref t, rfl, t, _, 0, .ref x, rfl, rfl, .of (s2 _ _ ht), rfl, .ref a, rfl, p, x, a, u, la, rfl, hp, s2 _ _ hx, s2 _ _ ha, ru, ra, zu, za, fun H3 r1 s3' nr1 hr1 => ?_⟩
    have s3 := s2.trans s3'
    refine ⟨.int p, rfl, .ref t, rfl, t, _, 1, .ref y, rfl, rfl, .of (s3 _ _ ht), rfl, .ref b, rfl, p, y, b, v, lb, rfl, hp, s3 _ _ hy, s3 _ _ hb, rv, rb, zv, zb, fun H4 r2 s4' nr2 hr2 => ?_⟩
    have s4 := s3.trans s4'
    have z1 := Pl.rowL_mul_len hpos ru ra
    have z2 := Pl.rowL_mul_len hpos rv rb
    refine ⟨p, r1, r2, _, _, rfl, hp, s4' _ _ hr1, hr2, by omega, by omega, fun H5 r3 s5' nr3 hr3 => ?_⟩
    have s5 := s4.trans s5'
    refine ⟨(by show 1 ≤ sizeLine; decide), fun e0 n0 => ?_⟩
    obtain ⟨se, ee0⟩ := new_st (o := .lst [V.int 1]) n0
    generalize upd H5 e0 (.lst [V.int 1]) = H6 at se ee0 ⊢
    refine ⟨dI _, dI [1], dp_ls (se _ _ hr3), dp_ls (l := [1]) ee0, dI_shaped _, dI_shaped _, ?_⟩
    rw [dI_eqv]
    have hone : Pl.rowL p (Pl.addL (Pl.rowL p (Pl.mulL u la)) (Pl.rowL p (Pl.mulL v lb))) = [1] := by
      refine Pl.row_inj (Pl.rowL_row hpos _) (Pl.isRow_one hp.prm) ?_
      rw [Pl.mk_rowL, Pl.mk_addL, Pl.mk_rowL, Pl.mk_rowL, Pl.mk_mulL, Pl.mk_mulL, ee]
      rfl
    rw [decide_eq_true hone]
    exact q _ (s5.trans se)
/-! ### _law_is_told -/
abbrev sTold : Stmt := topS 41
abbrev nTold : List Str := ["_law_prime", "_law_found", "_law_before", "_law_pair"]
theorem scTold : FnScope nTold ["_law_prime", "_law_found"] (defScope sTold) := ⟨rfl, rfl, rfl, by decide +kernel, rfl, by decide +kernel, by decide +kernel⟩
def spTold : Sp := fun vs H Q _ => ∃ (p : Nat) (t lt : Addr) (c : Int) (es : List El), vs = [.int p, .ref t] ∧ H t = some (.tup [.int c, .ref lt]) ∧ H lt = some (refsOf es) ∧
  (∀ x ∈ es, H x.1 = some (.tup [.ref x.2.1, .int (x.2.2.2 : Nat)]) ∧ Ls H x.2.1 x.2.2.1 ∧ Pl.IsRow p x.2.2.1 ∧ 1 < x.2.2.1.length ∧ Pl.co x.2.2.1 (x.2.2.1.length - 1) = 1 ∧ 1 ≤ x.2.2.2) ∧ (es.Pairwise fun x y => x.2.2.2 < y.2.2.2) ∧ ∀ H', Same H H' → Q (.bl true) H'
theorem ok_told {f fR fW : Addr} {fd fdR fdW : FuncData} {k : Nat} (F : Fun K "_law_is_told" "_law_is_told" sTold f fd)
    (GR : FnOk P w K mg base CX0 k fR fdR ["_law_prime", "_law_found"] spIsRow) (kR : PySem.W.keepIn K (.ref fR) = true) (bR : Binds K fdR ["_law_prime", "_law_found"] []) (gR : mg "_law_is_row" = some (.ref fR))
    (GW : FnOk P w K mg base CX0 k fW fdW ["_law_found"] spWhole) (kW : PySem.W.keepIn K (.ref fW) = true) (bW : Binds K fdW ["_law_found"] []) (gW : mg "_law_whole" = some (.ref fW)) (T : Bt mg) :
    FnOk P w K mg base CX0 (k + 1) f fd ["_law_prime", "_law_found"] spTold := by
  refine F.ok scTold (fun vs H Q E h => ?_) (fun cdv A outer s H vs Q E hr h => ?_)
  · obtain ⟨p, t, lt, c, es, rfl, _⟩ := h
    rfl
  · obtain ⟨p, t, lt, c, es, rfl, ht, hlt, hes, hpw, q⟩ := h
    have nd := scTold.nd
    refine ⟨_, pss_cons (ps_if (PW.pt (pw_or (pt_not (pt_val (pe_callB call_isi (by rfl) T.isin bo_isin (pa_cons (pv 1) (pa_cons (pe_bltn (v := .ty "tuple") (by rfl) T.tuple bo_tuple rfl) pa_nil))))) (pw_or (pt_cmpR op_ne (pe_callB call_len_seq (by rfl) T.len PySem.boot_len (pa_cons (pv 1) pa_nil)) pe_int (nomark _))
          (pw_or (pt_not (pt_val (pe_call GW hr (by rfl) gW kW bW .nil pass0 (pa_cons (pe_ix ix_tup (pv 1) pe_int (fun _ _ => rfl)) pa_nil)))) (pw_or1 (pt_not (pt_val (pe_callB call_isi (by rfl) T.isin bo_isin (pa_cons (pe_ix ix_tup (pv 1) pe_int (fun _ _ => rfl)) (pa_cons (pe_bltn (v := .ty "list") (by rfl) T.list bo_list rfl) pa_nil))))))))))
          (pss_one (ps_ret pe_bl)) pss_nil)
      (pss_cons (ps_set (i := 2) nd rfl (.inl rfl) pe_int)
      (pss_cons (ps_for PassesOwn.never rfl (pi_list (pe_ix ix_tup (pv 1) pe_int (fun _ _ => rfl))) (pg_name (i := 3) nd rfl (.inl rfl))
        (pss_cons (ps_if (PW.pt (pw_or (pt_not (pt_val (pe_callB call_isi (by rfl) T.isin bo_isin (pa_cons (pv 3) (pa_cons (pe_bltn (v := .ty "tuple") (by rfl) T.tuple bo_tuple rfl) pa_nil))))) (pw_or (pt_cmpR op_ne (pe_callB call_len_seq (by rfl) T.len PySem.boot_len (pa_cons (pv 3) pa_nil)) pe_int (nomark _))
            (pw_or (pt_not (pt_val (pe_call GR hr (by rfl) gR kR bR .nil pass0 (pa_cons (pv 0) (pa_cons (pe_ix ix_tup (pv 3) pe_int (fun _ _ => rfl)) pa_nil))))) (pw_or1 (pt_not (pt_val (pe_call GW hr (by rfl) gW kW bW .nil pass0 (pa_cons (pe_ix ix_tup (pv 3) pe_int (fun _ _ => rfl)) pa_nil)))))))))
            (pss_one (ps_ret pe_bl)) pss_nil)
        (pss_cons (ps_if (PW.pt (pw_or (pt_cmpR op_lt (pe_callB call_len_seq (by rfl) T.len PySem.boot_len (pa_cons (pe_ix ix_tup (pv 3) pe_int (fun _ _ => rfl)) pa_nil)) pe_int (nomark _)) (pw_or (pt_cmpR op_ne (pe_ix ix_list (pe_ix ix_tup (pv 3) pe_int (fun _ _ => rfl)) (pe_un un_neg pe_int) (fun _ _ => rfl)) pe_int (nomark _))
            (pw_or1 (pt_cmpR op_le (pe_ix ix_tup (pv 3) pe_int (fun _ _ => rfl)) (pv 2) (nomark _)))))) (pss_one (ps_ret pe_bl)) pss_nil)
        (pss_one (ps_set (i := 2) nd rfl (.inl rfl) (pe_ix ix_tup (pv 3) pe_int (fun _ _ => rfl)))))))
      (pss_one (ps_ret pe_bl)))), ?_⟩
    refine ⟨.ref t, rfl, .ref t, .ty "tuple", _, _, true, rfl, .ty "tuple", .base (.tup ht), kit_ty ktt, _, rfl, iteF ?_⟩
    refine ⟨.ref t, rfl, t, _, rfl, .inr (.of ht), rfl, _, rfl, iteNS rfl ?_⟩
    refine ⟨.ref t, rfl, t, _, 0, .int c, rfl, rfl, .of ht, rfl, c, rfl, _, rfl, iteF ?_⟩
    refine ⟨.ref t, rfl, t, _, 1, .ref lt, rfl, rfl, .of ht, rfl, .ref lt, .ty "list", _, _, true, rfl, .ty "list", .base (.lst hlt), kit_ty kll, _, rfl, iteF ?_⟩
    refine ⟨.ref t, rfl, t, _, 1, .ref lt, rfl, rfl, .of ht, rfl, lt, rfl, ⟨_, .of hlt⟩, for_list (K := K) (a := lt) (xs := es.map fun x => V.ref x.1) (fun i σ G => ∃ (bf : Nat) (y : Option V), σ = [some (.int p), some (.ref t), some (.int (bf : Nat)), y] ∧ Same H G ∧ ∀ x ∈ es.drop i, bf < x.2.2.2)
      ⟨0, none, rfl, Same.refl _, fun x hx => ?_⟩ (fun i σ G _ ⟨_, _, _, sm, _⟩ => .of (sm _ _ hlt)) ?_ ?_⟩
    · have := (hes x (by rw [List.drop_zero] at hx; exact hx)).2.2.2.2.2
      omega
    · rintro i x σ G hx ⟨bf, y, rfl, sm, hbf⟩
      have hi : i < es.length := by
        have := (List.getElem?_eq_some_iff.mp hx).1
        rw [List.length_map] at this
        exact this
      have hd : es.drop i = es[i] :: es.drop (i + 1) := List.drop_eq_getElem_cons hi
      rw [List.getElem?_map, List.getElem?_eq_getElem hi] at hx
      obtain rfl : V.ref es[i].1 = x := Option.some.inj hx
      obtain ⟨k1, k2, k3, k4, k5, k6⟩ := hes es[i] (List.getElem_mem hi)
      have hb1 := hbf es[i] (by rw [hd]; exact List.mem_cons_self)
      have hpd : (es.drop i).Pairwise fun x y => x.2.2.2 < y.2.2.2 := hpw.sublist (List.drop_sublist _ _)
      rw [hd] at hpd
      have hnext := (List.pairwise_cons.mp hpd).1
      generalize es[i] = ex at k1 k2 k3 k4 k5 k6 hb1 hnext
      have t1 := sm _ _ k1
      refine ⟨.ref ex.1, rfl, .ref ex.1, .ty "tuple", _, _, true, rfl, .ty "tuple", .base (.tup t1), kit_ty ktt, _, rfl, iteF ?_⟩
      refine ⟨.ref ex.1, rfl, ex.1, _, rfl, .inr (.of t1), rfl, _, rfl, iteNS rfl ?_⟩
      refine ⟨.int p, rfl, .ref ex.1, rfl, ex.1, _, 0, .ref ex.2.1, rfl, rfl, .of t1, rfl, p, ex.2.1, ex.2.2.1, rfl, sm _ _ k2, k3, fun G1 sG1 => ⟨_, rfl, iteF ?_⟩⟩
      have t2 := sG1 _ _ t1
      have l2 := sG1 _ _ (sm _ _ k2)
      refine ⟨.ref ex.1, rfl, ex.1, _, 1, .int (ex.2.2.2 : Nat), rfl, rfl, .of t2, rfl, _, rfl, _, rfl, iteF ?_⟩
      refine ⟨.ref ex.1, rfl, ex.1, _, 0, .ref ex.2.1, rfl, rfl, .of t2, rfl, ex.2.1, _, rfl, .inl (.of l2), _, _, rfl, rfl, _, rfl, ?_⟩
      rw [List.length_map, decide_eq_false (show ¬ (ex.2.2.1.length : Int) < 2 by omega)]
      refine iteF ⟨.ref ex.1, rfl, ex.1, _, 0, .ref ex.2.1, rfl, rfl, .of t2, rfl, 1, rfl, ex.2.1, _, -1, _, rfl, rfl, .of l2, at_neg (by omega), rfl, _, rfl, iteNS (by rw [k5]) ?_⟩
      refine ⟨.ref ex.1, rfl, ex.1, _, 1, .int (ex.2.2.2 : Nat), rfl, rfl, .of t2, rfl, .int (bf : Nat), rfl, _, _, rfl, rfl, _, rfl, ?_⟩
      rw [decide_eq_false (show ¬ (ex.2.2.2 : Int) ≤ (bf : Int) by omega)]
      refine iteF ⟨.ref ex.1, rfl, ex.1, _, 1, .int (ex.2.2.2 : Nat), rfl, rfl, .of t2, rfl, ?_⟩
      exact ⟨ex.2.2.2, _, rfl, sm.trans sG1, hnext⟩
    · rintro σ G ⟨bf, y, rfl, sm, _⟩
      exact q _ sm
/-! ### _law_apart -/
abbrev sApart : Stmt := topS 42
abbrev nApart : List Str := ["_law_prime", "_law_rows", "_law_k", "_law_j", "_law_five"]
theorem scApart : FnScope nApart ["_law_prime", "_law_rows"] (defScope sApart) := ⟨rfl, rfl, rfl, by decide +kernel, rfl, by decide +kernel, by decide +kernel⟩
def spApart : Sp := fun vs H Q _ => ∃ (p : Nat) (R : Addr) (rs : List (Addr × List Int)), vs = [.int p, .ref R] ∧ Pm p ∧ H R = some (.lst (rs.map fun x => V.ref x.1)) ∧ rs.length ≤ 1000 ∧
  (∀ x ∈ rs, Ls H x.1 x.2 ∧ Pl.IsRow p x.2 ∧ x.2 ≠ [] ∧ x.2.length ≤ 1000 ∧ Pl.Poly.Sqf (Pl.mk p x.2)) ∧ (rs.Pairwise fun x y => Pl.Poly.Cop (Pl.mk p x.2) (Pl.mk p y.2)) ∧ ∀ H', Same H H' → Q (.bl true) H'
theorem ok_apart {f fC fN fS fM : Addr} {fd fdC fdN fdS fdM : FuncData} {k : Nat} (F : Fun K "_law_apart" "_law_apart" sApart f fd)
    (GC : FnOk P w K mg base CX0 k fC fdC ["_law_prime", "_law_pair", "_law_ones", "_law_others"] spComes) (kC : PySem.W.keepIn K (.ref fC) = true) (bC : Binds K fdC ["_law_prime", "_law_pair", "_law_ones", "_law_others"] []) (gC : mg "_law_comes_to_one" = some (.ref fC))
    (GN : FnOk P w K mg base CX0 k fN fdN ["prime", "row"] spAlone) (kN : PySem.W.keepIn K (.ref fN) = true) (bN : Binds K fdN ["prime", "row"] []) (gN : mg "no_square" = some (.ref fN))
    (GS : FnOk P w K mg base CX0 k fS fdS ["_law_prime", "_law_row"] spFalling) (kS : PySem.W.keepIn K (.ref fS) = true) (bS : Binds K fdS ["_law_prime", "_law_row"] []) (gS : mg "_law_slope" = some (.ref fS))
    (GM : FnOk P w K mg base CX0 k fM fdM ["prime", "ones", "others"] spMeet) (kM : PySem.W.keepIn K (.ref fM) = true) (bM : Binds K fdM ["prime", "ones", "others"] []) (gM : mg "meet" = some (.ref fM)) (T : Bt mg) :
    FnOk P w K mg base CX0 (k + 1) f fd ["_law_prime", "_law_rows"] spApart := by
  refine F.ok scApart (fun vs H Q E h => ?_) (fun cdv A outer s H vs Q E hr h => ?_)
  · obtain ⟨p, R, rs, rfl, _⟩ := h
    rfl
  · obtain ⟨p, R, rs, rfl, hp, hR, zR, hrs, hpw, q⟩ := h
    have nd := scApart.nd
    have hpos := hp.pos
    refine ⟨_, pss_cons (ps_for PassesOwn.never rfl (pi_range1 (by rfl) T.range (pa_cons (pe_callB call_len_seq (by rfl) T.len PySem.boot_len (pa_cons (pv 1) pa_nil)) pa_nil)) (pg_name (i := 2) nd rfl (.inl rfl))
        (pss_cons (ps_if (pt_not (pt_val (pe_call GC hr (by rfl) gC kC bC .nil pass0 (pa_cons (pv 0) (pa_cons (pe_call GN hr (by rfl) gN kN bN .nil pass0 (pa_cons (pv 0) (pa_cons (pe_callTy call_list_of (by rfl) T.list bo_list (pa_cons (pe_ix ix_list (pv 1) (pv 2) (fun _ _ => rfl)) pa_nil)) pa_nil)))
            (pa_cons (pe_ix ix_list (pv 1) (pv 2) (fun _ _ => rfl)) (pa_cons (pe_call GS hr (by rfl) gS kS bS .nil pass0 (pa_cons (pv 0) (pa_cons (pe_ix ix_list (pv 1) (pv 2) (fun _ _ => rfl)) pa_nil))) pa_nil))))))) (pss_one (ps_ret pe_bl)) pss_nil)
        (pss_one (ps_for PassesOwn.never rfl (pi_range1 (by rfl) T.range (pa_cons (pv 2) pa_nil)) (pg_name (i := 3) nd rfl (.inl rfl))
          (pss_cons (ps_set (i := 4) nd rfl (.inl rfl) (pe_call GM hr (by rfl) gM kM bM .nil pass0 (pa_cons (pv 0) (pa_cons (pe_callTy call_list_of (by rfl) T.list bo_list (pa_cons (pe_ix ix_list (pv 1) (pv 3) (fun _ _ => rfl)) pa_nil)) (pa_cons (pe_callTy call_list_of (by rfl) T.list bo_list (pa_cons (pe_ix ix_list (pv 1) (pv 2) (fun _ _ => rfl)) pa_nil)) pa_nil)))))
          (pss_one (ps_if (pt_not (pt_val (pe_call GC hr (by rfl) gC kC bC .nil pass0 (pa_cons (pv 0) (pa_cons (pe_tup (pa_cons (pe_ix ix_tup (pv 4) pe_int (fun _ _ => rfl)) (pa_cons (pe_ix ix_tup (pv 4) pe_int (fun _ _ => rfl)) pa_nil)))
            (pa_cons (pe_ix ix_list (pv 1) (pv 3) (fun _ _ => rfl)) (pa_cons (pe_ix ix_list (pv 1) (pv 2) (fun _ _ => rfl)) pa_nil))))))) (pss_one (ps_ret pe_bl)) pss_nil)))))))
      (pss_one (ps_ret pe_bl)), ?_⟩
    have rat : ∀ (i : Nat) (hi : i < rs.length) (z : Int), z = (i : Int) → atI (rs.map fun x => V.ref x.1) z = some (V.ref rs[i].1) := fun i hi z e => at_of e (by rw [List.getElem?_map, List.getElem?_eq_getElem hi]; rfl)
    refine ⟨.ref R, rfl, R, _, rfl, .inl (.of hR), _, rfl, by omega, by rw [List.length_map]; omega, ?_⟩
    rw [List.length_map, Int.toNat_natCast]
    refine for_range (lo := 0) (n := rs.length) (fun i σ G => ∃ (y2 y3 y4 : Option V), σ = [some (.int p), some (.ref R), y2, y3, y4] ∧ Same H G) ⟨none, none, none, rfl, Same.refl _⟩ ?_ ?_
    · rintro i σ G hi ⟨y2, y3, y4, rfl, sm⟩
      obtain ⟨k1, k2, k3, k4, k5⟩ := hrs rs[i] (List.getElem_mem hi)
      have ri := rat i hi (0 + (i : Nat)) (by omega)
      generalize hxi : rs[i] = xi at k1 k2 k3 k4 k5 ri
      have zi : 0 < xi.2.length := List.length_pos_iff.mpr k3
      refine ⟨.int p, rfl, .int p, rfl, .ref R, rfl, .int (0 + (i : Nat)), rfl, R, _, _, _, rfl, rfl, .of (sm _ _ hR), ri, xi.1, _, rfl, .inl (.of (sm _ _ k1)), fun c1 nc1 => ?_⟩
      obtain ⟨sc1, ec1⟩ := new_st (o := .lst (xi.2.map V.int)) nc1
      generalize upd G c1 (.lst (xi.2.map V.int)) = G1 at sc1 ec1 ⊢
      have sm1 := sm.trans sc1
      refine ⟨p, c1, xi.2, rfl, hp, ec1, k2, k3, by omega, fun hns => absurd k5 hns, fun _ G2 t x y u v sG2 nt nx ny hxy hxt hyt ht hu hv ru rv ee zu zv => ?_⟩
      have sm2 := sm1.trans sG2
      refine ⟨.ref R, rfl, .int (0 + (i : Nat)), rfl, R, _, _, _, rfl, rfl, .of (sm2 _ _ hR), ri, .int p, rfl, .ref R, rfl, .int (0 + (i : Nat)), rfl, R, _, _, _, rfl, rfl, .of (sm2 _ _ hR), ri, p, xi.1, xi.2, rfl, hp, sm2 _ _ k1, k2, by omega, fun G3 d sG3 nd' hd => ?_⟩
      have sm3 := sm2.trans sG3
      have zd := der_len p xi.2
      refine ⟨p, t, x, y, xi.1, d, u, v, xi.2, _, rfl, hp, sG3 _ _ ht, sG3 _ _ hu, sG3 _ _ hv, sm3 _ _ k1, hd, ru, rv, k2, Pl.rowL_row hpos _, by omega, by omega, by omega, by omega, by rw [mk_der_row]; exact ee, fun G4 sG4 => ⟨_, rfl, iteF ?_⟩⟩
      have sm4 := sm3.trans sG4
      -- with those ahead of it
      refine ⟨.int (0 + (i : Nat)), rfl, _, rfl, by omega, by omega, ?_⟩
      have ei : ((0 : Int) + (i : Nat)).toNat = i := by omega
      rw [ei]
      refine for_range (lo := 0) (n := i) (fun j σ G => ∃ (y3 y4 : Option V), σ = [some (.int p), some (.ref R), some (.int (0 + (i : Nat))), y3, y4] ∧ Same H G) ⟨y3, y4, rfl, sm4⟩ ?_ ?_
      · rintro j σ G5 hj ⟨y3, y4, rfl, sm5⟩
        have hjl : j < rs.length := by omega
        obtain ⟨m1, m2, m3, m4, m5⟩ := hrs rs[j] (List.getElem_mem hjl)
        have rj := rat j hjl (0 + (j : Nat)) (by omega)
        have hcop := List.pairwise_iff_getElem.mp hpw j i hjl hi hj
        rw [hxi] at hcop
        generalize rs[j] = xj at m1 m2 m3 m4 m5 rj hcop
        refine ⟨.int p, rfl, .ref R, rfl, .int (0 + (j : Nat)), rfl, R, _, _, _, rfl, rfl, .of (sm5 _ _ hR), rj, xj.1, _, rfl, .inl (.of (sm5 _ _ m1)), fun c2 nc2 => ?_⟩
        obtain ⟨sc2, ec2⟩ := new_st (o := .lst (xj.2.map V.int)) nc2
        generalize upd G5 c2 (.lst (xj.2.map V.int)) = G6 at sc2 ec2 ⊢
        have sm6 := sm5.trans sc2
        refine ⟨.ref R, rfl, .int (0 + (i : Nat)), rfl, R, _, _, _, rfl, rfl, .of (sm6 _ _ hR), ri, xi.1, _, rfl, .inl (.of (sm6 _ _ k1)), fun c3 nc3 => ?_⟩
        obtain ⟨sc3, ec3⟩ := new_st (o := .lst (xi.2.map V.int)) nc3
        generalize upd G6 c3 (.lst (xi.2.map V.int)) = G7 at sc3 ec3 ⊢
        have sm7 := sm6.trans sc3
        refine ⟨p, c2, c3, xj.2, xi.2, rfl, hp, sc3 _ _ ec2, ec3, m2, k2, m3, by omega, by omega, hcop, fun G8 t5 x1 x2 x3 x4 x5 u v sG8 ht5 hu hv ru rv ee zu zv => ?_⟩
        have sm8 := sm7.trans sG8
        refine ⟨.int p, rfl, .ref t5, rfl, t5, _, 3, .ref x4, rfl, rfl, .of ht5, rfl, .ref t5, rfl, t5, _, 4, .ref x5, rfl, rfl, .of ht5, rfl, (by show 2 ≤ sizeLine; decide), fun tp ntp => ?_⟩
        obtain ⟨st, et⟩ := new_st (o := .tup [V.ref x4, V.ref x5]) ntp
        generalize upd G8 tp (.tup [V.ref x4, V.ref x5]) = G9 at st et ⊢
        have sm9 := sm8.trans st
        refine ⟨.ref R, rfl, .int (0 + (j : Nat)), rfl, R, _, _, _, rfl, rfl, .of (sm9 _ _ hR), rj, .ref R, rfl, .int (0 + (i : Nat)), rfl, R, _, _, _, rfl, rfl, .of (sm9 _ _ hR), ri, p, tp, x4, x5, xj.1, xi.1, u, v, xj.2, xi.2, rfl, hp, et, st _ _ hu, st _ _ hv, sm9 _ _ m1, sm9 _ _ k1, ru, rv, m2, k2, by omega, by omega, by omega, by omega, ee, fun G10 sG10 => ⟨_, rfl, iteF ?_⟩⟩
        exact ⟨_, _, rfl, sm9.trans sG10⟩
      · rintro σ G5 ⟨y3, y4, rfl, sm5⟩
        exact ⟨_, _, _, rfl, sm5⟩
    · rintro σ G ⟨y2, y3, y4, rfl, sm⟩
      exact q _ sm
/-! ### _law_no_parts -/
abbrev sNoParts : Stmt := topS 43
theorem scNoParts : FnScope ["_law_prime"] ["_law_prime"] (defScope sNoParts) := ⟨rfl, rfl, rfl, by decide +kernel, rfl, by decide +kernel, by decide +kernel⟩
def spNoParts : Sp := fun vs H Q _ => ∃ p : Nat, vs = [.int p] ∧ Pm p ∧ ∀ H', Same H H' → Q (.bl true) H'
theorem takes0N {X : Cx} : L2N.Takes X (fun _ _ _ _ => False) := fun _ _ x => by
  obtain ⟨_, _, _, _, _, _, _, _, _, _, _, _, _, _, _, _, z⟩ := x
  exact z.elim
def tNought : Addr → Value → Option Addr → TS := fun _ _ _ => tRet (tOp (fun x y H Q => y = .non ∧ Q (.bl (decide (x = .non))) H) (tCallS spNought (fun _ => E0) (tCons (tVar 0) (tCons (tLst tNil) tNil))) (tC .non))
theorem ok_no_parts {f fP fN C : Addr} {fd fdP fdN : FuncData} {k : Nat} (F : Fun K "_law_no_parts" "_law_no_parts" sNoParts f fd) (N : NP K mg C)
    (GP : FnOk P w K mg base (L2N.CX P w) k fP fdP ["prime", "row"] (spPartsX C)) (kP : PySem.W.keepIn K (.ref fP) = true) (bP : Binds K fdP ["prime", "row"] []) (gP : mg "parts" = some (.ref fP))
    (GN : L2H.FnH P w K mg base CX0 k fN fdN ["prime", "row"] spNought) (kN : PySem.W.keepIn K (.ref fN) = true) (bN : Binds K fdN ["prime", "row"] []) (gN : mg "no_square" = some (.ref fN)) :
    FnOk P w K mg base CX0 (k + 1) f fd ["_law_prime"] spNoParts := by
  refine F.ok scNoParts (fun vs H Q E h => ?_) (fun cdv A outer s H vs Q E hr h => ?_)
  · obtain ⟨p, rfl, _⟩ := h
    rfl
  · obtain ⟨p, rfl, hp, q⟩ := h
    refine ⟨_, pss_cons (L2N.ps_try_many (tb := fun W => tDrop (tCallS (spPartsX C) (WE W) (tCons (tVar 0) (tCons (tLst tNil) tNil)))) (l := [(.ref C, tNought)]) rfl rfl takes0N
        (fun W pn xe tk _ => pss_one (ps_expr (pe_callS GP hr (by rfl) gP kP bP (fun σ => L2N.passAt tk σ) (pa_cons (pv 0) (pa_cons (pe_lst pa_nil) pa_nil)))))
        (.cons ⟨rfl, by decide, .inl N.g⟩ (fun a oe cls d pn hz hf => pss_one (ps_ret (pe_cmpR op_isN (L2H.pe_callH GN ⟨hr.dp, hr.un⟩ ?_ (by rfl) gN kN bN pass0H (pa_cons (pv 0) (pa_cons (pe_lst pa_nil) pa_nil))) pe_non (nomark _)))) .nil))
      (pss_one (ps_ret pe_bl)), ?_⟩
    · obtain ⟨vs, hvs⟩ := hf
      exact ⟨(a, oe), ⟨rfl, vs, hvs, hz.2.2 vs hvs⟩, List.mem_cons_self⟩
    · refine ⟨.int p, rfl, Nat.zero_le _, fun l1 n1 => ?_⟩
      obtain ⟨s1, e1⟩ := new_st (o := .lst []) n1
      generalize upd H l1 (.lst []) = H1 at s1 e1 ⊢
      refine ⟨p, l1, rfl, hp, e1, fun H2 s2 => ⟨true, N.exm, fun _ a ha => ?_, fun z => Bool.noConfusion z⟩⟩
      refine ⟨.int p, rfl, Nat.zero_le _, fun l2 n2 => ?_⟩
      obtain ⟨s3, e3⟩ := new_st (o := .lst []) n2
      generalize upd H2 l2 (.lst []) = H3 at s3 e3 ⊢
      refine ⟨p, l2, rfl, hp, e3, fun H4 s4 => ⟨rfl, ?_⟩⟩
      rw [decide_eq_true rfl]
      exact q _ (s1.trans (s2.trans (s3.trans s4)))
end
end Kp
-- W14
set_option Elab.async false
set_option linter.all false
set_option maxRecDepth 100000
set_option maxHeartbeats 4000000
namespace Kp
open PySem PySem.Spec PyProof.Rows L2
section
variable {P : Program} {w : World} {K : PySem.W.Frag} {mg : Str → Option Value} {base : Heap}
/-- references of rows -/
abbrev refRow (rs : List (Addr × List Int)) : HO := .lst (rs.map fun x => V.ref x.1)
/-- ks are new copies of rs -/
structure Copies (H1 G : Hp) (D : Addr) (rs ks : List (Addr × List Int)) : Prop where
  sm : Same H1 G
  at_ : G D = some (refRow ks)
  eq : ks.map (·.2) = rs.map (·.2)
  each : ∀ x ∈ ks, Ls G x.1 x.2 ∧ H1 x.1 = none ∧ x.1 ≠ D
abbrev rCopy (K : PySem.W.Frag) : List V → Hp → VK → Prop := fun xs H Q => ∃ p ys, xs = [.ref p] ∧ (SqL K H p ys ∨ SqT K H p ys) ∧ ∀ l, H l = none → Q (.ref l) (upd H l (.lst ys))
theorem lc_copies {a D : Addr} {v : Nat} {rs : List (Addr × List Int)} {σ : L2.St} {H1 : Hp} {Qd : Hp → Prop} (hv : v < σ.length) (ha : H1 a = some (refRow rs)) (hrs : ∀ x ∈ rs, Ls H1 x.1 x.2) (hD : H1 D = none) (hz : rs.length ≤ 2000)
    (hd : ∀ G ks, Copies H1 G D rs ks → Qd G) :
    ∃ W : Nat → Nat → Hp → Prop, (∃ m, W 0 m (upd H1 D (.lst []))) ∧ ∀ i m H, W i m H →
      ((Itl K a).stop i H ∧ Qd H) ∨ ((Itl K a).go i H ∧ ∃ Nx : Hp → Prop, (∀ H', Nx H' → ∃ m', m' < m ∧ W (i + 1) m' H') ∧ ∀ x H', (Itl K a).yld i H x H' → gName v x (wipe σ [v]) H' fun σ2 H2 => wipe σ2 [v] = wipe σ [v] ∧ tYes σ2 H2 fun b H3 =>
        if b = true then tCB (rCopy K) (tCons (tVar v) tNil) σ2 H3 fun y H4 => ∃ acc, H4 D = some (.lst acc) ∧ acc.length < sizeLine ∧ Nx (upd H4 D (.lst (acc ++ [y]))) else Nx H3) := by
  refine lc_list (K := K) (a := a) (xs := rs.map fun x => V.ref x.1) (fun i G => Same H1 G ∧ ∃ ks : List (Addr × List Int), G D = some (refRow ks) ∧ ks.map (·.2) = (rs.take i).map (·.2) ∧ ∀ x ∈ ks, Ls G x.1 x.2 ∧ H1 x.1 = none ∧ x.1 ≠ D)
    ⟨same_new (Same.refl _) hD, [], upd_same, by rw [List.take_zero], fun x hx => by simp at hx⟩ (fun i G _ h => .of (h.1 _ _ ha)) ?_ ?_
  · rintro i x G hx ⟨sG, ks, hk, ek, each⟩
    have hi : i < rs.length := by
      have := (List.getElem?_eq_some_iff.mp hx).1
      rw [List.length_map] at this
      exact this
    rw [List.getElem?_map, List.getElem?_eq_getElem hi] at hx
    obtain rfl : V.ref rs[i].1 = x := Option.some.inj hx
    have hr := hrs rs[i] (List.getElem_mem hi)
    have hkl : ks.length = i := by
      have := congrArg List.length ek
      rw [List.length_map, List.length_map, List.length_take] at this
      omega
    refine ⟨by show (((wipe σ []).set v none).set v (some (V.ref rs[i].1))).set v none = _; rw [List.set_set]; exact List.set_set .., V.ref rs[i].1, by
      show (((wipe σ []).set v none).set v (some (V.ref rs[i].1)))[v]? = _
      rw [List.getElem?_set_self]
      rw [List.length_set]; exact hv, rs[i].1, _, rfl, .inl (.of (sG _ _ hr)), fun l nl => ?_⟩
    obtain ⟨sl, el⟩ := new_st (o := .lst (rs[i].2.map V.int)) nl
    generalize upd G l (.lst (rs[i].2.map V.int)) = G2 at sl el ⊢
    have hlD : l ≠ D := fun e => by rw [e, hk] at nl; cases nl
    refine ⟨_, sl _ _ hk, by rw [List.length_map]; exact small_line (by omega), same_mut (sG.trans sl) hD, ks ++ [(l, rs[i].2)], ?_, ?_, fun x hx => ?_⟩
    · rw [upd_same, refRow, List.map_append]; rfl
    · rw [List.take_add_one, List.getElem?_eq_getElem hi, List.map_append, List.map_append, ek]; rfl
    · rcases List.mem_append.mp hx with e | e
      · obtain ⟨h1, h2, h3⟩ := each x e
        exact ⟨by show upd _ _ _ _ = _; rw [upd_ne h3]; exact sl _ _ h1, h2, h3⟩
      · have ex : x = (l, rs[i].2) := by simpa using e
        rw [ex]
        exact ⟨by show upd _ _ _ _ = _; rw [upd_ne hlD]; exact el, sG.free nl, hlD⟩
  · rintro G ⟨sG, ks, hk, ek, each⟩
    rw [List.length_map, List.take_length] at ek
    exact hd G ks ⟨sG, hk, ek, each⟩
/-! ### _law_own -/
abbrev sOwn : Stmt := topS 44
abbrev nOwn : List Str := ["_law_rows", "_law_kept", "_law_k", "_law_j", "_law_row"]
theorem scOwn : FnScope nOwn ["_law_rows"] (defScope sOwn) := ⟨rfl, rfl, rfl, by decide +kernel, rfl, by decide +kernel, by decide +kernel⟩
/-- all but the rows stands -/
def Fr (rs : List (Addr × List Int)) (H G : Hp) : Prop := ∀ b o, (∀ x ∈ rs, b ≠ x.1) → H b = some o → G b = some o
theorem Fr.of {rs : List (Addr × List Int)} {H G : Hp} (s : Same H G) : Fr rs H G := fun b o _ e => s b o e
theorem Fr.trans {rs : List (Addr × List Int)} {H G E : Hp} (a : Fr rs H G) (b : Fr rs G E) : Fr rs H E := fun c o h e => b c o h (a c o h e)
def spOwn : Sp := fun vs H Q _ => ∃ (R : Addr) (rs : List (Addr × List Int)), vs = [.ref R] ∧ H R = some (refRow rs) ∧ rs.length ≤ 1000 ∧ (∀ x ∈ rs, Ls H x.1 x.2 ∧ x.1 ≠ R ∧ x.2.length ≤ 20000) ∧ (rs.Pairwise fun x y => x.1 ≠ y.1) ∧
  ∀ H', Fr rs H H' → (∀ x ∈ rs, Ls H' x.1 (x.2 ++ [1])) → Q (.bl true) H'
theorem ok_own {f : Addr} {fd : FuncData} {k : Nat} (F : Fun K "_law_own" "_law_own" sOwn f fd) (T : Bt mg) : FnOk P w K mg base CX0 (k + 1) f fd ["_law_rows"] spOwn := by
  refine F.ok scOwn (fun vs H Q E h => ?_) (fun cdv A outer s H vs Q E hr h => ?_)
  · obtain ⟨R, rs, rfl, _⟩ := h
    rfl
  · obtain ⟨R, rs, rfl, hR, zR, hrs, hpw, q⟩ := h
    have nd := scOwn.nd
    refine ⟨_, pss_cons (ps_setLc (i := 1) (own := [("_law_row", 4)]) (g := gName 4) (tt := tYes) (by rfl) nd rfl rfl (sw_true rfl rfl rfl (by decide +kernel))
          (pi_list (pv 0))
          (blkOk_by (own := [("_law_row", 4)]) (N := nOwn) (sc := defScope sOwn) (by decide +kernel)) (fun _ _ _ _ _ => pg_name (i := 4) nd rfl (Or.inl rfl)) (fun _ _ _ _ _ => pts_nil)
          (fun _ _ _ _ _ => pe_callTy (r := rCopy K) call_list_of (by rfl) T.list bo_list (pa_cons (pv 4) pa_nil)))
      (pss_cons (ps_for PassesOwn.never rfl (pi_range1 (by rfl) T.range (pa_cons (pe_callB call_len_seq (by rfl) T.len PySem.boot_len (pa_cons (pv 0) pa_nil)) pa_nil)) (pg_name (i := 2) nd rfl (.inl rfl))
        (pss_cons (ps_expr (pe_bm PySem.F.plainAttrs_list PySem.F.slot_list_append PySem.F.type_list_append mt_append (pe_ix ix_list (pv 0) (pv 2) (fun _ _ => rfl)) (pa_cons pe_int pa_nil)))
        (pss_one (ps_for PassesOwn.never rfl (pi_range1 (by rfl) T.range (pa_cons (pe_callB call_len_seq (by rfl) T.len PySem.boot_len (pa_cons (pv 0) pa_nil)) pa_nil)) (pg_name (i := 3) nd rfl (.inl rfl))
          (pss_one (ps_if (pt_cmpR (op_neD hr.units) (pe_ix ix_list (pv 0) (pv 3) (fun _ _ => rfl)) (pe_op op_cat (pe_ix ix_list (pv 1) (pv 3) (fun _ _ => rfl)) (pe_op op_rep (pe_lst (pa_cons pe_int pa_nil)) (pe_callTy call_int1 (by rfl) T.int bo_int (pa_cons (pe_cmpR op_le (pv 3) (pv 2) (nomark _)) pa_nil)))) (nomark _))
            (pss_one (ps_ret pe_bl)) pss_nil))))))
      (pss_one (ps_ret pe_bl))), ?_⟩
    have hne : ∀ (i j : Nat) (hi : i < rs.length) (hj : j < rs.length), i ≠ j → rs[i].1 ≠ rs[j].1 := fun i j hi hj e => by
      rcases Nat.lt_or_gt_of_ne e with h | h
      · exact List.pairwise_iff_getElem.mp hpw i j hi hj h
      · exact fun z => List.pairwise_iff_getElem.mp hpw j i hj hi h z.symm
    refine ⟨.ref R, rfl, R, rfl, ⟨_, .of hR⟩, fun D hD => lc_copies (K := K) (v := 4) (rs := rs) (by show 4 < 5; decide) hR (fun x hx => (hrs x hx).1) hD (by omega) fun G ks C => ?_⟩
    have hnR : ∀ x ∈ rs, R ≠ x.1 := fun x hx e => (hrs x hx).2.1 e.symm
    have hnD : ∀ x ∈ rs, D ≠ x.1 := fun x hx e => by
      have h1 : H x.1 = some _ := (hrs x hx).1
      rw [← e, hD] at h1
      cases h1
    have hnk : ∀ y ∈ ks, ∀ x ∈ rs, y.1 ≠ x.1 := fun y hy x hx e => by
      have h1 : H x.1 = some _ := (hrs x hx).1
      rw [← e, (C.each y hy).2.1] at h1
      cases h1
    have hlen : ks.length = rs.length := by
      have := congrArg List.length C.eq
      rwa [List.length_map, List.length_map] at this
    have hks : ∀ (j : Nat) (hj : j < rs.length), ∃ kj : Addr, (ks.map fun x => V.ref x.1)[j]? = some (V.ref kj) ∧ Ls G kj rs[j].2 ∧ ∀ x ∈ rs, kj ≠ x.1 := fun j hj => by
      have hj2 : j < ks.length := by omega
      have hm := List.getElem_mem hj2
      have h1 : ks[j].2 = rs[j].2 := by
        have h2 : (ks.map (·.2))[j]? = (rs.map (·.2))[j]? := by rw [C.eq]
        rw [List.getElem?_map, List.getElem?_map, List.getElem?_eq_getElem hj2, List.getElem?_eq_getElem hj] at h2
        exact Option.some.inj h2
      refine ⟨ks[j].1, by rw [List.getElem?_map, List.getElem?_eq_getElem hj2]; rfl, ?_, hnk _ hm⟩
      rw [← h1]
      exact (C.each _ hm).1
    have hR1 : G R = some (refRow rs) := C.sm _ _ hR
    have hrat : ∀ (j : Nat) (hj : j < rs.length) (z : Int), z = (j : Int) → atI (rs.map fun x => V.ref x.1) z = some (V.ref rs[j].1) := fun j hj z e => at_of e (by rw [List.getElem?_map, List.getElem?_eq_getElem hj]; rfl)
    refine ⟨.ref R, rfl, R, _, rfl, .inl (.of hR1), _, rfl, by omega, by rw [List.length_map]; omega, ?_⟩
    rw [List.length_map, Int.toNat_natCast]
    refine for_range (lo := 0) (n := rs.length) (fun i σ E => ∃ (y2 y3 y4 : Option V), σ = [some (.ref R), some (.ref D), y2, y3, y4] ∧ Fr rs G E ∧ ∀ (j : Nat) (hj : j < rs.length), Ls E rs[j].1 (rs[j].2 ++ if j < i then [1] else []))
      ⟨none, none, none, rfl, .of (Same.refl _), fun j hj => ?_⟩ ?_ ?_
    · rw [if_neg (by omega), List.append_nil]
      exact C.sm _ _ (hrs _ (List.getElem_mem hj)).1
    · rintro i σ E hi ⟨y2, y3, y4, rfl, fr, hrow⟩
      have h1 := hrow i hi
      rw [if_neg (by omega), List.append_nil] at h1
      have zi := (hrs _ (List.getElem_mem hi)).2.2
      refine ⟨.ref R, rfl, .int (0 + (i : Nat)), rfl, R, _, _, _, rfl, rfl, .of (fr _ _ hnR hR1), hrat i hi _ (by omega), .inl ⟨rfl, _, .of h1⟩, rs[i].1, _, _, rfl, rfl, h1, by rw [List.length_map]; exact small_line (by omega), ?_⟩
      have fr2 : Fr rs G (upd E rs[i].1 (.lst (rs[i].2.map V.int ++ [V.int 1]))) := fun b o hb e => by
        rw [upd_ne (hb _ (List.getElem_mem hi))]
        exact fr b o hb e
      have hrow2 : ∀ (j : Nat) (hj : j < rs.length), Ls (upd E rs[i].1 (.lst (rs[i].2.map V.int ++ [V.int 1]))) rs[j].1 (rs[j].2 ++ if j < i + 1 then [1] else []) := fun j hj => by
        by_cases e : j = i
        · subst e
          rw [if_pos (by omega)]
          exact ls_app
        · show upd _ _ _ _ = _
          rw [upd_ne (hne j i hj hi e)]
          have h2 := hrow j hj
          by_cases h : j < i
          · rw [if_pos (by omega)]
            rw [if_pos h] at h2
            exact h2
          · rw [if_neg (by omega)]
            rw [if_neg h] at h2
            exact h2
      generalize upd E rs[i].1 (.lst (rs[i].2.map V.int ++ [V.int 1])) = E2 at fr2 hrow2 ⊢
      refine ⟨.ref R, rfl, R, _, rfl, .inl (.of (fr2 _ _ hnR hR1)), _, rfl, by omega, by rw [List.length_map]; omega, ?_⟩
      rw [List.length_map, Int.toNat_natCast]
      refine for_range (lo := 0) (n := rs.length) (fun j σ E3 => ∃ (y3 y4 : Option V), σ = [some (.ref R), some (.ref D), some (.int (0 + (i : Nat))), y3, y4] ∧ Same E2 E3) ⟨y3, y4, rfl, Same.refl _⟩ ?_ ?_
      · rintro j σ E3 hj ⟨y3, y4, rfl, sE⟩
        obtain ⟨kj, gk, hk, nk⟩ := hks j hj
        have h2 := sE _ _ (hrow2 j hj)
        have h3 := sE _ _ (fr2 _ _ nk hk)
        have zj := (hrs _ (List.getElem_mem hj)).2.2
        refine ⟨.ref R, rfl, .int (0 + (j : Nat)), rfl, R, _, _, _, rfl, rfl, .of (sE _ _ (fr2 _ _ hnR hR1)), hrat j hj _ (by omega), .ref D, rfl, .int (0 + (j : Nat)), rfl, D, _, _, _, rfl, rfl, .of (sE _ _ (fr2 _ _ hnD C.at_)), at_of (by omega) gk, (by show 1 ≤ sizeLine; decide), fun l1 n1 => ?_⟩
        obtain ⟨s1, e1⟩ := new_st (o := .lst [V.int 1]) n1
        generalize upd E3 l1 (.lst [V.int 1]) = E4 at s1 e1 ⊢
        refine ⟨.int (0 + (j : Nat)), rfl, .int (0 + (i : Nat)), rfl, _, _, rfl, rfl, .inr ⟨_, rfl, l1, _, _, rfl, rfl, e1, by split <;> omega, by split <;> omega, by split <;> exact small_line' (by show 1 * _ ≤ _; omega), fun l2 n2 => ?_⟩⟩
        have et : (if decide (((0 : Int) + (j : Nat)) ≤ (0 : Int) + (i : Nat)) = true then (1 : Int) else 0).toNat = if j < i + 1 then 1 else 0 := by
          by_cases h : j < i + 1
          · rw [if_pos h, if_pos (decide_eq_true (by omega))]; rfl
          · rw [if_neg h, if_neg (fun z => by have := of_decide_eq_true z; omega)]; rfl
        rw [et]
        obtain ⟨s2, e2⟩ := new_st (o := .lst (List.replicate (if j < i + 1 then 1 else 0) [V.int 1]).flatten) n2
        generalize upd E4 l2 (.lst (List.replicate (if j < i + 1 then 1 else 0) [V.int 1]).flatten) = E5 at s2 e2 ⊢
        rw [rep_map] at e2
        have er : List.replicate (if j < i + 1 then 1 else 0) (1 : Int) = if j < i + 1 then [1] else [] := by split <;> rfl
        rw [er] at e2
        have s12 := s1.trans s2
        refine ⟨kj, l2, _, _, rfl, rfl, s12 _ _ h3, e2, ?_, fun l3 n3 => ?_⟩
        · rw [List.length_map, List.length_map]
          split <;> exact small_line' (by show _ + _ ≤ _; first | (show rs[j].2.length + 1 ≤ _; omega) | (show rs[j].2.length + 0 ≤ _; omega))
        obtain ⟨s3, e3⟩ := new_st (o := .lst (rs[j].2.map V.int ++ (if j < i + 1 then [1] else []).map V.int)) n3
        generalize upd E5 l3 (.lst (rs[j].2.map V.int ++ (if j < i + 1 then [1] else []).map V.int)) = E6 at s3 e3 ⊢
        rw [← List.map_append] at e3
        refine ⟨dI _, dI _, dp_ls ((s12.trans s3) _ _ h2), dp_ls e3, dI_shaped _, dI_shaped _, _, rfl, ?_⟩
        rw [dI_eqv, decide_eq_true rfl]
        exact iteF ⟨_, _, rfl, sE.trans (s12.trans s3)⟩
      · rintro σ E3 ⟨y3, y4, rfl, sE⟩
        exact ⟨_, _, _, rfl, fr2.trans (.of sE), fun j hj => sE _ _ (hrow2 j hj)⟩
    · rintro σ E ⟨y2, y3, y4, rfl, fr, hrow⟩
      refine q E ((Fr.of C.sm).trans fr) fun x hx => ?_
      obtain ⟨j, hj, rfl⟩ := List.mem_iff_getElem.mp hx
      have h1 := hrow j hj
      rw [if_pos hj] at h1
      exact h1
end
end Kp
-- W15
set_option Elab.async false
set_option linter.all false
set_option maxRecDepth 100000
set_option maxHeartbeats 4000000
namespace Kp
open PySem PySem.Spec PyProof.Rows L2
/-! ### what is told, as data -/
def dT (x : List Int × Nat) : PyData := .tuple [dI x.1, .int (x.2 : Nat)]
def dP (T : List (List Int × Nat)) : PyData := .list (T.map dT)
def dR (rs : List (List Int)) : PyData := .list (rs.map dI)
theorem dI_can (l : List Int) : (dI l).canLay0 = true := SeqAt.canLay_of_shaped (dI_shaped l)
theorem dI_dep (l : List Int) : (dI l).depth = 1 := by rw [dI, PyData.depth, dI_depth]
theorem dT_can (x : List Int × Nat) : (dT x).canLay0 = true := by
  rw [dT, PyData.canLay0, PyData.canLayAll0, dI_can]; rfl
theorem dT_dep (x : List Int × Nat) : (dT x).depth = 2 := by
  rw [dT, PyData.depth, PyData.depthAll, dI_dep]; rfl
theorem dT_lay (T : List (List Int × Nat)) : PyData.canLayAll0 (T.map dT) = true := by
  induction T with
  | nil => rfl
  | cons x a ih => rw [List.map_cons, PyData.canLayAll0, ih, dT_can]; rfl
theorem dT_depth (T : List (List Int × Nat)) : PyData.depthAll (T.map dT) ≤ 2 := by
  induction T with
  | nil => exact Nat.zero_le _
  | cons x a ih => rw [List.map_cons, PyData.depthAll, dT_dep]; omega
theorem dR_lay (T : List (List Int)) : PyData.canLayAll0 (T.map dI) = true := by
  induction T with
  | nil => rfl
  | cons x a ih => rw [List.map_cons, PyData.canLayAll0, ih, dI_can]; rfl
theorem dR_depth (T : List (List Int)) : PyData.depthAll (T.map dI) ≤ 1 := by
  induction T with
  | nil => exact Nat.zero_le _
  | cons x a ih => rw [List.map_cons, PyData.depthAll, dI_dep]; omega
theorem dP_can (T : List (List Int × Nat)) : (dP T).canLay0 = true := by rw [dP, PyData.canLay0, dT_lay]
theorem dP_dep (T : List (List Int × Nat)) : (dP T).depth ≤ 3 := by
  have := dT_depth T
  rw [dP, PyData.depth]; omega
theorem dR_can (T : List (List Int)) : (dR T).canLay0 = true := by rw [dR, PyData.canLay0, dR_lay]
theorem dR_dep (T : List (List Int)) : (dR T).depth ≤ 2 := by
  have := dR_depth T
  rw [dR, PyData.depth]; omega
theorem shaped_of {d : PyData} (h1 : d.canLay0 = true) {n : Nat} (h2 : d.depth ≤ n) (h3 : n ≤ 64) : SeqAt.shaped d = true := by
  unfold SeqAt.shaped
  rw [h1, decide_eq_true (Nat.le_trans h2 h3)]; rfl
theorem dP_shaped (T : List (List Int × Nat)) : SeqAt.shaped (dP T) = true := shaped_of (dP_can T) (dP_dep T) (by decide)
theorem dR_shaped (T : List (List Int)) : SeqAt.shaped (dR T) = true := shaped_of (dR_can T) (dR_dep T) (by decide)
/-- (number, parts) -/
def dF (c : Int) (T : List (List Int × Nat)) : PyData := .tuple [.int c, dP T]
theorem dF_can (c : Int) (T : List (List Int × Nat)) : (dF c T).canLay0 = true := by
  rw [dF, PyData.canLay0, PyData.canLayAll0, PyData.canLayAll0, dP_can]; rfl
theorem dF_shaped (c : Int) (T : List (List Int × Nat)) : SeqAt.shaped (dF c T) = true := by
  refine shaped_of (dF_can c T) (n := 4) ?_ (by decide)
  have := dP_dep T
  rw [dF, PyData.depth, PyData.depthAll, PyData.depthAll, PyData.depth, PyData.depthAll]
  omega
theorem dF_same (c : Int) (T : List (List Int × Nat)) : PyData.eqv (dF c T) (dF c T) = true := SeqAt.eqv_refl _ (dF_can c T)
theorem dR_same (T : List (List Int)) : PyData.eqv (dR T) (dR T) = true := SeqAt.eqv_refl _ (dR_can T)
theorem dP_none (T : List (List Int × Nat)) : PyData.eqv (dP T) (dI []) = decide (T = []) := by
  unfold dP dI
  rw [PyData.eqv]
  cases T with
  | nil => rfl
  | cons x T => rfl
section
variable {K : PySem.W.Frag} {H : Hp}
theorem dp_els {es : List El} (h : ∀ x ∈ es, H x.1 = some (.tup [.ref x.2.1, .int (x.2.2.2 : Nat)]) ∧ Ls H x.2.1 x.2.2.1) : DpAll K H (es.map fun x => V.ref x.1) ((told es).map dT) := by
  induction es with
  | nil => exact .nil
  | cons x es ih =>
    obtain ⟨h1, h2⟩ := h x List.mem_cons_self
    exact .cons (.tup (.of h1) (.cons (dp_ls h2) (.cons (.int _) .nil))) (ih fun y hy => h y (List.mem_cons_of_mem _ hy))
theorem dp_els' {a : Addr} {es : List El} (ha : H a = some (refsOf es)) (h : ∀ x ∈ es, H x.1 = some (.tup [.ref x.2.1, .int (x.2.2.2 : Nat)]) ∧ Ls H x.2.1 x.2.2.1) : Dp K H (.ref a) (dP (told es)) := .lst (.of ha) (dp_els h)
theorem dp_found {t a : Addr} {c : Int} {es : List El} (ht : H t = some (.tup [.int c, .ref a])) (ha : H a = some (refsOf es)) (h : ∀ x ∈ es, H x.1 = some (.tup [.ref x.2.1, .int (x.2.2.2 : Nat)]) ∧ Ls H x.2.1 x.2.2.1) : Dp K H (.ref t) (dF c (told es)) :=
  .tup (.of ht) (.cons (.int _) (.cons (dp_els' ha h) .nil))
theorem dp_rows {rs : List (Addr × List Int)} (h : ∀ x ∈ rs, Ls H x.1 x.2) : DpAll K H (rs.map fun x => V.ref x.1) ((rs.map (·.2)).map dI) := by
  induction rs with
  | nil => exact .nil
  | cons x es ih => exact .cons (dp_ls (h x List.mem_cons_self)) (ih fun y hy => h y (List.mem_cons_of_mem _ hy))
theorem dp_rows' {a : Addr} {rs : List (Addr × List Int)} (ha : H a = some (refRow rs)) (h : ∀ x ∈ rs, Ls H x.1 x.2) : Dp K H (.ref a) (dR (rs.map (·.2))) := .lst (.of ha) (dp_rows h)
end
/-! ### what the parts are to the row -/
structure Facts (p : Nat) (row : List Int) (T : List (List Int × Nat)) : Prop where
  each : ∀ x ∈ T, Pl.IsRow p x.1 ∧ 1 < x.1.length ∧ Pl.co x.1 (x.1.length - 1) = 1 ∧ 1 ≤ x.2 ∧ Pl.Poly.Sqf (Pl.mk p x.1) ∧ x.1.length ≤ row.length ∧ x.2 < row.length
  rise : T.Pairwise fun x y => x.2 < y.2
  apart : T.Pairwise fun x y => Pl.Poly.Cop (Pl.mk p x.1) (Pl.mk p y.1)
  len : T.length ≤ row.length
  prod : Pl.mk p row = Pl.mk p [Pl.co row (row.length - 1)] * Pl.prodR p T
  sq : Pl.Poly.Sqf (Pl.mk p row) ↔ ∀ x ∈ T, x.2 ≤ 1
theorem facts_of {p : Nat} (h : Pl.Prm p) {row r : List Int} {T : List (List Int × Nat)} (hl : Pl.IsRow p row) (hn : row ≠ []) (P : PlainOf p row r) (Pa : Pl.Parted p r T) : Facts p row T := by
  obtain ⟨a1, a2, a3, a4⟩ := P.facts h hl hn
  have G := Pa.good h a2
  refine ⟨fun x hx => ?_, G.rise, G.apart, Nat.le_trans (G.length_le h a1) a4, by rw [a3, G.prod], Pl.sqf_iff h G a3 (hl.last_co h.pos hn)⟩
  have f := G.fine x hx
  have hne : x.1 ≠ [] := List.length_pos_iff.mp (Nat.lt_trans (by decide) f.wide)
  have h1 := Pl.Poly.last_of_Mon f.row f.mon hne
  rw [Pl.co_last hne] at h1
  exact ⟨f.row, f.wide, Option.some.inj h1, f.pos, f.sqf, Nat.le_trans (G.row_le h a1 hx) a4, Nat.lt_of_lt_of_le (G.many_lt h a1 hx) a4⟩
theorem mk_ne {p : Nat} {row : List Int} (hl : Pl.IsRow p row) (hn : row ≠ []) : Pl.mk p row ≠ 0 := fun z => by
  have := Pl.Poly.len_of hl
  rw [z, Pl.Poly.len_zero] at this
  have := List.length_pos_iff.mpr hn
  omega
theorem built_len {p : Nat} (h : Pl.Prm p) {row : List Int} {T : List (List Int × Nat)} (hl : Pl.IsRow p row) (hn : row ≠ []) (F : Facts p row T) {i j : Nat} (hi : i < T.length) (hj : j ≤ T[i].2) {b : List Int} (hb : Pl.IsRow p b)
    (e : Pl.mk p b = Pl.mk p [Pl.co row (row.length - 1)] * Pl.prodR p (T.take i) * Pl.mk p T[i].1 ^ j) : b.length ≤ row.length := by
  have d : Pl.Poly.Dv (Pl.mk p b) (Pl.mk p row) := by
    refine ⟨Pl.mk p T[i].1 ^ (T[i].2 - j) * Pl.prodR p (T.drop (i + 1)), ?_⟩
    have e1 : Pl.prodR p T = Pl.prodR p (T.take i) * Pl.prodR p (T.drop i) := by rw [← Pl.prodR_append, List.take_append_drop]
    have e2 : Pl.prodR p (T.drop i) = Pl.mk p T[i].1 ^ T[i].2 * Pl.prodR p (T.drop (i + 1)) := by rw [List.drop_eq_getElem_cons hi]; rfl
    have e3 : Pl.mk p T[i].1 ^ T[i].2 = Pl.mk p T[i].1 ^ j * Pl.mk p T[i].1 ^ (T[i].2 - j) := by rw [← Pl.Poly.pow_add']; congr 1; omega
    rw [F.prod, e1, e2, e3, e]
    grind
  have h1 := d.len h (mk_ne hl hn)
  rwa [Pl.Poly.len_of hb, Pl.Poly.len_of hl] at h1
theorem built_next {p : Nat} {row : List Int} {T : List (List Int × Nat)} {i : Nat} (hi : i < T.length) {g : Pl.Poly p} (e : g = Pl.mk p [Pl.co row (row.length - 1)] * Pl.prodR p (T.take i) * Pl.mk p T[i].1 ^ T[i].2) : g = Pl.mk p [Pl.co row (row.length - 1)] * Pl.prodR p (T.take (i + 1)) := by
  have e2 : Pl.prodR p (T.take (i + 1)) = Pl.prodR p (T.take i) * (Pl.mk p T[i].1 ^ T[i].2 * 1) := by
    rw [List.take_add_one, List.getElem?_eq_getElem hi, Pl.prodR_append]; rfl
  rw [e, e2]
  grind
end Kp
-- W16
set_option Elab.async false
set_option linter.all false
set_option maxRecDepth 100000
set_option maxHeartbeats 8000000
namespace Kp
open PySem PySem.Spec PyProof.Rows L2
theorem rise_es {es : List El} (h : (told es).Pairwise fun x y => x.2 < y.2) : es.Pairwise fun x y => x.2.2.2 < y.2.2.2 := by unfold told at h; rw [List.pairwise_map] at h; exact h
theorem built_lenE {p : Nat} (h : Pl.Prm p) {row : List Int} {es : List El} (hl : Pl.IsRow p row) (hn : row ≠ []) (F : Facts p row (told es)) {i j : Nat} (hi : i < es.length) (hj : j ≤ es[i].2.2.2) {b : List Int} (hb : Pl.IsRow p b)
    (e : Pl.mk p b = Pl.mk p [Pl.co row (row.length - 1)] * Pl.prodR p (told (es.take i)) * Pl.mk p es[i].2.2.1 ^ j) : b.length ≤ row.length := by
  have hi2 : i < (told es).length := by unfold told; rw [List.length_map]; exact hi
  have he : (told es)[i] = es[i].2.2 := by unfold told; rw [List.getElem_map]
  refine built_len h hl hn F hi2 (j := j) (by rw [he]; exact hj) hb ?_
  rw [he, e]
  unfold told
  rw [List.map_take]
theorem built_nextE {p : Nat} {row : List Int} {es : List El} {i : Nat} (hi : i < es.length) {g : Pl.Poly p} (e : g = Pl.mk p [Pl.co row (row.length - 1)] * Pl.prodR p (told (es.take i)) * Pl.mk p es[i].2.2.1 ^ es[i].2.2.2) : g = Pl.mk p [Pl.co row (row.length - 1)] * Pl.prodR p (told (es.take (i + 1))) := by
  have hi2 : i < (told es).length := by unfold told; rw [List.length_map]; exact hi
  have he : (told es)[i] = es[i].2.2 := by unfold told; rw [List.getElem_map]
  have e1 : told (es.take (i + 1)) = (told es).take (i + 1) := by unfold told; rw [List.map_take]
  rw [e1]
  refine built_next hi2 ?_
  rw [he, e]
  unfold told
  rw [List.map_take]
/-- those that are there twice or more -/
def big (T : List (List Int × Nat)) : List (List Int × Nat) := T.filter fun x => decide (1 < x.2)
theorem big_nil {T : List (List Int × Nat)} : big T = [] ↔ ∀ x ∈ T, x.2 ≤ 1 := by
  unfold big
  rw [List.filter_eq_nil_iff]
  refine ⟨fun h x hx => ?_, fun h x hx z => ?_⟩
  · have := h x hx
    simp at this
    exact this
  · have := of_decide_eq_true z
    have := h x hx
    omega
theorem told_big (ks : List El) : told (ks.filter fun x => decide (1 < x.2.2.2)) = big (told ks) := by
  unfold told big
  rw [List.filter_map]
  rfl
/-- what no_square has told -/
def PfSt (p : Nat) (row : List Int) (H G : Hp) (v : V) : Prop := (¬ Pl.Poly.Sqf (Pl.mk p row) ∧ v = .non) ∨
  (Pl.Poly.Sqf (Pl.mk p row) ∧ ∃ (t x y : Addr) (u w : List Int), v = .ref t ∧ H x = none ∧ H y = none ∧ x ≠ y ∧ G t = some (.tup [.ref x, .ref y]) ∧ Ls G x u ∧ Ls G y w ∧ Pl.IsRow p u ∧ Pl.IsRow p w ∧
    Pl.mk p u * Pl.mk p row + Pl.mk p w * Pl.Poly.der (Pl.mk p row) = 1 ∧ u.length ≤ 10000 ∧ w.length ≤ 10000)
theorem PfSt.same {p : Nat} {row : List Int} {H G G' : Hp} {v : V} (h : PfSt p row H G v) (s : Same G G') : PfSt p row H G' v := by
  rcases h with h | ⟨h, t, x, y, u, w, h1, h2, h3, h4, h5, h6, h7, h8⟩
  · exact .inl h
  · exact .inr ⟨h, t, x, y, u, w, h1, h2, h3, h4, s _ _ h5, s _ _ h6, s _ _ h7, h8⟩
/-- the rows of the found parts -/
def rowsOf (es : List El) : List (Addr × List Int) := es.map fun x => (x.2.1, x.2.2.1)
theorem rowsOf_mem {es : List El} {y : Addr × List Int} (h : y ∈ rowsOf es) : ∃ x ∈ es, y = (x.2.1, x.2.2.1) := by
  obtain ⟨x, hx, e⟩ := List.mem_map.mp h
  exact ⟨x, hx, e.symm⟩
theorem refRow_rowsOf (es : List El) : refRow (rowsOf es) = .lst (es.map fun x => V.ref x.2.1) := by
  unfold refRow rowsOf
  rw [List.map_map]
  rfl
section
variable {P : Program} {w : World} {K : PySem.W.Frag} {mg : Str → Option Value} {base : Heap}
/-- the rows of the found parts, in a new list -/
theorem lc_firsts {a D : Addr} {v : Nat} {es : List El} {σ : L2.St} {H1 : Hp} {Qd : Hp → Prop} (hv : v < σ.length) (ha : H1 a = some (refsOf es)) (hes : ∀ x ∈ es, H1 x.1 = some (.tup [.ref x.2.1, .int (x.2.2.2 : Nat)])) (hD : H1 D = none) (hz : es.length ≤ 2000)
    (hd : ∀ G, Same H1 G → G D = some (refRow (rowsOf es)) → Qd G) :
    ∃ W : Nat → Nat → Hp → Prop, (∃ m, W 0 m (upd H1 D (.lst []))) ∧ ∀ i m H, W i m H →
      ((Itl K a).stop i H ∧ Qd H) ∨ ((Itl K a).go i H ∧ ∃ Nx : Hp → Prop, (∀ H', Nx H' → ∃ m', m' < m ∧ W (i + 1) m' H') ∧ ∀ x H', (Itl K a).yld i H x H' → gName v x (wipe σ [v]) H' fun σ2 H2 => wipe σ2 [v] = wipe σ [v] ∧ tYes σ2 H2 fun b H3 =>
        if b = true then tOp (rIxT K) (tVar v) (tC (.int 0)) σ2 H3 fun y H4 => ∃ acc, H4 D = some (.lst acc) ∧ acc.length < sizeLine ∧ Nx (upd H4 D (.lst (acc ++ [y]))) else Nx H3) := by
  refine lc_list (K := K) (a := a) (xs := es.map fun x => V.ref x.1) (fun i G => Same H1 G ∧ G D = some (.lst ((es.take i).map fun x => V.ref x.2.1)))
    ⟨same_new (Same.refl _) hD, upd_same⟩ (fun i G _ h => .of (h.1 _ _ ha)) ?_ ?_
  · rintro i x G hx ⟨sG, hk⟩
    have hi : i < es.length := by
      have := (List.getElem?_eq_some_iff.mp hx).1
      rw [List.length_map] at this
      exact this
    rw [List.getElem?_map, List.getElem?_eq_getElem hi] at hx
    obtain rfl : V.ref es[i].1 = x := Option.some.inj hx
    have hr := hes es[i] (List.getElem_mem hi)
    refine ⟨by show (((wipe σ []).set v none).set v (some (V.ref es[i].1))).set v none = _; rw [List.set_set]; exact List.set_set .., V.ref es[i].1, by
      show (((wipe σ []).set v none).set v (some (V.ref es[i].1)))[v]? = _
      rw [List.getElem?_set_self]
      rw [List.length_set]; exact hv, es[i].1, _, 0, _, rfl, rfl, .of (sG _ _ hr), rfl, _, hk, by rw [List.length_map, List.length_take]; exact small_line (by omega), same_mut sG hD, ?_⟩
    rw [upd_same, List.take_add_one, List.getElem?_eq_getElem hi, List.map_append]; rfl
  · rintro G ⟨sG, hk⟩
    rw [List.length_map, List.take_length] at hk
    exact hd G sG (by rw [hk, refRow_rowsOf])
/-! ### law -/
abbrev sLaw : Stmt := topS 45
abbrev nLaw : List Str := ["_law_script", "_law_prime", "_law_row", "_law_handed", "_law_found", "_law_built", "_law_pair", "_law_turn", "_law_kept", "_law_proof", "_law_rows", "_law_held", "_law_one"]
theorem scLaw : FnScope nLaw ["_law_script"] (defScope sLaw) := ⟨rfl, rfl, rfl, by decide +kernel, rfl, by decide +kernel, by decide +kernel⟩
def spLaw (K : PySem.W.Frag) : Sp := fun vs H Q _ => ∃ (a : Addr) (ns : List Int), vs = [.ref a] ∧ SqL K H a (ns.map V.int) ∧ ∀ H', Q (.bl true) H'
theorem ok_law {f fA fB fR fNP fP fT fX fAp fN fC fS fO : Addr} {fd fdA fdB fdR fdNP fdP fdT fdX fdAp fdN fdC fdS fdO : FuncData} {k : Nat} (F : Fun K "law" "law" sLaw f fd)
    (GA : FnOk P w K mg base CX0 k fA fdA ["_law_script", "_law_k"] (spCell K)) (kA : PySem.W.keepIn K (.ref fA) = true) (bA : Binds K fdA ["_law_script", "_law_k"] []) (gA : mg "_law_cell_at" = some (.ref fA))
    (GB : FnOk P w K mg base CX0 k fB fdB ["_law_cell"] spPrimeBy) (kB : PySem.W.keepIn K (.ref fB) = true) (bB : Binds K fdB ["_law_cell"] []) (gB : mg "_law_prime_by" = some (.ref fB))
    (GR : FnOk P w K mg base CX0 k fR fdR ["_law_script", "_law_prime"] (spRowBy K)) (kR : PySem.W.keepIn K (.ref fR) = true) (bR : Binds K fdR ["_law_script", "_law_prime"] []) (gR : mg "_law_row_by" = some (.ref fR))
    (GNP : FnOk P w K mg base CX0 k fNP fdNP ["_law_prime"] spNoParts) (kNP : PySem.W.keepIn K (.ref fNP) = true) (bNP : Binds K fdNP ["_law_prime"] []) (gNP : mg "_law_no_parts" = some (.ref fNP))
    (GP : FnOk P w K mg base CX0 k fP fdP ["prime", "row"] spParts) (kP : PySem.W.keepIn K (.ref fP) = true) (bP : Binds K fdP ["prime", "row"] []) (gP : mg "parts" = some (.ref fP))
    (GT : FnOk P w K mg base CX0 k fT fdT ["_law_prime", "_law_found"] spTold) (kT : PySem.W.keepIn K (.ref fT) = true) (bT : Binds K fdT ["_law_prime", "_law_found"] []) (gT : mg "_law_is_told" = some (.ref fT))
    (GX : FnOk P w K mg base CX0 k fX fdX ["_law_prime", "_law_ones", "_law_others"] spTimes) (kX : PySem.W.keepIn K (.ref fX) = true) (bX : Binds K fdX ["_law_prime", "_law_ones", "_law_others"] []) (gX : mg "_law_times" = some (.ref fX))
    (GAp : FnOk P w K mg base CX0 k fAp fdAp ["_law_prime", "_law_rows"] spApart) (kAp : PySem.W.keepIn K (.ref fAp) = true) (bAp : Binds K fdAp ["_law_prime", "_law_rows"] []) (gAp : mg "_law_apart" = some (.ref fAp))
    (GN : FnOk P w K mg base CX0 k fN fdN ["prime", "row"] spAlone) (kN : PySem.W.keepIn K (.ref fN) = true) (bN : Binds K fdN ["prime", "row"] []) (gN : mg "no_square" = some (.ref fN))
    (GC : FnOk P w K mg base CX0 k fC fdC ["_law_prime", "_law_pair", "_law_ones", "_law_others"] spComes) (kC : PySem.W.keepIn K (.ref fC) = true) (bC : Binds K fdC ["_law_prime", "_law_pair", "_law_ones", "_law_others"] []) (gC : mg "_law_comes_to_one" = some (.ref fC))
    (GS : FnOk P w K mg base CX0 k fS fdS ["_law_prime", "_law_row"] spFalling) (kS : PySem.W.keepIn K (.ref fS) = true) (bS : Binds K fdS ["_law_prime", "_law_row"] []) (gS : mg "_law_slope" = some (.ref fS))
    (GO : FnOk P w K mg base CX0 k fO fdO ["_law_rows"] spOwn) (kO : PySem.W.keepIn K (.ref fO) = true) (bO : Binds K fdO ["_law_rows"] []) (gO : mg "_law_own" = some (.ref fO)) (T : Bt mg) :
    FnOk P w K mg base CX0 (k + 1) f fd ["_law_script"] (spLaw K) := by
  refine F.ok scLaw (fun vs H Q E h => ?_) (fun cdv A outer s H vs Q E hr h => ?_)
  · obtain ⟨a, ns, rfl, _⟩ := h
    rfl
  · obtain ⟨a, ns, rfl, ha, q⟩ := h
    have nd := scLaw.nd
    refine ⟨_, pss_cons (ps_set (i := 1) nd rfl (.inl rfl) (pe_call GB hr (by rfl) gB kB bB .nil pass0 (pa_cons (pe_call GA hr (by rfl) gA kA bA .nil pass0 (pa_cons (pv 0) (pa_cons pe_int pa_nil))) pa_nil)))
      (pss_cons (ps_set (i := 2) nd rfl (.inl rfl) (pe_call GR hr (by rfl) gR kR bR .nil pass0 (pa_cons (pv 0) (pa_cons (pv 1) pa_nil))))
      (pss_cons (ps_set (i := 3) nd rfl (.inl rfl) (pe_callTy call_list_of (by rfl) T.list bo_list (pa_cons (pv 2) pa_nil)))
      (pss_cons (ps_if (pt_cmpR (op_eqD hr.units) (pv 2) (pe_lst pa_nil) (nomark _)) (pss_one (ps_ret (pe_call GNP hr (by rfl) gNP kNP bNP .nil pass0 (pa_cons (pv 1) pa_nil)))) pss_nil)
      (pss_cons (ps_set (i := 4) nd rfl (.inl rfl) (pe_call GP hr (by rfl) gP kP bP .nil pass0 (pa_cons (pv 1) (pa_cons (pv 3) pa_nil))))
      (pss_cons (ps_if (PW.pt (pw_or (pt_not (pt_val (pe_call GT hr (by rfl) gT kT bT .nil pass0 (pa_cons (pv 1) (pa_cons (pv 4) pa_nil))))) (pw_or (pt_cmpR op_ne (pe_ix ix_tup (pv 4) pe_int (fun _ _ => rfl)) (pe_ix ix_list (pv 2) (pe_un un_neg pe_int) (fun _ _ => rfl)) (nomark _)) (pw_or1 (pt_cmpR (op_neD hr.units) (pv 3) (pv 2) (nomark _)))))) (pss_one (ps_ret pe_bl)) pss_nil)
      (pss_cons (ps_set (i := 5) nd rfl (.inl rfl) (pe_lst (pa_cons (pe_ix ix_tup (pv 4) pe_int (fun _ _ => rfl)) pa_nil)))
      (pss_cons (ps_for PassesOwn.never rfl (pi_list (pe_ix ix_tup (pv 4) pe_int (fun _ _ => rfl))) (pg_name (i := 6) nd rfl (.inl rfl))
          (pss_one (ps_for PassesOwn.never rfl (pi_range1 (by rfl) T.range (pa_cons (pe_ix ix_tup (pv 6) pe_int (fun _ _ => rfl)) pa_nil)) (pg_name (i := 7) nd rfl (.inl rfl))
            (pss_one (ps_set (i := 5) nd rfl (.inl rfl) (pe_call GX hr (by rfl) gX kX bX .nil pass0 (pa_cons (pv 1) (pa_cons (pv 5) (pa_cons (pe_ix ix_tup (pv 6) pe_int (fun _ _ => rfl)) pa_nil)))))))))
      (pss_cons (ps_if (PW.pt (pw_or (pt_cmpR (op_neD hr.units) (pv 5) (pv 2) (nomark _)) (pw_or1 (pt_not (pt_val (pe_call GAp hr (by rfl) gAp kAp bAp .nil pass0 (pa_cons (pv 1) (pa_cons
              (pe_lc (own := [("_law_pair", 6)]) (g := gName 6) (tt := tYes) (by rfl) nd (pi_list (pe_ix ix_tup (pv 4) pe_int (fun _ _ => rfl)))
                (blkOk_by (own := [("_law_pair", 6)]) (N := nLaw) (sc := defScope sLaw) (by decide +kernel)) (fun _ _ _ _ _ => pg_name (i := 6) nd rfl (Or.inl rfl)) (fun _ _ _ _ _ => pts_nil)
                (fun _ _ _ _ _ => pe_ix (r := rIxT K) ix_tup (pv 6) pe_int (fun _ _ => rfl))) pa_nil)))))))) (pss_one (ps_ret pe_bl)) pss_nil)
      (pss_cons (ps_setLc (i := 8) (own := [("_law_pair", 6)]) (g := gName 6) (tt := tYes) (by rfl) nd rfl rfl (sw_true rfl rfl rfl (by decide +kernel)) (pi_list (pe_ix ix_tup (pv 4) pe_int (fun _ _ => rfl)))
            (blkOk_by (own := [("_law_pair", 6)]) (N := nLaw) (sc := defScope sLaw) (by decide +kernel)) (fun _ _ _ _ _ => pg_name (i := 6) nd rfl (Or.inl rfl)) (fun _ _ _ _ _ => pts_nil)
            (fun _ _ _ _ _ => pe_tup (pa_cons (pe_callTy (r := rCopy K) call_list_of (by rfl) T.list bo_list (pa_cons (pe_ix (r := rIxT K) ix_tup (pv 6) pe_int (fun _ _ => rfl)) pa_nil)) (pa_cons (pe_ix (r := rIxT K) ix_tup (pv 6) pe_int (fun _ _ => rfl)) pa_nil))))
      (C8.pss_cut (ps_set (i := 9) nd rfl (.inl rfl) (pe_call GN hr (by rfl) gN kN bN .nil pass0 (pa_cons (pv 1) (pa_cons (pv 3) pa_nil))))
      (C8.pss_cut (ps_if (pt_cmpR (op_neD hr.units) (pe_lc (own := [("_law_pair", 6)]) (g := gName 6) (tt := tTest (tOp (rI0 fun i j => .bl (decide (j < i))) (tOp (rIxT K) (tVar 6) (tC (.int 1))) (tC (.int 1)))) (by rfl) nd (pi_list (pv 8))
                (blkOk_by (own := [("_law_pair", 6)]) (N := nLaw) (sc := defScope sLaw) (by decide +kernel)) (fun _ _ _ _ _ => pg_name (i := 6) nd rfl (Or.inl rfl))
                (fun _ _ _ _ _ => pts_one (pt_cmpR op_gt (pe_ix (r := rIxT K) ix_tup (pv 6) pe_int (fun _ _ => rfl)) pe_int (nomark _))) (fun _ _ _ _ _ => pv 6)) (pe_lst pa_nil) (nomark _))
            (pss_one (ps_if (pt_cmpR op_notN (pv 9) pe_non (nomark _)) (pss_one (ps_ret pe_bl)) pss_nil))
            (pss_one (ps_if (pt_not (pt_val (pe_call GC hr (by rfl) gC kC bC .nil pass0 (pa_cons (pv 1) (pa_cons (pv 9) (pa_cons (pv 2) (pa_cons (pe_call GS hr (by rfl) gS kS bS .nil pass0 (pa_cons (pv 1) (pa_cons (pv 2) pa_nil))) pa_nil))))))) (pss_one (ps_ret pe_bl)) pss_nil)))
      (pss_cons (ps_setLc (i := 10) (own := [("_law_pair", 6)]) (g := gName 6) (tt := tYes) (by rfl) nd rfl rfl (sw_true rfl rfl rfl (by decide +kernel)) (pi_list (pe_ix ix_tup (pv 4) pe_int (fun _ _ => rfl)))
            (blkOk_by (own := [("_law_pair", 6)]) (N := nLaw) (sc := defScope sLaw) (by decide +kernel)) (fun _ _ _ _ _ => pg_name (i := 6) nd rfl (Or.inl rfl)) (fun _ _ _ _ _ => pts_nil)
            (fun _ _ _ _ _ => pe_ix (r := rIxT K) ix_tup (pv 6) pe_int (fun _ _ => rfl)))
      (C8.pss_cut (ps_if (pt_cmpR op_notN (pv 9) pe_non (nomark _)) (pss_one (ps_set (i := 10) nd rfl (.inl rfl) (pe_op op_cat (pv 10) (pe_callTy call_list_of (by rfl) T.list bo_list (pa_cons (pv 9) pa_nil))))) pss_nil)
      (pss_cons (ps_if (pt_not (pt_val (pe_call GO hr (by rfl) gO kO bO .nil pass0 (pa_cons (pv 10) pa_nil)))) (pss_one (ps_ret pe_bl)) pss_nil)
      (pss_cons (ps_expr (pe_bm PySem.F.plainAttrs_list PySem.F.slot_list_append PySem.F.type_list_append mt_append (pe_ix ix_tup (pv 4) pe_int (fun _ _ => rfl)) (pa_cons pe_int pa_nil)))
      (pss_cons (ps_setLc (i := 11) (own := [("_law_one", 12)]) (g := gName 12) (tt := tYes) (by rfl) nd rfl rfl (sw_true rfl rfl rfl (by decide +kernel)) (pi_list (pv 10))
            (blkOk_by (own := [("_law_one", 12)]) (N := nLaw) (sc := defScope sLaw) (by decide +kernel)) (fun _ _ _ _ _ => pg_name (i := 12) nd rfl (Or.inl rfl)) (fun _ _ _ _ _ => pts_nil)
            (fun _ _ _ _ _ => pe_callTy (r := rCopy K) call_list_of (by rfl) T.list bo_list (pa_cons (pv 12) pa_nil)))
      (pss_cons (ps_if (PW.pt (pw_or (pt_cmpR (op_neD hr.units) (pe_call GP hr (by rfl) gP kP bP .nil pass0 (pa_cons (pv 1) (pa_cons (pv 3) pa_nil))) (pe_tup (pa_cons (pe_ix ix_list (pv 2) (pe_un un_neg pe_int) (fun _ _ => rfl)) (pa_cons (pv 8) pa_nil))) (nomark _)) (pw_or1 (pt_cmpR (op_neD hr.units) (pv 3) (pv 2) (nomark _))))) (pss_one (ps_ret pe_bl)) pss_nil)
      (pss_one (ps_ret (pe_and (pe_cmpR (op_eqD hr.units) (pe_lc (own := [("_law_one", 12)]) (g := gName 12) (tt := tYes) (by rfl) nd (pi_list (pv 10))
            (blkOk_by (own := [("_law_one", 12)]) (N := nLaw) (sc := defScope sLaw) (by decide +kernel)) (fun _ _ _ _ _ => pg_name (i := 12) nd rfl (Or.inl rfl)) (fun _ _ _ _ _ => pts_nil)
            (fun _ _ _ _ _ => pe_callTy (r := rCopy K) call_list_of (by rfl) T.list bo_list (pa_cons (pv 12) pa_nil))) (pv 11) (nomark _))
          (pe_one (pe_cmpR op_eq (pe_callB call_len_seq (by rfl) T.len PySem.boot_len (pa_cons (pe_ix ix_tup (pv 4) pe_int (fun _ _ => rfl)) pa_nil)) (pe_op op_add (pe_callB call_len_seq (by rfl) T.len PySem.boot_len (pa_cons (pv 8) pa_nil)) pe_int) (nomark _))))))))))))))))))))))), ?_⟩
    refine ⟨.ref a, rfl, a, ns, 0, rfl, ha, by decide, by decide, fun c0 => ⟨c0, rfl, fun p H1 hp s1 => ?_⟩⟩
    have hpos := hp.pos
    have hle := hp.le
    refine ⟨.ref a, rfl, .int p, rfl, a, ns, p, rfl, s1.seq ha, hp, fun row rrow zrow H2 rw2 s2 nrw hrw2 => ?_⟩
    refine ⟨.ref rw2, rfl, rw2, _, rfl, .inl (.of hrw2), fun hd nhd => ?_⟩
    obtain ⟨sc, hhd3⟩ := new_st (o := .lst (row.map V.int)) nhd
    generalize upd H2 hd (.lst (row.map V.int)) = H3 at sc hhd3 ⊢
    have hrw3 := sc _ _ hrw2
    refine ⟨.ref rw2, rfl, Nat.zero_le _, fun e0 n0 => ?_⟩
    obtain ⟨se, ee0⟩ := new_st (o := .lst []) n0
    generalize upd H3 e0 (.lst []) = H4 at se ee0 ⊢
    have hrw4 := se _ _ hrw3
    have hhd4 : Ls H4 hd row := se _ _ hhd3
    refine ⟨dI row, dI [], dp_ls hrw4, dp_ls (l := []) ee0, dI_shaped _, dI_shaped _, _, rfl, ?_⟩
    rw [dI_eqv]
    by_cases hz : row = []
    · rw [decide_eq_true hz]
      exact iteT ⟨.int p, rfl, p, rfl, hp, fun H' _ => q H'⟩
    rw [decide_eq_false hz]
    refine iteF ?_
    have hlen0 := List.length_pos_iff.mpr hz
    -- parts
    refine ⟨.int p, rfl, .ref hd, rfl, p, hd, row, rfl, hp, hhd4, rrow, hz, zrow, fun H5 t lt es r s5 nt nlt ht hlt hes hdist hPl hPa => ?_⟩
    have FA := facts_of hp.prm rrow hz hPl hPa
    have hesF : ∀ x ∈ es, Pl.IsRow p x.2.2.1 ∧ 1 < x.2.2.1.length ∧ Pl.co x.2.2.1 (x.2.2.1.length - 1) = 1 ∧ 1 ≤ x.2.2.2 ∧ Pl.Poly.Sqf (Pl.mk p x.2.2.1) ∧ x.2.2.1.length ≤ row.length ∧ x.2.2.2 < row.length := fun x hx =>
      FA.each x.2.2 (List.mem_map.mpr ⟨x, hx, rfl⟩)
    have zes : es.length ≤ 128 := by
      have := FA.len
      unfold told at this
      rw [List.length_map] at this
      omega
    have hrw5 := s5 _ _ hrw4
    have hhd5 : Ls H5 hd row := s5 _ _ hhd4
    refine ⟨.int p, rfl, .ref t, rfl, p, t, lt, Pl.co row (row.length - 1), es, rfl, ht, hlt, fun x hx => ⟨(hes x hx).1.1, (hes x hx).1.2.1, (hesF x hx).1, (hesF x hx).2.1, (hesF x hx).2.2.1, (hesF x hx).2.2.2.1⟩, rise_es FA.rise, fun H6 s6 => ⟨_, rfl, iteF ?_⟩⟩
    refine ⟨.ref t, rfl, t, _, 0, .int (Pl.co row (row.length - 1)), rfl, rfl, .of (s6 _ _ ht), rfl, .ref rw2, rfl, 1, rfl, rw2, _, -1, _, rfl, rfl, .of (s6 _ _ hrw5), at_neg hlen0, rfl, _, rfl, iteNS rfl ?_⟩
    refine ⟨.ref hd, rfl, .ref rw2, rfl, dI row, dI row, dp_ls (s6 _ _ hhd5), dp_ls (s6 _ _ hrw5), dI_shaped _, dI_shaped _, _, rfl, ?_⟩
    rw [dI_eqv, decide_eq_true rfl]
    refine iteF ?_
    -- built
    refine ⟨.ref t, rfl, t, _, 0, .int (Pl.co row (row.length - 1)), rfl, rfl, .of (s6 _ _ ht), rfl, (by show 1 ≤ sizeLine; decide), fun b0 nb0 => ?_⟩
    obtain ⟨sb, hb0⟩ := new_st (o := .lst [V.int (Pl.co row (row.length - 1))]) nb0
    generalize upd H6 b0 (.lst [V.int (Pl.co row (row.length - 1))]) = H7 at sb hb0 ⊢
    have s67 := s6.trans sb
    have ht7 := s67 _ _ ht
    have hlt7 := s67 _ _ hlt
    have hrw7 := s67 _ _ hrw5
    have hhd7 : Ls H7 hd row := s67 _ _ hhd5
    have hes7 : ∀ x ∈ es, H7 x.1 = some (.tup [.ref x.2.1, .int (x.2.2.2 : Nat)]) ∧ Ls H7 x.2.1 x.2.2.1 := fun x hx => ⟨s67 _ _ (hes x hx).1.1, s67 _ _ (hes x hx).1.2.1⟩
    have rc : Pl.IsRow p [Pl.co row (row.length - 1)] := by
      have h1 := rrow.cos hpos (row.length - 1)
      refine row_single h1.1 h1.2 fun z => rrow.last_co hpos hz ?_
      rw [z]
      exact ⟨0, by simp⟩
    refine ⟨.ref t, rfl, t, _, 1, .ref lt, rfl, rfl, .of ht7, rfl, lt, rfl, ⟨_, .of hlt7⟩, for_list (K := K) (a := lt) (xs := es.map fun x => V.ref x.1) (fun i σ G => ∃ (bl : Addr) (l : List Int) (y6 y7 : Option V), σ = [some (.ref a), some (.int p), some (.ref rw2), some (.ref hd), some (.ref t), some (.ref bl), y6, y7, none, none, none, none, none] ∧ Same H7 G ∧ Ls G bl l ∧ Pl.IsRow p l ∧
        Pl.mk p l = Pl.mk p [Pl.co row (row.length - 1)] * Pl.prodR p (told (es.take i)))
      ⟨b0, [Pl.co row (row.length - 1)], none, none, rfl, Same.refl _, hb0, rc, by rw [List.take_zero]; show _ = _ * (1 : Pl.Poly p); grind⟩ (fun i σ G _ ⟨_, _, _, _, _, sm, _⟩ => .of (sm _ _ hlt7)) ?_ ?_⟩
    · rintro i x σ G hx ⟨bl, l, y6, y7, rfl, sm, hbl, rl, el⟩
      have hi : i < es.length := by
        have := (List.getElem?_eq_some_iff.mp hx).1
        rw [List.length_map] at this
        exact this
      rw [List.getElem?_map, List.getElem?_eq_getElem hi] at hx
      obtain rfl : V.ref es[i].1 = x := Option.some.inj hx
      have hm := List.getElem_mem hi
      obtain ⟨t1, r1⟩ := hes7 _ hm
      obtain ⟨f1, f2, f3, f4, f5, f6, f7⟩ := hesF _ hm
      refine ⟨.ref es[i].1, rfl, es[i].1, _, 1, .int (es[i].2.2.2 : Nat), rfl, rfl, .of (sm _ _ t1), rfl, _, rfl, by omega, by omega, ?_⟩
      rw [Int.toNat_natCast]
      refine for_range (lo := 0) (n := es[i].2.2.2) (fun j σ G => ∃ (bl : Addr) (l : List Int) (y7 : Option V), σ = [some (.ref a), some (.int p), some (.ref rw2), some (.ref hd), some (.ref t), some (.ref bl), some (.ref es[i].1), y7, none, none, none, none, none] ∧ Same H7 G ∧ Ls G bl l ∧ Pl.IsRow p l ∧
        Pl.mk p l = Pl.mk p [Pl.co row (row.length - 1)] * Pl.prodR p (told (es.take i)) * Pl.mk p es[i].2.2.1 ^ j) ⟨bl, l, y7, rfl, sm, hbl, rl, by rw [el]; grind⟩ ?_ ?_
      · rintro j σ G1 hj ⟨bl, l, y7, rfl, sm1, hbl, rl, el⟩
        have zl := built_lenE hp.prm rrow hz FA hi (Nat.le_of_lt hj) rl el
        refine ⟨.int p, rfl, .ref bl, rfl, .ref es[i].1, rfl, es[i].1, _, 0, .ref es[i].2.1, rfl, rfl, .of (sm1 _ _ t1), rfl, p, bl, es[i].2.1, l, es[i].2.2.1, rfl, hp, hbl, sm1 _ _ r1, rl, f1, by omega, by omega, fun G2 r2 sG2 nr2 hr2 => ?_⟩
        refine ⟨r2, _, _, rfl, sm1.trans sG2, hr2, Pl.rowL_row hpos _, ?_⟩
        rw [Pl.mk_rowL, Pl.mk_mulL, el, Lean.Grind.Semiring.pow_succ]
        grind
      · rintro σ G1 ⟨bl, l, y7, rfl, sm1, hbl, rl, el⟩
        exact ⟨bl, l, _, y7, rfl, sm1, hbl, rl, built_nextE hi el⟩
    rintro σ G7 ⟨bl, l, y6, y7, rfl, sm7, hbl, rl, el⟩
    rw [List.length_map, List.take_length] at el
    have hlrow : l = row := Pl.row_inj rl rrow (by rw [el, FA.prod])
    refine ⟨.ref bl, rfl, .ref rw2, rfl, dI l, dI row, dp_ls hbl, dp_ls (sm7 _ _ hrw7), dI_shaped _, dI_shaped _, _, rfl, ?_⟩
    rw [dI_eqv, decide_eq_true hlrow]
    refine iteF ?_
    -- each two apart
    have zro : (rowsOf es).length ≤ 128 := by unfold rowsOf; rw [List.length_map]; exact zes
    have hro : ∀ y ∈ rowsOf es, ∃ x ∈ es, y = (x.2.1, x.2.2.1) := fun y hy => rowsOf_mem hy
    refine ⟨.int p, rfl, .ref t, rfl, t, _, 1, .ref lt, rfl, rfl, .of (sm7 _ _ ht7), rfl, lt, rfl, ⟨_, .of (sm7 _ _ hlt7)⟩, fun D hD => lc_firsts (K := K) (v := 6) (es := es) (by show 6 < 13; decide) (sm7 _ _ hlt7) (fun x hx => sm7 _ _ (hes7 x hx).1) hD (by omega) fun G8 s8 hD8 => ?_⟩
    have s78 := sm7.trans s8
    refine ⟨p, D, rowsOf es, rfl, hp, hD8, by omega, ?_, ?_, fun G9 s9 => ⟨_, rfl, iteF ?_⟩⟩
    · intro y hy
      obtain ⟨x, hx, rfl⟩ := hro y hy
      obtain ⟨f1, f2, f3, f4, f5, f6, f7⟩ := hesF x hx
      exact ⟨s78 _ _ (hes7 x hx).2, f1, List.length_pos_iff.mp (Nat.lt_trans (by decide) f2), by show x.2.2.1.length ≤ 1000; omega, f5⟩
    · have h1 := FA.apart
      unfold told at h1
      rw [List.pairwise_map] at h1
      unfold rowsOf
      rw [List.pairwise_map]
      exact h1
    have sm9 := s78.trans s9
    clear hD8 hlrow el rl hbl
    -- kept
    refine ⟨.ref t, rfl, t, _, 1, .ref lt, rfl, rfl, .of (sm9 _ _ ht7), rfl, lt, rfl, ⟨_, .of (sm9 _ _ hlt7)⟩, fun D1 hD1 => lc_list (K := K) (a := lt) (xs := es.map fun x => V.ref x.1) (fun i G => Same G9 G ∧ ∃ ks : List El, G D1 = some (refsOf ks) ∧ told ks = told (es.take i) ∧ ∀ x ∈ ks, G x.1 = some (.tup [.ref x.2.1, .int (x.2.2.2 : Nat)]) ∧ Ls G x.2.1 x.2.2.1 ∧ G9 x.1 = none ∧ G9 x.2.1 = none ∧ x.1 ≠ D1 ∧ x.2.1 ≠ D1)
      ⟨same_new (Same.refl _) hD1, [], upd_same, by rw [List.take_zero], fun x hx => by simp at hx⟩ (fun i G _ h => .of (h.1 _ _ (sm9 _ _ hlt7))) ?_ ?_⟩
    · rintro i x G hx ⟨sG, ks, hk, ek, each⟩
      have hi : i < es.length := by
        have := (List.getElem?_eq_some_iff.mp hx).1
        rw [List.length_map] at this
        exact this
      rw [List.getElem?_map, List.getElem?_eq_getElem hi] at hx
      obtain rfl : V.ref es[i].1 = x := Option.some.inj hx
      have hm := List.getElem_mem hi
      obtain ⟨t1, r1⟩ := hes7 _ hm
      have t2 := sG _ _ (sm9 _ _ t1)
      have r2 := sG _ _ (sm9 _ _ r1)
      have hkl : ks.length = i := by
        have := congrArg List.length ek
        unfold told at this
        rw [List.length_map, List.length_map, List.length_take] at this
        omega
      refine ⟨rfl, .ref es[i].1, rfl, es[i].1, _, 0, .ref es[i].2.1, rfl, rfl, .of t2, rfl, es[i].2.1, _, rfl, .inl (.of r2), fun l nl => ?_⟩
      obtain ⟨sl, hl⟩ := new_st (o := .lst (es[i].2.2.1.map V.int)) nl
      generalize upd G l (.lst (es[i].2.2.1.map V.int)) = G1 at sl hl ⊢
      refine ⟨.ref es[i].1, rfl, es[i].1, _, 1, .int (es[i].2.2.2 : Nat), rfl, rfl, .of (sl _ _ t2), rfl, (by show 2 ≤ sizeLine; decide), fun tp ntp => ?_⟩
      obtain ⟨st, htp⟩ := new_st (o := .tup [V.ref l, V.int (es[i].2.2.2 : Nat)]) ntp
      generalize upd G1 tp (.tup [V.ref l, V.int (es[i].2.2.2 : Nat)]) = G2 at st htp ⊢
      have slt := sl.trans st
      have nD1 : l ≠ D1 := fun e => by rw [e, hk] at nl; cases nl
      have nD2 : tp ≠ D1 := fun e => by rw [e, sl _ _ hk] at ntp; cases ntp
      refine ⟨_, slt _ _ hk, by rw [List.length_map]; exact small_line (by omega), same_mut (sG.trans slt) hD1, ks ++ [(tp, l, es[i].2.2)], ?_, ?_, fun x hx => ?_⟩
      · rw [upd_same, refsOf, List.map_append]; rfl
      · unfold told at ek ⊢
        rw [List.take_add_one, List.getElem?_eq_getElem hi, List.map_append, List.map_append, ek]; rfl
      · rcases List.mem_append.mp hx with e | e
        · obtain ⟨h1, h2, h3, h4, h5, h6⟩ := each x e
          exact ⟨by rw [upd_ne h5]; exact slt _ _ h1, by show upd _ _ _ _ = _; rw [upd_ne h6]; exact slt _ _ h2, h3, h4, h5, h6⟩
        · have ex : x = (tp, l, es[i].2.2) := by simpa using e
          rw [ex]
          exact ⟨by rw [upd_ne nD2]; exact htp, by show upd _ _ _ _ = _; rw [upd_ne nD1]; exact st _ _ hl, (sG.trans sl).free ntp, sG.free nl, nD2, nD1⟩
    rintro G10 ⟨s10, ks, hK, ek, hks⟩
    rw [List.length_map, List.take_length] at ek
    have sm10 := sm9.trans s10
    have zks : ks.length = es.length := by
      have := congrArg List.length ek
      unfold told at this
      rwa [List.length_map, List.length_map] at this
    have hhd10 : Ls G10 hd row := sm10 _ _ hhd7
    have hrw10 : Ls G10 rw2 row := sm10 _ _ hrw7
    -- the paper
    refine ⟨fun σ' G => ∃ pv, σ' = [some (.ref a), some (.int p), some (.ref rw2), some (.ref hd), some (.ref t), some (.ref bl), y6, y7, some (.ref D1), some pv, none, none, none] ∧ Same G10 G ∧ PfSt p row G10 G pv,
      ⟨.int p, rfl, .ref hd, rfl, p, hd, row, rfl, hp, hhd10, rrow, hz, by omega, fun hns G sG => ⟨.non, rfl, sG, .inl ⟨hns, rfl⟩⟩, fun hs G t9 x9 y9 u v sG nt9 nx9 ny9 hxy hxt hyt ht9 hu9 hv9 ru9 rv9 ee9 zu zv => ⟨.ref t9, rfl, sG, .inr ⟨hs, t9, x9, y9, u, v, rfl, nx9, ny9, hxy, ht9, hu9, hv9, ru9, rv9, ee9, zu, zv⟩⟩⟩, ?_⟩
    rintro σ' G11 ⟨pv, rfl, s11, pf⟩
    -- none just where a part is there twice or more
    refine ⟨fun σ' G => σ' = [some (.ref a), some (.int p), some (.ref rw2), some (.ref hd), some (.ref t), some (.ref bl), y6, y7, some (.ref D1), some pv, none, none, none] ∧ Same G10 G ∧ PfSt p row G10 G pv, ?_, ?_⟩
    · have hK11 := s11 _ _ hK
      refine ⟨.ref D1, rfl, D1, rfl, ⟨_, .of hK11⟩, fun D2 hD2 => lc_list (K := K) (a := D1) (xs := ks.map fun x => V.ref x.1) (fun i G => Same G11 G ∧ G D2 = some (refsOf ((ks.take i).filter fun x => decide (1 < x.2.2.2))))
        ⟨same_new (Same.refl _) hD2, by rw [List.take_zero]; exact upd_same⟩ (fun i G _ h => .of (h.1 _ _ hK11)) ?_ ?_⟩
      · rintro i x G hx ⟨sG, hk⟩
        have hi : i < ks.length := by
          have := (List.getElem?_eq_some_iff.mp hx).1
          rw [List.length_map] at this
          exact this
        rw [List.getElem?_map, List.getElem?_eq_getElem hi] at hx
        obtain rfl : V.ref ks[i].1 = x := Option.some.inj hx
        have t1 := sG _ _ (s11 _ _ (hks _ (List.getElem_mem hi)).1)
        have etk : ks.take (i + 1) = ks.take i ++ [ks[i]] := by rw [List.take_add_one, List.getElem?_eq_getElem hi]; rfl
        refine ⟨rfl, .ref ks[i].1, rfl, ks[i].1, _, 1, .int (ks[i].2.2.2 : Nat), rfl, rfl, .of t1, rfl, _, _, rfl, rfl, _, rfl, ?_⟩
        by_cases hb : 1 < ks[i].2.2.2
        · rw [decide_eq_true (show (1 : Int) < (ks[i].2.2.2 : Nat) by omega)]
          refine iteT ⟨.ref ks[i].1, rfl, _, hk, ?_, same_mut sG hD2, ?_⟩
          · rw [List.length_map]
            refine small_line (Nat.le_trans (List.length_filter_le _ _) ?_)
            rw [List.length_take]
            omega
          · rw [etk, List.filter_append, upd_same, refsOf, List.map_append, List.filter_cons_of_pos (p := fun x : El => decide (1 < x.2.2.2)) (decide_eq_true hb)]; rfl
        · rw [decide_eq_false (show ¬ (1 : Int) < (ks[i].2.2.2 : Nat) by omega)]
          refine iteF ⟨sG, ?_⟩
          rw [etk, List.filter_append, List.filter_cons_of_neg (p := fun x : El => decide (1 < x.2.2.2)) (fun z => hb (of_decide_eq_true z))]
          rw [List.filter_nil, List.append_nil]
          exact hk
      · rintro G12 ⟨s12, hk2⟩
        rw [List.length_map, List.take_length] at hk2
        refine ⟨Nat.zero_le _, fun e1 n1 => ?_⟩
        obtain ⟨se1, ee1⟩ := new_st (o := .lst []) n1
        generalize upd G12 e1 (.lst []) = G13 at se1 ee1 ⊢
        have s1013 := (s11.trans s12).trans se1
        have pf13 := pf.same (s12.trans se1)
        refine ⟨dP (big (told ks)), dI [], ?_, dp_ls (l := []) ee1, dP_shaped _, dI_shaped _, _, rfl, ?_⟩
        · rw [← told_big]
          exact dp_els' (se1 _ _ hk2) fun x hx => ⟨s1013 _ _ (hks x (List.mem_filter.mp hx).1).1, s1013 _ _ (hks x (List.mem_filter.mp hx).1).2.1⟩
        rw [dP_none, ek]
        rcases pf13 with ⟨hns, rfl⟩ | ⟨hs, t9, x9, y9, u, v, rfl, nx9, ny9, hxy, ht9, hu9, hv9, ru9, rv9, ee9, zu, zv⟩
        · rw [decide_eq_false (fun z => hns (FA.sq.mpr (big_nil.mp z)))]
          refine iteT ⟨.non, rfl, rfl, _, rfl, iteNS rfl ⟨rfl, s1013, .inl ⟨hns, rfl⟩⟩⟩
        · rw [decide_eq_true (big_nil.mpr (FA.sq.mp hs))]
          refine iteF ⟨.int p, rfl, .ref t9, rfl, .ref rw2, rfl, .int p, rfl, .ref rw2, rfl, p, rw2, row, rfl, hp, s1013 _ _ hrw10, rrow, by omega, fun G14 d s14 nd' hd' => ?_⟩
          have zd := der_len p row
          refine ⟨p, t9, x9, y9, rw2, d, u, v, row, _, rfl, hp, s14 _ _ ht9, s14 _ _ hu9, s14 _ _ hv9, s14 _ _ (s1013 _ _ hrw10), hd', ru9, rv9, rrow, Pl.rowL_row hpos _, by omega, by omega, by omega, by omega, by rw [mk_der_row]; exact ee9, fun G15 s15 => ⟨_, rfl, iteF ⟨rfl, s1013.trans (s14.trans s15), .inr ⟨hs, t9, x9, y9, u, v, rfl, nx9, ny9, hxy, s15 _ _ (s14 _ _ ht9), s15 _ _ (s14 _ _ hu9), s15 _ _ (s14 _ _ hv9), ru9, rv9, ee9, zu, zv⟩⟩⟩⟩
    clear pf s11 G11
    rintro σ' G11 ⟨rfl, s11, pf⟩
    -- the rows
    have ht10 := sm10 _ _ ht7
    have hlt10 := sm10 _ _ hlt7
    have hes10 : ∀ x ∈ es, G10 x.1 = some (.tup [.ref x.2.1, .int (x.2.2.2 : Nat)]) ∧ Ls G10 x.2.1 x.2.2.1 := fun x hx => ⟨sm10 _ _ (hes7 x hx).1, sm10 _ _ (hes7 x hx).2⟩
    refine ⟨.ref t, rfl, t, _, 1, .ref lt, rfl, rfl, .of (s11 _ _ ht10), rfl, lt, rfl, ⟨_, .of (s11 _ _ hlt10)⟩, fun D3 hD3 => lc_firsts (K := K) (v := 6) (es := es) (by show 6 < 13; decide) (s11 _ _ hlt10) (fun x hx => s11 _ _ (hes10 x hx).1) hD3 (by omega) fun G12 s12 hD12 => ?_⟩
    have s1012 := s11.trans s12
    have pf12 := pf.same s12
    have nD3 : G10 D3 = none := s11.free hD3
    refine ⟨fun σ' G => ∃ (R : Addr) (rs : List (Addr × List Int)), σ' = [some (.ref a), some (.int p), some (.ref rw2), some (.ref hd), some (.ref t), some (.ref bl), y6, y7, some (.ref D1), some pv, some (.ref R), none, none] ∧ Same G10 G ∧ G R = some (refRow rs) ∧ rs.length ≤ 1000 ∧
        (∀ x ∈ rs, Ls G x.1 x.2 ∧ x.1 ≠ R ∧ x.2.length ≤ 20000) ∧ (rs.Pairwise fun x y => x.1 ≠ y.1) ∧ ∀ b o, G10 b = some o → (∀ x ∈ es, b ≠ x.2.1) → b ≠ R ∧ ∀ x ∈ rs, b ≠ x.1, ?_, ?_⟩
    · have hro1 : ∀ x ∈ rowsOf es, Ls G12 x.1 x.2 ∧ (∃ o, G10 x.1 = some o) ∧ x.2.length ≤ 128 := fun y hy => by
        obtain ⟨x, hx, rfl⟩ := hro y hy
        have h6 := (hesF x hx).2.2.2.2.2.1
        exact ⟨s1012 _ _ (hes10 x hx).2, ⟨_, (hes10 x hx).2⟩, by show x.2.2.1.length ≤ 128; omega⟩
      have hpw1 : (rowsOf es).Pairwise fun x y => x.1 ≠ y.1 := by
        unfold rowsOf
        rw [List.pairwise_map]
        exact hdist
      have hsafe1 : ∀ b, (∀ x ∈ es, b ≠ x.2.1) → ∀ x ∈ rowsOf es, b ≠ x.1 := fun b hb y hy => by
        obtain ⟨x, hx, rfl⟩ := hro y hy
        exact hb x hx
      have nR : ∀ R b : Addr, G10 R = none → (∃ o, G10 b = some o) → b ≠ R := fun R b h1 ⟨o, h2⟩ e => by
        rw [e, h1] at h2
        cases h2
      rcases pf12 with ⟨hns, rfl⟩ | ⟨hs, t9, x9, y9, u, v, rfl, nx9, ny9, hxy, ht9, hu9, hv9, ru9, rv9, ee9, zu, zv⟩
      · refine ⟨.non, rfl, rfl, _, rfl, iteNS rfl ⟨D3, rowsOf es, rfl, s1012, hD12, by omega, fun x hx => ⟨(hro1 x hx).1, nR _ _ nD3 (hro1 x hx).2.1, by have := (hro1 x hx).2.2; omega⟩, hpw1, fun b o hb hb2 => ⟨nR _ _ nD3 ⟨o, hb⟩, hsafe1 b hb2⟩⟩⟩
      · refine ⟨.ref t9, rfl, rfl, _, rfl, ?_⟩
        rw [show (!decide (V.ref t9 = V.non)) = true from rfl]
        refine iteT ⟨.ref D3, rfl, .ref t9, rfl, t9, _, rfl, .inr (.of ht9), fun l4 n4 => ?_⟩
        obtain ⟨s4, e4⟩ := new_st (o := .lst [V.ref x9, V.ref y9]) n4
        generalize upd G12 l4 (.lst [V.ref x9, V.ref y9]) = G13 at s4 e4 ⊢
        refine ⟨D3, l4, _, _, rfl, rfl, s4 _ _ hD12, e4, ?_, fun l5 n5 => ?_⟩
        · rw [List.length_map]
          exact small_line' (by show _ + 2 ≤ _; omega)
        obtain ⟨s5', e5⟩ := new_st (o := .lst ((rowsOf es).map (fun x => V.ref x.1) ++ [V.ref x9, V.ref y9])) n5
        generalize upd G13 l5 (.lst ((rowsOf es).map (fun x => V.ref x.1) ++ [V.ref x9, V.ref y9])) = G14 at s5' e5 ⊢
        have s45 := s4.trans s5'
        have n5G : G10 l5 = none := (s1012.trans s4).free n5
        have hx5 : x9 ≠ l5 := fun e => by rw [e] at hu9; have := s4 _ _ hu9; rw [n5] at this; cases this
        have hy5 : y9 ≠ l5 := fun e => by rw [e] at hv9; have := s4 _ _ hv9; rw [n5] at this; cases this
        refine ⟨l5, rowsOf es ++ [(x9, u), (y9, v)], rfl, s1012.trans s45, by rw [e5, refRow, List.map_append]; rfl, by rw [List.length_append]; show _ + 2 ≤ _; omega, fun x hx => ?_, ?_, fun b o hb hb2 => ⟨nR _ _ n5G ⟨o, hb⟩, fun x hx => ?_⟩⟩
        · rcases List.mem_append.mp hx with e | e
          · exact ⟨s45 _ _ (hro1 x e).1, nR _ _ n5G (hro1 x e).2.1, by have := (hro1 x e).2.2; omega⟩
          · rcases List.mem_cons.mp e with rfl | e
            · exact ⟨s45 _ _ hu9, hx5, by show u.length ≤ _; omega⟩
            · obtain rfl : x = (y9, v) := by simpa using e
              exact ⟨s45 _ _ hv9, hy5, by show v.length ≤ _; omega⟩
        · rw [List.pairwise_append]
          refine ⟨hpw1, by simp [hxy], fun x hx y hy => ?_⟩
          rcases List.mem_cons.mp hy with rfl | e
          · exact nR _ _ nx9 (hro1 x hx).2.1
          · obtain rfl : y = (y9, v) := by simpa using e
            exact nR _ _ ny9 (hro1 x hx).2.1
        · rcases List.mem_append.mp hx with e | e
          · exact hsafe1 b hb2 x e
          · rcases List.mem_cons.mp e with rfl | e
            · exact nR _ _ nx9 ⟨o, hb⟩
            · obtain rfl : x = (y9, v) := by simpa using e
              exact nR _ _ ny9 ⟨o, hb⟩
    clear pf12 hD12 s1012 s12 G12 nD3 hD3 D3
    rintro σ' G12 ⟨R, rs, rfl, s12, hR, zrs, hrs, hpw, safe⟩
    -- made longer
    refine ⟨.ref R, rfl, R, rs, rfl, hR, zrs, hrs, hpw, fun G13 fr hlong => ⟨_, rfl, iteF ?_⟩⟩
    have keep : ∀ b o, G10 b = some o → (∀ x ∈ es, b ≠ x.2.1) → G13 b = some o := fun b o hb hb2 => fr b o (safe b o hb hb2).2 (s12 _ _ hb)
    have nrow : ∀ b o, H4 b = some o → ∀ x ∈ es, b ≠ x.2.1 := fun b o hb x hx e => by
      have h1 := (hes x hx).1.2.2.2
      rw [← e, hb] at h1
      cases h1
    have nlt2 : ∀ x ∈ es, lt ≠ x.2.1 := fun x hx e => (hes x hx).2.2 e.symm
    have ntt : ∀ x ∈ es, t ≠ x.2.1 := fun x hx e => by
      have h1 : G10 x.2.1 = _ := (hes10 x hx).2
      rw [← e, ht10] at h1
      cases h1
    have n9 : ∀ b, G9 b = none → ∀ x ∈ es, b ≠ x.2.1 := fun b hb x hx e => by
      have h1 : G9 x.2.1 = _ := sm9 _ _ (hes7 x hx).2
      rw [← e, hb] at h1
      cases h1
    have ht13 := keep _ _ ht10 ntt
    have hlt13 := keep _ _ hlt10 nlt2
    have hrw13 := keep _ _ hrw10 (nrow _ _ hrw4)
    have hhd13 := keep _ _ hhd10 (nrow _ _ hhd4)
    have hK13 := keep _ _ hK (n9 _ hD1)
    have hks13 : ∀ x ∈ ks, G13 x.1 = some (.tup [.ref x.2.1, .int (x.2.2.2 : Nat)]) ∧ Ls G13 x.2.1 x.2.2.1 := fun x hx => ⟨keep _ _ (hks x hx).1 (n9 _ (hks x hx).2.2.1), keep _ _ (hks x hx).2.1 (n9 _ (hks x hx).2.2.2.1)⟩
    have hR13 : G13 R = some (refRow rs) := fr _ _ (fun x hx e => (hrs x hx).2.1 e.symm) hR
    -- what was found, made longer
    refine ⟨.ref t, rfl, t, _, 1, .ref lt, rfl, rfl, .of ht13, rfl, .inl ⟨rfl, _, .of hlt13⟩, lt, _, _, rfl, rfl, hlt13, by rw [List.length_map]; exact small_line (by omega), ?_⟩
    have nl4 : ∀ b o, H4 b = some o → b ≠ lt := fun b o hb e => by
      rw [e, nlt] at hb
      cases hb
    have nl9 : ∀ b, G9 b = none → b ≠ lt := fun b hb e => by
      have := sm9 _ _ hlt7
      rw [← e, hb] at this
      cases this
    have hrowlt := (safe lt _ hlt10 nlt2).2
    have hRlt := (safe lt _ hlt10 nlt2).1
    have htlt : t ≠ lt := fun e => by
      rw [e, hlt13] at ht13
      cases ht13
    have up : ∀ b o, b ≠ lt → G13 b = some o → upd G13 lt (.lst (es.map (fun x => V.ref x.1) ++ [V.int 1])) b = some o := fun b o hb e => by
      rw [upd_ne hb]
      exact e
    have hlt14 : upd G13 lt (.lst (es.map (fun x => V.ref x.1) ++ [V.int 1])) lt = some (.lst (es.map (fun x => V.ref x.1) ++ [V.int 1])) := upd_same
    generalize upd G13 lt (.lst (es.map (fun x => V.ref x.1) ++ [V.int 1])) = G14 at up hlt14 ⊢
    have ht14 := up _ _ htlt ht13
    have hrw14 := up _ _ (nl4 _ _ hrw4) hrw13
    have hhd14 := up _ _ (nl4 _ _ hhd4) hhd13
    have hK14 := up _ _ (nl9 _ hD1) hK13
    have hks14 : ∀ x ∈ ks, G14 x.1 = some (.tup [.ref x.2.1, .int (x.2.2.2 : Nat)]) ∧ Ls G14 x.2.1 x.2.2.1 := fun x hx => ⟨up _ _ (nl9 _ (hks x hx).2.2.1) (hks13 x hx).1, up _ _ (nl9 _ (hks x hx).2.2.2.1) (hks13 x hx).2⟩
    have hR14 : G14 R = some (refRow (rs.map fun x => (x.1, x.2 ++ [1]))) := by
      rw [up _ _ (fun e => hRlt e.symm) hR13, refRow, refRow, List.map_map]
      rfl
    have hrs14 : ∀ x ∈ rs.map (fun x => (x.1, x.2 ++ [(1 : Int)])), Ls G14 x.1 x.2 := fun y hy => by
      obtain ⟨x, hx, rfl⟩ := List.mem_map.mp hy
      exact up _ _ (fun e => hrowlt x hx e.symm) (hlong x hx)
    have zr1 : (rs.map fun x => (x.1, x.2 ++ [(1 : Int)])).length ≤ 2000 := by rw [List.length_map]; omega
    generalize (rs.map fun x => (x.1, x.2 ++ [(1 : Int)])) = rs1 at hR14 hrs14 zr1
    refine ⟨.ref R, rfl, R, rfl, ⟨_, .of hR14⟩, fun D4 hD4 => lc_copies (K := K) (v := 12) (rs := rs1) (by show 12 < 13; decide) hR14 hrs14 hD4 zr1 fun G15 ks4 C4 => ?_⟩
    -- told again
    refine ⟨.int p, rfl, .ref hd, rfl, p, hd, row, rfl, hp, C4.sm _ _ hhd14, rrow, hz, zrow, fun G16 t2 lt2 es2 r2 s16 nt2 nlt3 ht2 hlt2 hes2 _ hPl2 hPa2 => ?_⟩
    have er : r2 = r := hPl2.unique hp.prm rrow hz hPl
    have et : told es2 = told es := by
      rw [er] at hPa2
      exact hPa2.unique hp.prm hPa (hPl.facts hp.prm rrow hz).2.1
    have sm16 := C4.sm.trans s16
    refine ⟨.ref rw2, rfl, 1, rfl, rw2, _, -1, _, rfl, rfl, .of (sm16 _ _ hrw14), at_neg hlen0, .ref D1, rfl, (by show 2 ≤ sizeLine; decide), fun tp ntp => ?_⟩
    obtain ⟨stp, etp⟩ := new_st (o := .tup [V.int (Pl.co row (row.length - 1)), V.ref D1]) ntp
    generalize upd G16 tp (.tup [V.int (Pl.co row (row.length - 1)), V.ref D1]) = G17 at stp etp ⊢
    have sm17 := sm16.trans stp
    refine ⟨dF (Pl.co row (row.length - 1)) (told es2), dF (Pl.co row (row.length - 1)) (told ks), dp_found (stp _ _ ht2) (stp _ _ hlt2) (fun x hx => ⟨stp _ _ (hes2 x hx).1.1, stp _ _ (hes2 x hx).1.2.1⟩),
      dp_found etp (sm17 _ _ hK14) (fun x hx => ⟨sm17 _ _ (hks14 x hx).1, sm17 _ _ (hks14 x hx).2⟩), dF_shaped _ _, dF_shaped _ _, _, rfl, ?_⟩
    rw [et, ek, dF_same]
    refine iteF ⟨.ref hd, rfl, .ref rw2, rfl, dI row, dI row, dp_ls (sm17 _ _ hhd14), dp_ls (sm17 _ _ hrw14), dI_shaped _, dI_shaped _, _, rfl, ?_⟩
    rw [dI_eqv, decide_eq_true rfl]
    refine iteF ?_
    refine ⟨.ref R, rfl, R, rfl, ⟨_, .of (sm17 _ _ hR14)⟩, fun D5 hD5 => lc_copies (K := K) (v := 12) (rs := rs1) (by show 12 < 13; decide) (sm17 _ _ hR14) (fun x hx => sm17 _ _ (hrs14 x hx)) hD5 zr1 fun G18 ks5 C5 => ?_⟩
    have sm18 := s16.trans (stp.trans C5.sm)
    refine ⟨.ref D4, rfl, dR (ks5.map (·.2)), dR (ks4.map (·.2)), dp_rows' C5.at_ (fun x hx => (C5.each x hx).1), dp_rows' (sm18 _ _ C4.at_) (fun x hx => sm18 _ _ (C4.each x hx).1), dR_shaped _, dR_shaped _, _, rfl, ?_⟩
    rw [C5.eq, C4.eq, dR_same]
    have smE := sm17.trans C5.sm
    refine iteT ⟨.ref t, rfl, t, _, 1, .ref lt, rfl, rfl, .of (smE _ _ ht14), rfl, lt, _, rfl, .inl (.of (smE _ _ hlt14)), .ref D1, rfl, D1, _, rfl, .inl (.of (smE _ _ hK14)), _, _, rfl, rfl, rfl, ?_⟩
    rw [decide_eq_true]
    · exact q _
    · rw [List.length_append, List.length_map, List.length_map, zks]
      show V.int (((es.length + 1 : Nat)) : Int) = V.int ((es.length : Int) + 1)
      rfl
end
end Kp
-- W17
set_option Elab.async false
set_option linter.all false
set_option maxRecDepth 100000
set_option maxHeartbeats 4000000
namespace Kp
open PySem PySem.Spec PyProof.Rows L2
/-- a def as the top has left it -/
structure Df (K : PySem.W.Frag) (mg : Str → Option Value) (x : Str) (st : Stmt) (ps : List Str) (f : Addr) (fd : FuncData) : Prop where
  F : Fun K x x st f fd
  k : PySem.W.keepIn K (.ref f) = true
  b : Binds K fd ps []
  g : mg x = some (.ref f)
/-- all defs but the law's own -/
structure Defs (K : PySem.W.Frag) (mg : Str → Option Value) (C : Addr) (tk : Tok) : Prop where
  T : Bt mg
  N : NP K mg C
  gp : mg "GREATEST_PRIME" = some (.int 997 tk)
  d0 : ∃ f fd, Df K mg "cut" sCut ["numbers"] f fd
  d1 : ∃ f fd, Df K mg "shared" sShared ["one", "other"] f fd
  d2 : ∃ f fd, Df K mg "turned" sTurned ["prime", "number"] f fd
  d3 : ∃ f fd, Df K mg "joined" sJoined ["prime", "ones", "others", "number"] f fd
  d4 : ∃ f fd, Df K mg "product" sProduct ["prime", "ones", "others"] f fd
  d5 : ∃ f fd, Df K mg "multiple" sMultiple ["prime", "row", "number"] f fd
  d6 : ∃ f fd, Df K mg "falling" sFalling ["prime", "row"] f fd
  d7 : ∃ f fd, Df K mg "plain" sPlain ["prime", "row"] f fd
  d8 : ∃ f fd, Df K mg "taken_out" sTaken ["prime", "row", "by"] f fd
  d9 : ∃ f fd, Df K mg "met" sMet ["prime", "ones", "others"] f fd
  d10 : ∃ f fd, Df K mg "meet" sMeet ["prime", "ones", "others"] f fd
  d11 : ∃ f fd, Df K mg "is_prime" sIsPrime ["thing"] f fd
  d12 : ∃ f fd, Df K mg "is_ring" sIsRing ["thing"] f fd
  d13 : ∃ f fd, Df K mg "sure_prime" sSure ["prime"] f fd
  d14 : ∃ f fd, Df K mg "alone" sAlone ["prime", "row"] f fd
  d15 : ∃ f fd, Df K mg "no_square" sNoSq ["prime", "row"] f fd
  d16 : ∃ f fd, Df K mg "by_often" sBy ["pair"] f fd
  d17 : ∃ f fd, Df K mg "parted" sParted ["prime", "row"] f fd
  d18 : ∃ f fd, Df K mg "parts" sParts ["prime", "row"] f fd
  d19 : ∃ f fd, Df K mg "_law_cell_at" sCell ["_law_script", "_law_k"] f fd
  d20 : ∃ f fd, Df K mg "_law_whole" sWhole ["_law_found"] f fd
  d21 : ∃ f fd, Df K mg "_law_prime_by" sPrimeBy ["_law_cell"] f fd
  d22 : ∃ f fd, Df K mg "_law_cut" sLCut ["_law_numbers"] f fd
  d23 : ∃ f fd, Df K mg "_law_drawn" sDrawn ["_law_prime", "_law_cell", "_law_size"] f fd
  d24 : ∃ f fd, Df K mg "_law_is_row" sIsRow ["_law_prime", "_law_found"] f fd
  d25 : ∃ f fd, Df K mg "_law_times" sTimes ["_law_prime", "_law_ones", "_law_others"] f fd
  d26 : ∃ f fd, Df K mg "_law_sum" sSum ["_law_prime", "_law_ones", "_law_others"] f fd
  d27 : ∃ f fd, Df K mg "_law_slope" sSlope ["_law_prime", "_law_row"] f fd
  d28 : ∃ f fd, Df K mg "_law_row_by" sRowBy ["_law_script", "_law_prime"] f fd
  d29 : ∃ f fd, Df K mg "_law_comes_to_one" sComes ["_law_prime", "_law_pair", "_law_ones", "_law_others"] f fd
  d30 : ∃ f fd, Df K mg "_law_is_told" sTold ["_law_prime", "_law_found"] f fd
  d31 : ∃ f fd, Df K mg "_law_apart" sApart ["_law_prime", "_law_rows"] f fd
  d32 : ∃ f fd, Df K mg "_law_no_parts" sNoParts ["_law_prime"] f fd
  d33 : ∃ f fd, Df K mg "_law_own" sOwn ["_law_rows"] f fd
section
variable {P : Program} {w : World} {K : PySem.W.Frag} {mg : Str → Option Value} {base : Heap}
theorem parted_at {f fM fF fB : Addr} {fd fdM fdF fdB : FuncData} (D : Df K mg "parted" sParted ["prime", "row"] f fd) (GM : ∀ k, FnOk P w K mg base CX0 (k + 4) fM fdM ["prime", "ones", "others"] spMet) (M : Df K mg "met" sMet ["prime", "ones", "others"] fM fdM)
    (GF : ∀ k, FnOk P w K mg base CX0 (k + 2) fF fdF ["prime", "row"] spFalling) (L : Df K mg "falling" sFalling ["prime", "row"] fF fdF) (B : Df K mg "by_often" sBy ["pair"] fB fdB) (T : Bt mg) : ∀ d : Nat, FnOk P w K mg base CX0 (21 + d + 1) f fd ["prime", "row"] (spParted d)
  | 0 => ok_parted (k := 21) (d := 0) D.F D.b D.g (GM 17) M.k M.b M.g (GF 19) L.k L.b L.g B.F B.b B.g T (by decide) (.inl rfl)
  | d + 1 => by
    have h1 : FnOk P w K mg base CX0 (21 + (d + 1)) fM fdM ["prime", "ones", "others"] spMet := by
      have := GM (18 + d)
      rwa [show 18 + d + 4 = 21 + (d + 1) by omega] at this
    have h2 : FnOk P w K mg base CX0 (21 + (d + 1)) fF fdF ["prime", "row"] spFalling := by
      have := GF (20 + d)
      rwa [show 20 + d + 2 = 21 + (d + 1) by omega] at this
    exact ok_parted (k := 21) (d := d + 1) D.F D.b D.g h1 M.k M.b M.g h2 L.k L.b L.g B.F B.b B.g T (by decide) (.inr ⟨d, rfl, parted_at D GM M GF L B T d⟩)
theorem law_ok {C : Addr} {tk : Tok} (A : Defs K mg C tk) {f : Addr} {fd : FuncData} (FL : Fun K "law" "law" sLaw f fd) : FnOk P w K mg base CX0 31 f fd ["_law_script"] (spLaw K) := by
  have T := A.T
  have N := A.N
  obtain ⟨f0, g0, e0⟩ := A.d0
  obtain ⟨f1, g1, e1⟩ := A.d1
  obtain ⟨f2, g2, e2⟩ := A.d2
  obtain ⟨f3, g3, e3⟩ := A.d3
  obtain ⟨f4, g4, e4⟩ := A.d4
  obtain ⟨f5, g5, e5⟩ := A.d5
  obtain ⟨f6, g6, e6⟩ := A.d6
  obtain ⟨f7, g7, e7⟩ := A.d7
  obtain ⟨f8, g8, e8⟩ := A.d8
  obtain ⟨f9, g9, e9⟩ := A.d9
  obtain ⟨f10, g10, e10⟩ := A.d10
  obtain ⟨f11, g11, e11⟩ := A.d11
  obtain ⟨f12, g12, e12⟩ := A.d12
  obtain ⟨f13, g13, e13⟩ := A.d13
  obtain ⟨f14, g14, e14⟩ := A.d14
  obtain ⟨f15, g15, e15⟩ := A.d15
  obtain ⟨f16, g16, e16⟩ := A.d16
  obtain ⟨f17, g17, e17⟩ := A.d17
  obtain ⟨f18, g18, e18⟩ := A.d18
  obtain ⟨f19, g19, e19⟩ := A.d19
  obtain ⟨f20, g20, e20⟩ := A.d20
  obtain ⟨f21, g21, e21⟩ := A.d21
  obtain ⟨f22, g22, e22⟩ := A.d22
  obtain ⟨f23, g23, e23⟩ := A.d23
  obtain ⟨f24, g24, e24⟩ := A.d24
  obtain ⟨f25, g25, e25⟩ := A.d25
  obtain ⟨f26, g26, e26⟩ := A.d26
  obtain ⟨f27, g27, e27⟩ := A.d27
  obtain ⟨f28, g28, e28⟩ := A.d28
  obtain ⟨f29, g29, e29⟩ := A.d29
  obtain ⟨f30, g30, e30⟩ := A.d30
  obtain ⟨f31, g31, e31⟩ := A.d31
  obtain ⟨f32, g32, e32⟩ := A.d32
  obtain ⟨f33, g33, e33⟩ := A.d33
  have Hcut : ∀ k, FnOk P w K mg base CX0 (k + 1) f0 g0 ["numbers"] spCut := fun k => ok_cut (k := k) e0.F T.len
  have Hturned : ∀ k, FnOk P w K mg base CX0 (k + 2) f2 g2 ["prime", "number"] spTurned := fun k => ok_turned (k := k) e2.F e1.F e1.b e1.g
  have Hjoined : ∀ k, FnOk P w K mg base CX0 (k + 2) f3 g3 ["prime", "ones", "others", "number"] spJoined := fun k => ok_joined (k := k) e3.F e0.F e0.b e0.g T
  have Hmult : ∀ k, FnOk P w K mg base CX0 (k + 2) f5 g5 ["prime", "row", "number"] spMultiple := fun k => ok_multiple (k := k) e5.F e0.F e0.b e0.g T
  have Hfall : ∀ k, FnOk P w K mg base CX0 (k + 2) f6 g6 ["prime", "row"] spFalling := fun k => ok_falling (k := k) e6.F e0.F e0.b e0.g T
  have Hprod : ∀ k, FnOk P w K mg base CX0 (k + 1) f4 g4 ["prime", "ones", "others"] spProduct := fun k => ok_product (k := k) e4.F T
  have Hplain : ∀ k, FnOk P w K mg base CX0 (k + 3) f7 g7 ["prime", "row"] spPlain := fun k => ok_plain (k := k) e7.F (Hturned k) e2.k e2.b e2.g (Hmult k) e5.k e5.b e5.g
  have Htaken : ∀ k, FnOk P w K mg base CX0 (k + 3) f8 g8 ["prime", "row", "by"] spTaken := fun k => ok_taken (k := k) e8.F (Hturned k) e2.k e2.b e2.g (Hcut k) e0.k e0.b e0.g T
  have Hmet : ∀ k, FnOk P w K mg base CX0 (k + 4) f9 g9 ["prime", "ones", "others"] spMet := fun k => ok_met (k := k) e9.F (Hturned (k + 1)) e2.k e2.b e2.g (Hmult (k + 1)) e5.k e5.b e5.g (Hjoined (k + 1)) e3.k e3.b e3.g (Hprod (k + 2)) e4.k e4.b e4.g (Htaken k) e8.k e8.b e8.g T
  have Hprime : ∀ k, FnOk P w K mg base CX0 (k + 1) f11 g11 ["thing"] spIsPrime := fun k => ok_is_prime (k := k) e11.F T A.gp
  have Hring : ∀ k, FnOk P w K mg base CX0 (k + 2) f12 g12 ["thing"] spIsPrime := fun k => ok_is_ring (k := k + 1) e12.F T (Hprime k) e11.k e11.b e11.g
  have Hsure : ∀ k, FnOk P w K mg base CX0 (k + 3) f13 g13 ["prime"] spSure := fun k => ok_sure (k := k + 2) e13.F (Hring k) e12.k e12.b e12.g
  have HHprime : ∀ k, L2H.FnH P w K mg base CX0 (k + 1) f11 g11 ["thing"] spIsPrime := fun k => okH_is_prime (k := k) e11.F T A.gp
  have HHring : ∀ k, L2H.FnH P w K mg base CX0 (k + 2) f12 g12 ["thing"] spIsPrime := fun k => okH_is_ring (k := k + 1) e12.F T (HHprime k) e11.k e11.b e11.g
  have HHsure : ∀ k, L2H.FnH P w K mg base CX0 (k + 3) f13 g13 ["prime"] spSure := fun k => okH_sure (k := k + 2) e13.F (HHring k) e12.k e12.b e12.g
  have HHalone : ∀ k, L2H.FnH P w K mg base CX0 (k + 1) f14 g14 ["prime", "row"] spNought := fun k => okH_alone (k := k) e14.F
  have HHnosq : ∀ k, L2H.FnH P w K mg base CX0 (k + 4) f15 g15 ["prime", "row"] spNought := fun k => okH_nosq (k := k + 3) e15.F (HHsure k) e13.k e13.b e13.g (HHalone (k + 2)) e14.k e14.b e14.g
  have Halone : ∀ k, FnOk P w K mg base CX0 (k + 5) f14 g14 ["prime", "row"] spAlone := fun k => ok_alone (k := k + 4) e14.F (Hmet k) e9.k e9.b e9.g (Hfall (k + 2)) e6.k e6.b e6.g T
  have Hnosq : ∀ k, FnOk P w K mg base CX0 (k + 6) f15 g15 ["prime", "row"] spAlone := fun k => ok_nosq (k := k + 5) e15.F (Hsure (k + 2)) e13.k e13.b e13.g (Halone k) e14.k e14.b e14.g
  have Hmeet : ∀ k, FnOk P w K mg base CX0 (k + 5) f10 g10 ["prime", "ones", "others"] spMeet := fun k => ok_meet (k := k + 4) e10.F (Hsure (k + 1)) e13.k e13.b e13.g (Hmet k) e9.k e9.b e9.g
  have Hparted : FnOk P w K mg base CX0 (29) f17 g17 ["prime", "row"] (spParted 7) := parted_at e17 Hmet e9 Hfall e6 e16 T 7
  have Hparts : FnOk P w K mg base CX0 (30) f18 g18 ["prime", "row"] spParts := ok_parts (k := 29) e18.F (Hsure 26) e13.k e13.b e13.g Hparted e17.k e17.b e17.g (Hplain 26) e7.k e7.b e7.g
  have HXparts : FnOk P w K mg base (L2N.CX P w) (29) f18 g18 ["prime", "row"] (spPartsX C) := okX_parts (k := 28) e18.F (Hsure 25) e13.k e13.b e13.g N
  have Hcell : ∀ k, FnOk P w K mg base CX0 (k + 1) f19 g19 ["_law_script", "_law_k"] (spCell K) := fun k => ok_cell (k := k) e19.F T
  have Hwhole : ∀ k, FnOk P w K mg base CX0 (k + 1) f20 g20 ["_law_found"] spWhole := fun k => ok_whole (k := k) e20.F T
  have Hpby : ∀ k, FnOk P w K mg base CX0 (k + 1) f21 g21 ["_law_cell"] spPrimeBy := fun k => ok_prime_by (k := k) e21.F T
  have Hlc : ∀ k, FnOk P w K mg base CX0 (k + 1) f22 g22 ["_law_numbers"] spCut := fun k => ok_lcut (k := k) e22.F T
  have Hdrawn : ∀ k, FnOk P w K mg base CX0 (k + 2) f23 g23 ["_law_prime", "_law_cell", "_law_size"] spDrawn := fun k => ok_drawn (k := k + 1) e23.F (Hlc k) e22.k e22.b e22.g T
  have Hisrow : ∀ k, FnOk P w K mg base CX0 (k + 2) f24 g24 ["_law_prime", "_law_found"] spIsRow := fun k => ok_is_row (k := k + 1) e24.F (Hwhole k) e20.k e20.b e20.g T
  have Htimes : ∀ k, FnOk P w K mg base CX0 (k + 2) f25 g25 ["_law_prime", "_law_ones", "_law_others"] spTimes := fun k => ok_times (k := k + 1) e25.F (Hlc k) e22.k e22.b e22.g T
  have Hsum : ∀ k, FnOk P w K mg base CX0 (k + 2) f26 g26 ["_law_prime", "_law_ones", "_law_others"] spSum := fun k => ok_sum (k := k + 1) e26.F (Hlc k) e22.k e22.b e22.g T
  have Hslope : ∀ k, FnOk P w K mg base CX0 (k + 2) f27 g27 ["_law_prime", "_law_row"] spFalling := fun k => ok_slope (k := k + 1) e27.F (Hlc k) e22.k e22.b e22.g T
  have Hrowby : ∀ k, FnOk P w K mg base CX0 (k + 3) f28 g28 ["_law_script", "_law_prime"] (spRowBy K) := fun k => ok_row_by (k := k + 2) e28.F (Hlc (k + 1)) e22.k e22.b e22.g (Hcell (k + 1)) e19.k e19.b e19.g (Hdrawn k) e23.k e23.b e23.g (Htimes k) e25.k e25.b e25.g T
  have Hcomes : ∀ k, FnOk P w K mg base CX0 (k + 3) f29 g29 ["_law_prime", "_law_pair", "_law_ones", "_law_others"] spComes := fun k => ok_comes (k := k + 2) e29.F (Hisrow k) e24.k e24.b e24.g (Hsum k) e26.k e26.b e26.g (Htimes k) e25.k e25.b e25.g T
  have Htold : ∀ k, FnOk P w K mg base CX0 (k + 3) f30 g30 ["_law_prime", "_law_found"] spTold := fun k => ok_told (k := k + 2) e30.F (Hisrow k) e24.k e24.b e24.g (Hwhole (k + 1)) e20.k e20.b e20.g T
  have Hown : ∀ k, FnOk P w K mg base CX0 (k + 1) f33 g33 ["_law_rows"] spOwn := fun k => ok_own (k := k) e33.F T
  have Hapart : FnOk P w K mg base CX0 (30) f31 g31 ["_law_prime", "_law_rows"] spApart := ok_apart (k := 29) e31.F (Hcomes 26) e29.k e29.b e29.g (Hnosq 23) e15.k e15.b e15.g (Hslope 27) e27.k e27.b e27.g (Hmeet 24) e10.k e10.b e10.g T
  have Hnp : FnOk P w K mg base CX0 (30) f32 g32 ["_law_prime"] spNoParts := ok_no_parts (k := 29) e32.F N HXparts e18.k e18.b e18.g (HHnosq 25) e15.k e15.b e15.g
  exact ok_law (k := 30) FL (Hcell 29) e19.k e19.b e19.g (Hpby 29) e21.k e21.b e21.g (Hrowby 27) e28.k e28.b e28.g Hnp e32.k e32.b e32.g Hparts e18.k e18.b e18.g (Htold 27) e30.k e30.b e30.g (Htimes 28) e25.k e25.b e25.g Hapart e31.k e31.b e31.g (Hnosq 24) e15.k e15.b e15.g (Hcomes 27) e29.k e29.b e29.g (Hslope 28) e27.k e27.b e27.g (Hown 29) e33.k e33.b e33.g T
theorem df_mk {K : PySem.W.Frag} {h : Heap} {mg : Str → Option Value} (X : K.In h) (G : h.Ns mainGlobals mg) {x : Str} {st : Stmt} {ps : List Str} {f : Addr} {od an : Option Addr} {sl : Array (Option Value)} {oc kV dc pm cd ct : Value}
    (a : PySem.W.nsIn K mainGlobals x = some (some (.ref f))) (l : K.lookup f = some ⟨oc, od, .func (PySem.W.fnOf x x (defArgs st) (defBody st) (defScope st) .none kV dc pm an cd ct), sl⟩) (c : PySem.W.codeIn K cd x = true) (k : PySem.W.keepIn K (.ref f) = true)
    (hb : ∀ (kV doc pm : Value) (an : Option Addr) (cdv ct : Value) (us : List Value), us.length = ps.length → bindArgs (PySem.W.fnOf x x (defArgs st) (defBody st) (defScope st) .none kV doc pm an cdv ct) ⟨us, []⟩ = pure (ps.zip us)) : ∃ f fd, Df K mg x st ps f fd :=
  ⟨f, _, fun_mk (st := st) l c k, k, (fun_mk (st := st) l c k).binds hb, PySem.W.mg_of X G a⟩
theorem all_mk {l : PySem.W.OpenLaw} {w : World} {K : PySem.W.Frag} {h : Heap} {mg : Str → Option Value} {fa C f0 f1 f2 f3 f4 f5 f6 f7 f8 f9 f10 f11 f12 f13 f14 f15 f16 f17 f18 f19 f20 f21 f22 f23 f24 f25 f26 f27 f28 f29 f30 f31 f32 f33 f34 : Addr} {tk : Tok} (X : K.In h) (G : h.Ns mainGlobals mg) (hfa : mg "law" = some (.ref fa))
    {od0 od1 od2 od3 od4 od5 od6 od7 od8 od9 od10 od11 od12 od13 od14 od15 od16 od17 od18 od19 od20 od21 od22 od23 od24 od25 od26 od27 od28 od29 od30 od31 od32 od33 od34 an0 an1 an2 an3 an4 an5 an6 an7 an8 an9 an10 an11 an12 an13 an14 an15 an16 an17 an18 an19 an20 an21 an22 an23 an24 an25 an26 an27 an28 an29 an30 an31 an32 an33 an34 : Option Addr} {sl0 sl1 sl2 sl3 sl4 sl5 sl6 sl7 sl8 sl9 sl10 sl11 sl12 sl13 sl14 sl15 sl16 sl17 sl18 sl19 sl20 sl21 sl22 sl23 sl24 sl25 sl26 sl27 sl28 sl29 sl30 sl31 sl32 sl33 sl34 : Array (Option Value)} {oc0 oc1 oc2 oc3 oc4 oc5 oc6 oc7 oc8 oc9 oc10 oc11 oc12 oc13 oc14 oc15 oc16 oc17 oc18 oc19 oc20 oc21 oc22 oc23 oc24 oc25 oc26 oc27 oc28 oc29 oc30 oc31 oc32 oc33 oc34 kV0 kV1 kV2 kV3 kV4 kV5 kV6 kV7 kV8 kV9 kV10 kV11 kV12 kV13 kV14 kV15 kV16 kV17 kV18 kV19 kV20 kV21 kV22 kV23 kV24 kV25 kV26 kV27 kV28 kV29 kV30 kV31 kV32 kV33 kV34 dc0 dc1 dc2 dc3 dc4 dc5 dc6 dc7 dc8 dc9 dc10 dc11 dc12 dc13 dc14 dc15 dc16 dc17 dc18 dc19 dc20 dc21 dc22 dc23 dc24 dc25 dc26 dc27 dc28 dc29 dc30 dc31 dc32 dc33 dc34 pm0 pm1 pm2 pm3 pm4 pm5 pm6 pm7 pm8 pm9 pm10 pm11 pm12 pm13 pm14 pm15 pm16 pm17 pm18 pm19 pm20 pm21 pm22 pm23 pm24 pm25 pm26 pm27 pm28 pm29 pm30 pm31 pm32 pm33 pm34 cd0 cd1 cd2 cd3 cd4 cd5 cd6 cd7 cd8 cd9 cd10 cd11 cd12 cd13 cd14 cd15 cd16 cd17 cd18 cd19 cd20 cd21 cd22 cd23 cd24 cd25 cd26 cd27 cd28 cd29 cd30 cd31 cd32 cd33 cd34 ct0 ct1 ct2 ct3 ct4 ct5 ct6 ct7 ct8 ct9 ct10 ct11 ct12 ct13 ct14 ct15 ct16 ct17 ct18 ct19 ct20 ct21 ct22 ct23 ct24 ct25 ct26 ct27 ct28 ct29 ct30 ct31 ct32 ct33 ct34 : Value}
    (a0 : PySem.W.nsIn K mainGlobals "cut" = some (some (.ref f0))) (l0 : K.lookup f0 = some ⟨oc0, od0, .func (PySem.W.fnOf "cut" "cut" (defArgs sCut) (defBody sCut) (defScope sCut) .none kV0 dc0 pm0 an0 cd0 ct0), sl0⟩) (c0 : PySem.W.codeIn K cd0 "cut" = true) (k0 : PySem.W.keepIn K (.ref f0) = true)
    (a1 : PySem.W.nsIn K mainGlobals "shared" = some (some (.ref f1))) (l1 : K.lookup f1 = some ⟨oc1, od1, .func (PySem.W.fnOf "shared" "shared" (defArgs sShared) (defBody sShared) (defScope sShared) .none kV1 dc1 pm1 an1 cd1 ct1), sl1⟩) (c1 : PySem.W.codeIn K cd1 "shared" = true) (k1 : PySem.W.keepIn K (.ref f1) = true)
    (a2 : PySem.W.nsIn K mainGlobals "turned" = some (some (.ref f2))) (l2 : K.lookup f2 = some ⟨oc2, od2, .func (PySem.W.fnOf "turned" "turned" (defArgs sTurned) (defBody sTurned) (defScope sTurned) .none kV2 dc2 pm2 an2 cd2 ct2), sl2⟩) (c2 : PySem.W.codeIn K cd2 "turned" = true) (k2 : PySem.W.keepIn K (.ref f2) = true)
    (a3 : PySem.W.nsIn K mainGlobals "joined" = some (some (.ref f3))) (l3 : K.lookup f3 = some ⟨oc3, od3, .func (PySem.W.fnOf "joined" "joined" (defArgs sJoined) (defBody sJoined) (defScope sJoined) .none kV3 dc3 pm3 an3 cd3 ct3), sl3⟩) (c3 : PySem.W.codeIn K cd3 "joined" = true) (k3 : PySem.W.keepIn K (.ref f3) = true)
    (a4 : PySem.W.nsIn K mainGlobals "product" = some (some (.ref f4))) (l4 : K.lookup f4 = some ⟨oc4, od4, .func (PySem.W.fnOf "product" "product" (defArgs sProduct) (defBody sProduct) (defScope sProduct) .none kV4 dc4 pm4 an4 cd4 ct4), sl4⟩) (c4 : PySem.W.codeIn K cd4 "product" = true) (k4 : PySem.W.keepIn K (.ref f4) = true)
    (a5 : PySem.W.nsIn K mainGlobals "multiple" = some (some (.ref f5))) (l5 : K.lookup f5 = some ⟨oc5, od5, .func (PySem.W.fnOf "multiple" "multiple" (defArgs sMultiple) (defBody sMultiple) (defScope sMultiple) .none kV5 dc5 pm5 an5 cd5 ct5), sl5⟩) (c5 : PySem.W.codeIn K cd5 "multiple" = true) (k5 : PySem.W.keepIn K (.ref f5) = true)
    (a6 : PySem.W.nsIn K mainGlobals "falling" = some (some (.ref f6))) (l6 : K.lookup f6 = some ⟨oc6, od6, .func (PySem.W.fnOf "falling" "falling" (defArgs sFalling) (defBody sFalling) (defScope sFalling) .none kV6 dc6 pm6 an6 cd6 ct6), sl6⟩) (c6 : PySem.W.codeIn K cd6 "falling" = true) (k6 : PySem.W.keepIn K (.ref f6) = true)
    (a7 : PySem.W.nsIn K mainGlobals "plain" = some (some (.ref f7))) (l7 : K.lookup f7 = some ⟨oc7, od7, .func (PySem.W.fnOf "plain" "plain" (defArgs sPlain) (defBody sPlain) (defScope sPlain) .none kV7 dc7 pm7 an7 cd7 ct7), sl7⟩) (c7 : PySem.W.codeIn K cd7 "plain" = true) (k7 : PySem.W.keepIn K (.ref f7) = true)
    (a8 : PySem.W.nsIn K mainGlobals "taken_out" = some (some (.ref f8))) (l8 : K.lookup f8 = some ⟨oc8, od8, .func (PySem.W.fnOf "taken_out" "taken_out" (defArgs sTaken) (defBody sTaken) (defScope sTaken) .none kV8 dc8 pm8 an8 cd8 ct8), sl8⟩) (c8 : PySem.W.codeIn K cd8 "taken_out" = true) (k8 : PySem.W.keepIn K (.ref f8) = true)
    (a9 : PySem.W.nsIn K mainGlobals "met" = some (some (.ref f9))) (l9 : K.lookup f9 = some ⟨oc9, od9, .func (PySem.W.fnOf "met" "met" (defArgs sMet) (defBody sMet) (defScope sMet) .none kV9 dc9 pm9 an9 cd9 ct9), sl9⟩) (c9 : PySem.W.codeIn K cd9 "met" = true) (k9 : PySem.W.keepIn K (.ref f9) = true)
    (a10 : PySem.W.nsIn K mainGlobals "meet" = some (some (.ref f10))) (l10 : K.lookup f10 = some ⟨oc10, od10, .func (PySem.W.fnOf "meet" "meet" (defArgs sMeet) (defBody sMeet) (defScope sMeet) .none kV10 dc10 pm10 an10 cd10 ct10), sl10⟩) (c10 : PySem.W.codeIn K cd10 "meet" = true) (k10 : PySem.W.keepIn K (.ref f10) = true)
    (a11 : PySem.W.nsIn K mainGlobals "is_prime" = some (some (.ref f11))) (l11 : K.lookup f11 = some ⟨oc11, od11, .func (PySem.W.fnOf "is_prime" "is_prime" (defArgs sIsPrime) (defBody sIsPrime) (defScope sIsPrime) .none kV11 dc11 pm11 an11 cd11 ct11), sl11⟩) (c11 : PySem.W.codeIn K cd11 "is_prime" = true) (k11 : PySem.W.keepIn K (.ref f11) = true)
    (a12 : PySem.W.nsIn K mainGlobals "is_ring" = some (some (.ref f12))) (l12 : K.lookup f12 = some ⟨oc12, od12, .func (PySem.W.fnOf "is_ring" "is_ring" (defArgs sIsRing) (defBody sIsRing) (defScope sIsRing) .none kV12 dc12 pm12 an12 cd12 ct12), sl12⟩) (c12 : PySem.W.codeIn K cd12 "is_ring" = true) (k12 : PySem.W.keepIn K (.ref f12) = true)
    (a13 : PySem.W.nsIn K mainGlobals "sure_prime" = some (some (.ref f13))) (l13 : K.lookup f13 = some ⟨oc13, od13, .func (PySem.W.fnOf "sure_prime" "sure_prime" (defArgs sSure) (defBody sSure) (defScope sSure) .none kV13 dc13 pm13 an13 cd13 ct13), sl13⟩) (c13 : PySem.W.codeIn K cd13 "sure_prime" = true) (k13 : PySem.W.keepIn K (.ref f13) = true)
    (a14 : PySem.W.nsIn K mainGlobals "alone" = some (some (.ref f14))) (l14 : K.lookup f14 = some ⟨oc14, od14, .func (PySem.W.fnOf "alone" "alone" (defArgs sAlone) (defBody sAlone) (defScope sAlone) .none kV14 dc14 pm14 an14 cd14 ct14), sl14⟩) (c14 : PySem.W.codeIn K cd14 "alone" = true) (k14 : PySem.W.keepIn K (.ref f14) = true)
    (a15 : PySem.W.nsIn K mainGlobals "no_square" = some (some (.ref f15))) (l15 : K.lookup f15 = some ⟨oc15, od15, .func (PySem.W.fnOf "no_square" "no_square" (defArgs sNoSq) (defBody sNoSq) (defScope sNoSq) .none kV15 dc15 pm15 an15 cd15 ct15), sl15⟩) (c15 : PySem.W.codeIn K cd15 "no_square" = true) (k15 : PySem.W.keepIn K (.ref f15) = true)
    (a16 : PySem.W.nsIn K mainGlobals "by_often" = some (some (.ref f16))) (l16 : K.lookup f16 = some ⟨oc16, od16, .func (PySem.W.fnOf "by_often" "by_often" (defArgs sBy) (defBody sBy) (defScope sBy) .none kV16 dc16 pm16 an16 cd16 ct16), sl16⟩) (c16 : PySem.W.codeIn K cd16 "by_often" = true) (k16 : PySem.W.keepIn K (.ref f16) = true)
    (a17 : PySem.W.nsIn K mainGlobals "parted" = some (some (.ref f17))) (l17 : K.lookup f17 = some ⟨oc17, od17, .func (PySem.W.fnOf "parted" "parted" (defArgs sParted) (defBody sParted) (defScope sParted) .none kV17 dc17 pm17 an17 cd17 ct17), sl17⟩) (c17 : PySem.W.codeIn K cd17 "parted" = true) (k17 : PySem.W.keepIn K (.ref f17) = true)
    (a18 : PySem.W.nsIn K mainGlobals "parts" = some (some (.ref f18))) (l18 : K.lookup f18 = some ⟨oc18, od18, .func (PySem.W.fnOf "parts" "parts" (defArgs sParts) (defBody sParts) (defScope sParts) .none kV18 dc18 pm18 an18 cd18 ct18), sl18⟩) (c18 : PySem.W.codeIn K cd18 "parts" = true) (k18 : PySem.W.keepIn K (.ref f18) = true)
    (a19 : PySem.W.nsIn K mainGlobals "_law_cell_at" = some (some (.ref f19))) (l19 : K.lookup f19 = some ⟨oc19, od19, .func (PySem.W.fnOf "_law_cell_at" "_law_cell_at" (defArgs sCell) (defBody sCell) (defScope sCell) .none kV19 dc19 pm19 an19 cd19 ct19), sl19⟩) (c19 : PySem.W.codeIn K cd19 "_law_cell_at" = true) (k19 : PySem.W.keepIn K (.ref f19) = true)
    (a20 : PySem.W.nsIn K mainGlobals "_law_whole" = some (some (.ref f20))) (l20 : K.lookup f20 = some ⟨oc20, od20, .func (PySem.W.fnOf "_law_whole" "_law_whole" (defArgs sWhole) (defBody sWhole) (defScope sWhole) .none kV20 dc20 pm20 an20 cd20 ct20), sl20⟩) (c20 : PySem.W.codeIn K cd20 "_law_whole" = true) (k20 : PySem.W.keepIn K (.ref f20) = true)
    (a21 : PySem.W.nsIn K mainGlobals "_law_prime_by" = some (some (.ref f21))) (l21 : K.lookup f21 = some ⟨oc21, od21, .func (PySem.W.fnOf "_law_prime_by" "_law_prime_by" (defArgs sPrimeBy) (defBody sPrimeBy) (defScope sPrimeBy) .none kV21 dc21 pm21 an21 cd21 ct21), sl21⟩) (c21 : PySem.W.codeIn K cd21 "_law_prime_by" = true) (k21 : PySem.W.keepIn K (.ref f21) = true)
    (a22 : PySem.W.nsIn K mainGlobals "_law_cut" = some (some (.ref f22))) (l22 : K.lookup f22 = some ⟨oc22, od22, .func (PySem.W.fnOf "_law_cut" "_law_cut" (defArgs sLCut) (defBody sLCut) (defScope sLCut) .none kV22 dc22 pm22 an22 cd22 ct22), sl22⟩) (c22 : PySem.W.codeIn K cd22 "_law_cut" = true) (k22 : PySem.W.keepIn K (.ref f22) = true)
    (a23 : PySem.W.nsIn K mainGlobals "_law_drawn" = some (some (.ref f23))) (l23 : K.lookup f23 = some ⟨oc23, od23, .func (PySem.W.fnOf "_law_drawn" "_law_drawn" (defArgs sDrawn) (defBody sDrawn) (defScope sDrawn) .none kV23 dc23 pm23 an23 cd23 ct23), sl23⟩) (c23 : PySem.W.codeIn K cd23 "_law_drawn" = true) (k23 : PySem.W.keepIn K (.ref f23) = true)
    (a24 : PySem.W.nsIn K mainGlobals "_law_is_row" = some (some (.ref f24))) (l24 : K.lookup f24 = some ⟨oc24, od24, .func (PySem.W.fnOf "_law_is_row" "_law_is_row" (defArgs sIsRow) (defBody sIsRow) (defScope sIsRow) .none kV24 dc24 pm24 an24 cd24 ct24), sl24⟩) (c24 : PySem.W.codeIn K cd24 "_law_is_row" = true) (k24 : PySem.W.keepIn K (.ref f24) = true)
    (a25 : PySem.W.nsIn K mainGlobals "_law_times" = some (some (.ref f25))) (l25 : K.lookup f25 = some ⟨oc25, od25, .func (PySem.W.fnOf "_law_times" "_law_times" (defArgs sTimes) (defBody sTimes) (defScope sTimes) .none kV25 dc25 pm25 an25 cd25 ct25), sl25⟩) (c25 : PySem.W.codeIn K cd25 "_law_times" = true) (k25 : PySem.W.keepIn K (.ref f25) = true)
    (a26 : PySem.W.nsIn K mainGlobals "_law_sum" = some (some (.ref f26))) (l26 : K.lookup f26 = some ⟨oc26, od26, .func (PySem.W.fnOf "_law_sum" "_law_sum" (defArgs sSum) (defBody sSum) (defScope sSum) .none kV26 dc26 pm26 an26 cd26 ct26), sl26⟩) (c26 : PySem.W.codeIn K cd26 "_law_sum" = true) (k26 : PySem.W.keepIn K (.ref f26) = true)
    (a27 : PySem.W.nsIn K mainGlobals "_law_slope" = some (some (.ref f27))) (l27 : K.lookup f27 = some ⟨oc27, od27, .func (PySem.W.fnOf "_law_slope" "_law_slope" (defArgs sSlope) (defBody sSlope) (defScope sSlope) .none kV27 dc27 pm27 an27 cd27 ct27), sl27⟩) (c27 : PySem.W.codeIn K cd27 "_law_slope" = true) (k27 : PySem.W.keepIn K (.ref f27) = true)
    (a28 : PySem.W.nsIn K mainGlobals "_law_row_by" = some (some (.ref f28))) (l28 : K.lookup f28 = some ⟨oc28, od28, .func (PySem.W.fnOf "_law_row_by" "_law_row_by" (defArgs sRowBy) (defBody sRowBy) (defScope sRowBy) .none kV28 dc28 pm28 an28 cd28 ct28), sl28⟩) (c28 : PySem.W.codeIn K cd28 "_law_row_by" = true) (k28 : PySem.W.keepIn K (.ref f28) = true)
    (a29 : PySem.W.nsIn K mainGlobals "_law_comes_to_one" = some (some (.ref f29))) (l29 : K.lookup f29 = some ⟨oc29, od29, .func (PySem.W.fnOf "_law_comes_to_one" "_law_comes_to_one" (defArgs sComes) (defBody sComes) (defScope sComes) .none kV29 dc29 pm29 an29 cd29 ct29), sl29⟩) (c29 : PySem.W.codeIn K cd29 "_law_comes_to_one" = true) (k29 : PySem.W.keepIn K (.ref f29) = true)
    (a30 : PySem.W.nsIn K mainGlobals "_law_is_told" = some (some (.ref f30))) (l30 : K.lookup f30 = some ⟨oc30, od30, .func (PySem.W.fnOf "_law_is_told" "_law_is_told" (defArgs sTold) (defBody sTold) (defScope sTold) .none kV30 dc30 pm30 an30 cd30 ct30), sl30⟩) (c30 : PySem.W.codeIn K cd30 "_law_is_told" = true) (k30 : PySem.W.keepIn K (.ref f30) = true)
    (a31 : PySem.W.nsIn K mainGlobals "_law_apart" = some (some (.ref f31))) (l31 : K.lookup f31 = some ⟨oc31, od31, .func (PySem.W.fnOf "_law_apart" "_law_apart" (defArgs sApart) (defBody sApart) (defScope sApart) .none kV31 dc31 pm31 an31 cd31 ct31), sl31⟩) (c31 : PySem.W.codeIn K cd31 "_law_apart" = true) (k31 : PySem.W.keepIn K (.ref f31) = true)
    (a32 : PySem.W.nsIn K mainGlobals "_law_no_parts" = some (some (.ref f32))) (l32 : K.lookup f32 = some ⟨oc32, od32, .func (PySem.W.fnOf "_law_no_parts" "_law_no_parts" (defArgs sNoParts) (defBody sNoParts) (defScope sNoParts) .none kV32 dc32 pm32 an32 cd32 ct32), sl32⟩) (c32 : PySem.W.codeIn K cd32 "_law_no_parts" = true) (k32 : PySem.W.keepIn K (.ref f32) = true)
    (a33 : PySem.W.nsIn K mainGlobals "_law_own" = some (some (.ref f33))) (l33 : K.lookup f33 = some ⟨oc33, od33, .func (PySem.W.fnOf "_law_own" "_law_own" (defArgs sOwn) (defBody sOwn) (defScope sOwn) .none kV33 dc33 pm33 an33 cd33 ct33), sl33⟩) (c33 : PySem.W.codeIn K cd33 "_law_own" = true) (k33 : PySem.W.keepIn K (.ref f33) = true)
    (a34 : PySem.W.nsIn K mainGlobals "law" = some (some (.ref f34))) (l34 : K.lookup f34 = some ⟨oc34, od34, .func (PySem.W.fnOf "law" "law" (defArgs sLaw) (defBody sLaw) (defScope sLaw) .none kV34 dc34 pm34 an34 cd34 ct34), sl34⟩) (c34 : PySem.W.codeIn K cd34 "law" = true) (k34 : PySem.W.keepIn K (.ref f34) = true)
    (z0 : PySem.W.nsIn K mainGlobals "len" = some none)
    (z1 : PySem.W.nsIn K mainGlobals "list" = some none)
    (z2 : PySem.W.nsIn K mainGlobals "range" = some none)
    (z3 : PySem.W.nsIn K mainGlobals "max" = some none)
    (z4 : PySem.W.nsIn K mainGlobals "abs" = some none)
    (z5 : PySem.W.nsIn K mainGlobals "sorted" = some none)
    (z6 : PySem.W.nsIn K mainGlobals "zip" = some none)
    (z7 : PySem.W.nsIn K mainGlobals "isinstance" = some none)
    (z8 : PySem.W.nsIn K mainGlobals "int" = some none)
    (z9 : PySem.W.nsIn K mainGlobals "bool" = some none)
    (z10 : PySem.W.nsIn K mainGlobals "tuple" = some none)
    (gp : PySem.W.nsIn K mainGlobals "GREATEST_PRIME" = some (some (.int 997 tk)))
    (n0 : PySem.W.nsIn K mainGlobals "NoParts" = some (some (.ref C))) (n1 : PySem.W.excIn K C [.type "ValueError", .type "Exception", .type "BaseException", .type "object"] "ValueError.__new__" = true) (n2 : PySem.W.keepIn K (.ref C) = true) (n3 : PySem.W.subIn K (.ref C) (.type "BaseException") = some true)
    (n4 : PySem.W.typeIn K (.ref C) = some (.type "type")) (n5 : PySem.W.isClsIn K C = true) (n6 : PySem.W.subIn K (.ref C) (.ref C) = some true) :
    ∃ fd : FuncData, (∀ (s : Shared) (v : Value), BindsTo s fd ⟨[v], []⟩ [("_law_script", v)]) ∧ ∀ base : Heap, K.In base → base.Ns mainGlobals mg → FnOk l.prog w K mg base CX0 31 fa fd ["_law_script"] (spLaw K) := by
  have e := hfa.symm.trans (PySem.W.mg_of X G a34)
  cases e
  have T : Bt mg := ⟨PySem.W.mg_none_of X G z0, PySem.W.mg_none_of X G z1, PySem.W.mg_none_of X G z2, PySem.W.mg_none_of X G z3, PySem.W.mg_none_of X G z4, PySem.W.mg_none_of X G z5, PySem.W.mg_none_of X G z6, PySem.W.mg_none_of X G z7, PySem.W.mg_none_of X G z8, PySem.W.mg_none_of X G z9, PySem.W.mg_none_of X G z10⟩
  have N : NP K mg C := ⟨PySem.W.mg_of X G n0, n1, n2, n3, n4, n5, n6⟩
  have D0 : ∃ f fd, Df K mg "cut" sCut ["numbers"] f fd := df_mk X G a0 l0 c0 k0 fun _ _ _ _ _ _ us hl => match us, hl with | [_], _ => rfl
  have D1 : ∃ f fd, Df K mg "shared" sShared ["one", "other"] f fd := df_mk X G a1 l1 c1 k1 fun _ _ _ _ _ _ us hl => match us, hl with | [_, _], _ => rfl
  have D2 : ∃ f fd, Df K mg "turned" sTurned ["prime", "number"] f fd := df_mk X G a2 l2 c2 k2 fun _ _ _ _ _ _ us hl => match us, hl with | [_, _], _ => rfl
  have D3 : ∃ f fd, Df K mg "joined" sJoined ["prime", "ones", "others", "number"] f fd := df_mk X G a3 l3 c3 k3 fun _ _ _ _ _ _ us hl => match us, hl with | [_, _, _, _], _ => rfl
  have D4 : ∃ f fd, Df K mg "product" sProduct ["prime", "ones", "others"] f fd := df_mk X G a4 l4 c4 k4 fun _ _ _ _ _ _ us hl => match us, hl with | [_, _, _], _ => rfl
  have D5 : ∃ f fd, Df K mg "multiple" sMultiple ["prime", "row", "number"] f fd := df_mk X G a5 l5 c5 k5 fun _ _ _ _ _ _ us hl => match us, hl with | [_, _, _], _ => rfl
  have D6 : ∃ f fd, Df K mg "falling" sFalling ["prime", "row"] f fd := df_mk X G a6 l6 c6 k6 fun _ _ _ _ _ _ us hl => match us, hl with | [_, _], _ => rfl
  have D7 : ∃ f fd, Df K mg "plain" sPlain ["prime", "row"] f fd := df_mk X G a7 l7 c7 k7 fun _ _ _ _ _ _ us hl => match us, hl with | [_, _], _ => rfl
  have D8 : ∃ f fd, Df K mg "taken_out" sTaken ["prime", "row", "by"] f fd := df_mk X G a8 l8 c8 k8 fun _ _ _ _ _ _ us hl => match us, hl with | [_, _, _], _ => rfl
  have D9 : ∃ f fd, Df K mg "met" sMet ["prime", "ones", "others"] f fd := df_mk X G a9 l9 c9 k9 fun _ _ _ _ _ _ us hl => match us, hl with | [_, _, _], _ => rfl
  have D10 : ∃ f fd, Df K mg "meet" sMeet ["prime", "ones", "others"] f fd := df_mk X G a10 l10 c10 k10 fun _ _ _ _ _ _ us hl => match us, hl with | [_, _, _], _ => rfl
  have D11 : ∃ f fd, Df K mg "is_prime" sIsPrime ["thing"] f fd := df_mk X G a11 l11 c11 k11 fun _ _ _ _ _ _ us hl => match us, hl with | [_], _ => rfl
  have D12 : ∃ f fd, Df K mg "is_ring" sIsRing ["thing"] f fd := df_mk X G a12 l12 c12 k12 fun _ _ _ _ _ _ us hl => match us, hl with | [_], _ => rfl
  have D13 : ∃ f fd, Df K mg "sure_prime" sSure ["prime"] f fd := df_mk X G a13 l13 c13 k13 fun _ _ _ _ _ _ us hl => match us, hl with | [_], _ => rfl
  have D14 : ∃ f fd, Df K mg "alone" sAlone ["prime", "row"] f fd := df_mk X G a14 l14 c14 k14 fun _ _ _ _ _ _ us hl => match us, hl with | [_, _], _ => rfl
  have D15 : ∃ f fd, Df K mg "no_square" sNoSq ["prime", "row"] f fd := df_mk X G a15 l15 c15 k15 fun _ _ _ _ _ _ us hl => match us, hl with | [_, _], _ => rfl
  have D16 : ∃ f fd, Df K mg "by_often" sBy ["pair"] f fd := df_mk X G a16 l16 c16 k16 fun _ _ _ _ _ _ us hl => match us, hl with | [_], _ => rfl
  have D17 : ∃ f fd, Df K mg "parted" sParted ["prime", "row"] f fd := df_mk X G a17 l17 c17 k17 fun _ _ _ _ _ _ us hl => match us, hl with | [_, _], _ => rfl
  have D18 : ∃ f fd, Df K mg "parts" sParts ["prime", "row"] f fd := df_mk X G a18 l18 c18 k18 fun _ _ _ _ _ _ us hl => match us, hl with | [_, _], _ => rfl
  have D19 : ∃ f fd, Df K mg "_law_cell_at" sCell ["_law_script", "_law_k"] f fd := df_mk X G a19 l19 c19 k19 fun _ _ _ _ _ _ us hl => match us, hl with | [_, _], _ => rfl
  have D20 : ∃ f fd, Df K mg "_law_whole" sWhole ["_law_found"] f fd := df_mk X G a20 l20 c20 k20 fun _ _ _ _ _ _ us hl => match us, hl with | [_], _ => rfl
  have D21 : ∃ f fd, Df K mg "_law_prime_by" sPrimeBy ["_law_cell"] f fd := df_mk X G a21 l21 c21 k21 fun _ _ _ _ _ _ us hl => match us, hl with | [_], _ => rfl
  have D22 : ∃ f fd, Df K mg "_law_cut" sLCut ["_law_numbers"] f fd := df_mk X G a22 l22 c22 k22 fun _ _ _ _ _ _ us hl => match us, hl with | [_], _ => rfl
  have D23 : ∃ f fd, Df K mg "_law_drawn" sDrawn ["_law_prime", "_law_cell", "_law_size"] f fd := df_mk X G a23 l23 c23 k23 fun _ _ _ _ _ _ us hl => match us, hl with | [_, _, _], _ => rfl
  have D24 : ∃ f fd, Df K mg "_law_is_row" sIsRow ["_law_prime", "_law_found"] f fd := df_mk X G a24 l24 c24 k24 fun _ _ _ _ _ _ us hl => match us, hl with | [_, _], _ => rfl
  have D25 : ∃ f fd, Df K mg "_law_times" sTimes ["_law_prime", "_law_ones", "_law_others"] f fd := df_mk X G a25 l25 c25 k25 fun _ _ _ _ _ _ us hl => match us, hl with | [_, _, _], _ => rfl
  have D26 : ∃ f fd, Df K mg "_law_sum" sSum ["_law_prime", "_law_ones", "_law_others"] f fd := df_mk X G a26 l26 c26 k26 fun _ _ _ _ _ _ us hl => match us, hl with | [_, _, _], _ => rfl
  have D27 : ∃ f fd, Df K mg "_law_slope" sSlope ["_law_prime", "_law_row"] f fd := df_mk X G a27 l27 c27 k27 fun _ _ _ _ _ _ us hl => match us, hl with | [_, _], _ => rfl
  have D28 : ∃ f fd, Df K mg "_law_row_by" sRowBy ["_law_script", "_law_prime"] f fd := df_mk X G a28 l28 c28 k28 fun _ _ _ _ _ _ us hl => match us, hl with | [_, _], _ => rfl
  have D29 : ∃ f fd, Df K mg "_law_comes_to_one" sComes ["_law_prime", "_law_pair", "_law_ones", "_law_others"] f fd := df_mk X G a29 l29 c29 k29 fun _ _ _ _ _ _ us hl => match us, hl with | [_, _, _, _], _ => rfl
  have D30 : ∃ f fd, Df K mg "_law_is_told" sTold ["_law_prime", "_law_found"] f fd := df_mk X G a30 l30 c30 k30 fun _ _ _ _ _ _ us hl => match us, hl with | [_, _], _ => rfl
  have D31 : ∃ f fd, Df K mg "_law_apart" sApart ["_law_prime", "_law_rows"] f fd := df_mk X G a31 l31 c31 k31 fun _ _ _ _ _ _ us hl => match us, hl with | [_, _], _ => rfl
  have D32 : ∃ f fd, Df K mg "_law_no_parts" sNoParts ["_law_prime"] f fd := df_mk X G a32 l32 c32 k32 fun _ _ _ _ _ _ us hl => match us, hl with | [_], _ => rfl
  have D33 : ∃ f fd, Df K mg "_law_own" sOwn ["_law_rows"] f fd := df_mk X G a33 l33 c33 k33 fun _ _ _ _ _ _ us hl => match us, hl with | [_], _ => rfl
  have A : Defs K mg C tk := ⟨T, N, PySem.W.mg_of X G gp, D0, D1, D2, D3, D4, D5, D6, D7, D8, D9, D10, D11, D12, D13, D14, D15, D16, D17, D18, D19, D20, D21, D22, D23, D24, D25, D26, D27, D28, D29, D30, D31, D32, D33⟩
  exact ⟨PySem.W.fnOf "law" "law" (defArgs sLaw) (defBody sLaw) (defScope sLaw) .none kV34 dc34 pm34 an34 cd34 ct34, fun s v => .of_eq rfl, fun base _ _ => law_ok A (fun_mk (st := sLaw) l34 c34 k34)⟩
end
end Kp
-- W18
set_option Elab.async false
set_option linter.all false
set_option maxRecDepth 100000
open PySem PySem.W PyProof.Rows
set_option maxHeartbeats 0 in
theorem PySem.Challenge.cw_polyring_k18_whole_parts_holds : PySem.Challenge.rw_polyring_k18_whole_parts.Holds := by
  w_on; o_law; k_head; (case hw => w_witness2)
  k_fill
  refine L2.walk_of (l := PySem.Challenge.rw_polyring_k18_whole_parts) (n := 63) (k := 31) (x := "_law_script") (CX := fun _ => L2.CX0) (sp := fun w => Kp.spLaw _) rfl (by decide) rfl ⟨rfl, by decide, by decide⟩ (fun w h Y => PySem.W.kIn_of Y) ?F (fun _ _ a ns hl _ hS => ⟨a, ns, rfl, hS, fun _ => rfl⟩) (fun _ _ _ _ _ h => h)
  case F =>
    intro w mg fa h KX G hmg
    refine' Kp.all_mk KX G hmg ?a0 ?l0 ?c0 ?k0 ?a1 ?l1 ?c1 ?k1 ?a2 ?l2 ?c2 ?k2 ?a3 ?l3 ?c3 ?k3 ?a4 ?l4 ?c4 ?k4 ?a5 ?l5 ?c5 ?k5 ?a6 ?l6 ?c6 ?k6 ?a7 ?l7 ?c7 ?k7 ?a8 ?l8 ?c8 ?k8 ?a9 ?l9 ?c9 ?k9 ?a10 ?l10 ?c10 ?k10 ?a11 ?l11 ?c11 ?k11 ?a12 ?l12 ?c12 ?k12 ?a13 ?l13 ?c13 ?k13 ?a14 ?l14 ?c14 ?k14 ?a15 ?l15 ?c15 ?k15 ?a16 ?l16 ?c16 ?k16 ?a17 ?l17 ?c17 ?k17 ?a18 ?l18 ?c18 ?k18 ?a19 ?l19 ?c19 ?k19 ?a20 ?l20 ?c20 ?k20 ?a21 ?l21 ?c21 ?k21 ?a22 ?l22 ?c22 ?k22 ?a23 ?l23 ?c23 ?k23 ?a24 ?l24 ?c24 ?k24 ?a25 ?l25 ?c25 ?k25 ?a26 ?l26 ?c26 ?k26 ?a27 ?l27 ?c27 ?k27 ?a28 ?l28 ?c28 ?k28 ?a29 ?l29 ?c29 ?k29 ?a30 ?l30 ?c30 ?k30 ?a31 ?l31 ?c31 ?k31 ?a32 ?l32 ?c32 ?k32 ?a33 ?l33 ?c33 ?k33 ?a34 ?l34 ?c34 ?k34 ?z0 ?z1 ?z2 ?z3 ?z4 ?z5 ?z6 ?z7 ?z8 ?z9 ?z10 ?gp ?n0 ?n1 ?n2 ?n3 ?n4 ?n5 ?n6
    (case a0 => k_is)
    (case l0 => k_is)
    (case c0 => k_is)
    (case k0 => k_is)
    (case a1 => k_is)
    (case l1 => k_is)
    (case c1 => k_is)
    (case k1 => k_is)
    (case a2 => k_is)
    (case l2 => k_is)
    (case c2 => k_is)
    (case k2 => k_is)
    (case a3 => k_is)
    (case l3 => k_is)
    (case c3 => k_is)
    (case k3 => k_is)
    (case a4 => k_is)
    (case l4 => k_is)
    (case c4 => k_is)
    (case k4 => k_is)
    (case a5 => k_is)
    (case l5 => k_is)
    (case c5 => k_is)
    (case k5 => k_is)
    (case a6 => k_is)
    (case l6 => k_is)
    (case c6 => k_is)
    (case k6 => k_is)
    (case a7 => k_is)
    (case l7 => k_is)
    (case c7 => k_is)
    (case k7 => k_is)
    (case a8 => k_is)
    (case l8 => k_is)
    (case c8 => k_is)
    (case k8 => k_is)
    (case a9 => k_is)
    (case l9 => k_is)
    (case c9 => k_is)
    (case k9 => k_is)
    (case a10 => k_is)
    (case l10 => k_is)
    (case c10 => k_is)
    (case k10 => k_is)
    (case a11 => k_is)
    (case l11 => k_is)
    (case c11 => k_is)
    (case k11 => k_is)
    (case a12 => k_is)
    (case l12 => k_is)
    (case c12 => k_is)
    (case k12 => k_is)
    (case a13 => k_is)
    (case l13 => k_is)
    (case c13 => k_is)
    (case k13 => k_is)
    (case a14 => k_is)
    (case l14 => k_is)
    (case c14 => k_is)
    (case k14 => k_is)
    (case a15 => k_is)
    (case l15 => k_is)
    (case c15 => k_is)
    (case k15 => k_is)
    (case a16 => k_is)
    (case l16 => k_is)
    (case c16 => k_is)
    (case k16 => k_is)
    (case a17 => k_is)
    (case l17 => k_is)
    (case c17 => k_is)
    (case k17 => k_is)
    (case a18 => k_is)
    (case l18 => k_is)
    (case c18 => k_is)
    (case k18 => k_is)
    (case a19 => k_is)
    (case l19 => k_is)
    (case c19 => k_is)
    (case k19 => k_is)
    (case a20 => k_is)
    (case l20 => k_is)
    (case c20 => k_is)
    (case k20 => k_is)
    (case a21 => k_is)
    (case l21 => k_is)
    (case c21 => k_is)
    (case k21 => k_is)
    (case a22 => k_is)
    (case l22 => k_is)
    (case c22 => k_is)
    (case k22 => k_is)
    (case a23 => k_is)
    (case l23 => k_is)
    (case c23 => k_is)
    (case k23 => k_is)
    (case a24 => k_is)
    (case l24 => k_is)
    (case c24 => k_is)
    (case k24 => k_is)
    (case a25 => k_is)
    (case l25 => k_is)
    (case c25 => k_is)
    (case k25 => k_is)
    (case a26 => k_is)
    (case l26 => k_is)
    (case c26 => k_is)
    (case k26 => k_is)
    (case a27 => k_is)
    (case l27 => k_is)
    (case c27 => k_is)
    (case k27 => k_is)
    (case a28 => k_is)
    (case l28 => k_is)
    (case c28 => k_is)
    (case k28 => k_is)
    (case a29 => k_is)
    (case l29 => k_is)
    (case c29 => k_is)
    (case k29 => k_is)
    (case a30 => k_is)
    (case l30 => k_is)
    (case c30 => k_is)
    (case k30 => k_is)
    (case a31 => k_is)
    (case l31 => k_is)
    (case c31 => k_is)
    (case k31 => k_is)
    (case a32 => k_is)
    (case l32 => k_is)
    (case c32 => k_is)
    (case k32 => k_is)
    (case a33 => k_is)
    (case l33 => k_is)
    (case c33 => k_is)
    (case k33 => k_is)
    (case a34 => k_is)
    (case l34 => k_is)
    (case c34 => k_is)
    (case k34 => k_is)
    (case z0 => k_is)
    (case z1 => k_is)
    (case z2 => k_is)
    (case z3 => k_is)
    (case z4 => k_is)
    (case z5 => k_is)
    (case z6 => k_is)
    (case z7 => k_is)
    (case z8 => k_is)
    (case z9 => k_is)
    (case z10 => k_is)
    (case gp => k_is)
    (case n0 => k_is)
    (case n1 => k_exc)
    (case n2 => k_is)
    (case n3 => k_is)
    (case n4 => k_is)
    (case n5 => k_is)
    (case n6 => first | rfl | k_is)
