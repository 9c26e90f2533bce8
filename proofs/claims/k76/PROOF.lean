import PyProof.Rows.All
import Wide.All
import OpenK.AllK
import Wide.FinOn
import PySem.Challenge.RW_nearadds_k76_whole_least_ahead_at_great
import HandS.ForMost
import HandS.Codes
import HandS.IsInst
import HandS.Evl
import HandS.Style
import HandS.Wide
import HandS.WideBits
import HandS.TupMul
import HandS.RaiseMore
import HandS.Defaults
import HandS.Zip
set_option Elab.async false
set_option linter.all false
set_option maxRecDepth 100000
set_option maxHeartbeats 4000000
/-! K76, part M1: polynomials as operators upon two-sided sequences; the ring, degrees. -/
namespace K76
open Lean.Grind
set_option autoImplicit false
section
variable {F : Type} [CommRing F]

def act : List F → (Int → F) → (Int → F)
  | [], _ => fun _ => 0
  | a :: l, s => fun i => a * s i + act l s (i - 1)
theorem act_nil (s : Int → F) (i : Int) : act [] s i = 0 := rfl
theorem act_cons (a : F) (l : List F) (s : Int → F) (i : Int) : act (a :: l) s i = a * s i + act l s (i - 1) := rfl
theorem act_add (l : List F) (s t : Int → F) : ∀ i, act l (fun j => s j + t j) i = act l s i + act l t i := by
  induction l with
  | nil => intro i; show (0 : F) = 0 + 0; grind
  | cons a l ih => intro i; rw [act_cons, act_cons, act_cons, ih]; grind
theorem act_smul (l : List F) (c : F) (s : Int → F) : ∀ i, act l (fun j => c * s j) i = c * act l s i := by
  induction l with
  | nil => intro i; show (0 : F) = c * 0; grind
  | cons a l ih => intro i; rw [act_cons, act_cons, ih]; grind
theorem act_zero (l : List F) : ∀ i, act l (fun _ => 0) i = 0 := by
  induction l with
  | nil => intro i; rfl
  | cons a l ih => intro i; rw [act_cons, ih]; grind
theorem act_shift (l : List F) (s : Int → F) (d : Int) : ∀ i, act l (fun j => s (j + d)) i = act l s (i + d) := by
  induction l with
  | nil => intro i; rfl
  | cons a l ih => intro i; rw [act_cons, act_cons, ih, show i - 1 + d = i + d - 1 by omega]
theorem act_comm (l m : List F) (s : Int → F) : ∀ i, act l (act m s) i = act m (act l s) i := by
  induction l with
  | nil => intro i; rw [act_nil]; exact (act_zero m i).symm
  | cons a l ih =>
    intro i
    rw [act_cons, ih]
    have e : act (a :: l) s = fun j => (fun j => a * s j) j + (fun j => act l s (j + (-1))) j := by
      funext j; rfl
    rw [e, act_add, act_smul, act_shift]
    rfl
def addL : List F → List F → List F
  | [], m => m
  | a :: l, [] => a :: l
  | a :: l, b :: m => (a + b) :: addL l m
def smulL (c : F) (l : List F) : List F := l.map (fun x => c * x)
def mulL : List F → List F → List F
  | [], _ => []
  | a :: l, m => addL (smulL a m) (0 :: mulL l m)
theorem act_addL : ∀ (l m : List F) (s : Int → F) (i : Int), act (addL l m) s i = act l s i + act m s i
  | [], m, s, i => by show act m s i = 0 + act m s i; grind
  | a :: l, [], s, i => by show act (a :: l) s i = act (a :: l) s i + 0; grind
  | a :: l, b :: m, s, i => by
    show (a + b) * s i + act (addL l m) s (i - 1) = _
    rw [act_addL l m, act_cons, act_cons]
    grind
theorem act_smulL (c : F) : ∀ (l : List F) (s : Int → F) (i : Int), act (smulL c l) s i = c * act l s i
  | [], s, i => by show (0 : F) = c * 0; grind
  | a :: l, s, i => by
    show c * a * s i + act (smulL c l) s (i - 1) = _
    rw [act_smulL c l, act_cons]
    grind
theorem act_mulL : ∀ (l m : List F) (s : Int → F) (i : Int), act (mulL l m) s i = act l (act m s) i
  | [], m, s, i => rfl
  | a :: l, m, s, i => by
    show act (addL (smulL a m) (0 :: mulL l m)) s i = _
    rw [act_addL, act_smulL, act_cons, act_cons, act_mulL l m]
    grind
theorem addL_len : ∀ (l m : List F), (addL l m).length = max l.length m.length
  | [], m => by show m.length = max 0 m.length; omega
  | a :: l, [] => by show (a :: l).length = max (a :: l).length 0; omega
  | a :: l, b :: m => by
    show (addL l m).length + 1 = max (l.length + 1) (m.length + 1)
    rw [addL_len l m]; omega
theorem mulL_len : ∀ (l m : List F), (mulL l m).length ≤ l.length + m.length
  | [], m => Nat.zero_le _
  | a :: l, m => by
    show (addL (smulL a m) (0 :: mulL l m)).length ≤ l.length + 1 + m.length
    rw [addL_len]
    have h1 : (smulL a m).length = m.length := List.length_map _
    have h2 := mulL_len l m
    have h3 : (0 :: mulL l m).length = (mulL l m).length + 1 := rfl
    omega

end
/-- polynomials -/
def Poly (F : Type) [CommRing F] : Type := {T : (Int → F) → (Int → F) // ∃ l, T = act l}
section
variable {F : Type} [CommRing F]
/-- what the polynomial makes of a sequence -/
def ap (a : Poly F) (s : Int → F) : Int → F := a.1 s
theorem Poly.ext {a b : Poly F} (h : ∀ s i, ap a s i = ap b s i) : a = b :=
  Subtype.ext (funext fun s => funext fun i => h s i)
def ofL (l : List F) : Poly F := ⟨act l, l, rfl⟩
theorem ap_ofL (l : List F) (s : Int → F) (i : Int) : ap (ofL l) s i = act l s i := rfl
theorem Poly.isL (a : Poly F) : ∃ l, a = ofL l := by
  obtain ⟨T, l, rfl⟩ := a
  exact ⟨l, rfl⟩
def Cp (a : F) : Poly F := ⟨fun s i => a * s i, [a], by
  funext s i; show a * s i = a * s i + 0; grind⟩
def addP (a b : Poly F) : Poly F := ⟨fun s i => ap a s i + ap b s i, by
  obtain ⟨l, rfl⟩ := a.isL
  obtain ⟨m, rfl⟩ := b.isL
  exact ⟨addL l m, funext fun s => funext fun i => (act_addL l m s i).symm⟩⟩
def mulP (a b : Poly F) : Poly F := ⟨fun s => ap a (ap b s), by
  obtain ⟨l, rfl⟩ := a.isL
  obtain ⟨m, rfl⟩ := b.isL
  exact ⟨mulL l m, funext fun s => funext fun i => (act_mulL l m s i).symm⟩⟩
def negP (a : Poly F) : Poly F := mulP (Cp (-1)) a
def powP (a : Poly F) : Nat → Poly F
  | 0 => Cp (OfNat.ofNat 1)
  | n + 1 => mulP (powP a n) a
theorem ap_C (a : F) (s : Int → F) (i : Int) : ap (Cp a) s i = a * s i := rfl
theorem ap_addP (a b : Poly F) (s : Int → F) (i : Int) : ap (addP a b) s i = ap a s i + ap b s i := rfl
theorem ap_mulP (a b : Poly F) (s : Int → F) (i : Int) : ap (mulP a b) s i = ap a (ap b s) i := rfl
theorem ap_negP (a : Poly F) (s : Int → F) (i : Int) : ap (negP a) s i = - ap a s i := by
  show -1 * ap a s i = _; grind
theorem ap_fadd (a : Poly F) (s t : Int → F) (i : Int) : ap a (fun j => s j + t j) i = ap a s i + ap a t i := by
  obtain ⟨l, rfl⟩ := a.isL
  exact act_add l s t i
theorem ap_fsmul (a : Poly F) (c : F) (s : Int → F) (i : Int) : ap a (fun j => c * s j) i = c * ap a s i := by
  obtain ⟨l, rfl⟩ := a.isL
  exact act_smul l c s i
theorem ap_shift (a : Poly F) (s : Int → F) (d i : Int) : ap a (fun j => s (j + d)) i = ap a s (i + d) := by
  obtain ⟨l, rfl⟩ := a.isL
  exact act_shift l s d i

instance polyRing : CommRing (Poly F) where
  add := addP
  mul := mulP
  natCast := ⟨fun n => Cp (OfNat.ofNat n)⟩
  ofNat := fun n => ⟨Cp (OfNat.ofNat n)⟩
  nsmul := ⟨fun n a => mulP (Cp (OfNat.ofNat n)) a⟩
  npow := ⟨fun a n => powP a n⟩
  add_zero := fun a => Poly.ext fun s i => by
    show ap a s i + 0 * s i = ap a s i; grind
  add_comm := fun a b => Poly.ext fun s i => by
    show ap a s i + ap b s i = ap b s i + ap a s i; grind
  add_assoc := fun a b c => Poly.ext fun s i => by
    show ap a s i + ap b s i + ap c s i = ap a s i + (ap b s i + ap c s i); grind
  mul_assoc := fun a b c => rfl
  mul_one := fun a => Poly.ext fun s i => by
    show ap a (fun j => 1 * s j) i = ap a s i
    rw [ap_fsmul]; grind
  one_mul := fun a => Poly.ext fun s i => by
    show 1 * ap a s i = ap a s i; grind
  left_distrib := fun a b c => Poly.ext fun s i => ap_fadd a (ap b s) (ap c s) i
  right_distrib := fun a b c => rfl
  zero_mul := fun a => Poly.ext fun s i => by
    show 0 * ap a s i = 0 * s i; grind
  mul_zero := fun a => Poly.ext fun s i => by
    show ap a (fun j => 0 * s j) i = 0 * s i
    rw [ap_fsmul]; grind
  pow_zero := fun a => rfl
  pow_succ := fun a n => rfl
  ofNat_succ := fun n => Poly.ext fun s i => by
    show OfNat.ofNat (n + 1) * s i = OfNat.ofNat n * s i + 1 * s i
    rw [Semiring.ofNat_succ]; grind
  ofNat_eq_natCast := fun n => rfl
  nsmul_eq_natCast_mul := fun n a => rfl
  neg := negP
  sub := fun a b => addP a (negP b)
  intCast := ⟨fun n => match n with
    | .ofNat n => Cp (OfNat.ofNat n)
    | .negSucc n => negP (Cp (OfNat.ofNat (n + 1)))⟩
  zsmul := ⟨fun z a => match z with
    | .ofNat n => mulP (Cp (OfNat.ofNat n)) a
    | .negSucc n => negP (mulP (Cp (OfNat.ofNat (n + 1))) a)⟩
  neg_add_cancel := fun a => Poly.ext fun s i => by
    show ap (negP a) s i + ap a s i = 0 * s i
    rw [ap_negP]; grind
  sub_eq_add_neg := fun a b => rfl
  neg_zsmul := fun z a => by
    match z with
    | .ofNat 0 =>
      exact Poly.ext fun s i => by
        show 0 * ap a s i = ap (negP (mulP (Cp (OfNat.ofNat 0)) a)) s i
        rw [ap_negP]
        show 0 * ap a s i = - (0 * ap a s i)
        grind
    | .ofNat (n + 1) => rfl
    | .negSucc n =>
      exact Poly.ext fun s i => by
        show ap (mulP (Cp (OfNat.ofNat (n + 1))) a) s i = ap (negP (negP (mulP (Cp (OfNat.ofNat (n + 1))) a))) s i
        rw [ap_negP, ap_negP]; grind
  zsmul_natCast_eq_nsmul := fun n a => rfl
  intCast_ofNat := fun n => rfl
  intCast_neg := fun z => by
    match z with
    | .ofNat 0 =>
      exact Poly.ext fun s i => by
        show 0 * s i = ap (negP (Cp (OfNat.ofNat 0))) s i
        rw [ap_negP]
        show 0 * s i = - (0 * s i)
        grind
    | .ofNat (n + 1) => rfl
    | .negSucc n =>
      exact Poly.ext fun s i => by
        show ap (Cp (OfNat.ofNat (n + 1))) s i = ap (negP (negP (Cp (OfNat.ofNat (n + 1))))) s i
        rw [ap_negP, ap_negP]; grind
  mul_comm := fun a b => Poly.ext fun s i => by
    obtain ⟨l, rfl⟩ := a.isL
    obtain ⟨m, rfl⟩ := b.isL
    exact act_comm l m s i

theorem ap_add (a b : Poly F) (s : Int → F) (i : Int) : ap (a + b) s i = ap a s i + ap b s i := rfl
theorem ap_mul (a b : Poly F) (s : Int → F) (i : Int) : ap (a * b) s i = ap a (ap b s) i := rfl
theorem ap_mul' (a b : Poly F) (s : Int → F) : ap (a * b) s = ap a (ap b s) := rfl
theorem ap_neg (a : Poly F) (s : Int → F) (i : Int) : ap (-a) s i = - ap a s i := ap_negP a s i
theorem ap_sub (a b : Poly F) (s : Int → F) (i : Int) : ap (a - b) s i = ap a s i - ap b s i := by
  show ap a s i + ap (negP b) s i = _
  rw [ap_negP]; grind
theorem ap_zero (s : Int → F) (i : Int) : ap (0 : Poly F) s i = 0 := by
  show 0 * s i = 0; grind
theorem ap_one (s : Int → F) (i : Int) : ap (1 : Poly F) s i = s i := by
  show 1 * s i = s i; grind
example (a b c : Poly F) : (a + b) * (a - b) = a * a - b * b := by grind
example (y : Poly F) (h : (3 : Poly F) = 0) : (y - 1) ^ 3 = y ^ 3 - 1 := by grind
end
end K76
/-! K76, part M2: coefficients, degrees, division, a greatest common divisor. -/
namespace K76
open Lean.Grind
set_option autoImplicit false
section
variable {F : Type} [CommRing F]

theorem Cp_add (a b : F) : Cp (a + b) = Cp a + Cp b := Poly.ext fun s i => by
  show (a + b) * s i = a * s i + b * s i; grind
theorem Cp_mul (a b : F) : Cp (a * b) = Cp a * Cp b := Poly.ext fun s i => by
  show (a * b) * s i = a * (b * s i); grind
theorem Cp_zero : Cp (0 : F) = 0 := rfl
theorem Cp_one : Cp (1 : F) = 1 := rfl
theorem Cp_neg (a : F) : Cp (-a) = - Cp a := Poly.ext fun s i => by
  rw [ap_neg, ap_C, ap_C]; grind
def Xp : Poly F := ofL [0, 1]
theorem ap_X (s : Int → F) (i : Int) : ap Xp s i = s (i - 1) := by
  show 0 * s i + (1 * s (i - 1) + 0) = _; grind
theorem ap_Xpow (s : Int → F) : ∀ (n : Nat) (i : Int), ap (Xp ^ n) s i = s (i - n)
  | 0, i => by
    have e : (Xp : Poly F) ^ 0 = 1 := Semiring.pow_zero _
    rw [e, ap_one]; congr 1; omega
  | n + 1, i => by
    have e : (Xp : Poly F) ^ (n + 1) = Xp ^ n * Xp := Semiring.pow_succ _ _
    rw [e, ap_mul, ap_Xpow _ n, ap_X]; congr 1; omega
theorem ofL_nil : ofL ([] : List F) = 0 := Poly.ext fun s i => by rw [ap_zero]; rfl
theorem ofL_cons (a : F) (l : List F) : ofL (a :: l) = Cp a + Xp * ofL l := Poly.ext fun s i => by
  rw [ap_add, ap_mul, ap_X]; rfl
theorem ofL_one (a : F) : ofL [a] = Cp a := by rw [ofL_cons, ofL_nil]; grind

/-! coefficients -/
def dl : Int → F := fun i => if i = 0 then 1 else 0
def co (a : Poly F) (k : Int) : F := ap a dl k
theorem co_add (a b : Poly F) (k : Int) : co (a + b) k = co a k + co b k := rfl
theorem co_neg (a : Poly F) (k : Int) : co (-a) k = - co a k := ap_neg a dl k
theorem co_sub (a b : Poly F) (k : Int) : co (a - b) k = co a k - co b k := ap_sub a b dl k
theorem co_zero (k : Int) : co (0 : Poly F) k = 0 := ap_zero dl k
theorem co_C (c : F) (a : Poly F) (k : Int) : co (Cp c * a) k = c * co a k := rfl
theorem co_Xpow (n : Nat) (a : Poly F) (k : Int) : co (Xp ^ n * a) k = co a (k - n) := ap_Xpow _ n k
theorem act_dl_neg : ∀ (l : List F) (k : Int), k < 0 → act l dl k = 0
  | [], _, _ => rfl
  | a :: l, k, h => by
    rw [act_cons, act_dl_neg l (k - 1) (by omega)]
    show a * (if k = 0 then 1 else 0) + 0 = 0
    rw [if_neg (by omega)]; grind
theorem co_below (a : Poly F) {k : Int} (h : k < 0) : co a k = 0 := by
  obtain ⟨l, rfl⟩ := a.isL
  exact act_dl_neg l k h
theorem co_ofL : ∀ (l : List F) (k : Nat), co (ofL l) k = l.getD k 0
  | [], k => rfl
  | a :: l, 0 => by
    show a * (if ((0 : Nat) : Int) = 0 then 1 else 0) + act l dl (((0 : Nat) : Int) - 1) = a
    rw [if_pos (show ((0 : Nat) : Int) = 0 from rfl), act_dl_neg l _ (by omega)]; grind
  | a :: l, k + 1 => by
    show a * (if ((k + 1 : Nat) : Int) = 0 then 1 else 0) + act l dl (((k + 1 : Nat) : Int) - 1) = l.getD k 0
    rw [if_neg (by omega), show ((k + 1 : Nat) : Int) - 1 = (k : Int) by omega, show act l dl (k : Int) = co (ofL l) k from rfl, co_ofL l k]; grind
theorem ofL_ext : ∀ (l m : List F), (∀ k : Nat, l.getD k 0 = m.getD k 0) → ofL l = ofL m
  | [], [], _ => rfl
  | [], b :: m, h => by
    have e0 : (0 : F) = b := h 0
    have e1 := ofL_ext [] m fun k => h (k + 1)
    rw [ofL_cons, ← e1, ← e0, ofL_nil, Cp_zero]; grind
  | a :: l, [], h => by
    have e0 : a = (0 : F) := h 0
    have e1 := ofL_ext l [] fun k => h (k + 1)
    rw [ofL_cons, e1, e0, ofL_nil, Cp_zero]; grind
  | a :: l, b :: m, h => by
    have e0 : a = b := h 0
    have e1 := ofL_ext l m fun k => h (k + 1)
    rw [ofL_cons, ofL_cons, e1, e0]
theorem co_ext {a b : Poly F} (h : ∀ k : Nat, co a k = co b k) : a = b := by
  obtain ⟨l, rfl⟩ := a.isL
  obtain ⟨m, rfl⟩ := b.isL
  exact ofL_ext l m fun k => by rw [← co_ofL, ← co_ofL]; exact h k

/-! degrees -/
def DegLt (a : Poly F) (d : Nat) : Prop := ∀ k : Nat, d ≤ k → co a k = 0
theorem DegLt.mono {a : Poly F} {d e : Nat} (h : DegLt a d) (x : d ≤ e) : DegLt a e := fun k hk => h k (by omega)
theorem DegLt.list {a : Poly F} {d : Nat} (h : DegLt a d) : ∃ l : List F, l.length ≤ d ∧ a = ofL l := by
  obtain ⟨l, rfl⟩ := a.isL
  refine ⟨l.take d, by rw [List.length_take]; omega, ofL_ext _ _ fun k => ?_⟩
  by_cases hk : k < d
  · simp only [List.getD_eq_getElem?_getD, List.getElem?_take, if_pos hk]
  · have := h k (by omega)
    rw [co_ofL] at this
    rw [this]
    simp only [List.getD_eq_getElem?_getD, List.getElem?_take, if_neg hk]; rfl
theorem degLt_ofL (l : List F) {d : Nat} (h : l.length ≤ d) : DegLt (ofL l) d := fun k hk => by
  rw [co_ofL, List.getD_eq_getElem?_getD, List.getElem?_eq_none (by omega)]; rfl
theorem DegLt.add {a b : Poly F} {d : Nat} (h : DegLt a d) (h' : DegLt b d) : DegLt (a + b) d := fun k hk => by
  rw [co_add, h k hk, h' k hk]; grind
theorem DegLt.neg {a : Poly F} {d : Nat} (h : DegLt a d) : DegLt (-a) d := fun k hk => by
  rw [co_neg, h k hk]; grind
theorem DegLt.sub {a b : Poly F} {d : Nat} (h : DegLt a d) (h' : DegLt b d) : DegLt (a - b) d := fun k hk => by
  rw [co_sub, h k hk, h' k hk]; grind
theorem degLt_zero (d : Nat) : DegLt (0 : Poly F) d := fun k _ => co_zero k
theorem DegLt.eq_zero {a : Poly F} (h : DegLt a 0) : a = 0 := co_ext fun k => by rw [h k (by omega), co_zero]
theorem mulL_len1 (m : List F) (hm : m ≠ []) : ∀ l : List F, (mulL l m).length ≤ l.length + m.length - 1
  | [] => Nat.zero_le _
  | a :: l => by
    have hp : 0 < m.length := List.length_pos_iff.mpr hm
    show (addL (smulL a m) (0 :: mulL l m)).length ≤ l.length + 1 + m.length - 1
    rw [addL_len]
    have h1 : (smulL a m).length = m.length := List.length_map _
    have h2 := mulL_len1 m hm l
    have h3 : (0 :: mulL l m).length = (mulL l m).length + 1 := rfl
    omega
theorem ofL_mulL (l m : List F) : ofL (mulL l m) = ofL l * ofL m := Poly.ext fun s i => act_mulL l m s i
theorem ofL_addL (l m : List F) : ofL (addL l m) = ofL l + ofL m := Poly.ext fun s i => act_addL l m s i
theorem ofL_smulL (c : F) (l : List F) : ofL (smulL c l) = Cp c * ofL l := Poly.ext fun s i => act_smulL c l s i
theorem DegLt.mul {a b : Poly F} {d e : Nat} (h : DegLt a d) (h' : DegLt b e) : DegLt (a * b) (d + e - 1) := by
  obtain ⟨l, hl, rfl⟩ := h.list
  obtain ⟨m, hm, rfl⟩ := h'.list
  by_cases z : m = []
  · subst z
    rw [ofL_nil, Semiring.mul_zero]
    exact degLt_zero _
  · rw [← ofL_mulL]
    exact degLt_ofL _ (by have := mulL_len1 m z l; omega)
theorem co_top {b : Poly F} {e : Nat} (h' : DegLt b (e + 1)) : ∀ (l : List F) (d : Nat), l.length ≤ d + 1 → co (ofL l * b) ((d + e : Nat) : Int) = l.getD d 0 * co b e
  | [], d, _ => by
    rw [ofL_nil, Semiring.zero_mul, co_zero]
    show (0 : F) = 0 * co b e
    grind
  | x :: l, d, hl => by
    have e1 : co (ofL (x :: l) * b) ((d + e : Nat) : Int) = x * co b ((d + e : Nat) : Int) + co (ofL l * b) (((d + e : Nat) : Int) - 1) := by
      rw [ofL_cons, Semiring.right_distrib, co_add, co_C, Semiring.mul_assoc]
      show x * co b _ + ap (Xp * (ofL l * b)) dl _ = _
      rw [ap_mul, ap_X]; rfl
    rw [e1]
    match d with
    | 0 =>
      have z : l = [] := List.eq_nil_of_length_eq_zero (by simp at hl; simp [hl])
      subst z
      rw [ofL_nil, Semiring.zero_mul, co_zero, Nat.zero_add]
      show x * co b e + 0 = x * co b e
      grind
    | d + 1 =>
      have ih := co_top h' l d (by simp at hl; omega)
      rw [show ((d + 1 + e : Nat) : Int) - 1 = ((d + e : Nat) : Int) by omega, ih, h' (d + 1 + e) (by omega)]
      show x * 0 + l.getD d 0 * co b e = l.getD d 0 * co b e
      grind
theorem co_mul_top {a b : Poly F} {d e : Nat} (h : DegLt a (d + 1)) (h' : DegLt b (e + 1)) : co (a * b) ((d + e : Nat) : Int) = co a d * co b e := by
  obtain ⟨l, hl, rfl⟩ := h.list
  rw [co_top h' l d hl, co_ofL]
theorem co_C0 (c : F) : co (Cp c) 0 = c := by
  show c * (if (0 : Int) = 0 then 1 else 0) = c
  rw [if_pos rfl]; grind
theorem degLt_C (c : F) : DegLt (Cp c) 1 := by
  rw [← ofL_one]
  exact degLt_ofL _ (Nat.le_refl _)
theorem DegLt.const {a : Poly F} (h : DegLt a 1) : a = Cp (co a 0) := co_ext fun k => by
  match k with
  | 0 => exact (co_C0 _).symm
  | k + 1 => rw [h (k + 1) (by omega), degLt_C _ (k + 1) (by omega)]
theorem degLt_Xpow (n : Nat) : DegLt (Xp ^ n : Poly F) (n + 1) := fun k hk => by
  show ap (Xp ^ n) dl k = 0
  rw [ap_Xpow]
  show (if (k : Int) - n = 0 then (1 : F) else 0) = 0
  rw [if_neg (by omega)]
theorem co_Xn (n : Nat) : co (Xp ^ n : Poly F) n = 1 := by
  show ap (Xp ^ n) dl n = 1
  rw [ap_Xpow]
  show (if (n : Int) - n = 0 then (1 : F) else 0) = 1
  rw [if_pos (by omega)]
end

/-- what divides -/
def Dv {F : Type} [CommRing F] (g a : Poly F) : Prop := ∃ k, a = k * g

class Fld (F : Type) [CommRing F] : Prop where
  one_ne : (1 : F) ≠ 0
  inv : ∀ x : F, x ≠ 0 → ∃ y, x * y = 1
section
variable {F : Type} [CommRing F] [Fld F]
theorem dom {x y : F} (h : x * y = 0) : x = 0 ∨ y = 0 := by
  by_cases z : x = 0
  · exact .inl z
  · obtain ⟨u, hu⟩ := Fld.inv x z
    right; grind
theorem deg_of : ∀ (n : Nat) (a : Poly F), DegLt a n → a ≠ 0 → ∃ d : Nat, d < n ∧ co a d ≠ 0 ∧ DegLt a (d + 1)
  | 0, a, h, h0 => absurd h.eq_zero h0
  | n + 1, a, h, h0 => by
    by_cases z : co a n = 0
    · obtain ⟨d, h1, h2, h3⟩ := deg_of n a (fun k hk => by
        by_cases e : k = n
        · rw [e]; exact z
        · exact h k (by omega)) h0
      exact ⟨d, by omega, h2, h3⟩
    · exact ⟨n, by omega, z, h⟩
theorem deg_ex (a : Poly F) (h0 : a ≠ 0) : ∃ d : Nat, co a d ≠ 0 ∧ DegLt a (d + 1) := by
  obtain ⟨l, rfl⟩ := a.isL
  obtain ⟨d, _, h2, h3⟩ := deg_of l.length _ (degLt_ofL l (Nat.le_refl _)) h0
  exact ⟨d, h2, h3⟩
theorem mul_ne {a b : Poly F} (ha : a ≠ 0) (hb : b ≠ 0) : a * b ≠ 0 := fun z => by
  obtain ⟨d, h1, h2⟩ := deg_ex a ha
  obtain ⟨e, h3, h4⟩ := deg_ex b hb
  have := co_mul_top h2 h4
  rw [z, co_zero] at this
  rcases dom this.symm with q | q
  · exact h1 q
  · exact h3 q
theorem domP {a b : Poly F} (h : a * b = 0) : a = 0 ∨ b = 0 := by
  by_cases ha : a = 0
  · exact .inl ha
  · by_cases hb : b = 0
    · exact .inr hb
    · exact absurd h (mul_ne ha hb)
/-- of a product that is small the other factor is small -/
theorem deg_left {a b : Poly F} {e n : Nat} (hb : co b e ≠ 0) (hb' : DegLt b (e + 1)) (h : DegLt (a * b) n) : DegLt a (n - e) := by
  by_cases ha : a = 0
  · rw [ha]; exact degLt_zero _
  · obtain ⟨d, h1, h2⟩ := deg_ex a ha
    have t := co_mul_top h2 hb'
    refine h2.mono ?_
    by_cases q : n ≤ d + e
    · rw [h (d + e) q] at t
      rcases dom t.symm with z | z
      · exact absurd z h1
      · exact absurd z hb
    · omega
theorem div_ex {b : Poly F} {e : Nat} (hb : co b e ≠ 0) (hb' : DegLt b (e + 1)) : ∀ (n : Nat) (a : Poly F), DegLt a n → ∃ q r, a = q * b + r ∧ DegLt r e
  | 0, a, h => ⟨0, a, by grind, h.mono (by omega)⟩
  | n + 1, a, h => by
    by_cases hn : n + 1 ≤ e
    · exact ⟨0, a, by grind, h.mono hn⟩
    · obtain ⟨y, hy⟩ := Fld.inv _ hb
      have h' : DegLt (a - Cp (co a n * y) * (Xp ^ (n - e) * b)) n := fun k hk => by
        rw [co_sub, co_C, co_Xpow]
        by_cases e1 : k = n
        · rw [e1, show ((n : Nat) : Int) - ((n - e : Nat) : Int) = (e : Int) by omega]
          grind
        · rw [h k (by omega), show ((k : Nat) : Int) - ((n - e : Nat) : Int) = ((k - (n - e) : Nat) : Int) by omega, hb' _ (by omega)]
          grind
      obtain ⟨q, r, e1, e2⟩ := div_ex hb hb' n _ h'
      exact ⟨q + Cp (co a n * y) * Xp ^ (n - e), r, by grind, e2⟩
theorem gcd_ex : ∀ (n : Nat) (a b : Poly F), DegLt b n → ∃ g u v : Poly F, g = u * a + v * b ∧ Dv g a ∧ Dv g b
  | 0, a, b, h => ⟨a, 1, 0, by grind, ⟨1, by grind⟩, ⟨0, by rw [h.eq_zero]; grind⟩⟩
  | n + 1, a, b, h => by
    by_cases z : co b n = 0
    · exact gcd_ex n a b fun k hk => by
        by_cases e : k = n
        · rw [e]; exact z
        · exact h k (by omega)
    · obtain ⟨l, rfl⟩ := a.isL
      obtain ⟨q, r, e1, e2⟩ := div_ex z h l.length _ (degLt_ofL l (Nat.le_refl _))
      obtain ⟨g, u, v, e3, ⟨k1, e4⟩, ⟨k2, e5⟩⟩ := gcd_ex n b r e2
      refine ⟨g, v, u - v * q, ?_, ⟨q * k1 + k2, ?_⟩, ⟨k1, e4⟩⟩
      · grind
      · grind
end
end K76
/-! K76, part M3: rows upon rings as periodic sequences; which have one ahead. -/
namespace K76
open Lean.Grind
set_option autoImplicit false
section
variable {F : Type} [CommRing F] [Fld F]

theorem lin_pow : ∀ (n : Nat) (o A : Poly F), o ≠ 0 → DegLt o (n + 1) → ∃ u v : Poly F, A ^ n = u * o + v * A ^ (n + 1) := by
  intro n
  induction n with
  | zero =>
    intro o A h0 h1
    obtain ⟨d, hd, hd'⟩ := deg_ex o h0
    have ec := h1.const
    have c0 : co o 0 ≠ 0 := fun z => h0 (by rw [ec, z]; rfl)
    obtain ⟨y, hy⟩ := Fld.inv _ c0
    refine ⟨Cp y, 0, ?_⟩
    have e : Cp (co o 0) * Cp y = 1 := by rw [← Cp_mul, hy]; rfl
    rw [Semiring.pow_zero]
    rw [← ec] at e
    grind
  | succ n ih =>
    intro o A h0 h1
    obtain ⟨l, hl⟩ := A.isL
    obtain ⟨g, u0, v0, eg, ⟨k, ek⟩, ⟨j, ej⟩⟩ := gcd_ex l.length o A (by rw [hl]; exact degLt_ofL l (Nat.le_refl _))
    have g0 : g ≠ 0 := fun z => h0 (by rw [ek, z]; grind)
    have k0 : k ≠ 0 := fun z => h0 (by rw [ek, z]; grind)
    obtain ⟨e, he, he'⟩ := deg_ex g g0
    match e with
    | 0 =>
      have ec := he'.const
      obtain ⟨y, hy⟩ := Fld.inv _ he
      have e : Cp (co g (0 : Nat)) * Cp y = 1 := by rw [← Cp_mul, hy]; rfl
      have ec2 : Cp (co g (0 : Nat)) = g := ec.symm
      rw [ec2] at e
      refine ⟨A ^ (n + 1) * Cp y * u0, Cp y * v0, ?_⟩
      rw [Semiring.pow_succ A (n + 1)]
      generalize A ^ (n + 1) = B
      grind
    | e + 1 =>
      have hk : DegLt k (n + 1) := (deg_left he he' (by rw [← ek]; exact h1)).mono (by omega)
      obtain ⟨u, v, e1⟩ := ih k A k0 hk
      refine ⟨u * j, v, ?_⟩
      rw [Semiring.pow_succ A (n + 1)]
      have e2 : A ^ (n + 1) = A ^ n * A := Semiring.pow_succ _ _
      generalize A ^ (n + 1) = B at *
      generalize A ^ n = B0 at *
      grind

/-! periodic sequences -/
def Per (N : Nat) (s : Int → F) : Prop := ∀ i, s (i + N) = s i
theorem Per.app {N : Nat} {s : Int → F} (h : Per N s) (a : Poly F) : Per N (ap a s) := fun i => by
  rw [← ap_shift a s N i, show (fun j => s (j + (N : Int))) = s from funext h]
theorem Per.mul {N : Nat} {s : Int → F} (h : Per N s) : ∀ (k : Nat), Per (N * k) s
  | 0, i => by congr 1; rw [Nat.mul_zero]; omega
  | k + 1, i => by
    rw [Nat.mul_succ, show i + ((N * k + N : Nat) : Int) = (i + (N * k : Nat)) + N by omega, h, h.mul k]
theorem Per.neg {N : Nat} {s : Int → F} (h : Per N s) (i : Int) : s (i - N) = s i := by
  have := h (i - N)
  rw [show i - (N : Int) + N = i by omega] at this
  exact this.symm
theorem Per.imul {N : Nat} {s : Int → F} (h : Per N s) (i : Int) (q : Int) : s (i + N * q) = s i := by
  match q with
  | .ofNat q => have := h.mul q i; rw [Int.natCast_mul] at this; exact this
  | .negSucc q =>
    have := (h.mul (q + 1)).neg i
    rw [Int.natCast_mul] at this
    rw [← this, show Int.negSucc q = - ((q + 1 : Nat) : Int) from rfl, Int.mul_neg]
    rfl
theorem Per.mod {N : Nat} {s : Int → F} (h : Per N s) (i : Int) : s (i % N) = s i := by
  have e := h.imul (i % N) (i / N)
  rw [← e, Int.emod_add_mul_ediv i N]
def An (N : Nat) : Poly F := Xp ^ N - 1
theorem ap_An (N : Nat) (s : Int → F) (i : Int) : ap (An N) s i = s (i - N) - s i := by
  unfold An
  rw [ap_sub, ap_Xpow, ap_one]
theorem Per.an {N : Nat} {s : Int → F} (h : Per N s) : ap (An N) s = fun _ => 0 := funext fun i => by
  rw [ap_An, h.neg]; grind
theorem ap_fz (a : Poly F) (i : Int) : ap a (fun _ => (0 : F)) i = 0 := by
  obtain ⟨l, rfl⟩ := a.isL
  exact act_zero l i
theorem co_An {N : Nat} (h : 0 < N) : co (An N : Poly F) N = 1 := by
  unfold An
  rw [co_sub, co_Xn]
  show 1 - ap (1 : Poly F) dl N = 1
  rw [ap_one]
  show (1 : F) - (if (N : Int) = 0 then 1 else 0) = 1
  rw [if_neg (by omega)]; grind
theorem degLt_one : DegLt (1 : Poly F) 1 := degLt_C 1
theorem degLt_An (N : Nat) : DegLt (An N : Poly F) (N + 1) := (degLt_Xpow N).sub (degLt_one.mono (by omega))
theorem An_ne {N : Nat} (h : 0 < N) : (An N : Poly F) ≠ 0 := fun z => by
  have := co_An (F := F) h
  rw [z, co_zero] at this
  exact Fld.one_ne this.symm
/-- the sequence 1 at the multiples of N, 0 elsewhere -/
def dN (N : Nat) : Int → F := fun i => if i % N = 0 then 1 else 0
theorem per_dN (N : Nat) : Per N (dN N : Int → F) := fun i => by
  show (if (i + N) % (N : Int) = 0 then (1 : F) else 0) = if i % (N : Int) = 0 then 1 else 0
  rw [Int.add_emod_right]
theorem pred_mod {N : Nat} (h : 0 < N) (i : Int) : (i - 1) % (N : Int) = if i % (N : Int) = 0 then (N : Int) - 1 else i % (N : Int) - 1 := by
  have h0 := Int.emod_nonneg i (show (N : Int) ≠ 0 by omega)
  have h1 := Int.emod_lt_of_pos i (show 0 < (N : Int) by omega)
  have h2 := Int.emod_add_mul_ediv i N
  split
  · rename_i z
    rw [show i - 1 = ((N : Int) - 1) + N * (i / N - 1) by grind, Int.add_mul_emod_self_left]
    exact Int.emod_eq_of_lt (by omega) (by omega)
  · rw [show i - 1 = (i % (N : Int) - 1) + N * (i / N) by omega, Int.add_mul_emod_self_left]
    exact Int.emod_eq_of_lt (by omega) (by omega)
theorem act_dN {N : Nat} (h : 0 < N) : ∀ (l : List F), l.length ≤ N → ∀ i : Int, act l (dN N) i = l.getD (i % (N : Int)).toNat 0
  | [], _, i => rfl
  | a :: l, hl, i => by
    have hl' : l.length + 1 ≤ N := hl
    rw [act_cons, act_dN h l (by omega), pred_mod h]
    show a * (if i % (N : Int) = 0 then 1 else 0) + _ = _
    split
    · rename_i z
      rw [z, List.getD_eq_getElem?_getD, List.getElem?_eq_none (by omega)]
      show a * 1 + 0 = a
      grind
    · rename_i z
      have h0 := Int.emod_nonneg i (show (N : Int) ≠ 0 by omega)
      obtain ⟨m, hm⟩ : ∃ m : Nat, i % (N : Int) = ((m + 1 : Nat) : Int) := ⟨(i % (N : Int)).toNat - 1, by omega⟩
      rw [hm, show ((m + 1 : Nat) : Int) - 1 = (m : Int) by omega]
      show a * 0 + l.getD m 0 = l.getD m 0
      grind
theorem zero_of_dN {N : Nat} (h : 0 < N) {a : Poly F} (ha : DegLt a N) (hz : ∀ i, ap a (dN N) i = 0) : a = 0 := by
  obtain ⟨l, hl, rfl⟩ := ha.list
  refine co_ext fun k => ?_
  rw [co_zero, co_ofL]
  by_cases hk : k < N
  · have := hz k
    rw [ap_ofL, act_dN h l hl, Int.emod_eq_of_lt (by omega) (by omega)] at this
    simpa using this
  · rw [List.getD_eq_getElem?_getD, List.getElem?_eq_none (by omega)]; rfl

/-! which rows have one ahead -/
/-- some row of the ring is made this one by the polynomial -/
def Has (o : Poly F) (N : Nat) (w : Int → F) : Prop := ∃ s, Per N s ∧ ∀ i, ap o s i = w i
theorem has_of_dv {o g W u v : Poly F} {N : Nat} (hg : g = u * o + v * An N) (h : Dv g W) : Has o N (ap W (dN N)) := by
  obtain ⟨k, rfl⟩ := h
  refine ⟨ap (k * u) (dN N), (per_dN N).app _, fun i => ?_⟩
  have e : k * g = o * (k * u) + (k * v) * An N := by grind
  rw [e, ap_add, ap_mul, ap_mul, (per_dN N).an, ap_fz]; grind
theorem rest_of_has {o g W q r : Poly F} {N e : Nat} (hN : 0 < N) (go : Dv g o) (gA : Dv g (An N)) (he : co g e ≠ 0) (he' : DegLt g (e + 1)) (hW : W = q * g + r) (hr : DegLt r e) (h : Has o N (ap W (dN N))) : r = 0 := by
  obtain ⟨s, hs, hsw⟩ := h
  obtain ⟨k1, e1⟩ := go
  obtain ⟨k2, e2⟩ := gA
  have z1 : ∀ i, ap (k2 * W) (dN N) i = 0 := fun i => by
    rw [ap_mul, ← show ap o s = ap W (dN N) from funext hsw, ← ap_mul, show k2 * o = k1 * An N by grind, ap_mul, hs.an, ap_fz]
  have z2 : ∀ i, ap (k2 * r) (dN N) i = 0 := fun i => by
    have := z1 i
    rw [hW, show k2 * (q * g + r) = q * An N + k2 * r by grind, ap_add, ap_mul, (per_dN N).an, ap_fz] at this
    grind
  have k2d : DegLt k2 (N + 1 - e) := deg_left he he' (by rw [← e2]; exact degLt_An N)
  have eN : e ≤ N := by
    by_cases q : e ≤ N
    · exact q
    · have : k2 = 0 := (k2d.mono (by omega) : DegLt k2 0).eq_zero
      exact absurd (by rw [e2, this]; grind) (An_ne (F := F) hN)
  have z3 : k2 * r = 0 := zero_of_dN hN ((k2d.mul hr).mono (by omega)) z2
  rcases domP z3 with z | z
  · exact absurd (by rw [e2, z]; grind) (An_ne (F := F) hN)
  · exact z

/-! a sum over turns: rings of parts -/
def smS (s : Int → F) (M : Nat) : Nat → Int → F
  | 0, _ => 0
  | k + 1, i => smS s M k i + s (i + M * k)
theorem smS_next (s : Int → F) (M : Nat) : ∀ (k : Nat) (i : Int), smS s M k (i + M) = smS s M k i - s i + s (i + M * k)
  | 0, i => by
    show (0 : F) = 0 - s i + s (i + M * (0 : Nat))
    rw [show i + (M : Int) * ((0 : Nat) : Int) = i by grind]; grind
  | k + 1, i => by
    show smS s M k (i + M) + s (i + M + M * k) = smS s M k i + s (i + M * k) - s i + s (i + M * (k + 1 : Nat))
    rw [smS_next s M k, show i + (M : Int) + M * k = i + M * (k + 1 : Nat) by grind]; grind
theorem ap_smS (o : Poly F) (s : Int → F) (M : Nat) : ∀ (k : Nat) (i : Int), ap o (smS s M k) i = smS (ap o s) M k i
  | 0, i => ap_fz o i
  | k + 1, i => by
    show ap o (fun j => smS s M k j + s (j + M * k)) i = smS (ap o s) M k i + ap o s (i + M * k)
    rw [ap_fadd, ap_smS o s M k, ap_shift]
theorem smS_per {w : Int → F} {M : Nat} (h : Per M w) : ∀ (k : Nat) (i : Int), smS w M k i = (OfNat.ofNat k : F) * w i
  | 0, i => by show (0 : F) = 0 * w i; grind
  | k + 1, i => by
    show smS w M k i + w (i + M * k) = _
    rw [smS_per h k, h.imul, Semiring.ofNat_succ]; grind
theorem has_part {o : Poly F} {M k : Nat} {w : Int → F} (hw : Per M w) (hk : (OfNat.ofNat k : F) ≠ 0) (h : Has o (M * k) w) : Has o M w := by
  obtain ⟨s, hs, hsw⟩ := h
  obtain ⟨y, hy⟩ := Fld.inv _ hk
  refine ⟨fun i => y * smS s M k i, fun i => ?_, fun i => ?_⟩
  · show y * smS s M k (i + M) = y * smS s M k i
    rw [smS_next]
    have := hs i
    rw [Int.natCast_mul] at this
    rw [this]; grind
  · rw [ap_fsmul, ap_smS, show ap o s = w from funext hsw, smS_per hw]; grind
theorem has_more {o : Poly F} {M : Nat} {w : Int → F} (h : Has o M w) (k : Nat) : Has o (M * k) w := by
  obtain ⟨s, hs, hsw⟩ := h
  exact ⟨s, hs.mul k, hsw⟩

/-! powers of the prime -/
def Frob (p : Nat) (F : Type) [CommRing F] : Prop := ∀ y : Poly F, (y - 1) ^ p = y ^ p - 1
theorem frob2 (h : (2 : Poly F) = 0) : Frob 2 F := fun y => by grind
theorem frob3 (h : (3 : Poly F) = 0) : Frob 3 F := fun y => by grind
theorem frob5 (h : (5 : Poly F) = 0) : Frob 5 F := fun y => by grind
theorem frob7 (h : (7 : Poly F) = 0) : Frob 7 F := fun y => by grind
theorem frob11 (h : (11 : Poly F) = 0) : Frob 11 F := fun y => by grind
theorem frob13 (h : (13 : Poly F) = 0) : Frob 13 F := fun y => by grind
theorem powm (y : Poly F) (m : Nat) : ∀ n : Nat, (y ^ m) ^ n = y ^ (m * n)
  | 0 => by rw [Nat.mul_zero, Semiring.pow_zero, Semiring.pow_zero]
  | n + 1 => by rw [Semiring.pow_succ, powm y m n, Nat.mul_succ, Semiring.pow_add]
theorem frobA {p : Nat} (h : Frob p F) (y : Poly F) : ∀ a : Nat, (y - 1) ^ (p ^ a) = y ^ (p ^ a) - 1
  | 0 => by
    rw [Nat.pow_zero]
    grind
  | a + 1 => by
    rw [Nat.pow_succ, ← powm, frobA h y a, h, powm]
def geo (y : Poly F) : Nat → Poly F
  | 0 => 0
  | n + 1 => geo y n + y ^ n
theorem geo_mul (y : Poly F) : ∀ n : Nat, (y - 1) * geo y n = y ^ n - 1
  | 0 => by
    show (y - 1) * 0 = y ^ 0 - 1
    rw [Semiring.pow_zero]; grind
  | n + 1 => by
    show (y - 1) * (geo y n + y ^ n) = _
    have e : y ^ (n + 1) = y ^ n * y := Semiring.pow_succ _ _
    have ih := geo_mul y n
    rw [e, Semiring.left_distrib, ih]
    generalize y ^ n = z
    grind
theorem ap_geo {n N : Nat} (hn : 0 < n) (w : Int → F) (hw : Per n w) : ∀ m : Nat, n * m ≤ N → 0 < N → ∀ i : Int,
    ap (geo (Xp ^ n) m) (fun j => if j % (N : Int) < n then w j else 0) i = if i % (N : Int) < ((n * m : Nat) : Int) then w i else 0
  | 0, _, hN, i => by
    show ap (0 : Poly F) _ i = _
    have := Int.emod_nonneg i (show (N : Int) ≠ 0 by omega)
    rw [ap_zero, Nat.mul_zero, if_neg (by omega)]
  | m + 1, hm, hN, i => by
    have hm' : n * m + n ≤ N := by rw [← Nat.mul_succ]; exact hm
    show ap (geo (Xp ^ n) m + (Xp ^ n) ^ m) _ i = _
    rw [ap_add, ap_geo hn w hw m (by omega) hN, powm, ap_Xpow, Nat.mul_succ]
    have h0 := Int.emod_nonneg i (show (N : Int) ≠ 0 by omega)
    have h1 := Int.emod_lt_of_pos i (show 0 < (N : Int) by omega)
    have h2 := Int.emod_add_mul_ediv i N
    have hw' : w (i - ((n * m : Nat) : Int)) = w i := (hw.mul m).neg i
    generalize n * m = t at *
    by_cases c1 : i % (N : Int) < (t : Int)
    · have e : (i - t) % (N : Int) = i % (N : Int) - t + N := by
        rw [show i - (t : Int) = (i % (N : Int) - t + N) + N * (i / N - 1) by grind, Int.add_mul_emod_self_left]
        exact Int.emod_eq_of_lt (by omega) (by omega)
      rw [if_pos c1]
      show w i + (if (i - t) % (N : Int) < n then w (i - t) else 0) = _
      rw [if_neg (show ¬ (i - t) % (N : Int) < n by omega), if_pos (show i % (N : Int) < ((t + n : Nat) : Int) by omega)]; grind
    · have e : (i - t) % (N : Int) = i % (N : Int) - t := by
        rw [show i - (t : Int) = (i % (N : Int) - t) + N * (i / N) by omega, Int.add_mul_emod_self_left]
        exact Int.emod_eq_of_lt (by omega) (by omega)
      rw [if_neg c1]
      show 0 + (if (i - t) % (N : Int) < n then w (i - t) else 0) = _
      by_cases c2 : i % (N : Int) < ((t + n : Nat) : Int)
      · rw [if_pos (show (i - t) % (N : Int) < n by omega), if_pos c2, hw']; grind
      · rw [if_neg (show ¬ (i - t) % (N : Int) < n by omega), if_neg c2]; grind
/-- a rule of few places has a row ahead of each on the ring of a great enough power of the prime -/
theorem has_great {p : Nat} (hf : Frob p F) {o : Poly F} {d : Nat} (h0 : o ≠ 0) (hd : DegLt o (d + 1)) {n : Nat} (hn : 0 < n) {w : Int → F} (hw : Per n w) (a : Nat) (ha : d < p ^ a) : Has o (n * p ^ a) w := by
  have hM := frobA hf (Xp ^ n : Poly F) a
  generalize p ^ a = M at *
  have hN : 0 < n * M := Nat.mul_pos hn (by omega)
  obtain ⟨u, v, e1⟩ := lin_pow d o (An n) h0 hd
  obtain ⟨c, rfl⟩ : ∃ c, M = d + 1 + c := ⟨M - (d + 1), by omega⟩
  have e0 : (An n : Poly F) = Xp ^ n - 1 := rfl
  rw [← e0, powm] at hM
  have hA : An n * (geo (Xp ^ n) (d + 1 + c)) = An n * (An n : Poly F) ^ (d + c) := by
    rw [e0, geo_mul, ← e0, powm, ← hM, show d + 1 + c = (d + c) + 1 by omega, Semiring.pow_succ, CommSemiring.mul_comm]
  have hG : geo (Xp ^ n) (d + 1 + c) = (An n : Poly F) ^ (d + c) := by
    have : An n * (geo (Xp ^ n) (d + 1 + c) - (An n : Poly F) ^ (d + c)) = 0 := by
      generalize geo (Xp ^ n : Poly F) (d + 1 + c) = G at *
      generalize (An n : Poly F) ^ (d + c) = B at *
      grind
    rcases domP this with z | z
    · exact absurd z (An_ne hn)
    · generalize geo (Xp ^ n : Poly F) (d + 1 + c) = G at *
      generalize (An n : Poly F) ^ (d + c) = B at *
      grind
  have hB : (An n : Poly F) ^ (d + c) = (u * An n ^ c) * o + v * An (n * (d + 1 + c)) := by
    have e2 : (An (n * (d + 1 + c)) : Poly F) = An n ^ (d + 1 + c) := hM.symm
    rw [e2, Semiring.pow_add, Semiring.pow_add, e1]
    generalize (An n : Poly F) ^ (d + 1) = B1
    generalize (An n : Poly F) ^ c = B2
    grind
  have hw0 : Per (n * (d + 1 + c)) (fun j => if j % ((n * (d + 1 + c) : Nat) : Int) < n then w j else 0) := fun i => by
    show (if (i + ((n * (d + 1 + c) : Nat) : Int)) % ((n * (d + 1 + c) : Nat) : Int) < n then w (i + ((n * (d + 1 + c) : Nat) : Int)) else 0) = _
    rw [Int.add_emod_right, (hw.mul (d + 1 + c)) i]
  refine ⟨_, hw0.app (u * An n ^ c), fun i => ?_⟩
  have key := ap_geo hn w hw (d + 1 + c) (Nat.le_refl _) hN i
  rw [if_pos (Int.emod_lt_of_pos i (by omega)), hG, hB, ap_add, ap_mul v, hw0.an, ap_fz] at key
  rw [← key, CommSemiring.mul_comm (u * An n ^ c) o, ap_mul, Semiring.add_zero]
end
end K76
/-! K76, part M4: lists of whole numbers as polynomials modulo p. -/
namespace K76
open Lean.Grind
set_option autoImplicit false
def ci (F : Type) [CommRing F] (a : Int) : F := @Int.cast F Ring.intCast a
/-- the trailing noughts dropped -/
def trim (l : List Int) : List Int := (l.reverse.dropWhile fun a => a == 0).reverse
theorem trim_zero (l : List Int) : trim (l ++ [0]) = trim l := by
  unfold trim
  rw [List.reverse_append]
  rfl
theorem trim_ne (l : List Int) {a : Int} (h : a ≠ 0) : trim (l ++ [a]) = l ++ [a] := by
  unfold trim
  rw [List.reverse_append]
  show ((a :: l.reverse).dropWhile _).reverse = _
  rw [List.dropWhile_cons, if_neg (by simpa using h), List.reverse_cons, List.reverse_reverse]
theorem trim_nil : trim [] = [] := rfl
theorem snoc_ind {α : Type} {C : List α → Prop} (h0 : C []) (h1 : ∀ l a, C l → C (l ++ [a])) (l : List α) : C l := by
  have : ∀ n (l : List α), l.length = n → C l := by
    intro n
    induction n with
    | zero => intro l h; rw [List.length_eq_zero_iff.mp h]; exact h0
    | succ n ih =>
      intro l h
      rcases List.eq_nil_or_concat l with rfl | ⟨m, a, rfl⟩
      · cases h
      · rw [List.concat_eq_append] at h ⊢
        exact h1 m a (ih m (by simpa using h))
  exact this _ l rfl
theorem getD_snoc (l : List Int) (a : Int) (k : Nat) : (l ++ [a]).getD k 0 = if k = l.length then a else l.getD k 0 := by
  rw [List.getD_eq_getElem?_getD, List.getD_eq_getElem?_getD, List.getElem?_append]
  split
  · rw [if_neg (by omega)]
  · by_cases c : k = l.length
    · rw [if_pos c, c]; simp
    · rw [if_neg c, List.getElem?_eq_none (by simp; omega), List.getElem?_eq_none (by omega)]
theorem trim_getD (l : List Int) (k : Nat) : (trim l).getD k 0 = l.getD k 0 := by
  induction l using snoc_ind with
  | h0 => rfl
  | h1 l a ih =>
    by_cases c : a = 0
    · subst c
      rw [trim_zero, ih, getD_snoc]
      split
      · rename_i e
        rw [e, List.getD_eq_getElem?_getD, List.getElem?_eq_none (Nat.le_refl _)]; rfl
      · rfl
    · rw [trim_ne l c]
theorem trim_len (l : List Int) : (trim l).length ≤ l.length := by
  induction l using snoc_ind with
  | h0 => exact Nat.le_refl _
  | h1 l a ih =>
    by_cases c : a = 0
    · subst c; rw [trim_zero, List.length_append]; omega
    · rw [trim_ne l c]; exact Nat.le_refl _
theorem trim_mem {l : List Int} {a : Int} (h : a ∈ trim l) : a ∈ l := by
  unfold trim at h
  have := (List.dropWhile_sublist _).subset (List.mem_reverse.mp h)
  exact List.mem_reverse.mp this
theorem trim_last (l : List Int) : (trim l).getLast? ≠ some 0 := by
  induction l using snoc_ind with
  | h0 => simp [trim]
  | h1 l a ih =>
    by_cases c : a = 0
    · subst c; rw [trim_zero]; exact ih
    · rw [trim_ne l c, List.getLast?_append]; simpa using c
/-- entries in 0 .. p - 1 -/
def Rg (p : Int) (l : List Int) : Prop := ∀ a ∈ l, 0 ≤ a ∧ a < p
/-- .. and the last is not nought -/
def Can (p : Int) (l : List Int) : Prop := Rg p l ∧ l.getLast? ≠ some 0
theorem can_trim {p : Int} {l : List Int} (h : Rg p l) : Can p (trim l) := ⟨fun a ha => h a (trim_mem ha), trim_last l⟩
theorem can_nil (p : Int) : Can p [] := ⟨fun a h => absurd h (by simp), by simp⟩
theorem rg_mod {p : Int} (hp : 0 < p) (l : List Int) : Rg p (l.map (· % p)) := fun a h => by
  obtain ⟨b, _, rfl⟩ := List.mem_map.mp h
  exact ⟨Int.emod_nonneg _ (by omega), Int.emod_lt_of_pos _ hp⟩
theorem trim_same {p : Int} {l : List Int} (h : l.getLast? ≠ some 0) : trim l = l := by
  rcases List.eq_nil_or_concat l with rfl | ⟨m, a, rfl⟩
  · rfl
  · rw [List.concat_eq_append] at h ⊢
    exact trim_ne m fun z => h (by rw [z]; simp)
section
variable {F : Type} [CommRing F]
theorem ci_add (a b : Int) : ci F (a + b) = ci F a + ci F b := Ring.intCast_add a b
theorem ci_mul (a b : Int) : ci F (a * b) = ci F a * ci F b := Ring.intCast_mul a b
theorem ci_neg (a : Int) : ci F (-a) = - ci F a := Ring.intCast_neg a
theorem ci_zero : ci F 0 = 0 := Ring.intCast_zero
theorem ci_one : ci F 1 = 1 := Ring.intCast_one
theorem ci_sub (a b : Int) : ci F (a - b) = ci F a - ci F b := by
  rw [Int.sub_eq_add_neg, ci_add, ci_neg]; grind
def PL (F : Type) [CommRing F] (l : List Int) : Poly F := ofL (l.map (ci F))
theorem co_PL (l : List Int) (k : Nat) : co (PL F l) k = ci F (l.getD k 0) := by
  unfold PL
  rw [co_ofL, List.getD_eq_getElem?_getD, List.getD_eq_getElem?_getD, List.getElem?_map]
  cases l[k]? with
  | none => exact ci_zero.symm
  | some x => rfl
theorem PL_ext {l m : List Int} (h : ∀ k, ci F (l.getD k 0) = ci F (m.getD k 0)) : PL F l = PL F m := co_ext fun k => by rw [co_PL, co_PL, h]
theorem deg_PL (l : List Int) {d : Nat} (h : l.length ≤ d) : DegLt (PL F l) d := degLt_ofL _ (by rw [List.length_map]; exact h)
theorem PL_nil : PL F [] = 0 := ofL_nil
theorem PL_cons (a : Int) (l : List Int) : PL F (a :: l) = Cp (ci F a) + Xp * PL F l := ofL_cons _ _
theorem PL_one (a : Int) : PL F [a] = Cp (ci F a) := ofL_one _
theorem PL_trim (l : List Int) : PL F (trim l) = PL F l := PL_ext fun k => by rw [trim_getD]
theorem getD_zeros (l : List Int) (n k : Nat) : (l ++ List.replicate n 0).getD k 0 = l.getD k 0 := by
  rw [List.getD_eq_getElem?_getD, List.getD_eq_getElem?_getD, List.getElem?_append]
  split
  · rfl
  · rw [List.getElem?_eq_none (show l.length ≤ k by omega), List.getElem?_replicate]
    split <;> rfl
theorem PL_zeros (l : List Int) (n : Nat) : PL F (l ++ List.replicate n 0) = PL F l := PL_ext fun k => by rw [getD_zeros]
theorem PL_rep (n : Nat) : PL F (List.replicate n 0) = 0 := by
  have := PL_zeros (F := F) [] n
  rw [List.nil_append] at this
  rw [this, PL_nil]
theorem PL_add {l m : List Int} (h : l.length = m.length) : PL F (List.zipWith (· + ·) l m) = PL F l + PL F m := co_ext fun k => by
  rw [co_add, co_PL, co_PL, co_PL, ← ci_add]
  congr 1
  simp only [List.getD_eq_getElem?_getD, List.getElem?_zipWith]
  by_cases c : k < l.length
  · rw [List.getElem?_eq_getElem c, List.getElem?_eq_getElem (by omega : k < m.length)]; rfl
  · rw [List.getElem?_eq_none (by omega : l.length ≤ k), List.getElem?_eq_none (by omega : m.length ≤ k)]; rfl
theorem PL_scale (l : List Int) (c : Int) : PL F (l.map (· * c)) = Cp (ci F c) * PL F l := co_ext fun k => by
  rw [co_C, co_PL, co_PL, ← ci_mul]
  congr 1
  simp only [List.getD_eq_getElem?_getD, List.getElem?_map]
  cases l[k]? with
  | none => show (0 : Int) = c * 0; omega
  | some x => exact Int.mul_comm x c
theorem co_mono (c : F) (i k : Nat) : co (Cp c * Xp ^ i) k = if k = i then c else 0 := by
  rw [co_C]
  have := co_Xpow (F := F) i 1 k
  rw [show (Xp ^ i : Poly F) * 1 = Xp ^ i by grind] at this
  rw [this]
  rw [show co (1 : Poly F) ((k : Int) - i) = dl ((k : Int) - i) from ap_one dl _]
  unfold dl
  by_cases e : k = i
  · rw [if_pos e, if_pos (by omega)]; grind
  · rw [if_neg e, if_neg (by omega)]; grind
theorem PL_set (l : List Int) {i : Nat} (h : i < l.length) (v : Int) : PL F (l.set i v) = PL F l + Cp (ci F v - ci F (l.getD i 0)) * Xp ^ i := co_ext fun k => by
  rw [co_add, co_mono, co_PL, co_PL]
  simp only [List.getD_eq_getElem?_getD, List.getElem?_set]
  by_cases e : i = k
  · subst e
    rw [if_pos rfl, if_pos h, if_pos rfl]
    show ci F v = _
    grind
  · rw [if_neg e, if_neg (fun z => e z.symm)]; grind
theorem PL_snoc (l : List Int) (a : Int) : PL F (l ++ [a]) = PL F l + Cp (ci F a) * Xp ^ l.length := co_ext fun k => by
  rw [co_add, co_mono, co_PL, co_PL, getD_snoc]
  split
  · rename_i e
    rw [e, List.getD_eq_getElem?_getD, List.getElem?_eq_none (Nat.le_refl _)]
    show ci F a = ci F 0 + _
    rw [ci_zero]; grind
  · grind
theorem PL_app (l m : List Int) : PL F (l ++ m) = PL F l + Xp ^ l.length * PL F m := by
  induction m using snoc_ind with
  | h0 => rw [List.append_nil, PL_nil]; grind
  | h1 m a ih =>
    rw [← List.append_assoc, PL_snoc, ih, PL_snoc, List.length_append]
    grind
theorem PL_take (l : List Int) {i : Nat} (h : i < l.length) : PL F (l.take (i + 1)) = PL F (l.take i) + Cp (ci F (l.getD i 0)) * Xp ^ i := by
  rw [List.take_succ, List.getElem?_eq_getElem h]
  show PL F (l.take i ++ [l[i]]) = _
  rw [PL_snoc, List.length_take, Nat.min_eq_left (by omega), List.getD_eq_getElem?_getD, List.getElem?_eq_getElem h]
  rfl
theorem map_smul (c : Int) (l : List Int) : (smulL c l).map (ci F) = smulL (ci F c) (l.map (ci F)) := by
  unfold smulL
  rw [List.map_map, List.map_map]
  exact List.map_congr_left fun a _ => ci_mul c a
theorem map_addL : ∀ (l m : List Int), (addL l m).map (ci F) = addL (l.map (ci F)) (m.map (ci F))
  | [], m => by cases m <;> rfl
  | a :: l, [] => rfl
  | a :: l, b :: m => by
    show ci F (a + b) :: (addL l m).map (ci F) = (ci F a + ci F b) :: addL (l.map (ci F)) (m.map (ci F))
    rw [ci_add, map_addL l m]
theorem map_mulL : ∀ (l m : List Int), (mulL l m).map (ci F) = mulL (l.map (ci F)) (m.map (ci F))
  | [], m => rfl
  | a :: l, m => by
    show (addL (smulL a m) (0 :: mulL l m)).map (ci F) = addL (smulL (ci F a) (m.map (ci F))) (0 :: mulL (l.map (ci F)) (m.map (ci F)))
    rw [map_addL, map_smul, List.map_cons, map_mulL l m, ci_zero]
theorem PL_mulL (l m : List Int) : PL F (mulL l m) = PL F l * PL F m := by
  unfold PL
  rw [map_mulL, ofL_mulL]
end
section
variable {F : Type} [CommRing F] {p : Nat} [IsCharP F p]
theorem ci_eq {a b : Int} : ci F a = ci F b ↔ a % (p : Int) = b % (p : Int) := IsCharP.intCast_ext_iff p
theorem ci_mod (a : Int) : ci F (a % (p : Int)) = ci F a := ci_eq.mpr (Int.emod_emod_of_dvd _ (Int.dvd_refl _))
theorem ci_z {a : Int} : ci F a = 0 ↔ a % (p : Int) = 0 := IsCharP.intCast_eq_zero_iff p a
theorem ci_ne {a : Int} (h0 : 0 ≤ a) (h1 : a < p) (h : a ≠ 0) : ci F a ≠ 0 := fun z => h (by
  have := ci_z.mp z
  rwa [Int.emod_eq_of_lt h0 h1] at this)
theorem PL_mod (l : List Int) : PL F (l.map (· % (p : Int))) = PL F l := PL_ext fun k => by
  simp only [List.getD_eq_getElem?_getD, List.getElem?_map]
  cases l[k]? with
  | none => rfl
  | some x => exact ci_mod x
theorem last_getD {l : List Int} (h : l ≠ []) : l.getLast? = some (l.getD (l.length - 1) 0) := by
  rw [List.getLast?_eq_getElem?, List.getD_eq_getElem?_getD]
  have : l.length - 1 < l.length := by have := List.length_pos_iff.mpr h; omega
  rw [List.getElem?_eq_getElem this]; rfl
theorem Can.top {l : List Int} (h : Can p l) (h0 : l ≠ []) : co (PL F l) ((l.length - 1 : Nat) : Int) ≠ 0 := by
  rw [co_PL]
  have hl : l.length - 1 < l.length := by have := List.length_pos_iff.mpr h0; omega
  have e := last_getD h0
  have hm : l.getD (l.length - 1) 0 ∈ l := by
    rw [List.getD_eq_getElem?_getD, List.getElem?_eq_getElem hl]; exact List.getElem_mem hl
  exact ci_ne (h.1 _ hm).1 (h.1 _ hm).2 fun z => h.2 (by rw [e, z])
theorem Can.len {l : List Int} (h : Can p l) {d : Nat} (hd : DegLt (PL F l) d) : l.length ≤ d := by
  by_cases h0 : l = []
  · subst h0; exact Nat.zero_le _
  · refine Nat.le_of_not_lt fun z => h.top (F := F) h0 (hd _ (by omega))
theorem Can.nil {l : List Int} (h : Can p l) (hz : PL F l = 0) : l = [] := by
  have := h.len (F := F) (d := 0) (by rw [hz]; exact degLt_zero 0)
  exact List.length_eq_zero_iff.mp (by omega)
theorem Can.ne {l : List Int} (h : Can p l) (hz : l ≠ []) : PL F l ≠ 0 := fun z => hz (h.nil z)
end
end K76
/-! K76, part M5: products by digits, products by rows, division with rest: what each turn of their loops keeps. -/
namespace K76
open Lean.Grind
set_option autoImplicit false
/-! ### trim is told by its items -/
theorem trim_ext {l m : List Int} (h : ∀ k, l.getD k 0 = m.getD k 0) : trim l = trim m := by
  have h' : ∀ k, (trim l).getD k 0 = (trim m).getD k 0 := fun k => by rw [trim_getD, trim_getD, h]
  have one : ∀ a b : List Int, a.getLast? ≠ some 0 → (∀ k, a.getD k 0 = b.getD k 0) → a.length ≤ b.length := fun a b ha hab => by
    refine Nat.le_of_not_lt fun c => ?_
    have hne : a ≠ [] := fun z => by rw [z] at c; exact absurd c (Nat.not_lt_zero _)
    have e := last_getD hne
    rw [hab, List.getD_eq_getElem?_getD (l := b), List.getElem?_eq_none (by omega)] at e
    exact ha e
  have hl := Nat.le_antisymm (one _ _ (trim_last l) h') (one _ _ (trim_last m) fun k => (h' k).symm)
  apply List.ext_getElem hl
  intro i h1 h2
  have := h' i
  rw [List.getD_eq_getElem?_getD, List.getD_eq_getElem?_getD, List.getElem?_eq_getElem h1, List.getElem?_eq_getElem h2] at this
  exact this
theorem getD_mapmod (l : List Int) (p : Int) (k : Nat) : (l.map (· % p)).getD k 0 = l.getD k 0 % p := by
  simp only [List.getD_eq_getElem?_getD, List.getElem?_map]
  cases l[k]? with
  | none => simp
  | some x => rfl
theorem trim_modext {l m : List Int} {p : Int} (h : ∀ k, l.getD k 0 = m.getD k 0) : trim (l.map (· % p)) = trim (m.map (· % p)) :=
  trim_ext fun k => by rw [getD_mapmod, getD_mapmod, h]
/-! ### whole numbers themselves -/
theorem ci_int (a : Int) : ci Int a = a := rfl
theorem int_getD {l m : List Int} (h : PL Int l = PL Int m) (k : Nat) : l.getD k 0 = m.getD k 0 := by
  have := congrArg (fun q => co q (k : Int)) h
  simp only [co_PL, ci_int] at this
  exact this
/-! ### digits -/
def enc (B : Int) : List Int → Int
  | [] => 0
  | a :: l => a + B * enc B l
theorem enc_smul (B c : Int) : ∀ l, enc B (smulL c l) = c * enc B l
  | [] => by show (0 : Int) = c * 0; omega
  | a :: l => by
    show c * a + B * enc B (smulL c l) = c * (a + B * enc B l)
    rw [enc_smul B c l]; grind
theorem enc_add (B : Int) : ∀ l m, enc B (addL l m) = enc B l + enc B m
  | [], m => by
    show enc B m = 0 + enc B m
    omega
  | a :: l, [] => by
    show enc B (a :: l) = enc B (a :: l) + 0
    omega
  | a :: l, b :: m => by
    show (a + b) + B * enc B (addL l m) = (a + B * enc B l) + (b + B * enc B m)
    rw [enc_add B l m]; grind
theorem enc_mul (B : Int) : ∀ l m, enc B (mulL l m) = enc B l * enc B m
  | [], m => by show (0 : Int) = 0 * enc B m; omega
  | a :: l, m => by
    show enc B (addL (smulL a m) (0 :: mulL l m)) = (a + B * enc B l) * enc B m
    rw [enc_add, enc_smul]
    show a * enc B m + (0 + B * enc B (mulL l m)) = _
    rw [enc_mul B l m]; grind
theorem enc_range {B : Int} (hB : 0 < B) : ∀ l, Rg B l → 0 ≤ enc B l ∧ enc B l < B ^ l.length
  | [], _ => by show (0 : Int) ≤ 0 ∧ (0 : Int) < B ^ 0; rw [Int.pow_zero]; omega
  | a :: l, h => by
    have ih := enc_range hB l fun x hx => h x (List.mem_cons_of_mem _ hx)
    have ha := h a List.mem_cons_self
    show 0 ≤ a + B * enc B l ∧ a + B * enc B l < B ^ (l.length + 1)
    have h1 : 0 ≤ B * enc B l := Int.mul_nonneg (by omega) ih.1
    have h2 : B * (enc B l + 1) ≤ B * B ^ l.length := Int.mul_le_mul_of_nonneg_left (by omega) (by omega)
    rw [Int.pow_succ]
    constructor
    · omega
    · have e1 : B * (enc B l + 1) = B * enc B l + B := by grind
      have e2 : B ^ l.length * B = B * B ^ l.length := by grind
      omega
theorem enc_drop {B : Int} (l : List Int) {k : Nat} (h : k < l.length) : enc B (l.drop k) = l.getD k 0 + B * enc B (l.drop (k + 1)) := by
  rw [List.drop_eq_getElem_cons h, List.getD_eq_getElem?_getD, List.getElem?_eq_getElem h]
  rfl
theorem enc_zero {B : Int} (hB : 0 < B) : ∀ l, Rg B l → enc B l = 0 → ∀ k, l.getD k 0 = 0
  | [], _, _, k => by simp
  | a :: l, h, hz, k => by
    have ih := enc_range hB l fun x hx => h x (List.mem_cons_of_mem _ hx)
    have ha := h a List.mem_cons_self
    have h1 : 0 ≤ B * enc B l := Int.mul_nonneg (by omega) ih.1
    have hz' : a + B * enc B l = 0 := hz
    have a0 : a = 0 := by omega
    have e0 : B * enc B l = 0 := by omega
    have e1 : enc B l = 0 := by
      rcases Int.mul_eq_zero.mp e0 with z | z
      · omega
      · exact z
    cases k with
    | zero => show a = 0; exact a0
    | succ k => show l.getD k 0 = 0; exact enc_zero hB l (fun x hx => h x (List.mem_cons_of_mem _ hx)) e1 k
/-- the digits of a product of two rows stay small -/
theorem smul_bd {c b : Int} {d : Int} (hc : 0 ≤ c ∧ c ≤ d) : ∀ {l : List Int}, (∀ a ∈ l, 0 ≤ a ∧ a ≤ b) → ∀ a ∈ smulL c l, 0 ≤ a ∧ a ≤ d * b := fun {l} h a ha => by
  obtain ⟨x, hx, rfl⟩ := List.mem_map.mp ha
  have := h x hx
  exact ⟨Int.mul_nonneg hc.1 this.1, Int.mul_le_mul hc.2 this.2 this.1 (by omega)⟩
theorem add_bd {b c : Int} (hb : 0 ≤ b) (hc : 0 ≤ c) : ∀ {l m : List Int}, (∀ a ∈ l, 0 ≤ a ∧ a ≤ b) → (∀ a ∈ m, 0 ≤ a ∧ a ≤ c) → ∀ a ∈ addL l m, 0 ≤ a ∧ a ≤ b + c
  | [], m, _, h, a, ha => by have := h a ha; omega
  | x :: l, [], h, _, a, ha => by have := h a ha; omega
  | x :: l, y :: m, h1, h2, a, ha => by
    have hx := h1 x List.mem_cons_self
    have hy := h2 y List.mem_cons_self
    have ha' : a ∈ (x + y) :: addL l m := ha
    rcases List.mem_cons.mp ha' with rfl | ha'
    · omega
    · exact add_bd hb hc (fun z hz => h1 z (List.mem_cons_of_mem _ hz)) (fun z hz => h2 z (List.mem_cons_of_mem _ hz)) a ha'
theorem mul_bd {b : Int} (hb : 0 ≤ b) : ∀ {l m : List Int}, (∀ a ∈ l, 0 ≤ a ∧ a ≤ b) → (∀ a ∈ m, 0 ≤ a ∧ a ≤ b) → ∀ a ∈ mulL l m, 0 ≤ a ∧ a ≤ l.length * (b * b)
  | [], m, _, _, a, ha => by cases ha
  | x :: l, m, h1, h2, a, ha => by
    have ih := mul_bd hb (l := l) (m := m) (fun z hz => h1 z (List.mem_cons_of_mem _ hz)) h2
    have hbb : 0 ≤ b * b := Int.mul_nonneg hb hb
    have hl : (0 : Int) ≤ l.length * (b * b) := Int.mul_nonneg (by omega) hbb
    have := add_bd hbb hl (smul_bd (h1 x List.mem_cons_self) h2) (m := 0 :: mulL l m) (fun z hz => by
      rcases List.mem_cons.mp hz with rfl | hz
      · omega
      · exact ih z hz) a ha
    rw [List.length_cons, Int.natCast_add]
    have e : ((l.length : Int) + ((1 : Nat) : Int)) * (b * b) = b * b + l.length * (b * b) := by grind
    rw [e]; exact this
theorem mulL_rg {p : Int} (hp : 2 ≤ p ∧ p ≤ 13) {l m : List Int} (h1 : Rg p l) (h2 : Rg p m) (hl : l.length ≤ 20000) : Rg (2 ^ 24) (mulL l m) := fun a ha => by
  have := mul_bd (b := 12) (by omega) (fun a ha => by have := h1 a ha; omega) (fun a ha => by have := h2 a ha; omega) a ha
  have e : (l.length : Int) * (12 * 12) ≤ 20000 * 144 := by omega
  have : (2 : Int) ^ 24 = 16777216 := by decide
  omega
/-! ### a step of the product by rows -/
section
variable {F : Type} [CommRing F]
theorem mul_step {found one other : List Int} {i j : Nat} (hi : i < one.length) (hj : j < other.length) (hf : found.length + 1 = one.length + other.length)
    (h : PL F found = PL F (one.take i) * PL F other + Cp (ci F (one.getD i 0)) * Xp ^ i * PL F (other.take j)) :
    PL F (found.set (i + j) (found.getD (i + j) 0 + one.getD i 0 * other.getD j 0)) = PL F (one.take i) * PL F other + Cp (ci F (one.getD i 0)) * Xp ^ i * PL F (other.take (j + 1)) := by
  rw [PL_set _ (by omega), h, PL_take _ hj, ci_add, ci_mul]
  have e : (Xp : Poly F) ^ (i + j) = Xp ^ i * Xp ^ j := by grind
  have e2 : Cp (ci F (found.getD (i + j) 0) + ci F (one.getD i 0) * ci F (other.getD j 0) - ci F (found.getD (i + j) 0)) = Cp (ci F (one.getD i 0)) * Cp (ci F (other.getD j 0)) := by
    rw [← Cp_mul]; congr 1; grind
  rw [e, e2]; grind
theorem mul_turn {one other : List Int} {i : Nat} (hi : i < one.length) :
    PL F (one.take i) * PL F other + Cp (ci F (one.getD i 0)) * Xp ^ i * PL F (other.take other.length) = PL F (one.take (i + 1)) * PL F other := by
  rw [List.take_length, PL_take _ hi]; grind
theorem mul_skip {one other : List Int} {i : Nat} (hi : i < one.length) (h0 : one.getD i 0 = 0) : PL F (one.take i) * PL F other = PL F (one.take (i + 1)) * PL F other := by
  rw [PL_take _ hi, h0, ci_zero, Cp_zero]; grind
end
/-! ### division -/
section
variable {F : Type} [CommRing F] {p : Nat} [IsCharP F p]
theorem PL_setmod (l : List Int) {i : Nat} (h : i < l.length) (v : Int) : PL F (l.set i (v % (p : Int))) = PL F l + Cp (ci F v - ci F (l.getD i 0)) * Xp ^ i := by
  rw [PL_set _ h, ci_mod]
theorem div_step {r0 : Poly F} {rest other : List Int} {at' j : Nat} {f : Int} (hj : j < other.length) (hr : at' + j < rest.length) (h : PL F rest = r0 - Cp (ci F f) * Xp ^ at' * PL F (other.take j)) :
    PL F (rest.set (at' + j) ((rest.getD (at' + j) 0 - f * other.getD j 0) % (p : Int))) = r0 - Cp (ci F f) * Xp ^ at' * PL F (other.take (j + 1)) := by
  rw [PL_setmod _ hr, h, PL_take _ hj, ci_sub, ci_mul]
  have e : (Xp : Poly F) ^ (at' + j) = Xp ^ at' * Xp ^ j := by grind
  have e2 : Cp (ci F (rest.getD (at' + j) 0) - ci F f * ci F (other.getD j 0) - ci F (rest.getD (at' + j) 0)) = - (Cp (ci F f) * Cp (ci F (other.getD j 0))) := by
    rw [← Cp_mul, ← Cp_neg]; congr 1; grind
  rw [e, e2]; grind
theorem div_turn {one other rest quot rest' : List Int} {at' : Nat} {f h : Int} (ho : other ≠ []) (hq : at' < quot.length) (hq0 : quot.getD at' 0 = 0)
    (hf : f = rest.getD (at' + other.length - 1) 0 * h % (p : Int)) (hh : ci F h * ci F (other.getD (other.length - 1) 0) = 1)
    (e : PL F one = PL F quot * PL F other + PL F rest) (d : DegLt (PL F rest) (at' + other.length))
    (e' : PL F rest' = PL F rest - Cp (ci F f) * Xp ^ at' * PL F other) :
    PL F one = PL F (quot.set at' f) * PL F other + PL F rest' ∧ DegLt (PL F rest') (at' + other.length - 1) := by
  have hl := List.length_pos_iff.mpr ho
  constructor
  · rw [PL_set _ hq, hq0, e', e, ci_zero, show ci F f - 0 = ci F f by grind]; grind
  · intro k hk
    rw [e', co_sub]
    have e3 : Cp (ci F f) * Xp ^ at' * PL F other = Cp (ci F f) * (Xp ^ at' * PL F other) := by grind
    rw [e3, co_C, co_Xpow]
    by_cases c : k = at' + other.length - 1
    · subst c
      rw [show ((at' + other.length - 1 : Nat) : Int) - (at' : Int) = ((other.length - 1 : Nat) : Int) by omega, co_PL, co_PL, hf, ci_mod, ci_mul]
      grind
    · rw [d k (by omega), show (k : Int) - (at' : Int) = ((k - at' : Nat) : Int) by omega, deg_PL other (Nat.le_refl _) (k - at') (by omega)]
      grind
theorem PL_takeD {l : List Int} {n : Nat} (h : DegLt (PL F l) n) : PL F (l.take n) = PL F l := co_ext fun k => by
  by_cases c : k < n
  · rw [co_PL, co_PL, List.getD_eq_getElem?_getD, List.getD_eq_getElem?_getD, List.getElem?_take, if_pos c]
  · rw [h k (by omega)]
    exact deg_PL _ (d := n) (by rw [List.length_take]; omega) k (by omega)
end
/-- the inverse modulo a prime -/
theorem inv_ok : ∀ p : Nat, (p = 2 ∨ p = 3 ∨ p = 5 ∨ p = 7 ∨ p = 11 ∨ p = 13) → ∀ a : Nat, 0 < a → a < p → (a ^ (p - 2) % p * a) % p = 1 := by
  have : ∀ p ∈ [2, 3, 5, 7, 11, 13], ∀ a ∈ List.range p, 0 < a → (a ^ (p - 2) % p * a) % p = 1 := by decide +kernel
  intro p hp a h0 h1
  exact this p (by simp; exact hp) a (List.mem_range.mpr h1) h0
theorem ci_inv {F : Type} [CommRing F] {p : Nat} [IsCharP F p] (hp : p = 2 ∨ p = 3 ∨ p = 5 ∨ p = 7 ∨ p = 11 ∨ p = 13) {a : Int} (h0 : 0 < a) (h1 : a < p) : ci F (a ^ ((p : Int) - 2).toNat % (p : Int)) * ci F a = 1 := by
  rw [← ci_mul, ← ci_one, ci_eq (p := p)]
  have h := inv_ok p hp a.toNat (by omega) (by omega)
  have ea : a = (a.toNat : Int) := by omega
  rw [ea, show ((p : Int) - 2).toNat = p - 2 by omega]
  rw [show (((a.toNat : Int)) ^ (p - 2) % (p : Int) * (a.toNat : Int)) % (p : Int) = (((a.toNat ^ (p - 2) % p * a.toNat) % p : Nat) : Int) by
    rw [Int.natCast_emod, Int.natCast_mul, Int.natCast_emod, Int.natCast_pow], h]
  have hb : 2 ≤ p := by omega
  rw [Int.emod_eq_of_lt (by omega) (by omega)]; rfl
end K76
/-! K76, part M6: steps of rows of whole numbers modulo p, as polynomials. -/
namespace K76
open Lean.Grind
set_option autoImplicit false
/-- the primes -/
def Pr (p : Int) : Prop := p = 2 ∨ p = 3 ∨ p = 5 ∨ p = 7 ∨ p = 11 ∨ p = 13
theorem Pr.b {p : Int} (h : Pr p) : 2 ≤ p ∧ p ≤ 13 := by unfold Pr at h; omega
/-! ### the field of a prime -/
theorem fpx1 (p : Nat) [NeZero p] [Fld (Fin p)] (hf : Frob p (Fin p)) (h3 : ∀ x : Fin p, ∃ a ∈ List.range p, ci (Fin p) (a : Int) = x) :
    ∃ (F : Type) (_ : CommRing F) (_ : Fld F) (_ : IsCharP F p), Frob p F ∧ ∀ x : F, ∃ a : Int, 0 ≤ a ∧ a < p ∧ ci F a = x :=
  ⟨Fin p, inferInstance, inferInstance, inferInstance, hf, fun x => by
    obtain ⟨a, ha, e⟩ := h3 x
    have := List.mem_range.mp ha
    exact ⟨a, by omega, by omega, e⟩⟩
theorem fpx (p : Nat) (h : Pr p) : ∃ (F : Type) (_ : CommRing F) (_ : Fld F) (_ : IsCharP F p), Frob p F ∧ ∀ x : F, ∃ a : Int, 0 ≤ a ∧ a < p ∧ ci F a = x := by
  have z : p = 2 ∨ p = 3 ∨ p = 5 ∨ p = 7 ∨ p = 11 ∨ p = 13 := by unfold Pr at h; omega
  rcases z with rfl | rfl | rfl | rfl | rfl | rfl
  · haveI : Fld (Fin 2) := ⟨by decide, by decide⟩
    exact fpx1 2 (frob2 (show Cp (2 : Fin 2) = Cp 0 from congrArg Cp (by decide))) (by decide)
  · haveI : Fld (Fin 3) := ⟨by decide, by decide⟩
    exact fpx1 3 (frob3 (show Cp (3 : Fin 3) = Cp 0 from congrArg Cp (by decide))) (by decide)
  · haveI : Fld (Fin 5) := ⟨by decide, by decide⟩
    exact fpx1 5 (frob5 (show Cp (5 : Fin 5) = Cp 0 from congrArg Cp (by decide))) (by decide)
  · haveI : Fld (Fin 7) := ⟨by decide, by decide⟩
    exact fpx1 7 (frob7 (show Cp (7 : Fin 7) = Cp 0 from congrArg Cp (by decide))) (by decide)
  · haveI : Fld (Fin 11) := ⟨by decide, by decide⟩
    exact fpx1 11 (frob11 (show Cp (11 : Fin 11) = Cp 0 from congrArg Cp (by decide))) (by decide)
  · haveI : Fld (Fin 13) := ⟨by decide, by decide⟩
    exact fpx1 13 (frob13 (show Cp (13 : Fin 13) = Cp 0 from congrArg Cp (by decide))) (by decide)
/-! ### steps of rows of whole numbers -/
def stp (ts : List (Int × Int)) (s : List Int) (i : Int) : Int := (ts.map fun t => t.2 * s.getD ((i + t.1) % s.length).toNat 0).sum
/-- s is a row of N values ahead of the row w -/
structure Ahd (p : Int) (ts : List (Int × Int)) (N : Nat) (w s : List Int) : Prop where
  len : s.length = N
  rg : Rg p s
  stp : ∀ i : Nat, i < N → stp ts s i % p = w.getD (i % w.length) 0 % p
def HasI (p : Int) (ts : List (Int × Int)) (N : Nat) (w : List Int) : Prop := ∃ s, Ahd p ts N w s
/-- the terms left modulo p -/
def lft (p : Int) (ts : List (Int × Int)) : List (Int × Int) := (ts.map fun t => (t.1, t.2 % p)).filter fun t => !decide (t.2 = 0)
/-- the factor at an offset -/
def cf : List (Int × Int) → Int → Int
  | [], _ => 0
  | t :: l, o => if t.1 = o then t.2 else cf l o
def Asc (l : List (Int × Int)) : Prop := l.Pairwise fun a b => a.1 < b.1
theorem Asc.lft {ts : List (Int × Int)} (h : Asc ts) (p : Int) : Asc (lft p ts) := by
  unfold K76.lft
  refine List.Pairwise.filter _ ?_
  exact List.Pairwise.map _ (fun a b h => h) h
theorem cf_none {l : List (Int × Int)} {o : Int} (h : ∀ t ∈ l, t.1 ≠ o) : cf l o = 0 := by
  induction l with
  | nil => rfl
  | cons t l ih =>
    show (if t.1 = o then t.2 else cf l o) = 0
    rw [if_neg (h t List.mem_cons_self)]
    exact ih fun u hu => h u (List.mem_cons_of_mem _ hu)
section
variable {F : Type} [CommRing F]
def TrmS (F : Type) [CommRing F] (hi : Int) : List (Int × Int) → Poly F
  | [] => 0
  | t :: l => Cp (ci F t.2) * Xp ^ (hi - t.1).toNat + TrmS F hi l
def sg : List (Int × Int) → (Int → F) → Int → F
  | [], _, _ => 0
  | t :: l, s, i => ci F t.2 * s (i + t.1) + sg l s i
theorem ap_TS (s : Int → F) (hi : Int) : ∀ (l : List (Int × Int)), (∀ t ∈ l, t.1 ≤ hi) → ∀ i, ap (TrmS F hi l) s (i + hi) = sg l s i
  | [], _, i => ap_zero s _
  | t :: l, h, i => by
    have h1 := h t List.mem_cons_self
    show ap (Cp (ci F t.2) * Xp ^ (hi - t.1).toNat + TrmS F hi l) s (i + hi) = ci F t.2 * s (i + t.1) + sg l s i
    rw [ap_add, ap_TS s hi l fun u hu => h u (List.mem_cons_of_mem _ hu), ap_mul, ap_C, ap_Xpow, show i + hi - ((hi - t.1).toNat : Int) = i + t.1 by omega]
theorem co_TS (hi : Int) : ∀ (l : List (Int × Int)), Asc l → (∀ t ∈ l, t.1 ≤ hi) → ∀ k : Nat, co (TrmS F hi l) k = ci F (cf l (hi - k))
  | [], _, _, k => by
    show co (0 : Poly F) k = ci F 0
    rw [co_zero, ci_zero]
  | t :: l, h, hh, k => by
    have h1 := hh t List.mem_cons_self
    obtain ⟨h2, h3⟩ := List.pairwise_cons.mp h
    show co (Cp (ci F t.2) * Xp ^ (hi - t.1).toNat + TrmS F hi l) k = ci F (if t.1 = hi - k then t.2 else cf l (hi - k))
    rw [co_add, co_mono, co_TS hi l h3 fun u hu => hh u (List.mem_cons_of_mem _ hu)]
    by_cases c : t.1 = hi - k
    · rw [if_pos c, if_pos (by omega), cf_none fun u hu => by have := h2 u hu; omega, ci_zero]; grind
    · rw [if_neg c, if_neg (by omega)]; grind
theorem PL_TS {hi : Int} {l : List (Int × Int)} (h : Asc l) (hh : ∀ t ∈ l, t.1 ≤ hi) {one : List Int} (e : ∀ k : Nat, one.getD k 0 = cf l (hi - k)) : PL F one = TrmS F hi l := co_ext fun k => by
  rw [co_PL, co_TS hi l h hh, e]
/-- a list, again and again -/
def sq (F : Type) [CommRing F] (s : List Int) : Int → F := fun i => ci F (s.getD (i % s.length).toNat 0)
theorem per_sq (s : List Int) : Per s.length (sq F s) := fun i => by
  unfold sq
  rw [Int.add_emod_right]
theorem sg_sq (s : List Int) (i : Int) : ∀ ts : List (Int × Int), sg ts (sq F s) i = ci F (stp ts s i)
  | [] => ci_zero.symm
  | t :: ts => by
    show ci F t.2 * sq F s (i + t.1) + sg ts (sq F s) i = ci F ((List.map _ (t :: ts)).sum)
    rw [sg_sq s i ts, List.map_cons, List.sum_cons, ci_add, ci_mul]; rfl
end
section
variable {F : Type} [CommRing F] [Fld F] {p : Nat} [IsCharP F p]
theorem sg_lft (s : Int → F) (i : Int) : ∀ ts : List (Int × Int), sg (lft p ts) s i = sg ts s i
  | [] => rfl
  | t :: ts => by
    have ih := sg_lft s i ts
    unfold lft at ih ⊢
    rw [List.map_cons, List.filter_cons]
    show _ = ci F t.2 * s (i + t.1) + sg ts s i
    split
    · show ci F (t.2 % (p : Int)) * s (i + t.1) + sg _ s i = _
      rw [ih, ci_mod]
    · rename_i h
      have h0 : t.2 % (p : Int) = 0 := by simpa using h
      rw [ih, ci_z.mpr h0]; grind
/-- what a polynomial of a rule is -/
structure Rul (p : Nat) (ts : List (Int × Int)) (hi : Int) (one : List Int) : Prop where
  asc : Asc ts
  le : ∀ t ∈ lft p ts, t.1 ≤ hi
  one : ∀ k : Nat, one.getD k 0 = cf (lft p ts) (hi - k)
theorem Rul.ap {ts : List (Int × Int)} {hi : Int} {one : List Int} (h : Rul p ts hi one) (s : Int → F) (i : Int) : ap (PL F one) s (i + hi) = sg ts s i := by
  rw [PL_TS (h.asc.lft p) h.le h.one, ap_TS s hi _ h.le, sg_lft]
theorem has_of_ahd {ts : List (Int × Int)} {hi : Int} {one w s : List Int} {N : Nat} (h : Rul p ts hi one) (hN : 0 < N) (hw : Per N (sq F w)) (a : Ahd p ts N w s) : Has (PL F one) N fun i => sq F w (i - hi) := by
  have hp := per_sq (F := F) s
  rw [a.len] at hp
  refine ⟨sq F s, hp, fun i => ?_⟩
  have e := h.ap (sq F s) (i - hi)
  rw [show i - hi + hi = i by omega, sg_sq] at e
  rw [e]
  have h0 := Int.emod_nonneg (i - hi) (show (N : Int) ≠ 0 by omega)
  have h1 := Int.emod_lt_of_pos (i - hi) (show 0 < (N : Int) by omega)
  have e2 : ci F (stp ts s ((i - hi) % N)) = sq F w ((i - hi) % N) := by
    unfold sq
    have := a.stp ((i - hi) % N).toNat (by omega)
    rw [show (((i - hi) % N).toNat : Int) = (i - hi) % N by omega] at this
    rw [ci_eq (p := p), this]
    congr 2
    have e3 : (i - hi) % (N : Int) = (((i - hi) % (N : Int)).toNat : Int) := by omega
    generalize ((i - hi) % (N : Int)).toNat = k at *
    rw [e3, ← Int.natCast_emod, Int.toNat_natCast]
  rw [hw.mod] at e2
  show ci F (stp ts s (i - hi)) = sq F w (i - hi)
  rw [← e2, ← sg_sq, ← sg_sq]
  have key : ∀ l : List (Int × Int), sg l (sq F s) (i - hi) = sg l (sq F s) ((i - hi) % N) := by
    intro l
    induction l with
    | nil => rfl
    | cons t l ih =>
      show ci F t.2 * sq F s (i - hi + t.1) + sg l (sq F s) (i - hi) = ci F t.2 * sq F s ((i - hi) % N + t.1) + sg l (sq F s) ((i - hi) % N)
      rw [ih, ← hp.mod (i - hi + t.1), ← hp.mod ((i - hi) % N + t.1), Int.emod_add_emod]
  exact key ts
theorem ahd_of_seq {ts : List (Int × Int)} {w s : List Int} {N : Nat} (hs : s.length = N) (hr : Rg p s) (he : ∀ i : Int, sg ts (sq F s) i = sq F w i) : Ahd p ts N w s := by
  refine ⟨hs, hr, fun i hi => ?_⟩
  have := he i
  rw [sg_sq] at this
  unfold sq at this
  have := (ci_eq (p := p)).mp this
  rw [this]
  congr 2
theorem ahd_of_has {ts : List (Int × Int)} {hi : Int} {one w : List Int} {N : Nat} (h : Rul p ts hi one) (hN : 0 < N) (sj : ∀ x : F, ∃ a : Int, 0 ≤ a ∧ a < p ∧ ci F a = x) (a : Has (PL F one) N fun i => sq F w (i - hi)) : HasI p ts N w := by
  obtain ⟨s, hs, he⟩ := a
  let z : List Int := (List.range N).map fun (k : Nat) => (sj (s k)).choose
  have hz : z.length = N := by show ((List.range N).map _).length = N; rw [List.length_map, List.length_range]
  have hg : ∀ k : Nat, k < N → z.getD k 0 = (sj (s k)).choose := fun k hk => by
    show ((List.range N).map _).getD k 0 = _
    rw [List.getD_eq_getElem?_getD, List.getElem?_map, List.getElem?_range hk]; rfl
  have e : sq F z = s := funext fun i => by
    unfold sq
    rw [hz]
    have h0 := Int.emod_nonneg i (show (N : Int) ≠ 0 by omega)
    have h1 := Int.emod_lt_of_pos i (show 0 < (N : Int) by omega)
    rw [hg _ (by omega), (sj _).choose_spec.2.2, show ((i % (N : Int)).toNat : Int) = i % (N : Int) by omega, hs.mod]
  refine ⟨z, ahd_of_seq (F := F) hz (fun a ha => ?_) fun i => ?_⟩
  · obtain ⟨k, _, rfl⟩ := List.mem_map.mp ha
    exact ⟨(sj _).choose_spec.1, (sj _).choose_spec.2.1⟩
  · rw [e, ← h.ap, he]
    show sq F w (i + hi - hi) = sq F w i
    rw [show i + hi - hi = i by omega]
end
theorem has_iff {p : Nat} (hp : Pr p) {ts : List (Int × Int)} {hi : Int} {one w : List Int} {N : Nat} (h : Rul p ts hi one) (hN : 0 < N) (hw : w.length ∣ N) :
    ∃ (F : Type) (_ : CommRing F) (_ : Fld F) (_ : IsCharP F p), Frob p F ∧ (∀ x : F, ∃ a : Int, 0 ≤ a ∧ a < p ∧ ci F a = x) ∧ (HasI p ts N w ↔ Has (PL F one) N fun i => sq F w (i - hi)) := by
  obtain ⟨F, _, _, _, h1, h2⟩ := fpx p hp
  refine ⟨F, _, inferInstance, inferInstance, h1, h2, fun ⟨s, a⟩ => has_of_ahd h hN ?_ a, ahd_of_has h hN h2⟩
  obtain ⟨k, rfl⟩ := hw
  exact (per_sq w).mul k
theorem per_shift {F : Type} [CommRing F] {n : Nat} {w : Int → F} (h : Per n w) (d : Int) : Per n fun i => w (i - d) := fun i => by
  show w (i + n - d) = w (i - d)
  rw [show i + (n : Int) - d = i - d + n by omega, h]
/-- fewer times: the share of other primes tells nothing -/
theorem hasI_part {p : Nat} (hp : Pr p) {ts : List (Int × Int)} {hi : Int} {one w : List Int} {M k : Nat} (h : Rul p ts hi one) (hM : 0 < M) (hw : w.length ∣ M) (hk : ¬ p ∣ k) (a : HasI p ts (M * k) w) : HasI p ts M w := by
  have k0 : 0 < k := Nat.pos_of_ne_zero fun z => hk (by rw [z]; exact Nat.dvd_zero p)
  obtain ⟨F, _, _, _, h1, h2⟩ := fpx p hp
  have hper : Per M (sq F w) := by
    obtain ⟨j, rfl⟩ := hw
    exact (per_sq w).mul j
  obtain ⟨s, a⟩ := a
  refine ahd_of_has h hM h2 (has_part (k := k) (per_shift hper hi) ?_ (has_of_ahd h (Nat.mul_pos hM k0) (hper.mul k) a))
  intro z
  have e : ci F (k : Int) = 0 := by
    unfold ci
    rw [Ring.intCast_natCast, ← Semiring.ofNat_eq_natCast]
    exact z
  have := ci_z.mp e
  exact hk (Int.natCast_dvd_natCast.mp (Int.dvd_of_emod_eq_zero this))
theorem hasI_more {p : Nat} (hp : Pr p) {ts : List (Int × Int)} {hi : Int} {one w : List Int} {M : Nat} (h : Rul p ts hi one) (hM : 0 < M) (hw : w.length ∣ M) {k : Nat} (hk : 0 < k) (a : HasI p ts M w) : HasI p ts (M * k) w := by
  obtain ⟨F, _, _, _, h1, h2⟩ := fpx p hp
  have hper : Per M (sq F w) := by
    obtain ⟨j, rfl⟩ := hw
    exact (per_sq w).mul j
  obtain ⟨s, a⟩ := a
  exact ahd_of_has h (Nat.mul_pos hM hk) h2 (has_more (has_of_ahd h hM hper a) k)
theorem hasI_great {p : Nat} (hp : Pr p) {ts : List (Int × Int)} {hi : Int} {one w : List Int} (h : Rul p ts hi one) (hc : Can p one) (hne : one ≠ []) (hn : 0 < w.length) (a : Nat) (ha : one.length ≤ p ^ a) : HasI p ts (w.length * p ^ a) w := by
  obtain ⟨F, _, _, _, h1, h2⟩ := fpx p hp
  have h0 := List.length_pos_iff.mpr hne
  have hpos : 0 < p ^ a := by omega
  refine ahd_of_has h (Nat.mul_pos hn hpos) h2 (has_great (d := one.length - 1) h1 (hc.ne hne) (deg_PL one (by omega)) hn (per_shift (per_sq w) hi) a (by omega))
end K76
/-! K76, part M7: a division's answer; what a row ahead is made of. -/
namespace K76
open Lean.Grind
set_option autoImplicit false
/-- a division's answer -/
structure SplitR (p : Nat) (ns ms qs rs : List Int) : Prop where
  q : Can p qs
  r : Can p rs
  len : rs.length < ms.length
  qlen : qs.length ≤ ns.length + 1 - ms.length
  eq : ∀ (F : Type) [CommRing F] [IsCharP F p], PL F ns = PL F qs * PL F ms + PL F rs
/-- what is left of a division -/
structure RestR (p : Nat) (ns ms rs : List Int) : Prop where
  r : Can p rs
  len : rs.length < ms.length
  eq : ∀ (F : Type) [CommRing F] [IsCharP F p], ∃ q, PL F ns = q * PL F ms + PL F rs
theorem SplitR.rest {p : Nat} {ns ms qs rs : List Int} (h : SplitR p ns ms qs rs) : RestR p ns ms rs := ⟨h.r, h.len, fun F _ _ => ⟨_, h.eq F⟩⟩
/-- the greatest that divides two -/
structure ComR (p : Nat) (ns ms g : List Int) : Prop where
  can : Can p g
  ne : g ≠ []
  ex : ∀ (F : Type) [CommRing F] [IsCharP F p], (∃ u v, PL F g = u * PL F ns + v * PL F ms) ∧ Dv (PL F g) (PL F ns) ∧ Dv (PL F g) (PL F ms)
/-- .. one and x ** N - 1 -/
structure GcdR (p : Nat) (one : List Int) (N : Nat) (g : List Int) : Prop where
  can : Can p g
  ne : g ≠ []
  ex : ∀ (F : Type) [CommRing F] [IsCharP F p], (∃ u v : Poly F, PL F g = u * PL F one + v * An N) ∧ Dv (PL F g) (PL F one) ∧ Dv (PL F g) (An N : Poly F)
theorem ComR.gcd {p : Nat} {one ms g : List Int} {N : Nat} (h : ComR p one ms g) (e : ∀ (F : Type) [CommRing F] [IsCharP F p], ∃ k : Poly F, PL F ms = An N + k * PL F one) : GcdR p one N g := by
  refine ⟨h.can, h.ne, fun F _ _ => ?_⟩
  obtain ⟨⟨u, v, e1⟩, ⟨a, e2⟩, ⟨b, e3⟩⟩ := h.ex F
  obtain ⟨k, e4⟩ := e F
  refine ⟨⟨u + v * k, v, by rw [e1, e4]; grind⟩, ⟨a, e2⟩, ⟨b - k * a, ?_⟩⟩
  rw [e4] at e3
  grind
section
variable {F : Type} [CommRing F] [Fld F] {p : Nat} [IsCharP F p]
theorem Can.deg {l : List Int} (h : Can p l) (h0 : l ≠ []) : co (PL F l) ((l.length - 1 : Nat) : Int) ≠ 0 ∧ DegLt (PL F l) (l.length - 1 + 1) := ⟨h.top h0, deg_PL l (by omega)⟩
theorem RestR.nil {ns ms rs : List Int} (h : RestR p ns ms rs) (hm : Can p ms) (h0 : ms ≠ []) (d : Dv (PL F ms) (PL F ns)) : rs = [] := by
  obtain ⟨k, e1⟩ := d
  obtain ⟨q, e2⟩ := h.eq F
  have hl := List.length_pos_iff.mpr h0
  have hd := Can.deg (F := F) hm h0
  have hlen := h.len
  have e3 : PL F rs = (k - q) * PL F ms := by grind
  have e4 : DegLt (k - q) (ms.length - 1 - (ms.length - 1)) := deg_left hd.1 hd.2 (by rw [← e3]; exact deg_PL rs (by omega))
  rw [Nat.sub_self] at e4
  refine h.r.nil (F := F) ?_
  rw [e3, e4.eq_zero]; grind
theorem ap_PL_dN {N : Nat} (h : 0 < N) {l : List Int} (hl : l.length ≤ N) (i : Int) : ap (PL F l) (dN N) i = ci F (l.getD (i % (N : Int)).toNat 0) := by
  unfold PL
  rw [ap_ofL, act_dN h _ (by rw [List.length_map]; exact hl)]
  rw [← co_ofL, show ofL (l.map (ci F)) = PL F l from rfl, co_PL]
theorem ap_PL_sq {l : List Int} (h : 0 < l.length) : ap (PL F l) (dN l.length) = sq F l := funext fun i => ap_PL_dN h (Nat.le_refl _) i
/-- the greatest polynomial that divides both tells which rows have one ahead -/
theorem free_iff {one g W W' rs : List Int} {N : Nat} (hN : 0 < N) (hl : W.length = N) (h : GcdR p one N g) (e : PL F W' = PL F W) (hr : RestR p W' g rs) : rs = [] ↔ Has (PL F one) N (sq F W) := by
  obtain ⟨⟨u, v, e1⟩, h2, h3⟩ := h.ex F
  have hd := h.can.deg (F := F) h.ne
  have hgl := List.length_pos_iff.mpr h.ne
  have hW := ap_PL_sq (F := F) (l := W) (by omega)
  rw [hl] at hW
  obtain ⟨q, e2⟩ := hr.eq F
  have hlen := hr.len
  constructor
  · intro z
    subst z
    rw [← hW, ← e]
    exact has_of_dv e1 ⟨q, by rw [e2, PL_nil]; grind⟩
  · intro z
    rw [← hW] at z
    exact hr.r.nil (F := F) (rest_of_has hN h2 h3 hd.1 hd.2 (by rw [← e]; exact e2) (deg_PL rs (by omega)) z)
theorem has_shift {o : Poly F} {N : Nat} {w : Int → F} (d : Int) (h : Has o N w) : Has o N fun i => w (i - d) := by
  obtain ⟨s, hs, e⟩ := h
  refine ⟨fun i => s (i + -d), fun i => ?_, fun i => ?_⟩
  · show s (i + N + -d) = s (i + -d)
    rw [show i + (N : Int) + -d = i + -d + N by omega, hs]
  · rw [ap_shift, e]
    congr 1
theorem has_shift_iff {o : Poly F} {N : Nat} {w : Int → F} (d : Int) : Has o N w ↔ Has o N fun i => w (i - d) := by
  refine ⟨has_shift d, fun h => ?_⟩
  have := has_shift (-d) h
  have e : (fun i => (fun i => w (i - d)) (i - -d)) = w := funext fun i => by
    show w (i - -d - d) = w i
    congr 1; omega
  rwa [e] at this
theorem coprime {one g own whole : List Int} {N : Nat} (h : GcdR p one N g) (e1 : PL F one = PL F own * PL F g) (e2 : (An N : Poly F) = PL F whole * PL F g) : ∃ u v, u * PL F whole + v * PL F own = 1 := by
  obtain ⟨⟨u, v, e3⟩, _⟩ := h.ex F
  refine ⟨v, u, ?_⟩
  have hg := h.can.ne (F := F) h.ne
  have : (v * PL F whole + u * PL F own - 1) * PL F g = 0 := by grind
  rcases domP this with z | z
  · grind
  · exact absurd z hg
/-- the row ahead -/
theorem row_ok (hp0 : 0 < p) {ts : List (Int × Int)} {hi : Int} {one g own whole goal goal2 row cur mv : List Int} {N : Nat} (R : Rul p ts hi one) (hN : 0 < N) (hlc : cur.length = N) (hlm : mv.length = N)
    (hm : ∀ i : Nat, i < N → mv.getD i 0 = cur.getD (((i : Int) - hi) % N).toNat 0)
    (e1 : PL F one = PL F own * PL F g) (e2 : (An N : Poly F) = PL F whole * PL F g) (e3 : PL F mv = PL F goal * PL F g) {v : Poly F} (e4 : PL F goal2 = PL F goal + v * PL F whole) (e5 : PL F goal2 = PL F row * PL F own)
    (hr : Can p row) (hrl : row.length ≤ N) : Ahd p ts N cur (row ++ List.replicate (N - row.length) 0) := by
  have hlen : (row ++ List.replicate (N - row.length) 0).length = N := by rw [List.length_append, List.length_replicate]; omega
  refine ahd_of_seq (F := F) hlen ?_ fun i => ?_
  · intro a ha
    rcases List.mem_append.mp ha with z | z
    · exact hr.1 a z
    · rw [(List.mem_replicate.mp z).2]
      omega
  · have hs : sq F (row ++ List.replicate (N - row.length) 0) = ap (PL F row) (dN N) := by
      have := ap_PL_sq (F := F) (l := row ++ List.replicate (N - row.length) 0) (by omega)
      rw [hlen, PL_zeros] at this
      exact this.symm
    have hmv : ap (PL F mv) (dN N) = sq F mv := by
      have := ap_PL_sq (F := F) (l := mv) (by omega)
      rwa [hlm] at this
    rw [hs, ← R.ap, ← ap_mul]
    have e6 : PL F one * PL F row = PL F mv + v * An N := by
      rw [e1, e2, e3]
      have : PL F own * PL F g * PL F row = (PL F row * PL F own) * PL F g := by grind
      rw [this, ← e5, e4]; grind
    rw [e6, ap_add, ap_mul v, (per_dN N).an, ap_fz, hmv]
    unfold sq
    rw [hlm, hlc]
    have h0 := Int.emod_nonneg (i + hi) (show (N : Int) ≠ 0 by omega)
    have h1 := Int.emod_lt_of_pos (i + hi) (show 0 < (N : Int) by omega)
    rw [hm _ (by omega), show (((i + hi) % (N : Int)).toNat : Int) = (i + hi) % (N : Int) by omega, Int.emod_sub_emod, show i + hi - hi = i by omega]
    grind
end
/-- the rest says whether there is one -/
theorem no_row {p : Nat} (hp : Pr p) {ts : List (Int × Int)} {hi : Int} {one g W goal rest cur mv : List Int} {N : Nat} (R : Rul p ts hi one) (hN : 0 < N) (hlc : cur.length = N) (hlm : mv.length = N)
    (hm : ∀ i : Nat, i < N → mv.getD i 0 = cur.getD (((i : Int) - hi) % N).toNat 0) (h : GcdR p one N g) (hW : ∀ (F : Type) [CommRing F] [IsCharP F p], PL F W = PL F mv) (hr : RestR p W g rest) : rest = [] ↔ HasI p ts N cur := by
  obtain ⟨F, _, _, _, h1, h2, h3⟩ := has_iff hp R hN (w := cur) (by rw [hlc]; exact Nat.dvd_refl _)
  rw [h3, free_iff (F := F) hN hlm h (hW F) hr]
  have e : sq F mv = fun i => sq F cur (i - hi) := funext fun i => by
    unfold sq
    rw [hlm, hlc]
    have h0 := Int.emod_nonneg i (show (N : Int) ≠ 0 by omega)
    have h1 := Int.emod_lt_of_pos i (show 0 < (N : Int) by omega)
    rw [hm _ (by omega), show ((i % (N : Int)).toNat : Int) = i % (N : Int) by omega, Int.emod_sub_emod]
  rw [e]
end K76
/-! K76, part W0: rules of this proof's own: a tuple turned about, great powers, an item read for op=, a tuple once, the table of primes. -/
namespace K76
open PySem PySem.Spec PyProof.Rows L2

/-! ### t[::-1] of a tuple -/
theorem fm_congr {α β : Type} {f g : α → Option β} : ∀ {l : List α}, (∀ k ∈ l, f k = g k) → l.filterMap f = l.filterMap g
  | [], _ => rfl
  | a :: l, h => by
    rw [List.filterMap_cons, List.filterMap_cons, h a List.mem_cons_self, fm_congr fun k hk => h k (List.mem_cons_of_mem _ hk)]
theorem rev_pick (xs : Array Value) : ((List.range xs.size).filterMap fun (k : Nat) => xs[(((xs.size : Int) - 1) + (k : Int) * (-1)).toNat]?).toArray = xs.toList.reverse.toArray := by
  have e : (List.range xs.size).filterMap (fun (k : Nat) => xs[(((xs.size : Int) - 1) + (k : Int) * (-1)).toNat]?) = ((List.range xs.size).map fun k => xs.size - 1 - k).filterMap (xs[·]?) := by
    rw [List.filterMap_map]
    refine fm_congr fun k hk => ?_
    have := List.mem_range.mp hk
    show xs[_]? = xs[xs.size - 1 - k]?
    congr 1
    omega
  rw [e, PySem.W.krv_range, List.filterMap_reverse, PySem.W.krv_all]
section
variable {prog : Program} {w : World} {A : Around} {E : Value → Shared → Prop} {s : Shared}
theorem rev_applied {sl : Addr} {vl vu vs : Value} {n : Nat} {Q : Int × Int × Nat → Shared → Prop} (hs : s.heap.IsSliceOf sl vl vu vs) (pl : IsPart vl none) (pu : IsPart vu none) (ps : IsPart vs (some (-1)))
    (h : Q ((n : Int) - 1, -1, n) s) : wpAny (model prog w) A (Builtin.Slice.sliceApplied (.ref sl) (pure (n : Int))) Q E s := by
  obtain ⟨os, hos, hcs, hds⟩ := id hs
  unfold Builtin.Slice.sliceApplied Builtin.Slice.sliceFields
  refine wpAny_bind (wpAny_bind (wpAny_field hos hds (x := vl) rfl (wpAny_bind (wpAny_field hos hds (x := vu) rfl (wpAny_bind (wpAny_field hos hds (x := vs) rfl (wpAny_pure ?_)))))))
  refine wpAny_bind (HT.slicePart_ ps ?_)
  show wpAny _ _ (if ((-1 : Int) == 0) = true then _ else _) _ _ s
  rw [if_neg (by decide)]
  refine wpAny_bind (HT.slicePart_ pl (wpAny_bind (HT.slicePart_ pu (wpAny_bind (wpAny_pure ?_)))))
  show wpAny _ _ (pure ((n : Int) - 1, (-1 : Int), Builtin.Slice.slicePlaces ((n : Int) - 1) (-1) (-1))) _ _ s
  have e : Builtin.Slice.slicePlaces ((n : Int) - 1) (-1) (-1) = n := by
    unfold Builtin.Slice.slicePlaces
    rw [if_neg (by decide)]
    split
    · rw [show (-(-1) : Int) = 1 by decide, Int.ediv_one]
      omega
    · show (0 : Int).toNat = n
      omega
  rw [e]
  exact wpAny_pure h
theorem getItem_tuple_rev {t sl : Addr} {items : Array Value} {vl vu vs : Value} {Q : Value → Shared → Prop} (ht : IsTup s.heap t items) (hs : s.heap.IsSliceOf sl vl vu vs) (pl : IsPart vl none) (pu : IsPart vu none) (ps : IsPart vs (some (-1)))
    (h : Q (.ref s.heap.objs.size) { s with heap := s.heap.push { cls := .type "tuple", data := .seq items.toList.reverse.toArray } })
    (hsz : items.size ≤ sizeLine) : wpAny (model prog w) A (getItem (.ref t) (.ref sl)) Q E s := by
  have htake : sizeOk (.seq items.toList.reverse.toArray) := by
    show items.toList.reverse.toArray.size ≤ sizeLine
    rw [List.size_toArray, List.length_reverse, Array.length_toList]
    exact hsz
  obtain ⟨os, hos, hcs, hds⟩ := id hs
  have hTs : s.TypeIs (.ref sl) "slice" := ⟨os, hos, hcs⟩
  unfold getItem
  try with_reducible refine wpAny_holding ?_
  first | refine wpAny_bind (wpAny_pure ?_) | skip
  refine wpAny_bind (wpAny_sequenceKey ht.typeIs (by decide) ?_)
  refine wpAny_bind (wpAny_callSpecial?_slot (name := Str.ofString "__getitem__") ht.typeIs PyProof.Rows.slot_tuple_getitem
    (wpAny_call_entry PyProof.Rows.slot_tuple_getitem ht.typeIs entry_tuple_getitem ?_ (args_tuple_getitem _ _)))
  show wpAny _ _ (Builtin.Tuple.tupleItemsOf (.ref t) >>= _) _ _ s
  refine wpAny_bind (tupleItemsOf_ ht ?_)
  refine wpAny_bind (wpAny_typeOf hTs ?_)
  rw [if_pos (by decide)]
  refine wpAny_bind (rev_applied hs pl pu ps ?_)
  have hno : ¬ ((((items.size : Int) - 1) == 0 && (-1 : Int) == 1 && items.size == items.size) = true) := by
    intro q
    rw [Bool.and_eq_true, Bool.and_eq_true] at q
    exact absurd q.1.2 (by decide)
  show wpAny _ _ (if ((((items.size : Int) - 1) == 0 && (-1 : Int) == 1 && items.size == items.size) = true) then _ else _) _ _ s
  rw [if_neg hno, rev_pick]
  first
    | exact wpAny_bind (m := Builtin.Tuple.tupleExact _) (wpAny_newObj_type (wpAny_pure ⟨_, rfl, wpAny_pure h⟩) htake)
    | exact wpAny_bind (m := Builtin.Tuple.tupleExact _) (wpAny_newObj_type (wpAny_bind (wpAny_pure (wpAny_pure ⟨_, rfl, wpAny_pure h⟩))) htake)
    | exact wpAny_bind (wpAny_bind (m := Builtin.Tuple.tupleExact _) (wpAny_newObj_type (wpAny_pure (wpAny_pure ⟨_, rfl, wpAny_pure h⟩)) htake))
    | exact wpAny_bind (wpAny_bind (m := Builtin.Tuple.tupleExact _) (wpAny_newObj_type (wpAny_pure ⟨_, rfl, wpAny_pure h⟩) htake))
end
section
variable {X : Cx}
def tRevT (K : PySem.W.Frag) (te : TE) : TE := fun σ H Q => te σ H fun x H1 => ∃ a xs, x = .ref a ∧ SqT K H1 a xs ∧ ∀ p, H1 p = none → Q (.ref p) (upd H1 p (.tup xs.reverse))
theorem pe_revT {e : Expr} {te : TE} {k : Nat} {p1 p2 p3 pos : Pos} (he : PE X e te) : PE X (.Subscript e (.Slice none none (some (.UnaryOp .USub (.Constant (.int 1) k p1) p2)) p3) pos) (tRevT X.K te) := by
  refine ⟨fun pins s σ H Q I h => ?_⟩
  refine Subscript_ (thn (he.run pins s σ H _ I h) fun v s1 ⟨x, H1, I1, r1, q1⟩ => ?_)
  obtain ⟨a, xs, ex, hx, q⟩ := q1
  subst ex
  cases r1
  have hst : PO X (some (.UnaryOp .USub (.Constant (.int 1) k p1) p2)) (tPart (tUn (rU fun i => .int (-i)) (tC (.int 1)))) := po_some (pe_un un_neg pe_int)
  refine wpAny_Slice (thn (po_none.run pins s1 σ H1 (fun o H2 => o = none ∧ H2 = H1) I1 ⟨rfl, rfl⟩) fun vl s2 ⟨l, H2, I2, pl, el, e2⟩ => ?_)
  subst el e2
  refine thn (po_none.run pins s2 σ H2 (fun o H3 => o = none ∧ H3 = H2) I2 ⟨rfl, rfl⟩) fun vu s3 ⟨u, H3, I3, pu, eu, e3⟩ => ?_
  subst eu e3
  refine thn (hst.run pins s3 σ H3 (fun o H4 => o = some (-1) ∧ H4 = H3) I3 ⟨1, rfl, -1, rfl, rfl, rfl⟩) fun vs s4 ⟨o, H4, I4, ps, eo, e4⟩ => ?_
  subst eo e4
  have I5 : Inv X pins σ H4 { s4 with heap := s4.heap.push { cls := .type "slice", data := .fields #[vl, vu, vs] } } := I4.kept (t' := s4.toks) fun b ob q => Heap.get?_push_of_some _ q
  obtain ⟨its, r, ht, hz⟩ := I5.tuple hx
  have hlen := r.length
  show wpAny (model X.prog X.w) X.A (subscriptTail e (.Slice none none (some (.UnaryOp .USub (.Constant (.int 1) k p1) p2)) p3) (.ref a) (.ref s4.heap.objs.size)) (EP X pins σ Q) X.xe { s4 with heap := s4.heap.push { cls := .type "slice", data := .fields #[vl, vu, vs] } }
  refine tail_any (ops := [.ref a, .ref s4.heap.objs.size]) ht.typeIs (PyProof.Rows.slot_tuple_getitem.lookup) ?_ (by with_unfolding_all rfl)
  refine getItem_tuple_rev ht (Heap.IsSliceOf.new _ vl vu vs) pl pu ps ?_ (by rw [List.size_toArray]; omega)
  refine ⟨.ref _, _, I5.laid (t' := s4.toks) (o := .tup xs.reverse) (fun b ob q => Heap.get?_push_of_some _ q) (Nat.le_refl _) ?_, rfl, q _ (I5.hok.fresh (Nat.le_refl _))⟩
  exact ⟨by rw [List.length_reverse]; exact hz, _, r.reverse, IsTup.new _ _⟩
end

/-! ### great powers -/
def CPowW (i j : Int) : Prop := 0 ≤ j ∧ (Builtin.Int.intBits i : Int) * j ≤ 2 ^ 27
section
variable {X : Cx}
theorem op_powW : OpR X (binaryOp .Pow) (rI CPowW fun i j => .int (i ^ j.toNat)) := opI fun _ _ _ _ _ _ _ hc q => pow_int hc.1 hc.2 q
theorem intBits_le (i : Int) : Builtin.Int.intBits i ≤ i.natAbs.log2 + 1 := by
  unfold Builtin.Int.intBits
  split <;> omega
theorem pow_ok {i : Int} {b n : Nat} (hb : i.natAbs < 2 ^ b) (h0 : 0 < b) (h : b * n ≤ 100000) : CPowW i (n : Int) := by
  refine ⟨by omega, ?_⟩
  have h1 := PySem.Flt.log2_lt_of h0 hb
  have h2 := intBits_le i
  have h3 : Builtin.Int.intBits i ≤ b := by omega
  have h4 : Builtin.Int.intBits i * n ≤ b * n := Nat.mul_le_mul_right n h3
  have h5 : ((Builtin.Int.intBits i * n : Nat) : Int) ≤ 100000 := by omega
  rw [Int.natCast_mul] at h5
  have : (100000 : Int) ≤ 2 ^ 27 := by decide
  omega

/-! ### o[i] read ahead of o[i] op= e -/
theorem get_list : PGet X (fun x y H Q => ∃ p xs j v, x = .ref p ∧ y = .int (j : Nat) ∧ SqL X.K H p xs ∧ xs[j]? = some v ∧ Q v H) := by
  intro pins s σ H x y v u Q I rx ry h
  obtain ⟨p, xs, j, z, rfl, rfl, hq, he, q⟩ := h
  cases rx
  obtain ⟨t, rfl⟩ := ry
  obtain ⟨its, r, pl, hz⟩ := I.list hq
  obtain ⟨w, ew, rw'⟩ := r.get he
  have hl := r.length
  have hn := line63
  have hlt := (List.getElem?_eq_some_iff.mp he).1
  have fin : EP X pins σ Q w s := ⟨z, H, I, rw', q⟩
  exact wpAny_getItem_list pl.isList (Int.natCast_nonneg _) (by omega) (by simpa using ew) fin

/-! ### t * 1 -/
theorem tuple_mul_one (l : Addr) (items : Array Value) (n : Nat) (dd : Option Addr) (sl : Array (Option Value)) (u : Tok) :
    Meets (Builtin.«tuple.__mul__» ⟨[.ref l, .int 1 u], []⟩) (fun _ R s => s.heap.get? l = some { cls := .type "tuple", dict := dd, data := .seq items n, slots := sl } ∧
      R (.ok (.ret (.ref l))) s) :=
  .of_wp fun prog w A R s h => by
    obtain ⟨hp, g, d, tk, os⟩ := s
    obtain ⟨hl, h⟩ := h
    have f1 := AutoSeq1.idx_int
    have c1 : (items.isEmpty || (1 : Int) == 1) = true := by
      rw [show ((1 : Int) == 1) = true from rfl, Bool.or_true]
    wp_walk using wpAny_loadPart' hl
    repeat (first
      | (refine wpAny_ite_false (by decide) ?_; wp_walk using wpAny_loadPart' hl)
      | (refine wpAny_ite_true (decide_eq_true c1) ?_; wp_walk using wpAny_loadPart' hl))
    exact ⟨_, rfl, h⟩
def rRep1 (K : PySem.W.Frag) : R2 := fun x y H Q => ∃ l xs, x = .ref l ∧ y = .int 1 ∧ SqT K H l xs ∧ Q (.ref l) H
theorem op_rep1 : OpR X (binaryOp .Mult) (rRep1 X.K) := by
  intro pins s σ H x y v u Q I rx ry h
  obtain ⟨l, xs, rfl, rfl, hT, q⟩ := h
  cases rx
  obtain ⟨t, rfl⟩ := ry
  obtain ⟨its, r, ⟨⟨cls, dd, data, sl⟩, ho, hc, n, hd⟩, hs⟩ := I.tuple hT
  simp only at hc hd
  subst hc hd
  refine wpAny_binaryOp_repeat_ref (T := "tuple") (U := "int") (by decide) ⟨_, ho, rfl⟩ (fun s' => typeIs_int s' 1 t) noFill_tuple_mul F.fills_int_mul F.slot_int_rmul repeat_tuple F.slot_int_index.lookup
    (call_meets F.slot_int_rmul (typeIs_int s 1 t) F.entry_int_rmul (F.args_int_rmul_2 _ _) (int_rmul_tuple 1 t l its.toArray n dd sl)
      ⟨ho, rfl, ⟨_, ho, rfl⟩, call_meets F.slot_tuple_mul ⟨_, ho, rfl⟩ F.entry_tuple_mul (F.args_tuple_mul_2 _ _) (tuple_mul_one l its.toArray n dd sl t) ⟨ho, ?_⟩⟩)
  exact ⟨.ref l, H, I.tok _, rfl, q⟩
/-- a tuple so many times, from 1 on -/
def rRepA (K : PySem.W.Frag) : R2 := fun x y H Q => ∃ l k xs, x = .ref l ∧ y = .int k ∧ SqT K H l xs ∧ xs ≠ [] ∧ 1 ≤ k ∧ k ≤ 1000 ∧ xs.length ≤ 1000 ∧
  (∀ p H', (∀ b o, H b = some o → H' b = some o) → SqT K H' p (List.replicate k.toNat xs).flatten → Q (.ref p) H')
theorem op_repA : OpR X (binaryOp .Mult) (rRepA X.K) := by
  intro pins s σ H x y v u Q I rx ry h
  obtain ⟨l, k, xs, rfl, rfl, hT, hne, h1, h2, hz, q⟩ := h
  by_cases e : k = 1
  · subst e
    refine op_rep1 pins s σ H _ _ v u Q I rx ry ⟨l, xs, rfl, rfl, hT, q l H (fun _ _ z => z) ?_⟩
    show SqT X.K H l (List.replicate 1 xs).flatten
    rw [show (List.replicate 1 xs).flatten = xs by simp]
    exact hT
  · exact op_repT pins s σ H _ _ v u Q I rx ry ⟨l, k, xs, rfl, rfl, hT, hne, by omega, h2, hz, fun p hp => q p _ (Evl.Ex.new hp) (.inl (.inl upd_same))⟩
end

/-! ### the table of primes, a dict of the module -/
def intVal (v : Value) : Option Int := match v with | .int k _ => some k | _ => none
def tupOf (K : PySem.W.Frag) (v : Value) : Option (List Int) := match v with
  | .ref a => (match K.lookup a with
    | some o => if o.cls = .type "tuple" then (match o.data with | .seq its _ => if its.size ≤ 10 then its.toList.mapM intVal else none | _ => none) else none
    | none => none)
  | _ => none
def entOf (K : PySem.W.Frag) (e : DictEntry) : Option (Int × List Int) := match intVal e.key, tupOf K e.val with
  | some k, some l => if e.hash = hashInt k then some (k, l) else none
  | _, _ => none
def tabE : List (Int × List Int) := [(2, [2]), (3, [3]), (5, [5]), (6, [2, 3]), (7, [7]), (10, [2, 5]), (11, [11]), (13, [13]), (14, [2, 7]), (15, [3, 5])]
def primesD (K : PySem.W.Frag) (es : Array DictEntry) : Bool := decide (es.toList.map (entOf K) = tabE.map some)
/-- the table stands at the module's name -/
def Tab (K : PySem.W.Frag) (mg : Str → Option Value) : Prop := ∃ d es n, mg "PRIMES" = some (.ref d) ∧ K.lookup d = some ⟨.type "dict", none, .dict es n, #[]⟩ ∧ primesD K es = true ∧ (d == sysModules) = false
theorem intVal_is {v : Value} {k : Int} (h : intVal v = some k) : ∃ t, v = .int k t := by
  cases v <;> first | (exact ⟨_, by injection h with e; rw [e]⟩) | cases h
theorem ents {K : PySem.W.Frag} : ∀ {es : List DictEntry} {tb : List (Int × List Int)}, es.map (entOf K) = tb.map some →
    (∀ e ∈ es, ∃ k, Value.isInt k e.key = true ∧ e.hash = hashInt k) ∧ ∀ k : Int, (es.find? fun e => Value.isInt k e.key).bind (fun e => tupOf K e.val) = (tb.find? fun p => decide (p.1 = k)).map (·.2) := by
  intro es
  induction es with
  | nil =>
    intro tb h
    cases tb with
    | nil => exact ⟨fun e he => absurd he (by simp), fun k => rfl⟩
    | cons b tb => cases h
  | cons e es ih =>
    intro tb h
    cases tb with
    | nil => cases h
    | cons b tb =>
      rw [List.map_cons, List.map_cons] at h
      injection h with h1 h2
      obtain ⟨ih1, ih2⟩ := ih h2
      unfold entOf at h1
      split at h1
      · rename_i k l hk hl
        split at h1
        · rename_i hh
          have eb : (k, l) = b := Option.some.inj h1
          obtain ⟨t, ht⟩ := intVal_is hk
          refine ⟨fun e' he => ?_, fun j => ?_⟩
          · rcases List.mem_cons.mp he with q | q
            · subst q
              exact ⟨k, by rw [ht]; simp [Value.isInt], hh⟩
            · exact ih1 e' q
          · rw [List.find?_cons, List.find?_cons, ← eb, ht]
            by_cases c : k = j
            · subst c
              simp [Value.isInt, hl]
            · have c1 : Value.isInt j (.int k t) = false := by
                simp [Value.isInt]
                first | exact c | exact fun z => c z.symm
              rw [c1, show decide ((k, l).1 = j) = false from decide_eq_false c]
              exact ih2 j
        · cases h1
      · cases h1

def look (k : Int) : Option (List Int) := (tabE.find? fun p => decide (p.1 = k)).map (·.2)
theorem vals_of_mapM : ∀ {us : List Value} {ns : List Int}, us.mapM intVal = some ns → Vals (ns.map V.int) us
  | [], ns, h => by
    have e : ns = [] := by simpa using h.symm
    subst e
    exact .nil
  | u :: us, ns, h => by
    rw [List.mapM_cons] at h
    cases hu : intVal u with
    | none => rw [hu] at h; cases h
    | some k =>
      cases hr : us.mapM intVal with
      | none => rw [hu, hr] at h; cases h
      | some ks =>
        rw [hu, hr] at h
        have e : k :: ks = ns := Option.some.inj h
        rw [← e]
        exact .cons (intVal_is hu) (vals_of_mapM hr)
theorem sq_of_tup {K : PySem.W.Frag} {v : Value} {l : List Int} (h : tupOf K v = some l) : ∃ a, v = .ref a ∧ ∀ H, SqT K H a (l.map V.int) := by
  unfold tupOf at h
  split at h
  · rename_i a
    split at h
    · rename_i o ho
      split at h
      · rename_i hc
        split at h
        · rename_i its n hd
          split at h
          · rename_i hz
            exact ⟨a, rfl, fun H => .inr ⟨o, its, n, ho, hc, hd, Nat.le_trans hz (by decide), vals_of_mapM h⟩⟩
          · cases h
        · cases h
      · cases h
    · cases h
  · cases h
section
variable {X : Cx} {d : Addr} {es : Array DictEntry} {n : Nat}
theorem map_tab {h : Heap} (hK : X.K.In h) (hl : X.K.lookup d = some ⟨.type "dict", none, .dict es n, #[]⟩) (hp : primesD X.K es = true) :
    h.MapOf (intKind X.prog X.w) d (fun k => findBy Value.isInt es k) :=
  ⟨_, es, n, hK _ _ hl, ⟨rfl, rfl, rfl⟩, rfl, fun e he => (ents (of_decide_eq_true hp)).1 e (Array.mem_toList_iff.mpr he), fun _ => rfl⟩
theorem find_tab (hp : primesD X.K es = true) (k : Int) : (findBy Value.isInt es k).bind (tupOf X.K) = look k := by
  have := (ents (of_decide_eq_true hp)).2 k
  rw [← show (es.toList.find? fun e => Value.isInt k e.key).bind (fun e => tupOf X.K e.val) = look k from this]
  unfold findBy
  obtain ⟨l⟩ := es
  rw [List.find?_toArray]
  cases l.find? (fun e => Value.isInt k e.key) <;> rfl
theorem op_in_tab (hl : X.K.lookup d = some ⟨.type "dict", none, .dict es n, #[]⟩) (hp : primesD X.K es = true) (hs : (d == sysModules) = false) :
    OpR X (compareOp .In) (fun x y H Q => ∃ k l, x = .int k ∧ y = .ref d ∧ look k = some l ∧ Q (.bl true) H) := by
  intro pins s σ H x y v u Q I rx ry h
  obtain ⟨k, l, rfl, rfl, hk, q⟩ := h
  obtain ⟨t, rfl⟩ := rx
  cases ry
  refine wpAny_in_of (knd := intKind X.prog X.w) (k := k) (by show Value.isInt k (.int k t) = true; simp [Value.isInt]) hs (map_tab I.kIn hl hp) ?_
  have e := find_tab (X := X) hp k
  rw [hk] at e
  cases hf : findBy Value.isInt es k with
  | none => rw [hf] at e; cases e
  | some z => exact ⟨.bl true, H, I.tok _, rfl, q⟩
theorem ix_tab (hl : X.K.lookup d = some ⟨.type "dict", none, .dict es n, #[]⟩) (hp : primesD X.K es = true) :
    IxR X (fun x y H Q => ∃ k l, x = .ref d ∧ y = .int k ∧ look k = some l ∧ ∀ a, (∀ H', SqT X.K H' a (l.map V.int)) → Q (.ref a) H) := by
  intro value slice pins s σ H x y v u Q I rx ry h hs
  obtain ⟨k, l, rfl, rfl, hk, q⟩ := h
  obtain rfl : v = Value.ref d := rx
  obtain ⟨t, rfl⟩ := ry
  have hm := map_tab (X := X) I.kIn hl hp
  have e := find_tab (X := X) hp k
  rw [hk] at e
  cases hf : findBy Value.isInt es k with
  | none => rw [hf] at e; cases e
  | some z =>
    rw [hf] at e
    obtain ⟨a, rfl, ha⟩ := sq_of_tup e
    exact tail_any hm.typeIs slot_dict_getitem.lookup (wpAny_getItem_of (knd := intKind X.prog X.w) (k := k) (by show Value.isInt k (.int k t) = true; simp [Value.isInt]) hm hf ⟨.ref a, H, I.tok _, rfl, q a ha⟩) hs
end
end K76
/-! K76, part ZM: zip of a tuple and a list (HandS.Zip has two lists, two tuples): its proofs turned to the mixed pair. -/
namespace K76
open PySem RZ
section
variable {prog : Program} {w : World} {A : Around} {E : Value → Shared → Prop} {s : Shared}
theorem zipM_item {zo ti to ja jb sa1 sb2 : Addr} {na nb : Nat} {as bs : Array Value} {u v m n : Value} {Q : Value → Shared → Prop} (ap : ZipApart zo ti to ja jb sa1 sb2)
    (vz : IsZip s.heap zo ti to .none) (vi : IsPair s.heap ti (.ref ja) (.ref jb)) (vo : IsPair s.heap to m n)
    (w1 : s.heap.IsTupleIter ja sa1 na) (w2 : s.heap.IsListIter jb sb2 nb) (at1 : s.heap.IsTuple sa1 as) (at2 : s.heap.IsList sb2 bs) (isx : as[na]? = some u) (isy : bs[nb]? = some v)
    (onQ : ∀ h', IsZip h' zo ti to (rawInt s.heap.objs.size) → IsPair h' to u v → h'.IsTupleIter ja sa1 (na + 1) → h'.IsListIter jb sb2 (nb + 1) → IsPair h' s.heap.objs.size u v → h'.objs.size = s.heap.objs.size + 1 →
      (∀ cl ob, cl ≠ zo → cl ≠ to → cl ≠ ja → cl ≠ jb → s.heap.get? cl = some ob → h'.get? cl = some ob) → Q (.ref s.heap.objs.size) { s with heap := h' }) :
    wpAny (model prog w) A (Builtin.«zip.__next__» ⟨[.ref zo], []⟩) (fun fin s' => ∃ vx, fin = .done (.ret vx) ∧ Q vx s') E s := by
  show wpAny _ _ (field (.ref zo) 2 >>= _) _ _ _
  refine wpAny_bind (wpAny_field vz rfl (x := .bool false) rfl ?_)
  show wpAny _ _ (field (.ref zo) 3 >>= _) _ _ _
  refine wpAny_bind (wpAny_field vz rfl (x := .ref ti) rfl ?_)
  refine wpAny_bind (wpAny_seqItems vi rfl ?_)
  show wpAny _ _ (Builtin.SmallTypes.ownedTupleIsFree (.ref zo) >>= _) _ _ _
  refine wpAny_bind ?_
  unfold Builtin.SmallTypes.ownedTupleIsFree
  refine wpAny_bind (wpAny_field vz rfl (x := .none) rfl (wpAny_pure ?_))
  simp only [if_true]
  refine wpAny_bind (wpAny_rule ?_)
  refine wpAny_bind (wpAny_field vz rfl (x := .ref to) rfl ?_)
  refine wpAny_bind (wpAny_setField_rec vz (by simp) fun h_a vz_a hs_a => ?_)
  replace vz_a : IsZip h_a zo ti to .ellipsis := vz_a
  refine wpAny_bind ?_
  simp only [List.zipIdx_cons, List.zipIdx_nil, List.forIn_cons, List.forIn_nil]

  refine wpAny_bind (wpAny_bind (wpAny_onRaise ?_))
  show wpAny _ _ (Builtin.SmallTypes.nextOf (.ref ja) >>= _) _ _ _
  refine wpAny_bind (nextOf_tuple_item (w1.extBut hs_a.extBut ap.i1z) (at1.extBut hs_a.extBut ap.l1z) isx fun h_b w1_b hs_b => wpAny_pure ?_)
  have vo_b : IsPair h_b to m n := hs_b.extBut _ _ ap.TOi1 (hs_a.extBut _ _ ap.TOz vo)
  refine wpAny_bind (wpAny_seqItems vo_b rfl ?_)
  refine wpAny_bind (wpAny_updateSeq_pair vo_b fun h_c vo_c hs_c => ?_)
  replace vo_c : IsPair h_c to u n := vo_c
  refine wpAny_bind (wpAny_letGo (wpAny_pure ?_))

  refine wpAny_bind (wpAny_bind (wpAny_onRaise ?_))
  show wpAny _ _ (Builtin.SmallTypes.nextOf (.ref jb) >>= _) _ _ _
  refine wpAny_bind (wpAny_nextOf_list_item (((w2.extBut hs_a.extBut ap.i2z).extBut hs_b.extBut ap.i12.symm).extBut hs_c.extBut ap.TOi2.symm)
    (((at2.extBut hs_a.extBut ap.l2z).extBut hs_b.extBut ap.l2i1).extBut hs_c.extBut ap.l2TO) isy fun h_d w2_d hs_d => wpAny_pure ?_)
  have vo_d : IsPair h_d to u n := hs_d.extBut _ _ ap.TOi2 vo_c
  refine wpAny_bind (wpAny_seqItems vo_d rfl ?_)
  refine wpAny_bind (wpAny_updateSeq_pair vo_d fun h_e vo_e hs_e => ?_)
  replace vo_e : IsPair h_e to u v := vo_e
  refine wpAny_bind (wpAny_letGo (wpAny_pure (wpAny_pure ?_)))

  refine wpAny_bind (wpAny_seqItems vo_e rfl ?_)
  refine wpAny_bind (wpAny_newTuple ?_)
  have size : h_e.objs.size = s.heap.objs.size := by rw [hs_e.1, hs_d.1, hs_c.1, hs_b.1, hs_a.1]
  have vz_e : IsZip h_e zo ti to .ellipsis := hs_e.extBut _ _ ap.TOz.symm (hs_d.extBut _ _ ap.i2z.symm (hs_c.extBut _ _ ap.TOz.symm (hs_b.extBut _ _ ap.i1z.symm vz_a)))
  have hk_e : ∀ cl ob, cl ≠ zo → cl ≠ to → cl ≠ ja → cl ≠ jb → s.heap.get? cl = some ob → h_e.get? cl = some ob := fun cl ob c1 c2 c3 c4 eq =>
    hs_e.extBut _ _ c2 (hs_d.extBut _ _ c4 (hs_c.extBut _ _ c2 (hs_b.extBut _ _ c3 (hs_a.extBut _ _ c1 eq))))
  have w1_e : h_e.IsTupleIter ja sa1 (na + 1) := ((w1_b.extBut hs_c.extBut ap.TOi1.symm).extBut hs_d.extBut ap.i12).extBut hs_e.extBut ap.TOi1.symm
  have w2_e : h_e.IsListIter jb sb2 (nb + 1) := w2_d.extBut hs_e.extBut ap.TOi2.symm
  have hzlt : zo < h_e.objs.size := Heap.lt_size vz_e
  have hTOlt : to < h_e.objs.size := Heap.lt_size vo_e
  have hi1lt : ja < h_e.objs.size := by obtain ⟨_, eq, _⟩ := w1_e; exact Heap.lt_size eq
  have hi2lt : jb < h_e.objs.size := by obtain ⟨_, eq, _⟩ := w2_e; exact Heap.lt_size eq
  show wpAny _ _ (Builtin.SmallTypes.ownedTupleHandOut (.ref zo) (.ref h_e.objs.size) >>= _) _ _ _
  refine wpAny_bind ?_
  unfold Builtin.SmallTypes.ownedTupleHandOut
  have vz_f : IsZip (h_e.push { cls := .type "tuple", data := .seq #[u, v] }) zo ti to .ellipsis := Heap.get?_push_of_some _ vz_e
  refine wpAny_bind (wpAny_setField_rec vz_f (by simp) fun h_g vz_g hs_g => ?_)
  replace vz_g : IsZip h_g zo ti to (rawInt h_e.objs.size) := vz_g
  refine wpAny_setField_rec vz_g (by simp) fun h_h vz_h hs_h => ?_
  replace vz_h : IsZip h_h zo ti to (rawInt h_e.objs.size) := vz_h
  have still : ∀ cl ob, cl ≠ zo → h_e.get? cl = some ob → h_h.get? cl = some ob := fun cl ob c1 eq => hs_h.extBut _ _ c1 (hs_g.extBut _ _ c1 (Heap.get?_push_of_some _ eq))
  have tyz_h : IsPair h_h h_e.objs.size u v := hs_h.extBut _ _ (Nat.ne_of_gt hzlt) (hs_g.extBut _ _ (Nat.ne_of_gt hzlt) (Heap.get?_push_size _ rfl))
  have hz8 : h_h.objs.size = h_e.objs.size + 1 := by rw [hs_h.1, hs_g.1, Heap.size_push]
  rw [size] at vz_h tyz_h hz8
  refine wpAny_pure ⟨_, rfl, ?_⟩
  show Q (.ref h_e.objs.size) _
  rw [size]
  exact onQ h_h vz_h (still _ _ ap.TOz vo_e) (w1_e.at fun ob eq => still _ ob ap.i1z eq) (w2_e.at fun ob eq => still _ ob ap.i2z eq) tyz_h hz8 fun cl ob c1 c2 c3 c4 eq => still cl ob c1 (hk_e cl ob c1 c2 c3 c4 eq)

theorem zipM_end {zo ti to ja jb sa1 sb2 : Addr} {na nb : Nat} {as bs : Array Value} {m n : Value} {Q : Fin → Shared → Prop} (hh : A.handled = none) (ap : ZipApart zo ti to ja jb sa1 sb2)
    (vz : IsZip s.heap zo ti to .none) (vi : IsPair s.heap ti (.ref ja) (.ref jb)) (vo : IsPair s.heap to m n)
    (w1 : s.heap.IsTupleIter ja sa1 na) (w2 : s.heap.IsListIter jb sb2 nb) (at1 : s.heap.IsTuple sa1 as) (at2 : s.heap.IsList sb2 bs) (fin : as[na]? = none ∨ bs[nb]? = none)
    (onE : ∀ h' eq, (∀ cl ob, cl ≠ zo → cl ≠ to → cl ≠ ja → cl ≠ jb → s.heap.get? cl = some ob → h'.get? cl = some ob) → (∃ ob, h'.get? eq = some ob ∧ ob.cls = .type "StopIteration") → E (.ref eq) { s with heap := h' }) :
    wpAny (model prog w) A (Builtin.«zip.__next__» ⟨[.ref zo], []⟩) Q E s := by
  show wpAny _ _ (field (.ref zo) 2 >>= _) _ _ _
  refine wpAny_bind (wpAny_field vz rfl (x := .bool false) rfl ?_)
  show wpAny _ _ (field (.ref zo) 3 >>= _) _ _ _
  refine wpAny_bind (wpAny_field vz rfl (x := .ref ti) rfl ?_)
  refine wpAny_bind (wpAny_seqItems vi rfl ?_)
  show wpAny _ _ (Builtin.SmallTypes.ownedTupleIsFree (.ref zo) >>= _) _ _ _
  refine wpAny_bind ?_
  unfold Builtin.SmallTypes.ownedTupleIsFree
  refine wpAny_bind (wpAny_field vz rfl (x := .none) rfl (wpAny_pure ?_))
  simp only [if_true]
  refine wpAny_bind (wpAny_rule ?_)
  refine wpAny_bind (wpAny_field vz rfl (x := .ref to) rfl ?_)
  refine wpAny_bind (wpAny_setField_rec vz (by simp) fun h_a vz_a hs_a => ?_)
  replace vz_a : IsZip h_a zo ti to .ellipsis := vz_a
  refine wpAny_bind ?_
  simp only [List.zipIdx_cons, List.zipIdx_nil, List.forIn_cons, List.forIn_nil]
  refine wpAny_bind (wpAny_bind (wpAny_onRaise ?_))
  show wpAny _ _ (Builtin.SmallTypes.nextOf (.ref ja) >>= _) _ _ _
  cases isx : as[na]? with
  | none =>
    refine wpAny_bind (nextOf_tuple_end hh (w1.extBut hs_a.extBut ap.i1z) (at1.extBut hs_a.extBut ap.l1z) isx fun h_b eq hs_b he => ?_)
    obtain ⟨oe, hoe, hce⟩ := he
    have vz_b : IsZip h_b zo ti to .ellipsis := hs_b _ _ ap.i1z.symm vz_a
    have hez : eq ≠ zo := fun u => by subst u; rw [vz_b] at hoe; cases hoe; simp at hce
    refine wpAny_setField_rec vz_b (by simp) fun h_c _ hs_c => onE h_c eq (fun cl ob c1 _ c3 _ u => hs_c.extBut _ _ c1 (hs_b _ _ c3 (hs_a.extBut _ _ c1 u))) ⟨oe, hs_c.extBut _ _ hez hoe, hce⟩
  | some u =>
    have isy : bs[nb]? = none := by rcases fin with h | h; rw [isx] at h; cases h; exact h
    refine wpAny_bind (nextOf_tuple_item (w1.extBut hs_a.extBut ap.i1z) (at1.extBut hs_a.extBut ap.l1z) isx fun h_b w1_b hs_b => wpAny_pure ?_)
    have vo_b : IsPair h_b to m n := hs_b.extBut _ _ ap.TOi1 (hs_a.extBut _ _ ap.TOz vo)
    refine wpAny_bind (wpAny_seqItems vo_b rfl ?_)
    refine wpAny_bind (wpAny_updateSeq_pair vo_b fun h_c vo_c hs_c => ?_)
    refine wpAny_bind (wpAny_letGo (wpAny_pure ?_))
    refine wpAny_bind (wpAny_bind (wpAny_onRaise ?_))
    show wpAny _ _ (Builtin.SmallTypes.nextOf (.ref jb) >>= _) _ _ _
    refine wpAny_bind (wpAny_nextOf_list_end hh (((w2.extBut hs_a.extBut ap.i2z).extBut hs_b.extBut ap.i12.symm).extBut hs_c.extBut ap.TOi2.symm)
      (((at2.extBut hs_a.extBut ap.l2z).extBut hs_b.extBut ap.l2i1).extBut hs_c.extBut ap.l2TO) isy fun h_d eq hs_d he => ?_)
    obtain ⟨oe, hoe, hce⟩ := he
    have vz_d : IsZip h_d zo ti to .ellipsis := hs_d _ _ ap.i2z.symm (hs_c.extBut _ _ ap.TOz.symm (hs_b.extBut _ _ ap.i1z.symm vz_a))
    have hez : eq ≠ zo := fun u => by subst u; rw [vz_d] at hoe; cases hoe; simp at hce
    refine wpAny_setField_rec vz_d (by simp) fun h_e _ hs_e => onE h_e eq (fun cl ob c1 c2 c3 c4 u => hs_e.extBut _ _ c1 (hs_d _ _ c4 (hs_c.extBut _ _ c2 (hs_b.extBut _ _ c3 (hs_a.extBut _ _ c1 u))))) ⟨oe, hs_e.extBut _ _ hez hoe, hce⟩

theorem nextM_item {zo ti to ja jb sa1 sb2 : Addr} {na nb : Nat} {as bs : Array Value} {u v m n : Value} {Q : Option Value → Shared → Prop} (ap : ZipApart zo ti to ja jb sa1 sb2)
    (vz : IsZip s.heap zo ti to .none) (vi : IsPair s.heap ti (.ref ja) (.ref jb)) (vo : IsPair s.heap to m n)
    (w1 : s.heap.IsTupleIter ja sa1 na) (w2 : s.heap.IsListIter jb sb2 nb) (at1 : s.heap.IsTuple sa1 as) (at2 : s.heap.IsList sb2 bs) (isx : as[na]? = some u) (isy : bs[nb]? = some v)
    (onQ : ∀ h', IsZip h' zo ti to (rawInt s.heap.objs.size) → IsPair h' to u v → h'.IsTupleIter ja sa1 (na + 1) → h'.IsListIter jb sb2 (nb + 1) → IsPair h' s.heap.objs.size u v → h'.objs.size = s.heap.objs.size + 1 →
      (∀ cl ob, cl ≠ zo → cl ≠ to → cl ≠ ja → cl ≠ jb → s.heap.get? cl = some ob → h'.get? cl = some ob) → Q (some (.ref s.heap.objs.size)) { s with heap := h' }) :
    wpAny (model prog w) A (pyNext (.ref zo)) Q E s := by
  have tyz : s.TypeIs (.ref zo) "zip" := ⟨_, vz, rfl⟩
  unfold pyNext
  exact wpAny_bind (wpAny_attempt (wpAny_callSpecial?_slot (name := Str.ofString "__next__") tyz F.slot_zip_next
    (wpAny_call_entry F.slot_zip_next tyz F.entry_zip_next
      (zipM_item ap vz vi vo w1 w2 at1 at2 isx isy fun h' a1 a2 a3 a4 a5 a6 a7 => wpAny_pure (onQ h' a1 a2 a3 a4 a5 a6 a7)) (F.args_zip_next_1 _))))

theorem nextM_end {zo ti to ja jb sa1 sb2 : Addr} {na nb : Nat} {as bs : Array Value} {m n : Value} {Q : Option Value → Shared → Prop} (hh : A.handled = none) (ap : ZipApart zo ti to ja jb sa1 sb2)
    (vz : IsZip s.heap zo ti to .none) (vi : IsPair s.heap ti (.ref ja) (.ref jb)) (vo : IsPair s.heap to m n)
    (w1 : s.heap.IsTupleIter ja sa1 na) (w2 : s.heap.IsListIter jb sb2 nb) (at1 : s.heap.IsTuple sa1 as) (at2 : s.heap.IsList sb2 bs) (fin : as[na]? = none ∨ bs[nb]? = none)
    (onQ : ∀ h', (∀ cl ob, cl ≠ zo → cl ≠ to → cl ≠ ja → cl ≠ jb → s.heap.get? cl = some ob → h'.get? cl = some ob) → Q none { s with heap := h' }) : wpAny (model prog w) A (pyNext (.ref zo)) Q E s := by
  have tyz : s.TypeIs (.ref zo) "zip" := ⟨_, vz, rfl⟩
  unfold pyNext
  refine wpAny_bind (wpAny_attempt (wpAny_callSpecial?_slot (name := Str.ofString "__next__") tyz F.slot_zip_next
    (wpAny_call_entry F.slot_zip_next tyz F.entry_zip_next (zipM_end hh ap vz vi vo w1 w2 at1 at2 fin fun h' eq hk he => ?_) (F.args_zip_next_1 _))))
  obtain ⟨ob, ho, hc⟩ := he
  refine wpAny_bind (wpAny_isInstance (T := "StopIteration") (b := true) ⟨ob, ho, hc⟩ isSubtype_stop ?_)
  exact wpAny_pure (onQ _ hk)

end
abbrev zmH1 (h : Heap) (sa1 : Addr) : Heap := h.push { cls := .type "tuple_iterator", data := .fields #[.ref sa1, .int 0 0] }
abbrev zmH2 (h : Heap) (sa1 sb2 : Addr) : Heap := (zmH1 h sa1).push { cls := .type "list_iterator", data := .fields #[.ref sb2, .int 0 0] }
abbrev zmH3 (h : Heap) (sa1 sb2 : Addr) : Heap := (zmH2 h sa1 sb2).push { cls := .type "tuple", data := .seq #[.ref h.objs.size, .ref (zmH1 h sa1).objs.size] }
abbrev zmH4 (h : Heap) (sa1 sb2 : Addr) : Heap := (zmH3 h sa1 sb2).push { cls := .type "tuple", data := .seq #[.none, .none] }
abbrev zmH5 (h : Heap) (sa1 sb2 : Addr) : Heap := (zmH4 h sa1 sb2).push { cls := .type "zip", data := .fields #[.none, .bool false, .bool false, .ref (zmH2 h sa1 sb2).objs.size, .ref (zmH3 h sa1 sb2).objs.size] }

theorem zipM_new (sa1 sb2 : Addr) (as bs : Array Value) :
    Meets (Builtin.«zip.__new__» ⟨[.type "zip", .ref sa1, .ref sb2], []⟩) (fun _ R s => s.heap.IsTuple sa1 as ∧ s.heap.IsList sb2 bs ∧
      R (.ok (.ret (.ref (zmH4 s.heap sa1 sb2).objs.size))) { s with heap := zmH5 s.heap sa1 sb2 }) :=
  .of_wp fun prog w A R s h => by
    obtain ⟨hp, g, d, tk, os⟩ := s; obtain ⟨at1, at2, h⟩ := h
    have hsub := sub_zip
    have hL1 : Heap.IsTuple (Shared.heap ⟨hp, g, d, tk, os⟩) sa1 as := at1
    have hL2 : Heap.IsList (Shared.heap ⟨hp.push { cls := .type "tuple_iterator", data := .fields #[.ref sa1, .int 0 0] }, g, d, tk, os⟩) sb2 bs := Heap.IsList.push at2 _
    wp_walk using wpAny_pyIter_tuple hL1, wpAny_pyIter_list hL2
    exact ⟨_, rfl, h⟩

section
variable {prog : Program} {w : World} {A : Around} {E : Value → Shared → Prop} {s : Shared}
theorem call_zipM {sa1 sb2 : Addr} {as bs : Array Value} {Q : Value → Shared → Prop} (at1 : s.heap.IsTuple sa1 as) (at2 : s.heap.IsList sb2 bs)
    (h : ∀ h', IsZip h' (s.heap.objs.size + 4) (s.heap.objs.size + 2) (s.heap.objs.size + 3) .none → IsPair h' (s.heap.objs.size + 2) (.ref s.heap.objs.size) (.ref (s.heap.objs.size + 1)) →
      IsPair h' (s.heap.objs.size + 3) .none .none → h'.IsTupleIter s.heap.objs.size sa1 0 → h'.IsListIter (s.heap.objs.size + 1) sb2 0 → h'.objs.size = s.heap.objs.size + 5 →
      (∀ cl ob, s.heap.get? cl = some ob → h'.get? cl = some ob) → Q (.ref (s.heap.objs.size + 4)) { s with heap := h' }) :
    wpAny (model prog w) A (call (.type "zip") [.ref sa1, .ref sb2]) Q E s := by
  refine callType_new F.called_zip (by decide) (F.typeCall_zip_2 _ _) (F.newCall_zip_2 _ _) (fun obj => F.args_object_init_3 obj _ _) F.entry_zip_new
    (zipM_new sa1 sb2 as bs) ⟨at1, at2, ?_⟩
  have k1e : (zmH1 s.heap sa1).objs.size = s.heap.objs.size + 1 := Heap.size_push ..
  have k2e : (zmH2 s.heap sa1 sb2).objs.size = s.heap.objs.size + 2 := by rw [Heap.size_push, k1e]
  have k3e : (zmH3 s.heap sa1 sb2).objs.size = s.heap.objs.size + 3 := by rw [Heap.size_push, k2e]
  have k4e : (zmH4 s.heap sa1 sb2).objs.size = s.heap.objs.size + 4 := by rw [Heap.size_push, k3e]
  have k5e : (zmH5 s.heap sa1 sb2).objs.size = s.heap.objs.size + 5 := by rw [Heap.size_push, k4e]
  have o5e : (zmH5 s.heap sa1 sb2).get? (zmH4 s.heap sa1 sb2).objs.size = some _ := Heap.get?_push_size _ rfl
  have o4e : (zmH5 s.heap sa1 sb2).get? (zmH3 s.heap sa1 sb2).objs.size = some _ := Heap.get?_push_of_some _ (Heap.get?_push_size _ rfl)
  have o3e : (zmH5 s.heap sa1 sb2).get? (zmH2 s.heap sa1 sb2).objs.size = some _ := Heap.get?_push_of_some _ (Heap.get?_push_of_some _ (Heap.get?_push_size _ rfl))
  have o2e : (zmH5 s.heap sa1 sb2).get? (zmH1 s.heap sa1).objs.size = some _ := Heap.get?_push_of_some _ (Heap.get?_push_of_some _ (Heap.get?_push_of_some _ (Heap.get?_push_size _ rfl)))
  have o1e : (zmH5 s.heap sa1 sb2).get? s.heap.objs.size = some _ := Heap.get?_push_of_some _ (Heap.get?_push_of_some _ (Heap.get?_push_of_some _ (Heap.get?_push_of_some _ (Heap.get?_push_size _ rfl))))
  show _ ∧ _
  rw [k2e, k3e, k4e] at o5e
  rw [k1e, k2e] at o3e
  rw [k3e] at o4e
  rw [k1e] at o2e
  rw [k4e]
  exact ⟨⟨_, o5e, rfl⟩, h _ o5e o3e o4e ⟨_, o1e, rfl, rfl⟩ ⟨_, o2e, rfl, rfl⟩ k5e fun cl ob u =>
    Heap.get?_push_of_some _ (Heap.get?_push_of_some _ (Heap.get?_push_of_some _ (Heap.get?_push_of_some _ (Heap.get?_push_of_some _ u))))⟩
end
open PySem PySem.Spec PyProof.Rows L2
/-- the tuple at m, the list at n, item by item, each pair fr -/
def ItzM (K : PySem.W.Frag) (m n : Addr) : It :=
  ⟨fun i H => ∃ (as bs : List V) (u v : V), SqT K H m as ∧ SqL K H n bs ∧ as[i]? = some u ∧ bs[i]? = some v,
    fun i H vx H' => ∃ T u v, vx = .ref T ∧ H T = none ∧ H' = upd H T (.tup [u, v]) ∧ (∀ as, SqT K H m as → as[i]? = some u) ∧ ∀ bs, SqL K H n bs → bs[i]? = some v,
    fun i H => ∃ as bs : List V, SqT K H m as ∧ SqL K H n bs ∧ (as.length ≤ i ∨ bs.length ≤ i)⟩
theorem turn_zipM {P : Program} {w : World} {K : PySem.W.Frag} {elts : List Expr} {kk : Nat} {tpos : Pos} {m n zo ti to ja jb : Addr} (ap : ZipApart zo ti to ja jb m n) :
    Turn P w K (.Tuple elts kk tpos) (ItzM K m n) [zo, ti, to, ja, jb] zo (fun i h => IsZip h zo ti to .none ∧ IsPair h ti (.ref ja) (.ref jb) ∧ (∃ u v, IsPair h to u v) ∧ h.IsTupleIter ja m i ∧ h.IsListIter jb n i) where
  mem := by simp
  obj := fun i h sd cl hc => by
    obtain ⟨vz, vi, ⟨u, v, vo⟩, ⟨o1, e1, _, d1⟩, ⟨o2, e2, _, d2⟩⟩ := sd
    have eq' : cl = zo ∨ cl = ti ∨ cl = to ∨ cl = ja ∨ cl = jb := by simpa using hc
    rcases eq' with qq | qq | qq | qq | qq
    · rw [qq]; exact ⟨_, vz, fun vx qq => nomatch qq⟩
    · rw [qq]; exact ⟨_, vi, fun vx qq => nomatch qq⟩
    · rw [qq]; exact ⟨_, vo, fun vx qq => nomatch qq⟩
    · rw [qq]; exact ⟨o1, e1, fun vx qq => by rw [d1] at qq; cases qq⟩
    · rw [qq]; exact ⟨o2, e2, fun vx qq => by rw [d2] at qq; cases qq⟩
  keep := fun i h h' sd k => by
    obtain ⟨vz, vi, ⟨u, v, vo⟩, w1, w2⟩ := sd
    exact ⟨k zo (by simp) _ vz, k ti (by simp) _ vi, ⟨u, v, k to (by simp) _ vo⟩, w1.at fun ob qq => k ja (by simp) ob qq, w2.at fun ob qq => k jb (by simp) ob qq⟩
  item := by
    intro X hP hw hK hc i pins s σ H E J ff sd gg
    subst hP hw hK
    obtain ⟨vz, vi, ⟨x0, y0, vo⟩, w1, w2⟩ := sd
    obtain ⟨as, bs, u, v, sa, sb1, isx, isy⟩ := gg
    obtain ⟨ia, ra, ta1, _⟩ := J.tuple sa
    obtain ⟨ib, rb, la, _⟩ := J.list sb1
    obtain ⟨ux, hu, ru⟩ := ra.get isx
    obtain ⟨u2, hu2, ru2⟩ := rb.get isy
    have ltz : zo < s.heap.objs.size := Heap.lt_size vz
    refine nextM_item ap vz vi vo w1 w2 ta1 la.isList (u := ux) (v := u2) (by simpa using hu) (by simpa using hu2) fun h' zo' to' w1' w2' tyz size hk => ?_
    refine ⟨_, rfl, wpAny_letOwnedTupleGo_zip (s := { s with heap := h' }) zo' fun h'' zo'' sb => ?_⟩
    have hT2 : h''.get? s.heap.objs.size = some { cls := .type "tuple", data := .seq #[ux, u2] } := (sb.2 _ (Nat.ne_of_gt ltz)).trans tyz
    have fr : ObjOk X.prog X.w (upd H s.heap.objs.size (.tup [u, v])) h'' s.heap.objs.size (.tup [u, v]) :=
      ⟨by show 2 ≤ sizeLine; decide, [ux, u2], .cons ru (.cons ru2 .nil), ⟨_, hT2, rfl, _, rfl⟩⟩
    have J1 : Inv X pins σ (upd H s.heap.objs.size (.tup [u, v])) { s with heap := h'' } :=
      J.turnedNew (t' := s.toks) (ch := [zo, ti, to, ja, jb]) (fun cl ob hb qq => (sb.2 cl (fun qq' => hb (by simp [qq']))).trans (hk cl ob (fun qq' => hb (by simp [qq'])) (fun qq' => hb (by simp [qq'])) (fun qq' => hb (by simp [qq'])) (fun qq' => hb (by simp [qq'])) qq)) ff (Nat.le_refl _) fr
    refine ⟨.ref s.heap.objs.size, _, J1, rfl, ⟨_, u, v, rfl, J.hok.fresh (Nat.le_refl _), rfl, fun l hl => by rw [J.tuple_inj hl sa]; exact isx, fun l hl => by rw [J.list_inj hl sb1]; exact isy⟩, ⟨zo'', ?_, ⟨ux, u2, ?_⟩, ?_, ?_⟩, fun cl inl => ?_⟩
    · exact (sb.2 _ ap.TIz).trans (hk _ _ ap.TIz ap.TITO ap.TIi1 ap.TIi2 vi)
    · exact (sb.2 _ ap.TOz).trans to'
    · exact w1'.at fun ob qq => (sb.2 _ ap.i1z).trans qq
    · exact w2'.at fun ob qq => (sb.2 _ ap.i2z).trans qq
    · have hlt : cl < s.heap.objs.size := by
        have eq' : cl = zo ∨ cl = ti ∨ cl = to ∨ cl = ja ∨ cl = jb := by simpa using inl
        rcases eq' with qq | qq | qq | qq | qq
        · rw [qq]; exact ltz
        · rw [qq]; exact Heap.lt_size vi
        · rw [qq]; exact Heap.lt_size vo
        · rw [qq]; obtain ⟨_, e1, _⟩ := w1; exact Heap.lt_size e1
        · rw [qq]; obtain ⟨_, e2, _⟩ := w2; exact Heap.lt_size e2
      rw [upd_ne (Nat.ne_of_lt hlt)]
      exact (ff cl inl).1
  done := by
    intro X hP hw hK hc i pins s σ H E J ff sd gg
    subst hP hw hK
    obtain ⟨vz, vi, ⟨x0, y0, vo⟩, w1, w2⟩ := sd
    obtain ⟨as, bs, sa, sb1, fin⟩ := gg
    obtain ⟨ia, ra, ta1, _⟩ := J.tuple sa
    obtain ⟨ib, rb, la, _⟩ := J.list sb1
    have sa1 := ra.length
    have sb2 := rb.length
    have he : ia.toArray[i]? = none ∨ ib.toArray[i]? = none := by
      rcases fin with qq | qq
      · exact .inl (by simp; omega)
      · exact .inr (by simp; omega)
    exact nextM_end (J.ok.hd hc) ap vz vi vo w1 w2 ta1 la.isList he fun h' hk => ⟨rfl, J.turnedL (t' := s.toks) (ch := [zo, ti, to, ja, jb]) (fun cl ob hb qq =>
      hk cl ob (fun qq' => hb (by simp [qq'])) (fun qq' => hb (by simp [qq'])) (fun qq' => hb (by simp [qq'])) (fun qq' => hb (by simp [qq'])) qq) ff⟩
  self := fun A i s Q E sd h => wpAny_pyIter_zip sd.1 h

def iZipM (K : PySem.W.Frag) (ta : TA) : L2.TI := fun σ H R => ta σ H fun vs H1 => ∃ m n as bs, vs = [.ref m, .ref n] ∧ SqT K H1 m as ∧ SqL K H1 n bs ∧ R (ItzM K m n) H1
theorem pi_zipM {X : Cx} {eq e2 : Expr} {ta : TA} {ta1 pos tpos : Pos} {elts : List Expr} {kk : Nat} (gg : Gl X "zip") (hm : X.mg "zip" = none) (ha : PA X [eq, e2] ta)
    (hs : starEach [eq, e2] X.env = (false, eval eq X.env) :: starEach [e2] X.env := by rfl) (hpl : (backTo pos (starEach [e2] X.env)).any (·.1) = false := by rfl) :
    PI X (.Tuple elts kk tpos) (.Call (.Name "zip" ta1) [eq, e2] [] pos) (iZipM X.K ta) := by
  refine ⟨fun pins s σ H R J h => ?_⟩
  refine Call_ (ld_blt J gg hm PyProof.Rows.boot_zip (PyProof.Rows.callWith_type1 (thn (ha.run pos pins s σ H _ J h) fun us s1 ⟨vs, H1, J1, r1, qa⟩ => ?_) hs hpl))
  obtain ⟨m, n, as, bs, ex, sa, sb1, qq⟩ := qa
  subst ex
  cases r1 with
  | cons r rr =>
    cases rr with
    | cons r' rr =>
      cases rr
      cases r
      cases r'
      have fresh5 : ∀ cl, cl ∈ [s1.heap.objs.size + 4, s1.heap.objs.size + 2, s1.heap.objs.size + 3, s1.heap.objs.size, s1.heap.objs.size + 1] → FpOk X pins H1 cl := fun cl inl => by
        have eq' : cl = s1.heap.objs.size + 4 ∨ cl = s1.heap.objs.size + 2 ∨ cl = s1.heap.objs.size + 3 ∨ cl = s1.heap.objs.size ∨ cl = s1.heap.objs.size + 1 := by simpa using inl
        have hle : s1.heap.objs.size ≤ cl := by
          rcases eq' with zo | zo | zo | zo | zo
          · rw [zo]; exact Nat.le_add_right _ _
          · rw [zo]; exact Nat.le_add_right _ _
          · rw [zo]; exact Nat.le_add_right _ _
          · rw [zo]; exact Nat.le_refl _
          · rw [zo]; exact Nat.le_add_right _ _
        exact J1.fpOk hle (J1.hok.fresh hle)
      obtain ⟨ia, ra, p1, _⟩ := J1.tuple sa
      obtain ⟨ib, rb, la, _⟩ := J1.list sb1
      obtain ⟨o1, ho1, _⟩ := id p1
      refine call_zipM (show s1.heap.IsTuple m ia.toArray from p1) la.isList fun h' vz vi vo w1 w2 size hk => wpAny_pyIter_zip vz ?_
      have J2 : Inv X pins σ H1 { s1 with heap := h' } := J1.kept (t' := s1.toks) hk
      exact ⟨s1.heap.objs.size + 4, [s1.heap.objs.size + 4, s1.heap.objs.size + 2, s1.heap.objs.size + 3, s1.heap.objs.size, s1.heap.objs.size + 1], _, _, H1, rfl, J2, turn_zipM (PySem.W.ktu_apart s1.heap.objs.size m n (Heap.lt_size ho1) la.lt), ⟨vz, vi, ⟨_, _, vo⟩, w1, w2⟩, fresh5, qq⟩


end K76
/-! K76, part W2: rules with the fragment said (for comprehensions' blocks), a call by keywords alone. -/
namespace K76
open PySem PySem.Spec PyProof.Rows L2

section
variable {X : Cx} {K0 : PySem.W.Frag}
theorem ix_listK (h : X.K = K0 := by rfl) : IxR X (rIxL K0) := by subst h; exact ix_list
theorem ix_tupK (h : X.K = K0 := by rfl) : IxR X (rIxT K0) := by subst h; exact ix_tup
theorem call_lenK (h : X.K = K0 := by rfl) : CallR X (.builtin "len") (Evl.rLenS K0) := by subst h; exact call_len_seq
theorem call_isiX (h : X.K = K0 := by rfl) : CallR X (.builtin "isinstance") (rIsi K0) := by subst h; exact call_isi
theorem pi_listK {tg l : Expr} {tl : TE} (hl : PE X l tl) (h : X.K = K0 := by rfl) : PI X tg l (iList K0 tl) := by subst h; exact pi_list hl
theorem pi_tupK {tg l : Expr} {tl : TE} (hl : PE X l tl) (h : X.K = K0 := by rfl) : PI X tg l (iTup K0 tl) := by subst h; exact pi_tup hl
theorem pg_tupK {es : List Expr} {k : Nat} {t : TGs} {n : Nat} {pos : Pos} (hc : X.calm = true) (h : PGs X es t)
    (hn : (assignEach es X.env).length = n := by rfl) (hst : (assignEach es X.env).findIdx? (·.1) = none := by rfl) (hK : X.K = K0 := by rfl) : PG X (.Tuple es k pos) (gTup K0 n t) := by
  subst hK
  exact pg_tup hc h hn hst
end

/-! ### f(k = a, l = b), no argument by its place -/
section
variable {X : Cx} {CX : CXT} {k j : Nat} {f : Addr} {fd : FuncData} {ps ks : List Str} {sp : Sp} {E : XK} {x : Str} {p pos : Pos} {kws : List Keyword} {tk : TA}
variable {g : List Value → List Value → List Value} {gV : List V → List V → List V}
theorem pe_kw0 (F : FnOk X.prog X.w X.K X.mg X.base CX k f fd ps sp) (hr : Room k X.A) (hg : Gl X x) (hm : X.mg x = some (.ref f)) (hk : PySem.W.keepIn X.K (.ref f) = true) (hb : KBinds X.K fd ps ks g gV) (hx : Passes CX X E)
    (hkw : PK X kws tk) (hall : (backToKw pos (keywordEach kws X.env)).all (·.1.isSome) = true := by rfl) (hks : (backToKw pos (keywordEach kws X.env)).filterMap (·.1) = ks := by rfl)
    (hdb : (x == ("__debug__" : Str)) = false := by decide)
    (hpl : ((backTo pos (starEach [] X.env)).any (·.1) || (backToKw pos (keywordEach kws X.env)).any (·.1.isNone)) = false := by rfl) :
    PE X (.Call (.Name x p) [] kws pos) (tCallK sp gV E tNil tk) := by
  refine ⟨fun pins s σ H Q I h => ?_⟩
  refine wpAny_Call_Name_kw (ld_glob I hg hm ?_ hdb)
  refine PySem.W.callWith_KW0 (h₀ := X.base) I.ok.mod.kin hk hall (thn (hkw.run pos pins s σ H _ I h) fun ws s2 ⟨zs, H2, I2, rz, q2⟩ => ⟨I2.kIn, ?_⟩) hpl
  rw [hks]
  exact run_fnk (us := []) F hr hb hx I2 .nil rz q2
/-- two keywords, in the other order -/
def swG {α : Type} (us ws : List α) : List α := match us, ws with
  | [], [a, b] => [b, a]
  | _, _ => []
theorem sw_rel {vs : List V} {us : List Value} {zs : List V} {ws : List Value} (r : Vals vs us) (z : Vals zs ws) : Vals (swG vs zs) (swG us ws) := by
  cases r with
  | cons a b => exact .nil
  | nil =>
    cases z with
    | nil => exact .nil
    | cons a z =>
      cases z with
      | nil => exact .nil
      | cons b z =>
        cases z with
        | nil => exact .cons b (.cons a .nil)
        | cons c z => exact .nil
/-- a def that may be called by two keywords, the second parameter first -/
structure CalK (P : Program) (w : World) (K : PySem.W.Frag) (mg : Str → Option Value) (base : Heap) (k : Nat) (x : Str) (ks : List Str) (sp : Sp) : Prop where
  ex : ∃ (f : Addr) (fd : FuncData) (ps : List Str), FnOk P w K mg base C8.CX0 k f fd ps sp ∧ mg x = some (.ref f) ∧ PySem.W.keepIn K (.ref f) = true ∧ KBinds K fd ps ks swG swG
theorem pe_cK (c : CalK X.prog X.w X.K X.mg X.base k x ks sp) (hr : Room j X.A) (hk : k ≤ j) (hg : Gl X x) (hkw : PK X kws tk)
    (hall : (backToKw pos (keywordEach kws X.env)).all (·.1.isSome) = true := by rfl) (hks : (backToKw pos (keywordEach kws X.env)).filterMap (·.1) = ks := by rfl)
    (hdb : (x == ("__debug__" : Str)) = false := by decide)
    (hpl : ((backTo pos (starEach [] X.env)).any (·.1) || (backToKw pos (keywordEach kws X.env)).any (·.1.isNone)) = false := by rfl) :
    PE X (.Call (.Name x p) [] kws pos) (tCallK sp swG C8.E0 tNil tk) := by
  obtain ⟨f, fd, ps, F, hm, kp, b⟩ := c.ex
  exact pe_kw0 F (hr.mono hk) hg hm kp b C8.pass0 hkw hall hks hdb hpl
end
end K76
/-! K76, part W1: the defs of the text, their names; printed by gen.py. -/
namespace K76
open PySem PySem.Spec PyProof.Rows L2
abbrev pgm : Program := PySem.Challenge.pw_nearadds_k76_whole_least_ahead_at_great
def topS (i : Nat) : Stmt := pgm.main.body.getD i (.Pass ⟨0, 0, 0, 0⟩)
abbrev s_is_integer : Stmt := topS 7
def n_is_integer : List Str := ["value"]
def p_is_integer : List Str := ["value"]
theorem sc_is_integer : FnScope n_is_integer p_is_integer (C8.fnScope s_is_integer) := C8.fnScope_by (by decide +kernel)
abbrev s_primes_in : Stmt := topS 10
def n_primes_in : List Str := ["modulus"]
def p_primes_in : List Str := ["modulus"]
theorem sc_primes_in : FnScope n_primes_in p_primes_in (C8.fnScope s_primes_in) := C8.fnScope_by (by decide +kernel)
abbrev s_need_same : Stmt := topS 17
def n_need_same : List Str := ["one", "other"]
def p_need_same : List Str := ["one", "other"]
theorem sc_need_same : FnScope n_need_same p_need_same (C8.fnScope s_need_same) := C8.fnScope_by (by decide +kernel)
abbrev s_powered : Stmt := topS 19
def n_powered : List Str := ["number", "times", "modulus", "found", "square", "left"]
def p_powered : List Str := ["number", "times", "modulus"]
theorem sc_powered : FnScope n_powered p_powered (C8.fnScope s_powered) := C8.fnScope_by (by decide +kernel)
abbrev s_trimmed : Stmt := topS 25
def n_trimmed : List Str := ["numbers", "prime", "found", "number"]
def p_trimmed : List Str := ["numbers", "prime"]
theorem sc_trimmed : FnScope n_trimmed p_trimmed (C8.fnScope s_trimmed) := C8.fnScope_by (by decide +kernel)
abbrev s_in_one : Stmt := topS 29
def n_in_one : List Str := ["one", "found", "number"]
def p_in_one : List Str := ["one"]
theorem sc_in_one : FnScope n_in_one p_in_one (C8.fnScope s_in_one) := C8.fnScope_by (by decide +kernel)
abbrev s_of_terms : Stmt := topS 35
def n_of_terms : List Str := ["terms", "prime", "left", "offset", "factor", "low", "found"]
def p_of_terms : List Str := ["terms", "prime"]
theorem sc_of_terms : FnScope n_of_terms p_of_terms (C8.fnScope s_of_terms) := C8.fnScope_by (by decide +kernel)
abbrev s_ring_of : Stmt := topS 38
def n_ring_of : List Str := ["n", "prime"]
def p_ring_of : List Str := ["n", "prime"]
theorem sc_ring_of : FnScope n_ring_of p_ring_of (C8.fnScope s_ring_of) := C8.fnScope_by (by decide +kernel)
abbrev s_moved : Stmt := topS 39
def n_moved : List Str := ["values", "by", "at"]
def p_moved : List Str := ["values", "by"]
theorem sc_moved : FnScope n_moved p_moved (C8.fnScope s_moved) := C8.fnScope_by (by decide +kernel)
abbrev s_law_jar : Stmt := topS 49
def n_law_jar : List Str := ["_law_script", "_law_k", "_law_cell", "_law_crowd", "_law_other", "_law_mixed"]
def p_law_jar : List Str := ["_law_script", "_law_k"]
theorem sc_law_jar : FnScope n_law_jar p_law_jar (C8.fnScope s_law_jar) := C8.fnScope_by (by decide +kernel)
abbrev s_law_take : Stmt := topS 50
def n_law_take : List Str := ["_law_jar_here", "_law_many", "_law_found", "_law_stir"]
def p_law_take : List Str := ["_law_jar_here", "_law_many"]
theorem sc_law_take : FnScope n_law_take p_law_take (C8.fnScope s_law_take) := C8.fnScope_by (by decide +kernel)
abbrev s_law_primes : Stmt := topS 52
def n_law_primes : List Str := ["_law_modulus_here", "_law_prime"]
def p_law_primes : List Str := ["_law_modulus_here"]
theorem sc_law_primes : FnScope n_law_primes p_law_primes (C8.fnScope s_law_primes) := C8.fnScope_by (by decide +kernel)
abbrev s_law_step : Stmt := topS 54
def n_law_step : List Str := ["_law_rule_here", "_law_values_here", "_law_many", "_law_found", "_law_place", "_law_offset", "_law_factor"]
def p_law_step : List Str := ["_law_rule_here", "_law_values_here"]
theorem sc_law_step : FnScope n_law_step p_law_step (C8.fnScope s_law_step) := C8.fnScope_by (by decide +kernel)
abbrev s_law_back : Stmt := topS 55
def n_law_back : List Str := ["_law_value", "_law_prime", "_law_other"]
def p_law_back : List Str := ["_law_value", "_law_prime"]
theorem sc_law_back : FnScope n_law_back p_law_back (C8.fnScope s_law_back) := C8.fnScope_by (by decide +kernel)
abbrev s_law_poly : Stmt := topS 56
def n_law_poly : List Str := ["_law_rule_here", "_law_prime", "_law_left", "_law_offset", "_law_factor", "_law_found"]
def p_law_poly : List Str := ["_law_rule_here", "_law_prime"]
theorem sc_law_poly : FnScope n_law_poly p_law_poly (C8.fnScope s_law_poly) := C8.fnScope_by (by decide +kernel)
abbrev s_law_times : Stmt := topS 58
def n_law_times : List Str := ["_law_one", "_law_other", "_law_prime", "_law_found", "_law_at", "_law_own", "_law_place", "_law_more"]
def p_law_times : List Str := ["_law_one", "_law_other", "_law_prime"]
theorem sc_law_times : FnScope n_law_times p_law_times (C8.fnScope s_law_times) := C8.fnScope_by (by decide +kernel)
abbrev s_law_most : Stmt := topS 61
def n_law_most : List Str := ["_law_modulus_here", "_law_n"]
def p_law_most : List Str := ["_law_modulus_here", "_law_n"]
theorem sc_law_most : FnScope n_law_most p_law_most (C8.fnScope s_law_most) := C8.fnScope_by (by decide +kernel)
abbrev s_is_modulus : Stmt := topS 9
def n_is_modulus : List Str := ["value"]
def p_is_modulus : List Str := ["value"]
theorem sc_is_modulus : FnScope n_is_modulus p_is_modulus (C8.fnScope s_is_modulus) := C8.fnScope_by (by decide +kernel)
abbrev s_are_pairs : Stmt := topS 11
def n_are_pairs : List Str := ["value", "modulus", "pair", "part", "at"]
def p_are_pairs : List Str := ["value", "modulus"]
theorem sc_are_pairs : FnScope n_are_pairs p_are_pairs (C8.fnScope s_are_pairs) := C8.fnScope_by (by decide +kernel)
abbrev s_inverse : Stmt := topS 20
def n_inverse : List Str := ["number", "prime"]
def p_inverse : List Str := ["number", "prime"]
theorem sc_inverse : FnScope n_inverse p_inverse (C8.fnScope s_inverse) := C8.fnScope_by (by decide +kernel)
abbrev s_together : Stmt := topS 21
def n_together : List Str := ["modulus", "rests", "primes", "value", "prime", "rest"]
def p_together : List Str := ["modulus", "rests"]
theorem sc_together : FnScope n_together p_together (C8.fnScope s_together) := C8.fnScope_by (by decide +kernel)
abbrev s_added : Stmt := topS 26
def n_added : List Str := ["one", "other", "prime", "size", "left", "right", "number", "further"]
def p_added : List Str := ["one", "other", "prime"]
theorem sc_added : FnScope n_added p_added (C8.fnScope s_added) := C8.fnScope_by (by decide +kernel)
abbrev s_scaled : Stmt := topS 27
def n_scaled : List Str := ["one", "factor", "prime", "number"]
def p_scaled : List Str := ["one", "factor", "prime"]
theorem sc_scaled : FnScope n_scaled p_scaled (C8.fnScope s_scaled) := C8.fnScope_by (by decide +kernel)
abbrev s_times_in_one : Stmt := topS 30
def n_times_in_one : List Str := ["one", "other", "prime", "left", "found"]
def p_times_in_one : List Str := ["one", "other", "prime"]
theorem sc_times_in_one : FnScope n_times_in_one p_times_in_one (C8.fnScope s_times_in_one) := C8.fnScope_by (by decide +kernel)
abbrev s_turned : Stmt := topS 37
def n_turned : List Str := ["terms", "prime", "offset", "factor"]
def p_turned : List Str := ["terms", "prime"]
theorem sc_turned : FnScope n_turned p_turned (C8.fnScope s_turned) := C8.fnScope_by (by decide +kernel)
abbrev s_law_modulus : Stmt := topS 51
def n_law_modulus : List Str := ["_law_jar_here"]
def p_law_modulus : List Str := ["_law_jar_here"]
theorem sc_law_modulus : FnScope n_law_modulus p_law_modulus (C8.fnScope s_law_modulus) := C8.fnScope_by (by decide +kernel)
abbrev s_law_values : Stmt := topS 53
def n_law_values : List Str := ["_law_jar_here", "_law_modulus_here", "_law_n", "_law_way", "_law_own", "_law_turn", "_law_at"]
def p_law_values : List Str := ["_law_jar_here", "_law_modulus_here", "_law_n"]
theorem sc_law_values : FnScope n_law_values p_law_values (C8.fnScope s_law_values) := C8.fnScope_by (by decide +kernel)
abbrev s_law_rest : Stmt := topS 57
def n_law_rest : List Str := ["_law_one", "_law_other", "_law_prime", "_law_found", "_law_size", "_law_back_here", "_law_share", "_law_at", "_law_place", "_law_own"]
def p_law_rest : List Str := ["_law_one", "_law_other", "_law_prime"]
theorem sc_law_rest : FnScope n_law_rest p_law_rest (C8.fnScope s_law_rest) := C8.fnScope_by (by decide +kernel)
abbrev s_law_rule : Stmt := topS 62
def n_law_rule : List Str := ["_law_jar_here", "_law_modulus_here", "_law_most_here", "_law_usual", "_law_found", "_law_width", "_law_turn", "_law_root", "_law_ahead", "_law_own", "_law_low", "_law_share", "_law_terms", "_law_at", "_law_term"]
def p_law_rule : List Str := ["_law_jar_here", "_law_modulus_here", "_law_most_here"]
theorem sc_law_rule : FnScope n_law_rule p_law_rule (C8.fnScope s_law_rule) := C8.fnScope_by (by decide +kernel)
abbrev s_law_hopeless : Stmt := topS 64
def n_law_hopeless : List Str := ["_law_rule_here", "_law_values_here", "_law_prime", "_law_value"]
def p_law_hopeless : List Str := ["_law_rule_here", "_law_values_here"]
theorem sc_law_hopeless : FnScope n_law_hopeless p_law_hopeless (C8.fnScope s_law_hopeless) := C8.fnScope_by (by decide +kernel)
abbrev s_is_of_modulus : Stmt := topS 12
def n_is_of_modulus : List Str := ["value"]
def p_is_of_modulus : List Str := ["value"]
theorem sc_is_of_modulus : FnScope n_is_of_modulus p_is_of_modulus (C8.fnScope s_is_of_modulus) := C8.fnScope_by (by decide +kernel)
abbrev s_monic : Stmt := topS 28
def n_monic : List Str := ["one", "prime"]
def p_monic : List Str := ["one", "prime"]
theorem sc_monic : FnScope n_monic p_monic (C8.fnScope s_monic) := C8.fnScope_by (by decide +kernel)
abbrev s_times : Stmt := topS 31
def n_times : List Str := ["one", "other", "prime", "found", "at", "number", "further", "factor"]
def p_times : List Str := ["one", "other", "prime"]
theorem sc_times : FnScope n_times p_times (C8.fnScope s_times) := C8.fnScope_by (by decide +kernel)
abbrev s_split : Stmt := topS 32
def n_split : List Str := ["one", "other", "prime", "rest", "size", "quotient", "head", "at", "factor", "further", "number"]
def p_split : List Str := ["one", "other", "prime"]
theorem sc_split : FnScope n_split p_split (C8.fnScope s_split) := C8.fnScope_by (by decide +kernel)
abbrev s_put_rows : Stmt := topS 43
def n_put_rows : List Str := ["modulus", "rows", "primes", "units", "prime", "other", "found", "at", "unit", "row"]
def p_put_rows : List Str := ["modulus", "rows"]
theorem sc_put_rows : FnScope n_put_rows p_put_rows (C8.fnScope s_put_rows) := C8.fnScope_by (by decide +kernel)
abbrev s_law_common : Stmt := topS 59
def n_law_common : List Str := ["_law_one", "_law_other", "_law_prime", "_law_back_here", "_law_own"]
def p_law_common : List Str := ["_law_one", "_law_other", "_law_prime"]
theorem sc_law_common : FnScope n_law_common p_law_common (C8.fnScope s_law_common) := C8.fnScope_by (by decide +kernel)
abbrev s_is_a_rule : Stmt := topS 13
def n_is_a_rule : List Str := ["value"]
def p_is_a_rule : List Str := ["value"]
theorem sc_is_a_rule : FnScope n_is_a_rule p_is_a_rule (C8.fnScope s_is_a_rule) := C8.fnScope_by (by decide +kernel)
abbrev s_is_a_round : Stmt := topS 14
def n_is_a_round : List Str := ["value", "part"]
def p_is_a_round : List Str := ["value"]
theorem sc_is_a_round : FnScope n_is_a_round p_is_a_round (C8.fnScope s_is_a_round) := C8.fnScope_by (by decide +kernel)
abbrev s_common_of : Stmt := topS 33
def n_common_of : List Str := ["one", "other", "prime", "left", "right"]
def p_common_of : List Str := ["one", "other", "prime"]
theorem sc_common_of : FnScope n_common_of p_common_of (C8.fnScope s_common_of) := C8.fnScope_by (by decide +kernel)
abbrev s_power_within : Stmt := topS 34
def n_power_within : List Str := ["one", "number", "other", "prime", "found", "square", "left"]
def p_power_within : List Str := ["one", "number", "other", "prime"]
theorem sc_power_within : FnScope n_power_within p_power_within (C8.fnScope s_power_within) := C8.fnScope_by (by decide +kernel)
abbrev s_inverse_within : Stmt := topS 41
def n_inverse_within : List Str := ["one", "other", "prime", "left", "right", "first", "second", "quotient", "rest"]
def p_inverse_within : List Str := ["one", "other", "prime"]
theorem sc_inverse_within : FnScope n_inverse_within p_inverse_within (C8.fnScope s_inverse_within) := C8.fnScope_by (by decide +kernel)
abbrev s_law_ring_common : Stmt := topS 60
def n_law_ring_common : List Str := ["_law_one", "_law_n", "_law_prime", "_law_found", "_law_left", "_law_bits", "_law_bit"]
def p_law_ring_common : List Str := ["_law_one", "_law_n", "_law_prime"]
theorem sc_law_ring_common : FnScope n_law_ring_common p_law_ring_common (C8.fnScope s_law_ring_common) := C8.fnScope_by (by decide +kernel)
abbrev s_need_rule : Stmt := topS 15
def n_need_rule : List Str := ["rule"]
def p_need_rule : List Str := ["rule"]
theorem sc_need_rule : FnScope n_need_rule p_need_rule (C8.fnScope s_need_rule) := C8.fnScope_by (by decide +kernel)
abbrev s_need_round : Stmt := topS 16
def n_need_round : List Str := ["row"]
def p_need_round : List Str := ["row"]
theorem sc_need_round : FnScope n_need_round p_need_round (C8.fnScope s_need_round) := C8.fnScope_by (by decide +kernel)
abbrev s_ring_common : Stmt := topS 40
def n_ring_common : List Str := ["one", "n", "prime"]
def p_ring_common : List Str := ["one", "n", "prime"]
theorem sc_ring_common : FnScope n_ring_common p_ring_common (C8.fnScope s_ring_common) := C8.fnScope_by (by decide +kernel)
abbrev s_law_free : Stmt := topS 63
def n_law_free : List Str := ["_law_rule_here", "_law_values_here", "_law_times_here", "_law_prime", "_law_one", "_law_row", "_law_value"]
def p_law_free : List Str := ["_law_rule_here", "_law_values_here", "_law_times_here"]
theorem sc_law_free : FnScope n_law_free p_law_free (C8.fnScope s_law_free) := C8.fnScope_by (by decide +kernel)
abbrev s_ahead_of : Stmt := topS 42
def n_ahead_of : List Str := ["terms", "values", "prime", "n", "found", "shift", "one", "common", "goal", "rest", "own", "whole", "share", "row"]
def p_ahead_of : List Str := ["terms", "values", "prime"]
theorem sc_ahead_of : FnScope n_ahead_of p_ahead_of (C8.fnScope s_ahead_of) := C8.fnScope_by (by decide +kernel)
abbrev s_need_both : Stmt := topS 45
def n_need_both : List Str := ["rule", "row"]
def p_need_both : List Str := ["rule", "row"]
theorem sc_need_both : FnScope n_need_both p_need_both (C8.fnScope s_need_both) := C8.fnScope_by (by decide +kernel)
abbrev s_law_right : Stmt := topS 65
def n_law_right : List Str := ["_law_rule_here", "_law_row", "_law_told", "_law_modulus_here", "_law_values_here", "_law_times_here", "_law_ahead", "_law_own", "_law_fewer", "_law_prime", "_law_number"]
def p_law_right : List Str := ["_law_rule_here", "_law_row", "_law_told"]
theorem sc_law_right : FnScope n_law_right p_law_right (C8.fnScope s_law_right) := C8.fnScope_by (by decide +kernel)
abbrev s_least_of : Stmt := topS 46
def n_least_of : List Str := ["terms", "values", "prime", "offset", "factor", "value", "current", "found"]
def p_least_of : List Str := ["terms", "values", "prime"]
theorem sc_least_of : FnScope n_least_of p_least_of (C8.fnScope s_least_of) := C8.fnScope_by (by decide +kernel)
abbrev s_least_ahead : Stmt := topS 47
def n_least_ahead : List Str := ["rule", "row", "modulus", "values", "rows", "size", "prime", "found", "ahead"]
def p_least_ahead : List Str := ["rule", "row"]
theorem sc_least_ahead : FnScope n_least_ahead p_least_ahead (C8.fnScope s_least_ahead) := C8.fnScope_by (by decide +kernel)
abbrev s_law : Stmt := topS 66
def n_law : List Str := ["_law_script", "_law_k", "_law_jar_here", "_law_modulus_here", "_law_n", "_law_rule_here", "_law_first", "_law_parts", "_law_second", "_law_turn", "_law_values_here"]
def p_law : List Str := ["_law_script"]
theorem sc_law : FnScope n_law p_law (C8.fnScope s_law) := C8.fnScope_by (by decide +kernel)
/-- a def of the module -/
def Dn (K : PySem.W.Frag) (mg : Str → Option Value) (x : Str) (st : Stmt) : Prop := ∃ f fd, C8.Def K mg x st f fd ∧ fd.defaults = .none
/-- what the proof asks of the module -/
structure Txt (K : PySem.W.Frag) (mg : Str → Option Value) : Prop where
  d_is_integer : Dn K mg "is_integer" s_is_integer
  d_primes_in : Dn K mg "primes_in" s_primes_in
  d_need_same : Dn K mg "need_same" s_need_same
  d_powered : Dn K mg "powered" s_powered
  d_trimmed : Dn K mg "trimmed" s_trimmed
  d_in_one : Dn K mg "in_one" s_in_one
  d_of_terms : Dn K mg "of_terms" s_of_terms
  d_ring_of : Dn K mg "ring_of" s_ring_of
  d_moved : Dn K mg "moved" s_moved
  d_law_jar : Dn K mg "_law_jar" s_law_jar
  d_law_take : Dn K mg "_law_take" s_law_take
  d_law_primes : Dn K mg "_law_primes" s_law_primes
  d_law_step : Dn K mg "_law_step" s_law_step
  d_law_back : Dn K mg "_law_back" s_law_back
  d_law_poly : Dn K mg "_law_poly" s_law_poly
  d_law_times : Dn K mg "_law_times" s_law_times
  d_law_most : Dn K mg "_law_most" s_law_most
  d_is_modulus : Dn K mg "is_modulus" s_is_modulus
  d_are_pairs : Dn K mg "are_pairs" s_are_pairs
  d_inverse : Dn K mg "inverse" s_inverse
  d_together : Dn K mg "together" s_together
  d_added : Dn K mg "added" s_added
  d_scaled : Dn K mg "scaled" s_scaled
  d_times_in_one : Dn K mg "times_in_one" s_times_in_one
  d_turned : Dn K mg "turned" s_turned
  d_law_modulus : Dn K mg "_law_modulus" s_law_modulus
  d_law_values : Dn K mg "_law_values" s_law_values
  d_law_rest : Dn K mg "_law_rest" s_law_rest
  d_law_rule : Dn K mg "_law_rule" s_law_rule
  d_law_hopeless : Dn K mg "_law_hopeless" s_law_hopeless
  d_is_of_modulus : Dn K mg "is_of_modulus" s_is_of_modulus
  d_monic : Dn K mg "monic" s_monic
  d_times : Dn K mg "times" s_times
  d_split : Dn K mg "split" s_split
  d_put_rows : Dn K mg "put_rows" s_put_rows
  d_law_common : Dn K mg "_law_common" s_law_common
  d_is_a_rule : Dn K mg "is_a_rule" s_is_a_rule
  d_is_a_round : Dn K mg "is_a_round" s_is_a_round
  d_common_of : Dn K mg "common_of" s_common_of
  d_power_within : Dn K mg "power_within" s_power_within
  d_inverse_within : Dn K mg "inverse_within" s_inverse_within
  d_law_ring_common : Dn K mg "_law_ring_common" s_law_ring_common
  d_need_rule : Dn K mg "need_rule" s_need_rule
  d_need_round : Dn K mg "need_round" s_need_round
  d_ring_common : Dn K mg "ring_common" s_ring_common
  d_law_free : Dn K mg "_law_free" s_law_free
  d_ahead_of : Dn K mg "ahead_of" s_ahead_of
  d_need_both : Dn K mg "need_both" s_need_both
  d_law_right : Dn K mg "_law_right" s_law_right
  d_least_of : Dn K mg "least_of" s_least_of
  d_least_ahead : Dn K mg "least_ahead" s_least_ahead
  d_law : Dn K mg "law" s_law
  b_len : mg "len" = none
  b_abs : mg "abs" = none
  b_sum : mg "sum" = none
  b_any : mg "any" = none
  b_all : mg "all" = none
  b_isinstance : mg "isinstance" = none
  b_repr : mg "repr" = none
  b_int : mg "int" = none
  b_list : mg "list" = none
  b_tuple : mg "tuple" = none
  b_bool : mg "bool" = none
  b_max : mg "max" = none
  b_min : mg "min" = none
  b_range : mg "range" = none
  b_enumerate : mg "enumerate" = none
  b_zip : mg "zip" = none
  b_reversed : mg "reversed" = none
  g_BITS : ∃ u, mg "BITS" = some u ∧ RelV (.int 24) u
  g_MASK : ∃ u, mg "MASK" = some u ∧ RelV (.int 16777215) u
  tab : Tab K mg
def lcScope : Expr → Scope
  | .ListComp _ _ sc _ => sc
  | _ => ⟨.function, [], false, false, []⟩
def asgVal : Stmt → Expr
  | .Assign _ v _ => v
  | _ => .Constant .none 0 ⟨0, 0, 0, 0⟩
def scPR : Scope := lcScope (asgVal ((C8.fnBody s_put_rows).getD 1 (.Pass ⟨0, 0, 0, 0⟩)))
end K76
/-! K76, part W3: loops and comprehensions over any source that stands still; heaps. -/
namespace K76
open PySem PySem.Spec PyProof.Rows L2
abbrev Ex := Evl.Ex
/-- a list of whole numbers, of one's own -/
abbrev LI (H : Hp) (a : Addr) (ns : List Int) : Prop := H a = some (.lst (ns.map V.int))
abbrev TI (K : PySem.W.Frag) (H : Hp) (a : Addr) (ns : List Int) : Prop := SqT K H a (ns.map V.int)
theorem own_up {H H' : Hp} {a : Addr} {o : HO} (h : H a = some o) (e : Ex H H') : H' a = some o := e a o h
theorem own_new {Y : Hp} {q a : Addr} {o x : HO} (hq : Y q = none) (h : Y a = some x) : upd Y q o a = some x := Evl.Ex.new hq a x h
theorem own_bk {Y Z : Hp} {a : Addr} {x : HO} (e : Ex Y Z) (h : Y a = some x) : Z a = some x := e a x h
theorem sz1 {x : V} : [x].length ≤ sizeLine := Evl.sz_of (by show 1 ≤ 100000; decide)
theorem sz2 {x y : V} : [x, y].length ≤ sizeLine := Evl.sz_of (by show 2 ≤ 100000; decide)
theorem sz3 {x y z : V} : [x, y, z].length ≤ sizeLine := Evl.sz_of (by show 3 ≤ 100000; decide)
theorem sz0 : ([] : List V).length ≤ sizeLine := Nat.zero_le _
theorem sqt_up {K : PySem.W.Frag} {H H' : Hp} {a : Addr} {xs : List V} (h : SqT K H a xs) (e : Ex H H') : SqT K H' a xs := Evl.ex_t e h
theorem sql_up {K : PySem.W.Frag} {H H' : Hp} {a : Addr} {xs : List V} (h : H a = some (.lst xs)) (e : Ex H H') : SqL K H' a xs := Evl.sq_of (e a _ h)
theorem li_sq {K : PySem.W.Frag} {H : Hp} {a : Addr} {xs : List V} (h : H a = some (.lst xs)) : SqL K H a xs := Evl.sq_of h
theorem fr_dn {H H' : Hp} {a : Addr} (h : H' a = none) (e : Ex H H') : H a = none := Evl.fresh_back e h

/-- what a source yields while what stood at B stands: n items, the i-th of them, and only new objects beside -/
structure Src (J : It) (B : Hp) (n : Nat) (itm : Nat → V → Hp → Prop) : Prop where
  go : ∀ i H, i < n → Ex B H → J.go i H
  stop : ∀ H, Ex B H → J.stop n H
  yld : ∀ i H x H', i < n → Ex B H → J.yld i H x H' → (H' = H ∨ ∃ T xs, H T = none ∧ H' = upd H T (.tup xs)) ∧ itm i x H'
section
variable {K : PySem.W.Frag} {B : Hp} {a b : Addr} {xs ys : List V}
theorem src_list (h : B a = some (.lst xs)) : Src (Itl K a) B xs.length fun i x _ => xs[i]? = some x where
  go := fun i H hi e => ⟨xs, xs[i], sql_up h e, List.getElem?_eq_getElem hi⟩
  stop := fun H e => ⟨xs, sql_up h e, Nat.le_refl _⟩
  yld := fun i H x H' hi e y => ⟨.inl y.1, y.2 _ (sql_up h e)⟩
theorem src_tup (h : SqT K B a xs) : Src (Itt K a) B xs.length fun i x _ => xs[i]? = some x where
  go := fun i H hi e => ⟨xs, xs[i], sqt_up h e, List.getElem?_eq_getElem hi⟩
  stop := fun H e => ⟨xs, sqt_up h e, Nat.le_refl _⟩
  yld := fun i H x H' hi e y => ⟨.inl y.1, y.2 _ (sqt_up h e)⟩
theorem src_rng {lo : Int} {n : Nat} : Src (Itr lo n) B n fun i x _ => x = .int (lo + i) where
  go := fun i H hi e => hi
  stop := fun H e => Nat.le_refl _
  yld := fun i H x H' hi e y => ⟨.inl y.1, y.2⟩
theorem src_rngC {lo c : Int} {n : Nat} : Src (Itc lo c n) B n fun i x _ => x = .int (lo + (i : Nat) * c) where
  go := fun i H hi e => hi
  stop := fun H e => Nat.le_refl _
  yld := fun i H x H' hi e y => ⟨.inl y.1, y.2⟩
theorem src_rev (h : B a = some (.lst xs)) : Src (Itv K a xs.length) B xs.length fun i x _ => xs[xs.length - 1 - i]? = some x where
  go := fun i H hi e => ⟨hi, xs, xs[xs.length - 1 - i]'(by omega), sql_up h e, List.getElem?_eq_getElem _⟩
  stop := fun H e => Nat.le_refl _
  yld := fun i H x H' hi e y => ⟨.inl y.1, y.2 _ (sql_up h e)⟩
theorem src_enum (h : B a = some (.lst xs)) : Src (Ite K a) B xs.length fun i v H' => ∃ T x, v = .ref T ∧ H' T = some (.tup [.int (i : Nat), x]) ∧ xs[i]? = some x where
  go := fun i H hi e => ⟨xs, xs[i], sql_up h e, List.getElem?_eq_getElem hi⟩
  stop := fun H e => ⟨xs, sql_up h e, Nat.le_refl _⟩
  yld := fun i H v H' hi e y => by
    obtain ⟨T, x, rfl, hT, rfl, hx⟩ := y
    exact ⟨.inr ⟨T, _, hT, rfl⟩, T, x, rfl, upd_same, hx _ (sql_up h e)⟩
theorem src_zip (h : B a = some (.lst xs)) (h' : B b = some (.lst ys)) : Src (Itz K a b) B (min xs.length ys.length) fun i v H' => ∃ T x y, v = .ref T ∧ H' T = some (.tup [x, y]) ∧ xs[i]? = some x ∧ ys[i]? = some y where
  go := fun i H hi e => ⟨xs, ys, xs[i]'(by omega), ys[i]'(by omega), sql_up h e, sql_up h' e, List.getElem?_eq_getElem _, List.getElem?_eq_getElem _⟩
  stop := fun H e => ⟨xs, ys, sql_up h e, sql_up h' e, by omega⟩
  yld := fun i H v H' hi e y => by
    obtain ⟨T, x, y, rfl, hT, rfl, hx, hy⟩ := y
    exact ⟨.inr ⟨T, _, hT, rfl⟩, T, x, y, rfl, upd_same, hx _ (sql_up h e), hy _ (sql_up h' e)⟩
theorem src_zipM (h : SqT K B a xs) (h' : B b = some (.lst ys)) : Src (ItzM K a b) B (min xs.length ys.length) fun i v H' => ∃ T x y, v = .ref T ∧ H' T = some (.tup [x, y]) ∧ xs[i]? = some x ∧ ys[i]? = some y where
  go := fun i H hi e => ⟨xs, ys, xs[i]'(by omega), ys[i]'(by omega), sqt_up h e, sql_up h' e, List.getElem?_eq_getElem _, List.getElem?_eq_getElem _⟩
  stop := fun H e => ⟨xs, ys, sqt_up h e, sql_up h' e, by omega⟩
  yld := fun i H v H' hi e y => by
    obtain ⟨T, x, y, rfl, hT, rfl, hx, hy⟩ := y
    exact ⟨.inr ⟨T, _, hT, rfl⟩, T, x, y, rfl, upd_same, hx _ (sqt_up h e), hy _ (sql_up h' e)⟩
end
theorem ext_of {H H' : Hp} (h : H' = H ∨ ∃ T xs, H T = none ∧ H' = upd H T (.tup xs)) : Ex H H' := by
  rcases h with rfl | ⟨T, xs, hT, rfl⟩
  · exact Evl.Ex.refl _
  · exact Evl.Ex.new hT
/-- a for loop over a source; Pv keeps what stood at B -/
theorem for_src {J : It} {B : Hp} {n : Nat} {itm : Nat → V → Hp → Prop} (S : Src J B n itm) {g : TG} {tb : TS} {D : Ends} {σ : L2.St} {H : Hp} (Pv : Nat → L2.St → Hp → Prop) (h0 : Pv 0 σ H) (hB : ∀ i σ H, Pv i σ H → Ex B H)
    (hs : ∀ i x σ H H', i < n → Pv i σ H → Ex H H' → itm i x H' → g x σ H' fun σ2 H2 => tb { D with nx := Pv (i + 1), ct := Pv (i + 1), bk := D.nx } σ2 H2) (hd : ∀ σ H, Pv n σ H → D.nx σ H) :
    ∃ W : Nat → Nat → L2.St → Hp → Prop, (∃ m, W 0 m σ H) ∧ ∀ i m σ H, W i m σ H →
      (J.stop i H ∧ D.nx σ H) ∨ (J.go i H ∧ ∃ N : L2.St → Hp → Prop, (∀ σ' H', N σ' H' → ∃ m', m' < m ∧ W (i + 1) m' σ' H') ∧ ∀ x H', J.yld i H x H' → g x σ H' fun σ2 H2 => tb { D with nx := N, ct := N, bk := D.nx } σ2 H2) := by
  refine ⟨fun i m σ H => m = n - i ∧ i ≤ n ∧ Pv i σ H, ⟨n, by simp, Nat.zero_le _, h0⟩, ?_⟩
  rintro i m σ H ⟨rfl, hi, p⟩
  have e := hB i σ H p
  by_cases c : i < n
  · exact .inr ⟨S.go i H c e, Pv (i + 1), fun σ' H' q => ⟨n - (i + 1), by omega, rfl, by omega, q⟩, fun x H' y => by
      obtain ⟨k, it⟩ := S.yld i H x H' c e y
      exact hs i x σ H H' c p (ext_of k) it⟩
  · have e' : i = n := by omega
    subst e'
    exact .inl ⟨S.stop H e, hd σ H p⟩
/-- a comprehension over a source: Pd i acc H, of the items so far; it asks lists of nothing -/
theorem lc_src {J : It} {H1 : Hp} {n : Nat} {itm : Nat → V → Hp → Prop} (S : Src J H1 n itm) (hn : n ≤ 100000) {g : TG} {tt : TT} {te : TE} {vs : List Nat} {σ : L2.St} {Qd : Addr → Hp → Prop} (Pd : Nat → List V → Hp → Prop) (h0 : ∀ H, Pd 0 [] H)
    (mono : ∀ i acc H H', Pd i acc H → (∀ b o, H b = some o → (∀ ys, o ≠ .lst ys) → H' b = some o) → Pd i acc H')
    (hs : ∀ i x acc H' (Z : VK) (Z' : Hp → Prop), i < n → Ex H1 H' → Pd i acc H' → itm i x H' → (∀ y H4, Ex H' H4 → Pd (i + 1) (acc ++ [y]) H4 → Z y H4) → (∀ H3, Ex H' H3 → Pd (i + 1) acc H3 → Z' H3) →
      g x (wipe σ vs) H' fun σ2 H2 => wipe σ2 vs = wipe σ vs ∧ tt σ2 H2 fun b H3 => if b = true then te σ2 H3 Z else Z' H3)
    (hd : ∀ D H' acc, H1 D = none → Ex H1 H' → H' D = some (.lst acc) → Pd n acc H' → Qd D H') :
    ∀ D, H1 D = none → ∃ W : Nat → Nat → Hp → Prop, (∃ m, W 0 m (upd H1 D (.lst []))) ∧ ∀ i m H, W i m H →
  (J.stop i H ∧ Qd D H) ∨ (J.go i H ∧ ∃ Nx : Hp → Prop, (∀ H', Nx H' → ∃ m', m' < m ∧ W (i + 1) m' H') ∧ ∀ x H', J.yld i H x H' → g x (wipe σ vs) H' fun σ2 H2 => wipe σ2 vs = wipe σ vs ∧ tt σ2 H2 fun b H3 =>
    if b = true then te σ2 H3 fun y H4 => ∃ acc, H4 D = some (.lst acc) ∧ acc.length < sizeLine ∧ Nx (upd H4 D (.lst (acc ++ [y]))) else Nx H3) := by
  intro D hD
  refine ⟨fun i m H => m = n - i ∧ i ≤ n ∧ Ex H1 H ∧ ∃ acc, H D = some (.lst acc) ∧ acc.length ≤ i ∧ Pd i acc H, ⟨n, by simp, Nat.zero_le _, Evl.Ex.new hD, [], upd_same, Nat.le_refl _, h0 _⟩, ?_⟩
  rintro i m H ⟨rfl, hi, e, acc, hacc, hl, p⟩
  by_cases c : i < n
  · refine .inr ⟨S.go i H c e, fun H => Ex H1 H ∧ ∃ acc, H D = some (.lst acc) ∧ acc.length ≤ i + 1 ∧ Pd (i + 1) acc H, fun H' q => ⟨n - (i + 1), by omega, rfl, by omega, q⟩, fun x H' y => ?_⟩
    obtain ⟨k, it⟩ := S.yld i H x H' c e y
    have ek := ext_of k
    have e' := e.trans ek
    have p' : Pd i acc H' := mono i acc H H' p fun b o hb _ => ek b o hb
    refine hs i x acc H' _ _ c e' p' it (fun y H4 e4 q3 => ?_) (fun H3 e3 q3 => ?_)
    · have hacc4 : H4 D = some (.lst acc) := e4 _ _ (ek _ _ hacc)
      refine ⟨acc, hacc4, Evl.sz_lt (by omega), Evl.Ex.mut (e'.trans e4) hD, _, upd_same, by rw [List.length_append]; show acc.length + 1 ≤ _; omega, mono _ _ _ _ q3 fun b o hb ho => ?_⟩
      by_cases eb : b = D
      · subst eb
        rw [hacc4] at hb
        exact absurd (Option.some.inj hb).symm (ho _)
      · rw [upd_ne eb]
        exact hb
    · exact ⟨e'.trans e3, acc, e3 _ _ (ek _ _ hacc), by omega, q3⟩
  · have e' : i = n := by omega
    subst e'
    exact .inl ⟨S.stop H e, hd D H acc hD e hacc p⟩
/-- a while loop, by a measure -/
theorem while_m {c : TT} {tb : TS} {D : Ends} {σ : L2.St} {H : Hp} (W : Nat → L2.St → Hp → Prop) (m0 : Nat) (h0 : W m0 σ H)
    (hs : ∀ m σ H, W m σ H → c σ H fun b H1 => if b = true then ∃ N : L2.St → Hp → Prop, (∀ σ' H', N σ' H' → ∃ m', m' < m ∧ W m' σ' H') ∧ tb { D with nx := N, ct := N, bk := D.nx } σ H1 else D.nx σ H1) : tWhile c tb D σ H :=
  ⟨W, ⟨m0, h0⟩, hs⟩
theorem itd {p A B : Prop} [Decidable p] (h1 : p → A) (h2 : ¬ p → B) : if decide p = true then A else B := by
  by_cases h : p
  · rw [if_pos (decide_eq_true h)]; exact h1 h
  · rw [if_neg (by rw [decide_eq_true_eq]; exact h)]; exact h2 h
theorem itn {p A B : Prop} [Decidable p] (h1 : ¬ p → A) (h2 : p → B) : if (!decide p) = true then A else B := by
  by_cases h : p
  · rw [decide_eq_true h]; exact iteF (h2 h)
  · rw [decide_eq_false h]; exact iteT (h1 h)
end K76
local macro_rules | `(tactic| walk_at "k76e") => `(tactic| (first | assumption | exact Evl.Ex.refl _ | (refine Evl.Ex.trans ?_ (Evl.Ex.new (by assumption)); walk_at "k76e") | (refine Evl.Ex.mut ?_ ?_; (first | done | walk_at "k76e"); (first | done | walk_at "k76f")) | (refine Evl.Ex.trans ?_ (by assumption); walk_at "k76e")))
local macro_rules | `(tactic| walk_at "k76f") => `(tactic| (first | assumption | exact K76.fr_dn (by assumption) (by walk_at "k76e")))
local macro_rules | `(tactic| walk_at "k76h") => `(tactic| (first | assumption | exact L2.upd_same | (refine K76.own_new (by assumption) ?_; walk_at "k76h") | (refine K76.own_bk (by assumption) ?_; walk_at "k76h") | (refine K76.own_up (by assumption) ?_; walk_at "k76e") | (refine K76.sqt_up (by assumption) ?_; walk_at "k76e") | (refine Evl.st_of ?_; walk_at "k76h") | (refine Evl.sq_of ?_; walk_at "k76h")))
namespace K76
open PySem PySem.Spec PyProof.Rows L2

theorem ln1 {α : Type} {us : List α} (h : us.length = 1) : ∃ a, us = [a] := by
  match us, h with
  | [a], _ => exact ⟨a, rfl⟩
theorem ln2 {α : Type} {us : List α} (h : us.length = 2) : ∃ a b, us = [a, b] := by
  match us, h with
  | [a, b], _ => exact ⟨a, b, rfl⟩
theorem ln3 {α : Type} {us : List α} (h : us.length = 3) : ∃ a b c, us = [a, b, c] := by
  match us, h with
  | [a, b, c], _ => exact ⟨a, b, c, rfl⟩
theorem ln4 {α : Type} {us : List α} (h : us.length = 4) : ∃ a b c d, us = [a, b, c, d] := by
  match us, h with
  | [a, b, c, d], _ => exact ⟨a, b, c, d, rfl⟩
theorem tyx_t {K : PySem.W.Frag} {H : Hp} {a : Addr} {xs : List V} (h : SqT K H a xs) : TyX K H (.ref a) (.type "tuple") := by
  rcases h with (h | ⟨o, h⟩) | ⟨o, its, n, ho, hc, _⟩
  · exact .base (.tup h)
  · exact .fTuple h
  · exact .kTuple ho hc
theorem cmul_s {i j : Int} (h : -(2 ^ 64) < i ∧ i < 2 ^ 64) : CMul i j := .inl h
theorem mod_lt' {a m : Int} (h : 0 < m) : 0 ≤ a % m ∧ a % m < m := ⟨Int.emod_nonneg _ (by omega), Int.emod_lt_of_pos _ h⟩
/-! ### contracts -/
def sp_is_integer (K : PySem.W.Frag) : Sp := fun vs H Q _ => ∃ i : Int, vs = [.int i] ∧ ∀ H', Ex H H' → Q (.bl true) H'
def sp_primes_in (K : PySem.W.Frag) : Sp := fun vs H Q _ => ∃ (m : Int) (ps : List Int), vs = [.int m] ∧ look m = some ps ∧ ∀ a H', Ex H H' → TI K H' a ps → Q (.ref a) H'
def sp_powered (K : PySem.W.Frag) : Sp := fun vs H Q _ => ∃ b e m : Int, vs = [.int b, .int e, .int m] ∧ 0 ≤ e ∧ 0 < m ∧ m ≤ 100 ∧ ∀ H', Ex H H' → Q (.int (b ^ e.toNat % m)) H'
section
variable {P : Program} {w : World} {K : PySem.W.Frag} {mg : Str → Option Value} {base : Heap}
theorem cal_is_integer (T : Txt K mg) : C8.Cal P w K mg base 1 "is_integer" (sp_is_integer K) [] := by
  obtain ⟨f, fd, F, df⟩ := T.d_is_integer
  refine C8.cal0 F (F.fn.binds df fun _ _ _ _ _ _ us hl => ?bnd) .nil sc_is_integer (fun vs H Q E h => ?len) fun cdv A outer s H vs Q E hr h => ?_
  case bnd => obtain ⟨a0, rfl⟩ := ln1 hl; rfl
  case len => first | (obtain ⟨_, rfl, _⟩ := h; rfl) | (obtain ⟨_, _, rfl, _⟩ := h; rfl) | (obtain ⟨_, _, _, rfl, _⟩ := h; rfl) | (obtain ⟨_, _, _, _, rfl, _⟩ := h; rfl) | (obtain ⟨_, _, _, _, _, rfl, _⟩ := h; rfl) | (obtain ⟨_, _, _, _, _, _, rfl, _⟩ := h; rfl) | (obtain ⟨_, _, _, _, _, _, _, rfl, _⟩ := h; rfl) | (obtain ⟨_, _, _, _, _, _, _, _, rfl, _⟩ := h; rfl) | (obtain ⟨_, _, _, _, _, _, _, _, _, rfl, _⟩ := h; rfl) | (obtain ⟨_, _, _, _, _, _, _, _, _, _, rfl, _⟩ := h; rfl) | (obtain ⟨_, _, _, _, _, _, _, _, _, _, _, rfl, _⟩ := h; rfl)
  have sc := sc_is_integer
  obtain ⟨i, rfl, q⟩ := h
  refine ⟨_, (pss_one (ps_ret (pe_and (pe_callB (call_isiX (K0 := K)) (by rfl) T.b_isinstance (by decide +kernel) (pa_cons (pv 0) (pa_cons (pe_bltn (v := .ty "int") (by rfl) T.b_int (by decide +kernel) rfl) pa_nil))) (pe_one (pe_not (pe_callB (call_isiX (K0 := K)) (by rfl) T.b_isinstance (by decide +kernel) (pa_cons (pv 0) (pa_cons (pe_bltn (v := .ty "bool") (by rfl) T.b_bool (by decide +kernel) rfl) pa_nil)))))))), ?_⟩
  refine ⟨_, rfl, _, _, _, _, _, rfl, .ty _, .base (.int _), kit_ty (r := true) (by decide +kernel), ?_⟩
  refine ⟨_, rfl, iteT ?_⟩
  refine ⟨_, rfl, _, _, _, _, _, rfl, .ty _, .base (.int _), kit_ty (r := false) (by decide +kernel), _, rfl, ?_⟩
  exact q _ (by walk_at "k76e")
theorem cal_primes_in (T : Txt K mg) : C8.Cal P w K mg base 1 "primes_in" (sp_primes_in K) [] := by
  obtain ⟨f, fd, F, df⟩ := T.d_primes_in
  refine C8.cal0 F (F.fn.binds df fun _ _ _ _ _ _ us hl => ?bnd) .nil sc_primes_in (fun vs H Q E h => ?len) fun cdv A outer s H vs Q E hr h => ?_
  case bnd => obtain ⟨a0, rfl⟩ := ln1 hl; rfl
  case len => first | (obtain ⟨_, rfl, _⟩ := h; rfl) | (obtain ⟨_, _, rfl, _⟩ := h; rfl) | (obtain ⟨_, _, _, rfl, _⟩ := h; rfl) | (obtain ⟨_, _, _, _, rfl, _⟩ := h; rfl) | (obtain ⟨_, _, _, _, _, rfl, _⟩ := h; rfl) | (obtain ⟨_, _, _, _, _, _, rfl, _⟩ := h; rfl) | (obtain ⟨_, _, _, _, _, _, _, rfl, _⟩ := h; rfl) | (obtain ⟨_, _, _, _, _, _, _, _, rfl, _⟩ := h; rfl) | (obtain ⟨_, _, _, _, _, _, _, _, _, rfl, _⟩ := h; rfl) | (obtain ⟨_, _, _, _, _, _, _, _, _, _, rfl, _⟩ := h; rfl) | (obtain ⟨_, _, _, _, _, _, _, _, _, _, _, rfl, _⟩ := h; rfl)
  have sc := sc_primes_in
  obtain ⟨d, es, n, hm, hl, hp, hs⟩ := T.tab
  obtain ⟨m, ps, rfl, hk, q⟩ := h
  refine ⟨_, (pss_one (ps_ret (pe_ix (ix_tab hl hp) (C8.pe_gc (v := .ref d) (by rfl) ⟨_, hm, rfl⟩) (pv 0) (fun _ _ => rfl)))), ?_⟩
  refine ⟨_, rfl, _, _, rfl, rfl, hk, fun a ha => ?_⟩
  exact q a _ (by walk_at "k76e") (ha _)
theorem powmod (a m : Int) : ∀ n : Nat, (a % m) ^ n % m = a ^ n % m
  | 0 => by rw [Int.pow_zero, Int.pow_zero]
  | n + 1 => by rw [Int.pow_succ, Int.pow_succ, Int.mul_emod, powmod a m n, Int.emod_emod_of_dvd _ (Int.dvd_refl m), ← Int.mul_emod]
theorem pow_odd (f s m : Int) (n : Nat) (h : n % 2 = 1) : f * s % m * (s * s % m) ^ (n / 2) % m = f * s ^ n % m := by
  rw [Int.mul_emod, powmod, Int.emod_emod_of_dvd _ (Int.dvd_refl m), ← Int.mul_emod]
  congr 1
  have e : s ^ n = s * (s * s) ^ (n / 2) := by
    conv => lhs; rw [← Nat.div_add_mod n 2, h]
    generalize n / 2 = k
    induction k with
    | zero => simp [Int.pow_succ]
    | succ k ih => rw [show 2 * (k + 1) + 1 = (2 * k + 1) + 1 + 1 by omega, Int.pow_succ, Int.pow_succ, ih, Int.pow_succ]; grind
  rw [e]; grind
theorem pow_even (f s m : Int) (n : Nat) (h : n % 2 ≠ 1) : f * (s * s % m) ^ (n / 2) % m = f * s ^ n % m := by
  rw [Int.mul_emod, powmod, ← Int.mul_emod]
  congr 1
  have e : s ^ n = (s * s) ^ (n / 2) := by
    conv => lhs; rw [← Nat.div_add_mod n 2, show n % 2 = 0 by omega, Nat.add_zero]
    generalize n / 2 = k
    induction k with
    | zero => simp
    | succ k ih => rw [show 2 * (k + 1) = 2 * k + 1 + 1 by omega, Int.pow_succ, Int.pow_succ, ih, Int.pow_succ]; grind
  rw [e]
theorem two0 : (0 : Int) < 2 := by decide
theorem cal_powered (T : Txt K mg) : C8.Cal P w K mg base 1 "powered" (sp_powered K) [] := by
  obtain ⟨f, fd, F, df⟩ := T.d_powered
  refine C8.cal0 F (F.fn.binds df fun _ _ _ _ _ _ us hl => ?bnd) .nil sc_powered (fun vs H Q E h => ?len) fun cdv A outer s H vs Q E hr h => ?_
  case bnd => obtain ⟨a0, a1, a2, rfl⟩ := ln3 hl; rfl
  case len => first | (obtain ⟨_, rfl, _⟩ := h; rfl) | (obtain ⟨_, _, rfl, _⟩ := h; rfl) | (obtain ⟨_, _, _, rfl, _⟩ := h; rfl) | (obtain ⟨_, _, _, _, rfl, _⟩ := h; rfl) | (obtain ⟨_, _, _, _, _, rfl, _⟩ := h; rfl) | (obtain ⟨_, _, _, _, _, _, rfl, _⟩ := h; rfl) | (obtain ⟨_, _, _, _, _, _, _, rfl, _⟩ := h; rfl) | (obtain ⟨_, _, _, _, _, _, _, _, rfl, _⟩ := h; rfl) | (obtain ⟨_, _, _, _, _, _, _, _, _, rfl, _⟩ := h; rfl) | (obtain ⟨_, _, _, _, _, _, _, _, _, _, rfl, _⟩ := h; rfl) | (obtain ⟨_, _, _, _, _, _, _, _, _, _, _, rfl, _⟩ := h; rfl)
  have sc := sc_powered
  obtain ⟨b, e, m, rfl, he, hm, hm2, q⟩ := h
  refine ⟨_, (pss_cons (ps_par3 (i := 3) (j := 4) (l := 5) (by rfl) sc.nd rfl rfl rfl (by decide) (by decide) (by decide) rfl rfl rfl (pa_cons (pe_op op_mod pe_int (pv 2)) (pa_cons (pe_op op_mod (pv 0) (pv 2)) (pa_cons (pv 1) pa_nil))) (by rfl))
      (pss_cons (ps_while PassesOwn.never (pt_cmpR op_gt (pv 5) pe_int (nomark _)) (pss_cons (ps_if (pt_cmpR op_eq (pe_op op_mod (pv 5) pe_int) pe_int (nomark _)) (pss_one (ps_set (i := 3) sc.nd rfl (Or.inl rfl) (pe_op op_mod (pe_op op_mul (pv 3) (pv 4)) (pv 2)))) pss_nil)
      (pss_one (ps_par (i := 4) (j := 5) (by rfl) sc.nd rfl rfl (by decide) rfl rfl (pa_cons (pe_op op_mod (pe_op op_mul (pv 4) (pv 4)) (pv 2)) (pa_cons (pe_op op_fdiv (pv 5) pe_int) pa_nil)) (by rfl)))))
      (pss_one (ps_ret (pv 3))))), ?_⟩
  refine ⟨_, rfl, _, _, rfl, rfl, hm, _, rfl, _, rfl, _, _, rfl, rfl, hm, _, rfl, _, _, _, rfl, ?_⟩
  refine while_m (fun n σ H' => Ex H H' ∧ ∃ (f s l : Int), σ = [some (.int b), some (.int e), some (.int m), some (.int f), some (.int s), some (.int l)] ∧ l = (n : Int) ∧ 0 ≤ f ∧ f < m ∧ 0 ≤ s ∧ s < m ∧ f * s ^ n % m = b ^ e.toNat % m) e.toNat ?_ (fun n σ H' hW => ?_)
  · refine ⟨by walk_at "k76e", _, _, _, rfl, by omega, (mod_lt' hm).1, (mod_lt' hm).2, (mod_lt' hm).1, (mod_lt' hm).2, ?_⟩
    rw [Int.mul_emod, powmod, Int.emod_emod_of_dvd _ (Int.dvd_refl m), ← Int.mul_emod, Int.one_mul, show ((e.toNat : Nat)) = e.toNat from rfl]
  · obtain ⟨e1, f, s, l, rfl, rfl, f0, f1, s0, s1, hv⟩ := hW
    refine ⟨_, rfl, _, _, rfl, rfl, _, rfl, ?_⟩
    refine itd (fun h => ?_) (fun h => ?_)
    · refine ⟨fun σ H' => Ex H H' ∧ ∃ (f s l : Int), σ = [some (.int b), some (.int e), some (.int m), some (.int f), some (.int s), some (.int l)] ∧ l = ((n / 2 : Nat) : Int) ∧ 0 ≤ f ∧ f < m ∧ 0 ≤ s ∧ s < m ∧ f * s ^ (n / 2) % m = b ^ e.toNat % m, fun σ H' z => ⟨n / 2, by omega, z⟩, ?_⟩
      refine ⟨_, rfl, _, _, rfl, rfl, two0, rfl, _, rfl, ?_⟩
      refine itd (fun h => ?_) (fun h => ?_)
      · refine ⟨_, rfl, _, rfl, _, _, rfl, rfl, cmul_s (by omega), _, rfl, _, _, rfl, rfl, hm, ?_⟩
        refine ⟨_, rfl, _, rfl, _, _, rfl, rfl, cmul_s (by omega), _, rfl, _, _, rfl, rfl, hm, _, rfl, _, _, rfl, rfl, ⟨by decide, by decide⟩, _, _, rfl, ?_⟩
        refine ⟨by walk_at "k76e", _, _, _, rfl, by omega, (mod_lt' hm).1, (mod_lt' hm).2, (mod_lt' hm).1, (mod_lt' hm).2, ?_⟩
        have h2 : (n : Int) % 2 = 1 := V.int.inj h
        rw [pow_odd _ _ _ _ (by omega)]; exact hv
      · refine ⟨_, rfl, _, rfl, _, _, rfl, rfl, cmul_s (by omega), _, rfl, _, _, rfl, rfl, hm, _, rfl, _, _, rfl, rfl, ⟨by decide, by decide⟩, _, _, rfl, ?_⟩
        refine ⟨by walk_at "k76e", _, _, _, rfl, by omega, f0, f1, (mod_lt' hm).1, (mod_lt' hm).2, ?_⟩
        have h2 : ¬ (n : Int) % 2 = 1 := fun z => h (congrArg V.int z)
        rw [pow_even _ _ _ _ (by omega)]; exact hv
    · refine ⟨_, rfl, ?_⟩
      have e0 : n = 0 := by omega
      subst e0
      have ev : b ^ e.toNat % m = f := by
        rw [← hv, Int.pow_zero, Int.mul_one, Int.emod_eq_of_lt f0 f1]
      have := q H' (by walk_at "k76e")
      rw [ev] at this
      exact this
end
end K76
namespace K76
open PySem PySem.Spec PyProof.Rows L2

theorem lc_int {J : It} {H1 : Hp} {n : Nat} {itm : Nat → V → Hp → Prop} (S : Src J H1 n itm) (hn : n ≤ 100000) {g : TG} {te : TE} {vs : List Nat} {σ : L2.St} {Qd : Addr → Hp → Prop} (f : Nat → Int)
    (hs : ∀ i x H' (Z : VK), i < n → Ex H1 H' → itm i x H' → (∀ H4, Ex H' H4 → Z (.int (f i)) H4) → g x (wipe σ vs) H' fun σ2 H2 => wipe σ2 vs = wipe σ vs ∧ te σ2 H2 Z)
    (hd : ∀ D H', H1 D = none → Ex H1 H' → LI H' D ((List.range n).map f) → Qd D H') :
    ∀ D, H1 D = none → ∃ W : Nat → Nat → Hp → Prop, (∃ m, W 0 m (upd H1 D (.lst []))) ∧ ∀ i m H, W i m H →
  (J.stop i H ∧ Qd D H) ∨ (J.go i H ∧ ∃ Nx : Hp → Prop, (∀ H', Nx H' → ∃ m', m' < m ∧ W (i + 1) m' H') ∧ ∀ x H', J.yld i H x H' → g x (wipe σ vs) H' fun σ2 H2 => wipe σ2 vs = wipe σ vs ∧ tYes σ2 H2 fun b H3 =>
    if b = true then te σ2 H3 fun y H4 => ∃ acc, H4 D = some (.lst acc) ∧ acc.length < sizeLine ∧ Nx (upd H4 D (.lst (acc ++ [y]))) else Nx H3) :=
  lc_src S hn (fun i acc _ => acc = ((List.range i).map f).map V.int) (fun _ => rfl) (fun _ _ _ _ h _ => h)
    (fun i x acc H' Z Z' hi e p it z z' => by
      subst p
      exact hs i x H' Z hi e it fun H4 e4 => z _ H4 e4 (by rw [List.range_succ, List.map_append, List.map_append]; rfl))
    (fun D H' acc hD e ha p => by subst p; exact hd D H' hD e ha)
theorem lc_bl {J : It} {H1 : Hp} {n : Nat} {itm : Nat → V → Hp → Prop} (S : Src J H1 n itm) (hn : n ≤ 100000) {g : TG} {te : TE} {vs : List Nat} {σ : L2.St} {Qd : Addr → Hp → Prop} (f : Nat → Bool)
    (hs : ∀ i x H' (Z : VK), i < n → Ex H1 H' → itm i x H' → (∀ H4, Ex H' H4 → Z (.bl (f i)) H4) → g x (wipe σ vs) H' fun σ2 H2 => wipe σ2 vs = wipe σ vs ∧ te σ2 H2 Z)
    (hd : ∀ D H', H1 D = none → Ex H1 H' → H' D = some (.lst (((List.range n).map f).map V.bl)) → Qd D H') :
    ∀ D, H1 D = none → ∃ W : Nat → Nat → Hp → Prop, (∃ m, W 0 m (upd H1 D (.lst []))) ∧ ∀ i m H, W i m H →
  (J.stop i H ∧ Qd D H) ∨ (J.go i H ∧ ∃ Nx : Hp → Prop, (∀ H', Nx H' → ∃ m', m' < m ∧ W (i + 1) m' H') ∧ ∀ x H', J.yld i H x H' → g x (wipe σ vs) H' fun σ2 H2 => wipe σ2 vs = wipe σ vs ∧ tYes σ2 H2 fun b H3 =>
    if b = true then te σ2 H3 fun y H4 => ∃ acc, H4 D = some (.lst acc) ∧ acc.length < sizeLine ∧ Nx (upd H4 D (.lst (acc ++ [y]))) else Nx H3) :=
  lc_src S hn (fun i acc _ => acc = ((List.range i).map f).map V.bl) (fun _ => rfl) (fun _ _ _ _ h _ => h)
    (fun i x acc H' Z Z' hi e p it z z' => by
      subst p
      exact hs i x H' Z hi e it fun H4 e4 => z _ H4 e4 (by rw [List.range_succ, List.map_append, List.map_append]; rfl))
    (fun D H' acc hD e ha p => by subst p; exact hd D H' hD e ha)
/-- the i-th of a list of whole numbers -/
theorem at_map {ns : List Int} {i : Nat} {x : V} (h : (ns.map V.int)[i]? = some x) : x = .int (ns.getD i 0) ∧ i < ns.length := by
  rw [List.getElem?_map] at h
  by_cases c : i < ns.length
  · rw [List.getElem?_eq_getElem c] at h
    refine ⟨?_, c⟩
    rw [List.getD_eq_getElem?_getD, List.getElem?_eq_getElem c]
    exact (Option.some.inj h).symm
  · rw [List.getElem?_eq_none (by omega)] at h; cases h
theorem range_map {ns : List Int} {n : Nat} (g : Int → Int) (h : n = ns.length) : (List.range n).map (fun i => g (ns.getD i 0)) = ns.map g := by
  subst h
  apply List.ext_getElem
  · simp
  · intro i h1 h2
    have c : i < ns.length := by simpa using h2
    simp [List.getD_eq_getElem?_getD, List.getElem?_eq_getElem c]
theorem range_mapB {ns : List Int} {n : Nat} (g : Int → Bool) (h : n = ns.length) : (List.range n).map (fun i => g (ns.getD i 0)) = ns.map g := by
  subst h
  apply List.ext_getElem
  · simp
  · intro i h1 h2
    have c : i < ns.length := by simpa using h2
    simp [List.getD_eq_getElem?_getD, List.getElem?_eq_getElem c]
/-- the last, an item by its place -/
theorem atI_last' {ns : List Int} (h : ns ≠ []) : atI (ns.map V.int) (-1) = some (.int (ns.getD (ns.length - 1) 0)) := by
  have hp := List.length_pos_iff.mpr h
  unfold atI ixN
  rw [List.length_map, if_neg (by omega), if_pos (by omega)]
  show (ns.map V.int)[(-1 + (ns.length : Int)).toNat]? = _
  rw [show (-1 + (ns.length : Int)).toNat = ns.length - 1 by omega, List.getElem?_map, List.getElem?_eq_getElem (by omega), List.getD_eq_getElem?_getD, List.getElem?_eq_getElem (by omega)]
  rfl
theorem atI_int {ns : List Int} {i : Int} (h : 0 ≤ i) (h2 : i < ns.length) : atI (ns.map V.int) i = some (.int (ns.getD i.toNat 0)) := by
  unfold atI ixN
  rw [List.length_map, if_pos h, if_pos h2]
  show (ns.map V.int)[i.toNat]? = _
  rw [List.getElem?_map, List.getElem?_eq_getElem (by omega), List.getD_eq_getElem?_getD, List.getElem?_eq_getElem (by omega)]
  rfl
theorem ixN_int {n : Nat} {i : Int} (h : 0 ≤ i) (h2 : i < n) : ixN n i = some i.toNat := by
  unfold ixN
  rw [if_pos h, if_pos h2]
theorem map_set_int (ns : List Int) (i : Nat) (v : Int) : (ns.map V.int).set i (.int v) = (ns.set i v).map V.int := by rw [List.map_set]
theorem map_snoc_int (ns : List Int) (v : Int) : ns.map V.int ++ [.int v] = (ns ++ [v]).map V.int := by rw [List.map_append]; rfl
theorem map_dl (ns : List Int) : (ns.map V.int).dropLast = ns.dropLast.map V.int := by rw [List.map_dropLast]
theorem lenm (ns : List Int) : ((ns.map V.int).length : Int) = ns.length := by rw [List.length_map]
end K76
namespace K76
open PySem PySem.Spec PyProof.Rows L2

theorem trim_step {l : List Int} (h : l ≠ []) (h0 : l.getD (l.length - 1) 0 = 0) : trim l = trim l.dropLast := by
  rcases List.eq_nil_or_concat l with rfl | ⟨m, a, rfl⟩
  · exact absurd rfl h
  · rw [List.concat_eq_append] at h h0 ⊢
    rw [getD_snoc, if_pos (by simp)] at h0
    rw [h0, trim_zero, List.dropLast_concat]
theorem trim_stop {l : List Int} (h : l = [] ∨ l.getD (l.length - 1) 0 ≠ 0) : trim l = l := by
  rcases List.eq_nil_or_concat l with rfl | ⟨m, a, rfl⟩
  · rfl
  · rw [List.concat_eq_append] at h ⊢
    rcases h with h | h
    · simp at h
    · rw [getD_snoc, if_pos (by simp)] at h
      exact trim_ne m h
def sp_trimmed (K : PySem.W.Frag) : Sp := fun vs H Q _ => ∃ (a : Addr) (ns : List Int) (p : Int), vs = [.ref a, .int p] ∧ LI H a ns ∧ 0 < p ∧ ns.length ≤ 40000 ∧ ∀ r H', Ex H H' → LI H' r (trim (ns.map (· % p))) → Q (.ref r) H'
def sp_ring_of (K : PySem.W.Frag) : Sp := fun vs H Q _ => ∃ (n : Nat) (p : Int), vs = [.int n, .int p] ∧ 0 < n ∧ n ≤ 20000 ∧ ∀ r H', Ex H H' → LI H' r ((p - 1) :: (List.replicate (n - 1) 0 ++ [1])) → Q (.ref r) H'
def sp_moved (K : PySem.W.Frag) : Sp := fun vs H Q _ => ∃ (a : Addr) (ns : List Int) (b : Int), vs = [.ref a, .int b] ∧ LI H a ns ∧ ns ≠ [] ∧ ns.length ≤ 40000 ∧ ∀ r H', Ex H H' → LI H' r ((List.range ns.length).map fun (i : Nat) => ns.getD (((i : Int) - b) % ns.length).toNat 0) → Q (.ref r) H'
def addZ (l m : List Int) : List Int := List.zipWith (· + ·) (l ++ List.replicate (m.length - l.length) 0) (m ++ List.replicate (l.length - m.length) 0)
def sp_added (K : PySem.W.Frag) : Sp := fun vs H Q _ => ∃ (a b : Addr) (ns ms : List Int) (p : Int), vs = [.ref a, .ref b, .int p] ∧ LI H a ns ∧ LI H b ms ∧ 0 < p ∧ ns.length ≤ 20000 ∧ ms.length ≤ 20000 ∧ ∀ r H', Ex H H' → LI H' r (trim ((addZ ns ms).map (· % p))) → Q (.ref r) H'
def sp_scaled (K : PySem.W.Frag) : Sp := fun vs H Q _ => ∃ (a : Addr) (ns : List Int) (c p : Int), vs = [.ref a, .int c, .int p] ∧ LI H a ns ∧ 0 < p ∧ (-100 ≤ c ∧ c ≤ 100) ∧ ns.length ≤ 40000 ∧ ∀ r H', Ex H H' → LI H' r (trim ((ns.map (· * c)).map (· % p))) → Q (.ref r) H'
def inv (a p : Int) : Int := a ^ (p - 2).toNat % p
def sp_inverse (K : PySem.W.Frag) : Sp := fun vs H Q _ => ∃ (a p : Int), vs = [.int a, .int p] ∧ Pr p ∧ ∀ H', Ex H H' → Q (.int (inv a p)) H'
def sp_monic (K : PySem.W.Frag) : Sp := fun vs H Q _ => ∃ (a : Addr) (ns : List Int) (p : Int), vs = [.ref a, .int p] ∧ LI H a ns ∧ Pr p ∧ ns ≠ [] ∧ ns.length ≤ 40000 ∧ ∀ r H', Ex H H' → LI H' r (trim ((ns.map (· * inv (ns.getD (ns.length - 1) 0) p)).map (· % p))) → Q (.ref r) H'
theorem addZ_len (l m : List Int) : (addZ l m).length = max l.length m.length := by
  unfold addZ
  rw [List.length_zipWith, List.length_append, List.length_append, List.length_replicate, List.length_replicate]
  omega
theorem range_zip {A B : List Int} {n : Nat} (h : n = A.length) (h' : n = B.length) : (List.range n).map (fun i => A.getD i 0 + B.getD i 0) = List.zipWith (· + ·) A B := by
  apply List.ext_getElem
  · simp [List.length_zipWith]; omega
  · intro i h1 h2
    have c1 : i < A.length := by rw [List.length_map, List.length_range] at h1; omega
    have c2 : i < B.length := by rw [List.length_map, List.length_range] at h1; omega
    simp [List.getD_eq_getElem?_getD, List.getElem?_eq_getElem c1, List.getElem?_eq_getElem c2]
theorem pad_map (l : List Int) (k : Int) (n : Nat) (h : k.toNat = n) : l.map V.int ++ (List.replicate k.toNat [V.int 0]).flatten = (l ++ List.replicate n 0).map V.int := by
  rw [h, List.map_append, List.map_replicate]
  congr 1
  clear h
  induction n with
  | zero => rfl
  | succ n ih => rw [List.replicate_succ, List.flatten_cons, ih]; rfl
theorem rep_map (k : Int) (n : Nat) (h : k.toNat = n) : (List.replicate k.toNat [V.int 0]).flatten = (List.replicate n 0).map V.int := by
  have := pad_map [] k n h
  simpa using this
section
variable {P : Program} {w : World} {K : PySem.W.Frag} {mg : Str → Option Value} {base : Heap}
theorem cal_trimmed (T : Txt K mg) : C8.Cal P w K mg base 1 "trimmed" (sp_trimmed K) [] := by
  obtain ⟨f, fd, F, df⟩ := T.d_trimmed
  refine C8.cal0 F (F.fn.binds df fun _ _ _ _ _ _ us hl => ?bnd) .nil sc_trimmed (fun vs H Q E h => ?len) fun cdv A outer s H vs Q E hr h => ?_
  case bnd => obtain ⟨a0, a1, rfl⟩ := ln2 hl; rfl
  case len => first | (obtain ⟨_, rfl, _⟩ := h; rfl) | (obtain ⟨_, _, rfl, _⟩ := h; rfl) | (obtain ⟨_, _, _, rfl, _⟩ := h; rfl) | (obtain ⟨_, _, _, _, rfl, _⟩ := h; rfl) | (obtain ⟨_, _, _, _, _, rfl, _⟩ := h; rfl) | (obtain ⟨_, _, _, _, _, _, rfl, _⟩ := h; rfl) | (obtain ⟨_, _, _, _, _, _, _, rfl, _⟩ := h; rfl) | (obtain ⟨_, _, _, _, _, _, _, _, rfl, _⟩ := h; rfl) | (obtain ⟨_, _, _, _, _, _, _, _, _, rfl, _⟩ := h; rfl) | (obtain ⟨_, _, _, _, _, _, _, _, _, _, rfl, _⟩ := h; rfl) | (obtain ⟨_, _, _, _, _, _, _, _, _, _, _, rfl, _⟩ := h; rfl)
  have sc := sc_trimmed
  obtain ⟨a, ns, p, rfl, hA, hp, hz, q⟩ := h
  refine ⟨_, (pss_cons (ps_setLc (i := 2) (own := [("number", 3)]) (g := (gName 3)) (tt := tYes) rfl sc.nd rfl rfl (sw_true rfl rfl rfl (by decide +kernel)) (pi_list (pv 0)) (blkOk_by (N := n_trimmed) (sc := C8.fnScope s_trimmed) (by decide +kernel)) (fun _ _ _ _ _ => (pg_name (i := 3) sc.nd rfl (Or.inl rfl))) (fun _ _ _ _ _ => pts_nil) (fun _ _ _ _ _ => (pe_op op_mod (pv 3) (pv 1))))
      (pss_cons (ps_while PassesOwn.never (PW.pt (pw_and (pt_cmpR op_gt (pe_callB (call_lenK (K0 := K)) (by rfl) T.b_len (by decide +kernel) (pa_cons (pv 2) pa_nil)) pe_int (nomark _)) (pw_and1 (pt_cmpR op_eq (pe_ix (ix_listK (K0 := K)) (pv 2) (pe_un un_neg pe_int) (fun _ _ => rfl)) pe_int (nomark _))))) (pss_one (ps_expr (pe_bm0 PySem.F.plainAttrs_list PySem.F.slot_list_pop PySem.F.type_list_pop mt_pop (pv 2)))))
      (pss_one (ps_ret (pv 2))))), ?_⟩
  refine ⟨_, rfl, _, rfl, ⟨_, li_sq hA⟩, lc_int (src_list hA) (by rw [List.length_map]; omega) (fun i => ns.getD i 0 % p) (fun i x H' Z hi e it z => ?_) (fun D H' hD e hl => ?_)⟩
  · obtain ⟨rfl, _⟩ := at_map it
    exact ⟨rfl, _, rfl, _, rfl, _, _, rfl, rfl, hp, z _ (by walk_at "k76e")⟩
  · rw [range_map (fun a => a % p) (by rw [List.length_map])] at hl
    refine while_m (fun n σ H' => Ex H H' ∧ ∃ l, σ = [some (.ref a), some (.int p), some (.ref D), none] ∧ LI H' D l ∧ l.length = n ∧ trim l = trim (ns.map (· % p))) (ns.map (· % p)).length ?_ (fun n σ H' hW => ?_)
    · exact ⟨e, _, rfl, hl, rfl, rfl⟩
    · obtain ⟨e1, l, rfl, hl1, rfl, ht⟩ := hW
      refine ⟨_, rfl, _, _, rfl, .inl (li_sq hl1), _, _, rfl, rfl, _, rfl, ?_⟩
      refine itd (fun h => ?_) (fun h => ?_)
      · rw [lenm] at h
        have hne : l ≠ [] := fun z => by rw [z] at h; exact absurd h (by decide)
        refine ⟨_, rfl, _, rfl, _, _, _, _, rfl, rfl, li_sq hl1, atI_last' hne, rfl, _, rfl, ?_⟩
        refine itd (fun h2 => ?_) (fun h2 => ?_)
        · have h3 := V.int.inj h2
          refine ⟨fun σ H' => Ex H H' ∧ ∃ l2, σ = [some (.ref a), some (.int p), some (.ref D), none] ∧ LI H' D l2 ∧ l2.length = l.length - 1 ∧ trim l2 = trim (ns.map (· % p)), fun σ' H' z => ?_, ?_⟩
          · obtain ⟨z1, l2, z2, z3, z4, z5⟩ := z
            exact ⟨l.length - 1, by omega, z1, l2, z2, z3, z4, z5⟩
          · refine ⟨_, rfl, .inl ⟨rfl, _, li_sq hl1⟩, _, _, .int (l.getD (l.length - 1) 0), rfl, rfl, hl1, ?_, ?_⟩
            · rw [List.length_map, List.getElem?_map, List.getD_eq_getElem?_getD, List.getElem?_eq_getElem (by omega)]; rfl
            · exact ⟨Evl.Ex.mut e1 hD, l.dropLast, rfl, by rw [map_dl]; exact upd_same, by simp, by rw [← trim_step hne h3]; exact ht⟩
        · refine ⟨_, rfl, q D _ e1 ?_⟩
          rw [← ht, trim_stop (.inr fun z => h2 (congrArg V.int z))]
          exact hl1
      · refine iteF ⟨_, rfl, q D _ e1 ?_⟩
        rw [lenm] at h
        rw [← ht, trim_stop (.inl (List.length_eq_zero_iff.mp (by omega)))]
        exact hl1
theorem cal_scaled (T : Txt K mg) : C8.Cal P w K mg base 2 "scaled" (sp_scaled K) [] := by
  have c_trimmed : C8.Cal P w K mg base 1 "trimmed" (sp_trimmed K) [] := cal_trimmed T
  obtain ⟨f, fd, F, df⟩ := T.d_scaled
  refine C8.cal0 F (F.fn.binds df fun _ _ _ _ _ _ us hl => ?bnd) .nil sc_scaled (fun vs H Q E h => ?len) fun cdv A outer s H vs Q E hr h => ?_
  case bnd => obtain ⟨a0, a1, a2, rfl⟩ := ln3 hl; rfl
  case len => first | (obtain ⟨_, rfl, _⟩ := h; rfl) | (obtain ⟨_, _, rfl, _⟩ := h; rfl) | (obtain ⟨_, _, _, rfl, _⟩ := h; rfl) | (obtain ⟨_, _, _, _, rfl, _⟩ := h; rfl) | (obtain ⟨_, _, _, _, _, rfl, _⟩ := h; rfl) | (obtain ⟨_, _, _, _, _, _, rfl, _⟩ := h; rfl) | (obtain ⟨_, _, _, _, _, _, _, rfl, _⟩ := h; rfl) | (obtain ⟨_, _, _, _, _, _, _, _, rfl, _⟩ := h; rfl) | (obtain ⟨_, _, _, _, _, _, _, _, _, rfl, _⟩ := h; rfl) | (obtain ⟨_, _, _, _, _, _, _, _, _, _, rfl, _⟩ := h; rfl) | (obtain ⟨_, _, _, _, _, _, _, _, _, _, _, rfl, _⟩ := h; rfl)
  have sc := sc_scaled
  obtain ⟨a, ns, c, p, rfl, hA, hp, hc, hz, q⟩ := h
  refine ⟨_, (pss_one (ps_ret (C8.pe_c c_trimmed hr (by decide) (by rfl) (pa_cons (pe_lc (own := [("number", 3)]) (g := (gName 3)) (tt := tYes) rfl sc.nd (pi_list (pv 0)) (blkOk_by (N := n_scaled) (sc := C8.fnScope s_scaled) (by decide +kernel)) (fun _ _ _ _ _ => (pg_name (i := 3) sc.nd rfl (Or.inl rfl))) (fun _ _ _ _ _ => pts_nil) (fun _ _ _ _ _ => (pe_op op_mul (pv 3) (pv 1)))) (pa_cons (pv 2) pa_nil))))), ?_⟩
  refine ⟨_, rfl, _, rfl, ⟨_, li_sq hA⟩, lc_int (src_list hA) (by rw [List.length_map]; omega) (fun i => ns.getD i 0 * c) (fun i x H' Z hi e it z => ?_) (fun D H' hD e hl => ?_)⟩
  · obtain ⟨rfl, _⟩ := at_map it
    exact ⟨rfl, _, rfl, _, rfl, _, _, rfl, rfl, .inr (by omega), z _ (by walk_at "k76e")⟩
  · rw [range_map (fun a => a * c) (by rw [List.length_map])] at hl
    refine ⟨_, rfl, D, _, p, rfl, hl, hp, by rw [List.length_map]; exact hz, fun r H2 e2 hr => ?_⟩
    exact q r H2 (by walk_at "k76e") hr
theorem cal_inverse (T : Txt K mg) : C8.Cal P w K mg base 2 "inverse" (sp_inverse K) [] := by
  have c_powered : C8.Cal P w K mg base 1 "powered" (sp_powered K) [] := cal_powered T
  obtain ⟨f, fd, F, df⟩ := T.d_inverse
  refine C8.cal0 F (F.fn.binds df fun _ _ _ _ _ _ us hl => ?bnd) .nil sc_inverse (fun vs H Q E h => ?len) fun cdv A outer s H vs Q E hr h => ?_
  case bnd => obtain ⟨a0, a1, rfl⟩ := ln2 hl; rfl
  case len => first | (obtain ⟨_, rfl, _⟩ := h; rfl) | (obtain ⟨_, _, rfl, _⟩ := h; rfl) | (obtain ⟨_, _, _, rfl, _⟩ := h; rfl) | (obtain ⟨_, _, _, _, rfl, _⟩ := h; rfl) | (obtain ⟨_, _, _, _, _, rfl, _⟩ := h; rfl) | (obtain ⟨_, _, _, _, _, _, rfl, _⟩ := h; rfl) | (obtain ⟨_, _, _, _, _, _, _, rfl, _⟩ := h; rfl) | (obtain ⟨_, _, _, _, _, _, _, _, rfl, _⟩ := h; rfl) | (obtain ⟨_, _, _, _, _, _, _, _, _, rfl, _⟩ := h; rfl) | (obtain ⟨_, _, _, _, _, _, _, _, _, _, rfl, _⟩ := h; rfl) | (obtain ⟨_, _, _, _, _, _, _, _, _, _, _, rfl, _⟩ := h; rfl)
  have sc := sc_inverse
  obtain ⟨a, p, rfl, hp, q⟩ := h
  have hb := hp.b
  refine ⟨_, (pss_one (ps_ret (C8.pe_c c_powered hr (by decide) (by rfl) (pa_cons (pv 0) (pa_cons (pe_op op_sub (pv 1) pe_int) (pa_cons (pv 1) pa_nil)))))), ?_⟩
  refine ⟨_, rfl, _, rfl, _, _, rfl, rfl, _, rfl, a, p - 2, p, rfl, by omega, by omega, by omega, fun H1 e1 => ?_⟩
  exact q H1 e1
theorem inv_b {a p : Int} (h : Pr p) : 0 ≤ inv a p ∧ inv a p < p := mod_lt' (by have := h.b; omega)
theorem cal_monic (T : Txt K mg) : C8.Cal P w K mg base 3 "monic" (sp_monic K) [] := by
  have c_inverse : C8.Cal P w K mg base 2 "inverse" (sp_inverse K) [] := cal_inverse T
  have c_scaled : C8.Cal P w K mg base 2 "scaled" (sp_scaled K) [] := cal_scaled T
  obtain ⟨f, fd, F, df⟩ := T.d_monic
  refine C8.cal0 F (F.fn.binds df fun _ _ _ _ _ _ us hl => ?bnd) .nil sc_monic (fun vs H Q E h => ?len) fun cdv A outer s H vs Q E hr h => ?_
  case bnd => obtain ⟨a0, a1, rfl⟩ := ln2 hl; rfl
  case len => first | (obtain ⟨_, rfl, _⟩ := h; rfl) | (obtain ⟨_, _, rfl, _⟩ := h; rfl) | (obtain ⟨_, _, _, rfl, _⟩ := h; rfl) | (obtain ⟨_, _, _, _, rfl, _⟩ := h; rfl) | (obtain ⟨_, _, _, _, _, rfl, _⟩ := h; rfl) | (obtain ⟨_, _, _, _, _, _, rfl, _⟩ := h; rfl) | (obtain ⟨_, _, _, _, _, _, _, rfl, _⟩ := h; rfl) | (obtain ⟨_, _, _, _, _, _, _, _, rfl, _⟩ := h; rfl) | (obtain ⟨_, _, _, _, _, _, _, _, _, rfl, _⟩ := h; rfl) | (obtain ⟨_, _, _, _, _, _, _, _, _, _, rfl, _⟩ := h; rfl) | (obtain ⟨_, _, _, _, _, _, _, _, _, _, _, rfl, _⟩ := h; rfl)
  have sc := sc_monic
  obtain ⟨a, ns, p, rfl, hA, hp, hne, hz, q⟩ := h
  have hb := hp.b
  refine ⟨_, (pss_one (ps_ret (C8.pe_c c_scaled hr (by decide) (by rfl) (pa_cons (pv 0) (pa_cons (C8.pe_c c_inverse hr (by decide) (by rfl) (pa_cons (pe_ix (ix_listK (K0 := K)) (pv 0) (pe_un un_neg pe_int) (fun _ _ => rfl)) (pa_cons (pv 1) pa_nil))) (pa_cons (pv 1) pa_nil)))))), ?_⟩
  refine ⟨_, rfl, _, rfl, _, rfl, _, _, _, _, rfl, rfl, li_sq hA, atI_last' hne, _, rfl, _, p, rfl, hp, fun H1 e1 => ?_⟩
  have hi := inv_b (a := ns.getD (ns.length - 1) 0) hp
  refine ⟨_, rfl, a, ns, _, p, rfl, by walk_at "k76h", by omega, by omega, hz, fun r H2 e2 hr => ?_⟩
  exact q r H2 (by walk_at "k76e") hr
theorem cal_ring_of (T : Txt K mg) : C8.Cal P w K mg base 1 "ring_of" (sp_ring_of K) [] := by
  obtain ⟨f, fd, F, df⟩ := T.d_ring_of
  refine C8.cal0 F (F.fn.binds df fun _ _ _ _ _ _ us hl => ?bnd) .nil sc_ring_of (fun vs H Q E h => ?len) fun cdv A outer s H vs Q E hr h => ?_
  case bnd => obtain ⟨a0, a1, rfl⟩ := ln2 hl; rfl
  case len => first | (obtain ⟨_, rfl, _⟩ := h; rfl) | (obtain ⟨_, _, rfl, _⟩ := h; rfl) | (obtain ⟨_, _, _, rfl, _⟩ := h; rfl) | (obtain ⟨_, _, _, _, rfl, _⟩ := h; rfl) | (obtain ⟨_, _, _, _, _, rfl, _⟩ := h; rfl) | (obtain ⟨_, _, _, _, _, _, rfl, _⟩ := h; rfl) | (obtain ⟨_, _, _, _, _, _, _, rfl, _⟩ := h; rfl) | (obtain ⟨_, _, _, _, _, _, _, _, rfl, _⟩ := h; rfl) | (obtain ⟨_, _, _, _, _, _, _, _, _, rfl, _⟩ := h; rfl) | (obtain ⟨_, _, _, _, _, _, _, _, _, _, rfl, _⟩ := h; rfl) | (obtain ⟨_, _, _, _, _, _, _, _, _, _, _, rfl, _⟩ := h; rfl)
  have sc := sc_ring_of
  obtain ⟨n, p, rfl, h0, hz, q⟩ := h
  refine ⟨_, (pss_one (ps_ret (pe_op op_cat (pe_op op_cat (pe_lst (pa_cons (pe_op op_sub (pv 1) pe_int) pa_nil)) (pe_op op_rep (pe_lst (pa_cons pe_int pa_nil)) (pe_op op_sub (pv 0) pe_int))) (pe_lst (pa_cons pe_int pa_nil))))), ?_⟩
  refine ⟨_, rfl, _, _, rfl, rfl, sz1, fun a1 h1 => ?_⟩
  refine ⟨sz1, fun a2 h2 => ?_⟩
  refine ⟨_, rfl, _, _, rfl, rfl, _, _, _, rfl, rfl, upd_same, by omega, by omega, Evl.sz_of (by show 1 * ((n : Int) - 1).toNat ≤ _; omega), fun a3 h3 => ?_⟩
  refine ⟨_, _, _, _, rfl, rfl, by walk_at "k76h", by walk_at "k76h", ?_, fun a4 h4 => ?_⟩
  · refine Evl.sz_of ?_
    rw [rep_map _ (n - 1) (by omega), List.length_map, List.length_replicate]; show 1 + _ ≤ _; omega
  refine ⟨sz1, fun a5 h5 => ?_⟩
  refine ⟨_, _, _, _, rfl, rfl, by walk_at "k76h", by walk_at "k76h", ?_, fun a6 h6 => ?_⟩
  · refine Evl.sz_of ?_
    rw [rep_map _ (n - 1) (by omega), List.length_append, List.length_map, List.length_replicate]; show (1 + _) + 1 ≤ _; omega
  refine q a6 _ (by walk_at "k76e") ?_
  rw [rep_map _ (n - 1) (by omega)]
  exact upd_same.trans (congrArg (fun l => some (HO.lst l)) (by simp))
theorem cal_moved (T : Txt K mg) : C8.Cal P w K mg base 1 "moved" (sp_moved K) [] := by
  obtain ⟨f, fd, F, df⟩ := T.d_moved
  refine C8.cal0 F (F.fn.binds df fun _ _ _ _ _ _ us hl => ?bnd) .nil sc_moved (fun vs H Q E h => ?len) fun cdv A outer s H vs Q E hr h => ?_
  case bnd => obtain ⟨a0, a1, rfl⟩ := ln2 hl; rfl
  case len => first | (obtain ⟨_, rfl, _⟩ := h; rfl) | (obtain ⟨_, _, rfl, _⟩ := h; rfl) | (obtain ⟨_, _, _, rfl, _⟩ := h; rfl) | (obtain ⟨_, _, _, _, rfl, _⟩ := h; rfl) | (obtain ⟨_, _, _, _, _, rfl, _⟩ := h; rfl) | (obtain ⟨_, _, _, _, _, _, rfl, _⟩ := h; rfl) | (obtain ⟨_, _, _, _, _, _, _, rfl, _⟩ := h; rfl) | (obtain ⟨_, _, _, _, _, _, _, _, rfl, _⟩ := h; rfl) | (obtain ⟨_, _, _, _, _, _, _, _, _, rfl, _⟩ := h; rfl) | (obtain ⟨_, _, _, _, _, _, _, _, _, _, rfl, _⟩ := h; rfl) | (obtain ⟨_, _, _, _, _, _, _, _, _, _, _, rfl, _⟩ := h; rfl)
  have sc := sc_moved
  obtain ⟨a, ns, b, rfl, hA, hne, hz, q⟩ := h
  have hpos := List.length_pos_iff.mpr hne
  refine ⟨_, (pss_one (ps_ret (pe_lc (own := [("at", 2)]) (g := (gName 2)) (tt := tYes) rfl sc.nd (pi_range1 rfl T.b_range (pa_cons (pe_callB (call_lenK (K0 := K)) (by rfl) T.b_len (by decide +kernel) (pa_cons (pv 0) pa_nil)) pa_nil)) (blkOk_by (N := n_moved) (sc := C8.fnScope s_moved) (by decide +kernel)) (fun _ _ _ _ _ => (pg_name (i := 2) sc.nd rfl (Or.inl rfl))) (fun _ _ _ _ _ => pts_nil) (fun _ _ _ _ _ => (pe_ix (ix_listK (K0 := K)) (pv 0) (pe_op op_mod (pe_op op_sub (pv 2) (pv 1)) (pe_callB (call_lenK (K0 := K)) (by rfl) T.b_len (by decide +kernel) (pa_cons (pv 0) pa_nil))) (fun _ _ => rfl)))))), ?_⟩
  refine ⟨_, rfl, _, _, rfl, .inl (li_sq hA), _, rfl, by rw [lenm]; omega, by rw [lenm]; omega, lc_int (n := ns.length) (by rw [lenm]; exact src_rng) (by omega) (fun i => ns.getD (((i : Int) - b) % ns.length).toNat 0) (fun i x H' Z hi e it z => ?_) (fun D H' hD e hl => ?_)⟩
  · subst it
    have hm := mod_lt' (a := (i : Int) - b) (show (0 : Int) < ns.length by omega)
    refine ⟨rfl, _, rfl, _, rfl, _, rfl, _, _, rfl, rfl, _, rfl, _, _, rfl, .inl (li_sq (by walk_at "k76h")), _, _, rfl, rfl, by rw [lenm]; omega, _, _, _, _, rfl, rfl, li_sq (by walk_at "k76h"), ?_, z _ (by walk_at "k76e")⟩
    rw [lenm, Int.zero_add]
    exact atI_int hm.1 hm.2
  · exact q D H' (by walk_at "k76e") hl
theorem cal_added (T : Txt K mg) : C8.Cal P w K mg base 2 "added" (sp_added K) [] := by
  have c_trimmed : C8.Cal P w K mg base 1 "trimmed" (sp_trimmed K) [] := cal_trimmed T
  obtain ⟨f, fd, F, df⟩ := T.d_added
  refine C8.cal0 F (F.fn.binds df fun _ _ _ _ _ _ us hl => ?bnd) .nil sc_added (fun vs H Q E h => ?len) fun cdv A outer s H vs Q E hr h => ?_
  case bnd => obtain ⟨a0, a1, a2, rfl⟩ := ln3 hl; rfl
  case len => first | (obtain ⟨_, rfl, _⟩ := h; rfl) | (obtain ⟨_, _, rfl, _⟩ := h; rfl) | (obtain ⟨_, _, _, rfl, _⟩ := h; rfl) | (obtain ⟨_, _, _, _, rfl, _⟩ := h; rfl) | (obtain ⟨_, _, _, _, _, rfl, _⟩ := h; rfl) | (obtain ⟨_, _, _, _, _, _, rfl, _⟩ := h; rfl) | (obtain ⟨_, _, _, _, _, _, _, rfl, _⟩ := h; rfl) | (obtain ⟨_, _, _, _, _, _, _, _, rfl, _⟩ := h; rfl) | (obtain ⟨_, _, _, _, _, _, _, _, _, rfl, _⟩ := h; rfl) | (obtain ⟨_, _, _, _, _, _, _, _, _, _, rfl, _⟩ := h; rfl) | (obtain ⟨_, _, _, _, _, _, _, _, _, _, _, rfl, _⟩ := h; rfl)
  have sc := sc_added
  obtain ⟨a, b, ns, ms, p, rfl, hA, hB, hp, hz1, hz2, q⟩ := h
  refine ⟨_, (pss_cons (ps_set (i := 3) sc.nd rfl (Or.inl rfl) (pe_callB (call_max2 rfl) (by rfl) T.b_max (by decide +kernel) (pa_cons (pe_callB (call_lenK (K0 := K)) (by rfl) T.b_len (by decide +kernel) (pa_cons (pv 0) pa_nil)) (pa_cons (pe_callB (call_lenK (K0 := K)) (by rfl) T.b_len (by decide +kernel) (pa_cons (pv 1) pa_nil)) pa_nil))))
      (pss_cons (ps_par (i := 4) (j := 5) (by rfl) sc.nd rfl rfl (by decide) rfl rfl (pa_cons (pe_op op_cat (pv 0) (pe_op op_rep (pe_lst (pa_cons pe_int pa_nil)) (pe_op op_sub (pv 3) (pe_callB (call_lenK (K0 := K)) (by rfl) T.b_len (by decide +kernel) (pa_cons (pv 0) pa_nil))))) (pa_cons (pe_op op_cat (pv 1) (pe_op op_rep (pe_lst (pa_cons pe_int pa_nil)) (pe_op op_sub (pv 3) (pe_callB (call_lenK (K0 := K)) (by rfl) T.b_len (by decide +kernel) (pa_cons (pv 1) pa_nil))))) pa_nil)) (by rfl))
      (pss_one (ps_ret (C8.pe_c c_trimmed hr (by decide) (by rfl) (pa_cons (pe_lc (own := [("number", 6), ("further", 7)]) (g := (gTup K 2 (gCons (gName 6) (gCons (gName 7) gNil)))) (tt := tYes) rfl sc.nd (pi_zip (by rfl) T.b_zip (pa_cons (pv 4) (pa_cons (pv 5) pa_nil))) (blkOk_by (N := n_added) (sc := C8.fnScope s_added) (by decide +kernel)) (fun _ _ _ _ _ => (pg_tupK (K0 := K) rfl (pgs_cons (pg_name (i := 6) sc.nd rfl (Or.inl rfl)) (pgs_cons (pg_name (i := 7) sc.nd rfl (Or.inl rfl)) pgs_nil)))) (fun _ _ _ _ _ => pts_nil) (fun _ _ _ _ _ => (pe_op op_add (pv 6) (pv 7)))) (pa_cons (pv 2) pa_nil))))))), ?_⟩
  refine ⟨_, rfl, _, _, rfl, .inl (li_sq hA), _, rfl, _, _, rfl, .inl (li_sq hB), _, _, rfl, ?_⟩
  rw [lenm, lenm]
  refine ⟨_, rfl, sz1, fun a1 h1 => ?_⟩
  refine ⟨_, rfl, _, rfl, _, _, rfl, .inl (li_sq (by walk_at "k76h")), _, _, rfl, rfl, _, _, _, rfl, rfl, upd_same, ?_, ?_, ?_, fun a2 h2 => ?_⟩
  · rw [lenm]; split <;> omega
  · rw [lenm]; split <;> omega
  · refine Evl.sz_of ?_
    rw [lenm]; show 1 * _ ≤ _; split <;> omega
  refine ⟨_, _, _, _, rfl, rfl, by walk_at "k76h", by walk_at "k76h", ?_, fun a3 h3 => ?_⟩
  · refine Evl.sz_of ?_
    rw [rep_map _ (ms.length - ns.length) (by rw [lenm]; split <;> omega), List.length_map, List.length_map, List.length_replicate]; omega
  refine ⟨_, rfl, sz1, fun a4 h4 => ?_⟩
  refine ⟨_, rfl, _, rfl, _, _, rfl, .inl (li_sq (by walk_at "k76h")), _, _, rfl, rfl, _, _, _, rfl, rfl, upd_same, ?_, ?_, ?_, fun a5 h5 => ?_⟩
  · rw [lenm]; split <;> omega
  · rw [lenm]; split <;> omega
  · refine Evl.sz_of ?_
    rw [lenm]; show 1 * _ ≤ _; split <;> omega
  refine ⟨_, _, _, _, rfl, rfl, by walk_at "k76h", by walk_at "k76h", ?_, fun a6 h6 => ?_⟩
  · refine Evl.sz_of ?_
    rw [rep_map _ (ns.length - ms.length) (by rw [lenm]; split <;> omega), List.length_map, List.length_map, List.length_replicate]; omega
  refine ⟨_, _, rfl, ?_⟩
  rw [pad_map ns _ (ms.length - ns.length) (by rw [lenm]; split <;> omega)] at *
  rw [pad_map ms _ (ns.length - ms.length) (by rw [lenm]; split <;> omega)] at *
  refine ⟨_, rfl, _, rfl, _, _, _, _, rfl, li_sq (by walk_at "k76h"), li_sq upd_same, lc_int (src_zip (by walk_at "k76h") upd_same) (by rw [List.length_map, List.length_map, List.length_append, List.length_append, List.length_replicate, List.length_replicate]; omega)
    (fun i => (ns ++ List.replicate (ms.length - ns.length) 0).getD i 0 + (ms ++ List.replicate (ns.length - ms.length) 0).getD i 0) (fun i x H' Z hi e it z => ?_) (fun D H' hD e hl => ?_)⟩
  · obtain ⟨U, x1, y1, rfl, hU, hx, hy⟩ := it
    obtain ⟨rfl, _⟩ := at_map hx
    obtain ⟨rfl, _⟩ := at_map hy
    exact ⟨_, _, rfl, Evl.st_of hU, rfl, _, _, rfl, _, _, rfl, rfl, rfl, _, rfl, _, rfl, _, _, rfl, rfl, z _ (by walk_at "k76e")⟩
  · refine ⟨_, rfl, D, addZ ns ms, p, rfl, ?_, hp, by rw [addZ_len]; omega, fun r H2 e2 hr => ?_⟩
    · refine hl.trans (congrArg (fun l => some (HO.lst (List.map V.int l))) ?_)
      refine range_zip ?_ ?_ <;> rw [List.length_map, List.length_map, List.length_append, List.length_append, List.length_replicate, List.length_replicate] <;> omega
    · exact q r H2 (by walk_at "k76e") hr
end
end K76
namespace K76
open PySem PySem.Spec PyProof.Rows L2

def B24 : Int := 2 ^ 24
def sp_in_one (K : PySem.W.Frag) : Sp := fun vs H Q _ => ∃ (a : Addr) (ns : List Int), vs = [.ref a] ∧ LI H a ns ∧ Rg (2 ^ 24) ns ∧ ns.length ≤ 20000 ∧ ∀ H', Ex H H' → Q (.int (enc (2 ^ 24) ns)) H'
def sp_times_in_one (K : PySem.W.Frag) : Sp := fun vs H Q _ => ∃ (a b : Addr) (ns ms : List Int) (p : Nat), vs = [.ref a, .ref b, .int p] ∧ LI H a ns ∧ LI H b ms ∧ Pr p ∧ Rg p ns ∧ Rg p ms ∧ ns.length ≤ 20000 ∧ ms.length ≤ 20000 ∧ ∀ r H', Ex H H' → LI H' r (trim ((mulL ns ms).map (· % (p : Int)))) → Q (.ref r) H'
def sp_times (K : PySem.W.Frag) : Sp := fun vs H Q _ => ∃ (a b : Addr) (ns ms : List Int) (p : Nat), vs = [.ref a, .ref b, .int p] ∧ LI H a ns ∧ LI H b ms ∧ Pr p ∧ Rg p ns ∧ Rg p ms ∧ ns.length ≤ 20000 ∧ ms.length ≤ 20000 ∧ ∀ r H', Ex H H' → LI H' r (trim ((mulL ns ms).map (· % (p : Int)))) → Q (.ref r) H'
theorem enc_bits {l : List Int} (h : Rg (2 ^ 24) l) : (Builtin.Int.intBits (enc (2 ^ 24) l) : Int) ≤ 24 * l.length + 1 := by
  have e := enc_range (B := 2 ^ 24) (by decide) l h
  have h1 : (enc (2 ^ 24) l).natAbs < 2 ^ (24 * l.length + 1) := by
    have e2 : ((2 : Int) ^ 24) ^ l.length = ((2 ^ (24 * l.length) : Nat) : Int) := by rw [← Int.pow_mul, Int.natCast_pow]; rfl
    have e3 : (2 : Nat) ^ (24 * l.length + 1) = 2 * 2 ^ (24 * l.length) := by rw [Nat.pow_succ, Nat.mul_comm]
    rw [e2] at e
    omega
  have h2 := PySem.Flt.log2_lt_of (by omega) h1
  have h3 := intBits_le (enc (2 ^ 24) l)
  omega
theorem Rg.drop {p : Int} {l : List Int} (h : Rg p l) (k : Nat) : Rg p (l.drop k) := fun a ha => h a (List.mem_of_mem_drop ha)
theorem Rg.get {p : Int} {l : List Int} (h : Rg p l) {k : Nat} (hk : k < l.length) : 0 ≤ l.getD k 0 ∧ l.getD k 0 < p := by
  rw [List.getD_eq_getElem?_getD, List.getElem?_eq_getElem hk]
  exact h _ (List.getElem_mem hk)
theorem Rg.up {p q : Int} {l : List Int} (h : Rg p l) (e : p ≤ q) : Rg q l := fun a ha => ⟨(h a ha).1, by have := (h a ha).2; omega⟩
theorem B24e : (2 : Int) ^ 24 = 16777216 := by decide
section
variable {P : Program} {w : World} {K : PySem.W.Frag} {mg : Str → Option Value} {base : Heap}
theorem cal_in_one (T : Txt K mg) : C8.Cal P w K mg base 1 "in_one" (sp_in_one K) [] := by
  obtain ⟨f, fd, F, df⟩ := T.d_in_one
  refine C8.cal0 F (F.fn.binds df fun _ _ _ _ _ _ us hl => ?bnd) .nil sc_in_one (fun vs H Q E h => ?len) fun cdv A outer s H vs Q E hr h => ?_
  case bnd => obtain ⟨a0, rfl⟩ := ln1 hl; rfl
  case len => first | (obtain ⟨_, rfl, _⟩ := h; rfl) | (obtain ⟨_, _, rfl, _⟩ := h; rfl) | (obtain ⟨_, _, _, rfl, _⟩ := h; rfl) | (obtain ⟨_, _, _, _, rfl, _⟩ := h; rfl) | (obtain ⟨_, _, _, _, _, rfl, _⟩ := h; rfl) | (obtain ⟨_, _, _, _, _, _, rfl, _⟩ := h; rfl) | (obtain ⟨_, _, _, _, _, _, _, rfl, _⟩ := h; rfl) | (obtain ⟨_, _, _, _, _, _, _, _, rfl, _⟩ := h; rfl) | (obtain ⟨_, _, _, _, _, _, _, _, _, rfl, _⟩ := h; rfl) | (obtain ⟨_, _, _, _, _, _, _, _, _, _, rfl, _⟩ := h; rfl) | (obtain ⟨_, _, _, _, _, _, _, _, _, _, _, rfl, _⟩ := h; rfl)
  have sc := sc_in_one
  obtain ⟨a, ns, rfl, hA, hr0, hz, q⟩ := h
  refine ⟨_, (pss_cons (ps_set (i := 1) sc.nd rfl (Or.inl rfl) pe_int)
      (pss_cons (ps_for PassesOwn.never rfl (pi_reversed (by rfl) T.b_reversed (pa_cons (pv 0) pa_nil)) (pg_name (i := 2) sc.nd rfl (Or.inl rfl)) (pss_one (ps_set (i := 1) sc.nd rfl (Or.inl rfl) (pe_op op_orL (pe_op op_shlN (pv 1) (C8.pe_gc (v := .int 24) (by rfl) T.g_BITS)) (pv 2)))))
      (pss_one (ps_ret (pv 1))))), ?_⟩
  refine ⟨_, rfl, _, _, rfl, li_sq hA, ?_⟩
  refine for_src (src_rev hA) (fun i σ H' => Ex H H' ∧ ∃ y, σ = [some (.ref a), some (.int (enc (2 ^ 24) (ns.drop (ns.length - i)))), y]) ?_ (fun i σ H' hP => hP.1) (fun i x σ H2 H3 hi hP e3 hx => ?_) (fun σ H2 hP => ?_)
  · refine ⟨by walk_at "k76e", none, ?_⟩
    rw [show ns.drop (ns.length - 0) = [] by simp]; rfl
  · obtain ⟨e1, y, rfl⟩ := hP
    rw [List.length_map] at hx hi
    obtain ⟨rfl, hk⟩ := at_map hx
    have hd := hr0.drop (ns.length - i)
    have hb := enc_bits hd
    have hl : (ns.drop (ns.length - i)).length ≤ ns.length := by rw [List.length_drop]; omega
    have hx0 := hr0.get hk
    have hrng := enc_range (B := 2 ^ 24) (by decide) _ hd
    refine ⟨_, rfl, _, 24, rfl, rfl, ⟨by decide, by rw [show ((24 : Nat) : Int) = 24 from rfl]; omega⟩, _, rfl, enc (2 ^ 24) (ns.drop (ns.length - i)), ns.getD (ns.length - 1 - i) 0, 24, rfl, rfl, ⟨hrng.1, hx0.1, hx0.2⟩, ?_⟩
    refine ⟨by walk_at "k76e", some (.int (ns.getD (ns.length - 1 - i) 0)), ?_⟩
    have e5 := enc_drop (B := 2 ^ 24) ns (k := ns.length - 1 - i) hk
    rw [show ns.length - 1 - i + 1 = ns.length - i by omega] at e5
    rw [show ns.length - (i + 1) = ns.length - 1 - i by omega, e5, Int.add_comm, Int.mul_comm]
    rfl
  · obtain ⟨e1, y, rfl⟩ := hP
    rw [List.length_map, Nat.sub_self, List.drop_zero]
    exact ⟨_, rfl, q _ (by walk_at "k76e")⟩
theorem cal_times_in_one (T : Txt K mg) : C8.Cal P w K mg base 2 "times_in_one" (sp_times_in_one K) [] := by
  have c_in_one : C8.Cal P w K mg base 1 "in_one" (sp_in_one K) [] := cal_in_one T
  have c_trimmed : C8.Cal P w K mg base 1 "trimmed" (sp_trimmed K) [] := cal_trimmed T
  obtain ⟨f, fd, F, df⟩ := T.d_times_in_one
  refine C8.cal0 F (F.fn.binds df fun _ _ _ _ _ _ us hl => ?bnd) .nil sc_times_in_one (fun vs H Q E h => ?len) fun cdv A outer s H vs Q E hr h => ?_
  case bnd => obtain ⟨a0, a1, a2, rfl⟩ := ln3 hl; rfl
  case len => first | (obtain ⟨_, rfl, _⟩ := h; rfl) | (obtain ⟨_, _, rfl, _⟩ := h; rfl) | (obtain ⟨_, _, _, rfl, _⟩ := h; rfl) | (obtain ⟨_, _, _, _, rfl, _⟩ := h; rfl) | (obtain ⟨_, _, _, _, _, rfl, _⟩ := h; rfl) | (obtain ⟨_, _, _, _, _, _, rfl, _⟩ := h; rfl) | (obtain ⟨_, _, _, _, _, _, _, rfl, _⟩ := h; rfl) | (obtain ⟨_, _, _, _, _, _, _, _, rfl, _⟩ := h; rfl) | (obtain ⟨_, _, _, _, _, _, _, _, _, rfl, _⟩ := h; rfl) | (obtain ⟨_, _, _, _, _, _, _, _, _, _, rfl, _⟩ := h; rfl) | (obtain ⟨_, _, _, _, _, _, _, _, _, _, _, rfl, _⟩ := h; rfl)
  have sc := sc_times_in_one
  obtain ⟨a, b, ns, ms, p, rfl, hA, hB, hp, hr1, hr2, hz1, hz2, q⟩ := h
  have hpb := hp.b
  have hC := mulL_rg hpb hr1 hr2 hz1
  have hg1 : Rg (2 ^ 24) ns := hr1.up (by rw [B24e]; omega)
  have hg2 : Rg (2 ^ 24) ms := hr2.up (by rw [B24e]; omega)
  have hlen := mulL_len ns ms
  refine ⟨_, (pss_cons (ps_par (i := 3) (j := 4) (by rfl) sc.nd rfl rfl (by decide) rfl rfl (pa_cons (pe_op op_mulX (C8.pe_c c_in_one hr (by decide) (by rfl) (pa_cons (pv 0) pa_nil)) (C8.pe_c c_in_one hr (by decide) (by rfl) (pa_cons (pv 1) pa_nil))) (pa_cons (pe_lst pa_nil) pa_nil)) (by rfl))
      (pss_cons (ps_while PassesOwn.never (pt_cmpR op_gt (pv 3) pe_int (nomark _)) (pss_cons (ps_expr (pe_bm PySem.F.plainAttrs_list PySem.F.slot_list_append PySem.F.type_list_append mt_append (pv 4) (pa_cons (pe_op op_andM (pv 3) (C8.pe_gc (v := .int 16777215) (by rfl) T.g_MASK)) pa_nil)))
      (pss_one (ps_set (i := 3) sc.nd rfl (Or.inl rfl) (pe_op op_shrN (pv 3) (C8.pe_gc (v := .int 24) (by rfl) T.g_BITS))))))
      (pss_one (ps_ret (C8.pe_c c_trimmed hr (by decide) (by rfl) (pa_cons (pv 4) (pa_cons (pv 2) pa_nil))))))), ?_⟩
  refine ⟨_, rfl, a, ns, rfl, hA, hg1, hz1, fun H1 e1 => ?_⟩
  refine ⟨_, rfl, b, ms, rfl, by walk_at "k76h", hg2, hz2, fun H2 e2 => ?_⟩
  refine ⟨_, _, rfl, rfl, ?_, sz0, fun D hD => ?_⟩
  · have b1 := enc_bits hg1
    have b2 := enc_bits hg2
    show (_ : Int) + _ ≤ _
    omega
  refine ⟨_, _, rfl, ?_⟩
  have eH2 : Ex H H2 := by walk_at "k76e"
  refine while_m (fun n σ H' => Ex H2 H' ∧ ∃ k : Nat, σ = [some (.ref a), some (.ref b), some (.int p), some (.int (enc (2 ^ 24) ((mulL ns ms).drop k))), some (.ref D)] ∧ LI H' D ((mulL ns ms).take k) ∧ k + n = (mulL ns ms).length) (mulL ns ms).length ?_ (fun n σ H' hW => ?_)
  · exact ⟨by walk_at "k76e", 0, by rw [List.drop_zero, enc_mul]; rfl, upd_same, by omega⟩
  · obtain ⟨e3, k, rfl, hl, hk⟩ := hW
    refine ⟨_, rfl, _, _, rfl, rfl, _, rfl, ?_⟩
    refine itd (fun h => ?_) (fun h => ?_)
    · have hn : 0 < n := by
        rcases Nat.eq_zero_or_pos n with z | z
        · rw [List.drop_eq_nil_of_le (by omega)] at h
          exact absurd h (by decide)
        · exact z
      have e5 := enc_drop (B := 2 ^ 24) (mulL ns ms) (k := k) (by omega)
      have hg := hC.get (k := k) (by omega)
      refine ⟨fun σ H' => Ex H2 H' ∧ ∃ k2 : Nat, σ = [some (.ref a), some (.ref b), some (.int p), some (.int (enc (2 ^ 24) ((mulL ns ms).drop k2))), some (.ref D)] ∧ LI H' D ((mulL ns ms).take k2) ∧ k2 + (n - 1) = (mulL ns ms).length, fun σ' H' z => ⟨n - 1, by omega, z⟩, ?_⟩
      refine ⟨_, rfl, .inl ⟨rfl, _, li_sq hl⟩, _, rfl, _, 24, rfl, congrArg V.int (by decide), _, _, _, rfl, rfl, hl, Evl.sz_lt ?_, ?_⟩
      · rw [List.length_map, List.length_take]; omega
      refine ⟨_, rfl, _, 24, rfl, rfl, ?_⟩
      have m1 : enc (2 ^ 24) ((mulL ns ms).drop k) % 2 ^ 24 = (mulL ns ms).getD k 0 := by
        rw [e5, Int.add_mul_emod_self_left]
        exact Int.emod_eq_of_lt hg.1 hg.2
      have m2 : enc (2 ^ 24) ((mulL ns ms).drop k) / 2 ^ 24 = enc (2 ^ 24) ((mulL ns ms).drop (k + 1)) := by
        rw [e5, Int.add_mul_ediv_left _ _ (by decide), Int.ediv_eq_zero_of_lt hg.1 hg.2, Int.zero_add]
      rw [m1, m2]
      refine ⟨Evl.Ex.mut e3 hD, k + 1, rfl, ?_, by omega⟩
      rw [map_snoc_int, List.take_succ, List.getElem?_eq_getElem (by omega), List.getD_eq_getElem?_getD, List.getElem?_eq_getElem (by omega)]
      exact upd_same
    · have hr3 := enc_range (B := 2 ^ 24) (by decide) _ (hC.drop k)
      have hz0 := enc_zero (B := 2 ^ 24) (by decide) _ (hC.drop k) (by omega)
      refine ⟨_, rfl, _, rfl, D, _, p, rfl, hl, by omega, by rw [List.length_take]; omega, fun r H4 e4 hr4 => ?_⟩
      refine q r H4 (by walk_at "k76e") ?_
      rw [trim_modext (m := (mulL ns ms).take k)]
      · exact hr4
      · intro j
        have hj := hz0 (j - k)
        rw [List.getD_eq_getElem?_getD, List.getD_eq_getElem?_getD, List.getElem?_take]
        split
        · rfl
        · rw [List.getD_eq_getElem?_getD, List.getElem?_drop, show k + (j - k) = j by omega] at hj
          exact hj
end
end K76
namespace K76
open PySem PySem.Spec PyProof.Rows L2

theorem ixN_nn {n j : Nat} {i : Int} (h : i = (j : Int)) (hj : j < n) : ixN n i = some j := by
  subst h
  exact Evl.ixN_nat hj
theorem get_nn {ns : List Int} {j : Nat} (hj : j < ns.length) : (ns.map V.int)[j]? = some (.int (ns.getD j 0)) := by
  rw [List.getElem?_map, List.getElem?_eq_getElem hj, List.getD_eq_getElem?_getD, List.getElem?_eq_getElem hj]; rfl
theorem atI_nn {ns : List Int} {i : Int} {j : Nat} (h : i = (j : Int)) (hj : j < ns.length) : atI (ns.map V.int) i = some (.int (ns.getD j 0)) := by
  subst h
  have := atI_int (ns := ns) (i := (j : Int)) (by omega) (by omega)
  rwa [Int.toNat_natCast] at this
theorem Rg.set {p : Int} {l : List Int} (h : Rg p l) {v : Int} (hv : 0 ≤ v ∧ v < p) (i : Nat) : Rg p (l.set i v) := fun a ha => by
  rcases List.mem_or_eq_of_mem_set ha with z | z
  · exact h a z
  · rw [z]; exact hv
theorem rg_zeros {p : Int} (hp : 0 < p) (n : Nat) : Rg p (List.replicate n 0) := fun a ha => by
  rw [(List.mem_replicate.mp ha).2]; omega
theorem Rg.take {p : Int} {l : List Int} (h : Rg p l) (k : Nat) : Rg p (l.take k) := fun a ha => h a (List.mem_of_mem_take ha)
theorem Can.last0 {p : Int} {l : List Int} (h : Can p l) (hne : l ≠ []) : 0 < l.getD (l.length - 1) 0 ∧ l.getD (l.length - 1) 0 < p := by
  have hl := List.length_pos_iff.mpr hne
  have hg := h.1.get (k := l.length - 1) (by omega)
  have : l.getD (l.length - 1) 0 ≠ 0 := fun z => h.2 (by rw [last_getD hne, z])
  omega
theorem cutV_take (xs : List V) (n : Nat) {i : Int} (h : i = (n : Int)) : cutV xs none (some i) = xs.take n := by
  subst h
  unfold cutV
  rw [HT.sIx_nat, HT.sIx_none]
  show (xs.drop 0).take (min n xs.length - 0) = _
  rw [List.drop_zero, Nat.sub_zero]
  by_cases c : n ≤ xs.length
  · rw [Nat.min_eq_left c]
  · rw [Nat.min_eq_right (by omega), List.take_length, List.take_of_length_le (by omega)]
def sp_split (K : PySem.W.Frag) : Sp := fun vs H Q _ => ∃ (a b : Addr) (ns ms : List Int) (p : Nat), vs = [.ref a, .ref b, .int p] ∧ LI H a ns ∧ LI H b ms ∧ Pr p ∧ Rg p ns ∧ Can p ms ∧ ms ≠ [] ∧ ns.length ≤ 20000 ∧ ms.length ≤ 20000 ∧
  ∀ t x y qs rs H', Ex H H' → SqT K H' t [.ref x, .ref y] → LI H' x qs → LI H' y rs → SplitR p ns ms qs rs → Q (.ref t) H'
theorem mulL_nilr (ns : List Int) (p : Int) : trim ((mulL ns []).map (· % p)) = [] := by
  rw [trim_modext (m := []) (int_getD (by rw [PL_mulL, PL_nil]; grind))]
  rfl
section
variable {P : Program} {w : World} {K : PySem.W.Frag} {mg : Str → Option Value} {base : Heap}
theorem cal_times (T : Txt K mg) : C8.Cal P w K mg base 3 "times" (sp_times K) [] := by
  have c_times_in_one : C8.Cal P w K mg base 2 "times_in_one" (sp_times_in_one K) [] := cal_times_in_one T
  have c_trimmed : C8.Cal P w K mg base 1 "trimmed" (sp_trimmed K) [] := cal_trimmed T
  obtain ⟨f, fd, F, df⟩ := T.d_times
  refine C8.cal0 F (F.fn.binds df fun _ _ _ _ _ _ us hl => ?bnd) .nil sc_times (fun vs H Q E h => ?len) fun cdv A outer s H vs Q E hr h => ?_
  case bnd => obtain ⟨a0, a1, a2, rfl⟩ := ln3 hl; rfl
  case len => first | (obtain ⟨_, rfl, _⟩ := h; rfl) | (obtain ⟨_, _, rfl, _⟩ := h; rfl) | (obtain ⟨_, _, _, rfl, _⟩ := h; rfl) | (obtain ⟨_, _, _, _, rfl, _⟩ := h; rfl) | (obtain ⟨_, _, _, _, _, rfl, _⟩ := h; rfl) | (obtain ⟨_, _, _, _, _, _, rfl, _⟩ := h; rfl) | (obtain ⟨_, _, _, _, _, _, _, rfl, _⟩ := h; rfl) | (obtain ⟨_, _, _, _, _, _, _, _, rfl, _⟩ := h; rfl) | (obtain ⟨_, _, _, _, _, _, _, _, _, rfl, _⟩ := h; rfl) | (obtain ⟨_, _, _, _, _, _, _, _, _, _, rfl, _⟩ := h; rfl) | (obtain ⟨_, _, _, _, _, _, _, _, _, _, _, rfl, _⟩ := h; rfl)
  have sc := sc_times
  obtain ⟨a, b, ns, ms, p, rfl, hA, hB, hp, hr1, hr2, hz1, hz2, q⟩ := h
  have hpb := hp.b
  refine ⟨_, (pss_cons (ps_if (PW.pt (pw_or (pt_cmpR op_eq (pe_callB (call_lenK (K0 := K)) (by rfl) T.b_len (by decide +kernel) (pa_cons (pv 0) pa_nil)) pe_int (nomark _)) (pw_or1 (pt_cmpR op_eq (pe_callB (call_lenK (K0 := K)) (by rfl) T.b_len (by decide +kernel) (pa_cons (pv 1) pa_nil)) pe_int (nomark _))))) (pss_one (ps_ret (pe_lst pa_nil))) pss_nil)
      (pss_cons (ps_if (pt_cmpR op_gt (pe_op op_mul (pe_callB (call_lenK (K0 := K)) (by rfl) T.b_len (by decide +kernel) (pa_cons (pv 0) pa_nil)) (pe_callB (call_lenK (K0 := K)) (by rfl) T.b_len (by decide +kernel) (pa_cons (pv 1) pa_nil))) pe_int (nomark _)) (pss_one (ps_ret (C8.pe_c c_times_in_one hr (by decide) (by rfl) (pa_cons (pv 0) (pa_cons (pv 1) (pa_cons (pv 2) pa_nil)))))) pss_nil)
      (pss_cons (ps_set (i := 3) sc.nd rfl (Or.inl rfl) (pe_op op_rep (pe_lst (pa_cons pe_int pa_nil)) (pe_op op_sub (pe_op op_add (pe_callB (call_lenK (K0 := K)) (by rfl) T.b_len (by decide +kernel) (pa_cons (pv 0) pa_nil)) (pe_callB (call_lenK (K0 := K)) (by rfl) T.b_len (by decide +kernel) (pa_cons (pv 1) pa_nil))) pe_int)))
      (pss_cons (ps_for PassesOwn.never rfl (pi_enum (by rfl) T.b_enumerate (pa_cons (pv 0) pa_nil)) (pg_tup rfl (pgs_cons (pg_name (i := 4) sc.nd rfl (Or.inl rfl)) (pgs_cons (pg_name (i := 5) sc.nd rfl (Or.inl rfl)) pgs_nil))) (pss_one (ps_if (pt_cmpR op_ne (pv 5) pe_int (nomark _)) (pss_one (ps_for PassesOwn.never rfl (pi_enum (by rfl) T.b_enumerate (pa_cons (pv 1) pa_nil)) (pg_tup rfl (pgs_cons (pg_name (i := 6) sc.nd rfl (Or.inl rfl)) (pgs_cons (pg_name (i := 7) sc.nd rfl (Or.inl rfl)) pgs_nil))) (pss_one (ps_augS (pv 3) (pe_op op_add (pv 4) (pv 6)) get_list (pe_op op_mul (pv 5) (pv 7)) ip_add set_list)))) pss_nil)))
      (pss_one (ps_ret (C8.pe_c c_trimmed hr (by decide) (by rfl) (pa_cons (pv 3) (pa_cons (pv 2) pa_nil))))))))), ?_⟩
  refine ⟨_, rfl, _, _, rfl, .inl (li_sq hA), rfl, _, rfl, ?_⟩
  refine itd (fun h => ?_) (fun h => ?_)
  · refine iteT ⟨sz0, fun D hD => q D _ (by walk_at "k76e") ?_⟩
    have h1 := V.int.inj h
    rw [lenm] at h1
    have e0 : ns = [] := List.length_eq_zero_iff.mp (by omega)
    rw [e0]
    exact upd_same
  refine ⟨_, rfl, _, _, rfl, .inl (li_sq hB), rfl, _, rfl, ?_⟩
  refine itd (fun h2 => ?_) (fun h2 => ?_)
  · refine ⟨sz0, fun D hD => q D _ (by walk_at "k76e") ?_⟩
    have h1 := V.int.inj h2
    rw [lenm] at h1
    have e0 : ms = [] := List.length_eq_zero_iff.mp (by omega)
    rw [e0, mulL_nilr]
    exact upd_same
  have n0 : 0 < ns.length := by
    refine Nat.pos_of_ne_zero fun z => h (congrArg V.int ?_)
    rw [lenm, z]; rfl
  have m0 : 0 < ms.length := by
    refine Nat.pos_of_ne_zero fun z => h2 (congrArg V.int ?_)
    rw [lenm, z]; rfl
  refine ⟨_, rfl, _, _, rfl, .inl (li_sq hA), _, rfl, _, _, rfl, .inl (li_sq hB), _, _, rfl, rfl, .inl ?_, _, _, rfl, rfl, _, rfl, ?_⟩
  · rw [lenm]; omega
  refine itd (fun h3 => ?_) (fun h3 => ?_)
  · exact ⟨_, rfl, _, rfl, _, rfl, a, b, ns, ms, p, rfl, hA, hB, hp, hr1, hr2, hz1, hz2, fun r H1 e1 hr => q r H1 e1 hr⟩
  refine ⟨sz1, fun a1 k1 => ?_⟩
  refine ⟨_, rfl, _, _, rfl, .inl (li_sq (by walk_at "k76h")), _, rfl, _, _, rfl, .inl (li_sq (by walk_at "k76h")), _, _, rfl, rfl, _, _, rfl, rfl, _, _, _, rfl, rfl, upd_same, ?_, ?_, ?_, fun a2 k2 => ?_⟩
  · rw [lenm, lenm]; omega
  · rw [lenm, lenm]; omega
  · refine Evl.sz_of ?_
    rw [lenm, lenm]; show 1 * _ ≤ _; omega
  rw [rep_map _ (ns.length + ms.length - 1) (by rw [lenm, lenm]; omega)] at *
  have n2 : H a2 = none := fr_dn k2 (Evl.Ex.new k1)
  refine ⟨_, rfl, _, _, rfl, li_sq (by walk_at "k76h"), ?_⟩
  refine for_src (src_enum hA) (fun i σ H' => Ex H H' ∧ ∃ y4 y5 y6 y7 fd, σ = [some (.ref a), some (.ref b), some (.int p), some (.ref a2), y4, y5, y6, y7] ∧ LI H' a2 fd ∧ fd.length + 1 = ns.length + ms.length ∧ PL Int fd = PL Int (ns.take i) * PL Int ms) ?_ (fun i σ H' hP => hP.1) (fun i x σ H2 H3 hi hP e3 hx => ?_) (fun σ H2 hP => ?_)
  · refine ⟨by walk_at "k76e", none, none, none, none, List.replicate (ns.length + ms.length - 1) 0, rfl, upd_same, by rw [List.length_replicate]; omega, ?_⟩
    rw [PL_rep, List.take_zero, PL_nil]; grind
  · obtain ⟨e1, y4, y5, y6, y7, fd, rfl, hl, hlen, hpl⟩ := hP
    obtain ⟨U, x0, rfl, hU, hx0⟩ := hx
    obtain ⟨rfl, hk⟩ := at_map hx0
    have hx1 := hr1.get hk
    refine ⟨_, _, rfl, Evl.st_of hU, rfl, _, _, rfl, _, _, rfl, rfl, ?_⟩
    refine ⟨_, rfl, rfl, _, rfl, ?_⟩
    refine itn (fun h4 => ?_) (fun h4 => ?_)
    · refine ⟨_, rfl, _, _, rfl, li_sq (by walk_at "k76h"), ?_⟩
      refine for_src (src_enum hB) (fun j σ H' => Ex H H' ∧ ∃ y6 y7 fd, σ = [some (.ref a), some (.ref b), some (.int p), some (.ref a2), some (.int (i : Nat)), some (.int (ns.getD i 0)), y6, y7] ∧ LI H' a2 fd ∧ fd.length + 1 = ns.length + ms.length ∧
          PL Int fd = PL Int (ns.take i) * PL Int ms + Cp (ci Int (ns.getD i 0)) * Xp ^ i * PL Int (ms.take j)) ?_ (fun i σ H' hP => hP.1) (fun j x σ H4 H5 hj hP e5 hx => ?_) (fun σ H4 hP => ?_)
      · refine ⟨by walk_at "k76e", y6, y7, fd, rfl, by walk_at "k76h", hlen, ?_⟩
        rw [hpl, List.take_zero, PL_nil]; grind
      · obtain ⟨e4, y6, y7, fd, rfl, hl, hlen, hpl⟩ := hP
        obtain ⟨U2, x2, rfl, hU2, hx2⟩ := hx
        obtain ⟨rfl, hk2⟩ := at_map hx2
        have hx3 := hr2.get hk2
        have hl5 : LI H5 a2 fd := by walk_at "k76h"
        refine ⟨_, _, rfl, Evl.st_of hU2, rfl, _, _, rfl, _, _, rfl, rfl, ?_⟩
        refine ⟨_, rfl, _, rfl, _, rfl, _, _, rfl, rfl, a2, _, i + j, _, rfl, congrArg V.int (by omega), li_sq hl5, get_nn (by omega), _, rfl, _, rfl, _, _, rfl, rfl, .inl (by omega), _, _, rfl, rfl, _, _, _, i + j, rfl, rfl, hl5, ixN_nn (by omega) (by rw [List.length_map]; omega), ?_⟩
        refine ⟨Evl.Ex.mut (by walk_at "k76e") n2, _, _, _, rfl, ?_, ?_, mul_step hk hk2 hlen hpl⟩
        · rw [map_set_int]; exact upd_same
        · rw [List.length_set]; exact hlen
      · obtain ⟨e4, y6, y7, fd, rfl, hl, hlen, hpl⟩ := hP
        rw [List.length_map, mul_turn hk] at hpl
        exact ⟨e4, _, _, _, _, fd, rfl, hl, hlen, hpl⟩
    · have h5 := V.int.inj h4
      rw [mul_skip hk h5] at hpl
      exact ⟨by walk_at "k76e", _, _, _, _, fd, rfl, by walk_at "k76h", hlen, hpl⟩
  · obtain ⟨e1, y4, y5, y6, y7, fd, rfl, hl, hlen, hpl⟩ := hP
    rw [List.length_map, List.take_length] at hpl
    refine ⟨_, rfl, _, rfl, a2, fd, p, rfl, hl, by omega, by omega, fun r H4 e4 hr4 => ?_⟩
    refine q r H4 (by walk_at "k76e") ?_
    rw [trim_modext (m := fd)]
    · exact hr4
    · exact int_getD (by rw [PL_mulL, hpl])
theorem cal_split (T : Txt K mg) : C8.Cal P w K mg base 3 "split" (sp_split K) [] := by
  have c_inverse : C8.Cal P w K mg base 2 "inverse" (sp_inverse K) [] := cal_inverse T
  have c_trimmed : C8.Cal P w K mg base 1 "trimmed" (sp_trimmed K) [] := cal_trimmed T
  obtain ⟨f, fd, F, df⟩ := T.d_split
  refine C8.cal0 F (F.fn.binds df fun _ _ _ _ _ _ us hl => ?bnd) .nil sc_split (fun vs H Q E h => ?len) fun cdv A outer s H vs Q E hr h => ?_
  case bnd => obtain ⟨a0, a1, a2, rfl⟩ := ln3 hl; rfl
  case len => first | (obtain ⟨_, rfl, _⟩ := h; rfl) | (obtain ⟨_, _, rfl, _⟩ := h; rfl) | (obtain ⟨_, _, _, rfl, _⟩ := h; rfl) | (obtain ⟨_, _, _, _, rfl, _⟩ := h; rfl) | (obtain ⟨_, _, _, _, _, rfl, _⟩ := h; rfl) | (obtain ⟨_, _, _, _, _, _, rfl, _⟩ := h; rfl) | (obtain ⟨_, _, _, _, _, _, _, rfl, _⟩ := h; rfl) | (obtain ⟨_, _, _, _, _, _, _, _, rfl, _⟩ := h; rfl) | (obtain ⟨_, _, _, _, _, _, _, _, _, rfl, _⟩ := h; rfl) | (obtain ⟨_, _, _, _, _, _, _, _, _, _, rfl, _⟩ := h; rfl) | (obtain ⟨_, _, _, _, _, _, _, _, _, _, _, rfl, _⟩ := h; rfl)
  have sc := sc_split
  obtain ⟨a, b, ns, ms, p, rfl, hA, hB, hp, hr1, hc2, hne, hz1, hz2, q⟩ := h
  have hpb := hp.b
  have m0 := List.length_pos_iff.mpr hne
  refine ⟨_, (pss_cons (ps_par (i := 3) (j := 4) (by rfl) sc.nd rfl rfl (by decide) rfl rfl (pa_cons (pe_callTy call_list_of (by rfl) T.b_list (by decide +kernel) (pa_cons (pv 0) pa_nil)) (pa_cons (pe_callB (call_lenK (K0 := K)) (by rfl) T.b_len (by decide +kernel) (pa_cons (pv 1) pa_nil)) pa_nil)) (by rfl))
      (pss_cons (ps_set (i := 5) sc.nd rfl (Or.inl rfl) (pe_op op_rep (pe_lst (pa_cons pe_int pa_nil)) (pe_callB (call_max2 rfl) (by rfl) T.b_max (by decide +kernel) (pa_cons pe_int (pa_cons (pe_op op_add (pe_op op_sub (pe_callB (call_lenK (K0 := K)) (by rfl) T.b_len (by decide +kernel) (pa_cons (pv 0) pa_nil)) (pv 4)) pe_int) pa_nil)))))
      (pss_cons (ps_set (i := 6) sc.nd rfl (Or.inl rfl) (C8.pe_c c_inverse hr (by decide) (by rfl) (pa_cons (pe_ix (ix_listK (K0 := K)) (pv 1) (pe_un un_neg pe_int) (fun _ _ => rfl)) (pa_cons (pv 2) pa_nil))))
      (pss_cons (ps_for PassesOwn.never rfl (pi_range3 rfl T.b_range (pa_cons (pe_op op_sub (pe_callB (call_lenK (K0 := K)) (by rfl) T.b_len (by decide +kernel) (pa_cons (pv 5) pa_nil)) pe_int) (pa_cons (pe_un un_neg pe_int) (pa_cons (pe_un un_neg pe_int) pa_nil)))) (pg_name (i := 7) sc.nd rfl (Or.inl rfl)) (pss_cons (ps_set (i := 8) sc.nd rfl (Or.inl rfl) (pe_op op_mod (pe_op op_mul (pe_ix (ix_listK (K0 := K)) (pv 3) (pe_op op_sub (pe_op op_add (pv 7) (pv 4)) pe_int) (fun _ _ => rfl)) (pv 6)) (pv 2)))
      (pss_cons (ps_asg (pv 8) (pg_sub (pv 5) (pv 7) set_list))
      (pss_one (ps_if (pt_cmpR op_ne (pv 8) pe_int (nomark _)) (pss_one (ps_for PassesOwn.never rfl (pi_enum (by rfl) T.b_enumerate (pa_cons (pv 1) pa_nil)) (pg_tup rfl (pgs_cons (pg_name (i := 9) sc.nd rfl (Or.inl rfl)) (pgs_cons (pg_name (i := 10) sc.nd rfl (Or.inl rfl)) pgs_nil))) (pss_one (ps_asg (pe_op op_mod (pe_op op_sub (pe_ix (ix_listK (K0 := K)) (pv 3) (pe_op op_add (pv 7) (pv 9)) (fun _ _ => rfl)) (pe_op op_mul (pv 8) (pv 10))) (pv 2)) (pg_sub (pv 3) (pe_op op_add (pv 7) (pv 9)) set_list))))) pss_nil)))))
      (pss_one (ps_ret (pe_tup (pa_cons (C8.pe_c c_trimmed hr (by decide) (by rfl) (pa_cons (pv 5) (pa_cons (pv 2) pa_nil))) (pa_cons (C8.pe_c c_trimmed hr (by decide) (by rfl) (pa_cons (pe_slice sl_list (pv 3) po_none (po_some (pe_op op_sub (pv 4) pe_int))) (pa_cons (pv 2) pa_nil))) pa_nil))))))))), ?_⟩
  refine ⟨_, rfl, _, _, rfl, .inl (li_sq hA), fun a1 k1 => ?_⟩
  refine ⟨_, rfl, _, _, rfl, .inl (li_sq (by walk_at "k76h")), _, _, rfl, ?_⟩
  refine ⟨sz1, fun a2 k2 => ?_⟩
  refine ⟨_, rfl, _, _, rfl, .inl (li_sq (by walk_at "k76h")), _, rfl, _, _, rfl, rfl, _, _, rfl, rfl, _, _, rfl, _, _, _, rfl, rfl, upd_same, ?_, ?_, ?_, fun a3 k3 => ?_⟩
  · rw [lenm, lenm]; split <;> omega
  · rw [lenm, lenm]; split <;> omega
  · refine Evl.sz_of ?_
    rw [lenm, lenm]; show 1 * _ ≤ _; split <;> omega
  rw [rep_map _ (ns.length + 1 - ms.length) (by rw [lenm, lenm]; split <;> omega)] at *
  generalize hm : ns.length + 1 - ms.length = m at *
  have n1 : H a1 = none := k1
  have n3 : H a3 = none := fr_dn k3 (by walk_at "k76e")
  have n13 : a3 ≠ a1 := fun z => by
    rw [z] at k3
    have : upd (upd H a1 (.lst (ns.map V.int))) a2 (.lst [.int 0]) a1 = some (.lst (ns.map V.int)) := own_new k2 upd_same
    rw [this] at k3; cases k3
  refine ⟨_, rfl, _, rfl, _, _, _, _, rfl, rfl, li_sq (by walk_at "k76h"), atI_last' hne, _, rfl, _, p, rfl, hp, fun H1 e1 => ?_⟩
  have hlast := hc2.last0 hne
  have hib := inv_b (a := ms.getD (ms.length - 1) 0) hp
  generalize hhd : inv (ms.getD (ms.length - 1) 0) p = hd at *
  refine ⟨_, rfl, _, _, rfl, .inl (li_sq (by walk_at "k76h")), _, _, rfl, rfl, _, rfl, _, rfl, _, _, _, m, rfl, ?_, ?_⟩
  · have := RgC.neg (i := ((List.replicate m 0).map V.int).length - 1) (j := -1) (by rw [lenm, List.length_replicate]; omega) (by rw [lenm, List.length_replicate]; omega) (by omega) (by omega)
    rw [lenm, List.length_replicate] at this ⊢
    rw [show ((m : Int) - 1 - -1).toNat = m by omega] at this
    exact this
  have hq0 : LI H1 a3 (List.replicate m 0) := by walk_at "k76h"
  have hq1 : LI H1 a1 ns := by walk_at "k76h"
  have e01 : Ex H H1 := by walk_at "k76e"
  clear k2 k3 e1
  refine for_src src_rngC (fun i σ H' => Ex H H' ∧ ∃ y7 y8 y9 y10 rest quot, σ = [some (.ref a), some (.ref b), some (.int p), some (.ref a1), some (.int (ms.length : Nat)), some (.ref a3), some (.int hd), y7, y8, y9, y10] ∧
      LI H' a1 rest ∧ LI H' a3 quot ∧ rest.length = ns.length ∧ Rg p rest ∧ quot.length = m ∧ Rg p quot ∧ (∀ k, k < m - i → quot.getD k 0 = 0) ∧
      (∀ (F : Type) [Lean.Grind.CommRing F] [Lean.Grind.IsCharP F p], PL F ns = PL F quot * PL F ms + PL F rest ∧ DegLt (PL F rest) (m - i + ms.length - 1))) ?_ (fun i σ H' hP => hP.1) (fun i x σ H2 H3 hi hP e3 hx => ?_) (fun σ H2 hP => ?_)
  · refine ⟨e01, none, none, none, none, ns, List.replicate m 0, by rw [lenm]; rfl, hq1, hq0, rfl, hr1, List.length_replicate, rg_zeros (by omega) _, fun k _ => ?_, fun F _ _ => ⟨?_, deg_PL _ (by omega)⟩⟩
    · rw [List.getD_eq_getElem?_getD, List.getElem?_replicate]; split <;> rfl
    · rw [PL_rep]; grind
  · obtain ⟨e1, y7, y8, y9, y10, rest, quot, rfl, hl1, hl3, hrl, hrr, hql, hqr, hqz, hF⟩ := hP
    have hx' : x = .int ((m - 1 - i : Nat) : Int) := hx.trans (congrArg V.int (by rw [lenm, List.length_replicate]; omega))
    subst hx'
    clear hx
    generalize ht : m - 1 - i = t at *
    have hl13 : LI H3 a1 rest := by walk_at "k76h"
    have hl33 : LI H3 a3 quot := by walk_at "k76h"
    have hg := hrr.get (k := t + ms.length - 1) (by omega)
    refine ⟨_, rfl, _, rfl, _, rfl, _, _, rfl, rfl, _, _, rfl, rfl, _, _, _, _, rfl, rfl, li_sq hl13, atI_nn (j := t + ms.length - 1) (by omega) (by omega), _, rfl, _, _, rfl, rfl, .inl (by omega), _, rfl, _, _, rfl, rfl, by omega, ?_⟩
    dsimp only
    generalize hf : rest.getD (t + ms.length - 1) 0 * hd % (p : Int) = f
    have hfb : 0 ≤ f ∧ f < p := by rw [← hf]; exact mod_lt' (by omega)
    refine ⟨_, rfl, _, rfl, _, rfl, _, _, _, _, rfl, rfl, hl33, ixN_nn (j := t) rfl (by rw [List.length_map]; omega), ?_⟩
    rw [map_set_int]
    refine ⟨_, rfl, rfl, _, rfl, ?_⟩
    have turn : ∀ (rest' : List Int), (∀ (F : Type) [Lean.Grind.CommRing F] [Lean.Grind.IsCharP F p], PL F rest' = PL F rest - Cp (ci F f) * Xp ^ t * PL F ms) →
        ∀ (F : Type) [Lean.Grind.CommRing F] [Lean.Grind.IsCharP F p], PL F ns = PL F (quot.set t f) * PL F ms + PL F rest' ∧ DegLt (PL F rest') (m - (i + 1) + ms.length - 1) := fun rest' hE F _ _ => by
      have := div_turn (F := F) (p := p) hne (at' := t) (by omega) (hqz t (by omega)) hf.symm (by rw [← hhd]; exact ci_inv (by unfold Pr at hp; omega) hlast.1 hlast.2) (hF F).1 (by
        have := (hF F).2
        rw [show m - i + ms.length - 1 = t + ms.length by omega] at this
        exact this) (hE F)
      rw [show m - (i + 1) + ms.length - 1 = t + ms.length - 1 by omega]
      exact this
    have qz' : ∀ k, k < m - (i + 1) → (quot.set t f).getD k 0 = 0 := fun k hk => by
      rw [List.getD_eq_getElem?_getD, List.getElem?_set_ne (by omega), ← List.getD_eq_getElem?_getD]
      exact hqz k (by omega)
    have eU : Ex H (upd H3 a3 (.lst ((quot.set t f).map V.int))) := Evl.Ex.mut (by walk_at "k76e") n3
    have lU : LI (upd H3 a3 (.lst ((quot.set t f).map V.int))) a1 rest := by
      show upd _ _ _ a1 = _
      rw [upd_ne n13.symm]; exact hl13
    have lU3 : LI (upd H3 a3 (.lst ((quot.set t f).map V.int))) a3 (quot.set t f) := upd_same
    refine itn (fun h4 => ?_) (fun h4 => ?_)
    · refine ⟨_, rfl, _, _, rfl, li_sq (by walk_at "k76h"), ?_⟩
      refine for_src (src_enum hB) (fun j σ H' => Ex H H' ∧ ∃ y9 y10 rest', σ = [some (.ref a), some (.ref b), some (.int p), some (.ref a1), some (.int (ms.length : Nat)), some (.ref a3), some (.int hd), some (.int (t : Nat)), some (.int f), y9, y10] ∧
          LI H' a1 rest' ∧ LI H' a3 (quot.set t f) ∧ rest'.length = ns.length ∧ Rg p rest' ∧ (∀ (F : Type) [Lean.Grind.CommRing F] [Lean.Grind.IsCharP F p], PL F rest' = PL F rest - Cp (ci F f) * Xp ^ t * PL F (ms.take j))) ?_ (fun i σ H' hP => hP.1) (fun j x σ H4 H5 hj hP e5 hx => ?_) (fun σ H4 hP => ?_)
      · refine ⟨eU, y9, y10, rest, rfl, lU, lU3, hrl, hrr, fun F _ _ => ?_⟩
        rw [List.take_zero, PL_nil]; grind
      · obtain ⟨e4, y9, y10, rest', rfl, hm1, hm3, hrl', hrr', hE⟩ := hP
        obtain ⟨U2, x2, rfl, hU2, hx2⟩ := hx
        obtain ⟨rfl, hk2⟩ := at_map hx2
        have hx3 := hc2.1.get hk2
        have hm15 : LI H5 a1 rest' := by walk_at "k76h"
        have hm35 : LI H5 a3 (quot.set t f) := by walk_at "k76h"
        refine ⟨_, _, rfl, Evl.st_of hU2, rfl, _, _, rfl, _, _, rfl, rfl, ?_⟩
        refine ⟨_, rfl, _, rfl, _, rfl, _, _, rfl, rfl, _, _, _, _, rfl, rfl, li_sq hm15, atI_nn (j := t + j) (by omega) (by omega), _, rfl, _, rfl, _, _, rfl, rfl, .inl (by omega), _, _, rfl, rfl, _, rfl, _, _, rfl, rfl, by omega, _, rfl, _, rfl, _, rfl, _, _, rfl, rfl, _, _, _, _, rfl, rfl, hm15, ixN_nn (j := t + j) (by omega) (by rw [List.length_map]; omega), ?_⟩
        refine ⟨Evl.Ex.mut (by walk_at "k76e") n1, _, _, _, rfl, ?_, ?_, ?_, ?_, fun F _ _ => div_step hk2 (by omega) (hE F)⟩
        · rw [map_set_int]; exact upd_same
        · show upd _ _ _ a3 = _
          rw [upd_ne n13]; exact hm35
        · rw [List.length_set]; exact hrl'
        · exact hrr'.set (mod_lt' (by omega)) _
      · obtain ⟨e4, y9, y10, rest', rfl, hm1, hm3, hrl', hrr', hE⟩ := hP
        rw [List.length_map, List.take_length] at hE
        exact ⟨e4, _, _, _, _, rest', quot.set t f, rfl, hm1, hm3, hrl', hrr', by rw [List.length_set]; exact hql, hqr.set hfb _, qz', turn rest' hE⟩
    · have h5 := V.int.inj h4
      refine ⟨eU, _, _, _, _, rest, quot.set t f, rfl, lU, lU3, hrl, hrr, by rw [List.length_set]; exact hql, hqr.set hfb _, qz', turn rest fun F _ _ => ?_⟩
      rw [h5, ci_zero, Cp_zero]; grind
  · obtain ⟨e1, y7, y8, y9, y10, rest, quot, rfl, hl1, hl3, hrl, hrr, hql, hqr, hqz, hF⟩ := hP
    refine ⟨_, rfl, _, rfl, a3, quot, p, rfl, hl3, by omega, by omega, fun r1 H4 e4 hr4 => ?_⟩
    refine ⟨_, rfl, _, rfl, _, _, rfl, rfl, _, rfl, _, _, rfl, li_sq (by walk_at "k76h"), fun a5 k5 => ?_⟩
    rw [cutV_take _ (ms.length - 1) (by omega)]
    refine ⟨_, rfl, a5, rest.take (ms.length - 1), p, rfl, by rw [← List.map_take]; exact upd_same, by omega, by rw [List.length_take]; omega, fun r2 H6 e6 hr6 => ?_⟩
    refine ⟨sz2, fun t kt => ?_⟩
    refine q t r1 r2 _ _ _ (by walk_at "k76e") (Evl.st_of upd_same) (by walk_at "k76h") (by walk_at "k76h") ⟨can_trim (rg_mod (by omega) _), can_trim (rg_mod (by omega) _), ?_, ?_, fun F _ _ => ?_⟩
    · have := trim_len ((rest.take (ms.length - 1)).map (· % (p : Int)))
      rw [List.length_map, List.length_take] at this
      omega
    · have := trim_len (quot.map (· % (p : Int)))
      rw [List.length_map] at this
      omega
    · rw [PL_trim, PL_trim, PL_mod, PL_mod, PL_takeD]
      · exact (hF F).1
      · have := (hF F).2
        rw [show m - m + ms.length - 1 = ms.length - 1 by omega] at this
        exact this
end
end K76
namespace K76
open PySem PySem.Spec PyProof.Rows L2

/-! K76, part W5: words of heaps for terms and rows; == against an empty list; any over whole numbers. -/
theorem sqt_nl {K : PySem.W.Frag} {H H' : Hp} {a : Addr} {xs : List V} (h : SqT K H a xs) (e : ∀ b o, H b = some o → (∀ ys, o ≠ .lst ys) → H' b = some o) : SqT K H' a xs := by
  rcases h with (h | ⟨o, h⟩) | h
  · exact .inl (.inl (e _ _ h fun ys z => by cases z))
  · exact .inl (.inr ⟨o, e _ _ h fun ys z => by cases z⟩)
  · exact .inr h
/-- items that are pairs of whole numbers -/
def PrL (K : PySem.W.Frag) (H : Hp) (xs : List V) (ts : List (Int × Int)) : Prop :=
  xs.length = ts.length ∧ ∀ i, i < ts.length → ∃ U, xs[i]? = some (.ref U) ∧ SqT K H U [.int (ts.getD i (0, 0)).1, .int (ts.getD i (0, 0)).2]
theorem PrL.nil {K : PySem.W.Frag} {H : Hp} : PrL K H [] [] := ⟨rfl, fun i h => absurd h (Nat.not_lt_zero _)⟩
theorem PrL.nl {K : PySem.W.Frag} {H H' : Hp} {xs : List V} {ts : List (Int × Int)} (h : PrL K H xs ts) (e : ∀ b o, H b = some o → (∀ ys, o ≠ .lst ys) → H' b = some o) : PrL K H' xs ts :=
  ⟨h.1, fun i hi => by
    obtain ⟨U, h1, h2⟩ := h.2 i hi
    exact ⟨U, h1, sqt_nl h2 e⟩⟩
theorem PrL.up {K : PySem.W.Frag} {H H' : Hp} {xs : List V} {ts : List (Int × Int)} (h : PrL K H xs ts) (e : Ex H H') : PrL K H' xs ts := h.nl fun b o hb _ => e b o hb
theorem getD_app {α : Type} (l : List α) (a d : α) (i : Nat) (h : i < l.length + 1) : (l ++ [a]).getD i d = if i < l.length then l.getD i d else a := by
  rw [List.getD_eq_getElem?_getD, List.getD_eq_getElem?_getD, List.getElem?_append]
  split
  · rfl
  · rw [show i - l.length = 0 by omega]; rfl
theorem PrL.snoc {K : PySem.W.Frag} {H : Hp} {xs : List V} {ts : List (Int × Int)} (h : PrL K H xs ts) {U : Addr} {o f : Int} (hU : SqT K H U [.int o, .int f]) : PrL K H (xs ++ [.ref U]) (ts ++ [(o, f)]) :=
  ⟨by rw [List.length_append, List.length_append, h.1]; rfl, fun i hi => by
    rw [List.length_append] at hi
    have hi' : i < ts.length + 1 := hi
    rw [getD_app _ _ _ _ hi', List.getElem?_append, h.1]
    split
    · rename_i c
      exact h.2 i c
    · exact ⟨U, by rw [show i - ts.length = 0 by omega]; rfl, hU⟩⟩
/-- a tuple of terms -/
def Trms (K : PySem.W.Frag) (H : Hp) (a : Addr) (ts : List (Int × Int)) : Prop := ∃ xs, SqT K H a xs ∧ PrL K H xs ts
theorem Trms.up {K : PySem.W.Frag} {H H' : Hp} {a : Addr} {ts : List (Int × Int)} (h : Trms K H a ts) (e : Ex H H') : Trms K H' a ts := by
  obtain ⟨xs, h1, h2⟩ := h
  exact ⟨xs, sqt_up h1 e, h2.up e⟩
/-- a rule -/
def RuleV (K : PySem.W.Frag) (H : Hp) (a : Addr) (m : Int) (ts : List (Int × Int)) : Prop := ∃ b, SqT K H a [.int m, .ref b] ∧ Trms K H b ts
theorem RuleV.up {K : PySem.W.Frag} {H H' : Hp} {a : Addr} {m : Int} {ts : List (Int × Int)} (h : RuleV K H a m ts) (e : Ex H H') : RuleV K H' a m ts := by
  obtain ⟨b, h1, h2⟩ := h
  exact ⟨b, sqt_up h1 e, h2.up e⟩
/-- a round row -/
def RowV (K : PySem.W.Frag) (H : Hp) (a : Addr) (m : Int) (ns : List Int) : Prop := ∃ b, SqT K H a [.int m, .ref b] ∧ TI K H b ns
theorem RowV.up {K : PySem.W.Frag} {H H' : Hp} {a : Addr} {m : Int} {ns : List Int} (h : RowV K H a m ns) (e : Ex H H') : RowV K H' a m ns := by
  obtain ⟨b, h1, h2⟩ := h
  exact ⟨b, sqt_up h1 e, sqt_up h2 e⟩
/-- terms as a rule has them -/
structure TOk (m : Int) (ts : List (Int × Int)) : Prop where
  len : ts.length ≤ 20
  val : ∀ t ∈ ts, 1 ≤ t.2 ∧ t.2 < m
  asc : Asc ts
  off : ∀ t ∈ ts, -4 ≤ t.1 ∧ t.1 ≤ 5
theorem mem_getD {ts : List (Int × Int)} {i : Nat} (h : i < ts.length) : ts.getD i (0, 0) ∈ ts := by
  rw [List.getD_eq_getElem?_getD, List.getElem?_eq_getElem h]; exact List.getElem_mem h
theorem Asc.at {ts : List (Int × Int)} (h : Asc ts) {i j : Nat} (hij : i < j) (hj : j < ts.length) : (ts.getD i (0, 0)).1 < (ts.getD j (0, 0)).1 := by
  rw [List.getD_eq_getElem?_getD, List.getD_eq_getElem?_getD, List.getElem?_eq_getElem hj, List.getElem?_eq_getElem (by omega)]
  exact List.pairwise_iff_getElem.mp h i j (by omega) hj hij
theorem at0 {α : Type} {x : α} {xs : List α} : atI (x :: xs) 0 = some x := by
  unfold atI ixN
  rw [if_pos (by decide), if_pos (by rw [List.length_cons]; omega)]; rfl
theorem at1 {α : Type} {x y : α} {xs : List α} : atI (x :: y :: xs) 1 = some y := by
  unfold atI ixN
  rw [if_pos (by decide), if_pos (by rw [List.length_cons, List.length_cons]; omega)]; rfl
theorem atN {α : Type} {xs : List α} {i : Int} {j : Nat} {x : α} (hi : i = (j : Int)) (h : xs[j]? = some x) : atI xs i = some x := by
  subst hi
  have hj := (List.getElem?_eq_some_iff.mp h).1
  unfold atI
  rw [Evl.ixN_nat hj]; exact h
theorem atM {α : Type} {xs : List α} {x : α} (h : xs[xs.length - 1]? = some x) : atI xs (-1) = some x := by
  have hj := (List.getElem?_eq_some_iff.mp h).1
  unfold atI ixN
  rw [if_neg (by decide), if_pos (by omega)]
  show xs[(-1 + (xs.length : Int)).toNat]? = _
  rw [show (-1 + (xs.length : Int)).toNat = xs.length - 1 by omega]; exact h
theorem two_int {o f : Int} {i : Nat} {x : V} (h : [V.int o, V.int f][i]? = some x) : ∃ j, x = .int j := by
  match i, h with
  | 0, h => exact ⟨o, (Option.some.inj h).symm⟩
  | 1, h => exact ⟨f, (Option.some.inj h).symm⟩
  | i + 2, h => cases h
theorem tup2 {K : PySem.W.Frag} {H : Hp} {U : Addr} {x y : V} (h : SqT K H U [x, y]) : SqT K H U [x, y] := h
/-! ### == against lists -/
theorem dpa_ints {K : PySem.W.Frag} {H : Hp} : ∀ ns : List Int, DpAll K H (ns.map V.int) (ns.map PyData.int)
  | [] => .nil
  | n :: ns => .cons (.int n) (dpa_ints ns)
theorem dp_l {K : PySem.W.Frag} {H : Hp} {a : Addr} {ns : List Int} (h : SqL K H a (ns.map V.int)) : Dp K H (.ref a) (.list (ns.map PyData.int)) := .lst h (dpa_ints ns)
theorem dp_t {K : PySem.W.Frag} {H : Hp} {a : Addr} {ns : List Int} (h : SqT K H a (ns.map V.int)) : Dp K H (.ref a) (.tuple (ns.map PyData.int)) := .tup h (dpa_ints ns)
theorem dp_e {K : PySem.W.Frag} {H : Hp} {a : Addr} (h : H a = some (.lst [])) : Dp K H (.ref a) (.list []) := .lst (li_sq h) .nil
theorem shp_l (ns : List Int) : SeqAt.shaped (.list (ns.map PyData.int)) = true := PySem.W.shaped_ints ns
theorem shp_t (ns : List Int) : SeqAt.shaped (.tuple (ns.map PyData.int)) = true := by
  have h1 := PySem.W.depthAll_ints ns
  have h2 : PyData.depth (.tuple (ns.map PyData.int)) ≤ 64 := by simp only [PyData.depth]; omega
  show (PyData.canLay0 (.tuple (ns.map PyData.int)) && decide (PyData.depth (.tuple (ns.map PyData.int)) ≤ 64)) = true
  rw [Bool.and_eq_true]
  exact ⟨by simp only [PyData.canLay0]; exact PySem.W.canLayAll0_ints ns, decide_eq_true h2⟩
theorem shp_e : SeqAt.shaped (.list []) = true := PySem.W.shaped_ints []
theorem eqvAll_ints : ∀ ns ms : List Int, PyData.eqvAll (ns.map PyData.int) (ms.map PyData.int) = decide (ns = ms)
  | [], [] => by simp [PyData.eqvAll]
  | [], _ :: _ => by simp [PyData.eqvAll]
  | _ :: _, [] => by simp [PyData.eqvAll]
  | n :: ns, m :: ms => by
    simp only [List.map_cons, PyData.eqvAll, PyData.eqv, eqvAll_ints ns ms]
    by_cases h : n = m <;> simp [h]
theorem eqv_l (ns ms : List Int) : PyData.eqv (.list (ns.map PyData.int)) (.list (ms.map PyData.int)) = decide (ns = ms) := by
  simp only [PyData.eqv]; exact eqvAll_ints ns ms
theorem eqv_t (ns ms : List Int) : PyData.eqv (.tuple (ns.map PyData.int)) (.tuple (ms.map PyData.int)) = decide (ns = ms) := by
  simp only [PyData.eqv]; exact eqvAll_ints ns ms
theorem eqv_e (ns : List Int) : PyData.eqv (.list (ns.map PyData.int)) (.list []) = decide (ns = []) := eqv_l ns []
/-! .. of pairs -/
def prD (ts : List (Int × Int)) : List PyData := ts.map fun t => .tuple [.int t.1, .int t.2]
theorem dpa_prs {K : PySem.W.Frag} {H : Hp} : ∀ (ts : List (Int × Int)) (xs : List V), PrL K H xs ts → DpAll K H xs (prD ts)
  | [], [], _ => .nil
  | [], x :: xs, h => by have := h.1; simp at this
  | t :: ts, [], h => by have := h.1; simp at this
  | t :: ts, x :: xs, h => by
    obtain ⟨U, h1, h2⟩ := h.2 0 (by rw [List.length_cons]; omega)
    have e : x = .ref U := Option.some.inj h1
    subst e
    refine .cons (.tup h2 (.cons (.int _) (.cons (.int _) .nil))) (dpa_prs ts xs ⟨by have := h.1; simpa using this, fun i hi => ?_⟩)
    exact h.2 (i + 1) (by rw [List.length_cons]; omega)
theorem lay_prs : ∀ ts, PyData.canLayAll0 (prD ts) = true
  | [] => by simp [prD, PyData.canLayAll0]
  | t :: ts => by
    have := lay_prs ts
    unfold prD at this ⊢
    simp [PyData.canLayAll0, PyData.canLay0, this]
theorem depth_prs : ∀ ts, PyData.depthAll (prD ts) ≤ 3
  | [] => by simp [prD, PyData.depthAll]
  | t :: ts => by
    have := depth_prs ts
    unfold prD at this ⊢
    simp only [List.map_cons, PyData.depthAll, PyData.depth]
    omega
theorem shp_p (ts : List (Int × Int)) : SeqAt.shaped (.list (prD ts)) = true := by
  have h1 := depth_prs ts
  have h2 : PyData.depth (.list (prD ts)) ≤ 64 := by simp only [PyData.depth]; omega
  show (PyData.canLay0 (.list (prD ts)) && decide (PyData.depth (.list (prD ts)) ≤ 64)) = true
  rw [Bool.and_eq_true]
  exact ⟨by simp only [PyData.canLay0]; exact lay_prs ts, decide_eq_true h2⟩
theorem eqv_pe (ts : List (Int × Int)) : PyData.eqv (.list (prD ts)) (.list []) = decide (ts = []) := by
  cases ts with
  | nil => simp [prD, PyData.eqv, PyData.eqvAll]
  | cons t ts => simp [prD, PyData.eqv, PyData.eqvAll]
/-! ### any(xs) of whole numbers -/
theorem truth_ints {prog : Program} {w : World} {A : Around} {ns : List Int} {its : List Value} (e : IntsAre its ns) :
    TruthOf prog w A (fun i v => its.toArray[i]? = some v) (fun i => (ns.map fun a => !decide (a = 0)).getD i false) := fun i v s Q E hv hq => by
  have hv' : its[i]? = some v := by simpa using hv
  have key : ∀ {its : List Value} {ns : List Int}, IntsAre its ns → ∀ i : Nat, its[i]? = some v → ∃ (k : Int) (t : Tok), v = .int k t ∧ ns[i]? = some k := by
    intro its ns e
    induction e with
    | nil => intro i h; simp at h
    | cons k t r ih =>
      intro i h
      cases i with
      | zero => exact ⟨k, t, (Option.some.inj h).symm, rfl⟩
      | succ i => exact ih i h
  obtain ⟨k, t, rfl, hk⟩ := key e i hv'
  have hg : (ns.map fun a => !decide (a = 0)).getD i false = !decide (k = 0) := by rw [List.getD_eq_getElem?_getD, List.getElem?_map, hk]; rfl
  have hq' : Q ((ns.map fun a => !decide (a = 0)).getD i false) s := hq
  rw [hg] at hq'
  have e2 : (!decide (k = 0)) = (k != 0) := by
    by_cases h : k = 0
    · subst h; rfl
    · rw [decide_eq_false h]; symm; simpa using h
  rw [e2] at hq'
  exact truthy_int hq'
theorem IntsAre.len {its : List Value} {ns : List Int} (e : IntsAre its ns) : its.length = ns.length := by
  induction e with
  | nil => rfl
  | cons k t r ih => rw [List.length_cons, List.length_cons, ih]
section
variable {X : Cx}
def rAnyI (K : PySem.W.Frag) : List V → Hp → VK → Prop := fun vs H Q => ∃ (a : Addr) (ns : List Int), vs = [V.ref a] ∧ SqL K H a (ns.map V.int) ∧ Q (.bl (ns.any fun a => !decide (a = 0))) H
theorem cr_anyI (hc : X.calm = true) : CallR X (.builtin "any") (rAnyI X.K) := by
  intro pins s σ H vs us Q I r h
  obtain ⟨a, ns, rfl, hs, q⟩ := h
  obtain ⟨its, rv, hl, _⟩ := I.list hs
  rw [Vals.ref1 r]
  have hb := rv.ints
  refine call_any_walk (iter_any hl.isList fun s₂ e2 st hne => ?_)
  subst e2
  refine ⟨_, _, _, _, _, _, _, rfl, Walks.list (A := X.A.in1) (I.ok.hd hc) _ a hne its.toArray, st, truth_ints hb, fun h' tk hk => ?_⟩
  refine ⟨.bl _, H, I.kept fun b o eo => hk b o (fun hmem => ?_) (Heap.get?_push_of_some _ eo), ?_, q⟩
  · rcases List.mem_cons.mp hmem with e1 | hmem
    · exact absurd (e1 ▸ Heap.lt_size eo) (Nat.lt_irrefl _)
    · cases hmem
  · show Value.bool _ = Value.bool _
    have e3 := any_range (ns.map fun a => !decide (a = 0))
    rw [List.length_map] at e3
    rw [List.size_toArray, IntsAre.len hb, e3, List.any_map]; rfl
end
end K76
namespace K76
open PySem PySem.Spec PyProof.Rows L2

def sp_need_same (K : PySem.W.Frag) : Sp := fun vs H Q _ => ∃ (a b : Addr) (m : Int) (xs ys : List V), vs = [.ref a, .ref b] ∧ SqT K H a (.int m :: xs) ∧ SqT K H b (.int m :: ys) ∧ ∀ H', Ex H H' → Q .non H'
def sp_is_modulus (K : PySem.W.Frag) : Sp := fun vs H Q _ => ∃ (m : Int) (ps : List Int), vs = [.int m] ∧ look m = some ps ∧ ∀ H', Ex H H' → Q (.bl true) H'
def sp_are_pairs (K : PySem.W.Frag) : Sp := fun vs H Q _ => ∃ (a : Addr) (m : Int) (ts : List (Int × Int)), vs = [.ref a, .int m] ∧ Trms K H a ts ∧ TOk m ts ∧ ∀ H', Ex H H' → Q (.bl true) H'
def sp_is_of_modulus (K : PySem.W.Frag) : Sp := fun vs H Q _ => ∃ (a b : Addr) (m : Int) (ps : List Int) (ys : List V), vs = [.ref a] ∧ SqT K H a [.int m, .ref b] ∧ look m = some ps ∧ SqT K H b ys ∧ ∀ H', Ex H H' → Q (.bl true) H'
def sp_is_a_rule (K : PySem.W.Frag) : Sp := fun vs H Q _ => ∃ (a : Addr) (m : Int) (ps : List Int) (ts : List (Int × Int)), vs = [.ref a] ∧ RuleV K H a m ts ∧ look m = some ps ∧ TOk m ts ∧ ∀ H', Ex H H' → Q (.bl true) H'
def sp_is_a_round (K : PySem.W.Frag) : Sp := fun vs H Q _ => ∃ (a : Addr) (m : Int) (ps ns : List Int), vs = [.ref a] ∧ RowV K H a m ns ∧ look m = some ps ∧ Rg m ns ∧ ns ≠ [] ∧ ns.length ≤ 1000 ∧ ∀ H', Ex H H' → Q (.bl true) H'
def sp_need_rule (K : PySem.W.Frag) : Sp := fun vs H Q _ => ∃ (a : Addr) (m : Int) (ps : List Int) (ts : List (Int × Int)), vs = [.ref a] ∧ RuleV K H a m ts ∧ look m = some ps ∧ TOk m ts ∧ ∀ H', Ex H H' → Q .non H'
def sp_need_round (K : PySem.W.Frag) : Sp := fun vs H Q _ => ∃ (a : Addr) (m : Int) (ps ns : List Int), vs = [.ref a] ∧ RowV K H a m ns ∧ look m = some ps ∧ Rg m ns ∧ ns ≠ [] ∧ ns.length ≤ 1000 ∧ ∀ H', Ex H H' → Q .non H'
def sp_need_both (K : PySem.W.Frag) : Sp := fun vs H Q _ => ∃ (a b : Addr) (m : Int) (ps ns : List Int) (ts : List (Int × Int)), vs = [.ref a, .ref b] ∧ RuleV K H a m ts ∧ RowV K H b m ns ∧ look m = some ps ∧ TOk m ts ∧ Rg m ns ∧ ns ≠ [] ∧ ns.length ≤ 1000 ∧ ∀ H', Ex H H' → Q .non H'
section
variable {P : Program} {w : World} {K : PySem.W.Frag} {mg : Str → Option Value} {base : Heap}
theorem cal_need_same (T : Txt K mg) : C8.Cal P w K mg base 1 "need_same" (sp_need_same K) [] := by
  obtain ⟨f, fd, F, df⟩ := T.d_need_same
  refine C8.cal0 F (F.fn.binds df fun _ _ _ _ _ _ us hl => ?bnd) .nil sc_need_same (fun vs H Q E h => ?len) fun cdv A outer s H vs Q E hr h => ?_
  case bnd => obtain ⟨a0, a1, rfl⟩ := ln2 hl; rfl
  case len => first | (obtain ⟨_, rfl, _⟩ := h; rfl) | (obtain ⟨_, _, rfl, _⟩ := h; rfl) | (obtain ⟨_, _, _, rfl, _⟩ := h; rfl) | (obtain ⟨_, _, _, _, rfl, _⟩ := h; rfl) | (obtain ⟨_, _, _, _, _, rfl, _⟩ := h; rfl) | (obtain ⟨_, _, _, _, _, _, rfl, _⟩ := h; rfl) | (obtain ⟨_, _, _, _, _, _, _, rfl, _⟩ := h; rfl) | (obtain ⟨_, _, _, _, _, _, _, _, rfl, _⟩ := h; rfl) | (obtain ⟨_, _, _, _, _, _, _, _, _, rfl, _⟩ := h; rfl) | (obtain ⟨_, _, _, _, _, _, _, _, _, _, rfl, _⟩ := h; rfl) | (obtain ⟨_, _, _, _, _, _, _, _, _, _, _, rfl, _⟩ := h; rfl)
  have sc := sc_need_same
  obtain ⟨a, b, m, xs, ys, rfl, hA, hB, q⟩ := h
  refine ⟨_, (pss_one (ps_if (pt_cmpR op_ne (pe_ix (ix_tupK (K0 := K)) (pv 0) pe_int (fun _ _ => rfl)) (pe_ix (ix_tupK (K0 := K)) (pv 1) pe_int (fun _ _ => rfl)) (nomark _)) (pss_one ps_never) pss_nil)), ?_⟩
  refine ⟨_, rfl, _, _, _, _, rfl, rfl, hA, at0, _, rfl, _, _, _, _, rfl, rfl, hB, at0, rfl, _, rfl, ?_⟩
  refine itn (fun h => absurd rfl h) (fun h => ?_)
  exact q _ (by walk_at "k76e")
theorem cal_is_modulus (T : Txt K mg) : C8.Cal P w K mg base 2 "is_modulus" (sp_is_modulus K) [] := by
  have c_is_integer : C8.Cal P w K mg base 1 "is_integer" (sp_is_integer K) [] := cal_is_integer T
  obtain ⟨f, fd, F, df⟩ := T.d_is_modulus
  refine C8.cal0 F (F.fn.binds df fun _ _ _ _ _ _ us hl => ?bnd) .nil sc_is_modulus (fun vs H Q E h => ?len) fun cdv A outer s H vs Q E hr h => ?_
  case bnd => obtain ⟨a0, rfl⟩ := ln1 hl; rfl
  case len => first | (obtain ⟨_, rfl, _⟩ := h; rfl) | (obtain ⟨_, _, rfl, _⟩ := h; rfl) | (obtain ⟨_, _, _, rfl, _⟩ := h; rfl) | (obtain ⟨_, _, _, _, rfl, _⟩ := h; rfl) | (obtain ⟨_, _, _, _, _, rfl, _⟩ := h; rfl) | (obtain ⟨_, _, _, _, _, _, rfl, _⟩ := h; rfl) | (obtain ⟨_, _, _, _, _, _, _, rfl, _⟩ := h; rfl) | (obtain ⟨_, _, _, _, _, _, _, _, rfl, _⟩ := h; rfl) | (obtain ⟨_, _, _, _, _, _, _, _, _, rfl, _⟩ := h; rfl) | (obtain ⟨_, _, _, _, _, _, _, _, _, _, rfl, _⟩ := h; rfl) | (obtain ⟨_, _, _, _, _, _, _, _, _, _, _, rfl, _⟩ := h; rfl)
  have sc := sc_is_modulus
  obtain ⟨d, es, n, hm, hl, hp, hs⟩ := T.tab
  obtain ⟨m, ps, rfl, hk, q⟩ := h
  refine ⟨_, (pss_one (ps_ret (pe_and (C8.pe_c c_is_integer hr (by decide) (by rfl) (pa_cons (pv 0) pa_nil)) (pe_one (pe_cmpR (op_in_tab hl hp hs) (pv 0) (C8.pe_gc (v := .ref d) (by rfl) ⟨_, hm, rfl⟩) (by rfl)))))), ?_⟩
  refine ⟨_, rfl, m, rfl, fun H1 e1 => ?_⟩
  refine ⟨_, rfl, iteT ?_⟩
  exact ⟨_, rfl, _, _, rfl, rfl, hk, q _ (by walk_at "k76e")⟩
theorem cal_are_pairs (T : Txt K mg) : C8.Cal P w K mg base 2 "are_pairs" (sp_are_pairs K) [] := by
  have c_is_integer : C8.Cal P w K mg base 1 "is_integer" (sp_is_integer K) [] := cal_is_integer T
  obtain ⟨f, fd, F, df⟩ := T.d_are_pairs
  refine C8.cal0 F (F.fn.binds df fun _ _ _ _ _ _ us hl => ?bnd) .nil sc_are_pairs (fun vs H Q E h => ?len) fun cdv A outer s H vs Q E hr h => ?_
  case bnd => obtain ⟨a0, a1, rfl⟩ := ln2 hl; rfl
  case len => first | (obtain ⟨_, rfl, _⟩ := h; rfl) | (obtain ⟨_, _, rfl, _⟩ := h; rfl) | (obtain ⟨_, _, _, rfl, _⟩ := h; rfl) | (obtain ⟨_, _, _, _, rfl, _⟩ := h; rfl) | (obtain ⟨_, _, _, _, _, rfl, _⟩ := h; rfl) | (obtain ⟨_, _, _, _, _, _, rfl, _⟩ := h; rfl) | (obtain ⟨_, _, _, _, _, _, _, rfl, _⟩ := h; rfl) | (obtain ⟨_, _, _, _, _, _, _, _, rfl, _⟩ := h; rfl) | (obtain ⟨_, _, _, _, _, _, _, _, _, rfl, _⟩ := h; rfl) | (obtain ⟨_, _, _, _, _, _, _, _, _, _, rfl, _⟩ := h; rfl) | (obtain ⟨_, _, _, _, _, _, _, _, _, _, _, rfl, _⟩ := h; rfl)
  have sc := sc_are_pairs
  obtain ⟨a, m, ts, rfl, ⟨xs, hx, hP⟩, hT, q⟩ := h
  have hlen := hP.1
  have htl := hT.len
  refine ⟨_, (pss_cons (ps_if (pt_not (pt_val (pe_callB (call_isiX (K0 := K)) (by rfl) T.b_isinstance (by decide +kernel) (pa_cons (pv 0) (pa_cons (pe_bltn (v := .ty "tuple") (by rfl) T.b_tuple (by decide +kernel) rfl) pa_nil))))) (pss_one (ps_ret pe_bl)) pss_nil)
      (pss_cons (ps_for PassesOwn.never rfl (pi_tup (pv 0)) (pg_name (i := 2) sc.nd rfl (Or.inl rfl)) (pss_cons (ps_if (PW.pt (pw_or (pt_not (pt_val (pe_callB (call_isiX (K0 := K)) (by rfl) T.b_isinstance (by decide +kernel) (pa_cons (pv 2) (pa_cons (pe_bltn (v := .ty "tuple") (by rfl) T.b_tuple (by decide +kernel) rfl) pa_nil))))) (pw_or (pt_cmpR op_ne (pe_callB (call_lenK (K0 := K)) (by rfl) T.b_len (by decide +kernel) (pa_cons (pv 2) pa_nil)) pe_int (nomark _)) (pw_or1 (pt_not (pt_val (pe_callB (cr_all rfl) (by rfl) T.b_all (by decide +kernel) (pa_cons (pe_lc (own := [("part", 3)]) (g := (gName 3)) (tt := tYes) rfl sc.nd (pi_tup (pv 2)) (blkOk_by (N := n_are_pairs) (sc := C8.fnScope s_are_pairs) (by decide +kernel)) (fun _ _ _ _ _ => (pg_name (i := 3) sc.nd rfl (Or.inl rfl))) (fun _ _ _ _ _ => pts_nil) (fun _ _ _ _ _ => (C8.pe_c c_is_integer hr (by decide) (by rfl) (pa_cons (pv 3) pa_nil)))) pa_nil)))))))) (pss_one (ps_ret pe_bl)) pss_nil)
      (pss_one (ps_if (pt_not (pt_chain op_le op_lt pe_int (pe_ix (ix_tupK (K0 := K)) (pv 2) pe_int (fun _ _ => rfl)) (pv 1))) (pss_one (ps_ret pe_bl)) pss_nil))))
      (pss_one (ps_ret (pe_callB (cr_all rfl) (by rfl) T.b_all (by decide +kernel) (pa_cons (pe_lc (own := [("at", 4)]) (g := (gName 4)) (tt := tYes) rfl sc.nd (pi_range1 rfl T.b_range (pa_cons (pe_op op_sub (pe_callB (call_lenK (K0 := K)) (by rfl) T.b_len (by decide +kernel) (pa_cons (pv 0) pa_nil)) pe_int) pa_nil)) (blkOk_by (N := n_are_pairs) (sc := C8.fnScope s_are_pairs) (by decide +kernel)) (fun _ _ _ _ _ => (pg_name (i := 4) sc.nd rfl (Or.inl rfl))) (fun _ _ _ _ _ => pts_nil) (fun _ _ _ _ _ => (pe_cmpR op_lt (pe_ix (ix_tupK (K0 := K)) (pe_ix (ix_tupK (K0 := K)) (pv 0) (pv 4) (fun _ _ => rfl)) pe_int (fun _ _ => rfl)) (pe_ix (ix_tupK (K0 := K)) (pe_ix (ix_tupK (K0 := K)) (pv 0) (pe_op op_add (pv 4) pe_int) (fun _ _ => rfl)) pe_int (fun _ _ => rfl)) (nomark _)))) pa_nil)))))), ?_⟩
  refine ⟨_, rfl, _, _, _, _, _, rfl, .ty _, tyx_t hx, kit_ty (r := true) (by decide +kernel), _, rfl, iteF ?_⟩
  refine ⟨_, rfl, _, rfl, ⟨_, hx⟩, ?_⟩
  refine for_src (src_tup hx) (fun i σ H' => Ex H H' ∧ ∃ y2 y3 y4, σ = [some (.ref a), some (.int m), y2, y3, y4]) ?_ (fun i σ H' hP => hP.1) (fun i x σ H2 H3 hi hW e3 hx3 => ?_) (fun σ H2 hW => ?_)
  · exact ⟨by walk_at "k76e", none, none, none, rfl⟩
  · obtain ⟨e1, y2, y3, y4, rfl⟩ := hW
    obtain ⟨U, hU, hU2⟩ := hP.2 i (by omega)
    have ex : x = .ref U := Option.some.inj (hx3.symm.trans hU)
    subst ex
    have hv := hT.val _ (mem_getD (show i < ts.length by omega))
    generalize (ts.getD i (0, 0)).1 = o at hU2
    generalize (ts.getD i (0, 0)).2 = f at hU2 hv
    have hU3 : SqT K H3 U [.int o, .int f] := by walk_at "k76h"
    refine ⟨_, rfl, _, _, _, _, _, rfl, .ty _, tyx_t hU3, kit_ty (r := true) (by decide +kernel), _, rfl, iteF ?_⟩
    refine ⟨_, rfl, _, _, rfl, .inr hU3, rfl, _, rfl, itn (fun h => absurd rfl h) (fun h => ?_)⟩
    refine ⟨_, rfl, _, rfl, ⟨_, hU3⟩, lc_bl (src_tup hU3) (by show 2 ≤ 100000; decide) (fun i => true) (fun i x H' Z hi e it z => ?_) (fun D H' hD e hl => ?_)⟩
    · obtain ⟨j, rfl⟩ := two_int it
      exact ⟨rfl, _, rfl, j, rfl, fun H5 e5 => z _ (by walk_at "k76e")⟩
    · refine ⟨_, _, rfl, li_sq hl, _, rfl, iteF ?_⟩
      refine ⟨_, rfl, _, _, _, _, rfl, rfl, by walk_at "k76h", at1, _, _, rfl, rfl, _, rfl, itd (fun _ => ?_) (fun h => absurd hv.1 h)⟩
      refine ⟨_, rfl, _, _, rfl, rfl, _, rfl, itn (fun h => absurd hv.2 h) (fun _ => ?_)⟩
      exact ⟨by walk_at "k76e", _, _, _, rfl⟩
  · obtain ⟨e1, y2, y3, y4, rfl⟩ := hW
    have hx2 : SqT K H2 a xs := by walk_at "k76h"
    refine ⟨_, rfl, _, _, rfl, .inr hx2, _, _, rfl, rfl, _, rfl, by omega, by omega, lc_bl (n := ((xs.length : Int) - 1).toNat) src_rng (by have := hT.len; omega) (fun i => true) (fun i x H' Z hi e it z => ?_) (fun D H' hD e hl => ?_)⟩
    · subst it
      have hlt := hT.asc.at (i := i) (j := i + 1) (by omega) (by omega)
      obtain ⟨U, hU, hU2⟩ := hP.2 i (by omega)
      obtain ⟨U', hU', hU2'⟩ := hP.2 (i + 1) (by omega)
      refine ⟨rfl, _, rfl, _, rfl, _, _, _, _, rfl, rfl, by walk_at "k76h", atN (j := i) (by omega) hU, _, _, _, _, rfl, rfl, by walk_at "k76h", at0, _, rfl, _, rfl, _, _, rfl, rfl, _, _, _, _, rfl, rfl, by walk_at "k76h", atN (j := i + 1) (by omega) hU', _, _, _, _, rfl, rfl, by walk_at "k76h", at0, _, _, rfl, rfl, ?_⟩
      dsimp only
      rw [decide_eq_true hlt]
      exact z _ (by walk_at "k76e")
    · refine ⟨_, _, rfl, li_sq hl, ?_⟩
      have e0 : (((List.range ((xs.length : Int) - 1).toNat).map fun _ => true).all id) = true := by simp
      rw [e0]
      exact q _ (by walk_at "k76e")
theorem cal_is_of_modulus (T : Txt K mg) : C8.Cal P w K mg base 3 "is_of_modulus" (sp_is_of_modulus K) [] := by
  have c_is_modulus : C8.Cal P w K mg base 2 "is_modulus" (sp_is_modulus K) [] := cal_is_modulus T
  obtain ⟨f, fd, F, df⟩ := T.d_is_of_modulus
  refine C8.cal0 F (F.fn.binds df fun _ _ _ _ _ _ us hl => ?bnd) .nil sc_is_of_modulus (fun vs H Q E h => ?len) fun cdv A outer s H vs Q E hr h => ?_
  case bnd => obtain ⟨a0, rfl⟩ := ln1 hl; rfl
  case len => first | (obtain ⟨_, rfl, _⟩ := h; rfl) | (obtain ⟨_, _, rfl, _⟩ := h; rfl) | (obtain ⟨_, _, _, rfl, _⟩ := h; rfl) | (obtain ⟨_, _, _, _, rfl, _⟩ := h; rfl) | (obtain ⟨_, _, _, _, _, rfl, _⟩ := h; rfl) | (obtain ⟨_, _, _, _, _, _, rfl, _⟩ := h; rfl) | (obtain ⟨_, _, _, _, _, _, _, rfl, _⟩ := h; rfl) | (obtain ⟨_, _, _, _, _, _, _, _, rfl, _⟩ := h; rfl) | (obtain ⟨_, _, _, _, _, _, _, _, _, rfl, _⟩ := h; rfl) | (obtain ⟨_, _, _, _, _, _, _, _, _, _, rfl, _⟩ := h; rfl) | (obtain ⟨_, _, _, _, _, _, _, _, _, _, _, rfl, _⟩ := h; rfl)
  have sc := sc_is_of_modulus
  obtain ⟨a, b, m, ps, ys, rfl, hA, hk, hB, q⟩ := h
  refine ⟨_, (pss_one (ps_ret (pe_and (pe_callB (call_isiX (K0 := K)) (by rfl) T.b_isinstance (by decide +kernel) (pa_cons (pv 0) (pa_cons (pe_bltn (v := .ty "tuple") (by rfl) T.b_tuple (by decide +kernel) rfl) pa_nil))) (pe_and (pe_cmpR op_eq (pe_callB (call_lenK (K0 := K)) (by rfl) T.b_len (by decide +kernel) (pa_cons (pv 0) pa_nil)) pe_int (nomark _)) (pe_and (C8.pe_c c_is_modulus hr (by decide) (by rfl) (pa_cons (pe_ix (ix_tupK (K0 := K)) (pv 0) pe_int (fun _ _ => rfl)) pa_nil)) (pe_one (pe_callB (call_isiX (K0 := K)) (by rfl) T.b_isinstance (by decide +kernel) (pa_cons (pe_ix (ix_tupK (K0 := K)) (pv 0) pe_int (fun _ _ => rfl)) (pa_cons (pe_bltn (v := .ty "tuple") (by rfl) T.b_tuple (by decide +kernel) rfl) pa_nil))))))))), ?_⟩
  refine ⟨_, rfl, _, _, _, _, _, rfl, .ty _, tyx_t hA, kit_ty (r := true) (by decide +kernel), _, rfl, iteT ?_⟩
  refine ⟨_, rfl, _, _, rfl, .inr hA, rfl, _, rfl, itd (fun _ => ?_) (fun h => absurd rfl h)⟩
  refine ⟨_, rfl, _, _, _, _, rfl, rfl, hA, at0, m, ps, rfl, hk, fun H1 e1 => ?_⟩
  refine ⟨_, rfl, iteT ?_⟩
  refine ⟨_, rfl, _, _, _, _, rfl, rfl, by walk_at "k76h", at1, _, _, _, _, _, rfl, .ty _, tyx_t (show SqT K H1 b ys by walk_at "k76h"), kit_ty (r := true) (by decide +kernel), ?_⟩
  exact q _ (by walk_at "k76e")
theorem cal_is_a_rule (T : Txt K mg) : C8.Cal P w K mg base 4 "is_a_rule" (sp_is_a_rule K) [] := by
  have c_are_pairs : C8.Cal P w K mg base 2 "are_pairs" (sp_are_pairs K) [] := cal_are_pairs T
  have c_is_of_modulus : C8.Cal P w K mg base 3 "is_of_modulus" (sp_is_of_modulus K) [] := cal_is_of_modulus T
  obtain ⟨f, fd, F, df⟩ := T.d_is_a_rule
  refine C8.cal0 F (F.fn.binds df fun _ _ _ _ _ _ us hl => ?bnd) .nil sc_is_a_rule (fun vs H Q E h => ?len) fun cdv A outer s H vs Q E hr h => ?_
  case bnd => obtain ⟨a0, rfl⟩ := ln1 hl; rfl
  case len => first | (obtain ⟨_, rfl, _⟩ := h; rfl) | (obtain ⟨_, _, rfl, _⟩ := h; rfl) | (obtain ⟨_, _, _, rfl, _⟩ := h; rfl) | (obtain ⟨_, _, _, _, rfl, _⟩ := h; rfl) | (obtain ⟨_, _, _, _, _, rfl, _⟩ := h; rfl) | (obtain ⟨_, _, _, _, _, _, rfl, _⟩ := h; rfl) | (obtain ⟨_, _, _, _, _, _, _, rfl, _⟩ := h; rfl) | (obtain ⟨_, _, _, _, _, _, _, _, rfl, _⟩ := h; rfl) | (obtain ⟨_, _, _, _, _, _, _, _, _, rfl, _⟩ := h; rfl) | (obtain ⟨_, _, _, _, _, _, _, _, _, _, rfl, _⟩ := h; rfl) | (obtain ⟨_, _, _, _, _, _, _, _, _, _, _, rfl, _⟩ := h; rfl)
  have sc := sc_is_a_rule
  obtain ⟨a, m, ps, ts, rfl, ⟨b, hA, hB⟩, hk, hT, q⟩ := h
  obtain ⟨xs, hx, hP⟩ := id hB
  refine ⟨_, (pss_one (ps_ret (pe_and (C8.pe_c c_is_of_modulus hr (by decide) (by rfl) (pa_cons (pv 0) pa_nil)) (pe_one (C8.pe_c c_are_pairs hr (by decide) (by rfl) (pa_cons (pe_ix (ix_tupK (K0 := K)) (pv 0) pe_int (fun _ _ => rfl)) (pa_cons (pe_ix (ix_tupK (K0 := K)) (pv 0) pe_int (fun _ _ => rfl)) pa_nil))))))), ?_⟩
  refine ⟨_, rfl, a, b, m, ps, xs, rfl, hA, hk, hx, fun H1 e1 => ?_⟩
  refine ⟨_, rfl, iteT ?_⟩
  refine ⟨_, rfl, _, _, _, _, rfl, rfl, by walk_at "k76h", at1, _, rfl, _, _, _, _, rfl, rfl, by walk_at "k76h", at0, b, m, ts, rfl, hB.up e1, hT, fun H2 e2 => ?_⟩
  exact q _ (by walk_at "k76e")
theorem cal_is_a_round (T : Txt K mg) : C8.Cal P w K mg base 4 "is_a_round" (sp_is_a_round K) [] := by
  have c_is_integer : C8.Cal P w K mg base 1 "is_integer" (sp_is_integer K) [] := cal_is_integer T
  have c_is_of_modulus : C8.Cal P w K mg base 3 "is_of_modulus" (sp_is_of_modulus K) [] := cal_is_of_modulus T
  obtain ⟨f, fd, F, df⟩ := T.d_is_a_round
  refine C8.cal0 F (F.fn.binds df fun _ _ _ _ _ _ us hl => ?bnd) .nil sc_is_a_round (fun vs H Q E h => ?len) fun cdv A outer s H vs Q E hr h => ?_
  case bnd => obtain ⟨a0, rfl⟩ := ln1 hl; rfl
  case len => first | (obtain ⟨_, rfl, _⟩ := h; rfl) | (obtain ⟨_, _, rfl, _⟩ := h; rfl) | (obtain ⟨_, _, _, rfl, _⟩ := h; rfl) | (obtain ⟨_, _, _, _, rfl, _⟩ := h; rfl) | (obtain ⟨_, _, _, _, _, rfl, _⟩ := h; rfl) | (obtain ⟨_, _, _, _, _, _, rfl, _⟩ := h; rfl) | (obtain ⟨_, _, _, _, _, _, _, rfl, _⟩ := h; rfl) | (obtain ⟨_, _, _, _, _, _, _, _, rfl, _⟩ := h; rfl) | (obtain ⟨_, _, _, _, _, _, _, _, _, rfl, _⟩ := h; rfl) | (obtain ⟨_, _, _, _, _, _, _, _, _, _, rfl, _⟩ := h; rfl) | (obtain ⟨_, _, _, _, _, _, _, _, _, _, _, rfl, _⟩ := h; rfl)
  have sc := sc_is_a_round
  obtain ⟨a, m, ps, ns, rfl, ⟨b, hA, hB⟩, hk, hR, hne, hz, q⟩ := h
  refine ⟨_, (pss_cons (ps_if (PW.pt (pw_or (pt_not (pt_val (C8.pe_c c_is_of_modulus hr (by decide) (by rfl) (pa_cons (pv 0) pa_nil)))) (pw_or1 (pt_cmpR op_eq (pe_callB (call_lenK (K0 := K)) (by rfl) T.b_len (by decide +kernel) (pa_cons (pe_ix (ix_tupK (K0 := K)) (pv 0) pe_int (fun _ _ => rfl)) pa_nil)) pe_int (nomark _))))) (pss_one (ps_ret pe_bl)) pss_nil)
      (pss_one (ps_ret (pe_callB (cr_all rfl) (by rfl) T.b_all (by decide +kernel) (pa_cons (pe_lc (own := [("part", 1)]) (g := (gName 1)) (tt := tYes) rfl sc.nd (pi_tup (pe_ix (ix_tupK (K0 := K)) (pv 0) pe_int (fun _ _ => rfl))) (blkOk_by (N := n_is_a_round) (sc := C8.fnScope s_is_a_round) (by decide +kernel)) (fun _ _ _ _ _ => (pg_name (i := 1) sc.nd rfl (Or.inl rfl))) (fun _ _ _ _ _ => pts_nil) (fun _ _ _ _ _ => (pe_and (C8.pe_c c_is_integer hr (by decide) (by rfl) (pa_cons (pv 1) pa_nil)) (pe_one (pe_chain op_le op_lt pe_int (pv 1) (pe_ix (ix_tupK (K0 := K)) (pv 0) pe_int (fun _ _ => rfl))))))) pa_nil))))), ?_⟩
  refine ⟨_, rfl, a, b, m, ps, _, rfl, hA, hk, hB, fun H1 e1 => ?_⟩
  refine ⟨_, rfl, iteF ?_⟩
  refine ⟨_, rfl, _, _, _, _, rfl, rfl, by walk_at "k76h", at1, _, _, rfl, .inr (show SqT K H1 b (ns.map V.int) by walk_at "k76h"), rfl, _, rfl, itd (fun h => ?_) (fun _ => ?_)⟩
  · have := V.int.inj h
    rw [lenm] at this
    exact absurd (List.length_eq_zero_iff.mp (by omega)) hne
  · refine ⟨_, rfl, _, _, _, _, rfl, rfl, by walk_at "k76h", at1, _, rfl, ⟨_, show SqT K H1 b (ns.map V.int) by walk_at "k76h"⟩, lc_bl (src_tup (show SqT K H1 b (ns.map V.int) by walk_at "k76h")) (by rw [List.length_map]; omega) (fun i => true) (fun i x H' Z hi e it z => ?_) (fun D H' hD e hl => ?_)⟩
    · obtain ⟨rfl, hi2⟩ := at_map it
      have hg := hR.get hi2
      refine ⟨rfl, _, rfl, _, rfl, fun H5 e5 => ?_⟩
      refine ⟨_, rfl, iteT ?_⟩
      refine ⟨_, rfl, _, _, rfl, rfl, _, rfl, itd (fun _ => ?_) (fun h => absurd hg.1 h)⟩
      refine ⟨_, rfl, _, _, _, _, rfl, rfl, by walk_at "k76h", at0, _, _, rfl, rfl, ?_⟩
      dsimp only
      rw [decide_eq_true hg.2]
      exact z _ (by walk_at "k76e")
    · refine ⟨_, _, rfl, li_sq hl, ?_⟩
      have e0 : (((List.range (ns.map V.int).length).map fun _ => true).all id) = true := by simp
      rw [e0]
      exact q _ (by walk_at "k76e")
theorem cal_need_rule (T : Txt K mg) : C8.Cal P w K mg base 5 "need_rule" (sp_need_rule K) [] := by
  have c_is_a_rule : C8.Cal P w K mg base 4 "is_a_rule" (sp_is_a_rule K) [] := cal_is_a_rule T
  obtain ⟨f, fd, F, df⟩ := T.d_need_rule
  refine C8.cal0 F (F.fn.binds df fun _ _ _ _ _ _ us hl => ?bnd) .nil sc_need_rule (fun vs H Q E h => ?len) fun cdv A outer s H vs Q E hr h => ?_
  case bnd => obtain ⟨a0, rfl⟩ := ln1 hl; rfl
  case len => first | (obtain ⟨_, rfl, _⟩ := h; rfl) | (obtain ⟨_, _, rfl, _⟩ := h; rfl) | (obtain ⟨_, _, _, rfl, _⟩ := h; rfl) | (obtain ⟨_, _, _, _, rfl, _⟩ := h; rfl) | (obtain ⟨_, _, _, _, _, rfl, _⟩ := h; rfl) | (obtain ⟨_, _, _, _, _, _, rfl, _⟩ := h; rfl) | (obtain ⟨_, _, _, _, _, _, _, rfl, _⟩ := h; rfl) | (obtain ⟨_, _, _, _, _, _, _, _, rfl, _⟩ := h; rfl) | (obtain ⟨_, _, _, _, _, _, _, _, _, rfl, _⟩ := h; rfl) | (obtain ⟨_, _, _, _, _, _, _, _, _, _, rfl, _⟩ := h; rfl) | (obtain ⟨_, _, _, _, _, _, _, _, _, _, _, rfl, _⟩ := h; rfl)
  have sc := sc_need_rule
  obtain ⟨a, m, ps, ts, rfl, hA, hk, hT, q⟩ := h
  refine ⟨_, (pss_one (ps_if (pt_not (pt_val (C8.pe_c c_is_a_rule hr (by decide) (by rfl) (pa_cons (pv 0) pa_nil)))) (pss_one ps_never) pss_nil)), ?_⟩
  refine ⟨_, rfl, a, m, ps, ts, rfl, hA, hk, hT, fun H1 e1 => ?_⟩
  exact ⟨_, rfl, iteF (q _ (by walk_at "k76e"))⟩
theorem cal_need_round (T : Txt K mg) : C8.Cal P w K mg base 5 "need_round" (sp_need_round K) [] := by
  have c_is_a_round : C8.Cal P w K mg base 4 "is_a_round" (sp_is_a_round K) [] := cal_is_a_round T
  obtain ⟨f, fd, F, df⟩ := T.d_need_round
  refine C8.cal0 F (F.fn.binds df fun _ _ _ _ _ _ us hl => ?bnd) .nil sc_need_round (fun vs H Q E h => ?len) fun cdv A outer s H vs Q E hr h => ?_
  case bnd => obtain ⟨a0, rfl⟩ := ln1 hl; rfl
  case len => first | (obtain ⟨_, rfl, _⟩ := h; rfl) | (obtain ⟨_, _, rfl, _⟩ := h; rfl) | (obtain ⟨_, _, _, rfl, _⟩ := h; rfl) | (obtain ⟨_, _, _, _, rfl, _⟩ := h; rfl) | (obtain ⟨_, _, _, _, _, rfl, _⟩ := h; rfl) | (obtain ⟨_, _, _, _, _, _, rfl, _⟩ := h; rfl) | (obtain ⟨_, _, _, _, _, _, _, rfl, _⟩ := h; rfl) | (obtain ⟨_, _, _, _, _, _, _, _, rfl, _⟩ := h; rfl) | (obtain ⟨_, _, _, _, _, _, _, _, _, rfl, _⟩ := h; rfl) | (obtain ⟨_, _, _, _, _, _, _, _, _, _, rfl, _⟩ := h; rfl) | (obtain ⟨_, _, _, _, _, _, _, _, _, _, _, rfl, _⟩ := h; rfl)
  have sc := sc_need_round
  obtain ⟨a, m, ps, ns, rfl, hA, hk, hR, hne, hz, q⟩ := h
  refine ⟨_, (pss_one (ps_if (pt_not (pt_val (C8.pe_c c_is_a_round hr (by decide) (by rfl) (pa_cons (pv 0) pa_nil)))) (pss_one ps_never) pss_nil)), ?_⟩
  refine ⟨_, rfl, a, m, ps, ns, rfl, hA, hk, hR, hne, hz, fun H1 e1 => ?_⟩
  exact ⟨_, rfl, iteF (q _ (by walk_at "k76e"))⟩
theorem cal_need_both (T : Txt K mg) : C8.Cal P w K mg base 6 "need_both" (sp_need_both K) [] := by
  have c_need_round : C8.Cal P w K mg base 5 "need_round" (sp_need_round K) [] := cal_need_round T
  have c_need_rule : C8.Cal P w K mg base 5 "need_rule" (sp_need_rule K) [] := cal_need_rule T
  have c_need_same : C8.Cal P w K mg base 1 "need_same" (sp_need_same K) [] := cal_need_same T
  obtain ⟨f, fd, F, df⟩ := T.d_need_both
  refine C8.cal0 F (F.fn.binds df fun _ _ _ _ _ _ us hl => ?bnd) .nil sc_need_both (fun vs H Q E h => ?len) fun cdv A outer s H vs Q E hr h => ?_
  case bnd => obtain ⟨a0, a1, rfl⟩ := ln2 hl; rfl
  case len => first | (obtain ⟨_, rfl, _⟩ := h; rfl) | (obtain ⟨_, _, rfl, _⟩ := h; rfl) | (obtain ⟨_, _, _, rfl, _⟩ := h; rfl) | (obtain ⟨_, _, _, _, rfl, _⟩ := h; rfl) | (obtain ⟨_, _, _, _, _, rfl, _⟩ := h; rfl) | (obtain ⟨_, _, _, _, _, _, rfl, _⟩ := h; rfl) | (obtain ⟨_, _, _, _, _, _, _, rfl, _⟩ := h; rfl) | (obtain ⟨_, _, _, _, _, _, _, _, rfl, _⟩ := h; rfl) | (obtain ⟨_, _, _, _, _, _, _, _, _, rfl, _⟩ := h; rfl) | (obtain ⟨_, _, _, _, _, _, _, _, _, _, rfl, _⟩ := h; rfl) | (obtain ⟨_, _, _, _, _, _, _, _, _, _, _, rfl, _⟩ := h; rfl)
  have sc := sc_need_both
  obtain ⟨a, b, m, ps, ns, ts, rfl, hA, hB, hk, hT, hR, hne, hz, q⟩ := h
  refine ⟨_, (pss_cons (ps_expr (C8.pe_c c_need_rule hr (by decide) (by rfl) (pa_cons (pv 0) pa_nil)))
      (pss_cons (ps_expr (C8.pe_c c_need_round hr (by decide) (by rfl) (pa_cons (pv 1) pa_nil)))
      (pss_one (ps_expr (C8.pe_c c_need_same hr (by decide) (by rfl) (pa_cons (pv 0) (pa_cons (pv 1) pa_nil))))))), ?_⟩
  refine ⟨_, rfl, a, m, ps, ts, rfl, hA, hk, hT, fun H1 e1 => ?_⟩
  refine ⟨_, rfl, b, m, ps, ns, rfl, hB.up e1, hk, hR, hne, hz, fun H2 e2 => ?_⟩
  obtain ⟨a2, hA1, _⟩ := hA
  obtain ⟨b2, hB1, _⟩ := hB
  refine ⟨_, rfl, _, rfl, a, b, m, _, _, rfl, by walk_at "k76h", by walk_at "k76h", fun H3 e3 => ?_⟩
  exact q _ (by walk_at "k76e")
end
end K76
namespace K76
open PySem PySem.Spec PyProof.Rows L2

open Lean.Grind in
section
variable {F : Type} [CommRing F]
theorem powc (a b M : Poly F) : ∀ n : Nat, ∃ k : Poly F, (a + b * M) ^ n = a ^ n + k * M
  | 0 => ⟨0, by rw [Semiring.pow_zero, Semiring.pow_zero]; grind⟩
  | n + 1 => by
    obtain ⟨k, e⟩ := powc a b M n
    refine ⟨a ^ n * b + k * a + k * b * M, ?_⟩
    rw [Semiring.pow_succ, e, Semiring.pow_succ]; grind
theorem sq_pow (s : Poly F) : ∀ m : Nat, (s * s) ^ m = s ^ (2 * m)
  | 0 => by rw [Nat.mul_zero, Semiring.pow_zero, Semiring.pow_zero]
  | m + 1 => by
    rw [Semiring.pow_succ, sq_pow s m, show 2 * (m + 1) = 2 * m + 1 + 1 by omega, Semiring.pow_succ, Semiring.pow_succ]; grind
theorem pw_odd {f s f' s' M q1 X : Poly F} {n : Nat} (hn : n % 2 = 1) (h1 : f * s = q1 * M + f') (h2 : n / 2 = 0 ∨ ∃ q2, s * s = q2 * M + s') (h : ∃ k, f * s ^ n = X + k * M) : ∃ k, f' * s' ^ (n / 2) = X + k * M := by
  obtain ⟨k, e⟩ := h
  have en : n = 2 * (n / 2) + 1 := by omega
  generalize n / 2 = m at *
  subst en
  rw [Semiring.pow_succ, ← sq_pow] at e
  rcases h2 with z | ⟨q2, z⟩
  · subst z
    rw [Semiring.pow_zero] at e ⊢
    exact ⟨k - q1, by grind⟩
  · obtain ⟨j, ej⟩ := powc (s * s) (-q2) M m
    have e2 : s' = s * s + -q2 * M := by grind
    rw [e2, ej]
    generalize (s * s) ^ m = B at *
    exact ⟨k - q1 * B + f' * j, by grind⟩
theorem pw_even {f s s' M X : Poly F} {n : Nat} (hn : n % 2 ≠ 1) (h2 : n / 2 = 0 ∨ ∃ q2, s * s = q2 * M + s') (h : ∃ k, f * s ^ n = X + k * M) : ∃ k, f * s' ^ (n / 2) = X + k * M := by
  obtain ⟨k, e⟩ := h
  have en : n = 2 * (n / 2) := by omega
  generalize n / 2 = m at *
  subst en
  rw [← sq_pow] at e
  rcases h2 with z | ⟨q2, z⟩
  · subst z
    rw [Semiring.pow_zero] at e ⊢
    exact ⟨k, by grind⟩
  · obtain ⟨j, ej⟩ := powc (s * s) (-q2) M m
    have e2 : s' = s * s + -q2 * M := by grind
    rw [e2, ej]
    generalize (s * s) ^ m = B at *
    exact ⟨k + f * j, by grind⟩
theorem PL_addZ (l m : List Int) : PL F (addZ l m) = PL F l + PL F m := by
  unfold addZ
  rw [PL_add, PL_zeros, PL_zeros]
  rw [List.length_append, List.length_append, List.length_replicate, List.length_replicate]; omega
theorem PL_X : PL F [0, 1] = (Xp : Poly F) := by
  unfold PL Xp
  rw [List.map_cons, List.map_cons, ci_zero, ci_one]; rfl
end
open Lean.Grind in
section
variable {F : Type} [CommRing F] {p : Nat} [IsCharP F p]
theorem PLm (ns ms : List Int) : PL F (trim ((mulL ns ms).map (· % (p : Int)))) = PL F ns * PL F ms := by rw [PL_trim, PL_mod, PL_mulL]
theorem PLt (ns : List Int) : PL F (trim (ns.map (· % (p : Int)))) = PL F ns := by rw [PL_trim, PL_mod]
theorem PL_pm1 : PL F [(p : Int) - 1] = (-1 : Poly F) := by
  rw [PL_one, ci_sub, ci_one, ci_z.mpr (Int.emod_self)]
  have : (0 : F) - 1 = -1 := by grind
  rw [this, Cp_neg]; rfl
end
theorem canM {p : Int} (h : 0 < p) (l : List Int) : Can p (trim (l.map (· % p))) := can_trim (rg_mod h l)
theorem lenM (p : Int) (l : List Int) : (trim (l.map (· % p))).length ≤ l.length := by
  have := trim_len (l.map (· % p))
  rwa [List.length_map] at this
theorem rg_one {p : Int} (h : 2 ≤ p) : Rg p [1] := fun a ha => by
  rw [List.mem_singleton.mp ha]; omega
theorem can_one {p : Int} (h : 2 ≤ p) : Can p [1] := ⟨rg_one h, by simp⟩
def sp_common_of (K : PySem.W.Frag) : Sp := fun vs H Q _ => ∃ (a b : Addr) (ns ms : List Int) (p : Nat), vs = [.ref a, .ref b, .int p] ∧ LI H a ns ∧ LI H b ms ∧ Pr p ∧ Can p ns ∧ Can p ms ∧ ns ≠ [] ∧ ns.length ≤ 20000 ∧ ms.length ≤ 20000 ∧
  ∀ r g H', Ex H H' → LI H' r g → ComR p ns ms g → Q (.ref r) H'
def sp_power_within (K : PySem.W.Frag) : Sp := fun vs H Q _ => ∃ (a b : Addr) (ns ms : List Int) (n p : Nat), vs = [.ref a, .int n, .ref b, .int p] ∧ LI H a ns ∧ LI H b ms ∧ Pr p ∧ Rg p ns ∧ Can p ms ∧ ms ≠ [] ∧ ns.length ≤ 20000 ∧ ms.length ≤ 5000 ∧
  ∀ r rs H', Ex H H' → LI H' r rs → Can p rs → rs.length < ms.length → (∀ (F : Type) [Lean.Grind.CommRing F] [Lean.Grind.IsCharP F p], ∃ k, PL F rs = PL F ns ^ n + k * PL F ms) → Q (.ref r) H'
def sp_ring_common (K : PySem.W.Frag) : Sp := fun vs H Q _ => ∃ (a : Addr) (one : List Int) (N p : Nat), vs = [.ref a, .int N, .int p] ∧ LI H a one ∧ Pr p ∧ Can p one ∧ one ≠ [] ∧ one.length ≤ 5000 ∧
  ∀ r g H', Ex H H' → LI H' r g → GcdR p one N g → Q (.ref r) H'
def sp_inverse_within (K : PySem.W.Frag) : Sp := fun vs H Q _ => ∃ (a b : Addr) (ns ms : List Int) (p : Nat), vs = [.ref a, .ref b, .int p] ∧ LI H a ns ∧ LI H b ms ∧ Pr p ∧ Can p ns ∧ Can p ms ∧ 1 < ms.length ∧ ns.length ≤ 20000 ∧ ms.length ≤ 5000 ∧
  (∀ (F : Type) [Lean.Grind.CommRing F] [Fld F] [Lean.Grind.IsCharP F p], ∃ u v, u * PL F ns + v * PL F ms = 1) ∧
  ∀ r rs H', Ex H H' → LI H' r rs → Can p rs → rs.length ≤ 2 * ms.length + 1 → (∀ (F : Type) [Lean.Grind.CommRing F] [Lean.Grind.IsCharP F p], ∃ k, PL F rs * PL F ns = 1 + k * PL F ms) → Q (.ref r) H'
theorem one_nunit {p : Nat} (hp : Pr p) {l : List Int} (hc : Can p l) (h1 : 1 < l.length) (h : ∀ (F : Type) [Lean.Grind.CommRing F] [Fld F] [Lean.Grind.IsCharP F p], ∃ u v, u * PL F l + v * PL F [] = 1) : False := by
  obtain ⟨F, _, _, _, _, _⟩ := fpx p hp
  obtain ⟨u, v, e⟩ := h F
  rw [PL_nil] at e
  have hd := Can.deg (F := F) hc (fun z => by rw [z] at h1; exact absurd h1 (by decide))
  have e2 : u * PL F l = 1 := by grind
  have d : DegLt u (1 - (l.length - 1)) := deg_left hd.1 hd.2 (by rw [e2]; exact degLt_one)
  have d0 : DegLt u 0 := d.mono (by omega)
  rw [d0.eq_zero] at e2
  have : co (1 : Poly F) 0 = 0 := by rw [← e2, Lean.Grind.Semiring.zero_mul, co_zero]
  have h2 : co (1 : Poly F) 0 = 1 := co_C0 1
  exact Fld.one_ne (h2.symm.trans this)
section
variable {P : Program} {w : World} {K : PySem.W.Frag} {mg : Str → Option Value} {base : Heap}
theorem cal_common_of (T : Txt K mg) : C8.Cal P w K mg base 4 "common_of" (sp_common_of K) [] := by
  have c_monic : C8.Cal P w K mg base 3 "monic" (sp_monic K) [] := cal_monic T
  have c_split : C8.Cal P w K mg base 3 "split" (sp_split K) [] := cal_split T
  obtain ⟨f, fd, F, df⟩ := T.d_common_of
  refine C8.cal0 F (F.fn.binds df fun _ _ _ _ _ _ us hl => ?bnd) .nil sc_common_of (fun vs H Q E h => ?len) fun cdv A outer s H vs Q E hr h => ?_
  case bnd => obtain ⟨a0, a1, a2, rfl⟩ := ln3 hl; rfl
  case len => first | (obtain ⟨_, rfl, _⟩ := h; rfl) | (obtain ⟨_, _, rfl, _⟩ := h; rfl) | (obtain ⟨_, _, _, rfl, _⟩ := h; rfl) | (obtain ⟨_, _, _, _, rfl, _⟩ := h; rfl) | (obtain ⟨_, _, _, _, _, rfl, _⟩ := h; rfl) | (obtain ⟨_, _, _, _, _, _, rfl, _⟩ := h; rfl) | (obtain ⟨_, _, _, _, _, _, _, rfl, _⟩ := h; rfl) | (obtain ⟨_, _, _, _, _, _, _, _, rfl, _⟩ := h; rfl) | (obtain ⟨_, _, _, _, _, _, _, _, _, rfl, _⟩ := h; rfl) | (obtain ⟨_, _, _, _, _, _, _, _, _, _, rfl, _⟩ := h; rfl) | (obtain ⟨_, _, _, _, _, _, _, _, _, _, _, rfl, _⟩ := h; rfl)
  have sc := sc_common_of
  obtain ⟨a, b, ns, ms, p, rfl, hA, hB, hp, hc1, hc2, hne, hz1, hz2, q⟩ := h
  have hpb := hp.b
  refine ⟨_, (pss_cons (ps_par (i := 3) (j := 4) (by rfl) sc.nd rfl rfl (by decide) rfl rfl (pa_cons (pv 0) (pa_cons (pv 1) pa_nil)) (by rfl))
      (pss_cons (ps_while PassesOwn.never (pt_cmpR op_gt (pe_callB (call_lenK (K0 := K)) (by rfl) T.b_len (by decide +kernel) (pa_cons (pv 4) pa_nil)) pe_int (nomark _)) (pss_one (ps_par (i := 3) (j := 4) (by rfl) sc.nd rfl rfl (by decide) rfl rfl (pa_cons (pv 4) (pa_cons (pe_ix (ix_tupK (K0 := K)) (C8.pe_c c_split hr (by decide) (by rfl) (pa_cons (pv 3) (pa_cons (pv 4) (pa_cons (pv 2) pa_nil)))) pe_int (fun _ _ => rfl)) pa_nil)) (by rfl))))
      (pss_cons (ps_if (pt_cmpR op_eq (pe_callB (call_lenK (K0 := K)) (by rfl) T.b_len (by decide +kernel) (pa_cons (pv 3) pa_nil)) pe_int (nomark _)) (pss_one (ps_ret (pe_lst pa_nil))) pss_nil)
      (pss_one (ps_ret (C8.pe_c c_monic hr (by decide) (by rfl) (pa_cons (pv 3) (pa_cons (pv 2) pa_nil)))))))), ?_⟩
  refine ⟨_, rfl, _, rfl, _, _, rfl, ?_⟩
  refine while_m (fun n σ H' => Ex H H' ∧ ∃ x y l r, σ = [some (.ref a), some (.ref b), some (.int p), some (.ref x), some (.ref y)] ∧ LI H' x l ∧ LI H' y r ∧ Can p l ∧ Can p r ∧ l ≠ [] ∧ r.length = n ∧ l.length ≤ 20000 ∧ r.length ≤ 20000 ∧
    ∀ (F : Type) [Lean.Grind.CommRing F] [Lean.Grind.IsCharP F p], (∃ u v, PL F l = u * PL F ns + v * PL F ms) ∧ (∃ u v, PL F r = u * PL F ns + v * PL F ms) ∧ ∀ d, Dv d (PL F l) → Dv d (PL F r) → Dv d (PL F ns) ∧ Dv d (PL F ms)) ms.length ?_ (fun n σ H' hW => ?_)
  · exact ⟨by walk_at "k76e", a, b, ns, ms, rfl, hA, hB, hc1, hc2, hne, rfl, hz1, hz2, fun F _ _ => ⟨⟨1, 0, by grind⟩, ⟨0, 1, by grind⟩, fun d h1 h2 => ⟨h1, h2⟩⟩⟩
  · obtain ⟨e1, x, y, l, r, rfl, hl, hr2, hcl, hcr, hlne, rfl, hzl, hzr, hF⟩ := hW
    refine ⟨_, rfl, _, _, rfl, .inl (li_sq hr2), _, _, rfl, rfl, _, rfl, ?_⟩
    refine itd (fun h => ?_) (fun h => ?_)
    · rw [lenm] at h
      have hrne : r ≠ [] := fun z => by rw [z] at h; exact absurd h (by decide)
      refine ⟨_, fun _ _ z => z, ?_⟩
      refine ⟨_, rfl, _, rfl, _, rfl, _, rfl, x, y, l, r, p, rfl, hl, hr2, hp, hcl.1, hcr, hrne, hzl, hzr, fun t x1 y1 qs rs H1 e2 ht hx hy hS => ?_⟩
      refine ⟨_, _, _, _, rfl, rfl, ht, at1, _, _, rfl, ?_⟩
      have hlen := hS.len
      refine ⟨rs.length, hlen, by walk_at "k76e", y, y1, r, rs, rfl, by walk_at "k76h", hy, hcr, hS.r, hrne, rfl, hzr, by omega, fun F _ _ => ?_⟩
      obtain ⟨⟨u1, v1, z1⟩, ⟨u2, v2, z2⟩, z3⟩ := hF F
      have z4 := hS.eq F
      refine ⟨⟨u2, v2, z2⟩, ⟨u1 - PL F qs * u2, v1 - PL F qs * v2, by grind⟩, fun d ⟨k1, h1⟩ ⟨k2, h2⟩ => z3 d ⟨PL F qs * k1 + k2, by grind⟩ ⟨k1, h1⟩⟩
    · have e0 : r = [] := by
        rw [lenm] at h
        exact List.length_eq_zero_iff.mp (by omega)
      subst e0
      refine ⟨_, rfl, _, _, rfl, .inl (li_sq hl), rfl, _, rfl, ?_⟩
      refine itd (fun h => ?_) (fun h => ?_)
      · have h1 := V.int.inj h
        rw [lenm] at h1
        exact absurd (List.length_eq_zero_iff.mp (by omega)) hlne
      · refine ⟨_, rfl, _, rfl, x, l, p, rfl, hl, hp, hlne, by omega, fun r1 H2 e2 hr1 => ?_⟩
        have hlast := hcl.last0 hlne
        have key : ∀ (F : Type) [Lean.Grind.CommRing F] [Lean.Grind.IsCharP F p], PL F (trim ((l.map (· * inv (l.getD (l.length - 1) 0) p)).map (· % (p : Int)))) = Cp (ci F (inv (l.getD (l.length - 1) 0) p)) * PL F l ∧ PL F l = Cp (ci F (l.getD (l.length - 1) 0)) * (Cp (ci F (inv (l.getD (l.length - 1) 0) p)) * PL F l) := fun F _ _ => by
          rw [PL_trim, PL_mod, PL_scale]
          refine ⟨rfl, ?_⟩
          have := ci_inv (F := F) (p := p) (by unfold Pr at hp; omega) hlast.1 hlast.2
          have e3 : Cp (ci F (l.getD (l.length - 1) 0)) * Cp (ci F (inv (l.getD (l.length - 1) 0) p)) = (1 : Poly F) := by
            rw [← Cp_mul, Lean.Grind.CommSemiring.mul_comm]
            exact congrArg Cp this
          grind
        refine q r1 _ H2 (by walk_at "k76e") hr1 ⟨canM (by omega) _, ?_, fun F _ _ => ?_⟩
        · intro z
          obtain ⟨F, _, _, _, _, _⟩ := fpx p hp
          have k := key F
          rw [z, PL_nil] at k
          have : PL F l = 0 := by rw [k.2, ← k.1]; grind
          exact hcl.ne hlne this
        · obtain ⟨⟨u1, v1, z1⟩, _, z3⟩ := hF F
          have k := key F
          rw [k.1]
          generalize hC : Cp (ci F (inv (l.getD (l.length - 1) 0) p)) = C at *
          generalize hD : Cp (ci F (l.getD (l.length - 1) 0)) = D at *
          refine ⟨⟨C * u1, C * v1, by rw [z1]; grind⟩, z3 _ ⟨D, k.2⟩ ⟨0, by rw [PL_nil]; grind⟩⟩
theorem cal_power_within (T : Txt K mg) : C8.Cal P w K mg base 4 "power_within" (sp_power_within K) [] := by
  have c_split : C8.Cal P w K mg base 3 "split" (sp_split K) [] := cal_split T
  have c_times : C8.Cal P w K mg base 3 "times" (sp_times K) [] := cal_times T
  obtain ⟨f, fd, F, df⟩ := T.d_power_within
  refine C8.cal0 F (F.fn.binds df fun _ _ _ _ _ _ us hl => ?bnd) .nil sc_power_within (fun vs H Q E h => ?len) fun cdv A outer s H vs Q E hr h => ?_
  case bnd => obtain ⟨a0, a1, a2, a3, rfl⟩ := ln4 hl; rfl
  case len => first | (obtain ⟨_, rfl, _⟩ := h; rfl) | (obtain ⟨_, _, rfl, _⟩ := h; rfl) | (obtain ⟨_, _, _, rfl, _⟩ := h; rfl) | (obtain ⟨_, _, _, _, rfl, _⟩ := h; rfl) | (obtain ⟨_, _, _, _, _, rfl, _⟩ := h; rfl) | (obtain ⟨_, _, _, _, _, _, rfl, _⟩ := h; rfl) | (obtain ⟨_, _, _, _, _, _, _, rfl, _⟩ := h; rfl) | (obtain ⟨_, _, _, _, _, _, _, _, rfl, _⟩ := h; rfl) | (obtain ⟨_, _, _, _, _, _, _, _, _, rfl, _⟩ := h; rfl) | (obtain ⟨_, _, _, _, _, _, _, _, _, _, rfl, _⟩ := h; rfl) | (obtain ⟨_, _, _, _, _, _, _, _, _, _, _, rfl, _⟩ := h; rfl)
  have sc := sc_power_within
  obtain ⟨a, b, ns, ms, n0, p, rfl, hA, hB, hp, hr1, hc2, hne, hz1, hz2, q⟩ := h
  have hpb := hp.b
  refine ⟨_, (pss_cons (ps_par3 (i := 4) (j := 5) (l := 6) (by rfl) sc.nd rfl rfl rfl (by decide) (by decide) (by decide) rfl rfl rfl (pa_cons (pe_ix (ix_tupK (K0 := K)) (C8.pe_c c_split hr (by decide) (by rfl) (pa_cons (pe_lst (pa_cons pe_int pa_nil)) (pa_cons (pv 2) (pa_cons (pv 3) pa_nil)))) pe_int (fun _ _ => rfl)) (pa_cons (pe_ix (ix_tupK (K0 := K)) (C8.pe_c c_split hr (by decide) (by rfl) (pa_cons (pv 0) (pa_cons (pv 2) (pa_cons (pv 3) pa_nil)))) pe_int (fun _ _ => rfl)) (pa_cons (pv 1) pa_nil))) (by rfl))
      (pss_cons (ps_while PassesOwn.never (pt_cmpR op_gt (pv 6) pe_int (nomark _)) (pss_cons (ps_if (pt_cmpR op_eq (pe_op op_mod (pv 6) pe_int) pe_int (nomark _)) (pss_one (ps_set (i := 4) sc.nd rfl (Or.inl rfl) (pe_ix (ix_tupK (K0 := K)) (C8.pe_c c_split hr (by decide) (by rfl) (pa_cons (C8.pe_c c_times hr (by decide) (by rfl) (pa_cons (pv 4) (pa_cons (pv 5) (pa_cons (pv 3) pa_nil)))) (pa_cons (pv 2) (pa_cons (pv 3) pa_nil)))) pe_int (fun _ _ => rfl)))) pss_nil)
      (pss_cons (ps_set (i := 6) sc.nd rfl (Or.inl rfl) (pe_op op_fdiv (pv 6) pe_int))
      (pss_one (ps_if (pt_cmpR op_gt (pv 6) pe_int (nomark _)) (pss_one (ps_set (i := 5) sc.nd rfl (Or.inl rfl) (pe_ix (ix_tupK (K0 := K)) (C8.pe_c c_split hr (by decide) (by rfl) (pa_cons (C8.pe_c c_times hr (by decide) (by rfl) (pa_cons (pv 5) (pa_cons (pv 5) (pa_cons (pv 3) pa_nil)))) (pa_cons (pv 2) (pa_cons (pv 3) pa_nil)))) pe_int (fun _ _ => rfl)))) pss_nil)))))
      (pss_one (ps_ret (pv 4))))), ?_⟩
  refine ⟨sz1, fun a1 k1 => ?_⟩
  refine ⟨_, rfl, _, rfl, a1, b, [1], ms, p, rfl, upd_same, by walk_at "k76h", hp, rg_one (by omega), hc2, hne, by decide, by omega, fun t1 x1 y1 qs1 rs1 H1 e1 ht1 hx1 hy1 hS1 => ?_⟩
  refine ⟨_, _, _, _, rfl, rfl, ht1, at1, _, rfl, _, rfl, _, rfl, a, b, ns, ms, p, rfl, by walk_at "k76h", by walk_at "k76h", hp, hr1, hc2, hne, hz1, by omega, fun t2 x2 y2 qs2 rs2 H2 e2 ht2 hx2 hy2 hS2 => ?_⟩
  refine ⟨_, _, _, _, rfl, rfl, ht2, at1, _, rfl, _, _, _, rfl, ?_⟩
  have l1 := hS1.len
  have l2 := hS2.len
  refine while_m (fun n σ H' => Ex H H' ∧ ∃ x y f s, σ = [some (.ref a), some (.int n0), some (.ref b), some (.int p), some (.ref x), some (.ref y), some (.int n)] ∧ LI H' x f ∧ LI H' y s ∧ Can p f ∧ Can p s ∧ f.length < ms.length ∧ s.length < ms.length ∧
    ∀ (F : Type) [Lean.Grind.CommRing F] [Lean.Grind.IsCharP F p], ∃ k, PL F f * PL F s ^ n = PL F ns ^ n0 + k * PL F ms) n0 ?_ (fun n σ H' hW => ?_)
  · refine ⟨by walk_at "k76e", y1, y2, rs1, rs2, rfl, by walk_at "k76h", hy2, hS1.r, hS2.r, l1, l2, fun F _ _ => ?_⟩
    have z1 := hS1.eq F
    have z2 := hS2.eq F
    obtain ⟨j, ej⟩ := powc (PL F ns) (-PL F qs2) (PL F ms) n0
    have e3 : PL F rs2 = PL F ns + -PL F qs2 * PL F ms := by grind
    have e4 : PL F [1] = (1 : Poly F) := by rw [PL_one, ci_one]; rfl
    rw [e4] at z1
    rw [e3, ej]
    have e5 : PL F rs1 = 1 - PL F qs1 * PL F ms := by grind
    rw [e5]
    exact ⟨j - PL F qs1 * (PL F ns ^ n0 + j * PL F ms), by grind⟩
  · obtain ⟨e4, x, y, f, s, rfl, hf, hs, hcf, hcs, lf, ls, hF⟩ := hW
    refine ⟨_, rfl, _, _, rfl, rfl, _, rfl, ?_⟩
    refine itd (fun h => ?_) (fun h => ?_)
    · refine ⟨_, fun _ _ z => z, ?_⟩
      refine ⟨_, rfl, _, _, rfl, rfl, two0, rfl, _, rfl, ?_⟩
      -- the rest of the turn, whatever found is
      have tail : ∀ (x' : Addr) (f' : List Int) (H5 : Hp), Ex H' H5 → LI H5 x' f' → Can p f' → f'.length < ms.length → (∀ (F : Type) [Lean.Grind.CommRing F] [Lean.Grind.IsCharP F p], ∀ s' : Poly F, (n / 2 = 0 ∨ ∃ q2, PL F s * PL F s = q2 * PL F ms + s') → ∃ k, PL F f' * s' ^ (n / 2) = PL F ns ^ n0 + k * PL F ms) →
          ∀ (y' : Addr) (s' : List Int) (H6 : Hp), Ex H5 H6 → LI H6 y' s' → Can p s' → s'.length < ms.length → (n / 2 = 0 ∨ ∀ (F : Type) [Lean.Grind.CommRing F] [Lean.Grind.IsCharP F p], ∃ q2, PL F s * PL F s = q2 * PL F ms + PL F s') →
          ∃ m', m' < n ∧ Ex H H6 ∧ ∃ x y f s, [some (V.ref a), some (.int n0), some (.ref b), some (.int p), some (.ref x'), some (.ref y'), some (.int ((n : Int) / 2))] = [some (.ref a), some (.int n0), some (.ref b), some (.int p), some (.ref x), some (.ref y), some (.int (m' : Nat))] ∧ LI H6 x f ∧ LI H6 y s ∧ Can p f ∧ Can p s ∧ f.length < ms.length ∧ s.length < ms.length ∧
            ∀ (F : Type) [Lean.Grind.CommRing F] [Lean.Grind.IsCharP F p], ∃ k, PL F f * PL F s ^ m' = PL F ns ^ n0 + k * PL F ms := by
        intro x' f' H5 e5 h1 h2 h3 h4 y' s' H6 e6 h5 h6 h7 h8
        refine ⟨n / 2, by omega, by walk_at "k76e", x', y', f', s', rfl, by walk_at "k76h", h5, h2, h6, h3, h7, fun F _ _ => h4 F _ ?_⟩
        rcases h8 with z | z
        · exact .inl z
        · exact .inr (z F)
      have square : ∀ (x' : Addr) (f' : List Int) (H5 : Hp), Ex H' H5 → LI H5 x' f' → Can p f' → f'.length < ms.length → (∀ (F : Type) [Lean.Grind.CommRing F] [Lean.Grind.IsCharP F p], ∀ s' : Poly F, (n / 2 = 0 ∨ ∃ q2, PL F s * PL F s = q2 * PL F ms + s') → ∃ k, PL F f' * s' ^ (n / 2) = PL F ns ^ n0 + k * PL F ms) → True := fun _ _ _ _ _ _ _ _ => trivial
      have hls : s.length ≤ 5000 := by omega
      refine itd (fun h2 => ?_) (fun h2 => ?_)
      · have hn : n % 2 = 1 := by have := V.int.inj h2; omega
        refine ⟨_, rfl, _, rfl, _, rfl, x, y, f, s, p, rfl, hf, hs, hp, hcf.1, hcs.1, by omega, by omega, fun r1 H5 e5 hr5 => ?_⟩
        have hml := mulL_len f s
        have hml2 := lenM p (mulL f s)
        refine ⟨_, rfl, _, rfl, r1, b, _, ms, p, rfl, hr5, by walk_at "k76h", hp, (canM (by omega) _).1, hc2, hne, by omega, by omega, fun t3 x3 y3 qs3 rs3 H6 e6 ht3 hx3 hy3 hS3 => ?_⟩
        refine ⟨_, _, _, _, rfl, rfl, ht3, at1, ?_⟩
        refine ⟨_, rfl, _, _, rfl, rfl, ⟨by decide, by decide⟩, ?_⟩
        have l3 := hS3.len
        have hf' : ∀ (F : Type) [Lean.Grind.CommRing F] [Lean.Grind.IsCharP F p], ∀ s' : Poly F, (n / 2 = 0 ∨ ∃ q2, PL F s * PL F s = q2 * PL F ms + s') → ∃ k, PL F rs3 * s' ^ (n / 2) = PL F ns ^ n0 + k * PL F ms := fun F _ _ s' z => by
          have z3 := hS3.eq F
          rw [PLm] at z3
          exact pw_odd hn z3 z (hF F)
        refine ⟨_, rfl, _, _, rfl, rfl, _, rfl, ?_⟩
        refine itd (fun h3 => ?_) (fun h3 => ?_)
        · refine ⟨_, rfl, _, rfl, _, rfl, y, y, s, s, p, rfl, by walk_at "k76h", by walk_at "k76h", hp, hcs.1, hcs.1, by omega, by omega, fun r7 H7 e7 hr7 => ?_⟩
          have hml := mulL_len s s
          have hml2 := lenM p (mulL s s)
          refine ⟨_, rfl, _, rfl, r7, b, _, ms, p, rfl, hr7, by walk_at "k76h", hp, (canM (by omega) _).1, hc2, hne, by omega, by omega, fun t8 x8 y8 qs8 rs8 H8 e8 ht8 hx8 hy8 hS8 => ?_⟩
          refine ⟨_, _, _, _, rfl, rfl, ht8, at1, ?_⟩
          exact tail y3 rs3 H6 (by walk_at "k76e") hy3 hS3.r l3 hf' y8 rs8 H8 (by walk_at "k76e") hy8 hS8.r hS8.len (.inr fun F _ _ => ⟨PL F qs8, by have := hS8.eq F; rw [PLm] at this; exact this⟩)
        · exact tail y3 rs3 H6 (by walk_at "k76e") hy3 hS3.r l3 hf' y s H6 (by walk_at "k76e") (by walk_at "k76h") hcs ls (.inl (by omega))
      · have hn : n % 2 ≠ 1 := fun z => h2 (congrArg V.int (by omega))
        refine ⟨_, rfl, _, _, rfl, rfl, ⟨by decide, by decide⟩, ?_⟩
        have hf' : ∀ (F : Type) [Lean.Grind.CommRing F] [Lean.Grind.IsCharP F p], ∀ s' : Poly F, (n / 2 = 0 ∨ ∃ q2, PL F s * PL F s = q2 * PL F ms + s') → ∃ k, PL F f * s' ^ (n / 2) = PL F ns ^ n0 + k * PL F ms := fun F _ _ s' z => pw_even hn z (hF F)
        refine ⟨_, rfl, _, _, rfl, rfl, _, rfl, ?_⟩
        refine itd (fun h3 => ?_) (fun h3 => ?_)
        · refine ⟨_, rfl, _, rfl, _, rfl, y, y, s, s, p, rfl, by walk_at "k76h", by walk_at "k76h", hp, hcs.1, hcs.1, by omega, by omega, fun r7 H7 e7 hr7 => ?_⟩
          have hml := mulL_len s s
          have hml2 := lenM p (mulL s s)
          refine ⟨_, rfl, _, rfl, r7, b, _, ms, p, rfl, hr7, by walk_at "k76h", hp, (canM (by omega) _).1, hc2, hne, by omega, by omega, fun t8 x8 y8 qs8 rs8 H8 e8 ht8 hx8 hy8 hS8 => ?_⟩
          refine ⟨_, _, _, _, rfl, rfl, ht8, at1, ?_⟩
          exact tail x f H' (by walk_at "k76e") hf hcf lf hf' y8 rs8 H8 (by walk_at "k76e") hy8 hS8.r hS8.len (.inr fun F _ _ => ⟨PL F qs8, by have := hS8.eq F; rw [PLm] at this; exact this⟩)
        · exact tail x f H' (by walk_at "k76e") hf hcf lf hf' y s H' (by walk_at "k76e") hs hcs ls (.inl (by omega))
    · have e0 : n = 0 := by omega
      subst e0
      refine ⟨_, rfl, q x f H' (by walk_at "k76e") hf hcf lf fun F _ _ => ?_⟩
      obtain ⟨k, e5⟩ := hF F
      rw [Lean.Grind.Semiring.pow_zero] at e5
      exact ⟨k, by rw [← e5]; grind⟩
theorem cal_ring_common (T : Txt K mg) : C8.Cal P w K mg base 5 "ring_common" (sp_ring_common K) [] := by
  have c_added : C8.Cal P w K mg base 2 "added" (sp_added K) [] := cal_added T
  have c_common_of : C8.Cal P w K mg base 4 "common_of" (sp_common_of K) [] := cal_common_of T
  have c_power_within : C8.Cal P w K mg base 4 "power_within" (sp_power_within K) [] := cal_power_within T
  obtain ⟨f, fd, F, df⟩ := T.d_ring_common
  refine C8.cal0 F (F.fn.binds df fun _ _ _ _ _ _ us hl => ?bnd) .nil sc_ring_common (fun vs H Q E h => ?len) fun cdv A outer s H vs Q E hr h => ?_
  case bnd => obtain ⟨a0, a1, a2, rfl⟩ := ln3 hl; rfl
  case len => first | (obtain ⟨_, rfl, _⟩ := h; rfl) | (obtain ⟨_, _, rfl, _⟩ := h; rfl) | (obtain ⟨_, _, _, rfl, _⟩ := h; rfl) | (obtain ⟨_, _, _, _, rfl, _⟩ := h; rfl) | (obtain ⟨_, _, _, _, _, rfl, _⟩ := h; rfl) | (obtain ⟨_, _, _, _, _, _, rfl, _⟩ := h; rfl) | (obtain ⟨_, _, _, _, _, _, _, rfl, _⟩ := h; rfl) | (obtain ⟨_, _, _, _, _, _, _, _, rfl, _⟩ := h; rfl) | (obtain ⟨_, _, _, _, _, _, _, _, _, rfl, _⟩ := h; rfl) | (obtain ⟨_, _, _, _, _, _, _, _, _, _, rfl, _⟩ := h; rfl) | (obtain ⟨_, _, _, _, _, _, _, _, _, _, _, rfl, _⟩ := h; rfl)
  have sc := sc_ring_common
  obtain ⟨a, one, N, p, rfl, hA, hp, hc, hne, hz, q⟩ := h
  have hpb := hp.b
  refine ⟨_, (pss_one (ps_ret (C8.pe_c c_common_of hr (by decide) (by rfl) (pa_cons (pv 0) (pa_cons (C8.pe_c c_added hr (by decide) (by rfl) (pa_cons (C8.pe_c c_power_within hr (by decide) (by rfl) (pa_cons (pe_lst (pa_cons pe_int (pa_cons pe_int pa_nil))) (pa_cons (pv 1) (pa_cons (pv 0) (pa_cons (pv 2) pa_nil))))) (pa_cons (pe_lst (pa_cons (pe_op op_sub (pv 2) pe_int) pa_nil)) (pa_cons (pv 2) pa_nil)))) (pa_cons (pv 2) pa_nil)))))), ?_⟩
  refine ⟨_, rfl, sz2, fun a1 k1 => ?_⟩
  refine ⟨_, rfl, _, rfl, _, rfl, a1, a, [0, 1], one, N, p, rfl, upd_same, by walk_at "k76h", hp, ?_, hc, hne, by decide, hz, fun r1 rs1 H1 e1 h1 hc1 hl1 hF1 => ?_⟩
  · intro x hx
    rcases List.mem_cons.mp hx with z | z
    · omega
    · rw [List.mem_singleton.mp z]; omega
  refine ⟨_, rfl, _, _, rfl, rfl, sz1, fun a2 k2 => ?_⟩
  refine ⟨_, rfl, r1, a2, rs1, [(p : Int) - 1], p, rfl, by walk_at "k76h", upd_same, by omega, by omega, by show 1 ≤ 20000; decide, fun r2 H2 e2 h2 => ?_⟩
  have hl2 := lenM p (addZ rs1 [(p : Int) - 1])
  rw [addZ_len] at hl2
  have hl3 : ([(p : Int) - 1]).length = 1 := rfl
  refine ⟨_, rfl, a, r2, one, _, p, rfl, by walk_at "k76h", h2, hp, hc, canM (by omega) _, hne, by omega, by omega, fun r3 g H3 e3 h3 hC => ?_⟩
  refine q r3 g H3 (by walk_at "k76e") h3 (hC.gcd fun F _ _ => ?_)
  obtain ⟨k, e4⟩ := hF1 F
  refine ⟨k, ?_⟩
  rw [PLt, PL_addZ, PL_pm1, e4, PL_X]
  unfold An
  grind
theorem cal_inverse_within (T : Txt K mg) : C8.Cal P w K mg base 4 "inverse_within" (sp_inverse_within K) [] := by
  have c_added : C8.Cal P w K mg base 2 "added" (sp_added K) [] := cal_added T
  have c_inverse : C8.Cal P w K mg base 2 "inverse" (sp_inverse K) [] := cal_inverse T
  have c_scaled : C8.Cal P w K mg base 2 "scaled" (sp_scaled K) [] := cal_scaled T
  have c_split : C8.Cal P w K mg base 3 "split" (sp_split K) [] := cal_split T
  have c_times : C8.Cal P w K mg base 3 "times" (sp_times K) [] := cal_times T
  obtain ⟨f, fd, F, df⟩ := T.d_inverse_within
  refine C8.cal0 F (F.fn.binds df fun _ _ _ _ _ _ us hl => ?bnd) .nil sc_inverse_within (fun vs H Q E h => ?len) fun cdv A outer s H vs Q E hr h => ?_
  case bnd => obtain ⟨a0, a1, a2, rfl⟩ := ln3 hl; rfl
  case len => first | (obtain ⟨_, rfl, _⟩ := h; rfl) | (obtain ⟨_, _, rfl, _⟩ := h; rfl) | (obtain ⟨_, _, _, rfl, _⟩ := h; rfl) | (obtain ⟨_, _, _, _, rfl, _⟩ := h; rfl) | (obtain ⟨_, _, _, _, _, rfl, _⟩ := h; rfl) | (obtain ⟨_, _, _, _, _, _, rfl, _⟩ := h; rfl) | (obtain ⟨_, _, _, _, _, _, _, rfl, _⟩ := h; rfl) | (obtain ⟨_, _, _, _, _, _, _, _, rfl, _⟩ := h; rfl) | (obtain ⟨_, _, _, _, _, _, _, _, _, rfl, _⟩ := h; rfl) | (obtain ⟨_, _, _, _, _, _, _, _, _, _, rfl, _⟩ := h; rfl) | (obtain ⟨_, _, _, _, _, _, _, _, _, _, _, rfl, _⟩ := h; rfl)
  have sc := sc_inverse_within
  obtain ⟨a, b, ns, ms, p, rfl, hA, hB, hp, hc1, hc2, hm1, hz1, hz2, hco, q⟩ := h
  have hpb := hp.b
  have hne : ms ≠ [] := fun z => by rw [z] at hm1; exact absurd hm1 (by decide)
  refine ⟨_, (pss_cons (ps_par (i := 3) (j := 4) (by rfl) sc.nd rfl rfl (by decide) rfl rfl (pa_cons (pv 1) (pa_cons (pe_ix (ix_tupK (K0 := K)) (C8.pe_c c_split hr (by decide) (by rfl) (pa_cons (pv 0) (pa_cons (pv 1) (pa_cons (pv 2) pa_nil)))) pe_int (fun _ _ => rfl)) pa_nil)) (by rfl))
      (pss_cons (ps_par (i := 5) (j := 6) (by rfl) sc.nd rfl rfl (by decide) rfl rfl (pa_cons (pe_lst pa_nil) (pa_cons (pe_lst (pa_cons pe_int pa_nil)) pa_nil)) (by rfl))
      (pss_cons (ps_while PassesOwn.never (pt_cmpR op_gt (pe_callB (call_lenK (K0 := K)) (by rfl) T.b_len (by decide +kernel) (pa_cons (pv 4) pa_nil)) pe_int (nomark _)) (pss_cons (ps_asg (C8.pe_c c_split hr (by decide) (by rfl) (pa_cons (pv 3) (pa_cons (pv 4) (pa_cons (pv 2) pa_nil)))) (pg_tup rfl (pgs_cons (pg_name (i := 7) sc.nd rfl (Or.inl rfl)) (pgs_cons (pg_name (i := 8) sc.nd rfl (Or.inl rfl)) pgs_nil))))
      (pss_cons (ps_par (i := 5) (j := 6) (by rfl) sc.nd rfl rfl (by decide) rfl rfl (pa_cons (pv 6) (pa_cons (C8.pe_c c_added hr (by decide) (by rfl) (pa_cons (pv 5) (pa_cons (C8.pe_c c_scaled hr (by decide) (by rfl) (pa_cons (C8.pe_c c_times hr (by decide) (by rfl) (pa_cons (pv 7) (pa_cons (pv 6) (pa_cons (pv 2) pa_nil)))) (pa_cons (pe_un un_neg pe_int) (pa_cons (pv 2) pa_nil)))) (pa_cons (pv 2) pa_nil)))) pa_nil)) (by rfl))
      (pss_one (ps_par (i := 3) (j := 4) (by rfl) sc.nd rfl rfl (by decide) rfl rfl (pa_cons (pv 4) (pa_cons (pv 8) pa_nil)) (by rfl))))))
      (pss_one (ps_ret (C8.pe_c c_scaled hr (by decide) (by rfl) (pa_cons (pv 6) (pa_cons (C8.pe_c c_inverse hr (by decide) (by rfl) (pa_cons (pe_ix (ix_listK (K0 := K)) (pv 4) pe_int (fun _ _ => rfl)) (pa_cons (pv 2) pa_nil))) (pa_cons (pv 2) pa_nil))))))))), ?_⟩
  refine ⟨_, rfl, _, rfl, _, rfl, _, rfl, a, b, ns, ms, p, rfl, hA, hB, hp, hc1.1, hc2, hne, hz1, by omega, fun t1 x1 y1 qs1 rs1 H1 e1 ht1 hx1 hy1 hS1 => ?_⟩
  refine ⟨_, _, _, _, rfl, rfl, ht1, at1, _, _, rfl, ?_⟩
  refine ⟨sz0, fun a2 k2 => ?_⟩
  refine ⟨sz1, fun a3 k3 => ?_⟩
  refine ⟨_, _, rfl, ?_⟩
  refine while_m (fun n σ H' => Ex H H' ∧ ∃ x y fa sa l r fs ss y7 y8, σ = [some (.ref a), some (.ref b), some (.int p), some (.ref x), some (.ref y), some (.ref fa), some (.ref sa), y7, y8] ∧ LI H' x l ∧ LI H' y r ∧ LI H' fa fs ∧ LI H' sa ss ∧ Can p l ∧ Can p r ∧ Can p fs ∧ Can p ss ∧ 1 < l.length ∧ r.length = n ∧ r.length < l.length ∧
    fs.length + 2 * l.length ≤ 2 * ms.length + 1 ∧ ss.length + 2 * l.length ≤ 2 * ms.length + 1 ∧
    (∀ (F : Type) [Lean.Grind.CommRing F] [Lean.Grind.IsCharP F p], (∃ k, PL F fs * PL F ns = PL F l + k * PL F ms) ∧ ∃ k, PL F ss * PL F ns = PL F r + k * PL F ms) ∧
    ∀ (F : Type) [Lean.Grind.CommRing F] [Fld F] [Lean.Grind.IsCharP F p], ∃ u v, u * PL F l + v * PL F r = 1) rs1.length ?_ (fun n σ H' hW => ?_)
  · refine ⟨by walk_at "k76e", b, y1, a2, a3, ms, rs1, [], [1], none, none, rfl, by walk_at "k76h", by walk_at "k76h", by walk_at "k76h", upd_same, hc2, hS1.r, can_nil _, can_one (by omega), hm1, rfl, hS1.len, by show 0 + _ ≤ _; omega, by show 1 + _ ≤ _; omega, fun F _ _ => ⟨⟨-1, by rw [PL_nil]; grind⟩, ⟨PL F qs1, ?_⟩⟩, fun F _ _ _ => ?_⟩
    · have e4 : PL F [1] = (1 : Poly F) := by rw [PL_one, ci_one]; rfl
      have := hS1.eq F
      rw [e4]; grind
    · obtain ⟨u, v, e5⟩ := hco F
      have := hS1.eq F
      exact ⟨u * PL F qs1 + v, u, by rw [← e5, this]; grind⟩
  · obtain ⟨e4, x, y, fa, sa, l, r, fs, ss, y7, y8, rfl, hl, hr2, hf, hs, hcl, hcr, hcf, hcs, ll, rfl, lr, lf, ls, hF, hG⟩ := hW
    refine ⟨_, rfl, _, _, rfl, .inl (li_sq hr2), _, _, rfl, rfl, _, rfl, ?_⟩
    refine itd (fun h => ?_) (fun h => ?_)
    · rw [lenm] at h
      have hrne : r ≠ [] := fun z => by rw [z] at h; exact absurd h (by decide)
      refine ⟨_, fun _ _ z => z, ?_⟩
      refine ⟨_, rfl, _, rfl, _, rfl, x, y, l, r, p, rfl, hl, hr2, hp, hcl.1, hcr, hrne, by omega, by omega, fun t5 x5 y5 qs5 rs5 H5 e5 ht5 hx5 hy5 hS5 => ?_⟩
      refine ⟨_, _, rfl, ht5, rfl, _, _, rfl, _, _, rfl, rfl, ?_⟩
      have lq := hS5.qlen
      have l5 := hS5.len
      refine ⟨_, rfl, _, rfl, _, rfl, _, rfl, _, rfl, x5, sa, qs5, ss, p, rfl, by walk_at "k76h", by walk_at "k76h", hp, hS5.q.1, hcs.1, by omega, by omega, fun r6 H6 e6 h6 => ?_⟩
      have m1 := mulL_len qs5 ss
      have m2 := lenM p (mulL qs5 ss)
      refine ⟨_, rfl, _, rfl, r6, _, -1, p, rfl, h6, by omega, by omega, by omega, fun r7 H7 e7 h7 => ?_⟩
      have m3 := lenM p ((trim ((mulL qs5 ss).map (· % (p : Int)))).map (· * -1))
      rw [List.length_map] at m3
      refine ⟨_, rfl, fa, r7, fs, _, p, rfl, by walk_at "k76h", h7, by omega, by omega, by omega, fun r8 H8 e8 h8 => ?_⟩
      have m4 := lenM p (addZ fs (trim (((trim ((mulL qs5 ss).map (· % (p : Int)))).map (· * -1)).map (· % (p : Int)))))
      rw [addZ_len] at m4
      refine ⟨_, _, rfl, ?_⟩
      refine ⟨_, rfl, _, rfl, _, _, rfl, ?_⟩
      refine ⟨rs5.length, l5, by walk_at "k76e", y, y5, sa, r8, r, rs5, ss, _, _, _, rfl, by walk_at "k76h", by walk_at "k76h", by walk_at "k76h", h8, hcr, hS5.r, hcs, canM (by omega) _, by omega, rfl, l5, by omega, by omega, fun F _ _ => ?_, fun F _ _ _ => ?_⟩
      · obtain ⟨⟨k1, z1⟩, k2, z2⟩ := hF F
        have z5 := hS5.eq F
        refine ⟨⟨k2, z2⟩, k1 - PL F qs5 * k2, ?_⟩
        rw [PLt, PL_addZ, PLt, PL_scale, PLm]
        have : ci F (-1) = -1 := by rw [ci_neg, ci_one]
        rw [this, Cp_neg, Cp_one]; grind
      · obtain ⟨u, v, z⟩ := hG F
        have z5 := hS5.eq F
        exact ⟨u * PL F qs5 + v, u, by rw [← z, z5]; grind⟩
    · rw [lenm] at h
      match r, hr2, hcr, lr, hF, hG, h with
      | [], _, _, _, _, hG, _ => exact (one_nunit hp hcl ll hG).elim
      | [c], hr2, hcr, _, hF, _, _ =>
        have hlast := hcr.last0 (by simp)
        have hl0 : 0 < c ∧ c < p := hlast
        refine ⟨_, rfl, _, rfl, _, _, _, _, rfl, rfl, li_sq hr2, at0, _, rfl, c, p, rfl, hp, fun H5 e5 => ?_⟩
        have hi := inv_b (a := c) hp
        refine ⟨_, rfl, sa, ss, _, p, rfl, by walk_at "k76h", by omega, by omega, by omega, fun r6 H6 e6 h6 => ?_⟩
        have m3 := lenM p (ss.map (· * inv c p))
        rw [List.length_map] at m3
        refine q r6 _ H6 (by walk_at "k76e") h6 (canM (by omega) _) (by omega) fun F _ _ => ?_
        obtain ⟨_, k2, z2⟩ := hF F
        rw [PL_one] at z2
        have e7 := ci_inv (F := F) (p := p) (by unfold Pr at hp; omega) hl0.1 hl0.2
        refine ⟨Cp (ci F (inv c p)) * k2, ?_⟩
        rw [PLt, PL_scale]
        have e8 : Cp (ci F (inv c p)) * Cp (ci F c) = (1 : Poly F) := by
          rw [← Cp_mul]
          exact congrArg Cp e7
        grind
      | _ :: _ :: _, _, _, _, _, _, h => exact absurd (by simp; omega) h
end
end K76
namespace K76
open PySem PySem.Spec PyProof.Rows L2

theorem cf_mem {l : List (Int × Int)} (h : Asc l) {t : Int × Int} (ht : t ∈ l) : cf l t.1 = t.2 := by
  induction l with
  | nil => cases ht
  | cons u l ih =>
    obtain ⟨h1, h2⟩ := List.pairwise_cons.mp h
    show (if u.1 = t.1 then u.2 else cf l t.1) = t.2
    rcases List.mem_cons.mp ht with rfl | ht
    · rw [if_pos rfl]
    · have := h1 t ht
      rw [if_neg (by omega)]
      exact ih h2 ht
theorem cf_snoc {l : List (Int × Int)} {t : Int × Int} (h : ∀ u ∈ l, u.1 ≠ t.1) (o : Int) : cf (l ++ [t]) o = if o = t.1 then t.2 else cf l o := by
  induction l with
  | nil =>
    show (if t.1 = o then t.2 else 0) = _
    by_cases c : o = t.1
    · rw [if_pos c, if_pos c.symm]
    · rw [if_neg c, if_neg fun z => c z.symm]; rfl
  | cons u l ih =>
    have h1 := h u List.mem_cons_self
    show (if u.1 = o then u.2 else cf (l ++ [t]) o) = if o = t.1 then t.2 else (if u.1 = o then u.2 else cf l o)
    rw [ih fun v hv => h v (List.mem_cons_of_mem _ hv)]
    by_cases c : u.1 = o
    · rw [if_pos c, if_neg fun z => h1 (c.trans z), if_pos c]
    · rw [if_neg c, if_neg c]
theorem lft_mem {p : Int} (hp : 0 < p) {ts : List (Int × Int)} {t : Int × Int} (h : t ∈ lft p ts) : 0 < t.2 ∧ t.2 < p ∧ ∃ u ∈ ts, u.1 = t.1 := by
  unfold lft at h
  obtain ⟨h1, h2⟩ := List.mem_filter.mp h
  obtain ⟨u, hu, rfl⟩ := List.mem_map.mp h1
  have h0 : ¬ u.2 % p = 0 := by simpa using h2
  have := mod_lt' (a := u.2) hp
  exact ⟨by show 0 < u.2 % p; omega, this.2, u, hu, rfl⟩
theorem lft_snoc (p : Int) (l : List (Int × Int)) (t : Int × Int) : lft p (l ++ [t]) = if t.2 % p = 0 then lft p l else lft p l ++ [(t.1, t.2 % p)] := by
  unfold lft
  rw [List.map_append, List.filter_append]
  by_cases c : t.2 % p = 0
  · rw [if_pos c]
    simp [c]
  · rw [if_neg c]
    simp [c]
theorem take_snoc {ts : List (Int × Int)} {i : Nat} (h : i < ts.length) : ts.take (i + 1) = ts.take i ++ [((ts.getD i (0, 0)).1, (ts.getD i (0, 0)).2)] := by
  rw [List.take_succ, List.getElem?_eq_getElem h, List.getD_eq_getElem?_getD, List.getElem?_eq_getElem h]; rfl
def negT (ts : List (Int × Int)) : List (Int × Int) := ts.reverse.map fun t => (-t.1, t.2)
theorem mem_negT {ts : List (Int × Int)} {t : Int × Int} : t ∈ negT ts ↔ (-t.1, t.2) ∈ ts := by
  unfold negT
  constructor
  · intro h
    obtain ⟨u, hu, rfl⟩ := List.mem_map.mp h
    have := List.mem_reverse.mp hu
    simpa using this
  · intro h
    exact List.mem_map.mpr ⟨_, List.mem_reverse.mpr h, by simp⟩
theorem negT_asc {ts : List (Int × Int)} (h : Asc ts) : Asc (negT ts) := by
  unfold negT
  refine List.Pairwise.map (R := fun (a b : Int × Int) => b.1 < a.1) _ (fun a b hab => by show -a.1 < -b.1; omega) (List.pairwise_reverse.mpr h)
theorem lft_negT (p : Int) (ts : List (Int × Int)) : lft p (negT ts) = negT (lft p ts) := by
  unfold lft negT
  rw [List.map_map, ← List.filter_reverse, ← List.map_reverse]
  generalize ts.reverse = l
  induction l with
  | nil => rfl
  | cons t l ih =>
    simp only [List.map_cons, List.filter_cons, Function.comp] at ih ⊢
    by_cases c : t.2 % p = 0
    · simp only [c, decide_true, Bool.not_true, Bool.false_eq_true, if_false]; simpa using ih
    · simp only [c, decide_false, Bool.not_false, if_true, List.map_cons]; rw [ih]
theorem cf_negT {l : List (Int × Int)} (h : Asc l) (o : Int) : cf (negT l) o = cf l (-o) := by
  by_cases c : ∃ t ∈ l, t.1 = -o
  · obtain ⟨t, ht, e⟩ := c
    rw [← e, cf_mem h ht]
    have : (o, t.2) ∈ negT l := mem_negT.mpr (by show (-o, t.2) ∈ l; rw [← e]; exact ht)
    exact cf_mem (negT_asc h) this
  · have c' : ∀ t ∈ l, t.1 ≠ -o := fun t ht e => c ⟨t, ht, e⟩
    rw [cf_none c', cf_none fun t ht e => c' _ (mem_negT.mp ht) (by show -t.1 = -o; omega)]
/-- what is left, as a polynomial from its lowest offset on -/
structure PolR (p : Nat) (L : List (Int × Int)) (lo : Int) (fd : List Int) : Prop where
  rg : Rg p fd
  len : ∀ (c : Int) (w : Nat), (∀ t ∈ L, c ≤ t.1 ∧ t.1 < c + w) → fd.length ≤ w
  get : ∀ k : Nat, fd.getD k 0 = cf L (lo + k)
  low : ∀ t ∈ L, lo ≤ t.1
  ex : ∃ t ∈ L, t.1 = lo
  last : ∃ t ∈ L, t.1 = lo + fd.length - 1
  high : ∀ t ∈ L, t.1 ≤ lo + fd.length - 1
  asc : Asc L
  pos : ∀ t ∈ L, t.2 ≠ 0
  nz : 0 < fd.length
theorem PolR.can {p : Nat} {L : List (Int × Int)} {lo : Int} {fd : List Int} (h : PolR p L lo fd) : Can p fd := by
  refine ⟨h.rg, fun z => ?_⟩
  have hne : fd ≠ [] := fun z => by have := h.nz; rw [z] at this; exact absurd this (by decide)
  rw [last_getD hne] at z
  have e := h.get (fd.length - 1)
  obtain ⟨t, ht, e2⟩ := h.last
  have := h.nz
  rw [show lo + ((fd.length - 1 : Nat) : Int) = t.1 by omega, cf_mem h.asc ht, Option.some.inj z] at e
  exact h.pos t ht e.symm
theorem getD_rev (l : List Int) (k : Nat) (h : k < l.length) : l.reverse.getD k 0 = l.getD (l.length - 1 - k) 0 := by
  rw [List.getD_eq_getElem?_getD, List.getD_eq_getElem?_getD, List.getElem?_reverse h]
theorem PolR.rev {p : Nat} {ts : List (Int × Int)} {lo : Int} {fd : List Int} (ha : Asc ts) (h : PolR p (lft p ts) lo fd) : Rul p ts (lo + fd.length - 1) fd.reverse ∧ Can p fd.reverse ∧ fd.reverse ≠ [] := by
  have hn := h.nz
  refine ⟨⟨ha, h.high, fun k => ?_⟩, ⟨fun a ha => h.rg a (List.mem_reverse.mp ha), fun z => ?_⟩, fun z => ?_⟩
  · by_cases c : k < fd.length
    · rw [getD_rev _ _ c, h.get]; congr 1; omega
    · rw [List.getD_eq_getElem?_getD, List.getElem?_eq_none (by rw [List.length_reverse]; omega), cf_none fun t ht e => by have := h.low t ht; omega]; rfl
  · rw [List.getLast?_reverse] at z
    have e := h.get 0
    obtain ⟨t, ht, e2⟩ := h.ex
    rw [show lo + ((0 : Nat) : Int) = t.1 by omega, cf_mem h.asc ht, List.getD_eq_getElem?_getD, ← List.head?_eq_getElem?, z] at e
    exact h.pos t ht e.symm
  · rw [List.reverse_eq_nil_iff.mp z] at hn; exact absurd hn (by decide)
theorem PolR.turn {p : Nat} {ts : List (Int × Int)} {lo : Int} {fd : List Int} (ha : Asc ts) (h : PolR p (lft p (negT ts)) lo fd) : Rul p ts (-lo) fd := by
  refine ⟨ha, fun t ht => ?_, fun k => ?_⟩
  · have := h.low (-t.1, t.2) (by rw [lft_negT]; exact mem_negT.mpr (by simpa using ht))
    have e : (-t.1, t.2).1 = -t.1 := rfl
    omega
  · rw [h.get, lft_negT, cf_negT (ha.lft p)]; congr 1; omega
def sp_of_terms (K : PySem.W.Frag) : Sp := fun vs H Q _ => ∃ (a : Addr) (ts : List (Int × Int)) (p : Nat), vs = [.ref a, .int p] ∧ Trms K H a ts ∧ Pr p ∧ Asc ts ∧ ts.length ≤ 20 ∧ (∀ t ∈ ts, -5 ≤ t.1 ∧ t.1 ≤ 5) ∧ (lft p ts = [] → ∀ H', Ex H H' → Q .non H') ∧
  (lft p ts ≠ [] → ∀ t lo b fd H', Ex H H' → SqT K H' t [.int lo, .ref b] → LI H' b fd → PolR p (lft p ts) lo fd → Q (.ref t) H')
def sp_turned (K : PySem.W.Frag) : Sp := fun vs H Q _ => ∃ (a : Addr) (ts : List (Int × Int)) (p : Nat), vs = [.ref a, .int p] ∧ Trms K H a ts ∧ Pr p ∧ Asc ts ∧ ts.length ≤ 20 ∧ (∀ t ∈ ts, -5 ≤ t.1 ∧ t.1 ≤ 5) ∧ (lft p ts = [] → ∀ H', Ex H H' → Q .non H') ∧
  (lft p ts ≠ [] → ∀ t lo b fd H', Ex H H' → SqT K H' t [.int lo, .ref b] → LI H' b fd → PolR p (lft p (negT ts)) lo fd → Q (.ref t) H')
def sp_law_poly (K : PySem.W.Frag) : Sp := fun vs H Q _ => ∃ (a : Addr) (m : Int) (ts : List (Int × Int)) (p : Nat), vs = [.ref a, .int p] ∧ RuleV K H a m ts ∧ Pr p ∧ Asc ts ∧ ts.length ≤ 20 ∧ (∀ t ∈ ts, -5 ≤ t.1 ∧ t.1 ≤ 5) ∧
  ∀ b fd H', Ex H H' → LI H' b fd → ((lft p ts = [] ∧ fd = []) ∨ (lft p ts ≠ [] ∧ ∃ lo, PolR p (lft p ts) lo fd)) → Q (.ref b) H'
theorem fill0 (L : List (Int × Int)) (n : Nat) (lo : Int) (k : Nat) : (List.replicate n (0 : Int)).getD k 0 = cf (L.take 0) (lo + k) := by
  rw [List.take_zero, List.getD_eq_getElem?_getD, List.getElem?_replicate]
  split <;> rfl
theorem fill1 {L : List (Int × Int)} (h : Asc L) {lo : Int} {fd : List Int} {i : Nat} (hi : i < L.length) (hlo : lo ≤ (L.getD i (0, 0)).1) (hl : ((L.getD i (0, 0)).1 - lo).toNat < fd.length) (e : ∀ k : Nat, fd.getD k 0 = cf (L.take i) (lo + k)) (k : Nat) :
    (fd.set ((L.getD i (0, 0)).1 - lo).toNat (L.getD i (0, 0)).2).getD k 0 = cf (L.take (i + 1)) (lo + k) := by
  rw [take_snoc hi, cf_snoc, List.getD_eq_getElem?_getD, List.getElem?_set]
  · by_cases c : lo + k = (L.getD i (0, 0)).1
    · rw [if_pos (by omega), if_pos hl, if_pos c]; rfl
    · rw [if_neg (by omega), if_neg c, ← List.getD_eq_getElem?_getD, e]
  · intro u hu
    obtain ⟨j, hj, rfl⟩ := List.getElem_of_mem hu
    have hj' : j < i := by rw [List.length_take] at hj; omega
    have := h.at (i := j) (j := i) hj' hi
    rw [List.getD_eq_getElem?_getD, List.getElem?_eq_getElem (show j < L.length by omega)] at this
    rw [List.getElem_take]
    have e5 : ((some L[j]).getD (0, 0)).1 = (L[j]).1 := rfl
    show (L[j]).1 ≠ (L.getD i (0, 0)).1
    omega
theorem getD_of_mem {L : List (Int × Int)} {t : Int × Int} (h : t ∈ L) : ∃ i, i < L.length ∧ L.getD i (0, 0) = t := by
  obtain ⟨i, hi, e⟩ := List.getElem_of_mem h
  exact ⟨i, hi, by rw [List.getD_eq_getElem?_getD, List.getElem?_eq_getElem hi]; exact e⟩
theorem Asc.le {ts : List (Int × Int)} (h : Asc ts) {i j : Nat} (hij : i ≤ j) (hj : j < ts.length) : (ts.getD i (0, 0)).1 ≤ (ts.getD j (0, 0)).1 := by
  by_cases c : i = j
  · subst c; exact Int.le_refl _
  · exact Int.le_of_lt (h.at (by omega) hj)
theorem pol_done {p : Nat} (hp : 0 < (p : Int)) {ts : List (Int × Int)} (ha : Asc ts) (hne : lft p ts ≠ []) {fd : List Int} (hr : Rg p fd) (hl : fd.length = (((lft p ts).getD ((lft p ts).length - 1) (0, 0)).1 - ((lft p ts).getD 0 (0, 0)).1 + 1).toNat)
    (e : ∀ k : Nat, fd.getD k 0 = cf (lft p ts) (((lft p ts).getD 0 (0, 0)).1 + k)) : PolR p (lft p ts) ((lft p ts).getD 0 (0, 0)).1 fd := by
  have hL := List.length_pos_iff.mpr hne
  have ha' := ha.lft (p : Int)
  have hle := ha'.le (i := 0) (j := (lft p ts).length - 1) (by omega) (by omega)
  refine ⟨hr, fun c w h => ?_, e, fun t ht => ?_, ⟨_, mem_getD (i := 0) hL, rfl⟩, ⟨_, mem_getD (i := (lft p ts).length - 1) (by omega), by omega⟩, fun t ht => ?_, ha', fun t ht => ?_, by omega⟩
  · have h1 := h _ (mem_getD (i := 0) hL)
    have h2 := h _ (mem_getD (i := (lft p ts).length - 1) (by omega))
    omega
  · obtain ⟨i, hi, rfl⟩ := getD_of_mem ht
    exact ha'.le (by omega) hi
  · obtain ⟨i, hi, rfl⟩ := getD_of_mem ht
    have := ha'.le (i := i) (j := (lft p ts).length - 1) (by omega) (by omega)
    omega
  · have := (lft_mem hp ht).1
    omega
theorem lft_b {p : Nat} (hp : 0 < (p : Int)) {ts : List (Int × Int)} (h : ∀ t ∈ ts, -5 ≤ t.1 ∧ t.1 ≤ 5) {i : Nat} (hi : i < (lft p ts).length) : -5 ≤ ((lft p ts).getD i (0, 0)).1 ∧ ((lft p ts).getD i (0, 0)).1 ≤ 5 ∧ 0 ≤ ((lft p ts).getD i (0, 0)).2 ∧ ((lft p ts).getD i (0, 0)).2 < p := by
  obtain ⟨h1, h2, u, hu, e⟩ := lft_mem hp (mem_getD hi)
  have := h u hu
  omega
theorem lft_len (p : Int) (ts : List (Int × Int)) : (lft p ts).length ≤ ts.length := by
  unfold lft
  exact Nat.le_trans (List.length_filter_le _ _) (by rw [List.length_map]; exact Nat.le_refl _)
theorem lft_take {p : Int} {ts : List (Int × Int)} {i : Nat} (h : ts.length ≤ i) : lft p (ts.take i) = lft p ts := by rw [List.take_of_length_le h]
section
variable {P : Program} {w : World} {K : PySem.W.Frag} {mg : Str → Option Value} {base : Heap}
theorem cal_of_terms (T : Txt K mg) : C8.Cal P w K mg base 1 "of_terms" (sp_of_terms K) [] := by
  obtain ⟨f, fd, F, df⟩ := T.d_of_terms
  refine C8.cal0 F (F.fn.binds df fun _ _ _ _ _ _ us hl => ?bnd) .nil sc_of_terms (fun vs H Q E h => ?len) fun cdv A outer s H vs Q E hr h => ?_
  case bnd => obtain ⟨a0, a1, rfl⟩ := ln2 hl; rfl
  case len => first | (obtain ⟨_, rfl, _⟩ := h; rfl) | (obtain ⟨_, _, rfl, _⟩ := h; rfl) | (obtain ⟨_, _, _, rfl, _⟩ := h; rfl) | (obtain ⟨_, _, _, _, rfl, _⟩ := h; rfl) | (obtain ⟨_, _, _, _, _, rfl, _⟩ := h; rfl) | (obtain ⟨_, _, _, _, _, _, rfl, _⟩ := h; rfl) | (obtain ⟨_, _, _, _, _, _, _, rfl, _⟩ := h; rfl) | (obtain ⟨_, _, _, _, _, _, _, _, rfl, _⟩ := h; rfl) | (obtain ⟨_, _, _, _, _, _, _, _, _, rfl, _⟩ := h; rfl) | (obtain ⟨_, _, _, _, _, _, _, _, _, _, rfl, _⟩ := h; rfl) | (obtain ⟨_, _, _, _, _, _, _, _, _, _, _, rfl, _⟩ := h; rfl)
  have sc := sc_of_terms
  obtain ⟨a, ts, p, rfl, ⟨xs, hx, hP⟩, hp, ha, hz, ho, q1, q2⟩ := h
  have hpb := hp.b
  have hp0 : 0 < (p : Int) := by omega
  have hxl := hP.1
  refine ⟨_, (pss_cons (ps_setLc (i := 2) (own := [("offset", 3), ("factor", 4)]) (g := (gTup K 2 (gCons (gName 3) (gCons (gName 4) gNil)))) rfl sc.nd rfl rfl (sw_true rfl rfl rfl (by decide +kernel)) (pi_tup (pv 0)) (blkOk_by (N := n_of_terms) (sc := C8.fnScope s_of_terms) (by decide +kernel)) (fun _ _ _ _ _ => (pg_tupK (K0 := K) rfl (pgs_cons (pg_name (i := 3) sc.nd rfl (Or.inl rfl)) (pgs_cons (pg_name (i := 4) sc.nd rfl (Or.inl rfl)) pgs_nil)))) (fun _ _ _ _ _ => (pts_one (pt_cmpR op_ne (pe_op op_mod (pv 4) (pv 1)) pe_int (nomark _)))) (fun _ _ _ _ _ => (pe_tup (pa_cons (pv 3) (pa_cons (pe_op op_mod (pv 4) (pv 1)) pa_nil)))))
      (pss_cons (ps_if (pt_cmpR op_eq (pe_callB (call_lenK (K0 := K)) (by rfl) T.b_len (by decide +kernel) (pa_cons (pv 2) pa_nil)) pe_int (nomark _)) (pss_one (ps_ret pe_non)) pss_nil)
      (pss_cons (ps_set (i := 5) sc.nd rfl (Or.inl rfl) (pe_ix (ix_tupK (K0 := K)) (pe_ix (ix_listK (K0 := K)) (pv 2) pe_int (fun _ _ => rfl)) pe_int (fun _ _ => rfl)))
      (pss_cons (ps_set (i := 6) sc.nd rfl (Or.inl rfl) (pe_op op_rep (pe_lst (pa_cons pe_int pa_nil)) (pe_op op_add (pe_op op_sub (pe_ix (ix_tupK (K0 := K)) (pe_ix (ix_listK (K0 := K)) (pv 2) (pe_un un_neg pe_int) (fun _ _ => rfl)) pe_int (fun _ _ => rfl)) (pv 5)) pe_int)))
      (pss_cons (ps_for PassesOwn.never rfl (pi_list (pv 2)) (pg_tup rfl (pgs_cons (pg_name (i := 3) sc.nd rfl (Or.inl rfl)) (pgs_cons (pg_name (i := 4) sc.nd rfl (Or.inl rfl)) pgs_nil))) (pss_one (ps_asg (pv 4) (pg_sub (pv 6) (pe_op op_sub (pv 3) (pv 5)) set_list))))
      (pss_one (ps_ret (pe_tup (pa_cons (pv 5) (pa_cons (pv 6) pa_nil)))))))))), ?_⟩
  refine ⟨_, rfl, _, rfl, ⟨_, hx⟩, lc_src (src_tup hx) (by omega) (fun i acc H' => PrL K H' acc (lft p (ts.take i))) (fun _ => PrL.nil) (fun i acc H1 H2 h e => h.nl e) (fun i x acc H' Z Z' hi e hPd it z z' => ?_) (fun D H' acc hD e hl hPd => ?_)⟩
  · have hi' : i < ts.length := by omega
    obtain ⟨U, hU, hU2⟩ := hP.2 i hi'
    have ex : x = .ref U := Option.some.inj (it.symm.trans hU)
    subst ex
    have e5 := lft_snoc p (ts.take i) ((ts.getD i (0, 0)).1, (ts.getD i (0, 0)).2)
    rw [← take_snoc hi'] at e5
    refine ⟨_, _, rfl, show SqT K H' U _ by walk_at "k76h", rfl, _, _, rfl, _, _, rfl, rfl, rfl, _, rfl, _, rfl, _, _, rfl, rfl, hp0, rfl, _, rfl, ?_⟩
    refine itn (fun h => ?_) (fun h => ?_)
    · have h0 : ¬ (ts.getD i (0, 0)).2 % (p : Int) = 0 := fun z => h (congrArg V.int z)
      refine ⟨_, rfl, _, rfl, _, rfl, _, _, rfl, rfl, hp0, sz2, fun U2 hU3 => ?_⟩
      refine z _ _ (by walk_at "k76e") ?_
      show PrL K _ _ (lft p (ts.take (i + 1)))
      rw [e5, if_neg h0]
      exact (hPd.up (by walk_at "k76e")).snoc (Evl.st_of upd_same)
    · have h0 : (ts.getD i (0, 0)).2 % (p : Int) = 0 := V.int.inj h
      refine z' _ (by walk_at "k76e") ?_
      show PrL K _ _ (lft p (ts.take (i + 1)))
      rw [e5, if_pos h0]
      exact hPd
  · rw [lft_take (by omega)] at hPd
    have hll := lft_len p ts
    have hpl := hPd.1
    refine ⟨_, rfl, _, _, rfl, .inl (li_sq hl), rfl, _, rfl, ?_⟩
    refine itd (fun h => ?_) (fun h => ?_)
    · have h1 := V.int.inj h
      exact q1 (List.length_eq_zero_iff.mp (by omega)) _ (by walk_at "k76e")
    · have hL : 0 < (lft p ts).length := by
        refine Nat.pos_of_ne_zero fun z => h (congrArg V.int ?_)
        rw [hpl, z]; rfl
      have hne : lft p ts ≠ [] := List.length_pos_iff.mp hL
      obtain ⟨U0, hU0, hU0t⟩ := hPd.2 0 hL
      obtain ⟨U9, hU9, hU9t⟩ := hPd.2 ((lft p ts).length - 1) (by omega)
      have b0 := lft_b hp0 ho hL
      have b9 := lft_b hp0 ho (i := (lft p ts).length - 1) (by omega)
      have hle := (ha.lft (p : Int)).le (i := 0) (j := (lft p ts).length - 1) (by omega) (by omega)
      generalize hlo : ((lft p ts).getD 0 (0, 0)).1 = lo at *
      generalize hhi : ((lft p ts).getD ((lft p ts).length - 1) (0, 0)).1 = hi at *
      refine ⟨_, rfl, _, _, _, _, rfl, rfl, li_sq hl, atN (j := 0) rfl hU0, _, _, _, _, rfl, rfl, hU0t, at0, ?_⟩
      refine ⟨sz1, fun a1 k1 => ?_⟩
      refine ⟨_, rfl, _, rfl, _, _, _, _, rfl, rfl, li_sq (by walk_at "k76h"), atM (by rw [hpl]; exact hU9), _, _, _, _, rfl, rfl, by walk_at "k76h", at0, _, rfl, _, _, rfl, rfl, _, _, rfl, rfl, _, _, _, rfl, rfl, upd_same, by omega, by omega, Evl.sz_of (by show 1 * _ ≤ _; omega), fun a2 k2 => ?_⟩
      rw [rep_map _ (hi - lo + 1).toNat rfl] at *
      have n2 : H' a2 = none := fr_dn k2 (by walk_at "k76e")
      have hB : ∃ B, B = upd (upd H' a1 (.lst [V.int 0])) a2 (.lst ((List.replicate (hi - lo + 1).toNat 0).map V.int)) := ⟨_, rfl⟩
      obtain ⟨B, hB⟩ := hB
      rw [← hB]
      have eB : Ex H' B := by rw [hB]; walk_at "k76e"
      have lB : LI B a2 (List.replicate (hi - lo + 1).toNat 0) := by rw [hB]; exact upd_same
      clear hB
      refine ⟨_, rfl, _, rfl, ⟨_, li_sq (show B D = some (.lst acc) by walk_at "k76h")⟩, ?_⟩
      refine for_src (src_list (show H' D = some (.lst acc) from hl)) (fun i σ H4 => Ex H' H4 ∧ ∃ y3 y4 fd, σ = [some (.ref a), some (.int p), some (.ref D), y3, y4, some (.int lo), some (.ref a2)] ∧ LI H4 a2 fd ∧ Rg p fd ∧ fd.length = (hi - lo + 1).toNat ∧ ∀ k : Nat, fd.getD k 0 = cf ((lft p ts).take i) (lo + k)) ?_ (fun i σ H' hP => hP.1) (fun i x σ H2 H3 hi2 hW e3 hx3 => ?_) (fun σ H2 hW => ?_)
      · exact ⟨eB, none, none, _, rfl, lB, rg_zeros hp0 _, List.length_replicate, fill0 _ _ _⟩
      · obtain ⟨e1, y3, y4, fd, rfl, hf, hrf, hfl, hg⟩ := hW
        have hi3 : i < (lft p ts).length := by omega
        obtain ⟨U, hU, hU2⟩ := hPd.2 i hi3
        have ex : x = .ref U := Option.some.inj (hx3.symm.trans hU)
        subst ex
        have bi := lft_b hp0 ho hi3
        have c1 := (ha.lft (p : Int)).le (i := 0) (j := i) (by omega) hi3
        have c2 := (ha.lft (p : Int)).le (i := i) (j := (lft p ts).length - 1) (by omega) (by omega)
        rw [hlo] at c1
        rw [hhi] at c2
        have f1 := fill1 (ha.lft (p : Int)) hi3 c1 (by omega) hg
        have hf3 : LI H3 a2 fd := by walk_at "k76h"
        refine ⟨_, _, rfl, show SqT K H3 U _ from sqt_up hU2 (e1.trans e3), rfl, _, _, rfl, _, _, rfl, rfl, ?_⟩
        refine ⟨_, rfl, _, rfl, _, rfl, _, rfl, _, _, rfl, rfl, _, _, _, _, rfl, rfl, hf3, ixN_nn (j := (((lft p ts).getD i (0, 0)).1 - lo).toNat) (by omega) (by rw [List.length_map]; omega), ?_⟩
        rw [map_set_int]
        exact ⟨Evl.Ex.mut (by walk_at "k76e") n2, _, _, _, rfl, upd_same, hrf.set ⟨bi.2.2.1, bi.2.2.2⟩ _, by rw [List.length_set]; exact hfl, f1⟩
      · obtain ⟨e1, y3, y4, fd, rfl, hf, hrf, hfl, hg⟩ := hW
        rw [List.take_of_length_le (by omega)] at hg
        refine ⟨_, rfl, _, rfl, sz2, fun t kt => ?_⟩
        refine q2 hne t lo a2 fd _ (by walk_at "k76e") (Evl.st_of upd_same) (by walk_at "k76h") ?_
        have := pol_done hp0 ha hne hrf (by rw [hlo, hhi]; exact hfl) (by rw [hlo]; exact hg)
        rwa [hlo] at this
theorem cal_turned (T : Txt K mg) : C8.Cal P w K mg base 2 "turned" (sp_turned K) [] := by
  have c_of_terms : C8.Cal P w K mg base 1 "of_terms" (sp_of_terms K) [] := cal_of_terms T
  obtain ⟨f, fd, F, df⟩ := T.d_turned
  refine C8.cal0 F (F.fn.binds df fun _ _ _ _ _ _ us hl => ?bnd) .nil sc_turned (fun vs H Q E h => ?len) fun cdv A outer s H vs Q E hr h => ?_
  case bnd => obtain ⟨a0, a1, rfl⟩ := ln2 hl; rfl
  case len => first | (obtain ⟨_, rfl, _⟩ := h; rfl) | (obtain ⟨_, _, rfl, _⟩ := h; rfl) | (obtain ⟨_, _, _, rfl, _⟩ := h; rfl) | (obtain ⟨_, _, _, _, rfl, _⟩ := h; rfl) | (obtain ⟨_, _, _, _, _, rfl, _⟩ := h; rfl) | (obtain ⟨_, _, _, _, _, _, rfl, _⟩ := h; rfl) | (obtain ⟨_, _, _, _, _, _, _, rfl, _⟩ := h; rfl) | (obtain ⟨_, _, _, _, _, _, _, _, rfl, _⟩ := h; rfl) | (obtain ⟨_, _, _, _, _, _, _, _, _, rfl, _⟩ := h; rfl) | (obtain ⟨_, _, _, _, _, _, _, _, _, _, rfl, _⟩ := h; rfl) | (obtain ⟨_, _, _, _, _, _, _, _, _, _, _, rfl, _⟩ := h; rfl)
  have sc := sc_turned
  obtain ⟨a, ts, p, rfl, ⟨xs, hx, hP⟩, hp, ha, hz, ho, q1, q2⟩ := h
  have hpb := hp.b
  have hxl := hP.1
  refine ⟨_, (pss_one (ps_ret (C8.pe_c c_of_terms hr (by decide) (by rfl) (pa_cons (pe_callTy call_tuple_of (by rfl) T.b_tuple (by decide +kernel) (pa_cons (pe_lc (own := [("offset", 2), ("factor", 3)]) (g := (gTup K 2 (gCons (gName 2) (gCons (gName 3) gNil)))) (tt := tYes) rfl sc.nd (pi_tup (pe_revT (pv 0))) (blkOk_by (N := n_turned) (sc := C8.fnScope s_turned) (by decide +kernel)) (fun _ _ _ _ _ => (pg_tupK (K0 := K) rfl (pgs_cons (pg_name (i := 2) sc.nd rfl (Or.inl rfl)) (pgs_cons (pg_name (i := 3) sc.nd rfl (Or.inl rfl)) pgs_nil)))) (fun _ _ _ _ _ => pts_nil) (fun _ _ _ _ _ => (pe_tup (pa_cons (pe_un un_neg (pv 2)) (pa_cons (pv 3) pa_nil))))) pa_nil)) (pa_cons (pv 1) pa_nil))))), ?_⟩
  refine ⟨_, rfl, _, _, rfl, hx, fun a1 k1 => ?_⟩
  have hx1 : SqT K (upd H a1 (.tup xs.reverse)) a1 xs.reverse := Evl.st_of upd_same
  refine ⟨_, rfl, ⟨_, hx1⟩, lc_src (src_tup hx1) (by rw [List.length_reverse]; omega) (fun i acc H' => PrL K H' acc ((negT ts).take i)) (fun _ => PrL.nil) (fun i acc H1 H2 h e => h.nl e) (fun i x acc H' Z Z' hi e hPd it z z' => ?_) (fun D H' acc hD e hl hPd => ?_)⟩
  · rw [List.length_reverse] at hi
    have hi' : i < ts.length := by omega
    rw [List.getElem?_reverse hi] at it
    obtain ⟨U, hU, hU2⟩ := hP.2 (xs.length - 1 - i) (by omega)
    have ex : x = .ref U := Option.some.inj (it.symm.trans hU)
    subst ex
    refine ⟨_, _, rfl, show SqT K H' U _ from sqt_up hU2 ((Evl.Ex.new k1).trans e), rfl, _, _, rfl, _, _, rfl, rfl, rfl, ?_⟩
    refine ⟨_, rfl, _, rfl, _, rfl, sz2, fun U2 hU3 => ?_⟩
    refine z _ _ (by walk_at "k76e") ?_
    have hnl : (negT ts).length = ts.length := by unfold negT; rw [List.length_map, List.length_reverse]
    have e6 : (negT ts).getD i (0, 0) = (-(ts.getD (xs.length - 1 - i) (0, 0)).1, (ts.getD (xs.length - 1 - i) (0, 0)).2) := by
      unfold negT
      rw [List.getD_eq_getElem?_getD, List.getElem?_map, List.getElem?_reverse hi', hxl, List.getElem?_eq_getElem (by omega), List.getD_eq_getElem?_getD, List.getElem?_eq_getElem (by omega)]
      rfl
    show PrL K _ _ ((negT ts).take (i + 1))
    rw [take_snoc (by omega), e6]
    exact (hPd.up (by walk_at "k76e")).snoc (Evl.st_of upd_same)
  · have hnl : (negT ts).length = ts.length := by unfold negT; rw [List.length_map, List.length_reverse]
    rw [List.take_of_length_le (by rw [List.length_reverse]; omega)] at hPd
    refine ⟨_, _, rfl, .inl ⟨li_sq hl, fun a2 k2 => ?_⟩⟩
    refine ⟨_, rfl, a2, negT ts, p, rfl, ⟨_, Evl.st_of upd_same, hPd.up (by walk_at "k76e")⟩, hp, negT_asc ha, by omega, fun t ht => ?_, fun h0 H5 e5 => ?_, fun h0 t lo b fd H5 e5 ht hb hR => ?_⟩
    · have := ho _ (mem_negT.mp ht)
      have e7 : (-t.1, t.2).1 = -t.1 := rfl
      omega
    · refine q1 ?_ H5 (by walk_at "k76e")
      rw [lft_negT] at h0
      unfold negT at h0
      simpa using h0
    · refine q2 ?_ t lo b fd H5 (by walk_at "k76e") ht hb hR
      intro z
      rw [lft_negT, z] at h0
      exact h0 rfl
theorem cal_law_poly (T : Txt K mg) : C8.Cal P w K mg base 1 "_law_poly" (sp_law_poly K) [] := by
  obtain ⟨f, fd, F, df⟩ := T.d_law_poly
  refine C8.cal0 F (F.fn.binds df fun _ _ _ _ _ _ us hl => ?bnd) .nil sc_law_poly (fun vs H Q E h => ?len) fun cdv A outer s H vs Q E hr h => ?_
  case bnd => obtain ⟨a0, a1, rfl⟩ := ln2 hl; rfl
  case len => first | (obtain ⟨_, rfl, _⟩ := h; rfl) | (obtain ⟨_, _, rfl, _⟩ := h; rfl) | (obtain ⟨_, _, _, rfl, _⟩ := h; rfl) | (obtain ⟨_, _, _, _, rfl, _⟩ := h; rfl) | (obtain ⟨_, _, _, _, _, rfl, _⟩ := h; rfl) | (obtain ⟨_, _, _, _, _, _, rfl, _⟩ := h; rfl) | (obtain ⟨_, _, _, _, _, _, _, rfl, _⟩ := h; rfl) | (obtain ⟨_, _, _, _, _, _, _, _, rfl, _⟩ := h; rfl) | (obtain ⟨_, _, _, _, _, _, _, _, _, rfl, _⟩ := h; rfl) | (obtain ⟨_, _, _, _, _, _, _, _, _, _, rfl, _⟩ := h; rfl) | (obtain ⟨_, _, _, _, _, _, _, _, _, _, _, rfl, _⟩ := h; rfl)
  have sc := sc_law_poly
  obtain ⟨a, m, ts, p, rfl, ⟨ta, hA, xs, hx, hP⟩, hp, ha, hz, ho, q⟩ := h
  have hpb := hp.b
  have hp0 : 0 < (p : Int) := by omega
  have hxl := hP.1
  refine ⟨_, (pss_cons (ps_setLc (i := 2) (own := [("_law_offset", 3), ("_law_factor", 4)]) (g := (gTup K 2 (gCons (gName 3) (gCons (gName 4) gNil)))) rfl sc.nd rfl rfl (sw_true rfl rfl rfl (by decide +kernel)) (pi_tup (pe_ix (ix_tupK (K0 := K)) (pv 0) pe_int (fun _ _ => rfl))) (blkOk_by (N := n_law_poly) (sc := C8.fnScope s_law_poly) (by decide +kernel)) (fun _ _ _ _ _ => (pg_tupK (K0 := K) rfl (pgs_cons (pg_name (i := 3) sc.nd rfl (Or.inl rfl)) (pgs_cons (pg_name (i := 4) sc.nd rfl (Or.inl rfl)) pgs_nil)))) (fun _ _ _ _ _ => (pts_one (pt_cmpR op_gt (pe_op op_mod (pe_callTy call_int1 (by rfl) T.b_int (by decide +kernel) (pa_cons (pv 4) pa_nil)) (pv 1)) pe_int (nomark _)))) (fun _ _ _ _ _ => (pe_tup (pa_cons (pv 3) (pa_cons (pe_op op_mod (pe_callTy call_int1 (by rfl) T.b_int (by decide +kernel) (pa_cons (pv 4) pa_nil)) (pv 1)) pa_nil)))))
      (pss_cons (ps_if (pt_cmpR (op_eqD hr.units) (pv 2) (pe_lst pa_nil) (nomark _)) (pss_one (ps_ret (pe_lst pa_nil))) pss_nil)
      (pss_cons (ps_set (i := 5) sc.nd rfl (Or.inl rfl) (pe_op op_rep (pe_lst (pa_cons pe_int pa_nil)) (pe_op op_add (pe_op op_sub (pe_ix (ix_tupK (K0 := K)) (pe_ix (ix_listK (K0 := K)) (pv 2) (pe_un un_neg pe_int) (fun _ _ => rfl)) pe_int (fun _ _ => rfl)) (pe_ix (ix_tupK (K0 := K)) (pe_ix (ix_listK (K0 := K)) (pv 2) pe_int (fun _ _ => rfl)) pe_int (fun _ _ => rfl))) pe_int)))
      (pss_cons (ps_for PassesOwn.never rfl (pi_list (pv 2)) (pg_tup rfl (pgs_cons (pg_name (i := 3) sc.nd rfl (Or.inl rfl)) (pgs_cons (pg_name (i := 4) sc.nd rfl (Or.inl rfl)) pgs_nil))) (pss_one (ps_asg (pv 4) (pg_sub (pv 5) (pe_op op_sub (pv 3) (pe_ix (ix_tupK (K0 := K)) (pe_ix (ix_listK (K0 := K)) (pv 2) pe_int (fun _ _ => rfl)) pe_int (fun _ _ => rfl))) set_list))))
      (pss_one (ps_ret (pv 5))))))), ?_⟩
  refine ⟨_, rfl, _, _, _, _, rfl, rfl, hA, at1, _, rfl, ⟨_, hx⟩, lc_src (src_tup hx) (by omega) (fun i acc H' => PrL K H' acc (lft p (ts.take i))) (fun _ => PrL.nil) (fun i acc H1 H2 h e => h.nl e) (fun i x acc H' Z Z' hi e hPd it z z' => ?_) (fun D H' acc hD e hl hPd => ?_)⟩
  · have hi' : i < ts.length := by omega
    obtain ⟨U, hU, hU2⟩ := hP.2 i hi'
    have ex : x = .ref U := Option.some.inj (it.symm.trans hU)
    subst ex
    have e5 := lft_snoc p (ts.take i) ((ts.getD i (0, 0)).1, (ts.getD i (0, 0)).2)
    rw [← take_snoc hi'] at e5
    have hm := mod_lt' (a := (ts.getD i (0, 0)).2) hp0
    refine ⟨_, _, rfl, show SqT K H' U _ by walk_at "k76h", rfl, _, _, rfl, _, _, rfl, rfl, rfl, _, rfl, .inl ⟨_, rfl, _, rfl, _, _, rfl, rfl, hp0, _, _, rfl, rfl, _, rfl, ?_⟩⟩
    refine itd (fun h => ?_) (fun h => ?_)
    · have h0 : ¬ (ts.getD i (0, 0)).2 % (p : Int) = 0 := by omega
      refine ⟨_, rfl, _, rfl, .inl ⟨_, rfl, _, rfl, _, _, rfl, rfl, hp0, sz2, fun U2 hU3 => ?_⟩⟩
      refine z _ _ (by walk_at "k76e") ?_
      show PrL K _ _ (lft p (ts.take (i + 1)))
      rw [e5, if_neg h0]
      exact (hPd.up (by walk_at "k76e")).snoc (Evl.st_of upd_same)
    · have h0 : (ts.getD i (0, 0)).2 % (p : Int) = 0 := by omega
      refine z' _ (by walk_at "k76e") ?_
      show PrL K _ _ (lft p (ts.take (i + 1)))
      rw [e5, if_pos h0]
      exact hPd
  · rw [lft_take (by omega)] at hPd
    have hll := lft_len p ts
    have hpl := hPd.1
    refine ⟨_, rfl, sz0, fun a0 k0 => ?_⟩
    refine ⟨_, _, .lst (sql_up hl (Evl.Ex.new k0)) (dpa_prs _ _ (hPd.up (Evl.Ex.new k0))), dp_e upd_same, shp_p _, shp_e, _, rfl, ?_⟩
    rw [eqv_pe]
    refine itd (fun h => ?_) (fun hne => ?_)
    · refine ⟨sz0, fun a1 k1 => ?_⟩
      exact q a1 [] _ (by walk_at "k76e") upd_same (.inl ⟨h, rfl⟩)
    · have hL : 0 < (lft p ts).length := List.length_pos_iff.mpr hne
      obtain ⟨U0, hU0, hU0t⟩ := hPd.2 0 hL
      obtain ⟨U9, hU9, hU9t⟩ := hPd.2 ((lft p ts).length - 1) (by omega)
      have b0 := lft_b hp0 ho hL
      have b9 := lft_b hp0 ho (i := (lft p ts).length - 1) (by omega)
      have hle := (ha.lft (p : Int)).le (i := 0) (j := (lft p ts).length - 1) (by omega) (by omega)
      generalize hlo : ((lft p ts).getD 0 (0, 0)).1 = lo at *
      generalize hhi : ((lft p ts).getD ((lft p ts).length - 1) (0, 0)).1 = hi at *
      refine ⟨sz1, fun a1 k1 => ?_⟩
      refine ⟨_, rfl, _, rfl, _, _, _, _, rfl, rfl, li_sq (by walk_at "k76h"), atM (by rw [hpl]; exact hU9), _, _, _, _, rfl, rfl, by walk_at "k76h", at0, _, rfl, _, _, _, _, rfl, rfl, li_sq (by walk_at "k76h"), atN (j := 0) rfl hU0, _, _, _, _, rfl, rfl, by walk_at "k76h", at0, _, _, rfl, rfl, _, _, rfl, rfl, _, _, _, rfl, rfl, upd_same, by omega, by omega, Evl.sz_of (by show 1 * _ ≤ _; omega), fun a2 k2 => ?_⟩
      rw [rep_map _ (hi - lo + 1).toNat rfl] at *
      have n2 : H' a2 = none := fr_dn k2 (by walk_at "k76e")
      have hB : ∃ B, B = upd (upd (upd H' a0 (.lst [])) a1 (.lst [V.int 0])) a2 (.lst ((List.replicate (hi - lo + 1).toNat 0).map V.int)) := ⟨_, rfl⟩
      obtain ⟨B, hB⟩ := hB
      rw [← hB]
      have eB : Ex H' B := by rw [hB]; walk_at "k76e"
      have lB : LI B a2 (List.replicate (hi - lo + 1).toNat 0) := by rw [hB]; exact upd_same
      clear hB
      refine ⟨_, rfl, _, rfl, ⟨_, li_sq (show B D = some (.lst acc) by walk_at "k76h")⟩, ?_⟩
      refine for_src (src_list (show H' D = some (.lst acc) from hl)) (fun i σ H4 => Ex H' H4 ∧ ∃ y3 y4 fd, σ = [some (.ref a), some (.int p), some (.ref D), y3, y4, some (.ref a2)] ∧ LI H4 a2 fd ∧ Rg p fd ∧ fd.length = (hi - lo + 1).toNat ∧ ∀ k : Nat, fd.getD k 0 = cf ((lft p ts).take i) (lo + k)) ?_ (fun i σ H' hP => hP.1) (fun i x σ H2 H3 hi2 hW e3 hx3 => ?_) (fun σ H2 hW => ?_)
      · exact ⟨eB, none, none, _, rfl, lB, rg_zeros hp0 _, List.length_replicate, fill0 _ _ _⟩
      · obtain ⟨e1, y3, y4, fd, rfl, hf, hrf, hfl, hg⟩ := hW
        have hi3 : i < (lft p ts).length := by omega
        obtain ⟨U, hU, hU2⟩ := hPd.2 i hi3
        have ex : x = .ref U := Option.some.inj (hx3.symm.trans hU)
        subst ex
        have bi := lft_b hp0 ho hi3
        have c1 := (ha.lft (p : Int)).le (i := 0) (j := i) (by omega) hi3
        have c2 := (ha.lft (p : Int)).le (i := i) (j := (lft p ts).length - 1) (by omega) (by omega)
        rw [hlo] at c1
        rw [hhi] at c2
        have f1 := fill1 (ha.lft (p : Int)) hi3 c1 (by omega) hg
        have hf3 : LI H3 a2 fd := by walk_at "k76h"
        have e13 : Ex H' H3 := by walk_at "k76e"
        refine ⟨_, _, rfl, show SqT K H3 U _ from sqt_up hU2 e13, rfl, _, _, rfl, _, _, rfl, rfl, ?_⟩
        refine ⟨_, rfl, _, rfl, _, rfl, _, rfl, _, _, _, _, rfl, rfl, li_sq (own_up hl e13), atN (j := 0) rfl hU0, _, _, _, _, rfl, rfl, sqt_up hU0t e13, at0, _, _, rfl, rfl, _, _, _, _, rfl, rfl, hf3, ixN_nn (j := (((lft p ts).getD i (0, 0)).1 - lo).toNat) (by omega) (by rw [List.length_map]; omega), ?_⟩
        rw [map_set_int]
        exact ⟨Evl.Ex.mut (by walk_at "k76e") n2, _, _, _, rfl, upd_same, hrf.set ⟨bi.2.2.1, bi.2.2.2⟩ _, by rw [List.length_set]; exact hfl, f1⟩
      · obtain ⟨e1, y3, y4, fd, rfl, hf, hrf, hfl, hg⟩ := hW
        rw [List.take_of_length_le (by omega)] at hg
        refine ⟨_, rfl, q a2 fd _ (by walk_at "k76e") hf (.inr ⟨hne, lo, ?_⟩)⟩
        have := pol_done hp0 ha hne hrf (by rw [hlo, hhi]; exact hfl) (by rw [hlo]; exact hg)
        rwa [hlo] at this
end
end K76
namespace K76
open PySem PySem.Spec PyProof.Rows L2

open Lean.Grind in
theorem PL_ring {F : Type} [CommRing F] {p : Nat} [IsCharP F p] {N : Nat} (h : 0 < N) : PL F (((p : Int) - 1) :: (List.replicate (N - 1) 0 ++ [1])) = (An N : Poly F) := by
  have e1 : Cp (ci F ((p : Int) - 1)) = (-1 : Poly F) := by
    rw [← PL_one]; exact PL_pm1
  have e2 : PL F [1] = (1 : Poly F) := by rw [PL_one, ci_one]; rfl
  rw [PL_cons, PL_app, PL_rep, e1, e2, List.length_replicate]
  unfold An
  obtain ⟨n, rfl⟩ : ∃ n, N = n + 1 := ⟨N - 1, by omega⟩
  rw [Nat.add_sub_cancel, Semiring.pow_succ]
  generalize (Xp : Poly F) ^ n = Y
  grind
theorem rg_ring {p : Int} (hp : 2 ≤ p) (N : Nat) : Rg p ((p - 1) :: (List.replicate (N - 1) 0 ++ [1])) := fun a ha => by
  rcases List.mem_cons.mp ha with z | z
  · omega
  · rcases List.mem_append.mp z with z | z
    · rw [(List.mem_replicate.mp z).2]; omega
    · rw [List.mem_singleton.mp z]; omega
theorem len_ring (p : Int) {N : Nat} (h : 0 < N) : ((p - 1) :: (List.replicate (N - 1) 0 ++ [1])).length = N + 1 := by
  rw [List.length_cons, List.length_append, List.length_replicate]; show N - 1 + 1 + 1 = N + 1; omega
theorem GcdR.len {p : Nat} (hp : Pr p) {one g : List Int} {N : Nat} (h : GcdR p one N g) (hc : Can p one) (hne : one ≠ []) : g.length ≤ one.length := by
  obtain ⟨F, _, _, _, _, _⟩ := fpx p hp
  obtain ⟨_, ⟨k, e⟩, _⟩ := h.ex F
  have hd := Can.deg (F := F) h.can h.ne
  have d := deg_left hd.1 hd.2 (by rw [← e]; exact deg_PL one (Nat.le_refl _))
  refine Nat.le_of_not_lt fun z => ?_
  have d0 : DegLt k 0 := d.mono (by omega)
  rw [d0.eq_zero] at e
  exact hc.ne hne (by rw [e]; grind)
theorem SplitR.z {p : Nat} (hp : Pr p) {ns ms qs rs : List Int} (h : SplitR p ns ms qs rs) (hc : Can p ms) (hne : ms ≠ []) (hd : ∀ (F : Type) [Lean.Grind.CommRing F] [Fld F] [Lean.Grind.IsCharP F p], Dv (PL F ms) (PL F ns)) : rs = [] := by
  obtain ⟨F, _, _, _, _, _⟩ := fpx p hp
  exact h.rest.nil (F := F) hc hne (hd F)
theorem SplitR.mul {p : Nat} {ns ms qs : List Int} (h : SplitR p ns ms qs []) (F : Type) [Lean.Grind.CommRing F] [Lean.Grind.IsCharP F p] : PL F ns = PL F qs * PL F ms := by
  have := h.eq F
  rw [PL_nil] at this
  grind
theorem ahd_done {p : Nat} (hp : Pr p) {ts : List (Int × Int)} {hi : Int} {one g own whole goal goal2 row r4 cur mv W : List Int} {N : Nat} (R : Rul p ts hi one) (hN : 0 < N) (hlc : cur.length = N) (hlm : mv.length = N)
    (hm : ∀ i : Nat, i < N → mv.getD i 0 = cur.getD (((i : Int) - hi) % N).toNat 0) (hW : ∀ (F : Type) [Lean.Grind.CommRing F] [Lean.Grind.IsCharP F p], PL F W = PL F mv)
    (hS : SplitR p W g goal []) (hS1 : SplitR p one g own []) (hS2 : SplitR p (((p : Int) - 1) :: (List.replicate (N - 1) 0 ++ [1])) g whole []) (ho : own ≠ [])
    (hv : ∀ (F : Type) [Lean.Grind.CommRing F] [Lean.Grind.IsCharP F p], ∃ v, PL F goal2 = PL F goal + v * PL F whole) (hd : ∀ (F : Type) [Lean.Grind.CommRing F] [Fld F] [Lean.Grind.IsCharP F p], Dv (PL F own) (PL F goal2))
    (hdeg : ∀ (F : Type) [Lean.Grind.CommRing F] [Fld F] [Lean.Grind.IsCharP F p], DegLt (PL F goal2) (N + own.length - 1)) (hS4 : SplitR p goal2 own row r4) : Ahd p ts N cur (row ++ List.replicate (N - row.length) 0) ∧ row.length ≤ N := by
  have hpb := hp.b
  have hr4 := hS4.z hp hS1.q ho hd
  subst hr4
  obtain ⟨F, _, _, _, _, _⟩ := fpx p hp
  have hol := List.length_pos_iff.mpr ho
  have hdo := Can.deg (F := F) hS1.q ho
  have e5 := hS4.mul F
  have hrl : row.length ≤ N := by
    have d := deg_left hdo.1 hdo.2 (by rw [← e5]; exact hdeg F)
    exact hS4.q.len (F := F) (d.mono (by omega))
  obtain ⟨v, e4⟩ := hv F
  have e2 := hS2.mul F
  rw [PL_ring hN] at e2
  have e3 := hS.mul F
  rw [hW F] at e3
  exact ⟨row_ok (F := F) (by omega) R hN hlc hlm hm (hS1.mul F) e2 e3 e4 e5 hS4.q hrl, hrl⟩
theorem lft_nil {p : Int} {ts : List (Int × Int)} (h : lft p ts = []) (s : List Int) (i : Int) : stp ts s i % p = 0 := by
  unfold stp
  induction ts with
  | nil => exact Int.zero_emod p
  | cons t ts ih =>
    unfold lft at h ih
    rw [List.map_cons, List.filter_cons] at h
    split at h
    · cases h
    · rename_i c
      have c0 : t.2 % p = 0 := by simpa using c
      rw [List.map_cons, List.sum_cons, Int.add_emod, Int.mul_emod, c0, ih h]
      simp
def sp_ahead_of (K : PySem.W.Frag) : Sp := fun vs H Q _ => ∃ (a b : Addr) (ts : List (Int × Int)) (cur : List Int) (p : Nat), vs = [.ref a, .ref b, .int p] ∧ Trms K H a ts ∧ LI H b cur ∧ Pr p ∧ Asc ts ∧ ts.length ≤ 20 ∧ (∀ t ∈ ts, -5 ≤ t.1 ∧ t.1 ≤ 5) ∧ cur ≠ [] ∧ cur.length ≤ 5000 ∧
  ∀ t x f H', Ex H H' → SqT K H' t [x, .int f] → ((x = .non ∧ ¬ HasI p ts cur.length cur) ∨ ∃ r s, x = .ref r ∧ LI H' r s ∧ Ahd p ts cur.length cur s) → Q (.ref t) H'
theorem sig {N : L2.St → Hp → Prop} {σ σ' : L2.St} {H : Hp} (e : σ' = σ) (h : N σ' H) : N σ H := by
  subst e; exact h
section
variable {P : Program} {w : World} {K : PySem.W.Frag} {mg : Str → Option Value} {base : Heap}
theorem cal_ahead_of (T : Txt K mg) : C8.Cal P w K mg base 6 "ahead_of" (sp_ahead_of K) [] := by
  have c_added : C8.Cal P w K mg base 2 "added" (sp_added K) [] := cal_added T
  have c_inverse_within : C8.Cal P w K mg base 4 "inverse_within" (sp_inverse_within K) [] := cal_inverse_within T
  have c_moved : C8.Cal P w K mg base 1 "moved" (sp_moved K) [] := cal_moved T
  have c_ring_common : C8.Cal P w K mg base 5 "ring_common" (sp_ring_common K) [] := cal_ring_common T
  have c_ring_of : C8.Cal P w K mg base 1 "ring_of" (sp_ring_of K) [] := cal_ring_of T
  have c_scaled : C8.Cal P w K mg base 2 "scaled" (sp_scaled K) [] := cal_scaled T
  have c_split : C8.Cal P w K mg base 3 "split" (sp_split K) [] := cal_split T
  have c_times : C8.Cal P w K mg base 3 "times" (sp_times K) [] := cal_times T
  have c_trimmed : C8.Cal P w K mg base 1 "trimmed" (sp_trimmed K) [] := cal_trimmed T
  have c_turned : C8.Cal P w K mg base 2 "turned" (sp_turned K) [] := cal_turned T
  obtain ⟨f, fd, F, df⟩ := T.d_ahead_of
  refine C8.cal0 F (F.fn.binds df fun _ _ _ _ _ _ us hl => ?bnd) .nil sc_ahead_of (fun vs H Q E h => ?len) fun cdv A outer s H vs Q E hr h => ?_
  case bnd => obtain ⟨a0, a1, a2, rfl⟩ := ln3 hl; rfl
  case len => first | (obtain ⟨_, rfl, _⟩ := h; rfl) | (obtain ⟨_, _, rfl, _⟩ := h; rfl) | (obtain ⟨_, _, _, rfl, _⟩ := h; rfl) | (obtain ⟨_, _, _, _, rfl, _⟩ := h; rfl) | (obtain ⟨_, _, _, _, _, rfl, _⟩ := h; rfl) | (obtain ⟨_, _, _, _, _, _, rfl, _⟩ := h; rfl) | (obtain ⟨_, _, _, _, _, _, _, rfl, _⟩ := h; rfl) | (obtain ⟨_, _, _, _, _, _, _, _, rfl, _⟩ := h; rfl) | (obtain ⟨_, _, _, _, _, _, _, _, _, rfl, _⟩ := h; rfl) | (obtain ⟨_, _, _, _, _, _, _, _, _, _, rfl, _⟩ := h; rfl) | (obtain ⟨_, _, _, _, _, _, _, _, _, _, _, rfl, _⟩ := h; rfl)
  have sc := sc_ahead_of
  obtain ⟨a, b, ts, cur, p, rfl, hA, hB, hp, ha, hz, ho, hne, hzc, q⟩ := h
  have hpb := hp.b
  have hN := List.length_pos_iff.mpr hne
  refine ⟨_, (pss_cons (ps_par (i := 3) (j := 4) (by rfl) sc.nd rfl rfl (by decide) rfl rfl (pa_cons (pe_callB (call_lenK (K0 := K)) (by rfl) T.b_len (by decide +kernel) (pa_cons (pv 1) pa_nil)) (pa_cons (C8.pe_c c_turned hr (by decide) (by rfl) (pa_cons (pv 0) (pa_cons (pv 2) pa_nil))) pa_nil)) (by rfl))
      (pss_cons (ps_if (pt_cmpR op_isN (pv 4) pe_non (nomark _)) (pss_one (ps_ret (pe_tup (pa_cons (pe_ifExp (pt_cmpR (op_eqD hr.units) (C8.pe_c c_trimmed hr (by decide) (by rfl) (pa_cons (pv 1) (pa_cons (pv 2) pa_nil))) (pe_lst pa_nil) (nomark _)) (pe_op op_rep (pe_lst (pa_cons pe_int pa_nil)) (pv 3)) pe_non) (pa_cons (pv 3) pa_nil))))) pss_nil)
      (pss_cons (ps_asg (pv 4) (pg_tup rfl (pgs_cons (pg_name (i := 5) sc.nd rfl (Or.inl rfl)) (pgs_cons (pg_name (i := 6) sc.nd rfl (Or.inl rfl)) pgs_nil))))
      (pss_cons (ps_set (i := 7) sc.nd rfl (Or.inl rfl) (C8.pe_c c_ring_common hr (by decide) (by rfl) (pa_cons (pv 6) (pa_cons (pv 3) (pa_cons (pv 2) pa_nil)))))
      (pss_cons (ps_asg (C8.pe_c c_split hr (by decide) (by rfl) (pa_cons (C8.pe_c c_trimmed hr (by decide) (by rfl) (pa_cons (C8.pe_c c_moved hr (by decide) (by rfl) (pa_cons (pv 1) (pa_cons (pe_un un_neg (pv 5)) pa_nil))) (pa_cons (pv 2) pa_nil))) (pa_cons (pv 7) (pa_cons (pv 2) pa_nil)))) (pg_tup rfl (pgs_cons (pg_name (i := 8) sc.nd rfl (Or.inl rfl)) (pgs_cons (pg_name (i := 9) sc.nd rfl (Or.inl rfl)) pgs_nil))))
      (pss_cons (ps_if (pt_cmpR (op_neD hr.units) (pv 9) (pe_lst pa_nil) (nomark _)) (pss_one (ps_ret (pe_tup (pa_cons pe_non (pa_cons (pe_op op_sub (pe_callB (call_lenK (K0 := K)) (by rfl) T.b_len (by decide +kernel) (pa_cons (pv 7) pa_nil)) pe_int) pa_nil))))) pss_nil)
      (pss_cons (ps_par (i := 10) (j := 11) (by rfl) sc.nd rfl rfl (by decide) rfl rfl (pa_cons (pe_ix (ix_tupK (K0 := K)) (C8.pe_c c_split hr (by decide) (by rfl) (pa_cons (pv 6) (pa_cons (pv 7) (pa_cons (pv 2) pa_nil)))) pe_int (fun _ _ => rfl)) (pa_cons (pe_ix (ix_tupK (K0 := K)) (C8.pe_c c_split hr (by decide) (by rfl) (pa_cons (C8.pe_c c_ring_of hr (by decide) (by rfl) (pa_cons (pv 3) (pa_cons (pv 2) pa_nil))) (pa_cons (pv 7) (pa_cons (pv 2) pa_nil)))) pe_int (fun _ _ => rfl)) pa_nil)) (by rfl))
      (pss_cons (ps_if (pt_cmpR op_gt (pe_callB (call_lenK (K0 := K)) (by rfl) T.b_len (by decide +kernel) (pa_cons (pv 10) pa_nil)) pe_int (nomark _)) (pss_cons (ps_set (i := 12) sc.nd rfl (Or.inl rfl) (C8.pe_c c_times hr (by decide) (by rfl) (pa_cons (pv 8) (pa_cons (C8.pe_c c_inverse_within hr (by decide) (by rfl) (pa_cons (pv 11) (pa_cons (pv 10) (pa_cons (pv 2) pa_nil)))) (pa_cons (pv 2) pa_nil)))))
      (pss_cons (ps_set (i := 12) sc.nd rfl (Or.inl rfl) (C8.pe_c c_scaled hr (by decide) (by rfl) (pa_cons (pe_ix (ix_tupK (K0 := K)) (C8.pe_c c_split hr (by decide) (by rfl) (pa_cons (pv 12) (pa_cons (pv 10) (pa_cons (pv 2) pa_nil)))) pe_int (fun _ _ => rfl)) (pa_cons (pe_un un_neg pe_int) (pa_cons (pv 2) pa_nil)))))
      (pss_one (ps_set (i := 8) sc.nd rfl (Or.inl rfl) (C8.pe_c c_added hr (by decide) (by rfl) (pa_cons (pv 8) (pa_cons (C8.pe_c c_times hr (by decide) (by rfl) (pa_cons (pv 11) (pa_cons (pv 12) (pa_cons (pv 2) pa_nil)))) (pa_cons (pv 2) pa_nil)))))))) pss_nil)
      (pss_cons (ps_set (i := 13) sc.nd rfl (Or.inl rfl) (pe_ix (ix_tupK (K0 := K)) (C8.pe_c c_split hr (by decide) (by rfl) (pa_cons (pv 8) (pa_cons (pv 10) (pa_cons (pv 2) pa_nil)))) pe_int (fun _ _ => rfl)))
      (pss_one (ps_ret (pe_tup (pa_cons (pe_op op_cat (pv 13) (pe_op op_rep (pe_lst (pa_cons pe_int pa_nil)) (pe_op op_sub (pv 3) (pe_callB (call_lenK (K0 := K)) (by rfl) T.b_len (by decide +kernel) (pa_cons (pv 13) pa_nil))))) (pa_cons (pe_op op_sub (pe_callB (call_lenK (K0 := K)) (by rfl) T.b_len (by decide +kernel) (pa_cons (pv 7) pa_nil)) pe_int) pa_nil)))))))))))))), ?_⟩
  refine ⟨_, rfl, _, _, rfl, .inl (li_sq hB), _, rfl, _, rfl, a, ts, p, rfl, hA, hp, ha, hz, ho, fun h0 H1 e1 => ?_, fun h0 t lo b1 one H1 e1 ht hb hR => ?_⟩
  · refine ⟨_, _, rfl, ?_⟩
    refine ⟨_, rfl, rfl, _, rfl, itd (fun _ => ?_) (fun h => absurd rfl h)⟩
    refine ⟨_, rfl, _, rfl, b, cur, p, rfl, by walk_at "k76h", by omega, by omega, fun r H2 e2 hr => ?_⟩
    refine ⟨sz0, fun a1 k1 => ?_⟩
    refine ⟨_, _, dp_l (li_sq (own_new k1 hr)), dp_e upd_same, shp_l _, shp_e, _, rfl, ?_⟩
    rw [eqv_e]
    refine itd (fun h => ?_) (fun h => ?_)
    · refine ⟨sz1, fun a2 k2 => ?_⟩
      refine ⟨_, rfl, _, _, _, rfl, rfl, upd_same, by omega, by rw [lenm]; omega, Evl.sz_of (by rw [lenm]; show 1 * _ ≤ _; omega), fun a3 k3 => ?_⟩
      rw [rep_map _ cur.length (by rw [lenm]; omega)] at *
      refine ⟨_, rfl, sz2, fun t kt => ?_⟩
      refine q t _ _ _ (by walk_at "k76e") (Evl.st_of upd_same) (.inr ⟨a3, List.replicate cur.length 0, rfl, by walk_at "k76h", List.length_replicate, rg_zeros (by omega) _, fun i hi => ?_⟩)
      rw [lft_nil h0, Nat.mod_eq_of_lt hi]
      have := trim_getD (cur.map (· % (p : Int))) i
      rw [h, getD_mapmod] at this
      rw [← this]; rfl
    · refine ⟨_, rfl, sz2, fun t kt => ?_⟩
      refine q t _ _ _ (by walk_at "k76e") (Evl.st_of upd_same) (.inl ⟨rfl, fun ⟨s, hs⟩ => h ?_⟩)
      have : trim (cur.map (· % (p : Int))) = trim ([] : List Int) := trim_ext fun k => by
        rw [getD_mapmod]
        by_cases c : k < cur.length
        · have := hs.stp k c
          rw [lft_nil h0, Nat.mod_eq_of_lt c] at this
          rw [← this]; rfl
        · rw [List.getD_eq_getElem?_getD, List.getElem?_eq_none (by omega)]; simp
      rw [this, trim_nil]
  · refine ⟨_, _, rfl, ?_⟩
    refine ⟨_, rfl, rfl, _, rfl, itd (fun h => by cases h) (fun _ => ?_)⟩
    refine ⟨_, rfl, _, _, rfl, ht, rfl, _, _, rfl, _, _, rfl, rfl, ?_⟩
    refine sig (σ' := [some (.ref a), some (.ref b), some (.int p), some (.int ((cur.map V.int).length : Int)), some (.ref t), some (.int lo), some (.ref b1), none, none, none, none, none, none, none]) rfl ?_
    have R := hR.turn ha
    have hc1 := hR.can
    have h1l := hR.nz
    have h1ne : one ≠ [] := List.length_pos_iff.mp h1l
    have h1z : one.length ≤ 11 := hR.len (-5) 11 fun t ht => by
      rw [lft_negT] at ht
      obtain ⟨_, _, u, hu, e⟩ := lft_mem (by omega) (mem_negT.mp ht)
      have := ho u hu
      have e7 : (-t.1, t.2).1 = -t.1 := rfl
      omega
    refine ⟨_, rfl, _, rfl, _, rfl, b1, one, cur.length, p, by rw [lenm]; rfl, hb, hp, hc1, h1ne, by omega, fun r2 g H2 e2 hg hG => ?_⟩
    have hgl := List.length_pos_iff.mpr hG.ne
    have hgz := hG.len hp hc1 h1ne
    refine ⟨_, rfl, _, rfl, _, rfl, b, cur, - lo, rfl, by walk_at "k76h", hne, by omega, fun r3 H3 e3 h3 => ?_⟩
    obtain ⟨mv, hmv⟩ : ∃ mv, mv = (List.range cur.length).map fun (i : Nat) => cur.getD (((i : Int) - - lo) % cur.length).toNat 0 := ⟨_, rfl⟩
    rw [← hmv] at h3
    have hlm : mv.length = cur.length := by rw [hmv, List.length_map, List.length_range]
    have hm : ∀ i : Nat, i < cur.length → mv.getD i 0 = cur.getD (((i : Int) - - lo) % cur.length).toNat 0 := fun i hi => by
      rw [hmv, List.getD_eq_getElem?_getD, List.getElem?_map, List.getElem?_range hi]; rfl
    clear hmv
    refine ⟨_, rfl, r3, mv, p, rfl, h3, by omega, by omega, fun r4 H4 e4 h4 => ?_⟩
    have hWl := lenM p mv
    have hW : ∀ (F : Type) [Lean.Grind.CommRing F] [Lean.Grind.IsCharP F p], PL F (trim (mv.map (· % (p : Int)))) = PL F mv := fun F _ _ => PLt mv
    have hWc : Can p (trim (mv.map (· % (p : Int)))) := canM (by omega) mv
    generalize trim (mv.map (· % (p : Int))) = W at *
    refine ⟨_, rfl, _, rfl, r4, r2, W, g, p, rfl, h4, by walk_at "k76h", hp, hWc.1, hG.can, hG.ne, by omega, by omega, fun t5 x5 y5 goal rest H5 e5 ht5 hx5 hy5 hS => ?_⟩
    refine ⟨_, _, rfl, ht5, rfl, _, _, rfl, _, _, rfl, rfl, ?_⟩
    refine sig (σ' := [some (.ref a), some (.ref b), some (.int p), some (.int ((cur.map V.int).length : Int)), some (.ref t), some (.int lo), some (.ref b1), some (.ref r2), some (.ref x5), some (.ref y5), none, none, none, none]) rfl ?_
    have hno := no_row (goal := []) hp R hN rfl hlm hm hG hW hS.rest
    refine ⟨_, rfl, sz0, fun a6 k6 => ?_⟩
    refine ⟨_, _, dp_l (li_sq (own_new k6 hy5)), dp_e upd_same, shp_l _, shp_e, _, rfl, ?_⟩
    rw [eqv_e]
    refine itn (fun h => ?_) (fun h => ?_)
    · refine ⟨_, rfl, _, _, rfl, .inl (li_sq (by walk_at "k76h")), _, _, rfl, rfl, sz2, fun t7 k7 => ?_⟩
      exact q t7 _ _ _ (by walk_at "k76e") (Evl.st_of upd_same) (.inl ⟨rfl, fun z => h (hno.mpr z)⟩)
    · subst h
      have hgq := hS.qlen
      refine ⟨_, rfl, _, rfl, _, rfl, b1, r2, one, g, p, rfl, by walk_at "k76h", by walk_at "k76h", hp, hc1.1, hG.can, hG.ne, by omega, by omega, fun t8 x8 y8 own r8 H8 e8 ht8 hx8 hy8 hS1 => ?_⟩
      refine ⟨_, _, _, _, rfl, rfl, ht8, at0, _, rfl, _, rfl, cur.length, p, by rw [lenm]; rfl, hN, by omega, fun r9 H9 e9 h9 => ?_⟩
      have hrl := len_ring (p : Int) hN
      refine ⟨_, rfl, _, rfl, r9, r2, _, g, p, rfl, h9, by walk_at "k76h", hp, rg_ring (by omega) _, hG.can, hG.ne, by omega, by omega, fun t10 x10 y10 whole r10 H10 e10 ht10 hx10 hy10 hS2 => ?_⟩
      refine ⟨_, _, _, _, rfl, rfl, ht10, at0, _, _, rfl, ?_⟩
      refine sig (σ' := [some (.ref a), some (.ref b), some (.int p), some (.int ((cur.map V.int).length : Int)), some (.ref t), some (.int lo), some (.ref b1), some (.ref r2), some (.ref x5), some (.ref y5), some (.ref x8), some (.ref x10), none, none]) rfl ?_
      have z8 : r8 = [] := hS1.z hp hG.can hG.ne fun F _ _ _ => (hG.ex F).2.1
      have z10 : r10 = [] := hS2.z hp hG.can hG.ne fun F _ _ _ => by rw [PL_ring hN]; exact (hG.ex F).2.2
      subst z8 z10
      have hown : own ≠ [] := fun z => by
        obtain ⟨F, _, _, _, _, _⟩ := fpx p hp
        have := hS1.mul F
        rw [z, PL_nil] at this
        exact hc1.ne h1ne (by rw [this]; grind)
      have hol := List.length_pos_iff.mpr hown
      have hoq := hS1.qlen
      have hwq := hS2.qlen
      have ownH : LI H10 x8 own := by walk_at "k76h"
      have goalH : LI H10 x5 goal := by walk_at "k76h"
      have gH : LI H10 r2 g := by walk_at "k76h"
      have eX : Ex H H10 := by walk_at "k76e"
      have hgl2 : goal.length ≤ cur.length := by omega
      have hol2 : own.length ≤ 11 := by omega
      have hwl2 : whole.length ≤ cur.length + 1 := by omega
      clear hgq hoq hwq hrl hWl hgz h1z
      clear e1 e2 e3 e4 e5 e8 e9 e10 k6 ht hb hg h3 h4 ht5 hx5 hy5 ht8 hx8 hy8 h9 ht10 hy10 hA hB
      refine ⟨_, rfl, _, _, rfl, .inl (li_sq ownH), _, _, rfl, rfl, _, rfl, ?_⟩
      refine itd (fun h => ?_) (fun h => ?_)
      · rw [lenm] at h
        refine ⟨_, rfl, _, rfl, _, rfl, _, rfl, x10, x8, whole, own, p, rfl, hx10, ownH, hp, hS2.q, hS1.q, by omega, by omega, by omega, fun F _ _ _ => ?_, fun r11 iv H11 e11 h11 hci hil hiF => ?_⟩
        · have e2 := hS2.mul F
          rw [PL_ring hN] at e2
          exact coprime hG (hS1.mul F) e2
        refine ⟨_, rfl, x5, r11, goal, iv, p, rfl, by walk_at "k76h", h11, hp, hS.q.1, hci.1, by omega, by omega, fun r12 H12 e12 h12 => ?_⟩
        refine sig (σ' := [some (.ref a), some (.ref b), some (.int p), some (.int ((cur.map V.int).length : Int)), some (.ref t), some (.int lo), some (.ref b1), some (.ref r2), some (.ref x5), some (.ref y5), some (.ref x8), some (.ref x10), some (.ref r12), none]) rfl ?_
        have hml := mulL_len goal iv
        have hml2 := lenM p (mulL goal iv)
        have hml3 : (trim ((mulL goal iv).map (· % (p : Int)))).length ≤ 6000 := by omega
        clear hml hml2
        refine ⟨_, rfl, _, rfl, _, rfl, r12, x8, _, own, p, rfl, h12, by walk_at "k76h", hp, (canM (by omega) _).1, hS1.q, hown, by omega, by omega, fun t13 x13 y13 q13 r13 H13 e13 ht13 hx13 hy13 hS3 => ?_⟩
        have hl3 := hS3.len
        refine ⟨_, _, _, _, rfl, rfl, ht13, at1, _, rfl, _, rfl, y13, r13, -1, p, rfl, hy13, by omega, by omega, by omega, fun r14 H14 e14 h14 => ?_⟩
        refine sig (σ' := [some (.ref a), some (.ref b), some (.int p), some (.int ((cur.map V.int).length : Int)), some (.ref t), some (.int lo), some (.ref b1), some (.ref r2), some (.ref x5), some (.ref y5), some (.ref x8), some (.ref x10), some (.ref r14), none]) rfl ?_
        have hl4 := lenM p (r13.map (· * -1))
        rw [List.length_map] at hl4
        have h14F : ∀ (F : Type) [Lean.Grind.CommRing F] [Lean.Grind.IsCharP F p], PL F (trim ((r13.map (· * -1)).map (· % (p : Int)))) = - PL F r13 := fun F _ _ => by
          rw [PLt, PL_scale, ci_neg, ci_one, Cp_neg, Cp_one]; grind
        have hc14 : Can p (trim ((r13.map (· * -1)).map (· % (p : Int)))) := canM (by omega) _
        generalize trim ((r13.map (· * -1)).map (· % (p : Int))) = sh at *
        refine ⟨_, rfl, _, rfl, _, rfl, _, rfl, x10, r14, whole, sh, p, rfl, by walk_at "k76h", h14, hp, hS2.q.1, hc14.1, by omega, by omega, fun r15 H15 e15 h15 => ?_⟩
        have hml5 := mulL_len whole sh
        have hml6 := lenM p (mulL whole sh)
        have hml7 : (trim ((mulL whole sh).map (· % (p : Int)))).length ≤ 6000 := by omega
        clear hml5 hml6
        refine ⟨_, rfl, x5, r15, goal, _, p, rfl, by walk_at "k76h", h15, by omega, by omega, by omega, fun r16 H16 e16 h16 => ?_⟩
        refine sig (σ' := [some (.ref a), some (.ref b), some (.int p), some (.int ((cur.map V.int).length : Int)), some (.ref t), some (.int lo), some (.ref b1), some (.ref r2), some (.ref r16), some (.ref y5), some (.ref x8), some (.ref x10), some (.ref r14), none]) rfl ?_
        have hl16 := lenM p (addZ goal (trim ((mulL whole sh).map (· % (p : Int)))))
        rw [addZ_len] at hl16
        have hl17 : (trim ((addZ goal (trim ((mulL whole sh).map (· % (p : Int))))).map (· % (p : Int)))).length ≤ 6000 := by omega
        clear hl16
        have hc16 : Can p (trim ((addZ goal (trim ((mulL whole sh).map (· % (p : Int))))).map (· % (p : Int)))) := canM (by omega) _
        have h16F : ∀ (F : Type) [Lean.Grind.CommRing F] [Lean.Grind.IsCharP F p], PL F (trim ((addZ goal (trim ((mulL whole sh).map (· % (p : Int))))).map (· % (p : Int)))) = PL F goal + PL F sh * PL F whole := fun F _ _ => by
          rw [PLt, PL_addZ, PLm]; grind
        generalize trim ((addZ goal (trim ((mulL whole sh).map (· % (p : Int))))).map (· % (p : Int))) = goal2 at *
        refine ⟨_, rfl, _, rfl, _, rfl, r16, x8, goal2, own, p, rfl, h16, by walk_at "k76h", hp, hc16.1, hS1.q, hown, by omega, by omega, fun t17 x17 y17 row r17 H17 e17 ht17 hx17 hy17 hS4 => ?_⟩
        obtain ⟨hAhd, hrow⟩ := ahd_done (goal2 := goal2) hp R hN rfl hlm hm hW hS hS1 hS2 hown (fun F _ _ => ⟨_, h16F F⟩) (fun F _ _ _ => by
            obtain ⟨k, e6⟩ := hiF F
            have e7 := hS3.eq F
            rw [PLm] at e7
            have e8 := h14F F
            refine ⟨PL F whole * PL F q13 - PL F goal * k, ?_⟩
            rw [h16F F, e8]
            grind) (fun F _ _ _ => by
            rw [h16F F, Lean.Grind.CommSemiring.mul_comm]
            refine DegLt.add (deg_PL goal (by omega)) ?_
            exact ((deg_PL whole (d := cur.length + 1) (by omega)).mul (deg_PL sh (d := own.length - 1) (by omega))).mono (by omega)) hS4
        have g17 : LI H17 r2 g := by walk_at "k76h"
        have e017 : Ex H H17 := by walk_at "k76e"
        refine ⟨_, _, _, _, rfl, rfl, ht17, at0, ?_⟩
        refine sig (σ' := [some (.ref a), some (.ref b), some (.int p), some (.int ((cur.map V.int).length : Int)), some (.ref t), some (.int lo), some (.ref b1), some (.ref r2), some (.ref r16), some (.ref y5), some (.ref x8), some (.ref x10), some (.ref r14), some (.ref x17)]) rfl ?_
        refine ⟨_, rfl, sz1, fun a18 k18 => ?_⟩
        have d18 : (cur.length : Int) - ((row.map V.int).length : Int) = ((cur.length - row.length : Nat) : Int) := by rw [lenm]; omega
        refine ⟨_, rfl, _, rfl, _, _, rfl, .inl (li_sq (own_new k18 hx17)), _, _, rfl, rfl, _, _, _, rfl, congrArg V.int ((show ((cur.map V.int).length : Int) - ((row.map V.int).length : Int) = ((cur.length - row.length : Nat) : Int) by rw [lenm cur]; exact d18)), upd_same, by omega, by omega, Evl.sz_of (by show 1 * _ ≤ _; omega), fun a19 k19 => ?_⟩
        rw [rep_map ((cur.length - row.length : Nat) : Int) (cur.length - row.length) (Int.toNat_natCast _)]
        refine ⟨_, _, _, _, rfl, rfl, own_new k19 (own_new k18 hx17), upd_same, Evl.sz_of (by rw [List.length_map, List.length_map, List.length_replicate]; omega), fun a20 k20 => ?_⟩
        refine ⟨_, rfl, _, _, rfl, .inl (li_sq (own_new k20 (own_new k19 (own_new k18 g17)))), _, _, rfl, rfl, sz2, fun t21 k21 => ?_⟩
        exact q t21 _ _ _ (Evl.Ex.trans (Evl.Ex.trans (Evl.Ex.trans (Evl.Ex.trans e017 (Evl.Ex.new k18)) (Evl.Ex.new k19)) (Evl.Ex.new k20)) (Evl.Ex.new k21)) (Evl.st_of upd_same) (.inr ⟨a20, row ++ List.replicate (cur.length - row.length) 0, rfl, own_new k21 (upd_same.trans (congrArg (fun l => some (HO.lst l)) (by rw [List.map_append]))), hAhd⟩)
      · rw [lenm] at h
        refine ⟨_, rfl, _, rfl, _, rfl, x5, x8, goal, own, p, rfl, by walk_at "k76h", by walk_at "k76h", hp, hS.q.1, hS1.q, hown, by omega, by omega, fun t17 x17 y17 row r17 H17 e17 ht17 hx17 hy17 hS4 => ?_⟩
        obtain ⟨hAhd, hrow⟩ := ahd_done (goal2 := goal) hp R hN rfl hlm hm hW hS hS1 hS2 hown (fun F _ _ => ⟨0, by grind⟩) (fun F _ _ _ => by
            match own, hol, h, hS1.q with
            | [c], _, _, hq =>
              have hl0 : 0 < c ∧ c < p := hq.last0 (by simp)
              have e7 := ci_inv (F := F) (p := p) (by unfold Pr at hp; omega) hl0.1 hl0.2
              rw [PL_one]
              have e8 : Cp (ci F (c ^ ((p : Int) - 2).toNat % (p : Int))) * Cp (ci F c) = (1 : Poly F) := by
                rw [← Cp_mul]
                exact congrArg Cp e7
              exact ⟨PL F goal * Cp (ci F (c ^ ((p : Int) - 2).toNat % (p : Int))), by rw [Lean.Grind.Semiring.mul_assoc, e8]; grind⟩
            | _ :: _ :: _, _, h, _ => exact absurd (by simp; omega) h) (fun F _ _ _ => deg_PL goal (by omega)) hS4
        have g17 : LI H17 r2 g := by walk_at "k76h"
        have e017 : Ex H H17 := by walk_at "k76e"
        refine ⟨_, _, _, _, rfl, rfl, ht17, at0, ?_⟩
        refine sig (σ' := [some (.ref a), some (.ref b), some (.int p), some (.int ((cur.map V.int).length : Int)), some (.ref t), some (.int lo), some (.ref b1), some (.ref r2), some (.ref x5), some (.ref y5), some (.ref x8), some (.ref x10), none, some (.ref x17)]) rfl ?_
        refine ⟨_, rfl, sz1, fun a18 k18 => ?_⟩
        have d18 : (cur.length : Int) - ((row.map V.int).length : Int) = ((cur.length - row.length : Nat) : Int) := by rw [lenm]; omega
        refine ⟨_, rfl, _, rfl, _, _, rfl, .inl (li_sq (own_new k18 hx17)), _, _, rfl, rfl, _, _, _, rfl, congrArg V.int ((show ((cur.map V.int).length : Int) - ((row.map V.int).length : Int) = ((cur.length - row.length : Nat) : Int) by rw [lenm cur]; exact d18)), upd_same, by omega, by omega, Evl.sz_of (by show 1 * _ ≤ _; omega), fun a19 k19 => ?_⟩
        rw [rep_map ((cur.length - row.length : Nat) : Int) (cur.length - row.length) (Int.toNat_natCast _)]
        refine ⟨_, _, _, _, rfl, rfl, own_new k19 (own_new k18 hx17), upd_same, Evl.sz_of (by rw [List.length_map, List.length_map, List.length_replicate]; omega), fun a20 k20 => ?_⟩
        refine ⟨_, rfl, _, _, rfl, .inl (li_sq (own_new k20 (own_new k19 (own_new k18 g17)))), _, _, rfl, rfl, sz2, fun t21 k21 => ?_⟩
        exact q t21 _ _ _ (Evl.Ex.trans (Evl.Ex.trans (Evl.Ex.trans (Evl.Ex.trans e017 (Evl.Ex.new k18)) (Evl.Ex.new k19)) (Evl.Ex.new k20)) (Evl.Ex.new k21)) (Evl.st_of upd_same) (.inr ⟨a20, row ++ List.replicate (cur.length - row.length) 0, rfl, own_new k21 (upd_same.trans (congrArg (fun l => some (HO.lst l)) (by rw [List.map_append]))), hAhd⟩)
end
end K76
namespace K76
open PySem PySem.Spec PyProof.Rows L2

theorem look_mem {m : Int} {ps : List Int} (h : look m = some ps) : (m, ps) ∈ tabE := by
  unfold look at h
  cases hf : tabE.find? (fun p => decide (p.1 = m)) with
  | none => rw [hf] at h; cases h
  | some e =>
    rw [hf] at h
    have h1 : e.2 = ps := Option.some.inj h
    have h2 : e.1 = m := by simpa using List.find?_some hf
    have h3 := List.mem_of_find?_eq_some hf
    rw [← h1, ← h2]; exact h3
instance (p : Int) : Decidable (Pr p) := by unfold Pr; infer_instance
theorem tab_ok : ∀ e ∈ tabE, 2 ≤ e.1 ∧ e.1 ≤ 15 ∧ 1 ≤ e.2.length ∧ e.2.length ≤ 2 ∧ (∀ p ∈ e.2, Pr p ∧ e.1 % p = 0) ∧
    ∀ j ∈ List.range e.2.length, ∃ v ∈ List.range 15, (v : Int) < e.1 ∧ ∀ i ∈ List.range e.2.length, (v : Int) % e.2.getD i 0 = if e.2.getD i 0 = e.2.getD j 0 then 1 else 0 := by decide +kernel
structure LookR (m : Int) (ps : List Int) : Prop where
  lo : 2 ≤ m
  hi : m ≤ 15
  one : 1 ≤ ps.length
  two : ps.length ≤ 2
  pr : ∀ p ∈ ps, Pr p
  dv : ∀ p ∈ ps, p ∣ m
  unit : ∀ j, j < ps.length → ∃ v : Nat, (v : Int) < m ∧ ∀ i, i < ps.length → (v : Int) % ps.getD i 0 = if ps.getD i 0 = ps.getD j 0 then 1 else 0
theorem look_ok {m : Int} {ps : List Int} (h : look m = some ps) : LookR m ps := by
  obtain ⟨h1, h2, h3, h4, h5, h6⟩ := tab_ok _ (look_mem h)
  refine ⟨h1, h2, h3, h4, fun p hp => (h5 p hp).1, fun p hp => Int.dvd_of_emod_eq_zero (h5 p hp).2, fun j hj => ?_⟩
  obtain ⟨v, _, h7, h8⟩ := h6 j (List.mem_range.mpr hj)
  exact ⟨v, h7, fun i hi => h8 i (List.mem_range.mpr hi)⟩
theorem look_two {m : Int} {ps : List Int} (h : look m = some ps) : (∃ p, ps = [p] ∧ m = p) ∨ ∃ p q, ps = [p, q] ∧ p ≠ q ∧ m = p * q := by
  have : ∀ e ∈ tabE, (∃ p ∈ e.2, e.2 = [p] ∧ e.1 = p) ∨ ∃ p ∈ e.2, ∃ q ∈ e.2, e.2 = [p, q] ∧ p ≠ q ∧ e.1 = p * q := by decide +kernel
  rcases this _ (look_mem h) with ⟨p, _, h1, h2⟩ | ⟨p, _, q, _, h1, h2, h3⟩
  · exact .inl ⟨p, h1, h2⟩
  · exact .inr ⟨p, q, h1, h2, h3⟩
theorem getI {ns : List Int} {i : Nat} (h : i < ns.length) : ns.getD i 0 ∈ ns := by
  rw [List.getD_eq_getElem?_getD, List.getElem?_eq_getElem h]; exact List.getElem_mem h
/-- rows, each a list of its own -/
def RowsL (H : Hp) (a : Addr) (rws : List (List Int)) : Prop := ∃ xs : List V, H a = some (.lst xs) ∧ xs.length = rws.length ∧ ∀ i, i < rws.length → ∃ U, xs[i]? = some (.ref U) ∧ LI H U (rws.getD i [])
theorem RowsL.up {H H' : Hp} {a : Addr} {rws : List (List Int)} (h : RowsL H a rws) (e : Ex H H') : RowsL H' a rws := by
  obtain ⟨xs, h1, h2, h3⟩ := h
  refine ⟨xs, e _ _ h1, h2, fun i hi => ?_⟩
  obtain ⟨U, h4, h5⟩ := h3 i hi
  exact ⟨U, h4, e _ _ h5⟩
def sp_together (K : PySem.W.Frag) : Sp := fun vs H Q _ => ∃ (a : Addr) (m : Int) (ps rs : List Int), vs = [.int m, .ref a] ∧ look m = some ps ∧ LI H a rs ∧ rs.length = ps.length ∧ (∃ v : Nat, (v : Int) < m ∧ ∀ i, i < ps.length → (v : Int) % ps.getD i 0 = rs.getD i 0) ∧
  ∀ (v : Int) H', Ex H H' → 0 ≤ v → v < m → (∀ i, i < ps.length → v % ps.getD i 0 = rs.getD i 0) → Q (.int v) H'
/-- a row by its rows modulo the primes -/
structure PutR (m : Int) (ps : List Int) (rws : List (List Int)) (n : Nat) (ah : List Int) : Prop where
  len : ah.length = n
  rg : Rg m ah
  eq : ∀ k, k < n → ∀ i, i < ps.length → ah.getD k 0 % ps.getD i 0 = (rws.getD i []).getD k 0 % ps.getD i 0
def sp_put_rows (K : PySem.W.Frag) : Sp := fun vs H Q _ => ∃ (a : Addr) (m : Int) (ps : List Int) (rws : List (List Int)) (n : Nat), vs = [.int m, .ref a] ∧ look m = some ps ∧ RowsL H a rws ∧ rws.length = ps.length ∧ n ≤ 40000 ∧ (∀ i, i < ps.length → (rws.getD i []).length = n ∧ Rg 13 (rws.getD i [])) ∧
  ∀ r ah H', Ex H H' → TI K H' r ah → PutR m ps rws n ah → Q (.ref r) H'
theorem comb {m : Int} {ps us xs : List Int} (hk : look m = some ps) (hu : us.length = ps.length) (hx : xs.length = ps.length) (h : ∀ j, j < ps.length → ∀ i, i < ps.length → us.getD j 0 % ps.getD i 0 = if ps.getD i 0 = ps.getD j 0 then 1 else 0) {i : Nat} (hi : i < ps.length) :
    ((List.range ps.length).map fun j => us.getD j 0 * xs.getD j 0).sum % m % ps.getD i 0 = xs.getD i 0 % ps.getD i 0 := by
  rw [Int.emod_emod_of_dvd _ ((look_ok hk).dv _ (getI hi))]
  rcases look_two hk with ⟨p, rfl, _⟩ | ⟨p, q, rfl, hpq, _⟩
  · have i0 : i = 0 := by have : i < 1 := hi; omega
    subst i0
    have h0 := h 0 hi 0 hi
    rw [if_pos rfl] at h0
    show (us.getD 0 0 * xs.getD 0 0 + 0) % _ = _
    rw [Int.add_zero, Int.mul_emod, h0, Int.one_mul, Int.emod_emod_of_dvd _ (Int.dvd_refl _)]
  · have hl0 : 0 < [p, q].length := Nat.zero_lt_succ _
    have hl1 : 1 < [p, q].length := Nat.lt_succ_self _
    have e : ((List.range [p, q].length).map fun j => us.getD j 0 * xs.getD j 0).sum = us.getD 0 0 * xs.getD 0 0 + us.getD 1 0 * xs.getD 1 0 := by
      show us.getD 0 0 * xs.getD 0 0 + (us.getD 1 0 * xs.getD 1 0 + 0) = _
      omega
    rw [e, Int.add_emod, Int.mul_emod, Int.mul_emod (us.getD 1 0)]
    have i01 : i = 0 ∨ i = 1 := by have : i < 2 := hi; omega
    rcases i01 with rfl | rfl
    · have h0 := h 0 hl0 0 hl0
      have h1 := h 1 hl1 0 hl0
      rw [if_pos rfl] at h0
      rw [if_neg (show ¬ [p, q].getD 0 0 = [p, q].getD 1 0 from hpq)] at h1
      rw [h0, h1]
      simp
    · have h0 := h 0 hl0 1 hl1
      have h1 := h 1 hl1 1 hl1
      rw [if_pos rfl] at h1
      rw [if_neg (show ¬ [p, q].getD 1 0 = [p, q].getD 0 0 from fun z => hpq z.symm)] at h0
      rw [h0, h1]
      simp
section
variable {P : Program} {w : World} {K : PySem.W.Frag} {mg : Str → Option Value} {base : Heap}
theorem cal_together (T : Txt K mg) : C8.Cal P w K mg base 2 "together" (sp_together K) [] := by
  have c_primes_in : C8.Cal P w K mg base 1 "primes_in" (sp_primes_in K) [] := cal_primes_in T
  obtain ⟨f, fd, F, df⟩ := T.d_together
  refine C8.cal0 F (F.fn.binds df fun _ _ _ _ _ _ us hl => ?bnd) .nil sc_together (fun vs H Q E h => ?len) fun cdv A outer s H vs Q E hr h => ?_
  case bnd => obtain ⟨a0, a1, rfl⟩ := ln2 hl; rfl
  case len => first | (obtain ⟨_, rfl, _⟩ := h; rfl) | (obtain ⟨_, _, rfl, _⟩ := h; rfl) | (obtain ⟨_, _, _, rfl, _⟩ := h; rfl) | (obtain ⟨_, _, _, _, rfl, _⟩ := h; rfl) | (obtain ⟨_, _, _, _, _, rfl, _⟩ := h; rfl) | (obtain ⟨_, _, _, _, _, _, rfl, _⟩ := h; rfl) | (obtain ⟨_, _, _, _, _, _, _, rfl, _⟩ := h; rfl) | (obtain ⟨_, _, _, _, _, _, _, _, rfl, _⟩ := h; rfl) | (obtain ⟨_, _, _, _, _, _, _, _, _, rfl, _⟩ := h; rfl) | (obtain ⟨_, _, _, _, _, _, _, _, _, _, rfl, _⟩ := h; rfl) | (obtain ⟨_, _, _, _, _, _, _, _, _, _, _, rfl, _⟩ := h; rfl)
  have sc := sc_together
  obtain ⟨a, m, ps, rs, rfl, hk, hA, hl, ⟨v0, hv0, hv1⟩, q⟩ := h
  have L := look_ok hk
  have L1 := L.lo
  have L2 := L.hi
  have L3 := L.two
  refine ⟨_, (pss_cons (ps_set (i := 2) sc.nd rfl (Or.inl rfl) (C8.pe_c c_primes_in hr (by decide) (by rfl) (pa_cons (pv 0) pa_nil)))
      (pss_cons (ps_for PassesOwn.never rfl (pi_range1 rfl T.b_range (pa_cons (pv 0) pa_nil)) (pg_name (i := 3) sc.nd rfl (Or.inr rfl)) (pss_one (ps_if (pt_val (pe_callB (cr_all rfl) (by rfl) T.b_all (by decide +kernel) (pa_cons (pe_lc (own := [("prime", 4), ("rest", 5)]) (g := (gTup K 2 (gCons (gName 4) (gCons (gName 5) gNil)))) (tt := tYes) rfl sc.nd (pi_zipM (by rfl) T.b_zip (pa_cons (pv 2) (pa_cons (pv 1) pa_nil))) (blkOk_by (N := n_together) (sc := C8.fnScope s_together) (by decide +kernel)) (fun _ _ _ _ _ => (pg_tupK (K0 := K) rfl (pgs_cons (pg_name (i := 4) sc.nd rfl (Or.inl rfl)) (pgs_cons (pg_name (i := 5) sc.nd rfl (Or.inl rfl)) pgs_nil)))) (fun _ _ _ _ _ => pts_nil) (fun _ _ _ _ _ => (pe_cmpR op_eq (pe_op op_mod (pv 3) (pv 4)) (pv 5) (nomark _)))) pa_nil))) (pss_one (ps_ret (pv 3))) pss_nil)))
      (pss_one (ps_ret pe_int)))), ?_⟩
  refine ⟨_, rfl, m, ps, rfl, hk, fun a1 H1 e1 h1 => ?_⟩
  refine ⟨_, rfl, _, rfl, by omega, by omega, ?_⟩
  refine for_src (n := m.toNat) (by rw [show (m : Int).toNat = m.toNat from rfl]; exact src_rng) (fun i σ H' => Ex H1 H' ∧ (∃ y3 y4 y5, σ = [some (.int m), some (.ref a), some (.ref a1), y3, y4, y5]) ∧ ∀ j : Nat, j < i → ¬ ∀ i, i < ps.length → (j : Int) % ps.getD i 0 = rs.getD i 0) ?_ (fun i σ H' hP => hP.1) (fun i x σ H2 H3 hi hW e3 hx => ?_) (fun σ H2 hW => ?_)
  · exact ⟨by walk_at "k76e", ⟨none, none, none, rfl⟩, fun j hj => absurd hj (Nat.not_lt_zero _)⟩
  · obtain ⟨e2, ⟨y3, y4, y5, rfl⟩, hno⟩ := hW
    have hx' : x = .int (i : Nat) := hx.trans (congrArg V.int (by omega))
    subst hx'
    have hpt : SqT K H3 a1 (ps.map V.int) := by walk_at "k76h"
    have har : LI H3 a rs := by walk_at "k76h"
    refine ⟨_, rfl, _, rfl, _, _, _, _, rfl, hpt, li_sq har, lc_bl (src_zipM hpt har) (by rw [List.length_map, List.length_map]; omega) (fun j => decide (V.int ((i : Int) % ps.getD j 0) = V.int (rs.getD j 0))) (fun j x H' Z hj e it z => ?_) (fun D H' hD e hl2 => ?_)⟩
    · obtain ⟨U, x1, y1, rfl, hU, hx1, hy1⟩ := it
      obtain ⟨rfl, c1⟩ := at_map hx1
      obtain ⟨rfl, c2⟩ := at_map hy1
      have := (L.pr _ (getI c1)).b
      exact ⟨_, _, rfl, Evl.st_of hU, rfl, _, _, rfl, _, _, rfl, rfl, rfl, _, rfl, _, rfl, _, _, rfl, rfl, by omega, _, rfl, rfl, z _ (by walk_at "k76e")⟩
    · refine ⟨_, _, rfl, li_sq hl2, _, rfl, ?_⟩
      have key : (((List.range (min (ps.map V.int).length (rs.map V.int).length)).map fun j => decide (V.int ((i : Int) % ps.getD j 0) = V.int (rs.getD j 0))).all id) = decide (∀ j, j < ps.length → (i : Int) % ps.getD j 0 = rs.getD j 0) := by
        rw [List.length_map, List.length_map, hl, Nat.min_self, List.all_map, Bool.eq_iff_iff, List.all_eq_true, decide_eq_true_eq]
        constructor
        · intro h j hj
          have := h j (List.mem_range.mpr hj)
          simpa using this
        · intro h j hj
          exact decide_eq_true (congrArg V.int (h j (List.mem_range.mp hj)))
      rw [key]
      refine itd (fun h => ?_) (fun h => ?_)
      · exact ⟨_, rfl, q _ _ (by walk_at "k76e") (by omega) (by omega) h⟩
      · refine ⟨by walk_at "k76e", ⟨_, _, _, rfl⟩, fun j hj => ?_⟩
        by_cases c : j < i
        · exact hno j c
        · rw [show j = i by omega]; exact h
  · obtain ⟨e2, _, hno⟩ := hW
    exact absurd hv1 (hno v0 (by omega))
theorem cal_put_rows (T : Txt K mg) : C8.Cal P w K mg base 3 "put_rows" (sp_put_rows K) [] := by
  have c_primes_in : C8.Cal P w K mg base 1 "primes_in" (sp_primes_in K) [] := cal_primes_in T
  have c_together : C8.Cal P w K mg base 2 "together" (sp_together K) [] := cal_together T
  obtain ⟨f, fd, F, df⟩ := T.d_put_rows
  refine C8.cal0 F (F.fn.binds df fun _ _ _ _ _ _ us hl => ?bnd) .nil sc_put_rows (fun vs H Q E h => ?len) fun cdv A outer s H vs Q E hr h => ?_
  case bnd => obtain ⟨a0, a1, rfl⟩ := ln2 hl; rfl
  case len => first | (obtain ⟨_, rfl, _⟩ := h; rfl) | (obtain ⟨_, _, rfl, _⟩ := h; rfl) | (obtain ⟨_, _, _, rfl, _⟩ := h; rfl) | (obtain ⟨_, _, _, _, rfl, _⟩ := h; rfl) | (obtain ⟨_, _, _, _, _, rfl, _⟩ := h; rfl) | (obtain ⟨_, _, _, _, _, _, rfl, _⟩ := h; rfl) | (obtain ⟨_, _, _, _, _, _, _, rfl, _⟩ := h; rfl) | (obtain ⟨_, _, _, _, _, _, _, _, rfl, _⟩ := h; rfl) | (obtain ⟨_, _, _, _, _, _, _, _, _, rfl, _⟩ := h; rfl) | (obtain ⟨_, _, _, _, _, _, _, _, _, _, rfl, _⟩ := h; rfl) | (obtain ⟨_, _, _, _, _, _, _, _, _, _, _, rfl, _⟩ := h; rfl)
  have sc := sc_put_rows
  obtain ⟨a, m, ps, rws, n, rfl, hk, hA, hl, hz, hrw, q⟩ := h
  have L := look_ok hk
  have L1 := L.lo
  have L2 := L.hi
  have L3 := L.two
  have L4 := L.one
  refine ⟨_, (pss_cons (ps_set (i := 2) sc.nd rfl (Or.inr rfl) (C8.pe_c c_primes_in hr (by decide) (by rfl) (pa_cons (pv 0) pa_nil)))
      (pss_cons (ps_setLc (i := 3) (own := [("prime", 4)]) (g := (gName 4)) (tt := tYes) rfl sc.nd rfl rfl (sw_true rfl rfl rfl (by decide +kernel)) (pi_tup (pv 2)) (blkOk_by (N := n_put_rows) (sc := C8.fnScope s_put_rows) (by decide +kernel)) (fun _ _ _ _ _ => (pg_name (i := 4) sc.nd rfl (Or.inr rfl))) (fun _ _ _ _ _ => pts_nil) (fun _ _ _ _ _ => (C8.pe_c c_together hr (by decide) (by rfl) (pa_cons (pv 0) (pa_cons (pe_lc (own := [("other", 5)]) (g := (gName 5)) (tt := tYes) rfl sc.nd ((pi_tupK (K0 := K)) (pv 2)) (blkOk_by (N := n_put_rows) (sc := relS scPR (C8.fnScope s_put_rows)) (by decide +kernel)) (fun _ _ _ _ _ => (pg_name (i := 5) sc.nd rfl (Or.inl rfl))) (fun _ _ _ _ _ => pts_nil) (fun _ _ _ _ _ => (pe_callTy call_int1 (by rfl) T.b_int (by decide +kernel) (pa_cons (pe_cmpR op_eq (pv 5) (pv 4) (nomark _)) pa_nil)))) pa_nil)))))
      (pss_cons (ps_set (i := 6) sc.nd rfl (Or.inl rfl) (pe_lst pa_nil))
      (pss_cons (ps_for PassesOwn.never rfl (pi_range1 rfl T.b_range (pa_cons (pe_callB (call_lenK (K0 := K)) (by rfl) T.b_len (by decide +kernel) (pa_cons (pe_ix (ix_listK (K0 := K)) (pv 1) pe_int (fun _ _ => rfl)) pa_nil)) pa_nil)) (pg_name (i := 7) sc.nd rfl (Or.inr rfl)) (pss_one (ps_expr (pe_bm PySem.F.plainAttrs_list PySem.F.slot_list_append PySem.F.type_list_append mt_append (pv 6) (pa_cons (pe_op op_mod (pe_callB (cr_sum rfl) (by rfl) T.b_sum (by decide +kernel) (pa_cons (pe_lc (own := [("unit", 8), ("row", 9)]) (g := (gTup K 2 (gCons (gName 8) (gCons (gName 9) gNil)))) (tt := tYes) rfl sc.nd (pi_zip (by rfl) T.b_zip (pa_cons (pv 3) (pa_cons (pv 1) pa_nil))) (blkOk_by (N := n_put_rows) (sc := C8.fnScope s_put_rows) (by decide +kernel)) (fun _ _ _ _ _ => (pg_tupK (K0 := K) rfl (pgs_cons (pg_name (i := 8) sc.nd rfl (Or.inl rfl)) (pgs_cons (pg_name (i := 9) sc.nd rfl (Or.inl rfl)) pgs_nil)))) (fun _ _ _ _ _ => pts_nil) (fun _ _ _ _ _ => (pe_op op_mul (pv 8) (pe_ix (ix_listK (K0 := K)) (pv 9) (pv 7) (fun _ _ => rfl))))) pa_nil)) (pv 0)) pa_nil)))))
      (pss_one (ps_ret (pe_callTy call_tuple_of (by rfl) T.b_tuple (by decide +kernel) (pa_cons (pv 6) pa_nil)))))))), ?_⟩
  refine ⟨_, rfl, m, ps, rfl, hk, fun a1 H1 e1 h1 => ?_⟩
  refine ⟨_, rfl, _, rfl, ⟨_, h1⟩, lc_src (src_tup h1) (by rw [List.length_map]; omega) (fun i acc _ => ∃ us : List Int, acc = us.map V.int ∧ us.length = i ∧ (∀ u ∈ us, 0 ≤ u ∧ u < m) ∧ ∀ j, j < i → ∀ k, k < ps.length → us.getD j 0 % ps.getD k 0 = if ps.getD k 0 = ps.getD j 0 then 1 else 0) (fun _ => ⟨[], rfl, rfl, (fun u hu => absurd hu (by simp)), fun j hj => absurd hj (Nat.not_lt_zero _)⟩) (fun _ _ _ _ h _ => h) (fun i x acc H' Z Z' hi e hPd it z z' => ?_) (fun D H' acc hD e hl2 hPd => ?_)⟩
  · obtain ⟨us, rfl, hul, hub, hus⟩ := hPd
    obtain ⟨rfl, hi2⟩ := at_map it
    have hpt : SqT K H' a1 (ps.map V.int) := by walk_at "k76h"
    refine ⟨rfl, _, rfl, _, rfl, _, rfl, ⟨_, hpt⟩, lc_int (src_tup hpt) (by rw [List.length_map]; omega) (fun j => if ps.getD j 0 = ps.getD i 0 then 1 else 0) (fun j x H2 Z2 hj e2 it2 z2 => ?_) (fun D H2 hD e2 hl2 => ?_)⟩
    · obtain ⟨rfl, hj2⟩ := at_map it2
      refine ⟨rfl, _, rfl, _, rfl, rfl, .inr ⟨_, rfl, ?_⟩⟩
      have e0 : (if decide (V.int (ps.getD j 0) = V.int (ps.getD i 0)) = true then (1 : Int) else 0) = if ps.getD j 0 = ps.getD i 0 then 1 else 0 := by
        by_cases c : ps.getD j 0 = ps.getD i 0
        · rw [if_pos c, c]; simp
        · rw [if_neg c, if_neg (by simpa using c)]
      rw [e0]
      exact z2 _ (by walk_at "k76e")
    · obtain ⟨v0, hv0, hv1⟩ := L.unit i hi2
      have hg : ∀ k, k < ps.length → ((List.range (ps.map V.int).length).map fun j => if ps.getD j 0 = ps.getD i 0 then (1 : Int) else 0).getD k 0 = if ps.getD k 0 = ps.getD i 0 then 1 else 0 := fun k hk => by
        rw [List.getD_eq_getElem?_getD, List.getElem?_map, List.length_map, List.getElem?_range hk]; rfl
      refine ⟨D, m, ps, _, rfl, hk, hl2, by rw [List.length_map, List.length_range, List.length_map], ⟨v0, hv0, fun k hk => by rw [hg k hk]; exact hv1 k hk⟩, fun v H3 e3 g0 g1 g2 => ?_⟩
      refine z _ _ (by walk_at "k76e") ⟨us ++ [v], by rw [List.map_append]; rfl, by rw [List.length_append, hul]; rfl, fun u hu => ?_, fun j hj k hk => ?_⟩
      · rcases List.mem_append.mp hu with z | z
        · exact hub u z
        · rw [List.mem_singleton.mp z]; exact ⟨g0, g1⟩
      · rw [getD_snoc, hul]
        by_cases c : j = i
        · rw [if_pos c, c, g2 k hk, hg k hk]
        · rw [if_neg c]; exact hus j (by omega) k hk
  · obtain ⟨us, rfl, hul, hub, hus⟩ := hPd
    rw [List.length_map] at hul hus
    obtain ⟨xs, hx1, hx2, hx3⟩ := hA.up (e1.trans e)
    obtain ⟨U0, hU0, hU0l⟩ := hx3 0 (by omega)
    obtain ⟨hn0, _⟩ := hrw 0 (by omega)
    have hB : RowsL H a rws := hA
    refine ⟨sz0, fun a2 k2 => ?_⟩
    have n2 : H' a2 = none := k2
    refine ⟨_, rfl, _, _, _, _, rfl, rfl, li_sq (by walk_at "k76h"), atN (j := 0) rfl hU0, _, _, rfl, .inl (li_sq (own_new k2 hU0l)), _, rfl, by rw [lenm]; omega, by rw [lenm]; omega, ?_⟩
    rw [lenm, hn0, Int.toNat_natCast]
    refine for_src (src_rng (lo := 0) (n := n)) (fun i σ H4 => Ex H' H4 ∧ ∃ y4 y5 y7 y8 y9 ah, σ = [some (.int m), some (.ref a), some (.ref a1), some (.ref D), y4, y5, some (.ref a2), y7, y8, y9] ∧ LI H4 a2 ah ∧ ah.length = i ∧ Rg m ah ∧ ∀ k, k < i → ∀ j, j < ps.length → ah.getD k 0 % ps.getD j 0 = (rws.getD j []).getD k 0 % ps.getD j 0) ?_ (fun i σ H' hP => hP.1) (fun i x σ H2 H3 hi hW e3 hx => ?_) (fun σ H2 hW => ?_)
    · exact ⟨by walk_at "k76e", none, none, none, none, none, [], rfl, upd_same, rfl, (fun u hu => absurd hu (by simp)), fun k hk => absurd hk (Nat.not_lt_zero _)⟩
    · obtain ⟨e2, y4, y5, y7, y8, y9, ah, rfl, hah, hal, har, haq⟩ := hW
      have hx' : x = .int (i : Nat) := hx.trans (congrArg V.int (by omega))
      subst hx'
      have e23 : Ex H' H3 := by walk_at "k76e"
      have hah3 : LI H3 a2 ah := by walk_at "k76h"
      refine ⟨_, rfl, .inl ⟨rfl, _, li_sq hah3⟩, _, rfl, _, rfl, _, _, _, _, rfl, li_sq (own_up hl2 e23), li_sq (own_up hx1 e23), lc_int (src_zip (own_up hl2 e23) (own_up hx1 e23)) (by rw [List.length_map]; omega) (fun j => us.getD j 0 * (rws.getD j []).getD i 0) (fun j x H5 Z hj e5 it z => ?_) (fun D5 H5 hD5 e5 hl5 => ?_)⟩
      · obtain ⟨U, x1, y1, rfl, hU, hx1', hy1⟩ := it
        obtain ⟨rfl, c1⟩ := at_map hx1'
        obtain ⟨U2, hU2, hU2l⟩ := hx3 j (by omega)
        have ey : y1 = .ref U2 := Option.some.inj (hy1.symm.trans hU2)
        subst ey
        have hr2 := hrw j (by omega)
        have hub2 := hub _ (getI c1)
        have hrg := hr2.2.get (k := i) (by omega)
        refine ⟨_, _, rfl, Evl.st_of hU, rfl, _, _, rfl, _, _, rfl, rfl, rfl, ?_⟩
        exact ⟨_, rfl, _, rfl, _, rfl, _, _, _, _, rfl, rfl, li_sq (own_up hU2l (e23.trans e5)), atI_nn (j := i) rfl (by omega), _, _, rfl, rfl, cmul_s (by omega), z _ (by walk_at "k76e")⟩
      · rw [List.length_map, hx2, hul, hl, Nat.min_self] at hl5
        refine ⟨_, _, rfl, li_sq hl5, _, rfl, _, _, rfl, rfl, by omega, _, _, _, rfl, rfl, show H5 a2 = _ from own_up hah3 e5, Evl.sz_lt (by rw [List.length_map]; omega), ?_⟩
        have hcm := fun j (hj : j < ps.length) => comb (xs := (List.range ps.length).map fun j => (rws.getD j []).getD i 0) hk hul (by rw [List.length_map, List.length_range]) hus hj
        have hxg : ∀ j, j < ps.length → ((List.range ps.length).map fun j => (rws.getD j []).getD i 0).getD j 0 = (rws.getD j []).getD i 0 := fun j hj => by
          rw [List.getD_eq_getElem?_getD, List.getElem?_map, List.getElem?_range hj]; rfl
        have hmap : ((List.range ps.length).map fun j => us.getD j 0 * ((List.range ps.length).map fun j => (rws.getD j []).getD i 0).getD j 0) = (List.range ps.length).map fun j => us.getD j 0 * (rws.getD j []).getD i 0 := by
          apply List.map_congr_left
          intro j hj
          rw [hxg j (List.mem_range.mp hj)]
        rw [hmap] at hcm
        generalize hs : (((List.range ps.length).map fun j => us.getD j 0 * (rws.getD j []).getD i 0).sum) = S at *
        have hmb := mod_lt' (a := S) (m := m) (by omega)
        refine ⟨Evl.Ex.mut (by walk_at "k76e") n2, _, _, _, _, _, ah ++ [S % m], rfl, ?_, ?_, ?_, fun k hk2 j hj => ?_⟩
        · rw [map_snoc_int]; exact upd_same
        · rw [List.length_append, hal]; rfl
        · intro u hu
          rcases List.mem_append.mp hu with z | z
          · exact har u z
          · rw [List.mem_singleton.mp z]; exact hmb
        · rw [getD_snoc, hal]
          by_cases c : k = i
          · rw [if_pos c, c]
            have := hcm j hj
            rw [hxg j hj] at this
            exact this
          · rw [if_neg c]; exact haq k (by omega) j hj
    · obtain ⟨e2, y4, y5, y7, y8, y9, ah, rfl, hah, hal, har, haq⟩ := hW
      refine ⟨_, rfl, _, _, rfl, .inl ⟨li_sq hah, fun l hl => ?_⟩⟩
      exact q l ah _ (by walk_at "k76e") (Evl.st_of upd_same) ⟨hal, har, haq⟩
end
end K76
namespace K76
open PySem PySem.Spec PyProof.Rows L2

def rep (k : Nat) (ns : List Int) : List Int := (List.replicate k ns).flatten
theorem rep_succ (k : Nat) (ns : List Int) : rep (k + 1) ns = ns ++ rep k ns := by
  unfold rep
  rw [List.replicate_succ, List.flatten_cons]
theorem rep_len (ns : List Int) : ∀ k : Nat, (rep k ns).length = k * ns.length
  | 0 => by rw [Nat.zero_mul]; rfl
  | k + 1 => by rw [rep_succ, List.length_append, rep_len ns k, Nat.succ_mul]; omega
theorem rep_get (ns : List Int) : ∀ (k j : Nat), j < k * ns.length → (rep k ns).getD j 0 = ns.getD (j % ns.length) 0
  | 0, j, h => by rw [Nat.zero_mul] at h; omega
  | k + 1, j, h => by
    rw [Nat.succ_mul] at h
    rw [rep_succ, List.getD_eq_getElem?_getD, List.getElem?_append]
    by_cases c : j < ns.length
    · rw [if_pos c, Nat.mod_eq_of_lt c, List.getD_eq_getElem?_getD]
    · have e := Nat.mod_eq_sub_mod (show ns.length ≤ j by omega)
      rw [if_neg c, ← List.getD_eq_getElem?_getD, rep_get ns k _ (by omega), e]
theorem rep_rep (ns : List Int) (a : Nat) : ∀ b : Nat, rep b (rep a ns) = rep (b * a) ns
  | 0 => by rw [Nat.zero_mul]; rfl
  | b + 1 => by
    rw [rep_succ, rep_rep ns a b, Nat.succ_mul, Nat.add_comm]
    unfold rep
    rw [← List.replicate_append_replicate, List.flatten_append]
theorem rep_one (ns : List Int) : rep 1 ns = ns := by rw [rep_succ]; show ns ++ [] = ns; simp
theorem rep_mapV (k : Nat) (ns : List Int) : (List.replicate k (ns.map V.int)).flatten = (rep k ns).map V.int := by
  unfold rep
  induction k with
  | zero => rfl
  | succ k ih => rw [List.replicate_succ, List.flatten_cons, ih, List.replicate_succ, List.flatten_cons, List.map_append]
theorem ahd_rep {p : Int} {ts : List (Int × Int)} {N k : Nat} {ns s : List Int} (hN : N = k * ns.length) (hn : 0 < ns.length) : Ahd p ts N (rep k ns) s ↔ Ahd p ts N ns s := by
  have key : ∀ i, i < N → (rep k ns).getD (i % (rep k ns).length) 0 = ns.getD (i % ns.length) 0 := fun i hi => by
    rw [rep_len, ← hN, Nat.mod_eq_of_lt hi, rep_get _ _ _ (by omega)]
  constructor
  · intro h
    exact ⟨h.len, h.rg, fun i hi => by rw [← key i hi]; exact h.stp i hi⟩
  · intro h
    exact ⟨h.len, h.rg, fun i hi => by rw [key i hi]; exact h.stp i hi⟩
theorem pol_ex {p : Nat} (hp : Pr p) {ts : List (Int × Int)} (ha : Asc ts) (hne : lft p ts ≠ []) : ∃ hi one, Rul p ts hi one ∧ Can p one ∧ one ≠ [] ∧ ∀ (c : Int) (w : Nat), (∀ t ∈ ts, c ≤ t.1 ∧ t.1 < c + w) → one.length ≤ w := by
  have hpb := hp.b
  have ha' := ha.lft (p : Int)
  have hL := List.length_pos_iff.mpr hne
  have hle := ha'.le (i := 0) (j := (lft p ts).length - 1) (by omega) (by omega)
  obtain ⟨fd, hfd⟩ : ∃ fd, fd = (List.range (((lft p ts).getD ((lft p ts).length - 1) (0, 0)).1 - ((lft p ts).getD 0 (0, 0)).1 + 1).toNat).map fun (k : Nat) => cf (lft p ts) (((lft p ts).getD 0 (0, 0)).1 + k) := ⟨_, rfl⟩
  have hR : PolR p (lft p ts) ((lft p ts).getD 0 (0, 0)).1 fd := by
    refine pol_done (by omega) ha hne ?_ (by rw [hfd, List.length_map, List.length_range]) fun k => ?_
    · intro x hx
      rw [hfd] at hx
      obtain ⟨k, _, rfl⟩ := List.mem_map.mp hx
      by_cases c : ∃ t ∈ lft p ts, t.1 = ((lft p ts).getD 0 (0, 0)).1 + k
      · obtain ⟨t, ht, e⟩ := c
        rw [← e, cf_mem ha' ht]
        have := lft_mem (show (0 : Int) < p by omega) ht
        omega
      · rw [cf_none fun t ht e => c ⟨t, ht, e⟩]; omega
    · rw [hfd, List.getD_eq_getElem?_getD, List.getElem?_map]
      by_cases c : k < (((lft p ts).getD ((lft p ts).length - 1) (0, 0)).1 - ((lft p ts).getD 0 (0, 0)).1 + 1).toNat
      · rw [List.getElem?_range c]; rfl
      · rw [List.getElem?_eq_none (by rw [List.length_range]; omega)]
        show (0 : Int) = _
        rw [cf_none fun t ht e => ?_]
        obtain ⟨i, hi, rfl⟩ := getD_of_mem ht
        have := ha'.le (i := i) (j := (lft p ts).length - 1) (by omega) (by omega)
        omega
  obtain ⟨h1, h2, h3⟩ := hR.rev ha
  refine ⟨_, _, h1, h2, h3, fun c w h => ?_⟩
  rw [List.length_reverse]
  refine hR.len c w fun t ht => ?_
  obtain ⟨_, _, u, hu, e⟩ := lft_mem (show (0 : Int) < p by omega) ht
  have := h u hu
  omega
theorem rul_ex {p : Nat} (hp : Pr p) {ts : List (Int × Int)} (ha : Asc ts) : ∃ hi one, Rul p ts hi one := by
  by_cases h : lft p ts = []
  · exact ⟨0, [], ha, fun t ht => by rw [h] at ht; exact absurd ht (by simp), fun k => by rw [h]; rfl⟩
  · obtain ⟨hi, one, h1, _⟩ := pol_ex hp ha h
    exact ⟨hi, one, h1⟩
/-- nought modulo the prime, and the row is not -/
def Hopl (p : Int) (ts : List (Int × Int)) (ns : List Int) : Prop := lft p ts = [] ∧ ∃ v ∈ ns, v % p ≠ 0
/-- how great a power is at most needed -/
def Fit (p : Nat) (ts : List (Int × Int)) (a0 : Nat) : Prop := ∃ (c : Int) (w : Nat), (∀ t ∈ ts, c ≤ t.1 ∧ t.1 < c + w) ∧ w ≤ p ^ a0
theorem great_ex {p : Nat} (hp : Pr p) {ts : List (Int × Int)} (ha : Asc ts) {ns : List Int} (hn : 0 < ns.length) (hh : ¬ Hopl p ts ns) {a0 : Nat} (hf : Fit p ts a0) : HasI p ts (ns.length * p ^ a0) ns := by
  have hpb := hp.b
  by_cases h : lft p ts = []
  · have hz : ∀ v ∈ ns, v % (p : Int) = 0 := fun v hv => Classical.byContradiction fun z => hh ⟨h, v, hv, z⟩
    refine ⟨List.replicate (ns.length * p ^ a0) 0, List.length_replicate, rg_zeros (by omega) _, fun i hi => ?_⟩
    rw [lft_nil h, hz _ (getI (Nat.mod_lt _ hn))]
  · obtain ⟨hi, one, h1, h2, h3, h4⟩ := pol_ex hp ha h
    obtain ⟨c, w, h5, h6⟩ := hf
    exact hasI_great hp h1 h2 h3 hn a0 (Nat.le_trans (h4 c w h5) h6)
def sp_least_of (K : PySem.W.Frag) : Sp := fun vs H Q _ => ∃ (a b : Addr) (ts : List (Int × Int)) (ns : List Int) (p a0 : Nat), vs = [.ref a, .ref b, .int p] ∧ Trms K H a ts ∧ TI K H b ns ∧ Pr p ∧ Asc ts ∧ ts.length ≤ 20 ∧ (∀ t ∈ ts, -5 ≤ t.1 ∧ t.1 ≤ 5) ∧ ns ≠ [] ∧ Fit p ts a0 ∧ ns.length * p ^ a0 ≤ 5000 ∧
  (Hopl p ts ns → ∀ H', Ex H H' → Q .non H') ∧ (¬ Hopl p ts ns → ∀ r s e H', Ex H H' → LI H' r s → e ≤ a0 → Ahd p ts (ns.length * p ^ e) ns s → (∀ b, b < e → ¬ HasI p ts (ns.length * p ^ b) ns) → Q (.ref r) H')
theorem anyl {ts : List (Int × Int)} {p : Int} : (((List.range ts.length).map fun i => !decide (V.int ((ts.getD i (0, 0)).2 % p) = V.int 0)).any id) = !decide (lft p ts = []) := by
  rw [Bool.eq_iff_iff, List.any_map, List.any_eq_true]
  constructor
  · rintro ⟨i, hi, h⟩
    have hi' := List.mem_range.mp hi
    have h0 : ¬ (ts.getD i (0, 0)).2 % p = 0 := by
      intro z
      have h' : (!decide (V.int ((ts.getD i (0, 0)).2 % p) = V.int 0)) = true := h
      rw [z] at h'
      simp at h'
    have : ((ts.getD i (0, 0)).1, (ts.getD i (0, 0)).2 % p) ∈ lft p ts := by
      unfold lft
      exact List.mem_filter.mpr ⟨List.mem_map.mpr ⟨_, mem_getD hi', rfl⟩, by simpa using h0⟩
    have hne : lft p ts ≠ [] := fun z => by rw [z] at this; exact absurd this (by simp)
    simp [hne]
  · intro h
    have hne : lft p ts ≠ [] := by simpa using h
    obtain ⟨t, ht⟩ := List.exists_mem_of_ne_nil _ hne
    unfold lft at ht
    obtain ⟨h1, h2⟩ := List.mem_filter.mp ht
    obtain ⟨u, hu, rfl⟩ := List.mem_map.mp h1
    obtain ⟨i, hi, rfl⟩ := getD_of_mem hu
    refine ⟨i, List.mem_range.mpr hi, ?_⟩
    have h3 : ¬ (ts.getD i (0, 0)).2 % p = 0 := by simpa using h2
    show (!decide (V.int ((ts.getD i (0, 0)).2 % p) = V.int 0)) = true
    rw [decide_eq_false fun z => h3 (V.int.inj z)]; rfl
theorem anyv {ns : List Int} {p : Int} : (((List.range ns.length).map fun i => !decide (V.int (ns.getD i 0 % p) = V.int 0)).any id) = true ↔ ∃ v ∈ ns, v % p ≠ 0 := by
  rw [List.any_map, List.any_eq_true]
  constructor
  · rintro ⟨i, hi, h⟩
    refine ⟨_, getI (List.mem_range.mp hi), fun z => ?_⟩
    have h' : (!decide (V.int (ns.getD i 0 % p) = V.int 0)) = true := h
    rw [z] at h'
    simp at h'
  · rintro ⟨v, hv, h⟩
    obtain ⟨i, hi, rfl⟩ := List.getElem_of_mem hv
    refine ⟨i, List.mem_range.mpr hi, ?_⟩
    have e : ns.getD i 0 = ns[i] := by rw [List.getD_eq_getElem?_getD, List.getElem?_eq_getElem hi]; rfl
    show (!decide (V.int (ns.getD i 0 % p) = V.int 0)) = true
    rw [e, decide_eq_false fun z => h (V.int.inj z)]; rfl
theorem ite_b {b : Bool} {A B : Prop} (h1 : b = true → A) (h2 : b = false → B) : if b = true then A else B := by
  cases b with
  | true => exact iteT (h1 rfl)
  | false => exact iteF (h2 rfl)
section
variable {P : Program} {w : World} {K : PySem.W.Frag} {mg : Str → Option Value} {base : Heap}
theorem cal_least_of (T : Txt K mg) : C8.Cal P w K mg base 7 "least_of" (sp_least_of K) [] := by
  have c_ahead_of : C8.Cal P w K mg base 6 "ahead_of" (sp_ahead_of K) [] := cal_ahead_of T
  obtain ⟨f, fd, F, df⟩ := T.d_least_of
  refine C8.cal0 F (F.fn.binds df fun _ _ _ _ _ _ us hl => ?bnd) .nil sc_least_of (fun vs H Q E h => ?len) fun cdv A outer s H vs Q E hr h => ?_
  case bnd => obtain ⟨a0, a1, a2, rfl⟩ := ln3 hl; rfl
  case len => first | (obtain ⟨_, rfl, _⟩ := h; rfl) | (obtain ⟨_, _, rfl, _⟩ := h; rfl) | (obtain ⟨_, _, _, rfl, _⟩ := h; rfl) | (obtain ⟨_, _, _, _, rfl, _⟩ := h; rfl) | (obtain ⟨_, _, _, _, _, rfl, _⟩ := h; rfl) | (obtain ⟨_, _, _, _, _, _, rfl, _⟩ := h; rfl) | (obtain ⟨_, _, _, _, _, _, _, rfl, _⟩ := h; rfl) | (obtain ⟨_, _, _, _, _, _, _, _, rfl, _⟩ := h; rfl) | (obtain ⟨_, _, _, _, _, _, _, _, _, rfl, _⟩ := h; rfl) | (obtain ⟨_, _, _, _, _, _, _, _, _, _, rfl, _⟩ := h; rfl) | (obtain ⟨_, _, _, _, _, _, _, _, _, _, _, rfl, _⟩ := h; rfl)
  have sc := sc_least_of
  obtain ⟨a, b, ts, ns, p, a0, rfl, hA, hB, hp, ha, hz, ho, hne, hf, hsz, q1, q2⟩ := h
  have hpb := hp.b
  have hN := List.length_pos_iff.mpr hne
  obtain ⟨xs, hx, hP⟩ := id hA
  have hxl := hP.1
  have hpp : 0 < p ^ a0 := Nat.pow_pos (by omega)
  have hnl : ns.length ≤ 5000 := Nat.le_trans (Nat.le_mul_of_pos_right _ hpp) hsz
  refine ⟨_, (pss_cons (ps_if (PW.pt (pw_and (pt_not (pt_val (pe_callB (cr_any rfl) (by rfl) T.b_any (by decide +kernel) (pa_cons (pe_lc (own := [("offset", 3), ("factor", 4)]) (g := (gTup K 2 (gCons (gName 3) (gCons (gName 4) gNil)))) (tt := tYes) rfl sc.nd (pi_tup (pv 0)) (blkOk_by (N := n_least_of) (sc := C8.fnScope s_least_of) (by decide +kernel)) (fun _ _ _ _ _ => (pg_tupK (K0 := K) rfl (pgs_cons (pg_name (i := 3) sc.nd rfl (Or.inl rfl)) (pgs_cons (pg_name (i := 4) sc.nd rfl (Or.inl rfl)) pgs_nil)))) (fun _ _ _ _ _ => pts_nil) (fun _ _ _ _ _ => (pe_cmpR op_ne (pe_op op_mod (pv 4) (pv 2)) pe_int (nomark _)))) pa_nil)))) (pw_and1 (pt_val (pe_callB (cr_any rfl) (by rfl) T.b_any (by decide +kernel) (pa_cons (pe_lc (own := [("value", 5)]) (g := (gName 5)) (tt := tYes) rfl sc.nd (pi_tup (pv 1)) (blkOk_by (N := n_least_of) (sc := C8.fnScope s_least_of) (by decide +kernel)) (fun _ _ _ _ _ => (pg_name (i := 5) sc.nd rfl (Or.inl rfl))) (fun _ _ _ _ _ => pts_nil) (fun _ _ _ _ _ => (pe_cmpR op_ne (pe_op op_mod (pv 5) (pv 2)) pe_int (nomark _)))) pa_nil)))))) (pss_one (ps_ret pe_non)) pss_nil)
      (pss_cons (ps_par (i := 6) (j := 7) (by rfl) sc.nd rfl rfl (by decide) rfl rfl (pa_cons (pe_callTy call_list_of (by rfl) T.b_list (by decide +kernel) (pa_cons (pv 1) pa_nil)) (pa_cons pe_non pa_nil)) (by rfl))
      (pss_cons (ps_while PassesOwn.never (pt_cmpR op_isN (pv 7) pe_non (nomark _)) (pss_cons (ps_set (i := 7) sc.nd rfl (Or.inl rfl) (pe_ix (ix_tupK (K0 := K)) (C8.pe_c c_ahead_of hr (by decide) (by rfl) (pa_cons (pv 0) (pa_cons (pv 6) (pa_cons (pv 2) pa_nil)))) pe_int (fun _ _ => rfl)))
      (pss_one (ps_set (i := 6) sc.nd rfl (Or.inl rfl) (pe_op op_rep (pv 6) (pv 2))))))
      (pss_one (ps_ret (pv 7)))))), ?_⟩
  refine ⟨_, rfl, _, rfl, ⟨_, hx⟩, lc_bl (src_tup hx) (by omega) (fun i => !decide (V.int ((ts.getD i (0, 0)).2 % (p : Int)) = V.int 0)) (fun i x H' Z hi e it z => ?_) (fun D H1 hD e hl => ?_)⟩
  · obtain ⟨U, hU, hU2⟩ := hP.2 i (by omega)
    have ex : x = .ref U := Option.some.inj (it.symm.trans hU)
    subst ex
    exact ⟨_, _, rfl, show SqT K H' U _ by walk_at "k76h", rfl, _, _, rfl, _, _, rfl, rfl, rfl, _, rfl, _, rfl, _, _, rfl, rfl, by omega, rfl, z _ (by walk_at "k76e")⟩
  rw [hxl] at hl
  refine ⟨_, _, rfl, li_sq hl, _, rfl, ?_⟩
  rw [anyl]
  by_cases h0' : lft p ts = []
  · rw [decide_eq_true h0']
    refine iteT ?_
    have hBv : SqT K H1 b (ns.map V.int) := by walk_at "k76h"
    refine ⟨_, rfl, _, rfl, ⟨_, hBv⟩, lc_bl (src_tup hBv) (by rw [List.length_map]; omega) (fun i => !decide (V.int (ns.getD i 0 % (p : Int)) = V.int 0)) (fun i x H' Z hi e it z => ?_) (fun D2 H2 hD2 e2 hl2 => ?_)⟩
    · obtain ⟨rfl, _⟩ := at_map it
      exact ⟨rfl, _, rfl, _, rfl, _, _, rfl, rfl, by omega, rfl, z _ (by walk_at "k76e")⟩
    · rw [List.length_map] at hl2
      refine ⟨_, _, rfl, li_sq hl2, _, rfl, ?_⟩
      refine ite_b (fun h1 => ?_) (fun h1 => ?_)
      · exact q1 ⟨h0', anyv.mp h1⟩ _ (by walk_at "k76e")
      · have hh : ¬ Hopl p ts ns := fun ⟨_, z⟩ => by rw [anyv.mpr z] at h1; cases h1
        have e02 : Ex H H2 := by walk_at "k76e"
        generalize H2 = G at *
        clear hl hl2 hD hD2 e e2 hBv
        refine ⟨_, rfl, _, _, rfl, .inr (show SqT K G b (ns.map V.int) by walk_at "k76h"), fun cu kc => ?_⟩
        refine ⟨_, _, rfl, ?_⟩
        have nc : H cu = none := fr_dn kc e02
        refine while_m (fun m σ H' => Ex H H' ∧ ∃ (y3 y4 y5 : Option V) (cur : Addr) (x : V) (i : Nat), σ = [some (.ref a), some (.ref b), some (.int p), y3, y4, y5, some (.ref cur), some x] ∧ i + m = a0 + 1 ∧ LI H' cur (rep (p ^ i) ns) ∧
          ((x = .non ∧ ∀ b, b < i → ¬ HasI p ts (ns.length * p ^ b) ns) ∨ ∃ r s e, x = .ref r ∧ LI H' r s ∧ e ≤ a0 ∧ Ahd p ts (ns.length * p ^ e) ns s ∧ ∀ b, b < e → ¬ HasI p ts (ns.length * p ^ b) ns)) (a0 + 1) ?_ (fun m σ H' hW => ?_)
        · exact ⟨by walk_at "k76e", _, _, _, cu, .non, 0, rfl, by omega, by rw [Nat.pow_zero, rep_one]; exact upd_same, .inl ⟨rfl, fun b hb => absurd hb (Nat.not_lt_zero _)⟩⟩
        · obtain ⟨e1, y3, y4, y5, cur, x, i, rfl, him, hcu, hcase⟩ := hW
          refine ⟨_, rfl, rfl, _, rfl, ?_⟩
          rcases hcase with ⟨rfl, hno⟩ | ⟨r, s2, e3, rfl, hs, he3, hA3, hno⟩
          · refine itd (fun _ => ?_) (fun h => absurd rfl h)
            have hi : i ≤ a0 := by
              refine Nat.le_of_not_lt fun z => hno a0 z (great_ex hp ha hN hh hf)
            have hpi : p ^ i ≤ p ^ a0 := Nat.pow_le_pow_right (by omega) hi
            have hpi0 : 0 < p ^ i := Nat.pow_pos (by omega)
            have hcl : (rep (p ^ i) ns).length = ns.length * p ^ i := by rw [rep_len, Nat.mul_comm]
            have hcl2 : ns.length * p ^ i ≤ 5000 := Nat.le_trans (Nat.mul_le_mul_left _ hpi) hsz
            have hcl3 : 0 < ns.length * p ^ i := Nat.mul_pos hN hpi0
            refine ⟨_, fun _ _ z => z, ?_⟩
            refine ⟨_, rfl, _, rfl, _, rfl, a, cur, ts, rep (p ^ i) ns, p, rfl, hA.up e1, hcu, hp, ha, hz, ho, (fun z => by rw [z] at hcl; rw [← hcl] at hcl3; exact absurd hcl3 (by decide)), by omega, fun t x2 fr H5 e5 ht hx5 => ?_⟩
            refine ⟨_, _, _, _, rfl, rfl, ht, at0, ?_⟩
            have hcu5 : LI H5 cur (rep (p ^ i) ns) := own_up hcu e5
            refine ⟨_, rfl, _, rfl, _, _, _, rfl, rfl, hcu5, by omega, by omega, Evl.sz_of ?_, fun c2 kc2 => ?_⟩
            · rw [List.length_map, hcl, Int.toNat_natCast]
              have := Nat.mul_le_mul_left (ns.length * p ^ i) (show p ≤ 13 by omega)
              omega
            rw [hcl] at hx5
            refine ⟨m - 1, by omega, by walk_at "k76e", _, _, _, c2, x2, i + 1, rfl, by omega, ?_, ?_⟩
            · rw [Int.toNat_natCast, rep_mapV, rep_rep, Nat.mul_comm, ← Nat.pow_succ]
              exact upd_same
            · rcases hx5 with ⟨rfl, hno5⟩ | ⟨r5, s5, rfl, hs5, hA5⟩
              · refine .inl ⟨rfl, fun b hb => ?_⟩
                by_cases c : b < i
                · exact hno b c
                · rw [show b = i by omega]
                  rintro ⟨s6, h6⟩
                  exact hno5 ⟨s6, (ahd_rep (Nat.mul_comm _ _) hN).mpr h6⟩
              · exact .inr ⟨r5, s5, i, rfl, own_new kc2 hs5, hi, (ahd_rep (Nat.mul_comm _ _) hN).mp hA5, hno⟩
          · refine itd (fun h => by cases h) (fun _ => ?_)
            exact ⟨_, rfl, q2 hh r s2 e3 _ (by walk_at "k76e") hs he3 hA3 hno⟩
  · rw [decide_eq_false h0']
    refine iteF ?_
    have hh : ¬ Hopl p ts ns := fun ⟨z, _⟩ => h0' z
    have e02 : Ex H H1 := by walk_at "k76e"
    generalize H1 = G at *
    clear hl hD e
    refine ⟨_, rfl, _, _, rfl, .inr (show SqT K G b (ns.map V.int) by walk_at "k76h"), fun cu kc => ?_⟩
    refine ⟨_, _, rfl, ?_⟩
    have nc : H cu = none := fr_dn kc e02
    refine while_m (fun m σ H' => Ex H H' ∧ ∃ (y3 y4 y5 : Option V) (cur : Addr) (x : V) (i : Nat), σ = [some (.ref a), some (.ref b), some (.int p), y3, y4, y5, some (.ref cur), some x] ∧ i + m = a0 + 1 ∧ LI H' cur (rep (p ^ i) ns) ∧
      ((x = .non ∧ ∀ b, b < i → ¬ HasI p ts (ns.length * p ^ b) ns) ∨ ∃ r s e, x = .ref r ∧ LI H' r s ∧ e ≤ a0 ∧ Ahd p ts (ns.length * p ^ e) ns s ∧ ∀ b, b < e → ¬ HasI p ts (ns.length * p ^ b) ns)) (a0 + 1) ?_ (fun m σ H' hW => ?_)
    · exact ⟨by walk_at "k76e", _, _, _, cu, .non, 0, rfl, by omega, by rw [Nat.pow_zero, rep_one]; exact upd_same, .inl ⟨rfl, fun b hb => absurd hb (Nat.not_lt_zero _)⟩⟩
    · obtain ⟨e1, y3, y4, y5, cur, x, i, rfl, him, hcu, hcase⟩ := hW
      refine ⟨_, rfl, rfl, _, rfl, ?_⟩
      rcases hcase with ⟨rfl, hno⟩ | ⟨r, s2, e3, rfl, hs, he3, hA3, hno⟩
      · refine itd (fun _ => ?_) (fun h => absurd rfl h)
        have hi : i ≤ a0 := by
          refine Nat.le_of_not_lt fun z => hno a0 z (great_ex hp ha hN hh hf)
        have hpi : p ^ i ≤ p ^ a0 := Nat.pow_le_pow_right (by omega) hi
        have hpi0 : 0 < p ^ i := Nat.pow_pos (by omega)
        have hcl : (rep (p ^ i) ns).length = ns.length * p ^ i := by rw [rep_len, Nat.mul_comm]
        have hcl2 : ns.length * p ^ i ≤ 5000 := Nat.le_trans (Nat.mul_le_mul_left _ hpi) hsz
        have hcl3 : 0 < ns.length * p ^ i := Nat.mul_pos hN hpi0
        refine ⟨_, fun _ _ z => z, ?_⟩
        refine ⟨_, rfl, _, rfl, _, rfl, a, cur, ts, rep (p ^ i) ns, p, rfl, hA.up e1, hcu, hp, ha, hz, ho, (fun z => by rw [z] at hcl; rw [← hcl] at hcl3; exact absurd hcl3 (by decide)), by omega, fun t x2 fr H5 e5 ht hx5 => ?_⟩
        refine ⟨_, _, _, _, rfl, rfl, ht, at0, ?_⟩
        have hcu5 : LI H5 cur (rep (p ^ i) ns) := own_up hcu e5
        refine ⟨_, rfl, _, rfl, _, _, _, rfl, rfl, hcu5, by omega, by omega, Evl.sz_of ?_, fun c2 kc2 => ?_⟩
        · rw [List.length_map, hcl, Int.toNat_natCast]
          have := Nat.mul_le_mul_left (ns.length * p ^ i) (show p ≤ 13 by omega)
          omega
        rw [hcl] at hx5
        refine ⟨m - 1, by omega, by walk_at "k76e", _, _, _, c2, x2, i + 1, rfl, by omega, ?_, ?_⟩
        · rw [Int.toNat_natCast, rep_mapV, rep_rep, Nat.mul_comm, ← Nat.pow_succ]
          exact upd_same
        · rcases hx5 with ⟨rfl, hno5⟩ | ⟨r5, s5, rfl, hs5, hA5⟩
          · refine .inl ⟨rfl, fun b hb => ?_⟩
            by_cases c : b < i
            · exact hno b c
            · rw [show b = i by omega]
              rintro ⟨s6, h6⟩
              exact hno5 ⟨s6, (ahd_rep (Nat.mul_comm _ _) hN).mpr h6⟩
          · exact .inr ⟨r5, s5, i, rfl, own_new kc2 hs5, hi, (ahd_rep (Nat.mul_comm _ _) hN).mp hA5, hno⟩
      · refine itd (fun h => by cases h) (fun _ => ?_)
        exact ⟨_, rfl, q2 hh r s2 e3 _ (by walk_at "k76e") hs he3 hA3 hno⟩
end
end K76
namespace K76
open PySem PySem.Spec PyProof.Rows L2

theorem tab_cop : ∀ e ∈ tabE, ∀ p ∈ e.2, ∀ q ∈ e.2, p ≠ q → Nat.Coprime p.toNat q.toNat := by decide +kernel
theorem crt_eq {m x y : Int} {ps : List Int} (hk : look m = some ps) (hx : 0 ≤ x ∧ x < m) (hy : 0 ≤ y ∧ y < m) (h : ∀ p ∈ ps, x % p = y % p) : x = y := by
  have e := look_mem hk
  unfold tabE at e
  simp only [List.mem_cons, Prod.mk.injEq, List.not_mem_nil, or_false] at e
  rcases e with ⟨rfl, rfl⟩ | ⟨rfl, rfl⟩ | ⟨rfl, rfl⟩ | ⟨rfl, rfl⟩ | ⟨rfl, rfl⟩ | ⟨rfl, rfl⟩ | ⟨rfl, rfl⟩ | ⟨rfl, rfl⟩ | ⟨rfl, rfl⟩ | ⟨rfl, rfl⟩ <;> (simp only [List.mem_cons, List.not_mem_nil, or_false, forall_eq_or_imp, forall_eq] at h; omega)
theorem stp_mod {p : Int} {s s' : List Int} (h : ∀ j : Int, s.getD (j % s.length).toNat 0 % p = s'.getD (j % s'.length).toNat 0 % p) (i : Int) : ∀ ts : List (Int × Int), stp ts s i % p = stp ts s' i % p
  | [] => rfl
  | t :: ts => by
    have ih := stp_mod h i ts
    unfold stp at ih ⊢
    rw [List.map_cons, List.map_cons, List.sum_cons, List.sum_cons, Int.add_emod, Int.mul_emod, h, ih, ← Int.mul_emod, ← Int.add_emod]
/-- the product of the powers -/
def PE (ps : List Int) (e : Nat → Nat) : Nat → Nat
  | 0 => 1
  | i + 1 => PE ps e i * (ps.getD i 0).toNat ^ e i
theorem PE_congr {ps : List Int} {e e' : Nat → Nat} : ∀ i, (∀ j, j < i → e j = e' j) → PE ps e i = PE ps e' i
  | 0, _ => rfl
  | i + 1, h => by
    show PE ps e i * _ = PE ps e' i * _
    rw [PE_congr i fun j hj => h j (by omega), h i (by omega)]
theorem PE_pos {ps : List Int} {e : Nat → Nat} : ∀ i, (∀ j, j < i → 1 ≤ (ps.getD j 0).toNat) → 1 ≤ PE ps e i
  | 0, _ => Nat.le_refl _
  | i + 1, h => Nat.mul_pos (PE_pos i fun j hj => h j (by omega)) (Nat.pow_pos (h i (by omega)))
theorem PE_le {ps : List Int} {e e' : Nat → Nat} : ∀ i, (∀ j, j < i → 1 ≤ (ps.getD j 0).toNat ∧ e j ≤ e' j) → PE ps e i ≤ PE ps e' i
  | 0, _ => Nat.le_refl _
  | i + 1, h => Nat.mul_le_mul (PE_le i fun j hj => h j (by omega)) (Nat.pow_le_pow_right (h i (by omega)).1 (h i (by omega)).2)
theorem PE_up {ps : List Int} {e : Nat → Nat} {i : Nat} : ∀ k, (∀ j, j < i + k → 1 ≤ (ps.getD j 0).toNat) → PE ps e i ≤ PE ps e (i + k)
  | 0, _ => Nat.le_refl _
  | k + 1, h => Nat.le_trans (PE_up k fun j hj => h j (by omega)) (Nat.le_mul_of_pos_right _ (Nat.pow_pos (h (i + k) (by omega))))
theorem PE_dvd {ps : List Int} {e : Nat → Nat} : ∀ i j, j < i → (ps.getD j 0).toNat ^ e j ∣ PE ps e i
  | 0, j, h => absurd h (Nat.not_lt_zero _)
  | i + 1, j, h => by
    show _ ∣ PE ps e i * _
    by_cases c : j = i
    · rw [c]; exact Nat.dvd_mul_left _ _
    · exact Nat.dvd_trans (PE_dvd i j (by omega)) (Nat.dvd_mul_right _ _)
theorem val_ex {p : Nat} (hp : 2 ≤ p) : ∀ (n t : Nat), t ≤ n → 0 < t → ∃ b k, t = p ^ b * k ∧ ¬ p ∣ k
  | 0, t, h, h0 => absurd h0 (by omega)
  | n + 1, t, h, h0 => by
    by_cases c : p ∣ t
    · obtain ⟨u, rfl⟩ := c
      have hu : 0 < u := Nat.pos_of_mul_pos_left h0
      have : u < p * u := by
        have := Nat.mul_le_mul_right u hp
        omega
      obtain ⟨b, k, e, hk⟩ := val_ex hp n u (by omega) hu
      exact ⟨b + 1, k, by rw [e, Nat.pow_succ, Nat.mul_comm (p ^ b) p, Nat.mul_assoc], hk⟩
    · exact ⟨0, t, by rw [Nat.pow_zero, Nat.one_mul], c⟩
/-- the law's case -/
structure CaseR (m : Int) (ps : List Int) (ts : List (Int × Int)) (ns : List Int) : Prop where
  look : look m = some ps
  tok : TOk m ts
  rg : Rg m ns
  ne : ns ≠ []
  n12 : ns.length ≤ 12
  fit : ∃ A : Nat → Nat, (∀ j, j < ps.length → Fit (ps.getD j 0).toNat ts (A j) ∧ (ps.getD j 0).toNat ^ A j ≤ 400) ∧ PE ps A ps.length ≤ 1000
def AnyH (ps : List Int) (ts : List (Int × Int)) (ns : List Int) : Prop := ∃ p ∈ ps, Hopl p ts ns
/-- the least times, and a row ahead -/
structure LeastR (m : Int) (ps : List Int) (ts : List (Int × Int)) (ns : List Int) (tm : Nat) (ah : List Int) : Prop where
  t0 : 1 ≤ tm
  t1 : tm ≤ 1000
  len : ah.length = tm * ns.length
  rg : Rg m ah
  stp : ∀ i : Nat, i < tm * ns.length → stp ts ah i % m = ns.getD (i % ns.length) 0
  free : ∀ p ∈ ps, HasI p ts (ns.length * tm) ns
  least : ∀ d, d ∣ tm → 1 < d → ∃ p ∈ ps, ¬ HasI p ts (ns.length * (tm / d)) ns
theorem pr_nat {p : Int} (h : Pr p) : ∃ q : Nat, p = q ∧ Pr (q : Int) ∧ p.toNat = q ∧ 2 ≤ q := by
  have hb := h.b
  exact ⟨p.toNat, by omega, by rw [show ((p.toNat : Nat) : Int) = p by omega]; exact h, rfl, by omega⟩
theorem dvd_PE {m : Int} {ps : List Int} (hk : look m = some ps) {e : Nat → Nat} {t : Nat} (h : ∀ j, j < ps.length → (ps.getD j 0).toNat ^ e j ∣ t) : PE ps e ps.length ∣ t := by
  have hc := tab_cop _ (look_mem hk)
  rcases look_two hk with ⟨p, rfl, _⟩ | ⟨p, q, rfl, hpq, _⟩
  · have := h 0 (Nat.zero_lt_succ _)
    show 1 * _ ∣ t
    rw [Nat.one_mul]; exact this
  · have h0 := h 0 (Nat.zero_lt_succ _)
    have h1 := h 1 (Nat.lt_succ_self _)
    show 1 * _ * _ ∣ t
    rw [Nat.one_mul]
    exact Nat.Coprime.mul_dvd_of_dvd_of_dvd (Nat.Coprime.pow _ _ (hc p (by simp) q (by simp) hpq)) h0 h1
theorem least_done {m : Int} {ps : List Int} {ts : List (Int × Int)} {ns ah : List Int} {e : Nat → Nat} {rws rws' : List (List Int)} (C : CaseR m ps ts ns) (h1000 : PE ps e ps.length ≤ 1000)
    (hA : ∀ j, j < ps.length → Ahd (ps.getD j 0) ts (ns.length * (ps.getD j 0).toNat ^ e j) ns (rws.getD j []) ∧ ∀ b, b < e j → ¬ HasI (ps.getD j 0) ts (ns.length * (ps.getD j 0).toNat ^ b) ns)
    (hr : ∀ j, j < ps.length → ∃ k, rws'.getD j [] = rep k (rws.getD j []) ∧ k * (rws.getD j []).length = ns.length * PE ps e ps.length) (hP : PutR m ps rws' (ns.length * PE ps e ps.length) ah) : LeastR m ps ts ns (PE ps e ps.length) ah := by
  have L := look_ok C.look
  have hn := List.length_pos_iff.mpr C.ne
  have hpr := fun j (hj : j < ps.length) => pr_nat (L.pr _ (getI hj))
  have hpos : 1 ≤ PE ps e ps.length := PE_pos _ fun j hj => by obtain ⟨q, _, _, h, h2⟩ := hpr j hj; omega
  generalize hT : PE ps e ps.length = T at *
  refine ⟨hpos, h1000, by rw [hP.len, Nat.mul_comm], hP.rg, fun i hi => ?_, fun p hp => ?_, fun d hd hd1 => ?_⟩
  · have hLm := L.lo
    refine crt_eq C.look (mod_lt' (by omega)) (C.rg _ (getI (Nat.mod_lt _ hn))) fun p hp => ?_
    obtain ⟨j, hj, rfl⟩ := List.getElem_of_mem hp
    have ej : ps[j] = ps.getD j 0 := by rw [List.getD_eq_getElem?_getD, List.getElem?_eq_getElem hj]; rfl
    rw [ej] at hp ⊢
    rw [Int.emod_emod_of_dvd _ (L.dv _ hp)]
    obtain ⟨hA1, _⟩ := hA j hj
    obtain ⟨k, hk1, hk2⟩ := hr j hj
    obtain ⟨q, hq1, hq2, hq3, hq4⟩ := hpr j hj
    have hlj := hA1.len
    have hlpos : 0 < (rws.getD j []).length := by rw [hlj]; exact Nat.mul_pos hn (Nat.pow_pos (by omega))
    have hmod := stp_mod (p := ps.getD j 0) (s := ah) (s' := rws.getD j []) (fun x => by
      have hN : 0 < ah.length := by rw [hP.len]; exact Nat.mul_pos hn hpos
      have h0 := Int.emod_nonneg x (show (ah.length : Int) ≠ 0 by omega)
      have h1 := Int.emod_lt_of_pos x (show 0 < (ah.length : Int) by omega)
      rw [hP.eq _ (by rw [← hP.len]; omega) j hj, hk1, rep_get _ _ _ (by rw [hk2, ← hP.len]; omega)]
      congr 2
      have e5 : x % (ah.length : Int) % ((rws.getD j []).length : Int) = x % ((rws.getD j []).length : Int) := by
        refine Int.emod_emod_of_dvd _ ?_
        rw [hP.len, ← hk2, Int.natCast_mul]
        exact Int.dvd_mul_left _ _
      have h2 := Int.emod_nonneg x (show ((rws.getD j []).length : Int) ≠ 0 by omega)
      have e6 : (x % (ah.length : Int)) = (((x % (ah.length : Int)).toNat : Nat) : Int) := by omega
      rw [e6, ← Int.natCast_emod] at e5
      omega) i ts
    rw [hmod]
    -- stp of the found row, at i: of period its length
    have hper : stp ts (rws.getD j []) (i : Int) = stp ts (rws.getD j []) ((i % (rws.getD j []).length : Nat) : Int) := by
      unfold stp
      congr 1
      apply List.map_congr_left
      intro t _
      congr 2
      rw [Int.natCast_emod, Int.emod_add_emod]
    rw [hper, hA1.stp _ (by rw [← hlj]; exact Nat.mod_lt _ hlpos)]
    congr 2
    rw [hlj, Nat.mod_mul_right_mod]
  · obtain ⟨j, hj, rfl⟩ := List.getElem_of_mem hp
    have ej : ps[j] = ps.getD j 0 := by rw [List.getD_eq_getElem?_getD, List.getElem?_eq_getElem hj]; rfl
    rw [ej]
    obtain ⟨hA1, _⟩ := hA j hj
    obtain ⟨q, hq1, hq2, hq3, hq4⟩ := hpr j hj
    obtain ⟨hi, one, R⟩ := rul_ex hq2 C.tok.asc
    obtain ⟨k, hk⟩ := PE_dvd (ps := ps) (e := e) ps.length j hj
    rw [hT] at hk
    rw [hq1] at hA1 ⊢
    rw [hq3] at hk
    rw [Int.toNat_natCast] at hA1
    have k0 : 0 < k := Nat.pos_of_ne_zero fun z => by rw [z] at hk; omega
    rw [hk, ← Nat.mul_assoc]
    exact hasI_more hq2 R (Nat.mul_pos hn (Nat.pow_pos (by omega))) (Nat.dvd_mul_right _ _) k0 ⟨_, hA1⟩
  · refine Classical.byContradiction fun hno => ?_
    have hall : ∀ p ∈ ps, HasI p ts (ns.length * (T / d)) ns := fun p hp => Classical.byContradiction fun z => hno ⟨p, hp, z⟩
    have hdT : T / d * d = T := Nat.div_mul_cancel hd
    have ht0 : 0 < T / d := Nat.pos_of_ne_zero fun z => by rw [z] at hdT; omega
    have hlt : T / d < T := Nat.div_lt_self (by omega) hd1
    generalize T / d = t at *
    have : PE ps e ps.length ∣ t := dvd_PE C.look fun j hj => by
      obtain ⟨q, hq1, hq2, hq3, hq4⟩ := hpr j hj
      obtain ⟨b, k, e1, hk⟩ := val_ex hq4 t t (Nat.le_refl _) ht0
      obtain ⟨hi, one, R⟩ := rul_ex hq2 C.tok.asc
      obtain ⟨_, hA2⟩ := hA j hj
      have hh := hall _ (getI hj)
      rw [hq3]
      by_cases c : b < e j
      · refine absurd ?_ (hA2 b c)
        rw [hq3]
        rw [hq1] at hh ⊢
        rw [e1, ← Nat.mul_assoc] at hh
        exact hasI_part hq2 R (Nat.mul_pos hn (Nat.pow_pos (by omega))) (Nat.dvd_mul_right _ _) hk hh
      · rw [e1]
        exact Nat.dvd_trans (Nat.pow_dvd_pow q (by omega)) (Nat.dvd_mul_right _ _)
    rw [hT] at this
    have := Nat.le_of_dvd ht0 this
    omega
/-- a comprehension over a source, whose items may be new lists -/
theorem lc_srcD {J : It} {H1 : Hp} {n : Nat} {itm : Nat → V → Hp → Prop} (S : Src J H1 n itm) (hn : n ≤ 100000) {g : TG} {tt : TT} {te : TE} {vs : List Nat} {σ : L2.St} {Qd : Addr → Hp → Prop} (Pd : Addr → Nat → List V → Hp → Prop) (h0 : ∀ D H, Pd D 0 [] H)
    (mono : ∀ D i acc H H', Pd D i acc H → (∀ b o, b ≠ D → H b = some o → H' b = some o) → Pd D i acc H')
    (hs : ∀ D i x acc H' (Z : VK) (Z' : Hp → Prop), H' D = some (.lst acc) → i < n → Ex H1 H' → Pd D i acc H' → itm i x H' → (∀ y H4, Ex H' H4 → Pd D (i + 1) (acc ++ [y]) H4 → Z y H4) → (∀ H3, Ex H' H3 → Pd D (i + 1) acc H3 → Z' H3) →
      g x (wipe σ vs) H' fun σ2 H2 => wipe σ2 vs = wipe σ vs ∧ tt σ2 H2 fun b H3 => if b = true then te σ2 H3 Z else Z' H3)
    (hd : ∀ D H' acc, H1 D = none → Ex H1 H' → H' D = some (.lst acc) → Pd D n acc H' → Qd D H') :
    ∀ D, H1 D = none → ∃ W : Nat → Nat → Hp → Prop, (∃ m, W 0 m (upd H1 D (.lst []))) ∧ ∀ i m H, W i m H →
  (J.stop i H ∧ Qd D H) ∨ (J.go i H ∧ ∃ Nx : Hp → Prop, (∀ H', Nx H' → ∃ m', m' < m ∧ W (i + 1) m' H') ∧ ∀ x H', J.yld i H x H' → g x (wipe σ vs) H' fun σ2 H2 => wipe σ2 vs = wipe σ vs ∧ tt σ2 H2 fun b H3 =>
    if b = true then te σ2 H3 fun y H4 => ∃ acc, H4 D = some (.lst acc) ∧ acc.length < sizeLine ∧ Nx (upd H4 D (.lst (acc ++ [y]))) else Nx H3) := by
  intro D hD
  refine ⟨fun i m H => m = n - i ∧ i ≤ n ∧ Ex H1 H ∧ ∃ acc, H D = some (.lst acc) ∧ acc.length ≤ i ∧ Pd D i acc H, ⟨n, by simp, Nat.zero_le _, Evl.Ex.new hD, [], upd_same, Nat.le_refl _, h0 _ _⟩, ?_⟩
  rintro i m H ⟨rfl, hi, e, acc, hacc, hl, p⟩
  by_cases c : i < n
  · refine .inr ⟨S.go i H c e, fun H => Ex H1 H ∧ ∃ acc, H D = some (.lst acc) ∧ acc.length ≤ i + 1 ∧ Pd D (i + 1) acc H, fun H' q => ⟨n - (i + 1), by omega, rfl, by omega, q⟩, fun x H' y => ?_⟩
    obtain ⟨k, it⟩ := S.yld i H x H' c e y
    have ek := ext_of k
    have e' := e.trans ek
    have p' : Pd D i acc H' := mono D i acc H H' p fun b o _ hb => ek b o hb
    refine hs D i x acc H' _ _ (ek _ _ hacc) c e' p' it (fun y H4 e4 q3 => ?_) (fun H3 e3 q3 => ?_)
    · have hacc4 : H4 D = some (.lst acc) := e4 _ _ (ek _ _ hacc)
      refine ⟨acc, hacc4, Evl.sz_lt (by omega), Evl.Ex.mut (e'.trans e4) hD, _, upd_same, by rw [List.length_append]; show acc.length + 1 ≤ _; omega, mono _ _ _ _ _ q3 fun b o hb ho => ?_⟩
      rw [upd_ne hb]
      exact ho
    · exact ⟨e'.trans e3, acc, e3 _ _ (ek _ _ hacc), by omega, q3⟩
  · have e' : i = n := by omega
    subst e'
    exact .inl ⟨S.stop H e, hd D H acc hD e hacc p⟩
def RowsD (D : Addr) (H : Hp) (xs : List V) (rws : List (List Int)) : Prop := xs.length = rws.length ∧ ∀ i, i < rws.length → ∃ U, U ≠ D ∧ xs[i]? = some (.ref U) ∧ LI H U (rws.getD i [])
theorem RowsD.mono {D : Addr} {H H' : Hp} {xs : List V} {rws : List (List Int)} (h : RowsD D H xs rws) (e : ∀ b o, b ≠ D → H b = some o → H' b = some o) : RowsD D H' xs rws :=
  ⟨h.1, fun i hi => by
    obtain ⟨U, h1, h2, h3⟩ := h.2 i hi
    exact ⟨U, h1, h2, e _ _ h1 h3⟩⟩
theorem RowsD.snoc {D U : Addr} {H : Hp} {xs : List V} {rws : List (List Int)} {l : List Int} (h : RowsD D H xs rws) (hU : U ≠ D) (hl : LI H U l) : RowsD D H (xs ++ [.ref U]) (rws ++ [l]) :=
  ⟨by rw [List.length_append, List.length_append, h.1]; rfl, fun i hi => by
    rw [List.length_append] at hi
    have hi' : i < rws.length + 1 := hi
    rw [getD_app _ _ _ _ hi', List.getElem?_append, h.1]
    split
    · rename_i c
      exact h.2 i c
    · exact ⟨U, hU, by rw [show i - rws.length = 0 by omega]; rfl, hl⟩⟩
def sp_least_ahead (K : PySem.W.Frag) : Sp := fun vs H Q _ => ∃ (a b : Addr) (m : Int) (ps : List Int) (ts : List (Int × Int)) (ns : List Int), vs = [.ref a, .ref b] ∧ RuleV K H a m ts ∧ RowV K H b m ns ∧ CaseR m ps ts ns ∧ (AnyH ps ts ns → ∀ H', Ex H H' → Q .non H') ∧
  (¬ AnyH ps ts ns → ∀ (t x r : Addr) (tm : Nat) (ah : List Int) H', Ex H H' → SqT K H' t [.int tm, .ref x] → SqT K H' x [.int m, .ref r] → TI K H' r ah → LeastR m ps ts ns tm ah → Q (.ref t) H')
section
variable {P : Program} {w : World} {K : PySem.W.Frag} {mg : Str → Option Value} {base : Heap}
theorem fn_least_ahead (T : Txt K mg) {f : Addr} {fd : FuncData} (F : C8.Def K mg "least_ahead" s_least_ahead f fd) : FnOk P w K mg base C8.CX0 8 f fd p_least_ahead (sp_least_ahead K) := by
  have c_least_of : C8.Cal P w K mg base 7 "least_of" (sp_least_of K) [] := cal_least_of T
  have c_need_both : C8.Cal P w K mg base 6 "need_both" (sp_need_both K) [] := cal_need_both T
  have c_primes_in : C8.Cal P w K mg base 1 "primes_in" (sp_primes_in K) [] := cal_primes_in T
  have c_put_rows : C8.Cal P w K mg base 3 "put_rows" (sp_put_rows K) [] := cal_put_rows T
  refine C8.fn0 F.fn sc_least_ahead (fun vs H Q E h => ?len) fun cdv A outer s H vs Q E hr h => ?_
  case len => first | (obtain ⟨_, rfl, _⟩ := h; rfl) | (obtain ⟨_, _, rfl, _⟩ := h; rfl) | (obtain ⟨_, _, _, rfl, _⟩ := h; rfl) | (obtain ⟨_, _, _, _, rfl, _⟩ := h; rfl) | (obtain ⟨_, _, _, _, _, rfl, _⟩ := h; rfl) | (obtain ⟨_, _, _, _, _, _, rfl, _⟩ := h; rfl) | (obtain ⟨_, _, _, _, _, _, _, rfl, _⟩ := h; rfl) | (obtain ⟨_, _, _, _, _, _, _, _, rfl, _⟩ := h; rfl) | (obtain ⟨_, _, _, _, _, _, _, _, _, rfl, _⟩ := h; rfl) | (obtain ⟨_, _, _, _, _, _, _, _, _, _, rfl, _⟩ := h; rfl) | (obtain ⟨_, _, _, _, _, _, _, _, _, _, _, rfl, _⟩ := h; rfl)
  have sc := sc_least_ahead
  obtain ⟨a, b, m, ps, ts, ns, rfl, hA, hB, C, q1, q2⟩ := h
  have L := look_ok C.look
  have hn := List.length_pos_iff.mpr C.ne
  have hn12 := C.n12
  have hT := C.tok
  have L3 := L.two
  have L4 := L.one
  obtain ⟨A0, hF, hPA⟩ := C.fit
  have hpr := fun j (hj : j < ps.length) => pr_nat (L.pr _ (getI hj))
  have hp1 : ∀ j, j < ps.length → 1 ≤ (ps.getD j 0).toNat := fun j hj => by obtain ⟨q, _, _, h, h2⟩ := hpr j hj; omega
  obtain ⟨ta, hA1, hA2⟩ := id hA
  obtain ⟨vb, hB1, hB2⟩ := id hB
  refine ⟨_, (pss_cons (ps_expr (C8.pe_c c_need_both hr (by decide) (by rfl) (pa_cons (pv 0) (pa_cons (pv 1) pa_nil))))
      (pss_cons (ps_asg (pv 1) (pg_tup rfl (pgs_cons (pg_name (i := 2) sc.nd rfl (Or.inl rfl)) (pgs_cons (pg_name (i := 3) sc.nd rfl (Or.inl rfl)) pgs_nil))))
      (pss_cons (ps_asg (pe_tup (pa_cons (pe_lst pa_nil) (pa_cons (pe_callB (call_lenK (K0 := K)) (by rfl) T.b_len (by decide +kernel) (pa_cons (pv 3) pa_nil)) pa_nil))) (pg_tup rfl (pgs_cons (pg_name (i := 4) sc.nd rfl (Or.inl rfl)) (pgs_cons (pg_name (i := 5) sc.nd rfl (Or.inr rfl)) pgs_nil))))
      (pss_cons (ps_for PassesOwn.never rfl (pi_tup (C8.pe_c c_primes_in hr (by decide) (by rfl) (pa_cons (pv 2) pa_nil))) (pg_name (i := 6) sc.nd rfl (Or.inl rfl)) (pss_cons (ps_set (i := 7) sc.nd rfl (Or.inl rfl) (C8.pe_c c_least_of hr (by decide) (by rfl) (pa_cons (pe_ix (ix_tupK (K0 := K)) (pv 0) pe_int (fun _ _ => rfl)) (pa_cons (pv 3) (pa_cons (pv 6) pa_nil)))))
      (pss_cons (ps_if (pt_cmpR op_isN (pv 7) pe_non (nomark _)) (pss_one (ps_ret pe_non)) pss_nil)
      (pss_cons (ps_expr (pe_bm PySem.F.plainAttrs_list PySem.F.slot_list_append PySem.F.type_list_append mt_append (pv 4) (pa_cons (pv 7) pa_nil)))
      (pss_one (ps_set (i := 5) sc.nd rfl (Or.inr rfl) (pe_op op_mul (pv 5) (pe_op op_fdiv (pe_callB (call_lenK (K0 := K)) (by rfl) T.b_len (by decide +kernel) (pa_cons (pv 7) pa_nil)) (pe_callB (call_lenK (K0 := K)) (by rfl) T.b_len (by decide +kernel) (pa_cons (pv 3) pa_nil))))))))))
      (pss_cons (ps_set (i := 8) sc.nd rfl (Or.inl rfl) (C8.pe_c c_put_rows hr (by decide) (by rfl) (pa_cons (pv 2) (pa_cons (pe_lc (own := [("found", 7)]) (g := (gName 7)) (tt := tYes) rfl sc.nd (pi_list (pv 4)) (blkOk_by (N := n_least_ahead) (sc := C8.fnScope s_least_ahead) (by decide +kernel)) (fun _ _ _ _ _ => (pg_name (i := 7) sc.nd rfl (Or.inl rfl))) (fun _ _ _ _ _ => pts_nil) (fun _ _ _ _ _ => (pe_op op_rep (pv 7) (pe_op op_fdiv (pv 5) (pe_callB (call_lenK (K0 := K)) (by rfl) T.b_len (by decide +kernel) (pa_cons (pv 7) pa_nil)))))) pa_nil))))
      (pss_one (ps_ret (pe_tup (pa_cons (pe_op op_fdiv (pv 5) (pe_callB (call_lenK (K0 := K)) (by rfl) T.b_len (by decide +kernel) (pa_cons (pv 3) pa_nil))) (pa_cons (pe_tup (pa_cons (pv 2) (pa_cons (pv 8) pa_nil))) pa_nil)))))))))), ?_⟩
  refine ⟨_, rfl, _, rfl, a, b, m, ps, ns, ts, rfl, hA, hB, C.look, hT, C.rg, C.ne, by omega, fun H1 e1 => ?_⟩
  refine ⟨_, rfl, _, _, rfl, sqt_up hB1 e1, rfl, _, _, rfl, _, _, rfl, rfl, ?_⟩
  refine ⟨sz0, fun a1 k1 => ?_⟩
  have hvb : SqT K (upd H1 a1 (.lst [])) vb (ns.map V.int) := by walk_at "k76h"
  refine ⟨_, rfl, _, _, rfl, .inr hvb, sz2, fun a2 k2 => ?_⟩
  refine ⟨_, _, rfl, Evl.st_of upd_same, rfl, _, _, rfl, _, _, rfl, rfl, ?_⟩
  have n1 : H a1 = none := fr_dn k1 e1
  have eG : Ex H (upd (upd H1 a1 (.lst [])) a2 (.tup [.ref a1, .int (ns.map V.int).length])) := by walk_at "k76e"
  have lG : (upd (upd H1 a1 (.lst [])) a2 (.tup [.ref a1, .int (ns.map V.int).length])) a1 = some (.lst []) := by walk_at "k76h"
  generalize (upd (upd H1 a1 (.lst [])) a2 (.tup [.ref a1, .int (ns.map V.int).length])) = G at *
  clear hvb k2 k1 e1
  refine ⟨_, rfl, m, ps, rfl, C.look, fun a3 H3 e3 h3 => ?_⟩
  refine ⟨_, rfl, ⟨_, h3⟩, ?_⟩
  rw [lenm]
  have e03 : Ex H H3 := by walk_at "k76e"
  have l3 : H3 a1 = some (.lst []) := e3 _ _ lG
  obtain ⟨B, hB⟩ : ∃ B : Hp, B = fun b => if b = a1 then none else H3 b := ⟨_, rfl⟩
  have nB : B a1 = none := by rw [hB]; exact if_pos rfl
  have eB : Ex B H3 := fun b o hb => by
    rw [hB] at hb
    have hb : (if b = a1 then none else H3 b) = some o := hb
    by_cases c : b = a1
    · rw [if_pos c] at hb; cases hb
    · rw [if_neg c] at hb; exact hb
  have h3B : SqT K B a3 (ps.map V.int) := by
    rcases h3 with (h | ⟨o, h⟩) | h
    · refine .inl (.inl ?_)
      rw [hB]
      exact (if_neg fun z => by rw [z, l3] at h; cases h).trans h
    · refine .inl (.inr ⟨o, ?_⟩)
      rw [hB]
      exact (if_neg fun z => by rw [z, l3] at h; cases h).trans h
    · exact .inr h
  clear hB
  refine for_src (src_tup h3B) (fun i σ H' => Ex B H' ∧ Ex H H' ∧ ∃ y6 y7 y8 xs rws e, σ = [some (.ref a), some (.ref b), some (.int m), some (.ref vb), some (.ref a1), some (.int ((ns.length * PE ps e i : Nat) : Int)), y6, y7, y8] ∧ H' a1 = some (.lst xs) ∧ rws.length = i ∧ RowsD a1 H' xs rws ∧ (∀ p, p < i → ¬ Hopl (ps.getD p 0) ts ns) ∧
    ∀ j, j < i → e j ≤ A0 j ∧ Ahd (ps.getD j 0) ts (ns.length * (ps.getD j 0).toNat ^ e j) ns (rws.getD j []) ∧ ∀ b, b < e j → ¬ HasI (ps.getD j 0) ts (ns.length * (ps.getD j 0).toNat ^ b) ns) ?_ (fun i σ H' hP => hP.1) (fun i x σ H4 H5 hi hW e5 hx => ?_) (fun σ H4 hW => ?_)
  · exact ⟨eB, e03, none, none, none, [], [], fun _ => 0, by show _ = [_, _, _, _, _, some (V.int ((ns.length * 1 : Nat) : Int)), _, _, _]; rw [Nat.mul_one]; rfl, l3, rfl, ⟨rfl, fun i h => absurd h (Nat.not_lt_zero _)⟩, fun p h => absurd h (Nat.not_lt_zero _), fun p h => absurd h (Nat.not_lt_zero _)⟩
  · obtain ⟨eB4, e4, y6, y7, y8, xs, rws, e, rfl, ha1, hrl, hRD, hnh, hj⟩ := hW
    obtain ⟨rfl, hi2⟩ := at_map hx
    obtain ⟨q, hq1, hq2, hq3, hq4⟩ := hpr i hi2
    have e05 : Ex H H5 := by walk_at "k76e"
    have ha15 : H5 a1 = some (.lst xs) := e5 _ _ ha1
    have hRD5 := hRD.mono (H' := H5) fun b o _ hb => e5 b o hb
    have hxl := hRD.1
    obtain ⟨hF1, hF2⟩ := hF i hi2
    rw [hq3] at hF1 hF2
    have hqb := hq2.b
    have hbd : ns.length * q ^ A0 i ≤ 5000 := Nat.le_trans (Nat.mul_le_mul hn12 hF2) (by decide)
    refine ⟨_, rfl, _, _, _, _, rfl, rfl, sqt_up hA1 e05, at1, _, rfl, _, rfl, ta, vb, ts, ns, q, A0 i, ?_, hA2.up e05, sqt_up hB2 e05, hq2, hT.asc, hT.len, (fun t ht => by have := hT.off t ht; omega), C.ne, hF1, hbd, fun hh H6 e6 => ?_, fun hh r s ee H6 e6 hr2 hee hAhd hno => ?_⟩
    · rw [hq1]; rfl
    · refine ⟨_, rfl, rfl, _, rfl, itd (fun _ => ?_) (fun h => absurd rfl h)⟩
      exact q1 ⟨_, getI hi2, by rw [hq1]; exact hh⟩ _ (by walk_at "k76e")
    · refine ⟨_, rfl, rfl, _, rfl, itd (fun h => by cases h) (fun _ => ?_)⟩
      have ha16 : H6 a1 = some (.lst xs) := e6 _ _ ha15
      have hsl := hAhd.len
      have hqe : 0 < q ^ ee := Nat.pow_pos (by omega)
      have hspos : 0 < s.length := by rw [hsl]; exact Nat.mul_pos hn hqe
      have hqA : q ^ ee ≤ q ^ A0 i := Nat.pow_le_pow_right (by omega) hee
      have hsl2 : s.length ≤ 5000 := by rw [hsl]; exact Nat.le_trans (Nat.mul_le_mul_left _ hqA) hbd
      have hra : r ≠ a1 := fun z => by
        rw [z] at hr2
        have hxs : xs = s.map V.int := by
          have := ha16.symm.trans hr2
          injection this with this
          injection this
        have hx0 : 0 < rws.length := by rw [← hxl, hxs, List.length_map]; exact hspos
        obtain ⟨U, _, hU, _⟩ := hRD.2 0 hx0
        rw [hxs] at hU
        obtain ⟨h, _⟩ := at_map hU
        cases h
      refine ⟨_, rfl, .inl ⟨rfl, _, li_sq ha16⟩, _, rfl, _, _, _, rfl, rfl, ha16, Evl.sz_lt (by omega), ?_⟩
      have hr7 : LI (upd H6 a1 (.lst (xs ++ [.ref r]))) r s := (upd_ne hra).trans hr2
      have e07 : Ex H (upd H6 a1 (.lst (xs ++ [.ref r]))) := Evl.Ex.mut (by walk_at "k76e") n1
      refine ⟨_, rfl, _, rfl, _, _, rfl, .inl (li_sq hr7), _, rfl, _, _, rfl, .inr (sqt_up hB2 e07), _, _, rfl, rfl, ⟨by rw [lenm]; omega, by rw [lenm]; omega⟩, _, _, rfl, rfl, .inr ?_, ?_⟩
      · have h1 : ((s.map V.int).length : Int) / ((ns.map V.int).length : Int) = ((q ^ ee : Nat) : Int) := by
          rw [lenm, lenm, hsl, Int.natCast_mul, Int.mul_ediv_cancel_left _ (by omega)]
        rw [h1]
        omega
      have hsz : ((ns.length * PE ps e i : Nat) : Int) * (((s.map V.int).length : Int) / ((ns.map V.int).length : Int)) = ((ns.length * PE ps (fun j => if j = i then ee else e j) (i + 1) : Nat) : Int) := by
        have h1 : ((s.map V.int).length : Int) / ((ns.map V.int).length : Int) = ((q ^ ee : Nat) : Int) := by
          rw [lenm, lenm, hsl, Int.natCast_mul, Int.mul_ediv_cancel_left _ (by omega)]
        rw [h1, ← Int.natCast_mul]
        congr 1
        show _ = ns.length * (PE ps (fun j => if j = i then ee else e j) i * (ps.getD i 0).toNat ^ (if i = i then ee else e i))
        rw [if_pos rfl, hq3, PE_congr (e := fun j => if j = i then ee else e j) (e' := e) i fun j hj => if_neg (by omega), Nat.mul_assoc]
      refine ⟨Evl.Ex.mut (eB4.trans (e5.trans e6)) nB, e07, _, _, _, xs ++ [.ref r], rws ++ [s], fun j => if j = i then ee else e j, congrArg (fun z => [some (V.ref a), some (.ref b), some (.int m), some (.ref vb), some (.ref a1), some (V.int z), _, _, _]) hsz, upd_same, by rw [List.length_append, hrl]; rfl, ?_, ?_, ?_⟩
      · exact (hRD5.mono fun b o hb ho => by rw [upd_ne hb]; exact e6 _ _ ho).snoc hra hr7
      · intro j hj2
        by_cases c : j = i
        · rw [c, hq1]; exact hh
        · exact hnh j (by omega)
      · intro j hj2
        rw [getD_app _ _ _ _ (by omega), hrl]
        by_cases c : j = i
        · subst c
          simp only [if_pos rfl]
          rw [if_neg (Nat.lt_irrefl _), hq3, hq1]
          exact ⟨hee, hAhd, hno⟩
        · simp only [if_neg c]
          rw [if_pos (show j < i by omega)]
          exact hj j (by omega)
  · obtain ⟨eB4, e4, y6, y7, y8, xs, rws, e, rfl, ha1, hrl, hRD, hnh, hj⟩ := hW
    rw [List.length_map] at hrl hnh hj
    rw [List.length_map]
    have hxl := hRD.1
    have hPle : PE ps e ps.length ≤ 1000 := Nat.le_trans (PE_le _ fun j hj2 => ⟨hp1 j hj2, (hj j hj2).1⟩) hPA
    have hPpos := PE_pos (e := e) ps.length hp1
    have hS0 : 0 < ns.length * PE ps e ps.length := Nat.mul_pos hn hPpos
    have hS1 : ns.length * PE ps e ps.length ≤ 12000 := Nat.le_trans (Nat.mul_le_mul hn12 hPle) (by decide)
    have hlen : ∀ j, j < ps.length → (rws.getD j []).length = ns.length * (ps.getD j 0).toNat ^ e j := fun j hj2 => (hj j hj2).2.1.len
    have hdv : ∀ j, j < ps.length → ns.length * PE ps e ps.length / (rws.getD j []).length * (rws.getD j []).length = ns.length * PE ps e ps.length := fun j hj2 => by
      rw [hlen j hj2]
      exact Nat.div_mul_cancel (Nat.mul_dvd_mul_left _ (PE_dvd _ j hj2))
    have hlp : ∀ j, j < ps.length → 0 < (rws.getD j []).length := fun j hj2 => by
      rw [hlen j hj2]
      exact Nat.mul_pos hn (Nat.pow_pos (hp1 j hj2))
    have hnA : ¬ AnyH ps ts ns := fun ⟨p, hp, hh⟩ => by
      obtain ⟨j, hj2, rfl⟩ := List.getElem_of_mem hp
      have ej : ps[j] = ps.getD j 0 := by rw [List.getD_eq_getElem?_getD, List.getElem?_eq_getElem hj2]; rfl
      rw [ej] at hh
      exact hnh j hj2 hh
    obtain ⟨S, hS⟩ : ∃ S, S = ns.length * PE ps e ps.length := ⟨_, rfl⟩
    rw [← hS] at hS0 hS1 hdv
    refine ⟨_, rfl, _, rfl, _, rfl, ⟨_, li_sq ha1⟩, lc_srcD (src_list ha1) (by omega) (fun D i acc H' => RowsD D H' acc ((List.range i).map fun j => rep (S / (rws.getD j []).length) (rws.getD j []))) (fun D H => ⟨rfl, fun i h => absurd h (Nat.not_lt_zero _)⟩) (fun D i acc H H' h e => h.mono e) (fun D i x acc H' Z Z' hD hi e9 hPd it z z' => ?_) (fun D H' acc hD e9 hl hPd => ?_)⟩
    · have hi2 : i < ps.length := by omega
      obtain ⟨U, hU1, hU2, hU3⟩ := hRD.2 i (by omega)
      have ex : x = .ref U := Option.some.inj (it.symm.trans hU2)
      subst ex
      have hU4 : LI H' U (rws.getD i []) := own_up hU3 e9
      have hd := hdv i hi2
      have hl0 := hlp i hi2
      have hdiv : ((ns.length * PE ps e ps.length : Nat) : Int) / (((rws.getD i []).map V.int).length : Int) = ((S / (rws.getD i []).length : Nat) : Int) := by
        rw [lenm, ← hS, Int.natCast_ediv]
      have hle : S / (rws.getD i []).length ≤ S := Nat.div_le_self _ _
      refine ⟨rfl, _, rfl, _, rfl, _, rfl, _, _, rfl, .inl (li_sq hU4), _, _, rfl, rfl, ⟨by rw [lenm]; omega, by rw [lenm]; have := Nat.le_of_dvd hS0 ⟨_, by rw [Nat.mul_comm]; exact hd.symm⟩; omega⟩, ?_⟩
      refine ⟨_, _, _, rfl, congrArg V.int hdiv, hU4, Int.le_trans (by decide) (Int.natCast_nonneg _), Int.lt_of_le_of_lt (Int.ofNat_le.mpr (Nat.le_trans hle hS1)) (by decide), Evl.sz_of (by rw [List.length_map, Int.toNat_natCast, Nat.mul_comm, hd]; omega), fun U2 k2 => ?_⟩
      rw [Int.toNat_natCast, rep_mapV]
      have hUD : U2 ≠ D := fun z => by rw [z, hD] at k2; cases k2
      refine z _ _ (by walk_at "k76e") ?_
      show RowsD D _ _ ((List.range (i + 1)).map _)
      rw [List.range_succ, List.map_append]
      refine (hPd.mono fun b o hb ho => ?_).snoc hUD upd_same
      exact own_new k2 ho
    · rw [hxl, hrl] at hPd
      have hg : ∀ j, j < ps.length → ((List.range ps.length).map fun j => rep (S / (rws.getD j []).length) (rws.getD j [])).getD j [] = rep (S / (rws.getD j []).length) (rws.getD j []) := fun j hj2 => by
        rw [List.getD_eq_getElem?_getD, List.getElem?_map, List.getElem?_range hj2]; rfl
      refine ⟨D, m, ps, _, S, rfl, C.look, ⟨acc, hl, hPd.1, fun i hi => by obtain ⟨U, _, h1, h2⟩ := hPd.2 i hi; exact ⟨U, h1, h2⟩⟩, by rw [List.length_map, List.length_range], by omega, fun j hj2 => ?_, fun r ah H9 e10 h9 hP => ?_⟩
      · rw [hg j hj2, rep_len, hdv j hj2]
        refine ⟨rfl, fun x hx => ?_⟩
        unfold rep at hx
        obtain ⟨l, hl1, hl2⟩ := List.mem_flatten.mp hx
        rw [(List.mem_replicate.mp hl1).2] at hl2
        have := (hj j hj2).2.1.rg x hl2
        obtain ⟨q, hq1, hq2, _⟩ := hpr j hj2
        have := hq2.b
        omega
      · have e09 : Ex H H9 := by walk_at "k76e"
        refine ⟨_, rfl, _, rfl, _, _, rfl, .inr (sqt_up hB2 e09), _, _, rfl, rfl, ⟨by rw [lenm]; omega, by rw [lenm]; omega⟩, _, rfl, _, rfl, sz2, fun p1 kp1 => ?_⟩
        refine ⟨sz2, fun p2 kp2 => ?_⟩
        have hST : ((ns.length * PE ps e ps.length : Nat) : Int) / ((ns.map V.int).length : Int) = ((PE ps e ps.length : Nat) : Int) := by
          rw [lenm, Int.natCast_mul, Int.mul_ediv_cancel_left _ (by omega)]
        refine q2 hnA p2 p1 r (PE ps e ps.length) ah _ (by walk_at "k76e") (Evl.st_of (upd_same.trans (congrArg (fun z => some (HO.tup [V.int z, .ref p1])) hST))) (Evl.st_of (by walk_at "k76h")) (by walk_at "k76h") (least_done C hPle (fun j hj2 => (hj j hj2).2) (fun j hj2 => ⟨_, hg j hj2, by rw [hdv j hj2, hS]⟩) (by rw [← hS]; exact hP))
end
end K76
namespace K76
open PySem PySem.Spec PyProof.Rows L2

/-! ### the jar -/
def Xj (a : Addr) (H H' : Hp) : Prop := ∀ b o, b ≠ a → H b = some o → H' b = some o
theorem Xj.refl (a : Addr) (H : Hp) : Xj a H H := fun _ _ _ h => h
theorem Xj.trans {a : Addr} {H H1 H2 : Hp} (h : Xj a H H1) (h' : Xj a H1 H2) : Xj a H H2 := fun b o hb e => h' b o hb (h b o hb e)
theorem exj {H H' : Hp} (h : Ex H H') (a : Addr) : Xj a H H' := fun b o _ e => h b o e
theorem Xj.mut {a p : Addr} {H H' : Hp} {o : HO} (h : Xj a H H') (hp : H p = none) : Xj a H (upd H' p o) := fun b x hb e => by
  by_cases c : b = p
  · rw [c, hp] at e; cases e
  · rw [upd_ne c]; exact h b x hb e
theorem Xj.self {a : Addr} {H H' : Hp} {o : HO} (h : Xj a H H') : Xj a H (upd H' a o) := fun b x hb e => by
  rw [upd_ne hb]; exact h b x hb e
def Jar (H : Hp) (a : Addr) (c : Nat) : Prop := ∃ x y z : Int, LI H a [x, y, z] ∧ 0 ≤ x ∧ 0 ≤ y ∧ y < 2 ^ 100 ∧ 0 ≤ z ∧ z ≤ c
theorem Jar.up {H H' : Hp} {a : Addr} {c : Nat} (h : Jar H a c) (e : Ex H H') : Jar H' a c := by
  obtain ⟨x, y, z, h1, h2⟩ := h
  exact ⟨x, y, z, e _ _ h1, h2⟩
theorem Jar.mono {H : Hp} {a : Addr} {c d : Nat} (h : Jar H a c) (e : c ≤ d) : Jar H a d := by
  obtain ⟨x, y, z, h1, h2, h3, h4, h5, h6⟩ := h
  exact ⟨x, y, z, h1, h2, h3, h4, h5, by omega⟩
theorem Jar.ne {H : Hp} {a p : Addr} {c : Nat} (h : Jar H a c) (e : H p = none) : p ≠ a := fun z => by
  obtain ⟨x, y, w, h1, _⟩ := h
  rw [z] at e
  have h1 : H a = _ := h1
  rw [e] at h1
  cases h1
theorem Jar.upd {H : Hp} {a p : Addr} {c : Nat} {o : HO} (h : Jar H a c) (e : H p = none) : Jar (upd H p o) a c := h.up (Evl.Ex.new e)
/-- tuples stay -/
theorem Xj.tu {K : PySem.W.Frag} {H H' : Hp} {a b : Addr} {c : Nat} {xs : List V} (h : Xj a H H') (j : Jar H a c) (hT : SqT K H b xs) : SqT K H' b xs := by
  obtain ⟨x, y, w, h1, _⟩ := j
  refine sqt_nl hT fun b o hb ho => h b o (fun z => ?_) hb
  rw [z, h1] at hb
  exact ho _ (Option.some.inj hb).symm
theorem Xj.ex {H0 H H' : Hp} {a : Addr} (h : Xj a H H') (e : Ex H0 H) (n : H0 a = none) : Ex H0 H' := fun b o hb => h b o (fun z => by rw [z, n] at hb; cases hb) (e b o hb)
theorem at2 {α : Type} {x y z : α} {xs : List α} : atI (x :: y :: z :: xs) 2 = some z := by
  unfold atI ixN
  rw [if_pos (by decide), if_pos (by rw [List.length_cons, List.length_cons, List.length_cons]; omega)]; rfl
theorem lg {i : Int} (h : i.natAbs < 2 ^ 400) : i.natAbs.log2 < 400 := PySem.Flt.log2_lt_of (by decide) h
theorem cmw {i j : Int} (h : i.natAbs < 2 ^ 400) (h' : j.natAbs < 2 ^ 400) : CMulW i j := by
  have := lg h
  have := lg h'
  show _ + _ < _
  omega
def sp_law_take (K : PySem.W.Frag) : Sp := fun vs H Q _ => ∃ (a : Addr) (m : Int) (c : Nat), vs = [.ref a, .int m] ∧ Jar H a c ∧ c ≤ 1000 ∧ 1 ≤ m ∧ m ≤ 1000 ∧ ∀ r H', Xj a H H' → Jar H' a (c + 1) → 0 ≤ r → r < m → Q (.int r) H'
def sp_law_modulus (K : PySem.W.Frag) : Sp := fun vs H Q _ => ∃ (a : Addr) (c : Nat), vs = [.ref a] ∧ Jar H a c ∧ c ≤ 1000 ∧ ∀ m ps H', Xj a H H' → Jar H' a (c + 1) → look m = some ps → Q (.int m) H'
def mostI (m n : Int) : Nat := if m % 5 = 0 ∧ n > 7 then 4 else if m % 7 = 0 ∧ n > 3 then 6 else 8
def sp_law_most (K : PySem.W.Frag) : Sp := fun vs H Q _ => ∃ m n : Int, vs = [.int m, .int n] ∧ ∀ H', Ex H H' → Q (.int (mostI m n)) H'
def sp_law_primes (K : PySem.W.Frag) : Sp := fun vs H Q _ => ∃ (m : Int) (ps : List Int), vs = [.int m] ∧ look m = some ps ∧ ∀ r H', Ex H H' → LI H' r ps → Q (.ref r) H'
def sp_law_values (K : PySem.W.Frag) : Sp := fun vs H Q _ => ∃ (a : Addr) (m : Int) (n c : Nat), vs = [.ref a, .int m, .int n] ∧ Jar H a c ∧ c ≤ 900 ∧ 2 ≤ m ∧ m ≤ 15 ∧ 1 ≤ n ∧ n ≤ 12 ∧
  ∀ r ns H', Xj a H H' → Jar H' a (c + 40) → TI K H' r ns → ns.length = n → Rg m ns → Q (.ref r) H'
def sp_law_step (K : PySem.W.Frag) : Sp := fun vs H Q _ => ∃ (a b : Addr) (m : Int) (ts : List (Int × Int)) (ns : List Int), vs = [.ref a, .ref b] ∧ RuleV K H a m ts ∧ TI K H b ns ∧ 2 ≤ m ∧ m ≤ 15 ∧ ts.length ≤ 20 ∧ (∀ t ∈ ts, 1 ≤ t.2 ∧ t.2 < m) ∧ ns ≠ [] ∧ ns.length ≤ 40000 ∧
  ∀ r H', Ex H H' → TI K H' r ((List.range ns.length).map fun (i : Nat) => stp ts ns i % m) → Q (.ref r) H'
/-- a comprehension over a range whose items are drawn -/
theorem lc_jr {lo : Int} {n : Nat} {H1 : Hp} (hn : n ≤ 1000) (a : Addr) (k c : Nat) (m : Int) (hJ : Jar H1 a c) {g : TG} {te : TE} {vs : List Nat} {σ : L2.St} {Qd : Addr → Hp → Prop}
    (hs : ∀ i H' (Z : VK), i < n → Xj a H1 H' → Jar H' a (c + k * i) → (∀ u H4, Xj a H' H4 → Jar H4 a (c + k * i + k) → 0 ≤ u → u < m → Z (.int u) H4) → g (.int (lo + (i : Nat))) (wipe σ vs) H' fun σ2 H2 => wipe σ2 vs = wipe σ vs ∧ te σ2 H2 Z)
    (hd : ∀ D H' us, H1 D = none → Xj a H1 H' → LI H' D us → us.length = n → Rg m us → Jar H' a (c + k * n) → Qd D H') :
    ∀ D, H1 D = none → ∃ W : Nat → Nat → Hp → Prop, (∃ m, W 0 m (upd H1 D (.lst []))) ∧ ∀ i m H, W i m H →
  ((Itr lo n).stop i H ∧ Qd D H) ∨ ((Itr lo n).go i H ∧ ∃ Nx : Hp → Prop, (∀ H', Nx H' → ∃ m', m' < m ∧ W (i + 1) m' H') ∧ ∀ x H', (Itr lo n).yld i H x H' → g x (wipe σ vs) H' fun σ2 H2 => wipe σ2 vs = wipe σ vs ∧ tYes σ2 H2 fun b H3 =>
    if b = true then te σ2 H3 fun y H4 => ∃ acc, H4 D = some (.lst acc) ∧ acc.length < sizeLine ∧ Nx (upd H4 D (.lst (acc ++ [y]))) else Nx H3) := by
  intro D hD
  have hDa := hJ.ne hD
  refine ⟨fun i m' H => m' = n - i ∧ i ≤ n ∧ Xj a H1 H ∧ Jar H a (c + k * i) ∧ ∃ us, LI H D us ∧ us.length = i ∧ Rg m us, ⟨n, by simp, Nat.zero_le _, exj (Evl.Ex.new hD) a, hJ.upd hD, [], upd_same, rfl, (fun u hu => absurd hu (by simp))⟩, ?_⟩
  rintro i m' H ⟨rfl, hi, e, j, us, hacc, hl, p⟩
  by_cases cc : i < n
  · refine .inr ⟨cc, fun H => Xj a H1 H ∧ Jar H a (c + k * (i + 1)) ∧ ∃ us, LI H D us ∧ us.length = i + 1 ∧ Rg m us, fun H' q => ⟨n - (i + 1), by omega, rfl, by omega, q⟩, fun x H' y => ?_⟩
    obtain ⟨y1, y2⟩ := y
    subst y1 y2
    refine hs i _ _ cc e j fun u H4 e4 j4 u0 u1 => ?_
    have hacc4 : LI H4 D us := e4 _ _ hDa hacc
    refine ⟨_, hacc4, Evl.sz_lt (by rw [List.length_map]; omega), (e.trans e4).mut hD, ?_, us ++ [u], ?_, by rw [List.length_append, hl]; rfl, fun v hv => ?_⟩
    · obtain ⟨x, y, z, h1, h2⟩ := j4
      refine ⟨x, y, z, (upd_ne hDa.symm).trans h1, ?_⟩
      rw [show c + k * (i + 1) = c + k * i + k by rw [Nat.mul_succ]; omega]
      exact h2
    · rw [map_snoc_int]; exact upd_same
    · rcases List.mem_append.mp hv with z | z
      · exact p v z
      · rw [List.mem_singleton.mp z]; exact ⟨u0, u1⟩
  · have e' : i = n := by omega
    subst e'
    exact .inl ⟨Nat.le_refl _, hd D H us hD e hacc hl p j⟩
theorem ExB (H : Hp) : Ex (fun _ => none) H := fun _ _ h => by cases h
section
variable {P : Program} {w : World} {K : PySem.W.Frag} {mg : Str → Option Value} {base : Heap}
theorem cal_law_take (T : Txt K mg) : C8.Cal P w K mg base 1 "_law_take" (sp_law_take K) [] := by
  obtain ⟨f, fd, F, df⟩ := T.d_law_take
  refine C8.cal0 F (F.fn.binds df fun _ _ _ _ _ _ us hl => ?bnd) .nil sc_law_take (fun vs H Q E h => ?len) fun cdv A outer s H vs Q E hr h => ?_
  case bnd => obtain ⟨a0, a1, rfl⟩ := ln2 hl; rfl
  case len => first | (obtain ⟨_, rfl, _⟩ := h; rfl) | (obtain ⟨_, _, rfl, _⟩ := h; rfl) | (obtain ⟨_, _, _, rfl, _⟩ := h; rfl) | (obtain ⟨_, _, _, _, rfl, _⟩ := h; rfl) | (obtain ⟨_, _, _, _, _, rfl, _⟩ := h; rfl) | (obtain ⟨_, _, _, _, _, _, rfl, _⟩ := h; rfl) | (obtain ⟨_, _, _, _, _, _, _, rfl, _⟩ := h; rfl) | (obtain ⟨_, _, _, _, _, _, _, _, rfl, _⟩ := h; rfl) | (obtain ⟨_, _, _, _, _, _, _, _, _, rfl, _⟩ := h; rfl) | (obtain ⟨_, _, _, _, _, _, _, _, _, _, rfl, _⟩ := h; rfl) | (obtain ⟨_, _, _, _, _, _, _, _, _, _, _, rfl, _⟩ := h; rfl)
  have sc := sc_law_take
  obtain ⟨a, m, c, rfl, ⟨x, y, z, hJ, x0, y0, y1, z0, z1⟩, hc, hm1, hm2, q⟩ := h
  refine ⟨_, (pss_cons (ps_if (pt_cmpR op_gt (pe_ix (ix_listK (K0 := K)) (pv 0) pe_int (fun _ _ => rfl)) pe_int (nomark _)) (pss_cons (ps_set (i := 2) sc.nd rfl (Or.inl rfl) (pe_op op_mod (pe_callTy call_int1 (by rfl) T.b_int (by decide +kernel) (pa_cons (pe_ix (ix_listK (K0 := K)) (pv 0) pe_int (fun _ _ => rfl)) pa_nil)) (pv 1)))
      (pss_cons (ps_asg (pe_op op_fdiv (pe_ix (ix_listK (K0 := K)) (pv 0) pe_int (fun _ _ => rfl)) (pv 1)) (pg_sub (pv 0) pe_int set_list))
      (pss_one (ps_ret (pv 2))))) pss_nil)
      (pss_cons (ps_asg (pe_op op_add (pe_ix (ix_listK (K0 := K)) (pv 0) pe_int (fun _ _ => rfl)) pe_int) (pg_sub (pv 0) pe_int set_list))
      (pss_cons (ps_set (i := 3) sc.nd rfl (Or.inl rfl) (pe_op op_mod (pe_callTy call_int1 (by rfl) T.b_int (by decide +kernel) (pa_cons (pe_op op_add (pe_op op_powW (pe_op op_add (pe_ix (ix_listK (K0 := K)) (pv 0) pe_int (fun _ _ => rfl)) (pe_op op_mulW pe_int (pe_ix (ix_listK (K0 := K)) (pv 0) pe_int (fun _ _ => rfl)))) pe_int) (pe_op op_mulW pe_int (pe_ix (ix_listK (K0 := K)) (pv 0) pe_int (fun _ _ => rfl)))) pa_nil)) (pe_op op_add (pe_op op_powW pe_int pe_int) pe_int)))
      (pss_cons (ps_set (i := 3) sc.nd rfl (Or.inl rfl) (pe_op op_mod (pe_callTy call_int1 (by rfl) T.b_int (by decide +kernel) (pa_cons (pe_op op_mulW (pv 3) (pe_op op_add (pv 3) (pe_op op_mulW pe_int (pe_ix (ix_listK (K0 := K)) (pv 0) pe_int (fun _ _ => rfl))))) pa_nil)) (pe_op op_add (pe_op op_powW pe_int pe_int) pe_int)))
      (pss_one (ps_ret (pe_op op_mod (pe_callTy call_int1 (by rfl) T.b_int (by decide +kernel) (pa_cons (pe_op op_fdiv (pv 3) pe_int) pa_nil)) (pv 1)))))))), ?_⟩
  refine ⟨_, rfl, _, _, _, _, rfl, rfl, li_sq hJ, at0, _, _, rfl, rfl, _, rfl, ?_⟩
  refine itd (fun h => ?_) (fun h => ?_)
  · refine ⟨_, rfl, _, _, _, _, rfl, rfl, li_sq hJ, at0, .inl ⟨_, rfl, _, rfl, _, _, rfl, rfl, by omega, ?_⟩⟩
    refine ⟨_, rfl, _, _, _, _, rfl, rfl, li_sq hJ, at0, _, rfl, _, _, rfl, rfl, ⟨by omega, by omega⟩, _, rfl, _, _, _, _, rfl, rfl, hJ, ixN_nn (j := 0) rfl (Nat.zero_lt_succ _), ?_⟩
    have hmb := mod_lt' (a := x) (m := m) (by omega)
    refine ⟨_, rfl, q _ _ (Xj.refl _ _).self ⟨x / m, y, z, upd_same, ?_, y0, y1, z0, by omega⟩ hmb.1 hmb.2⟩
    exact Int.ediv_nonneg x0 (by omega)
  refine ⟨_, rfl, _, _, _, _, rfl, rfl, li_sq hJ, at2, _, _, rfl, rfl, _, rfl, _, _, _, _, rfl, rfl, hJ, ixN_nn (j := 2) rfl (Nat.lt_succ_self 2), ?_⟩
  have hJ2 : LI (upd H a (.lst (([x, y, z].map V.int).set 2 (.int (z + 1))))) a [x, y, z + 1] := upd_same
  have e31 : (10 : Int) ^ (31 : Int).toNat + 33 = 10000000000000000000000000000033 := by decide
  have e29 : (10 : Int) ^ (29 : Int).toNat + 319 = 100000000000000000000000000319 := by decide
  refine ⟨_, rfl, _, _, _, _, rfl, rfl, li_sq hJ2, at1, _, rfl, _, _, _, _, rfl, rfl, li_sq hJ2, at2, _, _, rfl, rfl, cmw (by decide) (by omega), _, _, rfl, rfl, _, _, rfl, rfl, pow_ok (b := 120) (n := 3) (by omega) (by decide) (by decide), _, rfl, _, _, _, _, rfl, rfl, li_sq hJ2, at2, _, _, rfl, rfl, cmw (by decide) (by omega), _, _, rfl, rfl, .inl ⟨_, rfl, _, _, rfl, rfl, pow_ok (b := 4) (n := 31) (by decide) (by decide) (by decide), _, _, rfl, rfl, _, _, rfl, rfl, (show (0 : Int) < _ by decide), ?_⟩⟩
  dsimp only
  generalize hs : ((y + 314159265 * (z + 1)) ^ (3 : Int).toNat + 17 * (z + 1)) % ((10 : Int) ^ (31 : Int).toNat + 33) = s1
  have hs1 : 0 ≤ s1 ∧ s1 < 10000000000000000000000000000033 := by
    rw [← hs, ← e31]; exact mod_lt' (by decide)
  refine ⟨_, rfl, _, rfl, _, rfl, _, _, _, _, rfl, rfl, li_sq hJ2, at2, _, _, rfl, rfl, cmw (by decide) (by omega), _, _, rfl, rfl, _, _, rfl, rfl, cmw (by omega) (by omega), .inl ⟨_, rfl, _, _, rfl, rfl, pow_ok (b := 4) (n := 29) (by decide) (by decide) (by decide), _, _, rfl, rfl, _, _, rfl, rfl, (show (0 : Int) < _ by decide), ?_⟩⟩
  refine ⟨_, rfl, _, _, rfl, rfl, ⟨by decide, by decide⟩, .inl ⟨_, rfl, _, rfl, _, _, rfl, rfl, by omega, ?_⟩⟩
  have hmb := mod_lt' (m := m) (a := s1 * (s1 + 6421 * (z + 1)) % ((10 : Int) ^ (29 : Int).toNat + 319) / 16381) (by omega)
  exact q _ _ (Xj.refl _ _).self ⟨x, y, z + 1, upd_same, x0, y0, y1, by omega, by omega⟩ hmb.1 hmb.2
theorem mod_tab : ∀ k ∈ List.range 10, (look (([2, 3, 5, 6, 7, 10, 11, 13, 14, 15] : List Int).getD k 0)).isSome = true := by decide +kernel
theorem cal_law_modulus (T : Txt K mg) : C8.Cal P w K mg base 2 "_law_modulus" (sp_law_modulus K) [] := by
  have c_law_take : C8.Cal P w K mg base 1 "_law_take" (sp_law_take K) [] := cal_law_take T
  obtain ⟨f, fd, F, df⟩ := T.d_law_modulus
  refine C8.cal0 F (F.fn.binds df fun _ _ _ _ _ _ us hl => ?bnd) .nil sc_law_modulus (fun vs H Q E h => ?len) fun cdv A outer s H vs Q E hr h => ?_
  case bnd => obtain ⟨a0, rfl⟩ := ln1 hl; rfl
  case len => first | (obtain ⟨_, rfl, _⟩ := h; rfl) | (obtain ⟨_, _, rfl, _⟩ := h; rfl) | (obtain ⟨_, _, _, rfl, _⟩ := h; rfl) | (obtain ⟨_, _, _, _, rfl, _⟩ := h; rfl) | (obtain ⟨_, _, _, _, _, rfl, _⟩ := h; rfl) | (obtain ⟨_, _, _, _, _, _, rfl, _⟩ := h; rfl) | (obtain ⟨_, _, _, _, _, _, _, rfl, _⟩ := h; rfl) | (obtain ⟨_, _, _, _, _, _, _, _, rfl, _⟩ := h; rfl) | (obtain ⟨_, _, _, _, _, _, _, _, _, rfl, _⟩ := h; rfl) | (obtain ⟨_, _, _, _, _, _, _, _, _, _, rfl, _⟩ := h; rfl) | (obtain ⟨_, _, _, _, _, _, _, _, _, _, _, rfl, _⟩ := h; rfl)
  have sc := sc_law_modulus
  obtain ⟨a, c, rfl, hJ, hc, q⟩ := h
  refine ⟨_, (pss_one (ps_ret (pe_ix (ix_listK (K0 := K)) (pe_lst (pa_cons pe_int (pa_cons pe_int (pa_cons pe_int (pa_cons pe_int (pa_cons pe_int (pa_cons pe_int (pa_cons pe_int (pa_cons pe_int (pa_cons pe_int (pa_cons pe_int pa_nil))))))))))) (C8.pe_c c_law_take hr (by decide) (by rfl) (pa_cons (pv 0) (pa_cons pe_int pa_nil))) (fun _ _ => rfl)))), ?_⟩
  refine ⟨Evl.sz_of (by show 10 ≤ 100000; decide), fun a1 k1 => ?_⟩
  have hl : LI (upd H a1 (.lst [V.int 2, .int 3, .int 5, .int 6, .int 7, .int 10, .int 11, .int 13, .int 14, .int 15])) a1 [2, 3, 5, 6, 7, 10, 11, 13, 14, 15] := upd_same
  refine ⟨_, rfl, a, 10, c, rfl, hJ.upd k1, hc, by decide, by decide, fun r H' e j r0 r1 => ?_⟩
  refine ⟨_, _, _, _, rfl, rfl, li_sq (e _ _ (hJ.ne k1) hl), atI_int r0 r1, ?_⟩
  have hs := mod_tab r.toNat (List.mem_range.mpr (by omega))
  obtain ⟨ps, hps⟩ := Option.isSome_iff_exists.mp hs
  exact q _ ps H' ((exj (Evl.Ex.new k1) a).trans e) j hps
theorem cal_law_most (T : Txt K mg) : C8.Cal P w K mg base 1 "_law_most" (sp_law_most K) [] := by
  obtain ⟨f, fd, F, df⟩ := T.d_law_most
  refine C8.cal0 F (F.fn.binds df fun _ _ _ _ _ _ us hl => ?bnd) .nil sc_law_most (fun vs H Q E h => ?len) fun cdv A outer s H vs Q E hr h => ?_
  case bnd => obtain ⟨a0, a1, rfl⟩ := ln2 hl; rfl
  case len => first | (obtain ⟨_, rfl, _⟩ := h; rfl) | (obtain ⟨_, _, rfl, _⟩ := h; rfl) | (obtain ⟨_, _, _, rfl, _⟩ := h; rfl) | (obtain ⟨_, _, _, _, rfl, _⟩ := h; rfl) | (obtain ⟨_, _, _, _, _, rfl, _⟩ := h; rfl) | (obtain ⟨_, _, _, _, _, _, rfl, _⟩ := h; rfl) | (obtain ⟨_, _, _, _, _, _, _, rfl, _⟩ := h; rfl) | (obtain ⟨_, _, _, _, _, _, _, _, rfl, _⟩ := h; rfl) | (obtain ⟨_, _, _, _, _, _, _, _, _, rfl, _⟩ := h; rfl) | (obtain ⟨_, _, _, _, _, _, _, _, _, _, rfl, _⟩ := h; rfl) | (obtain ⟨_, _, _, _, _, _, _, _, _, _, _, rfl, _⟩ := h; rfl)
  have sc := sc_law_most
  obtain ⟨m, n, rfl, q⟩ := h
  refine ⟨_, (pss_cons (ps_if (PW.pt (pw_and (pt_cmpR op_eq (pe_op op_mod (pe_callTy call_int1 (by rfl) T.b_int (by decide +kernel) (pa_cons (pv 0) pa_nil)) pe_int) pe_int (nomark _)) (pw_and1 (pt_cmpR op_gt (pv 1) pe_int (nomark _))))) (pss_one (ps_ret pe_int)) pss_nil)
      (pss_one (ps_ret (pe_ifExp (PW.pt (pw_and (pt_cmpR op_eq (pe_op op_mod (pe_callTy call_int1 (by rfl) T.b_int (by decide +kernel) (pa_cons (pv 0) pa_nil)) pe_int) pe_int (nomark _)) (pw_and1 (pt_cmpR op_gt (pv 1) pe_int (nomark _))))) pe_int pe_int)))), ?_⟩
  unfold mostI at q
  refine ⟨_, rfl, .inl ⟨_, rfl, _, _, rfl, rfl, (show (0 : Int) < _ by decide), rfl, _, rfl, ?_⟩⟩
  have seven : ∀ (hno : ¬ (m % 5 = 0 ∧ n > 7)), ∀ H', Ex H H' → Q (.int ((if m % 7 = 0 ∧ n > 3 then 6 else 8 : Nat) : Int)) H' := fun hno H' e => by
    have := q H' e
    rwa [if_neg hno] at this
  refine itd (fun h => ?_) (fun h => ?_)
  · have h1 := V.int.inj h
    refine ⟨_, rfl, _, _, rfl, rfl, _, rfl, ?_⟩
    refine itd (fun h2 => ?_) (fun h2 => ?_)
    · have := q H (by walk_at "k76e")
      rw [if_pos ⟨h1, h2⟩] at this
      exact this
    · have s7 := seven (fun z => h2 z.2) H (by walk_at "k76e")
      refine ⟨_, rfl, .inl ⟨_, rfl, _, _, rfl, rfl, (show (0 : Int) < _ by decide), rfl, _, rfl, ?_⟩⟩
      refine itd (fun h3 => ?_) (fun h3 => ?_)
      · have h3' := V.int.inj h3
        refine ⟨_, rfl, _, _, rfl, rfl, _, rfl, ?_⟩
        refine itd (fun h4 => ?_) (fun h4 => ?_)
        · rw [if_pos ⟨h3', h4⟩] at s7; exact s7
        · rw [if_neg fun z => h4 z.2] at s7; exact s7
      · refine iteF ?_
        rw [if_neg fun z => h3 (congrArg V.int z.1)] at s7; exact s7
  · refine iteF ?_
    have s7 := seven (fun z => h (congrArg V.int z.1)) H (by walk_at "k76e")
    refine ⟨_, rfl, .inl ⟨_, rfl, _, _, rfl, rfl, (show (0 : Int) < _ by decide), rfl, _, rfl, ?_⟩⟩
    refine itd (fun h3 => ?_) (fun h3 => ?_)
    · have h3' := V.int.inj h3
      refine ⟨_, rfl, _, _, rfl, rfl, _, rfl, ?_⟩
      refine itd (fun h4 => ?_) (fun h4 => ?_)
      · rw [if_pos ⟨h3', h4⟩] at s7; exact s7
      · rw [if_neg fun z => h4 z.2] at s7; exact s7
    · refine iteF ?_
      rw [if_neg fun z => h3 (congrArg V.int z.1)] at s7; exact s7
theorem prm_tab : ∀ e ∈ tabE, ([2, 3, 5, 7, 11, 13] : List Int).filter (fun q => decide (e.1 % q = 0)) = e.2 := by decide +kernel
theorem cal_law_primes (T : Txt K mg) : C8.Cal P w K mg base 1 "_law_primes" (sp_law_primes K) [] := by
  obtain ⟨f, fd, F, df⟩ := T.d_law_primes
  refine C8.cal0 F (F.fn.binds df fun _ _ _ _ _ _ us hl => ?bnd) .nil sc_law_primes (fun vs H Q E h => ?len) fun cdv A outer s H vs Q E hr h => ?_
  case bnd => obtain ⟨a0, rfl⟩ := ln1 hl; rfl
  case len => first | (obtain ⟨_, rfl, _⟩ := h; rfl) | (obtain ⟨_, _, rfl, _⟩ := h; rfl) | (obtain ⟨_, _, _, rfl, _⟩ := h; rfl) | (obtain ⟨_, _, _, _, rfl, _⟩ := h; rfl) | (obtain ⟨_, _, _, _, _, rfl, _⟩ := h; rfl) | (obtain ⟨_, _, _, _, _, _, rfl, _⟩ := h; rfl) | (obtain ⟨_, _, _, _, _, _, _, rfl, _⟩ := h; rfl) | (obtain ⟨_, _, _, _, _, _, _, _, rfl, _⟩ := h; rfl) | (obtain ⟨_, _, _, _, _, _, _, _, _, rfl, _⟩ := h; rfl) | (obtain ⟨_, _, _, _, _, _, _, _, _, _, rfl, _⟩ := h; rfl) | (obtain ⟨_, _, _, _, _, _, _, _, _, _, _, rfl, _⟩ := h; rfl)
  have sc := sc_law_primes
  obtain ⟨m, ps, rfl, hk, q⟩ := h
  have hpt := prm_tab _ (look_mem hk)
  refine ⟨_, (pss_one (ps_ret (pe_lc (own := [("_law_prime", 1)]) (g := (gName 1)) rfl sc.nd (pi_tup (pe_tup (pa_cons pe_int (pa_cons pe_int (pa_cons pe_int (pa_cons pe_int (pa_cons pe_int (pa_cons pe_int pa_nil)))))))) (blkOk_by (N := n_law_primes) (sc := C8.fnScope s_law_primes) (by decide +kernel)) (fun _ _ _ _ _ => (pg_name (i := 1) sc.nd rfl (Or.inl rfl))) (fun _ _ _ _ _ => (pts_one (pt_cmpR op_eq (pe_op op_mod (pe_callTy call_int1 (by rfl) T.b_int (by decide +kernel) (pa_cons (pv 0) pa_nil)) (pv 1)) pe_int (nomark _)))) (fun _ _ _ _ _ => (pv 1))))), ?_⟩
  refine ⟨Evl.sz_of (by show 6 ≤ 100000; decide), fun a1 k1 => ?_⟩
  have hl : TI K (upd H a1 (.tup [V.int 2, .int 3, .int 5, .int 7, .int 11, .int 13])) a1 [2, 3, 5, 7, 11, 13] := Evl.st_of upd_same
  refine ⟨_, rfl, ⟨_, hl⟩, lc_src (src_tup hl) (by show 6 ≤ 100000; decide) (fun i acc _ => acc = ((([2, 3, 5, 7, 11, 13] : List Int).take i).filter (fun q => decide (m % q = 0))).map V.int) (fun _ => rfl) (fun _ _ _ _ h _ => h) (fun i x acc H' Z Z' hi e hPd it z z' => ?_) (fun D H' acc hD e hl2 hPd => ?_)⟩
  · subst hPd
    obtain ⟨rfl, hi2⟩ := at_map it
    have hpos : 0 < ([2, 3, 5, 7, 11, 13] : List Int).getD i 0 := by
      have := getI hi2
      simp only [List.mem_cons, List.not_mem_nil, or_false] at this
      omega
    have hst : ([2, 3, 5, 7, 11, 13] : List Int).take (i + 1) = ([2, 3, 5, 7, 11, 13] : List Int).take i ++ [([2, 3, 5, 7, 11, 13] : List Int).getD i 0] := by
      rw [List.take_succ, List.getElem?_eq_getElem hi2, List.getD_eq_getElem?_getD, List.getElem?_eq_getElem hi2]; rfl
    generalize ([2, 3, 5, 7, 11, 13] : List Int).getD i 0 = w at *
    refine ⟨rfl, _, rfl, .inl ⟨_, rfl, _, rfl, _, _, rfl, rfl, hpos, rfl, _, rfl, ?_⟩⟩
    refine itd (fun h => ?_) (fun h => ?_)
    · refine ⟨_, rfl, z _ _ (by walk_at "k76e") ?_⟩
      have h1 := V.int.inj h
      show _ = List.map V.int _
      rw [hst, List.filter_append, List.map_append]
      congr 1
      simp [h1]
    · refine z' _ (by walk_at "k76e") ?_
      have h1 : ¬ m % w = 0 := fun y => h (congrArg V.int y)
      show _ = List.map V.int _
      rw [hst, List.filter_append, List.map_append]
      simp [h1]
  · have : acc = ps.map V.int := by
      rw [hPd]; exact congrArg (List.map V.int) hpt
    subst this
    exact q D H' (by walk_at "k76e") hl2
theorem cal_law_values (T : Txt K mg) : C8.Cal P w K mg base 2 "_law_values" (sp_law_values K) [] := by
  have c_law_take : C8.Cal P w K mg base 1 "_law_take" (sp_law_take K) [] := cal_law_take T
  obtain ⟨f, fd, F, df⟩ := T.d_law_values
  refine C8.cal0 F (F.fn.binds df fun _ _ _ _ _ _ us hl => ?bnd) .nil sc_law_values (fun vs H Q E h => ?len) fun cdv A outer s H vs Q E hr h => ?_
  case bnd => obtain ⟨a0, a1, a2, rfl⟩ := ln3 hl; rfl
  case len => first | (obtain ⟨_, rfl, _⟩ := h; rfl) | (obtain ⟨_, _, rfl, _⟩ := h; rfl) | (obtain ⟨_, _, _, rfl, _⟩ := h; rfl) | (obtain ⟨_, _, _, _, rfl, _⟩ := h; rfl) | (obtain ⟨_, _, _, _, _, rfl, _⟩ := h; rfl) | (obtain ⟨_, _, _, _, _, _, rfl, _⟩ := h; rfl) | (obtain ⟨_, _, _, _, _, _, _, rfl, _⟩ := h; rfl) | (obtain ⟨_, _, _, _, _, _, _, _, rfl, _⟩ := h; rfl) | (obtain ⟨_, _, _, _, _, _, _, _, _, rfl, _⟩ := h; rfl) | (obtain ⟨_, _, _, _, _, _, _, _, _, _, rfl, _⟩ := h; rfl) | (obtain ⟨_, _, _, _, _, _, _, _, _, _, _, rfl, _⟩ := h; rfl)
  have sc := sc_law_values
  obtain ⟨a, m, n, c, rfl, hJ, hc, hm1, hm2, hn1, hn2, q⟩ := h
  refine ⟨_, (pss_cons (ps_set (i := 3) sc.nd rfl (Or.inl rfl) (C8.pe_c c_law_take hr (by decide) (by rfl) (pa_cons (pv 0) (pa_cons pe_int pa_nil))))
      (pss_cons (ps_if (pt_cmpR op_eq (pv 3) pe_int (nomark _)) (pss_cons (ps_set (i := 4) sc.nd rfl (Or.inr rfl) (pe_lc (own := [("_law_turn", 5)]) (g := (gName 5)) (tt := tYes) rfl sc.nd (pi_range1 rfl T.b_range (pa_cons (pe_op op_add pe_int (C8.pe_c c_law_take hr (by decide) (by rfl) (pa_cons (pv 0) (pa_cons (pv 2) pa_nil)))) pa_nil)) (blkOk_by (N := n_law_values) (sc := C8.fnScope s_law_values) (by decide +kernel)) (fun _ _ _ _ _ => (pg_name (i := 5) sc.nd rfl (Or.inl rfl))) (fun _ _ _ _ _ => pts_nil) (fun _ _ _ _ _ => (C8.pe_c c_law_take hr (by decide) (by rfl) (pa_cons (pv 0) (pa_cons (pv 1) pa_nil))))))
      (pss_one (ps_ret (pe_callTy call_tuple_of (by rfl) T.b_tuple (by decide +kernel) (pa_cons (pe_lc (own := [("_law_at", 6)]) (g := (gName 6)) (tt := tYes) rfl sc.nd (pi_range1 rfl T.b_range (pa_cons (pv 2) pa_nil)) (blkOk_by (N := n_law_values) (sc := C8.fnScope s_law_values) (by decide +kernel)) (fun _ _ _ _ _ => (pg_name (i := 6) sc.nd rfl (Or.inl rfl))) (fun _ _ _ _ _ => pts_nil) (fun _ _ _ _ _ => (pe_ix (ix_listK (K0 := K)) (pv 4) (pe_op op_mod (pe_callTy call_int1 (by rfl) T.b_int (by decide +kernel) (pa_cons (pv 6) pa_nil)) (pe_callB (call_lenK (K0 := K)) (by rfl) T.b_len (by decide +kernel) (pa_cons (pv 4) pa_nil))) (fun _ _ => rfl)))) pa_nil))))) pss_nil)
      (pss_cons (ps_if (pt_cmpR op_eq (pv 3) pe_int (nomark _)) (pss_one (ps_ret (pe_callTy call_tuple_of (by rfl) T.b_tuple (by decide +kernel) (pa_cons (pe_lc (own := [("_law_at", 6)]) (g := (gName 6)) (tt := tYes) rfl sc.nd (pi_range1 rfl T.b_range (pa_cons (pv 2) pa_nil)) (blkOk_by (N := n_law_values) (sc := C8.fnScope s_law_values) (by decide +kernel)) (fun _ _ _ _ _ => (pg_name (i := 6) sc.nd rfl (Or.inl rfl))) (fun _ _ _ _ _ => pts_nil) (fun _ _ _ _ _ => (pe_op op_mul (C8.pe_c c_law_take hr (by decide) (by rfl) (pa_cons (pv 0) (pa_cons (pv 1) pa_nil))) (pe_callTy call_int1 (by rfl) T.b_int (by decide +kernel) (pa_cons (pe_cmpR op_eq (C8.pe_c c_law_take hr (by decide) (by rfl) (pa_cons (pv 0) (pa_cons pe_int pa_nil))) pe_int (nomark _)) pa_nil))))) pa_nil)))) pss_nil)
      (pss_one (ps_ret (pe_callTy call_tuple_of (by rfl) T.b_tuple (by decide +kernel) (pa_cons (pe_lc (own := [("_law_at", 6)]) (g := (gName 6)) (tt := tYes) rfl sc.nd (pi_range1 rfl T.b_range (pa_cons (pv 2) pa_nil)) (blkOk_by (N := n_law_values) (sc := C8.fnScope s_law_values) (by decide +kernel)) (fun _ _ _ _ _ => (pg_name (i := 6) sc.nd rfl (Or.inl rfl))) (fun _ _ _ _ _ => pts_nil) (fun _ _ _ _ _ => (C8.pe_c c_law_take hr (by decide) (by rfl) (pa_cons (pv 0) (pa_cons (pv 1) pa_nil))))) pa_nil))))))), ?_⟩
  refine ⟨_, rfl, a, 4, c, rfl, hJ, by omega, by decide, by decide, fun r1 H1 e1 j1 r10 r11 => ?_⟩
  refine ⟨_, rfl, rfl, _, rfl, ?_⟩
  refine itd (fun h => ?_) (fun h => ?_)
  · refine ⟨_, rfl, _, rfl, a, n, c + 1, rfl, j1, by omega, by omega, by omega, fun r2 H2 e2 j2 r20 r21 => ?_⟩
    refine ⟨_, _, rfl, rfl, _, rfl, by omega, by omega, lc_jr (n := (1 + r2).toNat) (by omega) a 1 (c + 2) m j2 (fun i H' Z hi e j z => ?_) (fun D H3 us hD e3 hl3 hul hur j3 => ?_)⟩
    · exact ⟨rfl, _, rfl, _, rfl, a, m, _, rfl, j, by omega, by omega, by omega, fun r H' e j r0 r1 => z r H' e j r0 r1⟩
    · have hune : us ≠ [] := fun z => by rw [z] at hul; have : (0 : Nat) = (1 + r2).toNat := hul; omega
      have hup := List.length_pos_iff.mpr hune
      refine ⟨_, rfl, _, rfl, by omega, by omega, lc_int (n := n) (by rw [show ((n : Nat) : Int).toNat = n from rfl]; exact src_rng) (by omega) (fun i => us.getD (i % us.length) 0) (fun i x H' Z hi e it z => ?_) (fun D2 H4 hD2 e4 hl4 => ?_)⟩
      · have hx' : x = .int (i : Nat) := it.trans (congrArg V.int (by omega))
        subst hx'
        have hl5 : LI H' D us := e _ _ hl3
        refine ⟨rfl, _, rfl, _, rfl, .inl ⟨_, rfl, _, rfl, _, _, rfl, .inl (li_sq hl5), _, _, rfl, rfl, by rw [lenm]; omega, _, _, _, _, rfl, rfl, li_sq hl5, ?_, z _ (by walk_at "k76e")⟩⟩
        refine atI_nn (j := i % us.length) ?_ (Nat.mod_lt _ hup)
        rw [lenm, Int.natCast_emod]
      · refine ⟨_, _, rfl, .inl ⟨li_sq hl4, fun l hl => ?_⟩⟩
        have e14 : Xj a H H4 := (e1.trans (e2.trans e3)).trans (exj e4 a)
        refine q l _ _ (e14.trans (exj (Evl.Ex.new hl) a)) (((j3.up e4).upd hl).mono (by omega)) (Evl.st_of upd_same) (by rw [List.length_map, List.length_range]) fun v hv => ?_
        obtain ⟨k, _, rfl⟩ := List.mem_map.mp hv
        exact hur _ (getI (Nat.mod_lt _ hup))
  refine ⟨_, rfl, rfl, _, rfl, ?_⟩
  refine itd (fun h2 => ?_) (fun h2 => ?_)
  · refine ⟨_, rfl, _, rfl, by omega, by omega, lc_jr (n := n) (by omega) a 2 (c + 1) m j1 (fun i H' Z hi e j z => ?_) (fun D H3 us hD e3 hl3 hul hur j3 => ?_)⟩
    · refine ⟨rfl, _, rfl, _, rfl, a, m, _, rfl, j, by omega, by omega, by omega, fun r3 H3 e3 j3 r30 r31 => ?_⟩
      refine ⟨_, rfl, a, 4, _, rfl, j3, by omega, by decide, by decide, fun r4 H4 e4 j4 r40 r41 => ?_⟩
      refine ⟨rfl, .inr ⟨_, rfl, _, _, rfl, rfl, cmul_s (by omega), ?_⟩⟩
      dsimp only
      by_cases c4 : V.int r4 = V.int 0
      · rw [decide_eq_true c4, if_pos rfl, Int.mul_one]
        exact z _ _ (e3.trans e4) j4 r30 r31
      · rw [decide_eq_false c4, if_neg (by decide), Int.mul_zero]
        exact z _ _ (e3.trans e4) j4 (by omega) (by omega)
    · refine ⟨_, _, rfl, .inl ⟨li_sq hl3, fun l hl => ?_⟩⟩
      exact q l _ _ ((e1.trans e3).trans (exj (Evl.Ex.new hl) a)) ((j3.upd hl).mono (by omega)) (Evl.st_of upd_same) hul hur
  · refine ⟨_, rfl, _, rfl, by omega, by omega, lc_jr (n := n) (by omega) a 1 (c + 1) m j1 (fun i H' Z hi e j z => ?_) (fun D H3 us hD e3 hl3 hul hur j3 => ?_)⟩
    · exact ⟨rfl, _, rfl, _, rfl, a, m, _, rfl, j, by omega, by omega, by omega, fun r H' e j r0 r1 => z r H' e j r0 r1⟩
    · refine ⟨_, _, rfl, .inl ⟨li_sq hl3, fun l hl => ?_⟩⟩
      exact q l _ _ ((e1.trans e3).trans (exj (Evl.Ex.new hl) a)) ((j3.upd hl).mono (by omega)) (Evl.st_of upd_same) hul hur
theorem cal_law_step (T : Txt K mg) : C8.Cal P w K mg base 1 "_law_step" (sp_law_step K) [] := by
  obtain ⟨f, fd, F, df⟩ := T.d_law_step
  refine C8.cal0 F (F.fn.binds df fun _ _ _ _ _ _ us hl => ?bnd) .nil sc_law_step (fun vs H Q E h => ?len) fun cdv A outer s H vs Q E hr h => ?_
  case bnd => obtain ⟨a0, a1, rfl⟩ := ln2 hl; rfl
  case len => first | (obtain ⟨_, rfl, _⟩ := h; rfl) | (obtain ⟨_, _, rfl, _⟩ := h; rfl) | (obtain ⟨_, _, _, rfl, _⟩ := h; rfl) | (obtain ⟨_, _, _, _, rfl, _⟩ := h; rfl) | (obtain ⟨_, _, _, _, _, rfl, _⟩ := h; rfl) | (obtain ⟨_, _, _, _, _, _, rfl, _⟩ := h; rfl) | (obtain ⟨_, _, _, _, _, _, _, rfl, _⟩ := h; rfl) | (obtain ⟨_, _, _, _, _, _, _, _, rfl, _⟩ := h; rfl) | (obtain ⟨_, _, _, _, _, _, _, _, _, rfl, _⟩ := h; rfl) | (obtain ⟨_, _, _, _, _, _, _, _, _, _, rfl, _⟩ := h; rfl) | (obtain ⟨_, _, _, _, _, _, _, _, _, _, _, rfl, _⟩ := h; rfl)
  have sc := sc_law_step
  obtain ⟨a, b, m, ts, ns, rfl, ⟨ta, hA, xs, hx, hP⟩, hB, hm1, hm2, hz, hv, hne, hzn, q⟩ := h
  have hn := List.length_pos_iff.mpr hne
  have hxl := hP.1
  refine ⟨_, (pss_cons (ps_asg (pe_tup (pa_cons (pe_callB (call_lenK (K0 := K)) (by rfl) T.b_len (by decide +kernel) (pa_cons (pv 1) pa_nil)) (pa_cons (pe_lst pa_nil) pa_nil))) (pg_tup rfl (pgs_cons (pg_name (i := 2) sc.nd rfl (Or.inr rfl)) (pgs_cons (pg_name (i := 3) sc.nd rfl (Or.inl rfl)) pgs_nil))))
      (pss_cons (ps_for PassesOwn.never rfl (pi_range1 rfl T.b_range (pa_cons (pv 2) pa_nil)) (pg_name (i := 4) sc.nd rfl (Or.inr rfl)) (pss_one (ps_expr (pe_bm PySem.F.plainAttrs_list PySem.F.slot_list_append PySem.F.type_list_append mt_append (pv 3) (pa_cons (pe_op op_mod (pe_callTy call_int1 (by rfl) T.b_int (by decide +kernel) (pa_cons (pe_callB (cr_sum rfl) (by rfl) T.b_sum (by decide +kernel) (pa_cons (pe_lc (own := [("_law_offset", 5), ("_law_factor", 6)]) (g := (gTup K 2 (gCons (gName 5) (gCons (gName 6) gNil)))) (tt := tYes) rfl sc.nd (pi_tup (pe_ix (ix_tupK (K0 := K)) (pv 0) pe_int (fun _ _ => rfl))) (blkOk_by (N := n_law_step) (sc := C8.fnScope s_law_step) (by decide +kernel)) (fun _ _ _ _ _ => (pg_tupK (K0 := K) rfl (pgs_cons (pg_name (i := 5) sc.nd rfl (Or.inl rfl)) (pgs_cons (pg_name (i := 6) sc.nd rfl (Or.inl rfl)) pgs_nil)))) (fun _ _ _ _ _ => pts_nil) (fun _ _ _ _ _ => (pe_op op_mul (pv 6) (pe_ix (ix_tupK (K0 := K)) (pv 1) (pe_op op_mod (pe_callTy call_int1 (by rfl) T.b_int (by decide +kernel) (pa_cons (pe_op op_add (pv 4) (pv 5)) pa_nil)) (pv 2)) (fun _ _ => rfl))))) pa_nil)) pa_nil)) (pe_ix (ix_tupK (K0 := K)) (pv 0) pe_int (fun _ _ => rfl))) pa_nil)))))
      (pss_one (ps_ret (pe_callTy call_tuple_of (by rfl) T.b_tuple (by decide +kernel) (pa_cons (pv 3) pa_nil)))))), ?_⟩
  refine ⟨_, rfl, _, _, rfl, .inr hB, sz0, fun a1 k1 => ?_⟩
  refine ⟨sz2, fun a2 k2 => ?_⟩
  refine ⟨_, _, rfl, Evl.st_of upd_same, rfl, _, _, rfl, _, _, rfl, rfl, ?_⟩
  rw [lenm]
  have eG : Ex H (upd (upd H a1 (.lst [])) a2 (.tup [.int ns.length, .ref a1])) := by walk_at "k76e"
  have lG : (upd (upd H a1 (.lst [])) a2 (.tup [.int ns.length, .ref a1])) a1 = some (.lst []) := by walk_at "k76h"
  generalize (upd (upd H a1 (.lst [])) a2 (.tup [.int ns.length, .ref a1])) = G at *
  refine ⟨_, rfl, _, rfl, by omega, by omega, ?_⟩
  refine for_src (src_rng (B := fun _ => none) (lo := 0) (n := ns.length)) (fun i σ H' => Ex H H' ∧ ∃ y4 y5 y6, σ = [some (.ref a), some (.ref b), some (.int (ns.length : Nat)), some (.ref a1), y4, y5, y6] ∧ LI H' a1 ((List.range i).map fun (i : Nat) => stp ts ns i % m)) ?_ (fun i σ H' hP => ExB _) (fun i x σ H2 H3 hi hW e3 hx3 => ?_) (fun σ H2 hW => ?_)
  · exact ⟨eG, none, none, none, rfl, lG⟩
  · obtain ⟨e2, y4, y5, y6, rfl, hl⟩ := hW
    have hx' : x = .int (i : Nat) := hx3.trans (congrArg V.int (by omega))
    subst hx'
    have e03 : Ex H H3 := by walk_at "k76e"
    have hl3 : LI H3 a1 _ := e3 _ _ hl
    have hxs3 : SqT K H3 ta xs := sqt_up hx e03
    refine ⟨_, rfl, .inl ⟨rfl, _, li_sq hl3⟩, _, rfl, _, _, _, _, rfl, rfl, sqt_up hA e03, at1, _, rfl, ⟨_, hxs3⟩, lc_int (src_tup hxs3) (by omega) (fun j => (ts.getD j (0, 0)).2 * ns.getD (((i : Int) + (ts.getD j (0, 0)).1) % ns.length).toNat 0) (fun j x H' Z hj e it z => ?_) (fun D H' hD e hl5 => ?_)⟩
    · obtain ⟨U, hU, hU2⟩ := hP.2 j (by omega)
      have ex : x = .ref U := Option.some.inj (it.symm.trans hU)
      subst ex
      have hvj := hv _ (mem_getD (show j < ts.length by omega))
      have hmb := mod_lt' (a := (i : Int) + (ts.getD j (0, 0)).1) (m := (ns.length : Int)) (by omega)
      refine ⟨_, _, rfl, sqt_up hU2 (e03.trans e), rfl, _, _, rfl, _, _, rfl, rfl, rfl, ?_⟩
      exact ⟨_, rfl, _, rfl, _, rfl, _, rfl, _, _, rfl, rfl, .inl ⟨_, rfl, _, rfl, _, _, rfl, rfl, by omega, _, _, _, _, rfl, rfl, sqt_up hB (e03.trans e), atI_int hmb.1 hmb.2, _, _, rfl, rfl, cmul_s (by omega), z _ (by walk_at "k76e")⟩⟩
    · have hsum : ((List.range xs.length).map fun j => (ts.getD j (0, 0)).2 * ns.getD (((i : Int) + (ts.getD j (0, 0)).1) % ns.length).toNat 0).sum = stp ts ns i := by
        unfold stp
        congr 1
        apply List.ext_getElem
        · rw [List.length_map, List.length_range, List.length_map, hxl]
        · intro k h1 h2
          have c : k < ts.length := by rw [List.length_map] at h2; exact h2
          rw [List.getElem_map, List.getElem_range, List.getElem_map, List.getD_eq_getElem?_getD, List.getElem?_eq_getElem c]; rfl
      have hl6 : LI H' a1 _ := e _ _ hl3
      refine ⟨_, _, rfl, li_sq hl5, .inl ⟨_, rfl, _, rfl, _, _, _, _, rfl, rfl, sqt_up hA (e03.trans e), at0, _, _, rfl, rfl, by omega, _, _, _, rfl, rfl, hl6, Evl.sz_lt (by rw [List.length_map, List.length_map, List.length_range]; omega), ?_⟩⟩
      refine ⟨Evl.Ex.mut (by walk_at "k76e") (show H a1 = none from k1), _, _, _, rfl, ?_⟩
      refine upd_same.trans (congrArg (fun l => some (HO.lst l)) ?_)
      dsimp only
      rw [hsum, List.range_succ, List.map_append, List.map_append]; rfl
  · obtain ⟨e2, y4, y5, y6, rfl, hl⟩ := hW
    refine ⟨_, rfl, _, _, rfl, .inl ⟨li_sq hl, fun l hl2 => ?_⟩⟩
    exact q l _ (by walk_at "k76e") (Evl.st_of upd_same)
end
end K76
namespace K76
open PySem PySem.Spec PyProof.Rows L2

def sp_law_back (K : PySem.W.Frag) : Sp := fun vs H Q _ => ∃ (v p : Int), vs = [.int v, .int p] ∧ Pr p ∧ 0 < v ∧ v < p ∧ ∀ b H', Ex H H' → 0 ≤ b → b < p → v * b % p = 1 → Q (.int b) H'
def sp_law_rest (K : PySem.W.Frag) : Sp := fun vs H Q _ => ∃ (a b : Addr) (ns ms : List Int) (p : Nat), vs = [.ref a, .ref b, .int p] ∧ LI H a ns ∧ LI H b ms ∧ Pr p ∧ Rg p ns ∧ Can p ms ∧ ms ≠ [] ∧ ns.length ≤ 40000 ∧
  ∀ r rs H', Ex H H' → LI H' r rs → RestR p ns ms rs → Q (.ref r) H'
def sp_law_times (K : PySem.W.Frag) : Sp := fun vs H Q _ => ∃ (a b : Addr) (ns ms : List Int) (p : Nat), vs = [.ref a, .ref b, .int p] ∧ LI H a ns ∧ LI H b ms ∧ Pr p ∧ Rg p ns ∧ Rg p ms ∧ ns.length ≤ 10000 ∧ ms.length ≤ 10000 ∧
  ∀ r rs H', Ex H H' → LI H' r rs → Rg p rs → rs.length ≤ ns.length + ms.length → (∀ (F : Type) [Lean.Grind.CommRing F] [Lean.Grind.IsCharP F p], PL F rs = PL F ns * PL F ms) → Q (.ref r) H'
def sp_law_common (K : PySem.W.Frag) : Sp := fun vs H Q _ => ∃ (a b : Addr) (ns ms : List Int) (p : Nat), vs = [.ref a, .ref b, .int p] ∧ LI H a ns ∧ LI H b ms ∧ Pr p ∧ Can p ns ∧ Can p ms ∧ ns ≠ [] ∧ ns.length ≤ 20000 ∧ ms.length ≤ 20000 ∧
  ∀ r g H', Ex H H' → LI H' r g → ComR p ns ms g → Q (.ref r) H'
def sp_law_ring_common (K : PySem.W.Frag) : Sp := fun vs H Q _ => ∃ (a : Addr) (one : List Int) (N p : Nat), vs = [.ref a, .int N, .int p] ∧ LI H a one ∧ Pr p ∧ Can p one ∧ one ≠ [] ∧ one.length ≤ 5000 ∧ N ≤ 90000 ∧
  ∀ r g H', Ex H H' → LI H' r g → GcdR p one N g → Q (.ref r) H'
open Lean.Grind in
section
variable {F : Type} [CommRing F] {p : Nat} [IsCharP F p]
theorem rest_turn {one other rest rest' : List Int} {at' : Nat} {f h : Int} (ho : other ≠ []) (hl : rest.length = at' + other.length) (hl' : rest'.length = rest.length)
    (hf : f = rest.getD (at' + other.length - 1) 0 * h % (p : Int)) (hh : other.getD (other.length - 1) 0 * h % (p : Int) = 1) (hp : 2 ≤ (p : Int))
    (e : ∃ q, PL F one = q * PL F other + PL F rest) (e' : PL F rest' = PL F rest - Cp (ci F f) * Xp ^ at' * PL F other) :
    (∃ q, PL F one = q * PL F other + PL F rest'.dropLast) := by
  have hpos := List.length_pos_iff.mpr ho
  have hh' : ci F (other.getD (other.length - 1) 0) * ci F h = 1 := by
    rw [← ci_mul, ← ci_one, ci_eq (p := p), hh, Int.emod_eq_of_lt (by decide) (by omega)]
  have d : DegLt (PL F rest') (at' + other.length - 1) := by
    intro k hk
    rw [e', co_sub]
    have e3 : Cp (ci F f) * Xp ^ at' * PL F other = Cp (ci F f) * (Xp ^ at' * PL F other) := by grind
    rw [e3, co_C, co_Xpow]
    by_cases c : k = at' + other.length - 1
    · subst c
      rw [show ((at' + other.length - 1 : Nat) : Int) - (at' : Int) = ((other.length - 1 : Nat) : Int) by omega, co_PL, co_PL, hf, ci_mod, ci_mul]
      grind
    · rw [deg_PL rest (Nat.le_refl _) k (by omega), show (k : Int) - (at' : Int) = ((k - at' : Nat) : Int) by omega, deg_PL other (Nat.le_refl _) (k - at') (by omega)]
      grind
  obtain ⟨q, e⟩ := e
  refine ⟨q + Cp (ci F f) * Xp ^ at', ?_⟩
  rw [List.dropLast_eq_take, show rest'.length - 1 = at' + other.length - 1 by omega, PL_takeD d, e', e]; grind
theorem mul_stepm {found one other : List Int} {i j : Nat} (hi : i < one.length) (hj : j < other.length) (hf : found.length + 1 = one.length + other.length)
    (h : PL F found = PL F (one.take i) * PL F other + Cp (ci F (one.getD i 0)) * Xp ^ i * PL F (other.take j)) :
    PL F (found.set (i + j) ((found.getD (i + j) 0 + one.getD i 0 * other.getD j 0) % (p : Int))) = PL F (one.take i) * PL F other + Cp (ci F (one.getD i 0)) * Xp ^ i * PL F (other.take (j + 1)) := by
  rw [PL_setmod _ (by omega), h, PL_take _ hj, ci_add, ci_mul]
  have e : (Xp : Poly F) ^ (i + j) = Xp ^ i * Xp ^ j := by grind
  have e2 : Cp (ci F (found.getD (i + j) 0) + ci F (one.getD i 0) * ci F (other.getD j 0) - ci F (found.getD (i + j) 0)) = Cp (ci F (one.getD i 0)) * Cp (ci F (other.getD j 0)) := by
    rw [← Cp_mul]; congr 1; grind
  rw [e, e2]; grind
end
theorem Rg.dropLast {p : Int} {l : List Int} (h : Rg p l) : Rg p l.dropLast := fun a ha => h a (List.dropLast_subset _ ha)
section
variable {P : Program} {w : World} {K : PySem.W.Frag} {mg : Str → Option Value} {base : Heap}
theorem cal_law_back (T : Txt K mg) : C8.Cal P w K mg base 1 "_law_back" (sp_law_back K) [] := by
  obtain ⟨f, fd, F, df⟩ := T.d_law_back
  refine C8.cal0 F (F.fn.binds df fun _ _ _ _ _ _ us hl => ?bnd) .nil sc_law_back (fun vs H Q E h => ?len) fun cdv A outer s H vs Q E hr h => ?_
  case bnd => obtain ⟨a0, a1, rfl⟩ := ln2 hl; rfl
  case len => first | (obtain ⟨_, rfl, _⟩ := h; rfl) | (obtain ⟨_, _, rfl, _⟩ := h; rfl) | (obtain ⟨_, _, _, rfl, _⟩ := h; rfl) | (obtain ⟨_, _, _, _, rfl, _⟩ := h; rfl) | (obtain ⟨_, _, _, _, _, rfl, _⟩ := h; rfl) | (obtain ⟨_, _, _, _, _, _, rfl, _⟩ := h; rfl) | (obtain ⟨_, _, _, _, _, _, _, rfl, _⟩ := h; rfl) | (obtain ⟨_, _, _, _, _, _, _, _, rfl, _⟩ := h; rfl) | (obtain ⟨_, _, _, _, _, _, _, _, _, rfl, _⟩ := h; rfl) | (obtain ⟨_, _, _, _, _, _, _, _, _, _, rfl, _⟩ := h; rfl) | (obtain ⟨_, _, _, _, _, _, _, _, _, _, _, rfl, _⟩ := h; rfl)
  have sc := sc_law_back
  obtain ⟨v, p, rfl, hp, hv0, hv1, q⟩ := h
  have hpb := hp.b
  refine ⟨_, (pss_one (ps_ret (pe_ix (ix_listK (K0 := K)) (pe_lc (own := [("_law_other", 2)]) (g := (gName 2)) rfl sc.nd (pi_range1 rfl T.b_range (pa_cons (pv 1) pa_nil)) (blkOk_by (N := n_law_back) (sc := C8.fnScope s_law_back) (by decide +kernel)) (fun _ _ _ _ _ => (pg_name (i := 2) sc.nd rfl (Or.inl rfl))) (fun _ _ _ _ _ => (pts_one (pt_cmpR op_eq (pe_op op_mod (pe_callTy call_int1 (by rfl) T.b_int (by decide +kernel) (pa_cons (pe_op op_mul (pv 0) (pv 2)) pa_nil)) (pv 1)) pe_int (nomark _)))) (fun _ _ _ _ _ => (pv 2))) pe_int (fun _ _ => rfl)))), ?_⟩
  refine ⟨_, rfl, _, rfl, by omega, by omega, lc_src (n := p.toNat) src_rng (by omega) (fun i acc _ => ∃ bs : List Int, acc = bs.map V.int ∧ (∀ b ∈ bs, 0 ≤ b ∧ b < p ∧ v * b % p = 1) ∧ ∀ j : Nat, j < i → v * j % p = 1 → bs ≠ []) (fun _ => ⟨[], rfl, (fun b hb => absurd hb (by simp)), fun j hj => absurd hj (Nat.not_lt_zero _)⟩) (fun _ _ _ _ h _ => h) (fun i x acc H' Z Z' hi e hPd it z z' => ?_) (fun D H' acc hD e hl hPd => ?_)⟩
  · obtain ⟨bs, rfl, hb, hj⟩ := hPd
    have hx' : x = .int (i : Nat) := it.trans (congrArg V.int (by omega))
    subst hx'
    refine ⟨rfl, _, rfl, _, rfl, _, _, rfl, rfl, cmul_s (by omega), .inl ⟨_, rfl, _, rfl, _, _, rfl, rfl, by omega, rfl, _, rfl, ?_⟩⟩
    refine itd (fun h => ?_) (fun h => ?_)
    · have h1 := V.int.inj h
      refine ⟨_, rfl, z _ _ (by walk_at "k76e") ⟨bs ++ [(i : Int)], by rw [List.map_append]; rfl, fun b hb2 => ?_, fun _ _ _ => by simp⟩⟩
      rcases List.mem_append.mp hb2 with y | y
      · exact hb b y
      · rw [List.mem_singleton.mp y]; exact ⟨by omega, by omega, h1⟩
    · refine z' _ (by walk_at "k76e") ⟨bs, rfl, hb, fun j hj2 h1 => ?_⟩
      by_cases c : j < i
      · exact hj j c h1
      · rw [show j = i by omega] at h1
        exact absurd (congrArg V.int h1) h
  · obtain ⟨bs, rfl, hb, hj⟩ := hPd
    have hne : bs ≠ [] := by
      have h1 := inv_ok p.toNat (by unfold Pr at hp; omega) v.toNat (by omega) (by omega)
      have h2 : v.toNat ^ (p.toNat - 2) % p.toNat < p.toNat := Nat.mod_lt _ (by omega)
      refine hj _ h2 ?_
      have e1 : v = (v.toNat : Int) := by omega
      have e2 : p = (p.toNat : Int) := by omega
      rw [Nat.mul_comm] at h1
      generalize v.toNat ^ (p.toNat - 2) % p.toNat = w at *
      rw [e1, e2, ← Int.natCast_mul, ← Int.natCast_emod, h1]; rfl
    have hlb := List.length_pos_iff.mpr hne
    have hb0 := hb _ (getI hlb)
    exact ⟨_, _, _, _, rfl, rfl, li_sq hl, atI_nn (j := 0) rfl hlb, q _ _ (by walk_at "k76e") hb0.1 hb0.2.1 hb0.2.2⟩
theorem cal_law_rest (T : Txt K mg) : C8.Cal P w K mg base 2 "_law_rest" (sp_law_rest K) [] := by
  have c_law_back : C8.Cal P w K mg base 1 "_law_back" (sp_law_back K) [] := cal_law_back T
  obtain ⟨f, fd, F, df⟩ := T.d_law_rest
  refine C8.cal0 F (F.fn.binds df fun _ _ _ _ _ _ us hl => ?bnd) .nil sc_law_rest (fun vs H Q E h => ?len) fun cdv A outer s H vs Q E hr h => ?_
  case bnd => obtain ⟨a0, a1, a2, rfl⟩ := ln3 hl; rfl
  case len => first | (obtain ⟨_, rfl, _⟩ := h; rfl) | (obtain ⟨_, _, rfl, _⟩ := h; rfl) | (obtain ⟨_, _, _, rfl, _⟩ := h; rfl) | (obtain ⟨_, _, _, _, rfl, _⟩ := h; rfl) | (obtain ⟨_, _, _, _, _, rfl, _⟩ := h; rfl) | (obtain ⟨_, _, _, _, _, _, rfl, _⟩ := h; rfl) | (obtain ⟨_, _, _, _, _, _, _, rfl, _⟩ := h; rfl) | (obtain ⟨_, _, _, _, _, _, _, _, rfl, _⟩ := h; rfl) | (obtain ⟨_, _, _, _, _, _, _, _, _, rfl, _⟩ := h; rfl) | (obtain ⟨_, _, _, _, _, _, _, _, _, _, rfl, _⟩ := h; rfl) | (obtain ⟨_, _, _, _, _, _, _, _, _, _, _, rfl, _⟩ := h; rfl)
  have sc := sc_law_rest
  obtain ⟨a, b, ns, ms, p, rfl, hA, hB, hp, hr1, hc2, hne, hz1, q⟩ := h
  have hpb := hp.b
  have m0 := List.length_pos_iff.mpr hne
  have hlast := hc2.last0 hne
  refine ⟨_, (pss_cons (ps_par3 (i := 3) (j := 4) (l := 5) (by rfl) sc.nd rfl rfl rfl (by decide) (by decide) (by decide) rfl rfl rfl (pa_cons (pe_callTy call_list_of (by rfl) T.b_list (by decide +kernel) (pa_cons (pv 0) pa_nil)) (pa_cons (pe_callB (call_lenK (K0 := K)) (by rfl) T.b_len (by decide +kernel) (pa_cons (pv 1) pa_nil)) (pa_cons (C8.pe_c c_law_back hr (by decide) (by rfl) (pa_cons (pe_ix (ix_listK (K0 := K)) (pv 1) (pe_un un_neg pe_int) (fun _ _ => rfl)) (pa_cons (pv 2) pa_nil))) pa_nil))) (by rfl))
      (pss_cons (ps_while PassesOwn.never (pt_cmpR op_ge (pe_callB (call_lenK (K0 := K)) (by rfl) T.b_len (by decide +kernel) (pa_cons (pv 3) pa_nil)) (pv 4) (nomark _)) (pss_cons (ps_par (i := 6) (j := 7) (by rfl) sc.nd rfl rfl (by decide) rfl rfl (pa_cons (pe_op op_mod (pe_callTy call_int1 (by rfl) T.b_int (by decide +kernel) (pa_cons (pe_op op_mul (pe_ix (ix_listK (K0 := K)) (pv 3) (pe_un un_neg pe_int) (fun _ _ => rfl)) (pv 5)) pa_nil)) (pv 2)) (pa_cons (pe_op op_sub (pe_callB (call_lenK (K0 := K)) (by rfl) T.b_len (by decide +kernel) (pa_cons (pv 3) pa_nil)) (pv 4)) pa_nil)) (by rfl))
      (pss_cons (ps_for PassesOwn.never rfl (pi_enum (by rfl) T.b_enumerate (pa_cons (pv 1) pa_nil)) (pg_tup rfl (pgs_cons (pg_name (i := 8) sc.nd rfl (Or.inl rfl)) (pgs_cons (pg_name (i := 9) sc.nd rfl (Or.inl rfl)) pgs_nil))) (pss_one (ps_asg (pe_op op_mod (pe_callTy call_int1 (by rfl) T.b_int (by decide +kernel) (pa_cons (pe_op op_sub (pe_ix (ix_listK (K0 := K)) (pv 3) (pe_op op_add (pv 7) (pv 8)) (fun _ _ => rfl)) (pe_op op_mul (pv 6) (pv 9))) pa_nil)) (pv 2)) (pg_sub (pv 3) (pe_op op_add (pv 7) (pv 8)) set_list))))
      (pss_one (ps_expr (pe_bm0 PySem.F.plainAttrs_list PySem.F.slot_list_pop PySem.F.type_list_pop mt_pop (pv 3)))))))
      (pss_cons (ps_while PassesOwn.never (PW.pt (pw_and (pt_cmpR (op_neD hr.units) (pv 3) (pe_lst pa_nil) (nomark _)) (pw_and1 (pt_cmpR op_eq (pe_ix (ix_listK (K0 := K)) (pv 3) (pe_un un_neg pe_int) (fun _ _ => rfl)) pe_int (nomark _))))) (pss_one (ps_expr (pe_bm0 PySem.F.plainAttrs_list PySem.F.slot_list_pop PySem.F.type_list_pop mt_pop (pv 3)))))
      (pss_one (ps_ret (pv 3)))))), ?_⟩
  refine ⟨_, rfl, _, _, rfl, .inl (li_sq hA), fun a1 k1 => ?_⟩
  refine ⟨_, rfl, _, _, rfl, .inl (li_sq (by walk_at "k76h")), _, rfl, _, rfl, _, _, _, _, rfl, rfl, li_sq (by walk_at "k76h"), atI_last' hne, _, rfl, _, p, rfl, hp, hlast.1, hlast.2, fun hd H1 e1 hd0 hd1 hd2 => ?_⟩
  refine ⟨_, _, _, rfl, ?_⟩
  rw [lenm]
  have n1 : H a1 = none := k1
  have l1 : LI H1 a1 ns := by walk_at "k76h"
  have e01 : Ex H H1 := by walk_at "k76e"
  clear e1 k1
  refine while_m (fun n σ H' => Ex H H' ∧ ∃ y6 y7 y8 y9 fd, σ = [some (.ref a), some (.ref b), some (.int p), some (.ref a1), some (.int (ms.length : Nat)), some (.int hd), y6, y7, y8, y9] ∧ LI H' a1 fd ∧ Rg p fd ∧ fd.length = n ∧ fd.length ≤ 40000 ∧
    ∀ (F : Type) [Lean.Grind.CommRing F] [Lean.Grind.IsCharP F p], ∃ q, PL F ns = q * PL F ms + PL F fd) ns.length ?_ (fun n σ H' hW => ?_)
  · exact ⟨e01, none, none, none, none, ns, rfl, l1, hr1, rfl, hz1, fun F _ _ => ⟨0, by grind⟩⟩
  · obtain ⟨e2, y6, y7, y8, y9, fd, rfl, hl, hrf, rfl, hzf, hF⟩ := hW
    refine ⟨_, rfl, _, _, rfl, .inl (li_sq hl), _, rfl, _, _, rfl, rfl, _, rfl, ?_⟩
    rw [lenm]
    refine itd (fun h => ?_) (fun h => ?_)
    · have hfne : fd ≠ [] := fun z => by rw [z] at h; have : (([] : List Int).length : Int) = 0 := rfl; omega
      have hfl := List.length_pos_iff.mpr hfne
      have hg := hrf.get (k := fd.length - 1) (by omega)
      refine ⟨_, fun _ _ z => z, ?_⟩
      refine ⟨_, rfl, _, rfl, _, _, _, _, rfl, rfl, li_sq hl, atI_last' hfne, _, rfl, _, _, rfl, rfl, cmul_s (by omega), .inl ⟨_, rfl, _, rfl, _, _, rfl, rfl, by omega, _, rfl, _, _, rfl, .inl (li_sq hl), _, rfl, _, _, rfl, rfl, _, _, rfl, ?_⟩⟩
      generalize hf : fd.getD (fd.length - 1) 0 * hd % (p : Int) = f
      have hfb : 0 ≤ f ∧ f < p := by rw [← hf]; exact mod_lt' (by omega)
      obtain ⟨t, ht⟩ : ∃ t : Nat, fd.length = t + ms.length := ⟨fd.length - ms.length, by omega⟩
      refine ⟨_, rfl, _, _, rfl, li_sq (show H' b = _ by walk_at "k76h"), ?_⟩
      have hat : (((fd.map V.int).length : Int) - (ms.length : Nat)) = (t : Int) := by rw [lenm]; omega
      refine for_src (src_enum hB) (fun j σ H4 => Ex H H4 ∧ ∃ y8 y9 rest', σ = [some (.ref a), some (.ref b), some (.int p), some (.ref a1), some (.int (ms.length : Nat)), some (.int hd), some (.int f), some (.int (t : Nat)), y8, y9] ∧
          LI H4 a1 rest' ∧ rest'.length = fd.length ∧ Rg p rest' ∧ (∀ (F : Type) [Lean.Grind.CommRing F] [Lean.Grind.IsCharP F p], PL F rest' = PL F fd - Cp (ci F f) * Xp ^ t * PL F (ms.take j))) ?_ (fun i σ H' hP => hP.1) (fun j x σ H4 H5 hj hP e5 hx => ?_) (fun σ H4 hP => ?_)
      · refine ⟨e2, y8, y9, fd, (show [some (V.ref a), some (.ref b), some (.int p), some (.ref a1), some (.int (ms.length : Nat)), some (.int hd), some (V.int (fd.getD (fd.length - 1) 0 * hd % (p : Int))), some (V.int (((fd.map V.int).length : Int) - (ms.length : Nat))), y8, y9] = _ by rw [hf, hat]), hl, rfl, hrf, fun F _ _ => ?_⟩
        rw [List.take_zero, PL_nil]; grind
      · obtain ⟨e4, y8, y9, rest', rfl, hm1, hrl', hrr', hE⟩ := hP
        obtain ⟨U2, x2, rfl, hU2, hx2⟩ := hx
        obtain ⟨rfl, hk2⟩ := at_map hx2
        have hx3 := hc2.1.get hk2
        have hm15 : LI H5 a1 rest' := by walk_at "k76h"
        refine ⟨_, _, rfl, Evl.st_of hU2, rfl, _, _, rfl, _, _, rfl, rfl, ?_⟩
        refine ⟨_, rfl, _, rfl, _, rfl, _, _, rfl, rfl, _, _, _, _, rfl, rfl, li_sq hm15, atI_nn (j := t + j) (by omega) (by omega), _, rfl, _, rfl, _, _, rfl, rfl, cmul_s (by omega), _, _, rfl, rfl, .inl ⟨_, rfl, _, rfl, _, _, rfl, rfl, by omega, _, rfl, _, rfl, _, rfl, _, _, rfl, rfl, _, _, _, _, rfl, rfl, hm15, ixN_nn (j := t + j) (by omega) (by rw [List.length_map]; omega), ?_⟩⟩
        refine ⟨Evl.Ex.mut (by walk_at "k76e") n1, _, _, _, rfl, ?_, ?_, ?_, fun F _ _ => div_step hk2 (by omega) (hE F)⟩
        · rw [map_set_int]; exact upd_same
        · rw [List.length_set]; exact hrl'
        · exact hrr'.set (mod_lt' (by omega)) _
      · obtain ⟨e4, y8, y9, rest', rfl, hm1, hrl', hrr', hE⟩ := hP
        rw [List.length_map, List.take_length] at hE
        refine ⟨_, rfl, .inl ⟨rfl, _, li_sq hm1⟩, _, _, .int (rest'.getD (rest'.length - 1) 0), rfl, rfl, hm1, by rw [List.length_map]; exact get_nn (by omega), ?_⟩
        refine ⟨fd.length - 1, by omega, Evl.Ex.mut e4 n1, _, _, _, _, rest'.dropLast, rfl, by rw [map_dl]; exact upd_same, hrr'.dropLast, by rw [List.length_dropLast, hrl'], by rw [List.length_dropLast]; omega, fun F _ _ => ?_⟩
        refine rest_turn (p := p) hne ht hrl' ?_ hd2 (by omega) (hF F) (hE F)
        rw [← hf, ht]
    · refine while_m (fun n σ H' => Ex H H' ∧ ∃ y6 y7 y8 y9 l, σ = [some (.ref a), some (.ref b), some (.int p), some (.ref a1), some (.int (ms.length : Nat)), some (.int hd), y6, y7, y8, y9] ∧ LI H' a1 l ∧ l.length = n ∧ trim l = trim fd) fd.length ?_ (fun n σ H' hW => ?_)
      · exact ⟨e2, _, _, _, _, fd, rfl, hl, rfl, rfl⟩
      · obtain ⟨e3, y6, y7, y8, y9, l, rfl, hl1, rfl, ht⟩ := hW
        refine ⟨_, rfl, sz0, fun a0 k0 => ?_⟩
        have hl2 : LI (upd H' a0 (.lst [])) a1 l := by walk_at "k76h"
        refine ⟨_, _, dp_l (li_sq hl2), dp_e upd_same, shp_l _, shp_e, _, rfl, ?_⟩
        rw [eqv_e]
        have done : trim l = l → ∀ H9, Ex (upd H' a0 (.lst [])) H9 → Q (V.ref a1) H9 := fun hs H9 e9 => by
          refine q a1 l H9 (by walk_at "k76e") (own_up hl2 e9) ⟨?_, ?_, fun F _ _ => ?_⟩
          · rw [← hs, ht]; exact can_trim hrf
          · rw [← hs, ht]
            have := trim_len fd
            omega
          · obtain ⟨k, e⟩ := hF F
            refine ⟨k, ?_⟩
            rw [← hs, ht, PL_trim]; exact e
        refine itn (fun h => ?_) (fun h => ?_)
        · refine ⟨_, rfl, _, rfl, _, _, _, _, rfl, rfl, li_sq hl2, atI_last' h, rfl, _, rfl, ?_⟩
          refine itd (fun h2 => ?_) (fun h2 => ?_)
          · have h3 := V.int.inj h2
            have hpl := List.length_pos_iff.mpr h
            refine ⟨_, fun _ _ z => z, ?_⟩
            refine ⟨_, rfl, .inl ⟨rfl, _, li_sq hl2⟩, _, _, .int (l.getD (l.length - 1) 0), rfl, rfl, hl2, by rw [List.length_map]; exact get_nn (by omega), ?_⟩
            exact ⟨l.length - 1, by omega, Evl.Ex.mut (by walk_at "k76e") n1, _, _, _, _, l.dropLast, rfl, by rw [map_dl]; exact upd_same, by simp, by rw [← trim_step h h3]; exact ht⟩
          · exact ⟨_, rfl, done (trim_stop (.inr fun z => h2 (congrArg V.int z))) _ (Evl.Ex.refl _)⟩
        · exact iteF ⟨_, rfl, done (trim_stop (.inl h)) _ (Evl.Ex.refl _)⟩
theorem cal_law_times (T : Txt K mg) : C8.Cal P w K mg base 1 "_law_times" (sp_law_times K) [] := by
  obtain ⟨f, fd, F, df⟩ := T.d_law_times
  refine C8.cal0 F (F.fn.binds df fun _ _ _ _ _ _ us hl => ?bnd) .nil sc_law_times (fun vs H Q E h => ?len) fun cdv A outer s H vs Q E hr h => ?_
  case bnd => obtain ⟨a0, a1, a2, rfl⟩ := ln3 hl; rfl
  case len => first | (obtain ⟨_, rfl, _⟩ := h; rfl) | (obtain ⟨_, _, rfl, _⟩ := h; rfl) | (obtain ⟨_, _, _, rfl, _⟩ := h; rfl) | (obtain ⟨_, _, _, _, rfl, _⟩ := h; rfl) | (obtain ⟨_, _, _, _, _, rfl, _⟩ := h; rfl) | (obtain ⟨_, _, _, _, _, _, rfl, _⟩ := h; rfl) | (obtain ⟨_, _, _, _, _, _, _, rfl, _⟩ := h; rfl) | (obtain ⟨_, _, _, _, _, _, _, _, rfl, _⟩ := h; rfl) | (obtain ⟨_, _, _, _, _, _, _, _, _, rfl, _⟩ := h; rfl) | (obtain ⟨_, _, _, _, _, _, _, _, _, _, rfl, _⟩ := h; rfl) | (obtain ⟨_, _, _, _, _, _, _, _, _, _, _, rfl, _⟩ := h; rfl)
  have sc := sc_law_times
  obtain ⟨a, b, ns, ms, p, rfl, hA, hB, hp, hr1, hr2, hz1, hz2, q⟩ := h
  have hpb := hp.b
  refine ⟨_, (pss_cons (ps_set (i := 3) sc.nd rfl (Or.inl rfl) (pe_op op_rep (pe_lst (pa_cons pe_int pa_nil)) (pe_callB (call_max2 rfl) (by rfl) T.b_max (by decide +kernel) (pa_cons pe_int (pa_cons (pe_op op_sub (pe_op op_add (pe_callB (call_lenK (K0 := K)) (by rfl) T.b_len (by decide +kernel) (pa_cons (pv 0) pa_nil)) (pe_callB (call_lenK (K0 := K)) (by rfl) T.b_len (by decide +kernel) (pa_cons (pv 1) pa_nil))) pe_int) pa_nil)))))
      (pss_cons (ps_for PassesOwn.never rfl (pi_enum (by rfl) T.b_enumerate (pa_cons (pv 0) pa_nil)) (pg_tup rfl (pgs_cons (pg_name (i := 4) sc.nd rfl (Or.inl rfl)) (pgs_cons (pg_name (i := 5) sc.nd rfl (Or.inl rfl)) pgs_nil))) (pss_one (ps_for PassesOwn.never rfl (pi_enum (by rfl) T.b_enumerate (pa_cons (pv 1) pa_nil)) (pg_tup rfl (pgs_cons (pg_name (i := 6) sc.nd rfl (Or.inl rfl)) (pgs_cons (pg_name (i := 7) sc.nd rfl (Or.inl rfl)) pgs_nil))) (pss_one (ps_asg (pe_op op_mod (pe_callTy call_int1 (by rfl) T.b_int (by decide +kernel) (pa_cons (pe_op op_add (pe_ix (ix_listK (K0 := K)) (pv 3) (pe_op op_add (pv 4) (pv 6)) (fun _ _ => rfl)) (pe_op op_mul (pv 5) (pv 7))) pa_nil)) (pv 2)) (pg_sub (pv 3) (pe_op op_add (pv 4) (pv 6)) set_list))))))
      (pss_one (ps_ret (pv 3))))), ?_⟩
  refine ⟨sz1, fun a1 k1 => ?_⟩
  refine ⟨_, rfl, _, _, rfl, .inl (li_sq (by walk_at "k76h")), _, rfl, _, _, rfl, .inl (li_sq (by walk_at "k76h")), _, _, rfl, rfl, _, _, rfl, rfl, _, _, rfl, _, _, _, rfl, rfl, upd_same, ?_, ?_, ?_, fun a2 k2 => ?_⟩
  · rw [lenm, lenm]; split <;> omega
  · rw [lenm, lenm]; split <;> omega
  · refine Evl.sz_of ?_
    rw [lenm, lenm]; show 1 * _ ≤ _; split <;> omega
  rw [rep_map _ (ns.length + ms.length - 1) (by rw [lenm, lenm]; split <;> omega)] at *
  have n2 : H a2 = none := fr_dn k2 (Evl.Ex.new k1)
  refine ⟨_, rfl, _, _, rfl, li_sq (by walk_at "k76h"), ?_⟩
  refine for_src (src_enum hA) (fun i σ H' => Ex H H' ∧ ∃ y4 y5 y6 y7 fd, σ = [some (.ref a), some (.ref b), some (.int p), some (.ref a2), y4, y5, y6, y7] ∧ LI H' a2 fd ∧ Rg p fd ∧ fd.length = ns.length + ms.length - 1 ∧ ∀ (F : Type) [Lean.Grind.CommRing F] [Lean.Grind.IsCharP F p], PL F fd = PL F (ns.take i) * PL F ms) ?_ (fun i σ H' hP => hP.1) (fun i x σ H2 H3 hi hP e3 hx => ?_) (fun σ H2 hP => ?_)
  · refine ⟨by walk_at "k76e", none, none, none, none, List.replicate (ns.length + ms.length - 1) 0, rfl, upd_same, rg_zeros (by omega) _, by rw [List.length_replicate], fun F _ _ => ?_⟩
    rw [PL_rep, List.take_zero, PL_nil]; grind
  · obtain ⟨e1, y4, y5, y6, y7, fd, rfl, hl, hrf, hlen, hpl⟩ := hP
    obtain ⟨U, x0, rfl, hU, hx0⟩ := hx
    obtain ⟨rfl, hk⟩ := at_map hx0
    have hx1 := hr1.get hk
    refine ⟨_, _, rfl, Evl.st_of hU, rfl, _, _, rfl, _, _, rfl, rfl, ?_⟩
    refine ⟨_, rfl, _, _, rfl, li_sq (by walk_at "k76h"), ?_⟩
    refine for_src (src_enum hB) (fun j σ H' => Ex H H' ∧ ∃ y6 y7 fd, σ = [some (.ref a), some (.ref b), some (.int p), some (.ref a2), some (.int (i : Nat)), some (.int (ns.getD i 0)), y6, y7] ∧ LI H' a2 fd ∧ Rg p fd ∧ fd.length = ns.length + ms.length - 1 ∧
        ∀ (F : Type) [Lean.Grind.CommRing F] [Lean.Grind.IsCharP F p], PL F fd = PL F (ns.take i) * PL F ms + Cp (ci F (ns.getD i 0)) * Xp ^ i * PL F (ms.take j)) ?_ (fun i σ H' hP => hP.1) (fun j x σ H4 H5 hj hP e5 hx => ?_) (fun σ H4 hP => ?_)
    · refine ⟨by walk_at "k76e", y6, y7, fd, rfl, by walk_at "k76h", hrf, hlen, fun F _ _ => ?_⟩
      rw [hpl, List.take_zero, PL_nil]; grind
    · obtain ⟨e4, y6, y7, fd, rfl, hl, hrf, hlen, hpl⟩ := hP
      obtain ⟨U2, x2, rfl, hU2, hx2⟩ := hx
      obtain ⟨rfl, hk2⟩ := at_map hx2
      have hx3 := hr2.get hk2
      have hl5 : LI H5 a2 fd := by walk_at "k76h"
      have hgf := hrf.get (k := i + j) (by omega)
      refine ⟨_, _, rfl, Evl.st_of hU2, rfl, _, _, rfl, _, _, rfl, rfl, ?_⟩
      refine ⟨_, rfl, _, rfl, _, rfl, _, _, rfl, rfl, _, _, _, _, rfl, rfl, li_sq hl5, atI_nn (j := i + j) (by omega) (by omega), _, rfl, _, rfl, _, _, rfl, rfl, cmul_s (by omega), _, _, rfl, rfl, .inl ⟨_, rfl, _, rfl, _, _, rfl, rfl, by omega, _, rfl, _, rfl, _, rfl, _, _, rfl, rfl, _, _, _, _, rfl, rfl, hl5, ixN_nn (j := i + j) (by omega) (by rw [List.length_map]; omega), ?_⟩⟩
      refine ⟨Evl.Ex.mut (by walk_at "k76e") n2, _, _, _, rfl, ?_, ?_, ?_, fun F _ _ => mul_stepm hk hk2 (by omega) (hpl F)⟩
      · rw [map_set_int]; exact upd_same
      · exact hrf.set (mod_lt' (by omega)) _
      · rw [List.length_set]; exact hlen
    · obtain ⟨e4, y6, y7, fd, rfl, hl, hrf, hlen, hpl⟩ := hP
      refine ⟨e4, _, _, _, _, fd, rfl, hl, hrf, hlen, fun F _ _ => ?_⟩
      have := hpl F
      rw [List.length_map, mul_turn hk] at this
      exact this
  · obtain ⟨e1, y4, y5, y6, y7, fd, rfl, hl, hrf, hlen, hpl⟩ := hP
    refine ⟨_, rfl, q a2 fd _ (by walk_at "k76e") hl hrf (by omega) fun F _ _ => ?_⟩
    have := hpl F
    rw [List.length_map, List.take_length] at this
    exact this
theorem cal_law_common (T : Txt K mg) : C8.Cal P w K mg base 3 "_law_common" (sp_law_common K) [] := by
  have c_law_back : C8.Cal P w K mg base 1 "_law_back" (sp_law_back K) [] := cal_law_back T
  have c_law_rest : C8.Cal P w K mg base 2 "_law_rest" (sp_law_rest K) [] := cal_law_rest T
  obtain ⟨f, fd, F, df⟩ := T.d_law_common
  refine C8.cal0 F (F.fn.binds df fun _ _ _ _ _ _ us hl => ?bnd) .nil sc_law_common (fun vs H Q E h => ?len) fun cdv A outer s H vs Q E hr h => ?_
  case bnd => obtain ⟨a0, a1, a2, rfl⟩ := ln3 hl; rfl
  case len => first | (obtain ⟨_, rfl, _⟩ := h; rfl) | (obtain ⟨_, _, rfl, _⟩ := h; rfl) | (obtain ⟨_, _, _, rfl, _⟩ := h; rfl) | (obtain ⟨_, _, _, _, rfl, _⟩ := h; rfl) | (obtain ⟨_, _, _, _, _, rfl, _⟩ := h; rfl) | (obtain ⟨_, _, _, _, _, _, rfl, _⟩ := h; rfl) | (obtain ⟨_, _, _, _, _, _, _, rfl, _⟩ := h; rfl) | (obtain ⟨_, _, _, _, _, _, _, _, rfl, _⟩ := h; rfl) | (obtain ⟨_, _, _, _, _, _, _, _, _, rfl, _⟩ := h; rfl) | (obtain ⟨_, _, _, _, _, _, _, _, _, _, rfl, _⟩ := h; rfl) | (obtain ⟨_, _, _, _, _, _, _, _, _, _, _, rfl, _⟩ := h; rfl)
  have sc := sc_law_common
  obtain ⟨a, b, ns, ms, p, rfl, hA, hB, hp, hc1, hc2, hne, hz1, hz2, q⟩ := h
  have hpb := hp.b
  refine ⟨_, (pss_cons (ps_while PassesOwn.never (pt_cmpR (op_neD hr.units) (pv 1) (pe_lst pa_nil) (nomark _)) (pss_one (ps_par (i := 0) (j := 1) (by rfl) sc.nd rfl rfl (by decide) rfl rfl (pa_cons (pv 1) (pa_cons (C8.pe_c c_law_rest hr (by decide) (by rfl) (pa_cons (pv 0) (pa_cons (pv 1) (pa_cons (pv 2) pa_nil)))) pa_nil)) (by rfl))))
      (pss_cons (ps_if (pt_cmpR (op_eqD hr.units) (pv 0) (pe_lst pa_nil) (nomark _)) (pss_one (ps_ret (pe_lst pa_nil))) pss_nil)
      (pss_cons (ps_set (i := 3) sc.nd rfl (Or.inr rfl) (C8.pe_c c_law_back hr (by decide) (by rfl) (pa_cons (pe_ix (ix_listK (K0 := K)) (pv 0) (pe_un un_neg pe_int) (fun _ _ => rfl)) (pa_cons (pv 2) pa_nil))))
      (pss_one (ps_ret (pe_lc (own := [("_law_own", 4)]) (g := (gName 4)) (tt := tYes) rfl sc.nd (pi_list (pv 0)) (blkOk_by (N := n_law_common) (sc := C8.fnScope s_law_common) (by decide +kernel)) (fun _ _ _ _ _ => (pg_name (i := 4) sc.nd rfl (Or.inl rfl))) (fun _ _ _ _ _ => pts_nil) (fun _ _ _ _ _ => (pe_op op_mod (pe_callTy call_int1 (by rfl) T.b_int (by decide +kernel) (pa_cons (pe_op op_mul (pv 4) (pv 3)) pa_nil)) (pv 2))))))))), ?_⟩
  refine while_m (fun n σ H' => Ex H H' ∧ ∃ x y l r y3 y4, σ = [some (.ref x), some (.ref y), some (.int p), y3, y4] ∧ LI H' x l ∧ LI H' y r ∧ Can p l ∧ Can p r ∧ l ≠ [] ∧ r.length = n ∧ l.length ≤ 20000 ∧ r.length ≤ 20000 ∧
    ∀ (F : Type) [Lean.Grind.CommRing F] [Lean.Grind.IsCharP F p], (∃ u v, PL F l = u * PL F ns + v * PL F ms) ∧ (∃ u v, PL F r = u * PL F ns + v * PL F ms) ∧ ∀ d, Dv d (PL F l) → Dv d (PL F r) → Dv d (PL F ns) ∧ Dv d (PL F ms)) ms.length ?_ (fun n σ H' hW => ?_)
  · exact ⟨by walk_at "k76e", a, b, ns, ms, none, none, rfl, hA, hB, hc1, hc2, hne, rfl, hz1, hz2, fun F _ _ => ⟨⟨1, 0, by grind⟩, ⟨0, 1, by grind⟩, fun d h1 h2 => ⟨h1, h2⟩⟩⟩
  · obtain ⟨e1, x, y, l, r, y3, y4, rfl, hl, hr2, hcl, hcr, hlne, rfl, hzl, hzr, hF⟩ := hW
    refine ⟨_, rfl, sz0, fun a0 k0 => ?_⟩
    have hr3 : LI (upd H' a0 (.lst [])) y r := by walk_at "k76h"
    refine ⟨_, _, dp_l (li_sq hr3), dp_e upd_same, shp_l _, shp_e, _, rfl, ?_⟩
    rw [eqv_e]
    refine itn (fun hrne => ?_) (fun h => ?_)
    · refine ⟨_, fun _ _ z => z, ?_⟩
      refine ⟨_, rfl, _, rfl, _, rfl, _, rfl, x, y, l, r, p, rfl, by walk_at "k76h", hr3, hp, hcl.1, hcr, hrne, by omega, fun y1 rs H1 e2 hy hS => ?_⟩
      refine ⟨_, _, rfl, ?_⟩
      have hlen := hS.len
      refine ⟨rs.length, hlen, by walk_at "k76e", y, y1, r, rs, _, _, rfl, by walk_at "k76h", hy, hcr, hS.r, hrne, rfl, hzr, by omega, fun F _ _ => ?_⟩
      obtain ⟨⟨u1, v1, z1⟩, ⟨u2, v2, z2⟩, z3⟩ := hF F
      obtain ⟨qs, z4⟩ := hS.eq F
      refine ⟨⟨u2, v2, z2⟩, ⟨u1 - qs * u2, v1 - qs * v2, by grind⟩, fun d ⟨k1, h1⟩ ⟨k2, h2⟩ => z3 d ⟨qs * k1 + k2, by grind⟩ ⟨k1, h1⟩⟩
    · subst h
      refine ⟨_, rfl, sz0, fun a2 k2 => ?_⟩
      have hl3 : LI (upd (upd H' a0 (.lst [])) a2 (.lst [])) x l := by walk_at "k76h"
      refine ⟨_, _, dp_l (li_sq hl3), dp_e upd_same, shp_l _, shp_e, _, rfl, ?_⟩
      rw [eqv_e]
      refine itd (fun h => absurd h hlne) (fun _ => ?_)
      have hlast := hcl.last0 hlne
      refine ⟨_, rfl, _, rfl, _, _, _, _, rfl, rfl, li_sq hl3, atI_last' hlne, _, rfl, _, p, rfl, hp, hlast.1, hlast.2, fun w H3 e3 w0 w1 w2 => ?_⟩
      have hl4 : LI H3 x l := by walk_at "k76h"
      refine ⟨_, rfl, _, rfl, ⟨_, li_sq hl4⟩, lc_int (src_list hl4) (by rw [List.length_map]; omega) (fun i => l.getD i 0 * w % p) (fun i x H5 Z hi e it z => ?_) (fun D H5 hD e hl5 => ?_)⟩
      · obtain ⟨rfl, hk⟩ := at_map it
        have := hcl.1.get hk
        exact ⟨rfl, _, rfl, _, rfl, _, _, rfl, rfl, cmul_s (by omega), .inl ⟨_, rfl, _, rfl, _, _, rfl, rfl, by omega, z _ (by walk_at "k76e")⟩⟩
      · rw [range_map (fun a => a * w % p) (by rw [List.length_map])] at hl5
        have key : ∀ (F : Type) [Lean.Grind.CommRing F] [Lean.Grind.IsCharP F p], PL F (l.map fun a => a * w % (p : Int)) = Cp (ci F w) * PL F l ∧ PL F l = Cp (ci F (l.getD (l.length - 1) 0)) * (Cp (ci F w) * PL F l) := fun F _ _ => by
          have e4 : (l.map fun a => a * w % (p : Int)) = (l.map (· * w)).map (· % (p : Int)) := by rw [List.map_map]; rfl
          rw [e4, PL_mod, PL_scale]
          refine ⟨rfl, ?_⟩
          have e5 : Cp (ci F (l.getD (l.length - 1) 0)) * Cp (ci F w) = (1 : Poly F) := by
            rw [← Cp_mul, ← ci_mul, ci_eq (p := p) (b := 1) |>.mpr (by rw [w2, Int.emod_eq_of_lt (by decide) (by omega)]), ci_one]; rfl
          grind
        have hne2 : (l.map fun a => a * w % (p : Int)) ≠ [] := by simpa using hlne
        refine q D _ H5 (by walk_at "k76e") hl5 ⟨⟨fun z hz => ?_, fun z => ?_⟩, hne2, fun F _ _ => ?_⟩
        · obtain ⟨u, _, rfl⟩ := List.mem_map.mp hz
          exact mod_lt' (by omega)
        · rw [List.getLast?_map, last_getD hlne] at z
          have z1 : l.getD (l.length - 1) 0 * w % (p : Int) = 0 := Option.some.inj z
          omega
        · obtain ⟨⟨u1, v1, z1⟩, _, z3⟩ := hF F
          have k := key F
          rw [k.1]
          generalize hC : Cp (ci F w) = C at *
          generalize hD : Cp (ci F (l.getD (l.length - 1) 0)) = D at *
          refine ⟨⟨C * u1, C * v1, by rw [z1]; grind⟩, z3 _ ⟨D, k.2⟩ ⟨0, by rw [PL_nil]; grind⟩⟩
theorem cal_law_ring_common (T : Txt K mg) : C8.Cal P w K mg base 4 "_law_ring_common" (sp_law_ring_common K) [] := by
  have c_law_common : C8.Cal P w K mg base 3 "_law_common" (sp_law_common K) [] := cal_law_common T
  have c_law_rest : C8.Cal P w K mg base 2 "_law_rest" (sp_law_rest K) [] := cal_law_rest T
  have c_law_times : C8.Cal P w K mg base 1 "_law_times" (sp_law_times K) [] := cal_law_times T
  obtain ⟨f, fd, F, df⟩ := T.d_law_ring_common
  refine C8.cal0 F (F.fn.binds df fun _ _ _ _ _ _ us hl => ?bnd) .nil sc_law_ring_common (fun vs H Q E h => ?len) fun cdv A outer s H vs Q E hr h => ?_
  case bnd => obtain ⟨a0, a1, a2, rfl⟩ := ln3 hl; rfl
  case len => first | (obtain ⟨_, rfl, _⟩ := h; rfl) | (obtain ⟨_, _, rfl, _⟩ := h; rfl) | (obtain ⟨_, _, _, rfl, _⟩ := h; rfl) | (obtain ⟨_, _, _, _, rfl, _⟩ := h; rfl) | (obtain ⟨_, _, _, _, _, rfl, _⟩ := h; rfl) | (obtain ⟨_, _, _, _, _, _, rfl, _⟩ := h; rfl) | (obtain ⟨_, _, _, _, _, _, _, rfl, _⟩ := h; rfl) | (obtain ⟨_, _, _, _, _, _, _, _, rfl, _⟩ := h; rfl) | (obtain ⟨_, _, _, _, _, _, _, _, _, rfl, _⟩ := h; rfl) | (obtain ⟨_, _, _, _, _, _, _, _, _, _, rfl, _⟩ := h; rfl) | (obtain ⟨_, _, _, _, _, _, _, _, _, _, _, rfl, _⟩ := h; rfl)
  have sc := sc_law_ring_common
  obtain ⟨a, one, N, p, rfl, hA, hp, hc, hne, hz, hNz, q⟩ := h
  have hpb := hp.b
  have m0 := List.length_pos_iff.mpr hne
  refine ⟨_, (pss_cons (ps_par3 (i := 3) (j := 4) (l := 5) (by rfl) sc.nd rfl rfl rfl (by decide) (by decide) (by decide) rfl rfl rfl (pa_cons (C8.pe_c c_law_rest hr (by decide) (by rfl) (pa_cons (pe_lst (pa_cons pe_int pa_nil)) (pa_cons (pv 0) (pa_cons (pv 2) pa_nil)))) (pa_cons (pv 1) (pa_cons (pe_lst pa_nil) pa_nil))) (by rfl))
      (pss_cons (ps_while PassesOwn.never (pt_cmpR op_gt (pv 4) pe_int (nomark _)) (pss_cons (ps_expr (pe_bm PySem.F.plainAttrs_list PySem.F.slot_list_append PySem.F.type_list_append mt_append (pv 5) (pa_cons (pe_op op_mod (pe_callTy call_int1 (by rfl) T.b_int (by decide +kernel) (pa_cons (pv 4) pa_nil)) pe_int) pa_nil)))
      (pss_one (ps_set (i := 4) sc.nd rfl (Or.inl rfl) (pe_op op_fdiv (pv 4) pe_int)))))
      (pss_cons (ps_for PassesOwn.never rfl (pi_list (pe_revL (pv 5))) (pg_name (i := 6) sc.nd rfl (Or.inl rfl)) (pss_cons (ps_set (i := 3) sc.nd rfl (Or.inl rfl) (C8.pe_c c_law_rest hr (by decide) (by rfl) (pa_cons (C8.pe_c c_law_times hr (by decide) (by rfl) (pa_cons (pv 3) (pa_cons (pv 3) (pa_cons (pv 2) pa_nil)))) (pa_cons (pv 0) (pa_cons (pv 2) pa_nil)))))
      (pss_one (ps_if (pt_cmpR op_eq (pv 6) pe_int (nomark _)) (pss_one (ps_set (i := 3) sc.nd rfl (Or.inl rfl) (C8.pe_c c_law_rest hr (by decide) (by rfl) (pa_cons (pe_op op_cat (pe_lst (pa_cons pe_int pa_nil)) (pv 3)) (pa_cons (pv 0) (pa_cons (pv 2) pa_nil)))))) pss_nil))))
      (pss_cons (ps_set (i := 3) sc.nd rfl (Or.inl rfl) (pe_op op_cat (pv 3) (pe_lst (pa_cons pe_int pa_nil))))
      (pss_cons (ps_asg (pe_op op_mod (pe_callTy call_int1 (by rfl) T.b_int (by decide +kernel) (pa_cons (pe_op op_sub (pe_ix (ix_listK (K0 := K)) (pv 3) pe_int (fun _ _ => rfl)) pe_int) pa_nil)) (pv 2)) (pg_sub (pv 3) pe_int set_list))
      (pss_one (ps_ret (C8.pe_c c_law_common hr (by decide) (by rfl) (pa_cons (pv 0) (pa_cons (C8.pe_c c_law_rest hr (by decide) (by rfl) (pa_cons (pv 3) (pa_cons (pv 0) (pa_cons (pv 2) pa_nil)))) (pa_cons (pv 2) pa_nil))))))))))), ?_⟩
  refine ⟨sz1, fun a1 k1 => ?_⟩
  refine ⟨_, rfl, _, rfl, a1, a, [1], one, p, rfl, upd_same, by walk_at "k76h", hp, rg_one (by omega), hc, hne, by decide, fun r1 rs1 H1 e1 h1 hR1 => ?_⟩
  refine ⟨_, rfl, sz0, fun a2 k2 => ?_⟩
  refine ⟨_, _, _, rfl, ?_⟩
  have n2 : H a2 = none := fr_dn k2 (by walk_at "k76e")
  have e0 : Ex H (upd H1 a2 (.lst [])) := by walk_at "k76e"
  have n21 : r1 ≠ a2 := fun z => by rw [z] at h1; rw [h1] at k2; cases k2
  refine while_m (fun n σ H' => Ex H H' ∧ LI H' r1 rs1 ∧ ∃ y6 bits i, σ = [some (.ref a), some (.int N), some (.int p), some (.ref r1), some (.int n), some (.ref a2), y6] ∧ LI H' a2 bits ∧ bits.length = i ∧ i + n ≤ N ∧ n = N / 2 ^ i ∧ ∀ j, j < i → bits.getD j 0 = ((N / 2 ^ j % 2 : Nat) : Int)) N ?_ (fun n σ H' hW => ?_)
  · refine ⟨e0, by walk_at "k76h", none, [], 0, rfl, upd_same, rfl, by omega, by rw [Nat.pow_zero, Nat.div_one], fun j hj => absurd hj (Nat.not_lt_zero _)⟩
  · obtain ⟨e2, hr1, y6, bits, i, rfl, hb, hbl, hin, hnN, hbj⟩ := hW
    refine ⟨_, rfl, _, _, rfl, rfl, _, rfl, ?_⟩
    refine itd (fun h => ?_) (fun h => ?_)
    · refine ⟨_, fun _ _ z => z, ?_⟩
      refine ⟨_, rfl, .inl ⟨rfl, _, li_sq hb⟩, _, rfl, .inl ⟨_, rfl, _, _, rfl, rfl, two0, _, _, _, rfl, rfl, hb, Evl.sz_lt (by rw [List.length_map]; omega), ?_⟩⟩
      refine ⟨_, rfl, _, _, rfl, rfl, ⟨by decide, by decide⟩, ?_⟩
      refine ⟨n / 2, by omega, Evl.Ex.mut e2 n2, (upd_ne n21).trans hr1, _, bits ++ [((n % 2 : Nat) : Int)], i + 1, rfl, ?_, by rw [List.length_append, hbl]; rfl, by omega, ?_, fun j hj => ?_⟩
      · exact upd_same.trans (congrArg (fun l => some (HO.lst l)) (by rw [List.map_append]; rfl))
      · rw [hnN, Nat.div_div_eq_div_mul, Nat.pow_succ]
      · rw [getD_snoc, hbl]
        by_cases c : j = i
        · rw [if_pos c, c, hnN]
        · rw [if_neg c]; exact hbj j (by omega)
    · have hn0 : n = 0 := by omega
      subst hn0
      refine ⟨_, rfl, _, _, rfl, li_sq hb, fun a3 k3 => ?_⟩
      rw [← List.map_reverse] at *
      refine ⟨_, rfl, ⟨_, li_sq upd_same⟩, ?_⟩
      have lb : LI (upd H' a3 (.lst (bits.reverse.map V.int))) a3 bits.reverse := upd_same
      have hl1 := hR1.len
      have e3 : Ex H (upd H' a3 (.lst (bits.reverse.map V.int))) := by walk_at "k76e"
      have lr : LI (upd H' a3 (.lst (bits.reverse.map V.int))) r1 rs1 := by walk_at "k76h"
      generalize (upd H' a3 (.lst (bits.reverse.map V.int))) = B at *
      have hv : ∀ j, N / 2 ^ j = 2 * (N / 2 ^ (j + 1)) + N / 2 ^ j % 2 := fun j => by
        rw [Nat.pow_succ, ← Nat.div_div_eq_div_mul]; omega
      refine for_src (src_list lb) (fun k σ G => Ex B G ∧ ∃ y6 x f, σ = [some (.ref a), some (.int N), some (.int p), some (.ref x), some (.int (0 : Nat)), some (.ref a2), y6] ∧ LI G x f ∧ Can p f ∧ f.length < one.length ∧
        ∀ (F : Type) [Lean.Grind.CommRing F] [Lean.Grind.IsCharP F p], ∃ c : Poly F, PL F f = Xp ^ (N / 2 ^ (bits.length - k)) + c * PL F one) ?_ (fun i σ G hP => hP.1) (fun k x σ H4 H5 hk hW e5 hx => ?_) (fun σ H4 hW => ?_)
      · refine ⟨Evl.Ex.refl _, _, r1, rs1, rfl, lr, hR1.r, hl1, fun F _ _ => ?_⟩
        obtain ⟨q1, z1⟩ := hR1.eq F
        have e4 : PL F [1] = (1 : Poly F) := by rw [PL_one, ci_one]; rfl
        rw [Nat.sub_zero, hbl, ← hnN, Lean.Grind.Semiring.pow_zero]
        rw [e4] at z1
        exact ⟨-q1, by grind⟩
      · obtain ⟨e4, y6, xa, f, rfl, hf, hcf, hfl, hF⟩ := hW
        obtain ⟨rfl, hk2⟩ := at_map hx
        rw [List.length_reverse] at hk2
        obtain ⟨j, hj⟩ : ∃ j, bits.length = j + 1 + k := ⟨bits.length - 1 - k, by omega⟩
        have hbit : bits.reverse.getD k 0 = ((N / 2 ^ j % 2 : Nat) : Int) := by
          rw [getD_rev _ _ hk2, show bits.length - 1 - k = j by omega, hbj j (by omega)]
        rw [hbit]
        have hvj := hv j
        rw [show bits.length - k = j + 1 by omega] at hF
        rw [show bits.length - (k + 1) = j by omega]
        have hb2 : N / 2 ^ j % 2 < 2 := Nat.mod_lt _ (by decide)
        generalize N / 2 ^ j % 2 = bt at *
        generalize N / 2 ^ (j + 1) = v at *
        have e05 : Ex B H5 := by walk_at "k76e"
        have hf5 : LI H5 xa f := by walk_at "k76h"
        refine ⟨_, rfl, _, rfl, _, rfl, xa, xa, f, f, p, rfl, hf5, hf5, hp, hcf.1, hcf.1, by omega, by omega, fun r6 rs6 H6 e6 h6 hr6 hl6 hF6 => ?_⟩
        refine ⟨_, rfl, _, rfl, r6, a, rs6, one, p, rfl, h6, by walk_at "k76h", hp, hr6, hc, hne, by omega, fun r7 rs7 H7 e7 h7 hR7 => ?_⟩
        have hl7 := hR7.len
        have hF7 : ∀ (F : Type) [Lean.Grind.CommRing F] [Lean.Grind.IsCharP F p], ∃ c : Poly F, PL F rs7 = Xp ^ (2 * v) + c * PL F one := fun F _ _ => by
          obtain ⟨q7, z7⟩ := hR7.eq F
          obtain ⟨c, z⟩ := hF F
          rw [hF6 F, z] at z7
          rw [← sq_pow]
          have e8 : ((Xp : Poly F) * Xp) ^ v = Xp ^ v * Xp ^ v := by
            rw [sq_pow, ← Lean.Grind.Semiring.pow_add]; congr 1; omega
          rw [e8]
          generalize (Xp : Poly F) ^ v = Y at *
          exact ⟨2 * Y * c + c * c * PL F one - q7, by grind⟩
        refine ⟨_, rfl, rfl, _, rfl, ?_⟩
        refine itd (fun h => ?_) (fun h => ?_)
        · have hbt : bt = 1 := by have := V.int.inj h; omega
          refine ⟨sz1, fun a8 k8 => ?_⟩
          refine ⟨_, rfl, _, _, _, _, rfl, rfl, upd_same, by walk_at "k76h", Evl.sz_of (by rw [List.length_map]; show 1 + _ ≤ _; omega), fun a9 k9 => ?_⟩
          refine ⟨_, rfl, _, rfl, a9, a, 0 :: rs7, one, p, rfl, upd_same, by walk_at "k76h", hp, ?_, hc, hne, by rw [List.length_cons]; omega, fun r10 rs10 H10 e10 h10 hR10 => ?_⟩
          · intro z hz2
            rcases List.mem_cons.mp hz2 with y | y
            · omega
            · exact hR7.r.1 z y
          refine ⟨by walk_at "k76e", _, r10, rs10, rfl, h10, hR10.r, hR10.len, fun F _ _ => ?_⟩
          obtain ⟨q10, z10⟩ := hR10.eq F
          obtain ⟨c, z⟩ := hF7 F
          rw [PL_cons, ci_zero, Cp_zero, z] at z10
          rw [hvj, hbt, Lean.Grind.Semiring.pow_succ]
          generalize (Xp : Poly F) ^ (2 * v) = Y at *
          exact ⟨Xp * c - q10, by grind⟩
        · have hbt : bt = 0 := by
            refine Nat.eq_zero_of_not_pos fun z => h (congrArg V.int ?_)
            omega
          refine ⟨by walk_at "k76e", _, r7, rs7, rfl, h7, hR7.r, hl7, fun F _ _ => ?_⟩
          rw [hvj, hbt]
          exact hF7 F
      · obtain ⟨e4, y6, xa, f, rfl, hf, hcf, hfl, hF⟩ := hW
        rw [List.length_map, List.length_reverse, Nat.sub_self, Nat.pow_zero, Nat.div_one] at hF
        refine ⟨_, rfl, sz1, fun a11 k11 => ?_⟩
        refine ⟨_, _, _, _, rfl, rfl, by walk_at "k76h", upd_same, Evl.sz_of (by rw [List.length_map]; show _ + 1 ≤ _; omega), fun a12 k12 => ?_⟩
        have h12 : LI (upd (upd H4 a11 (.lst [V.int 0])) a12 (.lst (f.map V.int ++ [V.int 0]))) a12 (f ++ [0]) := upd_same.trans (congrArg (fun l => some (HO.lst l)) (by rw [List.map_append]; rfl))
        have n12 : H a12 = none := fr_dn k12 (by walk_at "k76e")
        have hlf : (f ++ [0]).length = f.length + 1 := by rw [List.length_append]; rfl
        have hrf : Rg p (f ++ [0]) := fun z hz2 => by
          rcases List.mem_append.mp hz2 with y | y
          · exact hcf.1 z y
          · rw [List.mem_singleton.mp y]; omega
        refine ⟨_, rfl, _, _, _, _, rfl, rfl, li_sq h12, atI_nn (j := 0) rfl (by omega), _, _, rfl, rfl, .inl ⟨_, rfl, _, rfl, _, _, rfl, rfl, by omega, _, rfl, _, _, _, _, rfl, rfl, h12, ixN_nn (j := 0) rfl (by rw [List.length_map]; omega), ?_⟩⟩
        dsimp only
        rw [map_set_int]
        obtain ⟨fl, hfl2⟩ : ∃ fl, fl = (f ++ [0]).set 0 (((f ++ [0]).getD 0 0 - 1) % (p : Int)) := ⟨_, rfl⟩
        rw [← hfl2]
        have hflr : Rg p fl := by rw [hfl2]; exact hrf.set (mod_lt' (by omega)) _
        have hfll : fl.length = f.length + 1 := by rw [hfl2, List.length_set]; exact hlf
        have hflF : ∀ (F : Type) [Lean.Grind.CommRing F] [Lean.Grind.IsCharP F p], PL F fl = PL F f - 1 := fun F _ _ => by
          rw [hfl2, PL_setmod _ (by omega), PL_snoc, ci_zero, Cp_zero, ci_sub, ci_one, Lean.Grind.Semiring.pow_zero]
          have e9 : Cp (ci F ((f ++ [0]).getD 0 0) - 1 - ci F ((f ++ [0]).getD 0 0)) = (-1 : Poly F) := by
            have : ci F ((f ++ [0]).getD 0 0) - 1 - ci F ((f ++ [0]).getD 0 0) = -1 := by grind
            rw [this, Cp_neg]; rfl
          rw [e9]; grind
        have eU : Ex H (upd (upd (upd H4 a11 (.lst [V.int 0])) a12 (.lst (f.map V.int ++ [V.int 0]))) a12 (.lst (fl.map V.int))) := Evl.Ex.mut (by walk_at "k76e") n12
        have hU : LI (upd (upd (upd H4 a11 (.lst [V.int 0])) a12 (.lst (f.map V.int ++ [V.int 0]))) a12 (.lst (fl.map V.int))) a12 fl := upd_same
        generalize (upd (upd (upd H4 a11 (.lst [V.int 0])) a12 (.lst (f.map V.int ++ [V.int 0]))) a12 (.lst (fl.map V.int))) = G at *
        refine ⟨_, rfl, _, rfl, _, rfl, _, rfl, a12, a, fl, one, p, rfl, hU, own_up hA eU, hp, hflr, hc, hne, by omega, fun r13 rs13 H13 e13 h13 hR13 => ?_⟩
        have hl13 := hR13.len
        refine ⟨_, rfl, a, r13, one, rs13, p, rfl, own_up hA (eU.trans e13), h13, hp, hc, hR13.r, hne, by omega, by omega, fun r14 g H14 e14 h14 hC => ?_⟩
        refine q r14 g H14 (eU.trans (e13.trans e14)) h14 (hC.gcd fun F _ _ => ?_)
        obtain ⟨q13, z13⟩ := hR13.eq F
        obtain ⟨c, z⟩ := hF F
        rw [hflF F, z] at z13
        refine ⟨c - q13, ?_⟩
        unfold An
        grind
end
end K76
namespace K76
open PySem PySem.Spec PyProof.Rows L2

theorem src_sql {K : PySem.W.Frag} {B : Hp} {a : Addr} {xs : List V} (h : SqL K B a xs) : Src (Itl K a) B xs.length fun i x _ => xs[i]? = some x where
  go := fun i H hi e => ⟨xs, xs[i], Evl.ex_l e h, List.getElem?_eq_getElem hi⟩
  stop := fun H e => ⟨xs, Evl.ex_l e h, Nat.le_refl _⟩
  yld := fun i H x H' hi e y => ⟨.inl y.1, y.2 _ (Evl.ex_l e h)⟩
def sp_law_jar (K : PySem.W.Frag) : Sp := fun vs H Q _ => ∃ (a : Addr) (ns : List Int) (k : Nat), vs = [.ref a, .int k] ∧ SqL K H a (ns.map V.int) ∧ ns.length ≤ 63 ∧ k ≤ 10 ∧ ∀ r H', Ex H H' → H r = none → Jar H' r 0 → Q (.ref r) H'
def sp_law_rule (K : PySem.W.Frag) : Sp := fun vs H Q _ => ∃ (a : Addr) (m : Int) (w c : Nat), vs = [.ref a, .int m, .int w] ∧ Jar H a c ∧ c ≤ 900 ∧ 2 ≤ m ∧ m ≤ 15 ∧ w ≤ 8 ∧
  ∀ r ts H', Xj a H H' → Jar H' a (c + 60) → RuleV K H' r m ts → TOk m ts → (∃ lo : Int, ∀ t ∈ ts, lo ≤ t.1 ∧ t.1 < lo + (w + 1 : Nat)) → Q (.ref r) H'
/-- the terms of a product -/
def trT (lo sh m : Int) (fs : List Int) : List (Int × Int) := (List.range fs.length).map fun (i : Nat) => (lo + i, fs.getD i 0 * sh % m)
theorem trT_get {lo sh m : Int} {fs : List Int} {i : Nat} (h : i < fs.length) : (trT lo sh m fs).getD i (0, 0) = (lo + i, fs.getD i 0 * sh % m) := by
  unfold trT
  rw [List.getD_eq_getElem?_getD, List.getElem?_map, List.getElem?_range h]; rfl
theorem trT_len (lo sh m : Int) (fs : List Int) : (trT lo sh m fs).length = fs.length := by unfold trT; rw [List.length_map, List.length_range]
theorem trT_mem {lo sh m : Int} (hm : 0 < m) {fs : List Int} {t : Int × Int} (h : t ∈ trT lo sh m fs) : lo ≤ t.1 ∧ t.1 < lo + fs.length ∧ 0 ≤ t.2 ∧ t.2 < m := by
  unfold trT at h
  obtain ⟨i, hi, rfl⟩ := List.mem_map.mp h
  have := List.mem_range.mp hi
  have := mod_lt' (a := fs.getD i 0 * sh) hm
  refine ⟨by show lo ≤ lo + (i : Int); omega, by show lo + (i : Int) < _; omega, this.1, this.2⟩
theorem trT_asc (lo sh m : Int) (fs : List Int) : Asc (trT lo sh m fs) := by
  unfold trT Asc
  refine List.Pairwise.map (R := fun (a b : Nat) => a < b) _ (fun a b h => by show lo + (a : Int) < lo + (b : Int); omega) ?_
  exact List.pairwise_lt_range
theorem trT_ok {lo sh m : Int} (hm : 0 < m) {fs : List Int} (h1 : -4 ≤ lo) (h2 : lo + fs.length ≤ 6) : TOk m ((trT lo sh m fs).filter fun t => decide (t.2 > 0)) := by
  refine ⟨?_, fun t ht => ?_, List.Pairwise.filter _ (trT_asc lo sh m fs), fun t ht => ?_⟩
  · have := List.length_filter_le (fun t : Int × Int => decide (t.2 > 0)) (trT lo sh m fs)
    rw [trT_len] at this
    omega
  · obtain ⟨a, b⟩ := List.mem_filter.mp ht
    have := trT_mem hm a
    have : t.2 > 0 := by simpa using b
    omega
  · have := trT_mem hm (List.mem_filter.mp ht).1
    omega
section
variable {P : Program} {w : World} {K : PySem.W.Frag} {mg : Str → Option Value} {base : Heap}
theorem cal_law_jar (T : Txt K mg) : C8.Cal P w K mg base 1 "_law_jar" (sp_law_jar K) [] := by
  obtain ⟨f, fd, F, df⟩ := T.d_law_jar
  refine C8.cal0 F (F.fn.binds df fun _ _ _ _ _ _ us hl => ?bnd) .nil sc_law_jar (fun vs H Q E h => ?len) fun cdv A outer s H vs Q E hr h => ?_
  case bnd => obtain ⟨a0, a1, rfl⟩ := ln2 hl; rfl
  case len => first | (obtain ⟨_, rfl, _⟩ := h; rfl) | (obtain ⟨_, _, rfl, _⟩ := h; rfl) | (obtain ⟨_, _, _, rfl, _⟩ := h; rfl) | (obtain ⟨_, _, _, _, rfl, _⟩ := h; rfl) | (obtain ⟨_, _, _, _, _, rfl, _⟩ := h; rfl) | (obtain ⟨_, _, _, _, _, _, rfl, _⟩ := h; rfl) | (obtain ⟨_, _, _, _, _, _, _, rfl, _⟩ := h; rfl) | (obtain ⟨_, _, _, _, _, _, _, _, rfl, _⟩ := h; rfl) | (obtain ⟨_, _, _, _, _, _, _, _, _, rfl, _⟩ := h; rfl) | (obtain ⟨_, _, _, _, _, _, _, _, _, _, rfl, _⟩ := h; rfl) | (obtain ⟨_, _, _, _, _, _, _, _, _, _, _, rfl, _⟩ := h; rfl)
  have sc := sc_law_jar
  obtain ⟨a, ns, k, rfl, hS, hz, hk, q⟩ := h
  refine ⟨_, (pss_cons (ps_set (i := 2) sc.nd rfl (Or.inl rfl) (pe_op op_add (pe_op op_mul pe_int (pv 1)) pe_int))
      (pss_cons (ps_if (pt_cmpR op_lt (pv 1) (pe_callB (call_lenK (K0 := K)) (by rfl) T.b_len (by decide +kernel) (pa_cons (pv 0) pa_nil)) (nomark _)) (pss_one (ps_set (i := 2) sc.nd rfl (Or.inl rfl) (pe_ix (ix_listK (K0 := K)) (pv 0) (pv 1) (fun _ _ => rfl)))) pss_nil)
      (pss_cons (ps_set (i := 3) sc.nd rfl (Or.inl rfl) (pe_op op_add (pe_callB (cr_sum rfl) (by rfl) T.b_sum (by decide +kernel) (pa_cons (pe_lc (own := [("_law_other", 4)]) (g := (gName 4)) (tt := tYes) rfl sc.nd (pi_list (pv 0)) (blkOk_by (N := n_law_jar) (sc := C8.fnScope s_law_jar) (by decide +kernel)) (fun _ _ _ _ _ => (pg_name (i := 4) sc.nd rfl (Or.inl rfl))) (fun _ _ _ _ _ => pts_nil) (fun _ _ _ _ _ => (pe_op op_mod (pe_callTy call_int1 (by rfl) T.b_int (by decide +kernel) (pa_cons (pv 4) pa_nil)) (pe_op op_add (pe_op op_pow pe_int pe_int) pe_int)))) pa_nil)) (pe_op op_mul pe_int (pe_callB (call_lenK (K0 := K)) (by rfl) T.b_len (by decide +kernel) (pa_cons (pv 0) pa_nil)))))
      (pss_cons (ps_set (i := 5) sc.nd rfl (Or.inl rfl) (pe_op op_mod (pe_callTy call_int1 (by rfl) T.b_int (by decide +kernel) (pa_cons (pe_op op_add (pe_op op_add (pe_op op_add (pe_op op_mul (pe_callB call_abs (by rfl) T.b_abs (by decide +kernel) (pa_cons (pv 2) pa_nil)) pe_int) (pe_op op_mul pe_int (pe_callTy call_int1 (by rfl) T.b_int (by decide +kernel) (pa_cons (pe_cmpR op_lt (pv 2) pe_int (nomark _)) pa_nil)))) (pe_op op_mul (pv 3) pe_int)) (pv 1)) pa_nil)) (pe_op op_add (pe_op op_pow pe_int pe_int) pe_int)))
      (pss_one (ps_ret (pe_lst (pa_cons (pe_callB (call_max2 rfl) (by rfl) T.b_max (by decide +kernel) (pa_cons pe_int (pa_cons (pe_op op_sub (pv 2) (pe_op op_pow pe_int pe_int)) pa_nil))) (pa_cons (pv 5) (pa_cons pe_int pa_nil)))))))))), ?_⟩
  refine ⟨_, rfl, _, _, rfl, rfl, .inl (by decide), _, _, rfl, rfl, ?_⟩
  refine ⟨_, rfl, _, rfl, _, _, rfl, .inl hS, _, _, rfl, rfl, _, rfl, ?_⟩
  rw [lenm]
  refine itd (fun h => ?_) (fun h => ?_)
  all_goals try refine ⟨_, rfl, _, rfl, _, _, _, _, rfl, rfl, hS, atI_nn (j := k) rfl (by omega), ?_⟩
  all_goals
    refine ⟨_, rfl, _, rfl, ⟨_, hS⟩, lc_int (src_sql hS) (by rw [List.length_map]; omega) (fun i => ns.getD i 0 % ((10 : Int) ^ (22 : Int).toNat + 9)) (fun i x H' Z hi e it z => ?_) (fun D H' hD e hl => ?_)⟩
    · obtain ⟨rfl, _⟩ := at_map it
      exact ⟨rfl, _, rfl, .inl ⟨_, rfl, _, _, rfl, rfl, ⟨by decide, by decide, by decide⟩, _, _, rfl, rfl, _, _, rfl, rfl, (show (0 : Int) < _ by decide), z _ (by walk_at "k76e")⟩⟩
    · refine ⟨_, _, rfl, li_sq hl, _, rfl, _, _, rfl, .inl (Evl.ex_l e hS), _, _, rfl, rfl, .inl (by decide), _, _, rfl, rfl, ?_⟩
      refine ⟨_, rfl, _, rfl, _, _, rfl, rfl, .inr (by decide), _, rfl, _, _, rfl, rfl, .inr ⟨_, rfl, _, _, rfl, rfl, .inl (by decide), _, _, rfl, rfl, _, rfl, _, _, rfl, rfl, .inr (by decide), _, _, rfl, rfl, _, rfl, _, _, rfl, rfl, .inl ⟨_, rfl, _, _, rfl, rfl, ⟨by decide, by decide, by decide⟩, _, _, rfl, rfl, _, _, rfl, rfl, (show (0 : Int) < _ by decide), ?_⟩⟩⟩
      refine ⟨_, rfl, _, _, rfl, rfl, ⟨by decide, by decide, by decide⟩, _, _, rfl, rfl, _, _, rfl, _, rfl, sz3, fun p hp => ?_⟩
      refine q p _ (by walk_at "k76e") (fr_dn hp (by walk_at "k76e")) ⟨_, _, _, upd_same, ?_, (mod_lt' (by decide)).1, Int.lt_of_lt_of_le (mod_lt' (by decide)).2 (by decide), by decide, by decide⟩
      split <;> omega
theorem cal_law_rule (T : Txt K mg) : C8.Cal P w K mg base 2 "_law_rule" (sp_law_rule K) [] := by
  have c_law_take : C8.Cal P w K mg base 1 "_law_take" (sp_law_take K) [] := cal_law_take T
  obtain ⟨f, fd, F, df⟩ := T.d_law_rule
  refine C8.cal0 F (F.fn.binds df fun _ _ _ _ _ _ us hl => ?bnd) .nil sc_law_rule (fun vs H Q E h => ?len) fun cdv A outer s H vs Q E hr h => ?_
  case bnd => obtain ⟨a0, a1, a2, rfl⟩ := ln3 hl; rfl
  case len => first | (obtain ⟨_, rfl, _⟩ := h; rfl) | (obtain ⟨_, _, rfl, _⟩ := h; rfl) | (obtain ⟨_, _, _, rfl, _⟩ := h; rfl) | (obtain ⟨_, _, _, _, rfl, _⟩ := h; rfl) | (obtain ⟨_, _, _, _, _, rfl, _⟩ := h; rfl) | (obtain ⟨_, _, _, _, _, _, rfl, _⟩ := h; rfl) | (obtain ⟨_, _, _, _, _, _, _, rfl, _⟩ := h; rfl) | (obtain ⟨_, _, _, _, _, _, _, _, rfl, _⟩ := h; rfl) | (obtain ⟨_, _, _, _, _, _, _, _, _, rfl, _⟩ := h; rfl) | (obtain ⟨_, _, _, _, _, _, _, _, _, _, rfl, _⟩ := h; rfl) | (obtain ⟨_, _, _, _, _, _, _, _, _, _, _, rfl, _⟩ := h; rfl)
  have sc := sc_law_rule
  obtain ⟨a, m, w, c, rfl, hJ, hc, hm1, hm2, hw, q⟩ := h
  refine ⟨_, (pss_cons (ps_par3 (i := 3) (j := 4) (l := 5) (by rfl) sc.nd rfl rfl rfl (by decide) (by decide) (by decide) rfl rfl rfl (pa_cons (pe_ix (ix_listK (K0 := K)) (pe_lst (pa_cons pe_int (pa_cons (pe_op op_sub (pv 1) pe_int) (pa_cons (pe_op op_add pe_int (C8.pe_c c_law_take hr (by decide) (by rfl) (pa_cons (pv 0) (pa_cons (pe_op op_sub (pv 1) pe_int) pa_nil)))) pa_nil)))) (C8.pe_c c_law_take hr (by decide) (by rfl) (pa_cons (pv 0) (pa_cons pe_int pa_nil))) (fun _ _ => rfl)) (pa_cons (pe_lst (pa_cons pe_int pa_nil)) (pa_cons (C8.pe_c c_law_take hr (by decide) (by rfl) (pa_cons (pv 0) (pa_cons pe_int pa_nil))) pa_nil))) (by rfl))
      (pss_cons (ps_if (pt_cmpR op_eq (C8.pe_c c_law_take hr (by decide) (by rfl) (pa_cons (pv 0) (pa_cons pe_int pa_nil))) pe_int (nomark _)) (pss_one (ps_setLc (i := 4) (own := [("_law_turn", 6)]) (g := (gName 6)) (tt := tYes) rfl sc.nd rfl rfl (sw_true rfl rfl rfl (by decide +kernel)) (pi_range1 rfl T.b_range (pa_cons (pe_op op_add pe_int (C8.pe_c c_law_take hr (by decide) (by rfl) (pa_cons (pv 0) (pa_cons (pe_op op_add (pv 2) pe_int) pa_nil)))) pa_nil)) (blkOk_by (N := n_law_rule) (sc := C8.fnScope s_law_rule) (by decide +kernel)) (fun _ _ _ _ _ => (pg_name (i := 6) sc.nd rfl (Or.inl rfl))) (fun _ _ _ _ _ => pts_nil) (fun _ _ _ _ _ => (C8.pe_c c_law_take hr (by decide) (by rfl) (pa_cons (pv 0) (pa_cons (pv 1) pa_nil)))))) (pss_one (ps_for PassesOwn.never rfl (pi_range1 rfl T.b_range (pa_cons (pe_callB (call_min2 rfl) (by rfl) T.b_min (by decide +kernel) (pa_cons (pv 2) (pa_cons (pv 5) pa_nil))) pa_nil)) (pg_name (i := 6) sc.nd rfl (Or.inl rfl)) (pss_cons (ps_set (i := 7) sc.nd rfl (Or.inr rfl) (pe_ix (ix_listK (K0 := K)) (pe_lst (pa_cons (pv 3) (pa_cons (pv 3) (pa_cons (pv 3) (pa_cons (pv 3) (pa_cons (C8.pe_c c_law_take hr (by decide) (by rfl) (pa_cons (pv 0) (pa_cons (pv 1) pa_nil))) pa_nil)))))) (C8.pe_c c_law_take hr (by decide) (by rfl) (pa_cons (pv 0) (pa_cons pe_int pa_nil))) (fun _ _ => rfl)))
      (pss_one (ps_setLc (i := 4) (own := [("_law_ahead", 8), ("_law_own", 9)]) (g := (gTup K 2 (gCons (gName 8) (gCons (gName 9) gNil)))) (tt := tYes) rfl sc.nd rfl rfl (sw_true rfl rfl rfl (by decide +kernel)) (pi_zip (by rfl) T.b_zip (pa_cons (pe_op op_cat (pe_lst (pa_cons pe_int pa_nil)) (pv 4)) (pa_cons (pe_op op_cat (pv 4) (pe_lst (pa_cons pe_int pa_nil))) pa_nil))) (blkOk_by (N := n_law_rule) (sc := C8.fnScope s_law_rule) (by decide +kernel)) (fun _ _ _ _ _ => (pg_tupK (K0 := K) rfl (pgs_cons (pg_name (i := 8) sc.nd rfl (Or.inl rfl)) (pgs_cons (pg_name (i := 9) sc.nd rfl (Or.inl rfl)) pgs_nil)))) (fun _ _ _ _ _ => pts_nil) (fun _ _ _ _ _ => (pe_op op_mod (pe_callTy call_int1 (by rfl) T.b_int (by decide +kernel) (pa_cons (pe_op op_sub (pv 8) (pe_op op_mul (pv 7) (pv 9))) pa_nil)) (pv 1)))))))))
      (pss_cons (ps_asg (pe_tup (pa_cons (pe_op op_sub (C8.pe_c c_law_take hr (by decide) (by rfl) (pa_cons (pv 0) (pa_cons (pe_op op_sub pe_int (pe_callB (call_lenK (K0 := K)) (by rfl) T.b_len (by decide +kernel) (pa_cons (pv 4) pa_nil))) pa_nil))) pe_int) (pa_cons (pe_ix (ix_listK (K0 := K)) (pe_lst (pa_cons pe_int (pa_cons pe_int (pa_cons pe_int (pa_cons pe_int (pa_cons pe_int (pa_cons (C8.pe_c c_law_take hr (by decide) (by rfl) (pa_cons (pv 0) (pa_cons (pv 1) pa_nil))) pa_nil))))))) (C8.pe_c c_law_take hr (by decide) (by rfl) (pa_cons (pv 0) (pa_cons pe_int pa_nil))) (fun _ _ => rfl)) pa_nil))) (pg_tup rfl (pgs_cons (pg_name (i := 10) sc.nd rfl (Or.inr rfl)) (pgs_cons (pg_name (i := 11) sc.nd rfl (Or.inr rfl)) pgs_nil))))
      (pss_cons (ps_setLc (i := 12) (own := [("_law_at", 13), ("_law_own", 9)]) (g := (gTup K 2 (gCons (gName 13) (gCons (gName 9) gNil)))) (tt := tYes) rfl sc.nd rfl rfl (sw_true rfl rfl rfl (by decide +kernel)) (pi_enum (by rfl) T.b_enumerate (pa_cons (pv 4) pa_nil)) (blkOk_by (N := n_law_rule) (sc := C8.fnScope s_law_rule) (by decide +kernel)) (fun _ _ _ _ _ => (pg_tupK (K0 := K) rfl (pgs_cons (pg_name (i := 13) sc.nd rfl (Or.inl rfl)) (pgs_cons (pg_name (i := 9) sc.nd rfl (Or.inl rfl)) pgs_nil)))) (fun _ _ _ _ _ => pts_nil) (fun _ _ _ _ _ => (pe_tup (pa_cons (pe_op op_add (pv 10) (pv 13)) (pa_cons (pe_op op_mod (pe_callTy call_int1 (by rfl) T.b_int (by decide +kernel) (pa_cons (pe_op op_mul (pv 9) (pv 11)) pa_nil)) (pv 1)) pa_nil)))))
      (pss_one (ps_ret (pe_tup (pa_cons (pv 1) (pa_cons (pe_callTy call_tuple_of (by rfl) T.b_tuple (by decide +kernel) (pa_cons (pe_lc (own := [("_law_term", 14)]) (g := (gName 14)) rfl sc.nd (pi_list (pv 12)) (blkOk_by (N := n_law_rule) (sc := C8.fnScope s_law_rule) (by decide +kernel)) (fun _ _ _ _ _ => (pg_name (i := 14) sc.nd rfl (Or.inl rfl))) (fun _ _ _ _ _ => (pts_one (pt_cmpR op_gt (pe_ix (ix_tupK (K0 := K)) (pv 14) pe_int (fun _ _ => rfl)) pe_int (nomark _)))) (fun _ _ _ _ _ => (pv 14))) pa_nil)) pa_nil))))))))), ?_⟩
  refine ⟨_, rfl, _, _, rfl, rfl, _, rfl, _, rfl, _, _, rfl, rfl, a, m - 1, c, rfl, hJ, by omega, by omega, by omega, fun r1 H1 e1 j1 r10 r11 => ?_⟩
  refine ⟨_, _, rfl, rfl, sz3, fun p2 k2 => ?_⟩
  refine ⟨_, rfl, a, 3, _, rfl, j1.upd k2, by omega, by decide, by decide, fun r3 H3 e3 j3 r30 r31 => ?_⟩
  have l2 : LI H3 p2 [1, m - 1, 1 + r1] := e3 _ _ (j1.ne k2) upd_same
  refine ⟨_, _, _, _, rfl, rfl, li_sq l2, atI_int r30 r31, sz1, fun p4 k4 => ?_⟩
  have hub : 0 ≤ ([1, m - 1, 1 + r1] : List Int).getD r3.toNat 0 ∧ ([1, m - 1, 1 + r1] : List Int).getD r3.toNat 0 < m := by
    have := getI (ns := [1, m - 1, 1 + r1]) (i := r3.toNat) (by show _ < 3; omega)
    simp only [List.mem_cons, List.not_mem_nil, or_false] at this
    omega
  generalize ([1, m - 1, 1 + r1] : List Int).getD r3.toNat 0 = u at *
  refine ⟨_, rfl, a, 9, _, rfl, j3.upd k4, by omega, by decide, by decide, fun r5 H5 e5 j5 r50 r51 => ?_⟩
  refine ⟨_, _, _, rfl, ?_⟩
  have l4 : LI H5 p4 [1] := e5 _ _ (j3.ne k4) upd_same
  have n4 := j3.ne k4
  have x5 : Xj a H H5 := (((e1.trans (exj (Evl.Ex.new k2) a)).trans e3).trans (exj (Evl.Ex.new k4) a)).trans e5
  refine ⟨_, rfl, a, 5, _, rfl, j5, by omega, by decide, by decide, fun r6 H6 e6 j6 r60 r61 => ?_⟩
  refine ⟨rfl, _, rfl, ?_⟩
  refine itd (fun h => ?_) (fun h => ?_)
  · refine ⟨_, rfl, _, rfl, _, _, rfl, rfl, a, ((w + 1 : Nat) : Int), _, rfl, j6, by omega, by omega, by omega, fun r7 H7 e7 j7 r70 r71 => ?_⟩
    refine ⟨_, _, rfl, rfl, _, rfl, by omega, by omega, lc_jr (n := (1 + r7).toNat) (by omega) a 1 _ m j7 (fun i H' Z hi e j z => ?_) (fun fa G fs hD e8 lX hul hfr j8 => ?_)⟩
    · exact ⟨rfl, _, rfl, _, rfl, a, m, _, rfl, j, by omega, by omega, by omega, fun r H' e j r0 r1 => z r H' e j r0 r1⟩
    · have jX : Jar G a (c + 40) := j8.mono (by omega)
      have eX : Xj a H G := ((x5.trans e6).trans e7).trans e8
      have nX : fa ≠ a := j7.ne hD
      have hfl : 1 ≤ fs.length ∧ fs.length ≤ w + 1 := by omega
      clear j8 e8 j7 e7 j6 e6 j5 e5 j3 e3 j1 e1 l2 l4
      refine ⟨_, rfl, _, rfl, _, _, rfl, .inl (li_sq lX), _, _, rfl, rfl, a, 10 - (fs.length : Int), _, by rw [lenm]; rfl, jX, by omega, by omega, by omega, fun r20 H20 e20 j20 r200 r201 => ?_⟩
      refine ⟨_, _, rfl, rfl, _, rfl, _, rfl, a, m, _, rfl, j20, by omega, by omega, by omega, fun r21 H21 e21 j21 r210 r211 => ?_⟩
      refine ⟨Evl.sz_of (by show 6 ≤ 100000; decide), fun p22 k22 => ?_⟩
      refine ⟨_, rfl, a, 6, _, rfl, j21.upd k22, by omega, by decide, by decide, fun r23 H23 e23 j23 r230 r231 => ?_⟩
      have l22 : LI H23 p22 [1, 1, 1, 1, 1, r21] := e23 _ _ (j21.ne k22) upd_same
      refine ⟨_, _, _, _, rfl, rfl, li_sq l22, atI_int r230 r231, sz2, fun p24 k24 => ?_⟩
      have hsb : 0 ≤ ([1, 1, 1, 1, 1, r21] : List Int).getD r23.toNat 0 ∧ ([1, 1, 1, 1, 1, r21] : List Int).getD r23.toNat 0 < m := by
        have := getI (ns := [1, 1, 1, 1, 1, r21]) (i := r23.toNat) (by show _ < 6; omega)
        simp only [List.mem_cons, List.not_mem_nil, or_false] at this
        omega
      generalize ([1, 1, 1, 1, 1, r21] : List Int).getD r23.toNat 0 = sh at *
      refine ⟨_, _, rfl, Evl.st_of upd_same, rfl, _, _, rfl, _, _, rfl, rfl, ?_⟩
      dsimp only
      have xG : Xj a G (upd H23 p24 (.tup [.int (r20 - 4), .int sh])) := (((e20.trans e21).trans (exj (Evl.Ex.new k22) a)).trans e23).trans (exj (Evl.Ex.new k24) a)
      have jG : Jar (upd H23 p24 (.tup [.int (r20 - 4), .int sh])) a (c + 50) := (j23.upd k24).mono (by omega)
      have lG : LI (upd H23 p24 (.tup [.int (r20 - 4), .int sh])) fa fs := xG _ _ nX lX
      generalize (upd H23 p24 (.tup [.int (r20 - 4), .int sh])) = B at *
      clear j23 e23 j21 e21 j20 e20 l22
      refine ⟨_, rfl, _, _, rfl, li_sq lG, lc_src (src_enum lG) (by rw [List.length_map]; omega) (fun i acc H' => PrL K H' acc ((trT (r20 - 4) sh m fs).take i)) (fun _ => PrL.nil) (fun i acc H1 H2 h e => h.nl e) (fun i x acc H' Z Z' hi e hPd it z z' => ?_) (fun D H' acc hD e hl hPd => ?_)⟩
      · obtain ⟨U, x1, rfl, hU, hx1⟩ := it
        obtain ⟨rfl, c1⟩ := at_map hx1
        have g1 := hfr.get c1
        refine ⟨_, _, rfl, Evl.st_of hU, rfl, _, _, rfl, _, _, rfl, rfl, rfl, ?_⟩
        refine ⟨_, rfl, _, rfl, _, _, rfl, rfl, _, rfl, _, rfl, _, _, rfl, rfl, cmul_s (by omega), .inl ⟨_, rfl, _, rfl, _, _, rfl, rfl, by omega, sz2, fun U2 k => ?_⟩⟩
        refine z _ _ (by walk_at "k76e") ?_
        show PrL K _ _ ((trT (r20 - 4) sh m fs).take (i + 1))
        rw [take_snoc (by rw [trT_len]; exact c1), trT_get c1]
        exact (hPd.up (by walk_at "k76e")).snoc (Evl.st_of upd_same)
      · rw [List.take_of_length_le (by rw [trT_len, List.length_map]; omega)] at hPd
        have hpl := hPd.1
        rw [trT_len] at hpl
        refine ⟨_, rfl, _, rfl, _, rfl, ⟨_, li_sq hl⟩, lc_src (src_list hl) (by omega) (fun i acc H' => PrL K H' acc (((trT (r20 - 4) sh m fs).take i).filter fun t => decide (t.2 > 0))) (fun _ => PrL.nil) (fun i acc H1 H2 h e => h.nl e) (fun i x acc2 H4 Z Z' hi e4 hPd4 it z z' => ?_) (fun D2 H4 acc2 hD2 e4 hl4 hPd4 => ?_)⟩
        · have hi2 : i < (trT (r20 - 4) sh m fs).length := by rw [trT_len]; omega
          obtain ⟨U, hU, hU2⟩ := hPd.2 i hi2
          have ex : x = .ref U := Option.some.inj (it.symm.trans hU)
          subst ex
          have hst := take_snoc hi2
          have hU4 := sqt_up hU2 e4
          generalize (trT (r20 - 4) sh m fs).getD i (0, 0) = t at *
          refine ⟨rfl, _, rfl, _, _, _, _, rfl, rfl, hU4, at1, _, _, rfl, rfl, _, rfl, ?_⟩
          refine itd (fun h => ?_) (fun h => ?_)
          · refine ⟨_, rfl, z _ _ (by walk_at "k76e") ?_⟩
            show PrL K _ _ (((trT (r20 - 4) sh m fs).take (i + 1)).filter _)
            rw [hst, List.filter_append, List.filter_cons, if_pos (by simpa using h)]
            exact hPd4.snoc hU4
          · refine z' _ (by walk_at "k76e") ?_
            show PrL K _ _ (((trT (r20 - 4) sh m fs).take (i + 1)).filter _)
            rw [hst, List.filter_append, List.filter_cons, if_neg (by simpa using h), List.filter_nil, List.append_nil]
            exact hPd4
        · rw [List.take_of_length_le (by rw [trT_len]; omega)] at hPd4
          refine ⟨_, _, rfl, .inl ⟨li_sq hl4, fun l kl => ⟨sz2, fun p kp => ?_⟩⟩⟩
          have eF : Ex B (upd (upd H4 l (.tup acc2)) p (.tup [.int m, .ref l])) := by walk_at "k76e"
          refine q p _ _ (eX.trans (xG.trans (exj eF a))) ((jG.up eF).mono (by omega)) ⟨l, Evl.st_of upd_same, acc2, Evl.st_of (own_new kp upd_same), hPd4.up ((Evl.Ex.new kl).trans (Evl.Ex.new kp))⟩ (trT_ok (by omega) (by omega) (by omega)) ⟨r20 - 4, fun t ht => ?_⟩
          have := trT_mem (by omega) (List.mem_filter.mp ht).1
          omega
  · refine ⟨_, rfl, _, rfl, _, _, rfl, _, rfl, by split <;> omega, by split <;> omega, ?_⟩
    have x6 := x5.trans e6
    have l46 : LI H6 p4 [1] := e6 _ _ n4 l4
    obtain ⟨v, hv⟩ : ∃ v : Nat, (if r5 < (w : Int) then r5 else (w : Int)).toNat = v := ⟨_, rfl⟩
    have hvw : v ≤ w := by rw [← hv]; split <;> omega
    refine for_src (src_rng (B := fun _ => none) (lo := 0) (n := (if r5 < (w : Int) then r5 else (w : Int)).toNat)) (fun i σ G => Xj a H G ∧ Jar G a (c + 4 + 2 * i) ∧ ∃ y6 y7 y8 y9 y10 y11 y12 y13 y14 fa fs, σ = [some (.ref a), some (.int m), some (.int w), some (.int u), some (.ref fa), some (.int r5), y6, y7, y8, y9, y10, y11, y12, y13, y14] ∧ LI G fa fs ∧ fa ≠ a ∧ fs.length = i + 1 ∧ Rg m fs) ?_ (fun i σ G hP => ExB _) (fun i x σ H2 H7 hi hW e7 hx3 => ?_) (fun σ G hW => ?_)
    · exact ⟨x6, j6.mono (by omega), none, none, none, none, none, none, none, none, none, p4, [1], rfl, l46, n4, rfl, fun z hz => by rw [List.mem_singleton.mp hz]; omega⟩
    · rw [hv] at hi
      obtain ⟨e2, j2, y6, y7, y8, y9, y10, y11, y12, y13, y14, fa, fs, rfl, hl, nfa, hfl, hfr⟩ := hW
      have j7 := j2.up e7
      refine ⟨_, rfl, _, rfl, _, rfl, _, rfl, _, rfl, _, rfl, a, m, _, rfl, j7, by omega, by omega, by omega, fun r8 H8 e8 j8 r80 r81 => ?_⟩
      refine ⟨Evl.sz_of (by show 5 ≤ 100000; decide), fun p9 k9 => ?_⟩
      refine ⟨_, rfl, a, 5, _, rfl, j8.upd k9, by omega, by decide, by decide, fun r10 H10 e10 j10 r100 r101 => ?_⟩
      have l9 : LI H10 p9 [u, u, u, u, r8] := e10 _ _ (j8.ne k9) upd_same
      refine ⟨_, _, _, _, rfl, rfl, li_sq l9, atI_int r100 r101, ?_⟩
      have hrb : 0 ≤ ([u, u, u, u, r8] : List Int).getD r10.toNat 0 ∧ ([u, u, u, u, r8] : List Int).getD r10.toNat 0 < m := by
        have := getI (ns := [u, u, u, u, r8]) (i := r10.toNat) (by show _ < 5; omega)
        simp only [List.mem_cons, List.not_mem_nil, or_false] at this
        omega
      generalize ([u, u, u, u, r8] : List Int).getD r10.toNat 0 = root at *
      have x210 : Xj a H2 H10 := (((exj e7 a).trans e8).trans (exj (Evl.Ex.new k9) a)).trans e10
      have hl10 : LI H10 fa fs := x210 _ _ nfa hl
      refine ⟨sz1, fun p11 k11 => ?_⟩
      refine ⟨_, rfl, _, _, _, _, rfl, rfl, upd_same, own_new k11 hl10, Evl.sz_of (by rw [List.length_map]; show 1 + _ ≤ _; omega), fun p12 k12 => ?_⟩
      refine ⟨_, rfl, sz1, fun p13 k13 => ?_⟩
      refine ⟨_, _, _, _, rfl, rfl, own_new k13 (own_new k12 (own_new k11 hl10)), upd_same, Evl.sz_of (by rw [List.length_map]; show _ + 1 ≤ _; omega), fun p14 k14 => ?_⟩
      have eC := Evl.Ex.trans (Evl.Ex.trans (Evl.Ex.trans (Evl.Ex.new (o := .lst [V.int 0]) k11) (Evl.Ex.new (o := .lst ([V.int 0] ++ fs.map V.int)) k12)) (Evl.Ex.new (o := .lst [V.int 0]) k13)) (Evl.Ex.new (o := .lst (fs.map V.int ++ [V.int 0])) k14)
      have lA : LI (upd (upd (upd (upd H10 p11 (.lst [V.int 0])) p12 (.lst ([V.int 0] ++ fs.map V.int))) p13 (.lst [V.int 0])) p14 (.lst (fs.map V.int ++ [V.int 0]))) p12 (0 :: fs) := own_new k14 (own_new k13 upd_same)
      have lB : LI (upd (upd (upd (upd H10 p11 (.lst [V.int 0])) p12 (.lst ([V.int 0] ++ fs.map V.int))) p13 (.lst [V.int 0])) p14 (.lst (fs.map V.int ++ [V.int 0]))) p14 (fs ++ [0]) := upd_same.trans (congrArg (fun l => some (HO.lst l)) (by rw [List.map_append]; rfl))
      generalize (upd (upd (upd (upd H10 p11 (.lst [V.int 0])) p12 (.lst ([V.int 0] ++ fs.map V.int))) p13 (.lst [V.int 0])) p14 (.lst (fs.map V.int ++ [V.int 0]))) = C at *
      have hAl : (0 :: fs).length = fs.length + 1 := rfl
      have hBl : (fs ++ [0]).length = fs.length + 1 := by rw [List.length_append]; rfl
      have hAr : Rg m (0 :: fs) := fun z hz => by
        rcases List.mem_cons.mp hz with y | y
        · omega
        · exact hfr z y
      have hBr : Rg m (fs ++ [0]) := fun z hz => by
        rcases List.mem_append.mp hz with y | y
        · exact hfr z y
        · rw [List.mem_singleton.mp y]; omega
      refine ⟨_, _, _, _, rfl, li_sq lA, li_sq lB, lc_int (src_zip lA lB) (by rw [List.length_map, List.length_map]; omega) (fun j => ((0 :: fs).getD j 0 - root * (fs ++ [0]).getD j 0) % m) (fun j x H' Z hj e it z => ?_) (fun D H' hD e hl5 => ?_)⟩
      · obtain ⟨U, x1, y1, rfl, hU, hx1, hy1⟩ := it
        obtain ⟨rfl, c1⟩ := at_map hx1
        obtain ⟨rfl, c2⟩ := at_map hy1
        have g1 := hAr.get c1
        have g2 := hBr.get c2
        refine ⟨_, _, rfl, Evl.st_of hU, rfl, _, _, rfl, _, _, rfl, rfl, rfl, ?_⟩
        exact ⟨_, rfl, _, rfl, _, rfl, _, _, rfl, rfl, cmul_s (by omega), _, _, rfl, rfl, .inl ⟨_, rfl, _, rfl, _, _, rfl, rfl, by omega, z _ (by walk_at "k76e")⟩⟩
      · refine ⟨(e2.trans x210).trans (exj (eC.trans e) a), ((j10.up eC).up e).mono (by omega), _, _, _, _, _, _, _, _, _, D, _, rfl, hl5, ?_, ?_, ?_⟩
        · exact (j10.up eC).ne hD
        · rw [List.length_map, List.length_range, List.length_map, List.length_map]; omega
        · intro z hz
          obtain ⟨k, _, rfl⟩ := List.mem_map.mp hz
          exact mod_lt' (by omega)
    · rw [hv] at hW
      obtain ⟨eX, j9, y6, y7, y8, y9, y10, y11, y12, y13, y14, fa, fs, rfl, lX, nX, hfl0, hfr⟩ := hW
      have jX : Jar G a (c + 40) := j9.mono (by omega)
      have hfl : 1 ≤ fs.length ∧ fs.length ≤ w + 1 := by omega
      clear j9 j6 e6 j5 e5 j3 e3 j1 e1 l2 l4 l46 x6
      refine ⟨_, rfl, _, rfl, _, _, rfl, .inl (li_sq lX), _, _, rfl, rfl, a, 10 - (fs.length : Int), _, by rw [lenm]; rfl, jX, by omega, by omega, by omega, fun r20 H20 e20 j20 r200 r201 => ?_⟩
      refine ⟨_, _, rfl, rfl, _, rfl, _, rfl, a, m, _, rfl, j20, by omega, by omega, by omega, fun r21 H21 e21 j21 r210 r211 => ?_⟩
      refine ⟨Evl.sz_of (by show 6 ≤ 100000; decide), fun p22 k22 => ?_⟩
      refine ⟨_, rfl, a, 6, _, rfl, j21.upd k22, by omega, by decide, by decide, fun r23 H23 e23 j23 r230 r231 => ?_⟩
      have l22 : LI H23 p22 [1, 1, 1, 1, 1, r21] := e23 _ _ (j21.ne k22) upd_same
      refine ⟨_, _, _, _, rfl, rfl, li_sq l22, atI_int r230 r231, sz2, fun p24 k24 => ?_⟩
      have hsb : 0 ≤ ([1, 1, 1, 1, 1, r21] : List Int).getD r23.toNat 0 ∧ ([1, 1, 1, 1, 1, r21] : List Int).getD r23.toNat 0 < m := by
        have := getI (ns := [1, 1, 1, 1, 1, r21]) (i := r23.toNat) (by show _ < 6; omega)
        simp only [List.mem_cons, List.not_mem_nil, or_false] at this
        omega
      generalize ([1, 1, 1, 1, 1, r21] : List Int).getD r23.toNat 0 = sh at *
      refine ⟨_, _, rfl, Evl.st_of upd_same, rfl, _, _, rfl, _, _, rfl, rfl, ?_⟩
      dsimp only
      have xG : Xj a G (upd H23 p24 (.tup [.int (r20 - 4), .int sh])) := (((e20.trans e21).trans (exj (Evl.Ex.new k22) a)).trans e23).trans (exj (Evl.Ex.new k24) a)
      have jG : Jar (upd H23 p24 (.tup [.int (r20 - 4), .int sh])) a (c + 50) := (j23.upd k24).mono (by omega)
      have lG : LI (upd H23 p24 (.tup [.int (r20 - 4), .int sh])) fa fs := xG _ _ nX lX
      generalize (upd H23 p24 (.tup [.int (r20 - 4), .int sh])) = B at *
      clear j23 e23 j21 e21 j20 e20 l22
      refine ⟨_, rfl, _, _, rfl, li_sq lG, lc_src (src_enum lG) (by rw [List.length_map]; omega) (fun i acc H' => PrL K H' acc ((trT (r20 - 4) sh m fs).take i)) (fun _ => PrL.nil) (fun i acc H1 H2 h e => h.nl e) (fun i x acc H' Z Z' hi e hPd it z z' => ?_) (fun D H' acc hD e hl hPd => ?_)⟩
      · obtain ⟨U, x1, rfl, hU, hx1⟩ := it
        obtain ⟨rfl, c1⟩ := at_map hx1
        have g1 := hfr.get c1
        refine ⟨_, _, rfl, Evl.st_of hU, rfl, _, _, rfl, _, _, rfl, rfl, rfl, ?_⟩
        refine ⟨_, rfl, _, rfl, _, _, rfl, rfl, _, rfl, _, rfl, _, _, rfl, rfl, cmul_s (by omega), .inl ⟨_, rfl, _, rfl, _, _, rfl, rfl, by omega, sz2, fun U2 k => ?_⟩⟩
        refine z _ _ (by walk_at "k76e") ?_
        show PrL K _ _ ((trT (r20 - 4) sh m fs).take (i + 1))
        rw [take_snoc (by rw [trT_len]; exact c1), trT_get c1]
        exact (hPd.up (by walk_at "k76e")).snoc (Evl.st_of upd_same)
      · rw [List.take_of_length_le (by rw [trT_len, List.length_map]; omega)] at hPd
        have hpl := hPd.1
        rw [trT_len] at hpl
        refine ⟨_, rfl, _, rfl, _, rfl, ⟨_, li_sq hl⟩, lc_src (src_list hl) (by omega) (fun i acc H' => PrL K H' acc (((trT (r20 - 4) sh m fs).take i).filter fun t => decide (t.2 > 0))) (fun _ => PrL.nil) (fun i acc H1 H2 h e => h.nl e) (fun i x acc2 H4 Z Z' hi e4 hPd4 it z z' => ?_) (fun D2 H4 acc2 hD2 e4 hl4 hPd4 => ?_)⟩
        · have hi2 : i < (trT (r20 - 4) sh m fs).length := by rw [trT_len]; omega
          obtain ⟨U, hU, hU2⟩ := hPd.2 i hi2
          have ex : x = .ref U := Option.some.inj (it.symm.trans hU)
          subst ex
          have hst := take_snoc hi2
          have hU4 := sqt_up hU2 e4
          generalize (trT (r20 - 4) sh m fs).getD i (0, 0) = t at *
          refine ⟨rfl, _, rfl, _, _, _, _, rfl, rfl, hU4, at1, _, _, rfl, rfl, _, rfl, ?_⟩
          refine itd (fun h => ?_) (fun h => ?_)
          · refine ⟨_, rfl, z _ _ (by walk_at "k76e") ?_⟩
            show PrL K _ _ (((trT (r20 - 4) sh m fs).take (i + 1)).filter _)
            rw [hst, List.filter_append, List.filter_cons, if_pos (by simpa using h)]
            exact hPd4.snoc hU4
          · refine z' _ (by walk_at "k76e") ?_
            show PrL K _ _ (((trT (r20 - 4) sh m fs).take (i + 1)).filter _)
            rw [hst, List.filter_append, List.filter_cons, if_neg (by simpa using h), List.filter_nil, List.append_nil]
            exact hPd4
        · rw [List.take_of_length_le (by rw [trT_len]; omega)] at hPd4
          refine ⟨_, _, rfl, .inl ⟨li_sq hl4, fun l kl => ⟨sz2, fun p kp => ?_⟩⟩⟩
          have eF : Ex B (upd (upd H4 l (.tup acc2)) p (.tup [.int m, .ref l])) := by walk_at "k76e"
          refine q p _ _ (eX.trans (xG.trans (exj eF a))) ((jG.up eF).mono (by omega)) ⟨l, Evl.st_of upd_same, acc2, Evl.st_of (own_new kp upd_same), hPd4.up ((Evl.Ex.new kl).trans (Evl.Ex.new kp))⟩ (trT_ok (by omega) (by omega) (by omega)) ⟨r20 - 4, fun t ht => ?_⟩
          have := trT_mem (by omega) (List.mem_filter.mp ht).1
          omega
end
end K76
namespace K76
open PySem PySem.Spec PyProof.Rows L2

theorem mem_rep {ns : List Int} {v : Int} {t : Nat} (ht : 1 ≤ t) : v ∈ rep t ns ↔ v ∈ ns := by
  unfold rep
  rw [List.mem_flatten]
  constructor
  · rintro ⟨l, h1, h2⟩
    rw [(List.mem_replicate.mp h1).2] at h2; exact h2
  · intro h
    exact ⟨ns, List.mem_replicate.mpr ⟨by omega, rfl⟩, h⟩
theorem hasI_zero {p : Int} (hp : 0 < p) {ts : List (Int × Int)} {ns : List Int} {t : Nat} (h : lft p ts = []) (ht : 1 ≤ t) : HasI p ts (ns.length * t) ns ↔ ∀ v ∈ ns, v % p = 0 := by
  constructor
  · rintro ⟨s, hs⟩ v hv
    obtain ⟨i, hi, rfl⟩ := List.getElem_of_mem hv
    have hle : ns.length ≤ ns.length * t := Nat.le_mul_of_pos_right _ (by omega)
    have := hs.stp i (by omega)
    rw [lft_nil h, Nat.mod_eq_of_lt hi, List.getD_eq_getElem?_getD, List.getElem?_eq_getElem hi] at this
    exact this.symm
  · intro hz
    refine ⟨List.replicate (ns.length * t) 0, List.length_replicate, rg_zeros hp _, fun i hi => ?_⟩
    have hn : 0 < ns.length := Nat.pos_of_ne_zero fun z => by rw [z, Nat.zero_mul] at hi; omega
    rw [lft_nil h, hz _ (getI (Nat.mod_lt _ hn))]
theorem free_law {q : Nat} (hq : Pr q) {ts : List (Int × Int)} {ns one g rs : List Int} {hi : Int} {t : Nat} (R : Rul q ts hi one) (hn : 0 < ns.length) (ht : 1 ≤ t) (hG : GcdR q one (ns.length * t) g)
    (hR : RestR q ((rep t ns).map (· % (q : Int))) g rs) : rs = [] ↔ HasI q ts (ns.length * t) ns := by
  have hN : 0 < ns.length * t := Nat.mul_pos hn (by omega)
  have hpos := hq.b
  obtain ⟨F, _, _, _, _, _, h3⟩ := has_iff hq R hN (w := ns) (Nat.dvd_mul_right _ _)
  have hl : ((rep t ns).map (· % (q : Int))).length = ns.length * t := by rw [List.length_map, rep_len, Nat.mul_comm]
  rw [h3, ← has_shift_iff, free_iff (F := F) hN hl hG rfl hR]
  have e : sq F ((rep t ns).map (· % (q : Int))) = sq F ns := funext fun i => by
    unfold sq
    rw [hl, getD_mapmod, ci_mod]
    have h0 := Int.emod_nonneg i (show ((ns.length * t : Nat) : Int) ≠ 0 by omega)
    have h1 := Int.emod_lt_of_pos i (show 0 < ((ns.length * t : Nat) : Int) by omega)
    rw [rep_get _ _ _ (by have : t * ns.length = ns.length * t := Nat.mul_comm _ _; omega)]
    congr 2
    have e5 : i % ((ns.length * t : Nat) : Int) % (ns.length : Int) = i % (ns.length : Int) := by
      refine Int.emod_emod_of_dvd _ ?_
      rw [Int.natCast_mul]
      exact Int.dvd_mul_right _ _
    have h2 := Int.emod_nonneg i (show (ns.length : Int) ≠ 0 by omega)
    have e6 : (i % ((ns.length * t : Nat) : Int)) = (((i % ((ns.length * t : Nat) : Int)).toNat : Nat) : Int) := by omega
    rw [e6, ← Int.natCast_emod] at e5
    omega
  rw [e]
def sp_law_free (K : PySem.W.Frag) : Sp := fun vs H Q _ => ∃ (a b : Addr) (m : Int) (ps : List Int) (ts : List (Int × Int)) (ns : List Int) (t : Nat), vs = [.ref a, .ref b, .int t] ∧ RuleV K H a m ts ∧ TI K H b ns ∧ look m = some ps ∧ TOk m ts ∧ ns ≠ [] ∧ ns.length ≤ 12 ∧ 1 ≤ t ∧ t ≤ 1000 ∧
  ∀ bb H', Ex H H' → (bb = true ↔ ∀ p ∈ ps, HasI p ts (ns.length * t) ns) → Q (.bl bb) H'
def sp_law_hopeless (K : PySem.W.Frag) : Sp := fun vs H Q _ => ∃ (a b : Addr) (m : Int) (ps : List Int) (ts : List (Int × Int)) (ns : List Int), vs = [.ref a, .ref b] ∧ RuleV K H a m ts ∧ TI K H b ns ∧ look m = some ps ∧ TOk m ts ∧ ns.length ≤ 12 ∧
  ∀ bb H', Ex H H' → (bb = true ↔ AnyH ps ts ns) → Q (.bl bb) H'
def sp_law_right (K : PySem.W.Frag) : Sp := fun vs H Q _ => ∃ (a b : Addr) (m : Int) (ps : List Int) (ts : List (Int × Int)) (ns : List Int) (told : V), vs = [.ref a, .ref b, told] ∧ RuleV K H a m ts ∧ RowV K H b m ns ∧ CaseR m ps ts ns ∧
  ((AnyH ps ts ns ∧ told = .non) ∨ (¬ AnyH ps ts ns ∧ ∃ (t x r : Addr) (tm : Nat) (ah : List Int), told = .ref t ∧ SqT K H t [.int tm, .ref x] ∧ SqT K H x [.int m, .ref r] ∧ TI K H r ah ∧ LeastR m ps ts ns tm ah)) ∧ ∀ H', Ex H H' → Q (.bl true) H'
section
variable {P : Program} {w : World} {K : PySem.W.Frag} {mg : Str → Option Value} {base : Heap}
theorem cal_law_free (T : Txt K mg) : C8.Cal P w K mg base 5 "_law_free" (sp_law_free K) [] := by
  have c_law_poly : C8.Cal P w K mg base 1 "_law_poly" (sp_law_poly K) [] := cal_law_poly T
  have c_law_primes : C8.Cal P w K mg base 1 "_law_primes" (sp_law_primes K) [] := cal_law_primes T
  have c_law_rest : C8.Cal P w K mg base 2 "_law_rest" (sp_law_rest K) [] := cal_law_rest T
  have c_law_ring_common : C8.Cal P w K mg base 4 "_law_ring_common" (sp_law_ring_common K) [] := cal_law_ring_common T
  obtain ⟨f, fd, F, df⟩ := T.d_law_free
  refine C8.cal0 F (F.fn.binds df fun _ _ _ _ _ _ us hl => ?bnd) .nil sc_law_free (fun vs H Q E h => ?len) fun cdv A outer s H vs Q E hr h => ?_
  case bnd => obtain ⟨a0, a1, a2, rfl⟩ := ln3 hl; rfl
  case len => first | (obtain ⟨_, rfl, _⟩ := h; rfl) | (obtain ⟨_, _, rfl, _⟩ := h; rfl) | (obtain ⟨_, _, _, rfl, _⟩ := h; rfl) | (obtain ⟨_, _, _, _, rfl, _⟩ := h; rfl) | (obtain ⟨_, _, _, _, _, rfl, _⟩ := h; rfl) | (obtain ⟨_, _, _, _, _, _, rfl, _⟩ := h; rfl) | (obtain ⟨_, _, _, _, _, _, _, rfl, _⟩ := h; rfl) | (obtain ⟨_, _, _, _, _, _, _, _, rfl, _⟩ := h; rfl) | (obtain ⟨_, _, _, _, _, _, _, _, _, rfl, _⟩ := h; rfl) | (obtain ⟨_, _, _, _, _, _, _, _, _, _, rfl, _⟩ := h; rfl) | (obtain ⟨_, _, _, _, _, _, _, _, _, _, _, rfl, _⟩ := h; rfl)
  have sc := sc_law_free
  obtain ⟨a, b, m, ps, ts, ns, t, rfl, hA, hB, hk, hT, hne, hn12, ht1, ht2, q⟩ := h
  have L := look_ok hk
  have L3 := L.two
  have hn := List.length_pos_iff.mpr hne
  have hpr := fun j (hj : j < ps.length) => pr_nat (L.pr _ (getI hj))
  obtain ⟨ta, hA1, hA2⟩ := id hA
  have hN : t * ns.length ≤ 12000 := Nat.le_trans (Nat.mul_le_mul ht2 hn12) (by decide)
  refine ⟨_, (pss_cons (ps_for PassesOwn.never rfl (pi_list (C8.pe_c c_law_primes hr (by decide) (by rfl) (pa_cons (pe_ix (ix_tupK (K0 := K)) (pv 0) pe_int (fun _ _ => rfl)) pa_nil))) (pg_name (i := 3) sc.nd rfl (Or.inr rfl)) (pss_cons (ps_par (i := 4) (j := 5) (by rfl) sc.nd rfl rfl (by decide) rfl rfl (pa_cons (pe_revL (C8.pe_c c_law_poly hr (by decide) (by rfl) (pa_cons (pv 0) (pa_cons (pv 3) pa_nil)))) (pa_cons (pe_lc (own := [("_law_value", 6)]) (g := (gName 6)) (tt := tYes) rfl sc.nd (pi_tup (pe_op op_repA (pv 1) (pv 2))) (blkOk_by (N := n_law_free) (sc := C8.fnScope s_law_free) (by decide +kernel)) (fun _ _ _ _ _ => (pg_name (i := 6) sc.nd rfl (Or.inl rfl))) (fun _ _ _ _ _ => pts_nil) (fun _ _ _ _ _ => (pe_op op_mod (pe_callTy call_int1 (by rfl) T.b_int (by decide +kernel) (pa_cons (pv 6) pa_nil)) (pv 3)))) pa_nil)) (by rfl))
      (pss_one (ps_if (pt_cmpR (op_eqD hr.units) (pv 4) (pe_lst pa_nil) (nomark _)) (pss_one (ps_if (pt_val (pe_callB (cr_anyI rfl) (by rfl) T.b_any (by decide +kernel) (pa_cons (pv 5) pa_nil))) (pss_one (ps_ret pe_bl)) pss_nil)) (pss_one (ps_if (pt_cmpR (op_neD hr.units) (C8.pe_c c_law_rest hr (by decide) (by rfl) (pa_cons (pv 5) (pa_cons (C8.pe_c c_law_ring_common hr (by decide) (by rfl) (pa_cons (pv 4) (pa_cons (pe_callB (call_lenK (K0 := K)) (by rfl) T.b_len (by decide +kernel) (pa_cons (pv 5) pa_nil)) (pa_cons (pv 3) pa_nil)))) (pa_cons (pv 3) pa_nil)))) (pe_lst pa_nil) (nomark _)) (pss_one (ps_ret pe_bl)) pss_nil))))))
      (pss_one (ps_ret pe_bl))), ?_⟩
  refine ⟨_, rfl, _, _, _, _, rfl, rfl, hA1, at0, m, ps, rfl, hk, fun r1 H1 e1 h1 => ?_⟩
  refine ⟨_, rfl, ⟨_, li_sq h1⟩, ?_⟩
  refine for_src (src_list h1) (fun i σ H' => Ex H1 H' ∧ (∃ y3 y4 y5 y6, σ = [some (.ref a), some (.ref b), some (.int t), y3, y4, y5, y6]) ∧ ∀ j, j < i → HasI (ps.getD j 0) ts (ns.length * t) ns) ?_ (fun i σ H' hP => hP.1) (fun i x σ H2 H3 hi hW e3 hx => ?_) (fun σ H2 hW => ?_)
  · exact ⟨Evl.Ex.refl _, ⟨none, none, none, none, rfl⟩, fun j hj => absurd hj (Nat.not_lt_zero _)⟩
  · obtain ⟨e2, ⟨y3, y4, y5, y6, rfl⟩, hall⟩ := hW
    obtain ⟨hx', hi2⟩ := at_map hx
    obtain ⟨p, hq1, hq2, hq3, hq4⟩ := hpr i hi2
    have hpb := hq2.b
    rw [hq1] at hx'
    subst hx'
    have e03 : Ex H H3 := e1.trans (e2.trans e3)
    have e13 : Ex H1 H3 := e2.trans e3
    clear hx e3 e2
    refine ⟨_, rfl, _, rfl, a, m, ts, p, rfl, hA.up e03, hq2, hT.asc, hT.len, (fun t ht => by have := hT.off t ht; omega), fun b6 fd H6 e6 hb hcase => ?_⟩
    refine ⟨_, _, rfl, li_sq hb, fun p7 k7 => ?_⟩
    rw [← List.map_reverse] at *
    have l7 : LI (upd H6 p7 (.lst (fd.reverse.map V.int))) p7 fd.reverse := upd_same
    have e07 : Ex H (upd H6 p7 (.lst (fd.reverse.map V.int))) := e03.trans (e6.trans (Evl.Ex.new k7))
    have e17 : Ex H1 (upd H6 p7 (.lst (fd.reverse.map V.int))) := e13.trans (e6.trans (Evl.Ex.new k7))
    generalize (upd H6 p7 (.lst (fd.reverse.map V.int))) = G at *
    clear e6 hb k7 e03 e13
    refine ⟨_, rfl, _, rfl, _, _, _, rfl, rfl, sqt_up hB e07, (by simpa using hne), by omega, by omega, by rw [List.length_map]; omega, fun p8 H8 e8 hp8 => ?_⟩
    rw [Int.toNat_natCast, rep_mapV] at hp8
    refine ⟨_, rfl, ⟨_, hp8⟩, lc_int (src_tup hp8) (by rw [List.length_map, rep_len]; omega) (fun i => (rep t ns).getD i 0 % (p : Int)) (fun i x H' Z hi e it z => ?_) (fun D H9 hD e9 hl => ?_)⟩
    · obtain ⟨rfl, _⟩ := at_map it
      exact ⟨rfl, _, rfl, .inl ⟨_, rfl, _, rfl, _, _, rfl, rfl, by omega, z _ (by walk_at "k76e")⟩⟩
    rw [range_map (fun a => a % (p : Int)) (by rw [List.length_map])] at hl
    refine ⟨_, _, rfl, ?_⟩
    have e09 : Ex H H9 := e07.trans (Evl.Ex.trans e8 e9)
    have e19 : Ex H1 H9 := e17.trans (Evl.Ex.trans e8 e9)
    have l9 : LI H9 p7 fd.reverse := e9 _ _ (e8 _ _ l7)
    clear e8 e9 e07 e17 l7 hp8 hD
    refine ⟨_, rfl, sz0, fun a10 k10 => ?_⟩
    refine ⟨_, _, dp_l (li_sq (own_new k10 l9)), dp_e upd_same, shp_l _, shp_e, _, rfl, ?_⟩
    rw [eqv_e]
    have e0a : Ex H (upd H9 a10 (.lst [])) := e09.trans (Evl.Ex.new k10)
    have e1a : Ex H1 (upd H9 a10 (.lst [])) := e19.trans (Evl.Ex.new k10)
    have la : LI (upd H9 a10 (.lst [])) p7 fd.reverse := own_new k10 l9
    have lD : LI (upd H9 a10 (.lst [])) D ((rep t ns).map fun a => a % (p : Int)) := own_new k10 hl
    generalize (upd H9 a10 (.lst [])) = G2 at *
    clear e09 e19 l9 hl k10
    refine itd (fun h => ?_) (fun h => ?_)
    · have h0 : fd = [] := List.reverse_eq_nil_iff.mp h
      have hl0 : lft p ts = [] := by
        rcases hcase with z | ⟨_, lo, z⟩
        · exact z.1
        · have := z.nz
          rw [h0] at this; exact absurd this (by decide)
      have hz := hasI_zero (p := p) (by omega) (ns := ns) hl0 ht1
      refine ⟨_, rfl, _, _, rfl, li_sq lD, _, rfl, ?_⟩
      refine ite_b (fun h2 => ?_) (fun h2 => ?_)
      · refine q false _ e0a ⟨(fun z => nomatch z), fun z => ?_⟩
        have := z _ (getI hi2)
        rw [hq1, hz] at this
        obtain ⟨v, hv, hv2⟩ := List.any_eq_true.mp h2
        obtain ⟨u, hu, rfl⟩ := List.mem_map.mp hv
        rw [mem_rep ht1] at hu
        rw [this u hu] at hv2
        exact absurd hv2 (by decide)
      · refine ⟨e1a, ⟨_, _, _, _, rfl⟩, fun j hj => ?_⟩
        by_cases c : j = i
        · rw [c, hq1, hz]
          intro v hv
          refine Classical.byContradiction fun z => ?_
          have : (((rep t ns).map fun a => a % (p : Int)).any fun a => !decide (a = 0)) = true := List.any_eq_true.mpr ⟨v % p, List.mem_map.mpr ⟨v, (mem_rep ht1).mpr hv, rfl⟩, by simpa using z⟩
          rw [this] at h2; cases h2
        · exact hall j (by omega)
    · have hr : ∃ lo, PolR p (lft p ts) lo fd := by
        rcases hcase with z | ⟨_, lo, z⟩
        · rw [z.2] at h; exact absurd rfl h
        · exact ⟨lo, z⟩
      obtain ⟨lo, hP⟩ := hr
      obtain ⟨R, hcan, _⟩ := hP.rev hT.asc
      have hfl : fd.length ≤ 10 := hP.len (-4) 10 fun u hu => by
        obtain ⟨_, _, v, hv, e⟩ := lft_mem (show (0 : Int) < p by omega) hu
        have := hT.off v hv
        omega
      have hrl : ((rep t ns).map fun a => a % (p : Int)).length = ns.length * t := by rw [List.length_map, rep_len, Nat.mul_comm]
      have hN2 : ns.length * t ≤ 12000 := by rw [Nat.mul_comm]; exact hN
      refine ⟨_, rfl, _, rfl, _, rfl, _, _, rfl, .inl (li_sq lD), _, rfl, p7, fd.reverse, ns.length * t, p, by rw [lenm, hrl]; rfl, la, hq2, hcan, h, by rw [List.length_reverse]; omega, by omega, fun r11 g H11 e11 hg hG => ?_⟩
      refine ⟨_, rfl, D, r11, _, g, p, rfl, own_up lD e11, hg, hq2, (fun z hz => ?_), hG.can, hG.ne, by rw [hrl]; omega, fun r12 rs H12 e12 hr12 hR => ?_⟩
      · obtain ⟨u, _, rfl⟩ := List.mem_map.mp hz
        exact mod_lt' (by omega)
      have hiff := free_law hq2 R hn ht1 hG hR
      refine ⟨sz0, fun a13 k13 => ?_⟩
      refine ⟨_, _, dp_l (li_sq (own_new k13 hr12)), dp_e upd_same, shp_l _, shp_e, _, rfl, ?_⟩
      rw [eqv_e]
      refine itn (fun h2 => ?_) (fun h2 => ?_)
      · refine q false _ (e0a.trans (e11.trans (e12.trans (Evl.Ex.new k13)))) ⟨(fun z => nomatch z), fun z => absurd ?_ h2⟩
        have := z _ (getI hi2)
        rw [hq1] at this
        exact hiff.mpr this
      · refine ⟨e1a.trans (e11.trans (e12.trans (Evl.Ex.new k13))), ⟨_, _, _, _, rfl⟩, fun j hj => ?_⟩
        by_cases c : j = i
        · rw [c, hq1]; exact hiff.mp h2
        · exact hall j (by omega)
  · obtain ⟨e2, _, hall⟩ := hW
    rw [List.length_map] at hall
    refine q true _ (by walk_at "k76e") ⟨fun _ p hp => ?_, fun _ => rfl⟩
    obtain ⟨j, hj, rfl⟩ := List.getElem_of_mem hp
    have := hall j hj
    rw [List.getD_eq_getElem?_getD, List.getElem?_eq_getElem hj] at this
    exact this
theorem cal_law_hopeless (T : Txt K mg) : C8.Cal P w K mg base 2 "_law_hopeless" (sp_law_hopeless K) [] := by
  have c_law_poly : C8.Cal P w K mg base 1 "_law_poly" (sp_law_poly K) [] := cal_law_poly T
  have c_law_primes : C8.Cal P w K mg base 1 "_law_primes" (sp_law_primes K) [] := cal_law_primes T
  obtain ⟨f, fd, F, df⟩ := T.d_law_hopeless
  refine C8.cal0 F (F.fn.binds df fun _ _ _ _ _ _ us hl => ?bnd) .nil sc_law_hopeless (fun vs H Q E h => ?len) fun cdv A outer s H vs Q E hr h => ?_
  case bnd => obtain ⟨a0, a1, rfl⟩ := ln2 hl; rfl
  case len => first | (obtain ⟨_, rfl, _⟩ := h; rfl) | (obtain ⟨_, _, rfl, _⟩ := h; rfl) | (obtain ⟨_, _, _, rfl, _⟩ := h; rfl) | (obtain ⟨_, _, _, _, rfl, _⟩ := h; rfl) | (obtain ⟨_, _, _, _, _, rfl, _⟩ := h; rfl) | (obtain ⟨_, _, _, _, _, _, rfl, _⟩ := h; rfl) | (obtain ⟨_, _, _, _, _, _, _, rfl, _⟩ := h; rfl) | (obtain ⟨_, _, _, _, _, _, _, _, rfl, _⟩ := h; rfl) | (obtain ⟨_, _, _, _, _, _, _, _, _, rfl, _⟩ := h; rfl) | (obtain ⟨_, _, _, _, _, _, _, _, _, _, rfl, _⟩ := h; rfl) | (obtain ⟨_, _, _, _, _, _, _, _, _, _, _, rfl, _⟩ := h; rfl)
  have sc := sc_law_hopeless
  obtain ⟨a, b, m, ps, ts, ns, rfl, hA, hB, hk, hT, hn12, q⟩ := h
  have L := look_ok hk
  have L3 := L.two
  have hpr := fun j (hj : j < ps.length) => pr_nat (L.pr _ (getI hj))
  obtain ⟨ta, hA1, hA2⟩ := id hA
  refine ⟨_, (pss_cons (ps_for PassesOwn.never rfl (pi_list (C8.pe_c c_law_primes hr (by decide) (by rfl) (pa_cons (pe_ix (ix_tupK (K0 := K)) (pv 0) pe_int (fun _ _ => rfl)) pa_nil))) (pg_name (i := 2) sc.nd rfl (Or.inr rfl)) (pss_one (ps_if (PW.pt (pw_and (pt_cmpR (op_eqD hr.units) (C8.pe_c c_law_poly hr (by decide) (by rfl) (pa_cons (pv 0) (pa_cons (pv 2) pa_nil))) (pe_lst pa_nil) (nomark _)) (pw_and1 (pt_val (pe_callB (cr_anyI rfl) (by rfl) T.b_any (by decide +kernel) (pa_cons (pe_lc (own := [("_law_value", 3)]) (g := (gName 3)) (tt := tYes) rfl sc.nd (pi_tup (pv 1)) (blkOk_by (N := n_law_hopeless) (sc := C8.fnScope s_law_hopeless) (by decide +kernel)) (fun _ _ _ _ _ => (pg_name (i := 3) sc.nd rfl (Or.inl rfl))) (fun _ _ _ _ _ => pts_nil) (fun _ _ _ _ _ => (pe_op op_mod (pe_callTy call_int1 (by rfl) T.b_int (by decide +kernel) (pa_cons (pv 3) pa_nil)) (pv 2)))) pa_nil)))))) (pss_one (ps_ret pe_bl)) pss_nil)))
      (pss_one (ps_ret pe_bl))), ?_⟩
  refine ⟨_, rfl, _, _, _, _, rfl, rfl, hA1, at0, m, ps, rfl, hk, fun r1 H1 e1 h1 => ?_⟩
  refine ⟨_, rfl, ⟨_, li_sq h1⟩, ?_⟩
  refine for_src (src_list h1) (fun i σ H' => Ex H1 H' ∧ (∃ y2 y3, σ = [some (.ref a), some (.ref b), y2, y3]) ∧ ∀ j, j < i → ¬ Hopl (ps.getD j 0) ts ns) ?_ (fun i σ H' hP => hP.1) (fun i x σ H2 H3 hi hW e3 hx => ?_) (fun σ H2 hW => ?_)
  · exact ⟨Evl.Ex.refl _, ⟨none, none, rfl⟩, fun j hj => absurd hj (Nat.not_lt_zero _)⟩
  · obtain ⟨e2, ⟨y2, y3, rfl⟩, hall⟩ := hW
    obtain ⟨hx', hi2⟩ := at_map hx
    obtain ⟨p, hq1, hq2, hq3, hq4⟩ := hpr i hi2
    have hpb := hq2.b
    rw [hq1] at hx'
    subst hx'
    have e03 : Ex H H3 := e1.trans (e2.trans e3)
    have e13 : Ex H1 H3 := e2.trans e3
    clear hx e3 e2
    refine ⟨_, rfl, _, rfl, a, m, ts, p, rfl, hA.up e03, hq2, hT.asc, hT.len, (fun t ht => by have := hT.off t ht; omega), fun b6 fd H6 e6 hb hcase => ?_⟩
    refine ⟨sz0, fun a7 k7 => ?_⟩
    refine ⟨_, _, dp_l (li_sq (own_new k7 hb)), dp_e upd_same, shp_l _, shp_e, _, rfl, ?_⟩
    rw [eqv_e]
    have e07 : Ex H (upd H6 a7 (.lst [])) := e03.trans (e6.trans (Evl.Ex.new k7))
    have e17 : Ex H1 (upd H6 a7 (.lst [])) := e13.trans (e6.trans (Evl.Ex.new k7))
    generalize (upd H6 a7 (.lst [])) = G at *
    clear e6 hb k7 e03 e13
    have hB7 := sqt_up hB e07
    have hnext : ¬ Hopl p ts ns → ∀ j, j < i + 1 → ¬ Hopl (ps.getD j 0) ts ns := fun z j hj => by
      by_cases c : j = i
      · rw [c, hq1]; exact z
      · exact hall j (by omega)
    refine itd (fun h => ?_) (fun h => ?_)
    · have hl0 : lft p ts = [] := by
        rcases hcase with z | ⟨_, lo, z⟩
        · exact z.1
        · have := z.nz
          rw [h] at this; exact absurd this (by decide)
      refine ⟨_, rfl, _, rfl, ⟨_, hB7⟩, lc_int (src_tup hB7) (by rw [List.length_map]; omega) (fun i => ns.getD i 0 % (p : Int)) (fun i x H' Z hi e it z => ?_) (fun D H9 hD e9 hl => ?_)⟩
      · obtain ⟨rfl, _⟩ := at_map it
        exact ⟨rfl, _, rfl, .inl ⟨_, rfl, _, rfl, _, _, rfl, rfl, by omega, z _ (by walk_at "k76e")⟩⟩
      rw [range_map (fun a => a % (p : Int)) (by rw [List.length_map])] at hl
      refine ⟨_, _, rfl, li_sq hl, _, rfl, ?_⟩
      refine ite_b (fun h2 => ?_) (fun h2 => ?_)
      · refine q true _ (e07.trans e9) ⟨fun _ => ⟨_, getI hi2, ?_⟩, fun _ => rfl⟩
        rw [hq1]
        obtain ⟨v, hv, hv2⟩ := List.any_eq_true.mp h2
        obtain ⟨u, hu, rfl⟩ := List.mem_map.mp hv
        exact ⟨hl0, u, hu, by simpa using hv2⟩
      · refine ⟨e17.trans e9, ⟨_, _, rfl⟩, hnext fun ⟨_, v, hv, hv2⟩ => ?_⟩
        have : ((ns.map fun a => a % (p : Int)).any fun a => !decide (a = 0)) = true := List.any_eq_true.mpr ⟨v % p, List.mem_map.mpr ⟨v, hv, rfl⟩, by simpa using hv2⟩
        rw [this] at h2; cases h2
    · refine iteF ⟨e17, ⟨_, _, rfl⟩, hnext fun ⟨z, _⟩ => ?_⟩
      rcases hcase with y | ⟨y, _⟩
      · exact h y.2
      · exact y z
  · obtain ⟨e2, _, hall⟩ := hW
    rw [List.length_map] at hall
    refine q false _ (by walk_at "k76e") ⟨(fun z => nomatch z), fun ⟨p, hp, hh⟩ => ?_⟩
    obtain ⟨j, hj, rfl⟩ := List.getElem_of_mem hp
    refine absurd ?_ (hall j hj)
    rw [List.getD_eq_getElem?_getD, List.getElem?_eq_getElem hj]
    exact hh
theorem cal_law_right (T : Txt K mg) : C8.Cal P w K mg base 6 "_law_right" (sp_law_right K) [] := by
  have c_law_free : C8.Cal P w K mg base 5 "_law_free" (sp_law_free K) [] := cal_law_free T
  have c_law_hopeless : C8.Cal P w K mg base 2 "_law_hopeless" (sp_law_hopeless K) [] := cal_law_hopeless T
  have c_law_step : C8.Cal P w K mg base 1 "_law_step" (sp_law_step K) [] := cal_law_step T
  obtain ⟨f, fd, F, df⟩ := T.d_law_right
  refine C8.cal0 F (F.fn.binds df fun _ _ _ _ _ _ us hl => ?bnd) .nil sc_law_right (fun vs H Q E h => ?len) fun cdv A outer s H vs Q E hr h => ?_
  case bnd => obtain ⟨a0, a1, a2, rfl⟩ := ln3 hl; rfl
  case len => first | (obtain ⟨_, rfl, _⟩ := h; rfl) | (obtain ⟨_, _, rfl, _⟩ := h; rfl) | (obtain ⟨_, _, _, rfl, _⟩ := h; rfl) | (obtain ⟨_, _, _, _, rfl, _⟩ := h; rfl) | (obtain ⟨_, _, _, _, _, rfl, _⟩ := h; rfl) | (obtain ⟨_, _, _, _, _, _, rfl, _⟩ := h; rfl) | (obtain ⟨_, _, _, _, _, _, _, rfl, _⟩ := h; rfl) | (obtain ⟨_, _, _, _, _, _, _, _, rfl, _⟩ := h; rfl) | (obtain ⟨_, _, _, _, _, _, _, _, _, rfl, _⟩ := h; rfl) | (obtain ⟨_, _, _, _, _, _, _, _, _, _, rfl, _⟩ := h; rfl) | (obtain ⟨_, _, _, _, _, _, _, _, _, _, _, rfl, _⟩ := h; rfl)
  have sc := sc_law_right
  obtain ⟨a, b, m, ps, ts, ns, told, rfl, hA, hB, C, hcase, q⟩ := h
  have L := look_ok C.look
  have L1 := L.lo
  have L2 := L.hi
  have hn := List.length_pos_iff.mpr C.ne
  have hn12 := C.n12
  have hT := C.tok
  obtain ⟨ta, hA1, hA2⟩ := id hA
  obtain ⟨vb, hB1, hB2⟩ := id hB
  refine ⟨_, (pss_cons (ps_asg (pv 1) (pg_tup rfl (pgs_cons (pg_name (i := 3) sc.nd rfl (Or.inr rfl)) (pgs_cons (pg_name (i := 4) sc.nd rfl (Or.inr rfl)) pgs_nil))))
      (pss_cons (ps_if (pt_val (C8.pe_c c_law_hopeless hr (by decide) (by rfl) (pa_cons (pv 0) (pa_cons (pv 4) pa_nil)))) (pss_one (ps_ret (pe_cmpR op_isN (pv 2) pe_non (nomark _)))) pss_nil)
      (pss_cons (ps_if (PW.pt (pw_or (pt_not (pt_val (pe_callB (call_isiX (K0 := K)) (by rfl) T.b_isinstance (by decide +kernel) (pa_cons (pv 2) (pa_cons (pe_bltn (v := .ty "tuple") (by rfl) T.b_tuple (by decide +kernel) rfl) pa_nil))))) (pw_or (pt_cmpR op_ne (pe_callB (call_lenK (K0 := K)) (by rfl) T.b_len (by decide +kernel) (pa_cons (pv 2) pa_nil)) pe_int (nomark _)) (pw_or (pt_not (pt_val (pe_callB (call_isiX (K0 := K)) (by rfl) T.b_isinstance (by decide +kernel) (pa_cons (pe_ix (ix_tupK (K0 := K)) (pv 2) pe_int (fun _ _ => rfl)) (pa_cons (pe_bltn (v := .ty "int") (by rfl) T.b_int (by decide +kernel) rfl) pa_nil))))) (pw_or1 (pt_val (pe_callB (call_isiX (K0 := K)) (by rfl) T.b_isinstance (by decide +kernel) (pa_cons (pe_ix (ix_tupK (K0 := K)) (pv 2) pe_int (fun _ _ => rfl)) (pa_cons (pe_bltn (v := .ty "bool") (by rfl) T.b_bool (by decide +kernel) rfl) pa_nil))))))))) (pss_one (ps_ret pe_bl)) pss_nil)
      (pss_cons (ps_asg (pv 2) (pg_tup rfl (pgs_cons (pg_name (i := 5) sc.nd rfl (Or.inr rfl)) (pgs_cons (pg_name (i := 6) sc.nd rfl (Or.inl rfl)) pgs_nil))))
      (pss_cons (ps_if (PW.pt (pw_or (pt_not (pt_chain op_le op_le pe_int (pv 5) pe_int)) (pw_or (pt_not (pt_val (pe_callB (call_isiX (K0 := K)) (by rfl) T.b_isinstance (by decide +kernel) (pa_cons (pv 6) (pa_cons (pe_bltn (v := .ty "tuple") (by rfl) T.b_tuple (by decide +kernel) rfl) pa_nil))))) (pw_or (pt_cmpR op_ne (pe_callB (call_lenK (K0 := K)) (by rfl) T.b_len (by decide +kernel) (pa_cons (pv 6) pa_nil)) pe_int (nomark _)) (pw_or1 (pt_cmpR op_ne (pe_callB SkE.call_repr_int (by rfl) T.b_repr (by decide +kernel) (pa_cons (pe_ix (ix_tupK (K0 := K)) (pv 6) pe_int (fun _ _ => rfl)) pa_nil)) (pe_callB SkE.call_repr_int (by rfl) T.b_repr (by decide +kernel) (pa_cons (pv 3) pa_nil)) (nomark _))))))) (pss_one (ps_ret pe_bl)) pss_nil)
      (pss_cons (ps_if (PW.pt (pw_or (pt_not (pt_val (pe_callB (call_isiX (K0 := K)) (by rfl) T.b_isinstance (by decide +kernel) (pa_cons (pe_ix (ix_tupK (K0 := K)) (pv 6) pe_int (fun _ _ => rfl)) (pa_cons (pe_bltn (v := .ty "tuple") (by rfl) T.b_tuple (by decide +kernel) rfl) pa_nil))))) (pw_or1 (pt_cmpR op_ne (pe_callB (call_lenK (K0 := K)) (by rfl) T.b_len (by decide +kernel) (pa_cons (pe_ix (ix_tupK (K0 := K)) (pv 6) pe_int (fun _ _ => rfl)) pa_nil)) (pe_op op_mul (pv 5) (pe_callB (call_lenK (K0 := K)) (by rfl) T.b_len (by decide +kernel) (pa_cons (pv 4) pa_nil))) (nomark _))))) (pss_one (ps_ret pe_bl)) pss_nil)
      (pss_cons (ps_if (pt_not (pt_val (pe_callB (cr_all rfl) (by rfl) T.b_all (by decide +kernel) (pa_cons (pe_lc (own := [("_law_own", 7)]) (g := (gName 7)) (tt := tYes) rfl sc.nd (pi_tup (pe_ix (ix_tupK (K0 := K)) (pv 6) pe_int (fun _ _ => rfl))) (blkOk_by (N := n_law_right) (sc := C8.fnScope s_law_right) (by decide +kernel)) (fun _ _ _ _ _ => (pg_name (i := 7) sc.nd rfl (Or.inl rfl))) (fun _ _ _ _ _ => pts_nil) (fun _ _ _ _ _ => (pe_and (pe_callB (call_isiX (K0 := K)) (by rfl) T.b_isinstance (by decide +kernel) (pa_cons (pv 7) (pa_cons (pe_bltn (v := .ty "int") (by rfl) T.b_int (by decide +kernel) rfl) pa_nil))) (pe_and (pe_not (pe_callB (call_isiX (K0 := K)) (by rfl) T.b_isinstance (by decide +kernel) (pa_cons (pv 7) (pa_cons (pe_bltn (v := .ty "bool") (by rfl) T.b_bool (by decide +kernel) rfl) pa_nil)))) (pe_one (pe_chain op_le op_lt pe_int (pv 7) (pv 3))))))) pa_nil)))) (pss_one (ps_ret pe_bl)) pss_nil)
      (pss_cons (ps_if (PW.pt (pw_or (pt_cmpR (op_neD hr.units) (C8.pe_c c_law_step hr (by decide) (by rfl) (pa_cons (pv 0) (pa_cons (pe_ix (ix_tupK (K0 := K)) (pv 6) pe_int (fun _ _ => rfl)) pa_nil))) (pe_op op_repA (pv 4) (pv 5)) (nomark _)) (pw_or1 (pt_not (pt_val (C8.pe_c c_law_free hr (by decide) (by rfl) (pa_cons (pv 0) (pa_cons (pv 4) (pa_cons (pv 5) pa_nil))))))))) (pss_one (ps_ret pe_bl)) pss_nil)
      (pss_cons (ps_setLc (i := 8) (own := [("_law_prime", 9)]) (g := (gName 9)) rfl sc.nd rfl rfl (sw_true rfl rfl rfl (by decide +kernel)) (pi_range2 rfl T.b_range (pa_cons pe_int (pa_cons (pe_op op_add (pv 5) pe_int) pa_nil))) (blkOk_by (N := n_law_right) (sc := C8.fnScope s_law_right) (by decide +kernel)) (fun _ _ _ _ _ => (pg_name (i := 9) sc.nd rfl (Or.inl rfl))) (fun _ _ _ _ _ => (pts_one (pt_cmpR op_eq (pe_op op_mod (pe_callTy call_int1 (by rfl) T.b_int (by decide +kernel) (pa_cons (pv 5) pa_nil)) (pv 9)) pe_int (nomark _)))) (fun _ _ _ _ _ => (pe_op op_fdiv (pv 5) (pv 9))))
      (pss_one (ps_ret (pe_not (pe_callB (cr_any rfl) (by rfl) T.b_any (by decide +kernel) (pa_cons (pe_lc (own := [("_law_number", 10)]) (g := (gName 10)) (tt := tYes) rfl sc.nd (pi_list (pv 8)) (blkOk_by (N := n_law_right) (sc := C8.fnScope s_law_right) (by decide +kernel)) (fun _ _ _ _ _ => (pg_name (i := 10) sc.nd rfl (Or.inl rfl))) (fun _ _ _ _ _ => pts_nil) (fun _ _ _ _ _ => (C8.pe_c c_law_free hr (by decide) (by rfl) (pa_cons (pv 0) (pa_cons (pv 4) (pa_cons (pv 10) pa_nil)))))) pa_nil)))))))))))))), ?_⟩
  refine ⟨_, rfl, _, _, rfl, hB1, rfl, _, _, rfl, _, _, rfl, rfl, ?_⟩
  refine ⟨_, rfl, _, rfl, a, vb, m, ps, ts, ns, rfl, hA, hB2, C.look, hT, hn12, fun bb H1 e1 hbb => ?_⟩
  refine ⟨_, rfl, ?_⟩
  refine ite_b (fun h => ?_) (fun h => ?_)
  · have hH := hbb.mp h
    rcases hcase with ⟨_, rfl⟩ | ⟨z, _⟩
    · exact ⟨_, rfl, rfl, q _ e1⟩
    · exact absurd hH z
  have hH : ¬ AnyH ps ts ns := fun z => by rw [hbb.mpr z] at h; cases h
  rcases hcase with ⟨z, _⟩ | ⟨_, t, x, r, tm, ah, rfl, ht, hx, hr2, hLR⟩
  · exact absurd z hH
  have ht1 := sqt_up ht e1
  have hx1 := sqt_up hx e1
  have hr1 := sqt_up hr2 e1
  have hv1 := sqt_up hB2 e1
  have hA1' := hA.up e1
  have t0 := hLR.t0
  have t1 := hLR.t1
  have hahl := hLR.len
  have hN : tm * ns.length ≤ 12000 := Nat.le_trans (Nat.mul_le_mul t1 hn12) (by decide)
  have hlog : m.natAbs.log2 < 1920 := Nat.lt_of_lt_of_le (PySem.Flt.log2_lt_of (k := 10) (by decide) (by omega)) (by decide)
  clear ht hx hr2
  refine ⟨_, rfl, _, _, _, _, _, rfl, .ty _, tyx_t ht1, kit_ty (r := true) (by decide +kernel), _, rfl, iteF ?_⟩
  refine ⟨_, rfl, _, _, rfl, .inr ht1, rfl, _, rfl, itn (fun h => absurd rfl h) (fun _ => ?_)⟩
  refine ⟨_, rfl, _, _, _, _, rfl, rfl, ht1, at0, _, _, _, _, _, rfl, .ty _, .base (.int _), kit_ty (r := true) (by decide +kernel), _, rfl, iteF ?_⟩
  refine ⟨_, rfl, _, _, _, _, rfl, rfl, ht1, at0, _, _, _, _, _, rfl, .ty _, .base (.int _), kit_ty (r := false) (by decide +kernel), _, rfl, iteF ?_⟩
  refine ⟨_, rfl, _, _, rfl, ht1, rfl, _, _, rfl, _, _, rfl, rfl, ?_⟩
  refine ⟨_, rfl, _, _, rfl, rfl, _, rfl, itd (fun _ => ?_) (fun h => absurd (by omega) h)⟩
  refine ⟨_, _, rfl, rfl, _, rfl, itn (fun h => absurd (by omega) h) (fun _ => ?_)⟩
  refine ⟨_, rfl, _, _, _, _, _, rfl, .ty _, tyx_t hx1, kit_ty (r := true) (by decide +kernel), _, rfl, iteF ?_⟩
  refine ⟨_, rfl, _, _, rfl, .inr hx1, rfl, _, rfl, itn (fun h => absurd rfl h) (fun _ => ?_)⟩
  refine ⟨_, rfl, _, _, _, _, rfl, rfl, hx1, at0, _, rfl, hlog, _, rfl, _, rfl, hlog, rfl, _, rfl, itn (fun h => absurd rfl h) (fun _ => ?_)⟩
  refine ⟨_, rfl, _, _, _, _, rfl, rfl, hx1, at1, _, _, _, _, _, rfl, .ty _, tyx_t hr1, kit_ty (r := true) (by decide +kernel), _, rfl, iteF ?_⟩
  refine ⟨_, rfl, _, _, _, _, rfl, rfl, hx1, at1, _, _, rfl, .inr hr1, _, rfl, _, rfl, _, _, rfl, .inr hv1, _, _, rfl, rfl, cmul_s (by omega), rfl, _, rfl, itn (fun h => absurd (congrArg V.int (by rw [lenm, lenm, hahl, Int.natCast_mul])) h) (fun _ => ?_)⟩
  refine ⟨_, rfl, _, _, _, _, rfl, rfl, hx1, at1, _, rfl, ⟨_, hr1⟩, lc_bl (src_tup hr1) (by rw [List.length_map]; omega) (fun i => true) (fun i x H' Z hi e it z => ?_) (fun D H2 hD e2 hl => ?_)⟩
  · obtain ⟨rfl, hi2⟩ := at_map it
    have hg := hLR.rg.get hi2
    refine ⟨rfl, _, rfl, _, _, _, _, _, rfl, .ty _, .base (.int _), kit_ty (r := true) (by decide +kernel), _, rfl, iteT ?_⟩
    refine ⟨_, rfl, _, _, _, _, _, rfl, .ty _, .base (.int _), kit_ty (r := false) (by decide +kernel), _, rfl, _, rfl, iteT ?_⟩
    refine ⟨_, rfl, _, _, rfl, rfl, _, rfl, itd (fun _ => ?_) (fun h => absurd hg.1 h)⟩
    refine ⟨_, rfl, _, _, rfl, rfl, ?_⟩
    dsimp only
    rw [decide_eq_true hg.2]
    exact z _ (by walk_at "k76e")
  refine ⟨_, _, rfl, li_sq hl, _, rfl, ?_⟩
  have e0 : (((List.range (ah.map V.int).length).map fun _ => true).all id) = true := by simp
  rw [e0]
  refine iteF ?_
  have hA2' := hA1'.up e2
  have e02 : Ex H H2 := e1.trans e2
  refine ⟨_, rfl, _, rfl, _, _, _, _, rfl, rfl, sqt_up hx1 e2, at1, a, r, m, ts, ah, rfl, hA2', sqt_up hr1 e2, L1, L2, hT.len, hT.val, (fun z => by rw [z] at hahl; have := Nat.mul_pos t0 hn; have h0 : ([] : List Int).length = 0 := rfl; omega), by omega, fun r3 H3 e3 h3 => ?_⟩
  refine ⟨_, rfl, _, rfl, _, _, _, rfl, rfl, sqt_up hv1 (e2.trans e3), (by simpa using C.ne), by omega, by omega, by rw [List.length_map]; omega, fun p4 H4 e4 hp4 => ?_⟩
  rw [Int.toNat_natCast, rep_mapV] at hp4
  refine ⟨_, _, dp_t (sqt_up h3 e4), dp_t hp4, shp_t _, shp_t _, _, rfl, ?_⟩
  have hstep : ((List.range ah.length).map fun (i : Nat) => stp ts ah i % m) = rep tm ns := by
    apply List.ext_getElem
    · rw [List.length_map, List.length_range, rep_len, hahl]
    · intro i h1 h2
      rw [rep_len] at h2
      have h4 := hLR.stp i h2
      have h5 := rep_get ns tm i h2
      rw [List.getD_eq_getElem?_getD, List.getElem?_eq_getElem (by rw [rep_len]; exact h2)] at h5
      rw [List.getElem_map, List.getElem_range, h4, ← h5]; rfl
  rw [eqv_t, decide_eq_true hstep]
  refine iteF ?_
  have e04 : Ex H H4 := e02.trans (Evl.Ex.trans e3 e4)
  clear e3 e2 e1 hp4 h3 hl hD e02 hA2' hA1' hv1 hr1 hx1 ht1
  refine ⟨_, rfl, _, rfl, _, rfl, a, vb, m, ps, ts, ns, tm, rfl, hA.up e04, sqt_up hB2 e04, C.look, hT, C.ne, hn12, t0, t1, fun b5 H5 e5 hb5 => ?_⟩
  have hb5' : b5 = true := hb5.mpr hLR.free
  subst hb5'
  refine ⟨_, rfl, iteF ?_⟩
  have e05 := e04.trans e5
  refine ⟨_, rfl, _, _, rfl, rfl, _, _, rfl, ⟨by omega, by omega, by omega, by omega⟩, lc_src src_rng (by omega) (fun i acc _ => ∃ us : List Int, acc = us.map V.int ∧ us.length ≤ i ∧ ∀ u ∈ us, ∃ d : Nat, d ∣ tm ∧ 1 < d ∧ u = ((tm / d : Nat) : Int)) (fun _ => ⟨[], rfl, Nat.zero_le _, (fun u hu => absurd hu (by simp))⟩) (fun _ _ _ _ h _ => h) (fun i x acc H' Z Z' hi e hPd it z z' => ?_) (fun D H6 acc hD e6 hl6 hPd => ?_)⟩
  · obtain ⟨us, rfl, hul, hus⟩ := hPd
    subst it
    refine ⟨rfl, _, rfl, .inl ⟨_, rfl, _, rfl, _, _, rfl, rfl, by omega, rfl, _, rfl, ?_⟩⟩
    refine itd (fun h => ?_) (fun h => ?_)
    · have h1 := V.int.inj h
      refine ⟨_, rfl, _, rfl, _, _, rfl, rfl, ⟨by omega, by omega⟩, z _ _ (by walk_at "k76e") ⟨us ++ [(tm : Int) / (2 + (i : Int))], by rw [List.map_append]; rfl, by rw [List.length_append]; show _ + 1 ≤ _; omega, fun u hu => ?_⟩⟩
      rcases List.mem_append.mp hu with y | y
      · exact hus u y
      · refine ⟨i + 2, ?_, by omega, ?_⟩
        · rw [show (2 : Int) + (i : Int) = ((i + 2 : Nat) : Int) by omega] at h1
          exact Int.natCast_dvd_natCast.mp (Int.dvd_of_emod_eq_zero h1)
        · rw [List.mem_singleton.mp y, Int.natCast_ediv]
          congr 1
          omega
    · exact z' _ (by walk_at "k76e") ⟨us, rfl, by omega, hus⟩
  · obtain ⟨us, rfl, hul, hus⟩ := hPd
    have e06 := e05.trans e6
    refine ⟨_, rfl, _, rfl, ⟨_, li_sq hl6⟩, lc_bl (src_list hl6) (by rw [List.length_map]; omega) (fun i => false) (fun i x H' Z hi e it z => ?_) (fun D7 H7 hD7 e7 hl7 => ?_)⟩
    · obtain ⟨rfl, hi2⟩ := at_map it
      obtain ⟨d, hd, hd1, hu⟩ := hus _ (getI hi2)
      have e0' := e06.trans e
      have hdp := Nat.div_pos (Nat.le_of_dvd (by omega) hd) (by omega)
      have hdl := Nat.div_le_self tm d
      rw [hu]
      refine ⟨rfl, _, rfl, _, rfl, _, rfl, a, vb, m, ps, ts, ns, tm / d, rfl, hA.up e0', sqt_up hB2 e0', C.look, hT, C.ne, hn12, hdp, by omega, fun b8 H8 e8 hb8 => ?_⟩
      have : b8 = false := by
        cases b8 with
        | false => rfl
        | true =>
          obtain ⟨p, hp, hno⟩ := hLR.least d hd hd1
          exact absurd (hb8.mp rfl p hp) hno
      subst this
      exact z _ e8
    · refine ⟨_, _, rfl, li_sq hl7, _, rfl, ?_⟩
      have e9 : (((List.range (us.map V.int).length).map fun _ => false).any id) = false := by simp
      rw [e9]
      exact q _ (e06.trans e7)
end
end K76
namespace K76
open PySem PySem.Spec PyProof.Rows L2

theorem Xj.rule {K : PySem.W.Frag} {H H' : Hp} {a b : Addr} {c : Nat} {m : Int} {ts : List (Int × Int)} (h : Xj a H H') (j : Jar H a c) (hR : RuleV K H b m ts) : RuleV K H' b m ts := by
  obtain ⟨x, h1, xs, h2, h3, h4⟩ := hR
  refine ⟨x, h.tu j h1, xs, h.tu j h2, h3, fun i hi => ?_⟩
  obtain ⟨U, h5, h6⟩ := h4 i hi
  exact ⟨U, h5, h.tu j h6⟩
def aF (p : Int) : Nat := if p = 2 then 4 else if p = 3 ∨ p = 5 ∨ p = 7 then 2 else 1
theorem fit_tab : ∀ e ∈ tabE, PE e.2 (fun j => aF (e.2.getD j 0)) e.2.length ≤ 1000 ∧ ∀ p ∈ e.2, 9 ≤ p.toNat ^ aF p ∧ p.toNat ^ aF p ≤ 400 := by decide +kernel
theorem mostI_le (m n : Int) : mostI m n ≤ 8 := by
  unfold mostI
  split
  · decide
  · split <;> decide
theorem case_ok {m : Int} {ps : List Int} {ts : List (Int × Int)} {ns : List Int} {w : Nat} (hk : look m = some ps) (hT : TOk m ts) (hr : Rg m ns) (h1 : 1 ≤ ns.length) (h2 : ns.length ≤ 12) (hw : w ≤ 8) (hs : ∃ lo : Int, ∀ t ∈ ts, lo ≤ t.1 ∧ t.1 < lo + (w + 1 : Nat)) : CaseR m ps ts ns := by
  obtain ⟨h3, h4⟩ := fit_tab _ (look_mem hk)
  obtain ⟨lo, hs⟩ := hs
  refine ⟨hk, hT, hr, (fun z => by rw [z] at h1; exact absurd h1 (by decide)), h2, fun j => aF (ps.getD j 0), fun j hj => ⟨⟨lo, w + 1, hs, ?_⟩, (h4 _ (getI hj)).2⟩, h3⟩
  have := (h4 _ (getI hj)).1
  have e : (m, ps).2 = ps := rfl
  rw [e] at this
  show w + 1 ≤ (ps.getD j 0).toNat ^ aF (ps.getD j 0)
  omega
def spLaw (K : PySem.W.Frag) : Sp := fun vs H Q _ => ∃ (a : Addr) (ns : List Int), vs = [.ref a] ∧ SqL K H a (ns.map V.int) ∧ ns.length ≤ 63 ∧ ∀ H', Q (.bl true) H'
def sp_law (K : PySem.W.Frag) : Sp := spLaw K
theorem tok_parts {m r : Int} (hm : 2 ≤ m) (h0 : 0 ≤ r) (h1 : r < m - 1) : TOk m [(0, 1), (1, 1 + r)] := by
  refine ⟨by show 2 ≤ 20; decide, fun t ht => ?_, ?_, fun t ht => ?_⟩
  · rcases List.mem_cons.mp ht with rfl | ht
    · show 1 ≤ (1 : Int) ∧ (1 : Int) < m; omega
    · rw [List.mem_singleton.mp ht]; show 1 ≤ 1 + r ∧ 1 + r < m; omega
  · show List.Pairwise _ _
    simp
  · rcases List.mem_cons.mp ht with rfl | ht
    · decide
    · rw [List.mem_singleton.mp ht]; show -4 ≤ (1 : Int) ∧ (1 : Int) ≤ 5; decide
section
variable {P : Program} {w : World} {K : PySem.W.Frag} {mg : Str → Option Value} {base : Heap}
theorem cal_least_ahead (T : Txt K mg) : C8.Cal P w K mg base 8 "least_ahead" (sp_least_ahead K) [] := by
  obtain ⟨f, fd, F, df⟩ := T.d_least_ahead
  exact ⟨f, fd, p_least_ahead, [], fn_least_ahead T F, F.mgf, F.kp, F.fn.binds df fun _ _ _ _ _ _ us hl => by obtain ⟨a0, a1, rfl⟩ := ln2 hl; rfl, .nil⟩
theorem calK_least_ahead (T : Txt K mg) : CalK P w K mg base 8 "least_ahead" ["row", "rule"] (sp_least_ahead K) := by
  obtain ⟨f, fd, F, df⟩ := T.d_least_ahead
  refine ⟨f, fd, p_least_ahead, fn_least_ahead T F, F.mgf, F.kp, ⟨fun s us ws _ hl => ?_, sw_rel⟩⟩
  obtain ⟨oc, od, dV, kV, doc, pm, an, cdv, ct, osl, rfl, lk, hcd⟩ := F.fn.ex
  have e : dV = .none := df
  subst e
  match us, ws, hl with
  | [], [a, b], _ => exact .of_eq rfl
  | [], [], hl => cases hl
  | [], [_], hl => cases hl
  | [], _ :: _ :: _ :: _, hl => cases hl
  | _ :: _, _, hl => cases hl
theorem fn_law (T : Txt K mg) {f : Addr} {fd : FuncData} (F : C8.Def K mg "law" s_law f fd) : FnOk P w K mg base C8.CX0 9 f fd p_law (sp_law K) := by
  have c_law_jar : C8.Cal P w K mg base 1 "_law_jar" (sp_law_jar K) [] := cal_law_jar T
  have c_law_modulus : C8.Cal P w K mg base 2 "_law_modulus" (sp_law_modulus K) [] := cal_law_modulus T
  have c_law_most : C8.Cal P w K mg base 1 "_law_most" (sp_law_most K) [] := cal_law_most T
  have c_law_right : C8.Cal P w K mg base 6 "_law_right" (sp_law_right K) [] := cal_law_right T
  have c_law_rule : C8.Cal P w K mg base 2 "_law_rule" (sp_law_rule K) [] := cal_law_rule T
  have c_law_step : C8.Cal P w K mg base 1 "_law_step" (sp_law_step K) [] := cal_law_step T
  have c_law_take : C8.Cal P w K mg base 1 "_law_take" (sp_law_take K) [] := cal_law_take T
  have c_law_values : C8.Cal P w K mg base 2 "_law_values" (sp_law_values K) [] := cal_law_values T
  have c_least_ahead : C8.Cal P w K mg base 8 "least_ahead" (sp_least_ahead K) [] := cal_least_ahead T
  refine C8.fn0 F.fn sc_law (fun vs H Q E h => ?len) fun cdv A outer s H vs Q E hr h => ?_
  case len => first | (obtain ⟨_, rfl, _⟩ := h; rfl) | (obtain ⟨_, _, rfl, _⟩ := h; rfl) | (obtain ⟨_, _, _, rfl, _⟩ := h; rfl) | (obtain ⟨_, _, _, _, rfl, _⟩ := h; rfl) | (obtain ⟨_, _, _, _, _, rfl, _⟩ := h; rfl) | (obtain ⟨_, _, _, _, _, _, rfl, _⟩ := h; rfl) | (obtain ⟨_, _, _, _, _, _, _, rfl, _⟩ := h; rfl) | (obtain ⟨_, _, _, _, _, _, _, _, rfl, _⟩ := h; rfl) | (obtain ⟨_, _, _, _, _, _, _, _, _, rfl, _⟩ := h; rfl) | (obtain ⟨_, _, _, _, _, _, _, _, _, _, rfl, _⟩ := h; rfl) | (obtain ⟨_, _, _, _, _, _, _, _, _, _, _, rfl, _⟩ := h; rfl)
  have sc := sc_law
  have ck_least_ahead : CalK P w K mg base 8 "least_ahead" ["row", "rule"] (sp_least_ahead K) := calK_least_ahead T
  obtain ⟨a, ns, rfl, hS, hz, q⟩ := h
  refine ⟨_, (pss_cons (ps_for PassesOwn.never rfl (pi_range1 rfl T.b_range (pa_cons (pe_callB (call_max2 rfl) (by rfl) T.b_max (by decide +kernel) (pa_cons pe_int (pa_cons (pe_callB (call_min2 rfl) (by rfl) T.b_min (by decide +kernel) (pa_cons pe_int (pa_cons (pe_callB (call_lenK (K0 := K)) (by rfl) T.b_len (by decide +kernel) (pa_cons (pv 0) pa_nil)) pa_nil))) pa_nil))) pa_nil)) (pg_name (i := 1) sc.nd rfl (Or.inl rfl)) (pss_cons (ps_set (i := 2) sc.nd rfl (Or.inl rfl) (C8.pe_c c_law_jar hr (by decide) (by rfl) (pa_cons (pv 0) (pa_cons (pv 1) pa_nil))))
      (pss_cons (ps_set (i := 3) sc.nd rfl (Or.inl rfl) (C8.pe_c c_law_modulus hr (by decide) (by rfl) (pa_cons (pv 2) pa_nil)))
      (pss_cons (ps_set (i := 4) sc.nd rfl (Or.inl rfl) (pe_ix (ix_listK (K0 := K)) (pe_lst (pa_cons pe_int (pa_cons pe_int (pa_cons (pe_op op_add pe_int (C8.pe_c c_law_take hr (by decide) (by rfl) (pa_cons (pv 2) (pa_cons pe_int pa_nil)))) (pa_cons (pe_op op_add pe_int (C8.pe_c c_law_take hr (by decide) (by rfl) (pa_cons (pv 2) (pa_cons pe_int pa_nil)))) (pa_cons pe_int (pa_cons pe_int pa_nil))))))) (C8.pe_c c_law_take hr (by decide) (by rfl) (pa_cons (pv 2) (pa_cons pe_int pa_nil))) (fun _ _ => rfl)))
      (pss_cons (ps_set (i := 5) sc.nd rfl (Or.inl rfl) (C8.pe_c c_law_rule hr (by decide) (by rfl) (pa_cons (pv 2) (pa_cons (pv 3) (pa_cons (C8.pe_c c_law_most hr (by decide) (by rfl) (pa_cons (pv 3) (pa_cons (pv 4) pa_nil))) pa_nil)))))
      (pss_cons (ps_set (i := 6) sc.nd rfl (Or.inl rfl) (C8.pe_c c_law_values hr (by decide) (by rfl) (pa_cons (pv 2) (pa_cons (pv 3) (pa_cons (pv 4) pa_nil)))))
      (pss_cons (ps_set (i := 7) sc.nd rfl (Or.inl rfl) (pe_tup (pa_cons (pv 3) (pa_cons (pe_tup (pa_cons (pe_tup (pa_cons pe_int (pa_cons pe_int pa_nil))) (pa_cons (pe_tup (pa_cons pe_int (pa_cons (pe_op op_add pe_int (C8.pe_c c_law_take hr (by decide) (by rfl) (pa_cons (pv 2) (pa_cons (pe_op op_sub (pv 3) pe_int) pa_nil)))) pa_nil))) pa_nil))) pa_nil))))
      (pss_cons (ps_set (i := 8) sc.nd rfl (Or.inl rfl) (pv 6))
      (pss_cons (ps_for PassesOwn.never rfl (pi_range1 rfl T.b_range (pa_cons (C8.pe_c c_law_take hr (by decide) (by rfl) (pa_cons (pv 2) (pa_cons pe_int pa_nil))) pa_nil)) (pg_name (i := 9) sc.nd rfl (Or.inl rfl)) (pss_one (ps_set (i := 8) sc.nd rfl (Or.inl rfl) (C8.pe_c c_law_step hr (by decide) (by rfl) (pa_cons (pv 7) (pa_cons (pv 8) pa_nil))))))
      (pss_cons (ps_for PassesOwn.never rfl (pi_list (pe_lst (pa_cons (pv 6) (pa_cons (pv 8) pa_nil)))) (pg_name (i := 10) sc.nd rfl (Or.inl rfl)) (pss_one (ps_if (pt_not (pt_val (C8.pe_c c_law_right hr (by decide) (by rfl) (pa_cons (pv 5) (pa_cons (pe_tup (pa_cons (pv 3) (pa_cons (pv 10) pa_nil))) (pa_cons (C8.pe_c c_least_ahead hr (by decide) (by rfl) (pa_cons (pv 5) (pa_cons (pe_tup (pa_cons (pv 3) (pa_cons (pv 10) pa_nil))) pa_nil))) pa_nil)))))) (pss_one (ps_ret pe_bl)) pss_nil)))
      (pss_one (ps_if (pt_not (pt_val (C8.pe_c c_law_right hr (by decide) (by rfl) (pa_cons (pv 5) (pa_cons (pe_tup (pa_cons (pv 3) (pa_cons (pv 6) pa_nil))) (pa_cons (pe_cK ck_least_ahead hr (by decide) (by rfl) (pk_cons (pe_tup (pa_cons (pv 3) (pa_cons (pv 6) pa_nil))) (pk_cons (pv 5) pk_nil))) pa_nil)))))) (pss_one (ps_ret pe_bl)) pss_nil))))))))))))
      (pss_one (ps_ret pe_bl))), ?_⟩
  refine ⟨_, rfl, _, _, rfl, .inl hS, _, _, rfl, _, _, rfl, _, rfl, ?_, ?_, ?_⟩
  · split <;> split <;> omega
  · rw [lenm]; split <;> split <;> omega
  obtain ⟨v, hv⟩ : ∃ v : Nat, (if (if ((ns.map V.int).length : Int) < 2 then ((ns.map V.int).length : Int) else 2) > 1 then (if ((ns.map V.int).length : Int) < 2 then ((ns.map V.int).length : Int) else 2) else 1).toNat = v := ⟨_, rfl⟩
  have hv2 : v ≤ 2 := by rw [← hv]; split <;> split <;> omega
  refine for_src (src_rng (B := fun _ => none) (lo := 0) (n := (if (if ((ns.map V.int).length : Int) < 2 then ((ns.map V.int).length : Int) else 2) > 1 then (if ((ns.map V.int).length : Int) < 2 then ((ns.map V.int).length : Int) else 2) else 1).toNat)) (fun i σ G => Ex H G ∧ ∃ y1 y2 y3 y4 y5 y6 y7 y8 y9 y10, σ = [some (.ref a), y1, y2, y3, y4, y5, y6, y7, y8, y9, y10]) ?_ (fun i σ G hP => ExB _) (fun i x σ H2 H3 hi hW e3 hx3 => ?_) (fun σ G hW => ?_)
  · exact ⟨Evl.Ex.refl _, none, none, none, none, none, none, none, none, none, none, rfl⟩
  · rw [hv] at hi
    obtain ⟨e2, y1, y2, y3, y4, y5, y6, y7, y8, y9, y10, rfl⟩ := hW
    have hx' : x = .int (i : Nat) := hx3.trans (congrArg V.int (by omega))
    subst hx'
    have e03 : Ex H H3 := e2.trans e3
    clear hx3 e3 e2
    refine ⟨_, rfl, _, rfl, a, ns, i, rfl, Evl.ex_l e03 hS, hz, by omega, fun j H4 e4 n4 j4 => ?_⟩
    have nj : H j = none := fr_dn n4 e03
    have e04 : Ex H H4 := e03.trans e4
    refine ⟨_, rfl, j, 0, rfl, j4, by decide, fun m ps H5 x5 j5 hk => ?_⟩
    have L := look_ok hk
    have L1 := L.lo
    have L2 := L.hi
    refine ⟨_, rfl, j, 12, _, rfl, j5, by decide, by decide, by decide, fun r6 H6 x6 j6 r60 r61 => ?_⟩
    refine ⟨_, _, rfl, rfl, _, rfl, j, 3, _, rfl, j6, by decide, by decide, by decide, fun r7 H7 x7 j7 r70 r71 => ?_⟩
    refine ⟨_, _, rfl, rfl, Evl.sz_of (by show 6 ≤ 100000; decide), fun p8 k8 => ?_⟩
    refine ⟨_, rfl, j, 6, _, rfl, j7.upd k8, by decide, by decide, by decide, fun r9 H9 x9 j9 r90 r91 => ?_⟩
    have l8 : LI H9 p8 [12, 11, 1 + r6, 1 + r7, 9, 10] := x9 _ _ (j7.ne k8) upd_same
    refine ⟨_, _, _, _, rfl, rfl, li_sq l8, atI_int r90 r91, ?_⟩
    have hnb : 1 ≤ ([12, 11, 1 + r6, 1 + r7, 9, 10] : List Int).getD r9.toNat 0 ∧ ([12, 11, 1 + r6, 1 + r7, 9, 10] : List Int).getD r9.toNat 0 ≤ 12 := by
      have := getI (ns := [12, 11, 1 + r6, 1 + r7, 9, 10]) (i := r9.toNat) (by show _ < 6; omega)
      simp only [List.mem_cons, List.not_mem_nil, or_false] at this
      omega
    generalize ([12, 11, 1 + r6, 1 + r7, 9, 10] : List Int).getD r9.toNat 0 = nv at *
    obtain ⟨n, rfl⟩ : ∃ n : Nat, nv = (n : Int) := ⟨nv.toNat, by omega⟩
    have x49 : Xj j H4 H9 := (((x5.trans x6).trans x7).trans (exj (Evl.Ex.new k8) j)).trans x9
    have e09 : Ex H H9 := x49.ex e04 nj
    clear x49 l8 k8 x9 x7 x6 x5 e04 e4 n4 j4 j5 j6 j7
    refine ⟨_, rfl, _, rfl, _, rfl, _, rfl, m, n, rfl, fun H10 e10 => ?_⟩
    have hw8 := mostI_le m n
    refine ⟨j, m, mostI m n, _, rfl, j9.up e10, by decide, L1, L2, hw8, fun ra ts H11 x11 j11 hR hT hsp => ?_⟩
    have e011 : Ex H H11 := (Xj.trans (exj e10 j) x11).ex e09 nj
    refine ⟨_, rfl, _, rfl, _, rfl, j, m, n, _, rfl, j11, by decide, L1, L2, by omega, by omega, fun fa fs H12 x12 j12 hF hfl hfr => ?_⟩
    have hR12 := x12.rule j11 hR
    have e012 : Ex H H12 := x12.ex e011 nj
    clear x12 j11 hR e011 x11 e10 e09 j9
    refine ⟨_, rfl, sz2, fun p0 k0 => ?_⟩
    refine ⟨_, rfl, _, rfl, _, _, rfl, rfl, j, m - 1, _, rfl, j12.upd k0, by decide, by omega, by omega, fun r13 H13 x13 j13 r130 r131 => ?_⟩
    have x1213 : Xj j H12 H13 := (exj (Evl.Ex.new k0) j).trans x13
    have t0 : SqT K H13 p0 [.int 0, .int 1] := x13.tu (j12.upd k0) (Evl.st_of upd_same)
    have hR13 := x1213.rule j12 hR12
    have hF13 := x1213.tu j12 hF
    have e013 : Ex H H13 := x1213.ex e012 nj
    clear x1213 x13 k0 hR12 hF e012 j12
    refine ⟨_, _, rfl, rfl, sz2, fun p1 k1 => ?_⟩
    refine ⟨sz2, fun p2 k2 => ?_⟩
    refine ⟨sz2, fun p3 k3 => ?_⟩
    have eC : Ex H13 (upd (upd (upd H13 p1 (.tup [.int 1, .int (1 + r13)])) p2 (.tup [.ref p0, .ref p1])) p3 (.tup [.int m, .ref p2])) := by walk_at "k76e"
    have hP : RuleV K (upd (upd (upd H13 p1 (.tup [.int 1, .int (1 + r13)])) p2 (.tup [.ref p0, .ref p1])) p3 (.tup [.int m, .ref p2])) p3 m [(0, 1), (1, 1 + r13)] := by
      refine ⟨p2, Evl.st_of upd_same, [.ref p0, .ref p1], Evl.st_of (own_new k3 upd_same), rfl, fun i hi => ?_⟩
      match i, hi with
      | 0, _ => exact ⟨p0, rfl, sqt_up t0 eC⟩
      | 1, _ => exact ⟨p1, rfl, Evl.st_of (own_new k3 (own_new k2 upd_same))⟩
      | i + 2, hi => exact absurd hi (by simp)
    have jC := j13.up eC
    have hRC := hR13.up eC
    have hFC := sqt_up hF13 eC
    have e0C := e013.trans eC
    generalize (upd (upd (upd H13 p1 (.tup [.int 1, .int (1 + r13)])) p2 (.tup [.ref p0, .ref p1])) p3 (.tup [.int m, .ref p2])) = C at *
    clear eC t0 hR13 hF13 e013 k1 k2 k3 j13
    refine ⟨_, rfl, ?_⟩
    refine ⟨_, rfl, j, 5, _, rfl, jC, by decide, by decide, by decide, fun r14 H14 x14 j14 r140 r141 => ?_⟩
    have hR14 := x14.rule jC hRC
    have hF14 := x14.tu jC hFC
    have hP14 := x14.rule jC hP
    have e014 := x14.ex e0C nj
    clear x14 jC hRC hFC hP e0C j14
    have hTP := tok_parts L1 r130 r131
    refine ⟨_, rfl, by omega, by omega, ?_⟩
    refine for_src (src_rng (B := fun _ => none) (lo := 0) (n := r14.toNat)) (fun k σ G => Ex H14 G ∧ ∃ y9 y10 se ss, σ = [some (.ref a), some (.int (i : Nat)), some (.ref j), some (.int m), some (.int n), some (.ref ra), some (.ref fa), some (.ref p3), some (.ref se), y9, y10] ∧ TI K G se ss ∧ ss.length = n ∧ Rg m ss) ?_ (fun i σ G hP => ExB _) (fun k x σ H15 H16 hk2 hW e16 hx16 => ?_) (fun σ G hW => ?_)
    · exact ⟨Evl.Ex.refl _, _, _, fa, fs, rfl, hF14, hfl, hfr⟩
    · obtain ⟨e15, y9, y10, se, ss, rfl, hse, hsl, hsr⟩ := hW
      have e1416 : Ex H14 H16 := e15.trans e16
      refine ⟨_, rfl, _, rfl, p3, se, m, _, ss, rfl, hP14.up e1416, sqt_up hse e16, L1, L2, hTP.len, hTP.val, (fun z => by rw [z] at hsl; have : ([] : List Int).length = 0 := rfl; omega), by omega, fun r17 H17 e17 h17 => ?_⟩
      refine ⟨e1416.trans e17, _, _, r17, _, rfl, h17, by rw [List.length_map, List.length_range]; exact hsl, fun z hz => ?_⟩
      obtain ⟨k2, _, rfl⟩ := List.mem_map.mp hz
      exact mod_lt' (by omega)
    · obtain ⟨e15, y9, y10, se, ss, rfl, hse, hsl, hsr⟩ := hW
      have e0G := e014.trans e15
      have hRG := hR14.up e15
      have hFG := sqt_up hF14 e15
      clear e014 e15 hR14 hF14 hP14
      have hCf := case_ok hk hT hfr (by omega) (by omega) hw8 hsp
      have hCs := case_ok hk hT hsr (by omega) (by omega) hw8 hsp
      refine ⟨_, rfl, _, rfl, sz2, fun D kD => ?_⟩
      have eD := Evl.Ex.new (o := .lst [V.ref fa, V.ref se]) kD
      have lD : (upd G D (.lst [V.ref fa, V.ref se])) D = some (.lst [V.ref fa, V.ref se]) := upd_same
      have hRD := hRG.up eD
      have hFD := sqt_up hFG eD
      have hsD := sqt_up hse eD
      have e0D := e0G.trans eD
      generalize (upd G D (.lst [V.ref fa, V.ref se])) = B at *
      clear eD hRG hFG hse e0G kD
      refine ⟨_, rfl, ⟨_, li_sq lD⟩, ?_⟩
      refine for_src (src_list lD) (fun k σ G => Ex B G ∧ ∃ y9 y10, σ = [some (.ref a), some (.int (i : Nat)), some (.ref j), some (.int m), some (.int n), some (.ref ra), some (.ref fa), some (.ref p3), some (.ref se), y9, y10]) ?_ (fun i σ G hP => hP.1) (fun k x σ H15 H16 hk2 hW e16 hx16 => ?_) (fun σ G hW => ?_)
      · exact ⟨Evl.Ex.refl _, _, _, rfl⟩
      · obtain ⟨e15, y9, y10, rfl⟩ := hW
        have eB := e15.trans e16
        have hit : ∃ (va : Addr) (vs : List Int), x = .ref va ∧ TI K B va vs ∧ CaseR m ps ts vs := by
          match k, hx16 with
          | 0, h => exact ⟨fa, fs, (Option.some.inj h).symm, hFD, hCf⟩
          | 1, h => exact ⟨se, ss, (Option.some.inj h).symm, hsD, hCs⟩
          | k + 2, h => cases h
        obtain ⟨va, vs, rfl, hva, hCv⟩ := hit
        clear hx16 e16 e15
        have hvG := sqt_up hva eB
        refine ⟨_, rfl, _, rfl, _, rfl, sz2, fun q1 k1 => ?_⟩
        refine ⟨_, rfl, _, rfl, _, rfl, sz2, fun q2 k2 => ?_⟩
        have eU := Evl.Ex.trans (Evl.Ex.new (o := .tup [V.int m, V.ref va]) k1) (Evl.Ex.new (o := .tup [V.int m, V.ref va]) k2)
        have hr1 : RowV K (upd (upd H16 q1 (.tup [V.int m, V.ref va])) q2 (.tup [V.int m, V.ref va])) q1 m vs := ⟨va, Evl.st_of (own_new k2 upd_same), sqt_up hvG eU⟩
        have hr2 : RowV K (upd (upd H16 q1 (.tup [V.int m, V.ref va])) q2 (.tup [V.int m, V.ref va])) q2 m vs := ⟨va, Evl.st_of upd_same, sqt_up hvG eU⟩
        have eBU := eB.trans eU
        generalize (upd (upd H16 q1 (.tup [V.int m, V.ref va])) q2 (.tup [V.int m, V.ref va])) = U at *
        have hRU := hRD.up eBU
        refine ⟨ra, q2, m, ps, ts, vs, rfl, hRU, hr2, hCv, fun hA H18 e18 => ?_, fun hA t xx r tm ah H18 e18 ht hx hr hL => ?_⟩
        · refine ⟨ra, q1, m, ps, ts, vs, .non, rfl, hRU.up e18, hr1.up e18, hCv, .inl ⟨hA, rfl⟩, fun H19 e19 => ?_⟩
          exact ⟨_, rfl, iteF ⟨eBU.trans (Evl.Ex.trans e18 e19), _, _, rfl⟩⟩
        · refine ⟨ra, q1, m, ps, ts, vs, .ref t, rfl, hRU.up e18, hr1.up e18, hCv, .inr ⟨hA, t, xx, r, tm, ah, rfl, ht, hx, hr, hL⟩, fun H19 e19 => ?_⟩
          exact ⟨_, rfl, iteF ⟨eBU.trans (Evl.Ex.trans e18 e19), _, _, rfl⟩⟩
      · obtain ⟨eB, y9, y10, rfl⟩ := hW
        have hvG := sqt_up hFD eB
        refine ⟨_, rfl, _, rfl, _, rfl, sz2, fun q1 k1 => ?_⟩
        refine ⟨_, rfl, _, rfl, sz2, fun q2 k2 => ?_⟩
        have eU := Evl.Ex.trans (Evl.Ex.new (o := .tup [V.int m, V.ref fa]) k1) (Evl.Ex.new (o := .tup [V.int m, V.ref fa]) k2)
        have hr1 : RowV K (upd (upd G q1 (.tup [V.int m, V.ref fa])) q2 (.tup [V.int m, V.ref fa])) q1 m fs := ⟨fa, Evl.st_of (own_new k2 upd_same), sqt_up hvG eU⟩
        have hr2 : RowV K (upd (upd G q1 (.tup [V.int m, V.ref fa])) q2 (.tup [V.int m, V.ref fa])) q2 m fs := ⟨fa, Evl.st_of upd_same, sqt_up hvG eU⟩
        have eBU := eB.trans eU
        generalize (upd (upd G q1 (.tup [V.int m, V.ref fa])) q2 (.tup [V.int m, V.ref fa])) = U at *
        have hRU := hRD.up eBU
        refine ⟨_, rfl, ra, q2, m, ps, ts, fs, rfl, hRU, hr2, hCf, fun hA H18 e18 => ?_, fun hA t xx r tm ah H18 e18 ht hx hr hL => ?_⟩
        · refine ⟨ra, q1, m, ps, ts, fs, .non, rfl, hRU.up e18, hr1.up e18, hCf, .inl ⟨hA, rfl⟩, fun H19 e19 => ?_⟩
          exact ⟨_, rfl, iteF ⟨e0D.trans (eBU.trans (Evl.Ex.trans e18 e19)), _, _, _, _, _, _, _, _, _, _, rfl⟩⟩
        · refine ⟨ra, q1, m, ps, ts, fs, .ref t, rfl, hRU.up e18, hr1.up e18, hCf, .inr ⟨hA, t, xx, r, tm, ah, rfl, ht, hx, hr, hL⟩, fun H19 e19 => ?_⟩
          exact ⟨_, rfl, iteF ⟨e0D.trans (eBU.trans (Evl.Ex.trans e18 e19)), _, _, _, _, _, _, _, _, _, _, rfl⟩⟩
  · exact q _
end
theorem fn_law' {P : Program} {w : World} {K : PySem.W.Frag} {mg : Str → Option Value} {f : Addr} {fd : FuncData} (T : Txt K mg) (F : C8.Def K mg "law" s_law f fd) (base : Heap) : FnOk P w K mg base C8.CX0 9 f fd ["_law_script"] (spLaw K) := fn_law T F
end K76
namespace K76
open PySem PySem.Spec PyProof.Rows L2
theorem dn_mk {K : PySem.W.Frag} {h : Heap} {mg : Str → Option Value} {x : Str} {st : Stmt} {f : Addr} {oc : Value} {od an : Option Addr} {osl : Array (Option Value)} {kV doc pm cdv ct : Value} (X : K.In h) (G : h.Ns mainGlobals mg)
    (a : PySem.W.nsIn K mainGlobals x = some (some (.ref f))) (l : K.lookup f = some ⟨oc, od, .func (PySem.W.fnOf x x (C8.fnArgs st) (C8.fnBody st) (C8.fnScope st) .none kV doc pm an cdv ct), osl⟩)
    (c : PySem.W.codeIn K cdv x = true) (k : PySem.W.keepIn K (.ref f) = true) : Dn K mg x st :=
  ⟨f, _, ⟨⟨oc, od, .none, kV, doc, pm, an, cdv, ct, osl, rfl, l, c⟩, PySem.W.mg_of X G a, k⟩, rfl⟩
theorem glo_mk {K : PySem.W.Frag} {h : Heap} {mg : Str → Option Value} {x : Str} {v : V} {u : Value} (X : K.In h) (G : h.Ns mainGlobals mg) (a : PySem.W.nsIn K mainGlobals x = some (some u)) (r : RelV v u) : ∃ u, mg x = some u ∧ RelV v u := ⟨u, PySem.W.mg_of X G a, r⟩
theorem tab_mk {K : PySem.W.Frag} {h : Heap} {mg : Str → Option Value} {d : Addr} {es : Array DictEntry} {n : Nat} (X : K.In h) (G : h.Ns mainGlobals mg) (a : PySem.W.nsIn K mainGlobals "PRIMES" = some (some (.ref d)))
    (l : K.lookup d = some ⟨.type "dict", none, .dict es n, #[]⟩) (p : primesD K es = true) (s : (d == sysModules) = false) : Tab K mg := ⟨d, es, n, PySem.W.mg_of X G a, l, p, s⟩
theorem fin {P : Program} {w : World} {K : PySem.W.Frag} {mg : Str → Option Value} {fa : Addr} (T : Txt K mg) (hmg : mg "law" = some (.ref fa)) :
    ∃ fd : FuncData, (∀ (s : Shared) (u : Value), BindsTo s fd ⟨[u], []⟩ [("_law_script", u)]) ∧ ∀ base : Heap, K.In base → base.Ns mainGlobals mg → FnOk P w K mg base C8.CX0 9 fa fd ["_law_script"] (spLaw K) := by
  obtain ⟨f, fd, F, df⟩ := T.d_law
  have e := hmg.symm.trans F.mgf
  cases e
  refine ⟨fd, ?_, fun base _ _ => fn_law' T F base⟩
  have F2 := F.fn.ex
  obtain ⟨oc, od, dV, kV, doc, pm, an, cdv, ct, osl, rfl, lk, hcd⟩ := F2
  have e : dV = .none := df
  subst e
  exact fun s u => .of_eq rfl
end K76
open PySem PySem.W PyProof.Rows
set_option maxRecDepth 100000 in
set_option maxHeartbeats 0 in
theorem PySem.Challenge.cw_nearadds_k76_whole_least_ahead_at_great_holds : PySem.Challenge.rw_nearadds_k76_whole_least_ahead_at_great.Holds := by
  w_on; o_law; k_head; (case hw => w_witness2)
  k_fill
  refine L2.walk_of (l := PySem.Challenge.rw_nearadds_k76_whole_least_ahead_at_great) (n := 63) (k := 9) (x := "_law_script") (CX := fun _ => C8.CX0) (sp := fun w => K76.spLaw _) rfl (by decide) rfl ⟨rfl, by decide, by decide⟩ (fun w h Y => PySem.W.kIn_of Y) ?F (fun _ _ a ns hl _ hS => ⟨a, ns, rfl, hS, hl, fun _ => rfl⟩) (fun _ _ _ _ _ h => h)
  case F =>
    intro w mg fa h KX G hmg
    refine K76.fin ?T hmg
    case T =>
      refine' { d_is_integer := ?d_is_integer, d_primes_in := ?d_primes_in, d_need_same := ?d_need_same, d_powered := ?d_powered, d_trimmed := ?d_trimmed, d_in_one := ?d_in_one, d_of_terms := ?d_of_terms, d_ring_of := ?d_ring_of, d_moved := ?d_moved, d_law_jar := ?d_law_jar, d_law_take := ?d_law_take, d_law_primes := ?d_law_primes, d_law_step := ?d_law_step, d_law_back := ?d_law_back, d_law_poly := ?d_law_poly, d_law_times := ?d_law_times, d_law_most := ?d_law_most, d_is_modulus := ?d_is_modulus, d_are_pairs := ?d_are_pairs, d_inverse := ?d_inverse, d_together := ?d_together, d_added := ?d_added, d_scaled := ?d_scaled, d_times_in_one := ?d_times_in_one, d_turned := ?d_turned, d_law_modulus := ?d_law_modulus, d_law_values := ?d_law_values, d_law_rest := ?d_law_rest, d_law_rule := ?d_law_rule, d_law_hopeless := ?d_law_hopeless, d_is_of_modulus := ?d_is_of_modulus, d_monic := ?d_monic, d_times := ?d_times, d_split := ?d_split, d_put_rows := ?d_put_rows, d_law_common := ?d_law_common, d_is_a_rule := ?d_is_a_rule, d_is_a_round := ?d_is_a_round, d_common_of := ?d_common_of, d_power_within := ?d_power_within, d_inverse_within := ?d_inverse_within, d_law_ring_common := ?d_law_ring_common, d_need_rule := ?d_need_rule, d_need_round := ?d_need_round, d_ring_common := ?d_ring_common, d_law_free := ?d_law_free, d_ahead_of := ?d_ahead_of, d_need_both := ?d_need_both, d_law_right := ?d_law_right, d_least_of := ?d_least_of, d_least_ahead := ?d_least_ahead, d_law := ?d_law, b_len := ?b_len, b_abs := ?b_abs, b_sum := ?b_sum, b_any := ?b_any, b_all := ?b_all, b_isinstance := ?b_isinstance, b_repr := ?b_repr, b_int := ?b_int, b_list := ?b_list, b_tuple := ?b_tuple, b_bool := ?b_bool, b_max := ?b_max, b_min := ?b_min, b_range := ?b_range, b_enumerate := ?b_enumerate, b_zip := ?b_zip, b_reversed := ?b_reversed, g_BITS := ?g_BITS, g_MASK := ?g_MASK, tab := ?tab }
      case d_is_integer => (refine' K76.dn_mk KX G ?a ?l ?c ?k; (case a => k_is); (case l => k_is); (case c => k_is); (case k => k_is))
      case d_primes_in => (refine' K76.dn_mk KX G ?a ?l ?c ?k; (case a => k_is); (case l => k_is); (case c => k_is); (case k => k_is))
      case d_need_same => (refine' K76.dn_mk KX G ?a ?l ?c ?k; (case a => k_is); (case l => k_is); (case c => k_is); (case k => k_is))
      case d_powered => (refine' K76.dn_mk KX G ?a ?l ?c ?k; (case a => k_is); (case l => k_is); (case c => k_is); (case k => k_is))
      case d_trimmed => (refine' K76.dn_mk KX G ?a ?l ?c ?k; (case a => k_is); (case l => k_is); (case c => k_is); (case k => k_is))
      case d_in_one => (refine' K76.dn_mk KX G ?a ?l ?c ?k; (case a => k_is); (case l => k_is); (case c => k_is); (case k => k_is))
      case d_of_terms => (refine' K76.dn_mk KX G ?a ?l ?c ?k; (case a => k_is); (case l => k_is); (case c => k_is); (case k => k_is))
      case d_ring_of => (refine' K76.dn_mk KX G ?a ?l ?c ?k; (case a => k_is); (case l => k_is); (case c => k_is); (case k => k_is))
      case d_moved => (refine' K76.dn_mk KX G ?a ?l ?c ?k; (case a => k_is); (case l => k_is); (case c => k_is); (case k => k_is))
      case d_law_jar => (refine' K76.dn_mk KX G ?a ?l ?c ?k; (case a => k_is); (case l => k_is); (case c => k_is); (case k => k_is))
      case d_law_take => (refine' K76.dn_mk KX G ?a ?l ?c ?k; (case a => k_is); (case l => k_is); (case c => k_is); (case k => k_is))
      case d_law_primes => (refine' K76.dn_mk KX G ?a ?l ?c ?k; (case a => k_is); (case l => k_is); (case c => k_is); (case k => k_is))
      case d_law_step => (refine' K76.dn_mk KX G ?a ?l ?c ?k; (case a => k_is); (case l => k_is); (case c => k_is); (case k => k_is))
      case d_law_back => (refine' K76.dn_mk KX G ?a ?l ?c ?k; (case a => k_is); (case l => k_is); (case c => k_is); (case k => k_is))
      case d_law_poly => (refine' K76.dn_mk KX G ?a ?l ?c ?k; (case a => k_is); (case l => k_is); (case c => k_is); (case k => k_is))
      case d_law_times => (refine' K76.dn_mk KX G ?a ?l ?c ?k; (case a => k_is); (case l => k_is); (case c => k_is); (case k => k_is))
      case d_law_most => (refine' K76.dn_mk KX G ?a ?l ?c ?k; (case a => k_is); (case l => k_is); (case c => k_is); (case k => k_is))
      case d_is_modulus => (refine' K76.dn_mk KX G ?a ?l ?c ?k; (case a => k_is); (case l => k_is); (case c => k_is); (case k => k_is))
      case d_are_pairs => (refine' K76.dn_mk KX G ?a ?l ?c ?k; (case a => k_is); (case l => k_is); (case c => k_is); (case k => k_is))
      case d_inverse => (refine' K76.dn_mk KX G ?a ?l ?c ?k; (case a => k_is); (case l => k_is); (case c => k_is); (case k => k_is))
      case d_together => (refine' K76.dn_mk KX G ?a ?l ?c ?k; (case a => k_is); (case l => k_is); (case c => k_is); (case k => k_is))
      case d_added => (refine' K76.dn_mk KX G ?a ?l ?c ?k; (case a => k_is); (case l => k_is); (case c => k_is); (case k => k_is))
      case d_scaled => (refine' K76.dn_mk KX G ?a ?l ?c ?k; (case a => k_is); (case l => k_is); (case c => k_is); (case k => k_is))
      case d_times_in_one => (refine' K76.dn_mk KX G ?a ?l ?c ?k; (case a => k_is); (case l => k_is); (case c => k_is); (case k => k_is))
      case d_turned => (refine' K76.dn_mk KX G ?a ?l ?c ?k; (case a => k_is); (case l => k_is); (case c => k_is); (case k => k_is))
      case d_law_modulus => (refine' K76.dn_mk KX G ?a ?l ?c ?k; (case a => k_is); (case l => k_is); (case c => k_is); (case k => k_is))
      case d_law_values => (refine' K76.dn_mk KX G ?a ?l ?c ?k; (case a => k_is); (case l => k_is); (case c => k_is); (case k => k_is))
      case d_law_rest => (refine' K76.dn_mk KX G ?a ?l ?c ?k; (case a => k_is); (case l => k_is); (case c => k_is); (case k => k_is))
      case d_law_rule => (refine' K76.dn_mk KX G ?a ?l ?c ?k; (case a => k_is); (case l => k_is); (case c => k_is); (case k => k_is))
      case d_law_hopeless => (refine' K76.dn_mk KX G ?a ?l ?c ?k; (case a => k_is); (case l => k_is); (case c => k_is); (case k => k_is))
      case d_is_of_modulus => (refine' K76.dn_mk KX G ?a ?l ?c ?k; (case a => k_is); (case l => k_is); (case c => k_is); (case k => k_is))
      case d_monic => (refine' K76.dn_mk KX G ?a ?l ?c ?k; (case a => k_is); (case l => k_is); (case c => k_is); (case k => k_is))
      case d_times => (refine' K76.dn_mk KX G ?a ?l ?c ?k; (case a => k_is); (case l => k_is); (case c => k_is); (case k => k_is))
      case d_split => (refine' K76.dn_mk KX G ?a ?l ?c ?k; (case a => k_is); (case l => k_is); (case c => k_is); (case k => k_is))
      case d_put_rows => (refine' K76.dn_mk KX G ?a ?l ?c ?k; (case a => k_is); (case l => k_is); (case c => k_is); (case k => k_is))
      case d_law_common => (refine' K76.dn_mk KX G ?a ?l ?c ?k; (case a => k_is); (case l => k_is); (case c => k_is); (case k => k_is))
      case d_is_a_rule => (refine' K76.dn_mk KX G ?a ?l ?c ?k; (case a => k_is); (case l => k_is); (case c => k_is); (case k => k_is))
      case d_is_a_round => (refine' K76.dn_mk KX G ?a ?l ?c ?k; (case a => k_is); (case l => k_is); (case c => k_is); (case k => k_is))
      case d_common_of => (refine' K76.dn_mk KX G ?a ?l ?c ?k; (case a => k_is); (case l => k_is); (case c => k_is); (case k => k_is))
      case d_power_within => (refine' K76.dn_mk KX G ?a ?l ?c ?k; (case a => k_is); (case l => k_is); (case c => k_is); (case k => k_is))
      case d_inverse_within => (refine' K76.dn_mk KX G ?a ?l ?c ?k; (case a => k_is); (case l => k_is); (case c => k_is); (case k => k_is))
      case d_law_ring_common => (refine' K76.dn_mk KX G ?a ?l ?c ?k; (case a => k_is); (case l => k_is); (case c => k_is); (case k => k_is))
      case d_need_rule => (refine' K76.dn_mk KX G ?a ?l ?c ?k; (case a => k_is); (case l => k_is); (case c => k_is); (case k => k_is))
      case d_need_round => (refine' K76.dn_mk KX G ?a ?l ?c ?k; (case a => k_is); (case l => k_is); (case c => k_is); (case k => k_is))
      case d_ring_common => (refine' K76.dn_mk KX G ?a ?l ?c ?k; (case a => k_is); (case l => k_is); (case c => k_is); (case k => k_is))
      case d_law_free => (refine' K76.dn_mk KX G ?a ?l ?c ?k; (case a => k_is); (case l => k_is); (case c => k_is); (case k => k_is))
      case d_ahead_of => (refine' K76.dn_mk KX G ?a ?l ?c ?k; (case a => k_is); (case l => k_is); (case c => k_is); (case k => k_is))
      case d_need_both => (refine' K76.dn_mk KX G ?a ?l ?c ?k; (case a => k_is); (case l => k_is); (case c => k_is); (case k => k_is))
      case d_law_right => (refine' K76.dn_mk KX G ?a ?l ?c ?k; (case a => k_is); (case l => k_is); (case c => k_is); (case k => k_is))
      case d_least_of => (refine' K76.dn_mk KX G ?a ?l ?c ?k; (case a => k_is); (case l => k_is); (case c => k_is); (case k => k_is))
      case d_least_ahead => (refine' K76.dn_mk KX G ?a ?l ?c ?k; (case a => k_is); (case l => k_is); (case c => k_is); (case k => k_is))
      case d_law => (refine' K76.dn_mk KX G ?a ?l ?c ?k; (case a => k_is); (case l => k_is); (case c => k_is); (case k => k_is))
      case b_len => (refine' PySem.W.mg_none_of KX G ?a; (case a => k_is))
      case b_abs => (refine' PySem.W.mg_none_of KX G ?a; (case a => k_is))
      case b_sum => (refine' PySem.W.mg_none_of KX G ?a; (case a => k_is))
      case b_any => (refine' PySem.W.mg_none_of KX G ?a; (case a => k_is))
      case b_all => (refine' PySem.W.mg_none_of KX G ?a; (case a => k_is))
      case b_isinstance => (refine' PySem.W.mg_none_of KX G ?a; (case a => k_is))
      case b_repr => (refine' PySem.W.mg_none_of KX G ?a; (case a => k_is))
      case b_int => (refine' PySem.W.mg_none_of KX G ?a; (case a => k_is))
      case b_list => (refine' PySem.W.mg_none_of KX G ?a; (case a => k_is))
      case b_tuple => (refine' PySem.W.mg_none_of KX G ?a; (case a => k_is))
      case b_bool => (refine' PySem.W.mg_none_of KX G ?a; (case a => k_is))
      case b_max => (refine' PySem.W.mg_none_of KX G ?a; (case a => k_is))
      case b_min => (refine' PySem.W.mg_none_of KX G ?a; (case a => k_is))
      case b_range => (refine' PySem.W.mg_none_of KX G ?a; (case a => k_is))
      case b_enumerate => (refine' PySem.W.mg_none_of KX G ?a; (case a => k_is))
      case b_zip => (refine' PySem.W.mg_none_of KX G ?a; (case a => k_is))
      case b_reversed => (refine' PySem.W.mg_none_of KX G ?a; (case a => k_is))
      case g_BITS => (refine' K76.glo_mk KX G ?a ?r; (case a => k_is); (case r => exact ⟨_, rfl⟩))
      case g_MASK => (refine' K76.glo_mk KX G ?a ?r; (case a => k_is); (case r => exact ⟨_, rfl⟩))
      case tab => (refine' K76.tab_mk KX G ?ta ?tl ?tp ?ts; (case ta => k_is); (case tl => k_is); (case tp => kernel_rfl); (case ts => kernel_rfl))
