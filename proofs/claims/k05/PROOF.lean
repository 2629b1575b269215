import PyProof.Rows.All
import Wide.All
import OpenK.AllK
import Wide.FinOn
import KE.KOpsOwn
import HandS.ForMost
import HandS.Defaults
import HandS.ClsMeth
import HandS.CallRecv
import HandS.SortKw
import HandS.Walk
import KE.GoesEnum
import PyProof.MinMaxWalk
import PyProof.ListMulRoad
import PyProof.FactsAll.tuple_2
import HandS.TupMul
import HandS.Conv
import HandS.Sort
import HandS.Small
import HandS.TupAny
import HandS.RevTup
import HandS.RevRange
import HandS.AnyAll
import HandS.Rev
import HandS.Words
import KE.KStateDown
import HandS.Head0
import HandS.Head1
import HandS.Head2
import HandS.HeadEnd
import HandS.HeadHook3
import HandS.HeadNt
import HandS.Codes
import HandS.Zip
import KE.KUnpack
import HandS.Star
import HandS.StrMore
import PyProof.Rows.StrSplitCount
import PySem.Challenge.RW_whichfloor_k05_whole_pictures_of_program
set_option Elab.async false
set_option linter.all false
set_option maxRecDepth 100000
/-! K5Math: the mathematics of walks and floors. Coefficient functions, the operators of a floor, walks as operators; no program in sight. -/
namespace K5

/-! ### coefficient functions -/
def C : Type := Nat → Nat → Int
namespace C
instance : Add C := ⟨fun f g i j => f i j + g i j⟩
instance : Sub C := ⟨fun f g i j => f i j - g i j⟩
instance : Neg C := ⟨fun f i j => - f i j⟩
def zero : C := fun _ _ => 0
instance : OfNat C 0 := ⟨zero⟩
theorem ext {f g : C} (h : ∀ i j, f i j = g i j) : f = g := funext fun i => funext fun j => h i j
theorem add_at (f g : C) (i j : Nat) : (f + g) i j = f i j + g i j := rfl
theorem sub_at (f g : C) (i j : Nat) : (f - g) i j = f i j - g i j := rfl
theorem neg_at (f : C) (i j : Nat) : (-f) i j = - f i j := rfl
theorem zero_at (i j : Nat) : (0 : C) i j = 0 := rfl
theorem neg_zero : (-(0 : C)) = 0 := ext fun i j => by rw [neg_at, zero_at]; rfl
theorem neg_neg (f : C) : -(-f) = f := ext fun i j => by rw [neg_at, neg_at]; omega
theorem eq_zero_of_neg {f : C} (h : -f = 0) : f = 0 := by rw [← neg_neg f, h, neg_zero]
end C

/-- two linear operators that commute -/
structure Ops where
  X : C → C
  Y : C → C
  Xa : ∀ f g, X (f + g) = X f + X g
  Xn : ∀ f, X (-f) = - X f
  Ya : ∀ f g, Y (f + g) = Y f + Y g
  Yn : ∀ f, Y (-f) = - Y f
  XY : ∀ f, X (Y f) = Y (X f)
theorem Ops.Xs (o : Ops) (f g : C) : o.X (f - g) = o.X f - o.X g := by
  have e : f - g = f + (-g) := C.ext fun i j => by rw [C.sub_at, C.add_at, C.neg_at]; omega
  rw [e, o.Xa, o.Xn]
  exact C.ext fun i j => by rw [C.sub_at, C.add_at, C.neg_at]; omega
theorem Ops.Ys (o : Ops) (f g : C) : o.Y (f - g) = o.Y f - o.Y g := by
  have e : f - g = f + (-g) := C.ext fun i j => by rw [C.sub_at, C.add_at, C.neg_at]; omega
  rw [e, o.Ya, o.Yn]
  exact C.ext fun i j => by rw [C.sub_at, C.add_at, C.neg_at]; omega
theorem Ops.X0 (o : Ops) : o.X 0 = 0 := by
  have h := o.Xs 0 0
  have e : (0 : C) - 0 = 0 := C.ext fun i j => by rw [C.sub_at, C.zero_at]; rfl
  rw [e] at h
  rw [h]
  exact C.ext fun i j => by rw [C.sub_at, C.zero_at]; omega
theorem Ops.Y0 (o : Ops) : o.Y 0 = 0 := by
  have h := o.Ys 0 0
  have e : (0 : C) - 0 = 0 := C.ext fun i j => by rw [C.sub_at, C.zero_at]; rfl
  rw [e] at h
  rw [h]
  exact C.ext fun i j => by rw [C.sub_at, C.zero_at]; omega

/-! ### numbers: four of them -/
structure N4 where
  a : C
  b : C
  c : C
  d : C
theorem N4.ext' {m n : N4} (ha : m.a = n.a) (hb : m.b = n.b) (hc : m.c = n.c) (hd : m.d = n.d) : m = n := by
  obtain ⟨a, b, c, d⟩ := m
  obtain ⟨a', b', c', d'⟩ := n
  simp only at ha hb hc hd
  subst ha hb hc hd
  rfl
instance : Add N4 := ⟨fun m n => ⟨m.a + n.a, m.b + n.b, m.c + n.c, m.d + n.d⟩⟩
instance : Sub N4 := ⟨fun m n => ⟨m.a - n.a, m.b - n.b, m.c - n.c, m.d - n.d⟩⟩
instance : Neg N4 := ⟨fun m => ⟨-m.a, -m.b, -m.c, -m.d⟩⟩
namespace N4
theorem add_a (m n : N4) : (m + n).a = m.a + n.a := rfl
theorem add_b (m n : N4) : (m + n).b = m.b + n.b := rfl
theorem add_c (m n : N4) : (m + n).c = m.c + n.c := rfl
theorem add_d (m n : N4) : (m + n).d = m.d + n.d := rfl
theorem sub_a (m n : N4) : (m - n).a = m.a - n.a := rfl
theorem sub_b (m n : N4) : (m - n).b = m.b - n.b := rfl
theorem sub_c (m n : N4) : (m - n).c = m.c - n.c := rfl
theorem sub_d (m n : N4) : (m - n).d = m.d - n.d := rfl
theorem neg_a (m : N4) : (-m).a = -m.a := rfl
theorem neg_b (m : N4) : (-m).b = -m.b := rfl
theorem neg_c (m : N4) : (-m).c = -m.c := rfl
theorem neg_d (m : N4) : (-m).d = -m.d := rfl
theorem neg_neg (m : N4) : -(-m) = m := ext' (C.neg_neg _) (C.neg_neg _) (C.neg_neg _) (C.neg_neg _)
end N4

section
variable (o : Ops)
/-- a turn by 1, a turn by -1, a go -/
def T (n : N4) : N4 := ⟨o.X n.c - n.b, (n.a + o.Y n.b) + o.X n.d, o.Y n.c + n.d, -n.c⟩
def R (n : N4) : N4 := ⟨(o.Y n.a + n.b) - o.X n.c, -(n.a + o.X n.d), -n.d, n.c + o.Y n.d⟩
def G (n : N4) : N4 := ⟨-n.c, -n.d, n.a, n.b⟩
/-- X, Y part by part -/
def X4 (n : N4) : N4 := ⟨o.X n.a, o.X n.b, o.X n.c, o.X n.d⟩
def Y4 (n : N4) : N4 := ⟨o.Y n.a, o.Y n.b, o.Y n.c, o.Y n.d⟩
end
section
variable (o : Ops)
theorem TR (n : N4) : T o (R o n) = n := by (refine N4.ext' ?_ ?_ ?_ ?_ <;> refine C.ext fun i j => ?_ <;> simp only [T, R, G, X4, Y4, N4.add_a, N4.add_b, N4.add_c, N4.add_d, N4.sub_a, N4.sub_b, N4.sub_c, N4.sub_d, N4.neg_a, N4.neg_b, N4.neg_c, N4.neg_d, Ops.Xa, Ops.Xn, Ops.Ya, Ops.Yn, Ops.Xs, Ops.Ys, Ops.XY, C.neg_neg, C.add_at, C.sub_at, C.neg_at] <;> omega)
theorem RT (n : N4) : R o (T o n) = n := by (refine N4.ext' ?_ ?_ ?_ ?_ <;> refine C.ext fun i j => ?_ <;> simp only [T, R, G, X4, Y4, N4.add_a, N4.add_b, N4.add_c, N4.add_d, N4.sub_a, N4.sub_b, N4.sub_c, N4.sub_d, N4.neg_a, N4.neg_b, N4.neg_c, N4.neg_d, Ops.Xa, Ops.Xn, Ops.Ya, Ops.Yn, Ops.Xs, Ops.Ys, Ops.XY, C.neg_neg, C.add_at, C.sub_at, C.neg_at] <;> omega)
theorem GG (n : N4) : G (G n) = -n := by (refine N4.ext' ?_ ?_ ?_ ?_ <;> refine C.ext fun i j => ?_ <;> simp only [T, R, G, X4, Y4, N4.add_a, N4.add_b, N4.add_c, N4.add_d, N4.sub_a, N4.sub_b, N4.sub_c, N4.sub_d, N4.neg_a, N4.neg_b, N4.neg_c, N4.neg_d, Ops.Xa, Ops.Xn, Ops.Ya, Ops.Yn, Ops.Xs, Ops.Ys, Ops.XY, C.neg_neg, C.add_at, C.sub_at, C.neg_at] <;> omega)
theorem T_neg (n : N4) : T o (-n) = -(T o n) := by (refine N4.ext' ?_ ?_ ?_ ?_ <;> refine C.ext fun i j => ?_ <;> simp only [T, R, G, X4, Y4, N4.add_a, N4.add_b, N4.add_c, N4.add_d, N4.sub_a, N4.sub_b, N4.sub_c, N4.sub_d, N4.neg_a, N4.neg_b, N4.neg_c, N4.neg_d, Ops.Xa, Ops.Xn, Ops.Ya, Ops.Yn, Ops.Xs, Ops.Ys, Ops.XY, C.neg_neg, C.add_at, C.sub_at, C.neg_at] <;> omega)
theorem R_neg (n : N4) : R o (-n) = -(R o n) := by (refine N4.ext' ?_ ?_ ?_ ?_ <;> refine C.ext fun i j => ?_ <;> simp only [T, R, G, X4, Y4, N4.add_a, N4.add_b, N4.add_c, N4.add_d, N4.sub_a, N4.sub_b, N4.sub_c, N4.sub_d, N4.neg_a, N4.neg_b, N4.neg_c, N4.neg_d, Ops.Xa, Ops.Xn, Ops.Ya, Ops.Yn, Ops.Xs, Ops.Ys, Ops.XY, C.neg_neg, C.add_at, C.sub_at, C.neg_at] <;> omega)
theorem G_neg (n : N4) : G (-n) = -(G n) := by (refine N4.ext' ?_ ?_ ?_ ?_ <;> refine C.ext fun i j => ?_ <;> simp only [T, R, G, X4, Y4, N4.add_a, N4.add_b, N4.add_c, N4.add_d, N4.sub_a, N4.sub_b, N4.sub_c, N4.sub_d, N4.neg_a, N4.neg_b, N4.neg_c, N4.neg_d, Ops.Xa, Ops.Xn, Ops.Ya, Ops.Yn, Ops.Xs, Ops.Ys, Ops.XY, C.neg_neg, C.add_at, C.sub_at, C.neg_at] <;> omega)
theorem T_add (m n : N4) : T o (m + n) = T o m + T o n := by (refine N4.ext' ?_ ?_ ?_ ?_ <;> refine C.ext fun i j => ?_ <;> simp only [T, R, G, X4, Y4, N4.add_a, N4.add_b, N4.add_c, N4.add_d, N4.sub_a, N4.sub_b, N4.sub_c, N4.sub_d, N4.neg_a, N4.neg_b, N4.neg_c, N4.neg_d, Ops.Xa, Ops.Xn, Ops.Ya, Ops.Yn, Ops.Xs, Ops.Ys, Ops.XY, C.neg_neg, C.add_at, C.sub_at, C.neg_at] <;> omega)
theorem R_add (m n : N4) : R o (m + n) = R o m + R o n := by (refine N4.ext' ?_ ?_ ?_ ?_ <;> refine C.ext fun i j => ?_ <;> simp only [T, R, G, X4, Y4, N4.add_a, N4.add_b, N4.add_c, N4.add_d, N4.sub_a, N4.sub_b, N4.sub_c, N4.sub_d, N4.neg_a, N4.neg_b, N4.neg_c, N4.neg_d, Ops.Xa, Ops.Xn, Ops.Ya, Ops.Yn, Ops.Xs, Ops.Ys, Ops.XY, C.neg_neg, C.add_at, C.sub_at, C.neg_at] <;> omega)
theorem G_add (m n : N4) : G (m + n) = G m + G n := by (refine N4.ext' ?_ ?_ ?_ ?_ <;> refine C.ext fun i j => ?_ <;> simp only [T, R, G, X4, Y4, N4.add_a, N4.add_b, N4.add_c, N4.add_d, N4.sub_a, N4.sub_b, N4.sub_c, N4.sub_d, N4.neg_a, N4.neg_b, N4.neg_c, N4.neg_d, Ops.Xa, Ops.Xn, Ops.Ya, Ops.Yn, Ops.Xs, Ops.Ys, Ops.XY, C.neg_neg, C.add_at, C.sub_at, C.neg_at] <;> omega)
theorem TX (n : N4) : T o (X4 o n) = X4 o (T o n) := by (refine N4.ext' ?_ ?_ ?_ ?_ <;> refine C.ext fun i j => ?_ <;> simp only [T, R, G, X4, Y4, N4.add_a, N4.add_b, N4.add_c, N4.add_d, N4.sub_a, N4.sub_b, N4.sub_c, N4.sub_d, N4.neg_a, N4.neg_b, N4.neg_c, N4.neg_d, Ops.Xa, Ops.Xn, Ops.Ya, Ops.Yn, Ops.Xs, Ops.Ys, Ops.XY, C.neg_neg, C.add_at, C.sub_at, C.neg_at] <;> omega)
theorem RX (n : N4) : R o (X4 o n) = X4 o (R o n) := by (refine N4.ext' ?_ ?_ ?_ ?_ <;> refine C.ext fun i j => ?_ <;> simp only [T, R, G, X4, Y4, N4.add_a, N4.add_b, N4.add_c, N4.add_d, N4.sub_a, N4.sub_b, N4.sub_c, N4.sub_d, N4.neg_a, N4.neg_b, N4.neg_c, N4.neg_d, Ops.Xa, Ops.Xn, Ops.Ya, Ops.Yn, Ops.Xs, Ops.Ys, Ops.XY, C.neg_neg, C.add_at, C.sub_at, C.neg_at] <;> omega)
theorem GX (n : N4) : G (X4 o n) = X4 o (G n) := by (refine N4.ext' ?_ ?_ ?_ ?_ <;> refine C.ext fun i j => ?_ <;> simp only [T, R, G, X4, Y4, N4.add_a, N4.add_b, N4.add_c, N4.add_d, N4.sub_a, N4.sub_b, N4.sub_c, N4.sub_d, N4.neg_a, N4.neg_b, N4.neg_c, N4.neg_d, Ops.Xa, Ops.Xn, Ops.Ya, Ops.Yn, Ops.Xs, Ops.Ys, Ops.XY, C.neg_neg, C.add_at, C.sub_at, C.neg_at] <;> omega)
theorem TY (n : N4) : T o (Y4 o n) = Y4 o (T o n) := by (refine N4.ext' ?_ ?_ ?_ ?_ <;> refine C.ext fun i j => ?_ <;> simp only [T, R, G, X4, Y4, N4.add_a, N4.add_b, N4.add_c, N4.add_d, N4.sub_a, N4.sub_b, N4.sub_c, N4.sub_d, N4.neg_a, N4.neg_b, N4.neg_c, N4.neg_d, Ops.Xa, Ops.Xn, Ops.Ya, Ops.Yn, Ops.Xs, Ops.Ys, Ops.XY, C.neg_neg, C.add_at, C.sub_at, C.neg_at] <;> omega)
theorem RY (n : N4) : R o (Y4 o n) = Y4 o (R o n) := by (refine N4.ext' ?_ ?_ ?_ ?_ <;> refine C.ext fun i j => ?_ <;> simp only [T, R, G, X4, Y4, N4.add_a, N4.add_b, N4.add_c, N4.add_d, N4.sub_a, N4.sub_b, N4.sub_c, N4.sub_d, N4.neg_a, N4.neg_b, N4.neg_c, N4.neg_d, Ops.Xa, Ops.Xn, Ops.Ya, Ops.Yn, Ops.Xs, Ops.Ys, Ops.XY, C.neg_neg, C.add_at, C.sub_at, C.neg_at] <;> omega)
theorem GY (n : N4) : G (Y4 o n) = Y4 o (G n) := by (refine N4.ext' ?_ ?_ ?_ ?_ <;> refine C.ext fun i j => ?_ <;> simp only [T, R, G, X4, Y4, N4.add_a, N4.add_b, N4.add_c, N4.add_d, N4.sub_a, N4.sub_b, N4.sub_c, N4.sub_d, N4.neg_a, N4.neg_b, N4.neg_c, N4.neg_d, Ops.Xa, Ops.Xn, Ops.Ya, Ops.Yn, Ops.Xs, Ops.Ys, Ops.XY, C.neg_neg, C.add_at, C.sub_at, C.neg_at] <;> omega)
/-- T² = Y T - 1 -/
theorem TT (n : N4) : T o (T o n) = Y4 o (T o n) - n := by (refine N4.ext' ?_ ?_ ?_ ?_ <;> refine C.ext fun i j => ?_ <;> simp only [T, R, G, X4, Y4, N4.add_a, N4.add_b, N4.add_c, N4.add_d, N4.sub_a, N4.sub_b, N4.sub_c, N4.sub_d, N4.neg_a, N4.neg_b, N4.neg_c, N4.neg_d, Ops.Xa, Ops.Xn, Ops.Ya, Ops.Yn, Ops.Xs, Ops.Ys, Ops.XY, C.neg_neg, C.add_at, C.sub_at, C.neg_at] <;> omega)
theorem R_eq (n : N4) : R o n = Y4 o n - T o n := by (refine N4.ext' ?_ ?_ ?_ ?_ <;> refine C.ext fun i j => ?_ <;> simp only [T, R, G, X4, Y4, N4.add_a, N4.add_b, N4.add_c, N4.add_d, N4.sub_a, N4.sub_b, N4.sub_c, N4.sub_d, N4.neg_a, N4.neg_b, N4.neg_c, N4.neg_d, Ops.Xa, Ops.Xn, Ops.Ya, Ops.Yn, Ops.Xs, Ops.Ys, Ops.XY, C.neg_neg, C.add_at, C.sub_at, C.neg_at] <;> omega)
/-- a turn by 1 and a go: U² = X U - 1 -/
def U (n : N4) : N4 := G (T o n)
theorem UU (n : N4) : U o (U o n) = X4 o (U o n) - n := by
  unfold U
  (refine N4.ext' ?_ ?_ ?_ ?_ <;> refine C.ext fun i j => ?_ <;> simp only [T, R, G, X4, Y4, N4.add_a, N4.add_b, N4.add_c, N4.add_d, N4.sub_a, N4.sub_b, N4.sub_c, N4.sub_d, N4.neg_a, N4.neg_b, N4.neg_c, N4.neg_d, Ops.Xa, Ops.Xn, Ops.Ya, Ops.Yn, Ops.Xs, Ops.Ys, Ops.XY, C.neg_neg, C.add_at, C.sub_at, C.neg_at] <;> omega)
end

/-! ### turns by k, walks -/
section
variable (o : Ops)
def Tn : Nat → N4 → N4
  | 0, n => n
  | k + 1, n => Tn k (T o n)
def Rn : Nat → N4 → N4
  | 0, n => n
  | k + 1, n => Rn k (R o n)
def turnK (k : Int) (n : N4) : N4 := if 0 < k then Tn o k.toNat n else Rn o (-k).toNat n
def actG : List Int → N4 → N4
  | [], n => n
  | k :: ks, n => actG ks (turnK o k (G n))
def act : List Int → N4 → N4
  | [], n => n
  | k :: ks, n => actG o ks (turnK o k n)
theorem Tn_succ (k : Nat) : ∀ n, Tn o (k + 1) n = T o (Tn o k n) := by
  induction k with
  | zero => intro n; rfl
  | succ k ih => intro n; exact ih (T o n)
theorem Rn_succ (k : Nat) : ∀ n, Rn o (k + 1) n = R o (Rn o k n) := by
  induction k with
  | zero => intro n; rfl
  | succ k ih => intro n; exact ih (R o n)
theorem turnK_zero (n : N4) : turnK o 0 n = n := rfl
theorem turnK_succ (k : Int) (n : N4) : turnK o (k + 1) n = T o (turnK o k n) := by
  unfold turnK
  by_cases h : 0 ≤ k
  · rw [if_pos (show 0 < k + 1 by omega)]
    by_cases h0 : 0 < k
    · rw [if_pos h0, show (k + 1).toNat = k.toNat + 1 by omega, Tn_succ]
    · have e : k = 0 := by omega
      subst e
      rfl
  · rw [if_neg (show ¬ 0 < k + 1 by omega), if_neg (show ¬ 0 < k by omega), show (-k).toNat = (-(k + 1)).toNat + 1 by omega, Rn_succ, TR]
theorem turnK_pred (k : Int) (n : N4) : turnK o (k - 1) n = R o (turnK o k n) := by
  have h := turnK_succ o (k - 1) n
  rw [show k - 1 + 1 = k by omega] at h
  rw [h, RT]
theorem turnK_addN (k : Int) (n : N4) : ∀ l : Nat, turnK o (k + l) n = turnK o l (turnK o k n)
  | 0 => by rw [show k + ((0 : Nat) : Int) = k by omega]; rfl
  | l + 1 => by
    rw [show k + ((l + 1 : Nat) : Int) = (k + l) + 1 by omega, turnK_succ, turnK_addN k n l, show ((l + 1 : Nat) : Int) = (l : Int) + 1 by omega, turnK_succ]
theorem turnK_subN (k : Int) (n : N4) : ∀ l : Nat, turnK o (k - l) n = turnK o (-(l : Int)) (turnK o k n)
  | 0 => by rw [show k - ((0 : Nat) : Int) = k by omega]; rfl
  | l + 1 => by
    rw [show k - ((l + 1 : Nat) : Int) = (k - l) - 1 by omega, turnK_pred, turnK_subN k n l, show -((l + 1 : Nat) : Int) = -(l : Int) - 1 by omega, turnK_pred]
theorem turnK_add (k l : Int) (n : N4) : turnK o (k + l) n = turnK o l (turnK o k n) := by
  by_cases h : 0 ≤ l
  · have e : l = (l.toNat : Int) := by omega
    rw [e]
    exact turnK_addN o k n l.toNat
  · have e : l = -((-l).toNat : Int) := by omega
    have e2 : k + l = k - ((-l).toNat : Int) := by omega
    rw [e2, turnK_subN]
    rw [← e]
theorem turnK_cancel (k : Int) (n : N4) : turnK o (-k) (turnK o k n) = n := by
  rw [← turnK_add, show k + -k = 0 by omega, turnK_zero]
/-- what is true of T and R is true of turns -/
theorem turnK_ind {P : N4 → Prop} (hT : ∀ n, P n → P (T o n)) (hR : ∀ n, P n → P (R o n)) (k : Int) (n : N4) (h : P n) : P (turnK o k n) := by
  have hTn : ∀ k n, P n → P (Tn o k n) := fun k => by
    induction k with
    | zero => intro n h; exact h
    | succ k ih => intro n h; exact ih _ (hT n h)
  have hRn : ∀ k n, P n → P (Rn o k n) := fun k => by
    induction k with
    | zero => intro n h; exact h
    | succ k ih => intro n h; exact ih _ (hR n h)
  unfold turnK
  split
  · exact hTn _ n h
  · exact hRn _ n h
/-- a map that passes T, R and G passes walks -/
structure Pass (f : N4 → N4) : Prop where
  t : ∀ n, f (T o n) = T o (f n)
  r : ∀ n, f (R o n) = R o (f n)
  g : ∀ n, f (G n) = G (f n)
variable {o}
theorem Pass.tn {f : N4 → N4} (h : Pass o f) : ∀ k n, f (Tn o k n) = Tn o k (f n)
  | 0, _ => rfl
  | k + 1, n => by
    show f (Tn o k (T o n)) = Tn o k (T o (f n))
    rw [h.tn k, h.t]
theorem Pass.rn {f : N4 → N4} (h : Pass o f) : ∀ k n, f (Rn o k n) = Rn o k (f n)
  | 0, _ => rfl
  | k + 1, n => by
    show f (Rn o k (R o n)) = Rn o k (R o (f n))
    rw [h.rn k, h.r]
theorem Pass.turn {f : N4 → N4} (h : Pass o f) (k : Int) (n : N4) : f (turnK o k n) = turnK o k (f n) := by
  unfold turnK
  split
  · exact h.tn _ n
  · exact h.rn _ n
theorem Pass.actG {f : N4 → N4} (h : Pass o f) : ∀ (w : List Int) n, f (K5.actG o w n) = K5.actG o w (f n)
  | [], _ => rfl
  | k :: ks, n => by
    show f (K5.actG o ks (turnK o k (G n))) = K5.actG o ks (turnK o k (G (f n)))
    rw [h.actG ks, h.turn, h.g]
theorem Pass.act {f : N4 → N4} (h : Pass o f) : ∀ (w : List Int) n, f (K5.act o w n) = K5.act o w (f n)
  | [], _ => rfl
  | k :: ks, n => by
    show f (K5.actG o ks (turnK o k n)) = K5.actG o ks (turnK o k (f n))
    rw [h.actG ks, h.turn]
variable (o)
theorem pass_neg : Pass o (fun n => -n) := ⟨fun n => (T_neg o n).symm, fun n => (R_neg o n).symm, fun n => (G_neg n).symm⟩
theorem pass_X : Pass o (X4 o) := ⟨fun n => (TX o n).symm, fun n => (RX o n).symm, fun n => (GX o n).symm⟩
theorem pass_Y : Pass o (Y4 o) := ⟨fun n => (TY o n).symm, fun n => (RY o n).symm, fun n => (GY o n).symm⟩
theorem act_neg (w : List Int) (n : N4) : act o w (-n) = -(act o w n) := ((pass_neg o).act w n).symm
theorem turnK_neg (k : Int) (n : N4) : turnK o k (-n) = -(turnK o k n) := ((pass_neg o).turn k n).symm
theorem Tn_add (k : Nat) : ∀ m n, Tn o k (m + n) = Tn o k m + Tn o k n := by
  induction k with
  | zero => intro m n; rfl
  | succ k ih => intro m n; show Tn o k (T o (m + n)) = _; rw [T_add, ih]; rfl
theorem Rn_add (k : Nat) : ∀ m n, Rn o k (m + n) = Rn o k m + Rn o k n := by
  induction k with
  | zero => intro m n; rfl
  | succ k ih => intro m n; show Rn o k (R o (m + n)) = _; rw [R_add, ih]; rfl
theorem turnK_add4 (k : Int) (m n : N4) : turnK o k (m + n) = turnK o k m + turnK o k n := by
  unfold turnK
  split
  · exact Tn_add o _ m n
  · exact Rn_add o _ m n
theorem actG_add4 : ∀ (w : List Int) (m n : N4), actG o w (m + n) = actG o w m + actG o w n
  | [], _, _ => rfl
  | k :: ks, m, n => by
    show actG o ks (turnK o k (G (m + n))) = actG o ks (turnK o k (G m)) + actG o ks (turnK o k (G n))
    rw [G_add, turnK_add4, actG_add4 ks]
theorem act_add4 : ∀ (w : List Int) (m n : N4), act o w (m + n) = act o w m + act o w n
  | [], _, _ => rfl
  | k :: ks, m, n => by
    show actG o ks (turnK o k (m + n)) = actG o ks (turnK o k m) + actG o ks (turnK o k n)
    rw [turnK_add4, actG_add4]
end

/-! ### walks: one behind another, back -/
def cat : List Int → List Int → List Int
  | [], v => v
  | [k], [] => [k]
  | [k], l :: v => (k + l) :: v
  | k :: k' :: u, v => k :: cat (k' :: u) v
def wneg (u : List Int) : List Int := (u.map fun k => -k).reverse
theorem cat_eq : ∀ (u : List Int) (k l : Int) (v : List Int), cat (u ++ [k]) (l :: v) = u ++ (k + l) :: v
  | [], _, _, _ => rfl
  | [a], k, l, v => rfl
  | a :: b :: u, k, l, v => by
    show a :: cat (b :: (u ++ [k])) (l :: v) = a :: (b :: u ++ (k + l) :: v)
    rw [show b :: (u ++ [k]) = (b :: u) ++ [k] from rfl, cat_eq (b :: u) k l v]
theorem cat_ne {u v : List Int} (h : u ≠ []) : cat u v ≠ [] := by
  match u, v, h with
  | [k], [], _ => intro e; cases e
  | [k], l :: v, _ => intro e; cases e
  | k :: k' :: u, v, _ => intro e; cases e
theorem wneg_ne {u : List Int} (h : u ≠ []) : wneg u ≠ [] := by
  intro e
  apply h
  have := congrArg List.length e
  unfold wneg at this
  simp at this
  exact this
theorem wneg_wneg (u : List Int) : wneg (wneg u) = u := by
  unfold wneg
  rw [List.map_reverse, List.reverse_reverse, List.map_map]
  have : ((fun k : Int => -k) ∘ fun k => -k) = id := funext fun k => by
    show - -k = k
    omega
  rw [this, List.map_id]
/-- a list that is not empty ends -/
theorem snoc_of {α : Type} {u : List α} (h : u ≠ []) : ∃ r k, u = r ++ [k] := ⟨u.dropLast, u.getLast h, (List.dropLast_concat_getLast h).symm⟩
theorem wneg_snoc (u : List Int) (k : Int) : wneg (u ++ [k]) = -k :: wneg u := by
  unfold wneg
  rw [List.map_append, List.reverse_append]
  rfl
theorem wneg_cons (k : Int) (u : List Int) : wneg (k :: u) = wneg u ++ [-k] := by
  unfold wneg
  rw [List.map_cons, List.reverse_cons]
theorem wneg_append (u v : List Int) : wneg (u ++ v) = wneg v ++ wneg u := by
  unfold wneg
  rw [List.map_append, List.reverse_append]
theorem wneg_cat {u v : List Int} (hu : u ≠ []) (hv : v ≠ []) : wneg (cat u v) = cat (wneg v) (wneg u) := by
  obtain ⟨r, k, rfl⟩ := snoc_of hu
  match v, hv with
  | l :: v, _ =>
    rw [cat_eq, wneg_snoc, wneg_cons, cat_eq, wneg_append, wneg_cons, List.append_assoc, show -(k + l) = -l + -k by omega]
    rfl

section
variable (o : Ops)
theorem actG_append : ∀ (u v : List Int) (n : N4), actG o (u ++ v) n = actG o v (actG o u n)
  | [], _, _ => rfl
  | k :: u, v, n => actG_append u v (turnK o k (G n))
theorem act_snoc {w : List Int} (h : w ≠ []) (k : Int) (n : N4) : act o (w ++ [k]) n = turnK o k (G (act o w n)) := by
  match w, h with
  | l :: w, _ =>
    show actG o (w ++ [k]) (turnK o l n) = turnK o k (G (actG o w (turnK o l n)))
    rw [actG_append]
    rfl
theorem actG_cat : ∀ (u v : List Int) (n : N4), u ≠ [] → v ≠ [] → actG o (cat u v) n = act o v (actG o u n)
  | [k], l :: v, n, _, _ => by
    show actG o v (turnK o (k + l) (G n)) = actG o v (turnK o l (turnK o k (G n)))
    rw [turnK_add]
  | k :: k' :: u, v, n, _, hv => by
    show actG o (cat (k' :: u) v) (turnK o k (G n)) = act o v (actG o (k' :: u) (turnK o k (G n)))
    exact actG_cat (k' :: u) v _ (by simp) hv
theorem act_cat : ∀ (u v : List Int) (n : N4), u ≠ [] → v ≠ [] → act o (cat u v) n = act o v (act o u n)
  | [k], l :: v, n, _, _ => by
    show actG o v (turnK o (k + l) n) = actG o v (turnK o l (turnK o k n))
    rw [turnK_add]
  | k :: k' :: u, v, n, _, hv => by
    show actG o (cat (k' :: u) v) (turnK o k n) = act o v (actG o (k' :: u) (turnK o k n))
    exact actG_cat o (k' :: u) v _ (by simp) hv
end
/-- alike but for one sign -/
def Sg (m n : N4) : Prop := m = n ∨ m = -n
theorem Sg.refl (n : N4) : Sg n n := .inl rfl
theorem Sg.symm {m n : N4} (h : Sg m n) : Sg n m := h.elim (fun e => .inl e.symm) fun e => .inr (by rw [e, N4.neg_neg])
theorem Sg.neg {m n : N4} (h : Sg m n) : Sg (-m) n := h.elim (fun e => .inr (by rw [e])) fun e => .inl (by rw [e, N4.neg_neg])
theorem Sg.trans {l m n : N4} (h : Sg l m) (k : Sg m n) : Sg l n := by
  rcases h with rfl | rfl
  · exact k
  · exact k.neg
section
variable {o : Ops}
theorem Sg.act {m n : N4} (h : Sg m n) (w : List Int) : Sg (K5.act o w m) (K5.act o w n) := by
  rcases h with rfl | rfl
  · exact .refl _
  · exact .inr (act_neg o w n)
theorem Sg.turn {m n : N4} (h : Sg m n) (k : Int) : Sg (turnK o k m) (turnK o k n) := by
  rcases h with rfl | rfl
  · exact .refl _
  · exact .inr (turnK_neg o k n)
theorem Sg.go {m n : N4} (h : Sg m n) : Sg (G m) (G n) := by
  rcases h with rfl | rfl
  · exact .refl _
  · exact .inr (G_neg n)
theorem Sg.actG {m n : N4} (h : Sg m n) (w : List Int) : Sg (K5.actG o w m) (K5.actG o w n) := by
  rcases h with rfl | rfl
  · exact .refl _
  · exact .inr ((pass_neg o).actG w n).symm
theorem act_back : ∀ (u : List Int) (n : N4), u ≠ [] → Sg (K5.act o (wneg u) (K5.act o u n)) n
  | [k], n, _ => by
    show Sg (turnK o (-k) (turnK o k n)) n
    rw [turnK_cancel]
    exact .refl n
  | k :: k' :: u, n, _ => by
    rw [wneg_cons, act_snoc o (wneg_ne (by simp))]
    show Sg (turnK o (-k) (G (K5.act o (wneg (k' :: u)) (K5.act o (k' :: u) (G (turnK o k n)))))) n
    refine Sg.trans (((act_back (k' :: u) (G (turnK o k n)) (by simp)).go).turn (-k)) ?_
    rw [GG, turnK_neg, turnK_cancel]
    exact .inr rfl
theorem act_forth (u : List Int) (n : N4) (h : u ≠ []) : Sg (K5.act o u (K5.act o (wneg u) n)) n := by
  have := act_back (o := o) (wneg u) n (wneg_ne h)
  rwa [wneg_wneg] at this
end

/-! ### reduction -/
def push (st : List Int) (k : Int) : List Int := match st with
  | z :: m :: r => if z = 0 then (m + k) :: r else k :: z :: m :: r
  | st => k :: st
def red (w : List Int) : List Int := (w.foldl push []).reverse
theorem push_ne (st : List Int) (k : Int) : push st k ≠ [] := by
  unfold push
  split
  · split <;> (intro e; cases e)
  · intro e; cases e
theorem foldl_push_ne : ∀ (w st : List Int), (w ≠ [] ∨ st ≠ []) → w.foldl push st ≠ []
  | [], st, h => by
    rcases h with h | h
    · exact absurd rfl h
    · exact h
  | k :: w, st, _ => foldl_push_ne w (push st k) (.inr (push_ne st k))
theorem red_ne {w : List Int} (h : w ≠ []) : red w ≠ [] := by
  unfold red
  intro e
  exact foldl_push_ne w [] (.inl h) (List.reverse_eq_nil_iff.mp e)
section
variable {o : Ops}
theorem push_act (st : List Int) (k : Int) (n : N4) (h : st ≠ []) : Sg (act o (push st k).reverse n) (turnK o k (G (act o st.reverse n))) := by
  match st, h with
  | [z], _ => exact .refl _
  | z :: m :: r, _ =>
    show Sg (act o (if z = 0 then (m + k) :: r else k :: z :: m :: r).reverse n) _
    by_cases hz : z = 0
    · subst hz
      rw [if_pos rfl]
      have e1 : act o (0 :: m :: r).reverse n = G (act o (m :: r).reverse n) := by
        rw [List.reverse_cons, act_snoc o (by simp)]
        rfl
      rw [e1, GG, turnK_neg]
      refine .inr ?_
      rw [N4.neg_neg]
      match r with
      | [] =>
        show turnK o (m + k) n = turnK o k (turnK o m n)
        rw [turnK_add]
      | x :: r =>
        rw [List.reverse_cons, act_snoc o (by simp), List.reverse_cons (a := m), act_snoc o (by simp), turnK_add]
    · rw [if_neg hz, List.reverse_cons, act_snoc o (by simp)]
      exact .refl _
theorem fold_act : ∀ (w st : List Int) (n : N4), st ≠ [] → Sg (act o (w.foldl push st).reverse n) (actG o w (act o st.reverse n))
  | [], _, _, _ => .refl _
  | k :: w, st, n, h => (fold_act w (push st k) n (push_ne st k)).trans ((push_act st k n h).actG w)
theorem red_act (w : List Int) (n : N4) (h : w ≠ []) : Sg (act o (red w) n) (act o w n) := by
  match w, h with
  | k :: w, _ => exact fold_act w [k] n (by simp)
end
end K5
/-! K5Mathb: the stack of a reduction; the step polynomials; the operators of a floor. -/
namespace K5
/-! ### the stack as a place -/
def stepG (st : List Int) : List Int := match st with
  | z :: m :: r => if z = 0 then m :: r else 0 :: z :: m :: r
  | st => 0 :: st
def stepT (k : Int) (st : List Int) : List Int := match st with
  | m :: r => (m + k) :: r
  | [] => [k]
/-- all but the last are not 0 -/
def inn : List Int → Prop
  | [] => True
  | [_] => True
  | m :: m' :: r => m ≠ 0 ∧ inn (m' :: r)
def NF : List Int → Prop
  | [] => False
  | [_] => True
  | _ :: m :: r => inn (m :: r)
theorem push_eq (st : List Int) (k : Int) (h : st ≠ []) : push st k = stepT k (stepG st) := by
  match st, h with
  | [z], _ => simp [push, stepG, stepT]
  | z :: m :: r, _ =>
    show (if z = 0 then (m + k) :: r else k :: z :: m :: r) = stepT k (if z = 0 then m :: r else 0 :: z :: m :: r)
    by_cases hz : z = 0
    · rw [if_pos hz, if_pos hz]
      rfl
    · rw [if_neg hz, if_neg hz]
      show _ = (0 + k) :: z :: m :: r
      rw [Int.zero_add]
theorem nf_stepT (k : Int) {st : List Int} (h : NF st) : NF (stepT k st) := by
  match st, h with
  | [z], _ => trivial
  | z :: m :: r, h => exact h
theorem inn_tail {m : Int} {r : List Int} (h : inn (m :: r)) : r = [] ∨ NF (m :: r) := by
  match r, h with
  | [], _ => exact .inl rfl
  | x :: r, h => exact .inr h.2
theorem nf_stepG {st : List Int} (h : NF st) : NF (stepG st) := by
  match st, h with
  | [z], _ => trivial
  | z :: m :: r, h =>
    show NF (if z = 0 then m :: r else 0 :: z :: m :: r)
    by_cases hz : z = 0
    · rw [if_pos hz]
      match r, h with
      | [], _ => trivial
      | x :: r, h => exact h.2
    · rw [if_neg hz]
      exact ⟨hz, h⟩
theorem stepG_stepG {st : List Int} (h : NF st) : stepG (stepG st) = st := by
  match st, h with
  | [z], _ => rfl
  | z :: m :: r, h =>
    show stepG (if z = 0 then m :: r else 0 :: z :: m :: r) = z :: m :: r
    by_cases hz : z = 0
    · subst hz
      rw [if_pos rfl]
      match r, h with
      | [], _ => rfl
      | x :: r, h =>
        show (if m = 0 then x :: r else 0 :: m :: x :: r) = 0 :: m :: x :: r
        rw [if_neg h.1]
    · rw [if_neg hz]
      show (if (0 : Int) = 0 then z :: m :: r else 0 :: 0 :: z :: m :: r) = z :: m :: r
      rw [if_pos rfl]
theorem stepT_add (k l : Int) {st : List Int} (h : NF st) : stepT (k + l) st = stepT l (stepT k st) := by
  match st, h with
  | [z], _ => simp [stepT, Int.add_assoc]
  | z :: m :: r, h => simp [stepT, Int.add_assoc]
theorem stepT_zero {st : List Int} (h : NF st) : stepT 0 st = st := by
  match st, h with
  | [z], _ => simp [stepT]
  | z :: m :: r, h => simp [stepT]
/-- a walk's deeds on a stack -/
def runG : List Int → List Int → List Int
  | [], st => st
  | k :: w, st => runG w (stepT k (stepG st))
def runS : List Int → List Int → List Int
  | [], st => st
  | k :: w, st => runG w (stepT k st)
theorem nf_ne {st : List Int} (h : NF st) : st ≠ [] := by
  intro e
  subst e
  exact h
theorem nf_runG : ∀ (w : List Int) {st : List Int}, NF st → NF (runG w st)
  | [], _, h => h
  | k :: w, _, h => nf_runG w (nf_stepT k (nf_stepG h))
theorem nf_runS : ∀ (w : List Int) {st : List Int}, NF st → NF (runS w st)
  | [], _, h => h
  | k :: w, _, h => nf_runG w (nf_stepT k h)
theorem fold_run : ∀ (w : List Int) {st : List Int}, NF st → w.foldl push st = runG w st
  | [], _, _ => rfl
  | k :: w, st, h => by
    show w.foldl push (push st k) = runG w (stepT k (stepG st))
    rw [push_eq st k (nf_ne h), fold_run w (nf_stepT k (nf_stepG h))]
theorem red_run (w : List Int) (h : w ≠ []) : red w = (runS w [0]).reverse := by
  match w, h with
  | k :: w, _ =>
    show (w.foldl push (push [] k)).reverse = (runG w (stepT k [0])).reverse
    rw [fold_run w (show NF (push [] k) from trivial)]
    show (runG w [k]).reverse = (runG w [0 + k]).reverse
    rw [Int.zero_add]
theorem runG_append : ∀ (u v st : List Int), runG (u ++ v) st = runG v (runG u st)
  | [], _, _ => rfl
  | k :: u, v, st => runG_append u v (stepT k (stepG st))
theorem runS_snoc {w : List Int} (h : w ≠ []) (k : Int) (st : List Int) : runS (w ++ [k]) st = stepT k (stepG (runS w st)) := by
  match w, h with
  | l :: w, _ =>
    show runG (w ++ [k]) (stepT l st) = stepT k (stepG (runG w (stepT l st)))
    rw [runG_append]
    rfl
theorem runG_cat : ∀ (u v : List Int) {st : List Int}, NF st → u ≠ [] → v ≠ [] → runG (cat u v) st = runS v (runG u st)
  | [k], l :: v, st, hn, _, _ => by
    show runG v (stepT (k + l) (stepG st)) = runG v (stepT l (stepT k (stepG st)))
    rw [stepT_add k l (nf_stepG hn)]
  | k :: k' :: u, v, st, hn, _, hv => by
    show runG (cat (k' :: u) v) (stepT k (stepG st)) = runS v (runG (k' :: u) (stepT k (stepG st)))
    exact runG_cat (k' :: u) v (nf_stepT k (nf_stepG hn)) (by simp) hv
theorem runS_cat : ∀ (u v : List Int) {st : List Int}, NF st → u ≠ [] → v ≠ [] → runS (cat u v) st = runS v (runS u st)
  | [k], l :: v, st, hn, _, _ => by
    show runG v (stepT (k + l) st) = runG v (stepT l (stepT k st))
    rw [stepT_add k l hn]
  | k :: k' :: u, v, st, hn, _, hv => by
    show runG (cat (k' :: u) v) (stepT k st) = runS v (runG (k' :: u) (stepT k st))
    exact runG_cat (k' :: u) v (nf_stepT k hn) (by simp) hv
theorem run_back : ∀ (u : List Int) {st : List Int}, NF st → u ≠ [] → runS (wneg u) (runS u st) = st
  | [k], st, hn, _ => by
    show stepT (-k) (stepT k st) = st
    rw [← stepT_add k (-k) hn, show k + -k = 0 by omega, stepT_zero hn]
  | k :: k' :: u, st, hn, _ => by
    rw [wneg_cons, runS_snoc (wneg_ne (by simp))]
    show stepT (-k) (stepG (runS (wneg (k' :: u)) (runS (k' :: u) (stepG (stepT k st))))) = st
    rw [run_back (k' :: u) (nf_stepG (nf_stepT k hn)) (by simp), stepG_stepG (nf_stepT k hn), ← stepT_add k (-k) hn, show k + -k = 0 by omega, stepT_zero hn]
theorem run_forth (u : List Int) {st : List Int} (hn : NF st) (h : u ≠ []) : runS u (runS (wneg u) st) = st := by
  have := run_back (wneg u) hn (wneg_ne h)
  rwa [wneg_wneg] at this
/-- what a walk's turns come to -/
def wsize : List Int → Nat
  | [] => 0
  | k :: w => k.natAbs + wsize w
theorem wsize_stepT (k : Int) (st : List Int) : wsize (stepT k st) ≤ wsize st + k.natAbs := by
  match st with
  | [] =>
    show k.natAbs + wsize [] ≤ _
    omega
  | m :: r =>
    show (m + k).natAbs + wsize r ≤ m.natAbs + wsize r + k.natAbs
    omega
theorem wsize_stepG (st : List Int) : wsize (stepG st) ≤ wsize st := by
  match st with
  | [] => exact Nat.le_refl _
  | [z] =>
    show (0 : Int).natAbs + (z.natAbs + wsize []) ≤ z.natAbs + wsize []
    omega
  | z :: m :: r =>
    show wsize (if z = 0 then m :: r else 0 :: z :: m :: r) ≤ _
    split
    · show wsize (m :: r) ≤ z.natAbs + wsize (m :: r)
      omega
    · show (0 : Int).natAbs + wsize (z :: m :: r) ≤ _
      omega
theorem len_stepT (k : Int) {st : List Int} (h : st ≠ []) : (stepT k st).length = st.length := by
  match st, h with
  | m :: r, _ => rfl
theorem len_stepG (st : List Int) : (stepG st).length ≤ st.length + 1 := by
  match st with
  | [] => exact Nat.le_refl _
  | [z] => exact Nat.le_refl _
  | z :: m :: r =>
    show (if z = 0 then m :: r else 0 :: z :: m :: r).length ≤ _
    split <;> simp
theorem stepG_ne (st : List Int) : stepG st ≠ [] := by
  unfold stepG
  split
  · split <;> (intro e; cases e)
  · intro e; cases e
theorem bound_runG : ∀ (w st : List Int), (runG w st).length ≤ st.length + w.length ∧ wsize (runG w st) ≤ wsize st + wsize w
  | [], st => ⟨Nat.le_refl _, Nat.le_refl _⟩
  | k :: w, st => by
    have h := bound_runG w (stepT k (stepG st))
    have a := len_stepT k (stepG_ne st)
    have b := len_stepG st
    have c := wsize_stepT k (stepG st)
    have d := wsize_stepG st
    refine ⟨?_, ?_⟩
    · show (runG w (stepT k (stepG st))).length ≤ st.length + (w.length + 1)
      omega
    · show wsize (runG w (stepT k (stepG st))) ≤ wsize st + (k.natAbs + wsize w)
      omega
theorem bound_runS (w : List Int) (h : w ≠ []) : (runS w [0]).length ≤ w.length ∧ wsize (runS w [0]) ≤ wsize w := by
  match w, h with
  | k :: w, _ =>
    have h := bound_runG w (stepT k [0])
    have c := wsize_stepT k [0]
    have e : wsize [0] = 0 := rfl
    refine ⟨?_, ?_⟩
    · show (runG w (stepT k [0])).length ≤ w.length + 1
      have : (stepT k [0]).length = 1 := rfl
      omega
    · show wsize (runG w (stepT k [0])) ≤ k.natAbs + wsize w
      omega
theorem wsize_append : ∀ (u v : List Int), wsize (u ++ v) = wsize u + wsize v
  | [], v => by
    show wsize v = 0 + wsize v
    omega
  | k :: u, v => by
    show k.natAbs + wsize (u ++ v) = k.natAbs + wsize u + wsize v
    rw [wsize_append u v]
    omega
theorem wsize_reverse : ∀ (u : List Int), wsize u.reverse = wsize u
  | [] => rfl
  | k :: u => by
    rw [List.reverse_cons, wsize_append, wsize_reverse u]
    show wsize u + (k.natAbs + wsize []) = k.natAbs + wsize u
    show wsize u + (k.natAbs + 0) = k.natAbs + wsize u
    omega
theorem wsize_wneg : ∀ (u : List Int), wsize (wneg u) = wsize u
  | [] => rfl
  | k :: u => by
    rw [wneg_cons, wsize_append, wsize_wneg u]
    show wsize u + ((-k).natAbs + 0) = k.natAbs + wsize u
    omega
theorem wneg_length (u : List Int) : (wneg u).length = u.length := by
  unfold wneg
  rw [List.length_reverse, List.length_map]
/-- the joined walk of u and of u followed by s, both ways: no longer than s -/
theorem joined_bound {u s : List Int} (hu : u ≠ []) (hs : s ≠ []) : (red (cat (wneg u) (cat u s))).length ≤ s.length ∧ wsize (red (cat (wneg u) (cat u s))) ≤ wsize s := by
  have n0 : NF [0] := trivial
  rw [red_run _ (cat_ne (wneg_ne hu)), List.length_reverse, wsize_reverse, runS_cat _ _ n0 (wneg_ne hu) (cat_ne hu), runS_cat _ _ (nf_runS _ n0) hu hs, run_forth u n0 hu]
  exact bound_runS s hs
theorem joined_bound' {u s : List Int} (hu : u ≠ []) (hs : s ≠ []) : (red (cat (wneg (cat u s)) u)).length ≤ s.length ∧ wsize (red (cat (wneg (cat u s)) u)) ≤ wsize s := by
  have n0 : NF [0] := trivial
  rw [red_run _ (cat_ne (wneg_ne (cat_ne hu))), List.length_reverse, wsize_reverse, wneg_cat hu hs, runS_cat _ _ n0 (cat_ne (wneg_ne hs)) hu, runS_cat _ _ n0 (wneg_ne hs) (wneg_ne hu),
    run_forth u (nf_runS _ n0) hu]
  have h := bound_runS (wneg s) (wneg_ne hs)
  rw [wneg_length, wsize_wneg] at h
  exact h
theorem joined_self {u : List Int} (hu : u ≠ []) : red (cat (wneg u) u) = [0] := by
  have n0 : NF [0] := trivial
  rw [red_run _ (cat_ne (wneg_ne hu)), runS_cat _ _ n0 (wneg_ne hu) hu, run_forth u n0 hu]
  rfl

/-! ### the step polynomials -/
/-- the coefficient of z^i in S(k) -/
def Sc : Nat → Nat → Int
  | 0, _ => 0
  | 1, i => if i = 0 then 1 else 0
  | k + 2, 0 => - Sc k 0
  | k + 2, i + 1 => Sc (k + 1) i - Sc k (i + 1)
theorem Sc_top : ∀ (k i : Nat), k ≤ i → Sc k i = 0
  | 0, _, _ => by unfold Sc; rfl
  | 1, i, h => by
    unfold Sc
    rw [if_neg (by omega)]
  | k + 2, 0, h => by omega
  | k + 2, i + 1, h => by
    rw [Sc, Sc_top (k + 1) i (by omega), Sc_top k (i + 1) (by omega)]
    rfl
theorem Sc_lead : ∀ k : Nat, Sc (k + 1) k = 1
  | 0 => by rw [Sc]; rfl
  | k + 1 => by
    rw [Sc, Sc_lead k, Sc_top k (k + 1) (by omega)]
    rfl
/-! ### shifts, the operators of a floor -/
def shx (f : C) : C := fun i j => match i with
  | 0 => 0
  | i + 1 => f i j
def shy (f : C) : C := fun i j => match j with
  | 0 => 0
  | j + 1 => f i j
def Xp (p : Nat) (f : C) : C := fun i j => shx f i j - Sc p i * f (p - 2) j
def Yq (q : Nat) (f : C) : C := fun i j => shy f i j - Sc q j * f i (q - 2)
theorem shx_add (f g : C) : shx (f + g) = shx f + shx g := C.ext fun i j => by cases i <;> rfl
theorem shy_add (f g : C) : shy (f + g) = shy f + shy g := C.ext fun i j => by cases j <;> rfl
theorem shx_neg (f : C) : shx (-f) = -shx f := C.ext fun i j => by cases i <;> rfl
theorem shy_neg (f : C) : shy (-f) = -shy f := C.ext fun i j => by cases j <;> rfl
theorem shxy (f : C) : shx (shy f) = shy (shx f) := C.ext fun i j => by cases i <;> cases j <;> rfl
theorem Xp_add (p : Nat) (f g : C) : Xp p (f + g) = Xp p f + Xp p g := C.ext fun i j => by
  show shx (f + g) i j - Sc p i * (f (p - 2) j + g (p - 2) j) = (shx f i j - Sc p i * f (p - 2) j) + (shx g i j - Sc p i * g (p - 2) j)
  rw [shx_add, C.add_at, Int.mul_add]
  omega
theorem Yq_add (p : Nat) (f g : C) : Yq p (f + g) = Yq p f + Yq p g := C.ext fun i j => by
  show shy (f + g) i j - Sc p j * (f i (p - 2) + g i (p - 2)) = (shy f i j - Sc p j * f i (p - 2)) + (shy g i j - Sc p j * g i (p - 2))
  rw [shy_add, C.add_at, Int.mul_add]
  omega
theorem Xp_neg (p : Nat) (f : C) : Xp p (-f) = -Xp p f := C.ext fun i j => by
  show shx (-f) i j - Sc p i * (-f (p - 2) j) = -(shx f i j - Sc p i * f (p - 2) j)
  rw [shx_neg, C.neg_at, Int.mul_neg]
  omega
theorem Yq_neg (p : Nat) (f : C) : Yq p (-f) = -Yq p f := C.ext fun i j => by
  show shy (-f) i j - Sc p j * (-f i (p - 2)) = -(shy f i j - Sc p j * f i (p - 2))
  rw [shy_neg, C.neg_at, Int.mul_neg]
  omega
theorem XpYq (p q : Nat) (f : C) : Xp p (Yq q f) = Yq q (Xp p f) := C.ext fun i j => by
  show shx (Yq q f) i j - Sc p i * (shy f (p - 2) j - Sc q j * f (p - 2) (q - 2)) = shy (Xp p f) i j - Sc q j * (shx f i (q - 2) - Sc p i * f (p - 2) (q - 2))
  rw [Int.mul_sub, Int.mul_sub, Int.mul_left_comm (Sc p i) (Sc q j)]
  have e1 : shx (Yq q f) i j = shx (shy f) i j - Sc q j * shx f i (q - 2) := by
    cases i with
    | zero =>
      show (0 : Int) = shx (shy f) 0 j - Sc q j * 0
      rw [Int.mul_zero]
      rfl
    | succ i => rfl
  have e2 : shy (Xp p f) i j = shy (shx f) i j - Sc p i * shy f (p - 2) j := by
    cases j with
    | zero =>
      show (0 : Int) = shy (shx f) i 0 - Sc p i * 0
      rw [Int.mul_zero]
      rfl
    | succ j => rfl
  rw [e1, e2, shxy]
  omega
/-- polynomials; a floor -/
def Po : Ops := ⟨shx, shy, shx_add, shx_neg, shy_add, shy_neg, shxy⟩
def Fl (p q : Nat) : Ops := ⟨Xp p, Yq q, Xp_add p, Xp_neg p, Yq_add q, Yq_neg q, XpYq p q⟩
end K5
/-! K5Mathc: rests; a floor's operators on its box; V^q. -/
namespace K5
/-! ### where a coefficient function lives -/
/-- nothing at i ≥ n and nothing at j ≥ m -/
def Sup (n m : Nat) (f : C) : Prop := ∀ i j, (n ≤ i ∨ m ≤ j) → f i j = 0
theorem Sup.mono {n m n' m' : Nat} {f : C} (h : Sup n m f) (hn : n ≤ n') (hm : m ≤ m') : Sup n' m' f := fun i j e => h i j (e.elim (fun e => .inl (by omega)) fun e => .inr (by omega))
theorem Sup.zero (n m : Nat) : Sup n m 0 := fun _ _ _ => rfl
theorem Sup.add {n m : Nat} {f g : C} (hf : Sup n m f) (hg : Sup n m g) : Sup n m (f + g) := fun i j e => by rw [C.add_at, hf i j e, hg i j e]; rfl
theorem Sup.sub {n m : Nat} {f g : C} (hf : Sup n m f) (hg : Sup n m g) : Sup n m (f - g) := fun i j e => by rw [C.sub_at, hf i j e, hg i j e]; rfl
theorem Sup.neg {n m : Nat} {f : C} (hf : Sup n m f) : Sup n m (-f) := fun i j e => by rw [C.neg_at, hf i j e]; rfl
theorem Sup.shx {n m : Nat} {f : C} (hf : Sup n m f) : Sup (n + 1) m (shx f) := fun i j e => by
  cases i with
  | zero => rfl
  | succ i => exact hf i j (e.elim (fun e => .inl (by omega)) .inr)
theorem Sup.shy {n m : Nat} {f : C} (hf : Sup n m f) : Sup n (m + 1) (shy f) := fun i j e => by
  cases j with
  | zero => rfl
  | succ j => exact hf i j (e.elim .inl fun e => .inr (by omega))
theorem Sup.Xp {p m : Nat} {f : C} (h2 : 2 ≤ p) (hf : Sup (p - 1) m f) : Sup (p - 1) m (Xp p f) := fun i j e => by
  show K5.shx f i j - Sc p i * f (p - 2) j = 0
  rcases e with e | e
  · by_cases ei : i = p - 1
    · subst ei
      have e1 : K5.shx f (p - 1) j = f (p - 2) j := by
        obtain ⟨r, rfl⟩ : ∃ r, p = r + 2 := ⟨p - 2, by omega⟩
        rfl
      have e2 : Sc p (p - 1) = 1 := by
        obtain ⟨r, rfl⟩ : ∃ r, p = r + 1 := ⟨p - 1, by omega⟩
        exact Sc_lead r
      rw [e1, e2]
      omega
    · rw [Sc_top p i (by omega)]
      cases i with
      | zero => omega
      | succ i =>
        show f i j - 0 * f (p - 2) j = 0
        rw [hf i j (.inl (by omega))]
        omega
  · rw [hf (p - 2) j (.inr e)]
    cases i with
    | zero =>
      show 0 - Sc p 0 * 0 = 0
      omega
    | succ i =>
      show f i j - Sc p (i + 1) * 0 = 0
      rw [hf i j (.inr e)]
      omega
theorem Sup.Yq {q n : Nat} {f : C} (h2 : 2 ≤ q) (hf : Sup n (q - 1) f) : Sup n (q - 1) (Yq q f) := fun i j e => by
  show K5.shy f i j - Sc q j * f i (q - 2) = 0
  rcases e with e | e
  · rw [hf i (q - 2) (.inl e)]
    cases j with
    | zero =>
      show 0 - Sc q 0 * 0 = 0
      omega
    | succ j =>
      show f i j - Sc q (j + 1) * 0 = 0
      rw [hf i j (.inl e)]
      omega
  · by_cases ei : j = q - 1
    · subst ei
      have e1 : K5.shy f i (q - 1) = f i (q - 2) := by
        obtain ⟨r, rfl⟩ : ∃ r, q = r + 2 := ⟨q - 2, by omega⟩
        rfl
      have e2 : Sc q (q - 1) = 1 := by
        obtain ⟨r, rfl⟩ : ∃ r, q = r + 1 := ⟨q - 1, by omega⟩
        exact Sc_lead r
      rw [e1, e2]
      omega
    · rw [Sc_top q j (by omega)]
      cases j with
      | zero => omega
      | succ j =>
        show f i j - 0 * f i (q - 2) = 0
        rw [hf i j (.inr (by omega))]
        omega
/-- where the power p - 2 is not, X is the shift -/
theorem Xp_shift {p : Nat} {f : C} (h : ∀ j, f (p - 2) j = 0) : Xp p f = shx f := C.ext fun i j => by
  show shx f i j - Sc p i * f (p - 2) j = shx f i j
  rw [h j]
  omega
theorem Yq_shift {q : Nat} {f : C} (h : ∀ i, f i (q - 2) = 0) : Yq q f = shy f := C.ext fun i j => by
  show shy f i j - Sc q j * f i (q - 2) = shy f i j
  rw [h i]
  omega

/-! ### the rest in x, the rest in y: by Horner's rule -/
def cstx (f : C) : C := fun i j => if i = 0 then f 0 j else 0
def tailx (f : C) : C := fun i j => f (i + 1) j
def csty (f : C) : C := fun i j => if j = 0 then f i 0 else 0
def taily (f : C) : C := fun i j => f i (j + 1)
def phx (p : Nat) : Nat → C → C
  | 0, _ => 0
  | n + 1, f => cstx f + Xp p (phx p n (tailx f))
def phy (q : Nat) : Nat → C → C
  | 0, _ => 0
  | n + 1, f => csty f + Yq q (phy q n (taily f))
theorem cstx_tailx (f : C) : cstx f + shx (tailx f) = f := C.ext fun i j => by
  cases i with
  | zero =>
    show (if (0 : Nat) = 0 then f 0 j else 0) + 0 = f 0 j
    rw [if_pos rfl]
    omega
  | succ i =>
    show (if i + 1 = 0 then f 0 j else 0) + f (i + 1) j = f (i + 1) j
    rw [if_neg (by omega)]
    omega
theorem csty_taily (f : C) : csty f + shy (taily f) = f := C.ext fun i j => by
  cases j with
  | zero =>
    show (if (0 : Nat) = 0 then f i 0 else 0) + 0 = f i 0
    rw [if_pos rfl]
    omega
  | succ j =>
    show (if j + 1 = 0 then f i 0 else 0) + f i (j + 1) = f i (j + 1)
    rw [if_neg (by omega)]
    omega
theorem Xp_zero (p : Nat) : Xp p 0 = 0 := (Fl p 0).X0
theorem Yq_zero (q : Nat) : Yq q 0 = 0 := (Fl 0 q).Y0
theorem C.add_zero (f : C) : f + 0 = f := C.ext fun i j => by rw [C.add_at, C.zero_at]; omega
theorem C.zero_add (f : C) : 0 + f = f := C.ext fun i j => by rw [C.add_at, C.zero_at]; omega
theorem cstx_add (f g : C) : cstx (f + g) = cstx f + cstx g := C.ext fun i j => by
  show (if i = 0 then f 0 j + g 0 j else 0) = (if i = 0 then f 0 j else 0) + (if i = 0 then g 0 j else 0)
  split <;> omega
theorem csty_add (f g : C) : csty (f + g) = csty f + csty g := C.ext fun i j => by
  show (if j = 0 then f i 0 + g i 0 else 0) = (if j = 0 then f i 0 else 0) + (if j = 0 then g i 0 else 0)
  split <;> omega
theorem cstx_neg (f : C) : cstx (-f) = -cstx f := C.ext fun i j => by
  show (if i = 0 then -f 0 j else 0) = -(if i = 0 then f 0 j else 0)
  split <;> omega
theorem csty_neg (f : C) : csty (-f) = -csty f := C.ext fun i j => by
  show (if j = 0 then -f i 0 else 0) = -(if j = 0 then f i 0 else 0)
  split <;> omega
/-- f + g, in other order -/
theorem C.add4 (a b c d : C) : (a + b) + (c + d) = (a + c) + (b + d) := C.ext fun i j => by simp only [C.add_at]; omega
theorem C.neg_add (a b : C) : -(a + b) = -a + -b := C.ext fun i j => by simp only [C.add_at, C.neg_at]; omega
theorem phx_add (p : Nat) : ∀ (n : Nat) (f g : C), phx p n (f + g) = phx p n f + phx p n g
  | 0, _, _ => by
    show (0 : C) = 0 + 0
    rw [C.add_zero]
  | n + 1, f, g => by
    show cstx (f + g) + Xp p (phx p n (tailx f + tailx g)) = (cstx f + Xp p (phx p n (tailx f))) + (cstx g + Xp p (phx p n (tailx g)))
    rw [phx_add p n, Xp_add, cstx_add, C.add4]
theorem phy_add (p : Nat) : ∀ (n : Nat) (f g : C), phy p n (f + g) = phy p n f + phy p n g
  | 0, _, _ => by
    show (0 : C) = 0 + 0
    rw [C.add_zero]
  | n + 1, f, g => by
    show csty (f + g) + Yq p (phy p n (taily f + taily g)) = (csty f + Yq p (phy p n (taily f))) + (csty g + Yq p (phy p n (taily g)))
    rw [phy_add p n, Yq_add, csty_add, C.add4]
theorem phx_neg (p : Nat) : ∀ (n : Nat) (f : C), phx p n (-f) = -phx p n f
  | 0, _ => by
    show (0 : C) = -0
    rw [C.neg_zero]
  | n + 1, f => by
    show cstx (-f) + Xp p (phx p n (-tailx f)) = -(cstx f + Xp p (phx p n (tailx f)))
    rw [phx_neg p n, Xp_neg, cstx_neg, C.neg_add]
theorem phy_neg (p : Nat) : ∀ (n : Nat) (f : C), phy p n (-f) = -phy p n f
  | 0, _ => by
    show (0 : C) = -0
    rw [C.neg_zero]
  | n + 1, f => by
    show csty (-f) + Yq p (phy p n (-taily f)) = -(csty f + Yq p (phy p n (taily f)))
    rw [phy_neg p n, Yq_neg, csty_neg, C.neg_add]
theorem phx_zero (p n : Nat) : phx p n 0 = 0 := by
  have h := phx_neg p n 0
  rw [C.neg_zero] at h
  exact C.ext fun i j => by
    have := congrFun (congrFun h i) j
    rw [C.neg_at] at this
    rw [C.zero_at]
    omega
theorem phy_zero (p n : Nat) : phy p n 0 = 0 := by
  have h := phy_neg p n 0
  rw [C.neg_zero] at h
  exact C.ext fun i j => by
    have := congrFun (congrFun h i) j
    rw [C.neg_at] at this
    rw [C.zero_at]
    omega
/-- the rest of x f -/
theorem phx_shx (p n : Nat) (f : C) : phx p (n + 1) (shx f) = Xp p (phx p n f) := by
  show cstx (shx f) + Xp p (phx p n f) = Xp p (phx p n f)
  have e : cstx (shx f) = 0 := C.ext fun i j => by
    show (if i = 0 then (0 : Int) else 0) = 0
    split <;> rfl
  rw [e, C.zero_add]
theorem phy_shy (p n : Nat) (f : C) : phy p (n + 1) (shy f) = Yq p (phy p n f) := by
  show csty (shy f) + Yq p (phy p n f) = Yq p (phy p n f)
  have e : csty (shy f) = 0 := C.ext fun i j => by
    show (if j = 0 then (0 : Int) else 0) = 0
    split <;> rfl
  rw [e, C.zero_add]
/-- more turns than the degree change nothing -/
theorem phx_more (p : Nat) : ∀ (n : Nat) (f : C), (∀ i j, n ≤ i → f i j = 0) → phx p (n + 1) f = phx p n f
  | 0, f, h => by
    show cstx f + Xp p 0 = 0
    have e : cstx f = 0 := C.ext fun i j => by
      show (if i = 0 then f 0 j else 0) = 0
      rw [h 0 j (Nat.zero_le _)]
      split <;> rfl
    rw [e, Xp_zero, C.zero_add]
  | n + 1, f, h => by
    show cstx f + Xp p (phx p (n + 1) (tailx f)) = cstx f + Xp p (phx p n (tailx f))
    rw [phx_more p n (tailx f) fun i j e => h (i + 1) j (by omega)]
theorem phy_more (p : Nat) : ∀ (n : Nat) (f : C), (∀ i j, n ≤ j → f i j = 0) → phy p (n + 1) f = phy p n f
  | 0, f, h => by
    show csty f + Yq p 0 = 0
    have e : csty f = 0 := C.ext fun i j => by
      show (if j = 0 then f i 0 else 0) = 0
      rw [h i 0 (Nat.zero_le _)]
      split <;> rfl
    rw [e, Yq_zero, C.zero_add]
  | n + 1, f, h => by
    show csty f + Yq p (phy p (n + 1) (taily f)) = csty f + Yq p (phy p n (taily f))
    rw [phy_more p n (taily f) fun i j e => h i (j + 1) (by omega)]
theorem phx_le (p : Nat) {n : Nat} {f : C} (h : ∀ i j, n ≤ i → f i j = 0) : ∀ m, n ≤ m → phx p m f = phx p n f := fun m hm => by
  induction hm with
  | refl => rfl
  | step hm ih => rw [phx_more p _ f fun i j e => h i j (Nat.le_trans hm e), ih]
theorem phy_le (p : Nat) {n : Nat} {f : C} (h : ∀ i j, n ≤ j → f i j = 0) : ∀ m, n ≤ m → phy p m f = phy p n f := fun m hm => by
  induction hm with
  | refl => rfl
  | step hm ih => rw [phy_more p _ f fun i j e => h i j (Nat.le_trans hm e), ih]
/-- what lies below p - 1 is its own rest -/
theorem phx_self (p : Nat) : ∀ (n : Nat) (f : C), n ≤ p - 1 → (∀ i j, n ≤ i → f i j = 0) → phx p n f = f
  | 0, f, _, h => C.ext fun i j => (h i j (Nat.zero_le _)).symm
  | n + 1, f, hn, h => by
    show cstx f + Xp p (phx p n (tailx f)) = f
    rw [phx_self p n (tailx f) (by omega) fun i j e => h (i + 1) j (by omega)]
    rw [Xp_shift fun j => h (p - 2 + 1) j (by omega), cstx_tailx]
theorem phy_self (p : Nat) : ∀ (n : Nat) (f : C), n ≤ p - 1 → (∀ i j, n ≤ j → f i j = 0) → phy p n f = f
  | 0, f, _, h => C.ext fun i j => (h i j (Nat.zero_le _)).symm
  | n + 1, f, hn, h => by
    show csty f + Yq p (phy p n (taily f)) = f
    rw [phy_self p n (taily f) (by omega) fun i j e => h i (j + 1) (by omega)]
    rw [Yq_shift fun i => h i (p - 2 + 1) (by omega), csty_taily]
/-- the rests lie in the box -/
theorem phx_sup (p : Nat) (h2 : 2 ≤ p) : ∀ (n m : Nat) (f : C), (∀ i j, m ≤ j → f i j = 0) → Sup (p - 1) m (phx p n f)
  | 0, m, f, _ => Sup.zero _ _
  | n + 1, m, f, h => by
    refine Sup.add (fun i j e => ?_) (Sup.Xp h2 (phx_sup p h2 n m (tailx f) fun i j e => h (i + 1) j e))
    show (if i = 0 then f 0 j else 0) = 0
    rcases e with e | e
    · rw [if_neg (by omega)]
    · rw [h 0 j e]
      split <;> rfl
theorem phy_sup (q : Nat) (h2 : 2 ≤ q) : ∀ (n m : Nat) (f : C), (∀ i j, m ≤ i → f i j = 0) → Sup m (q - 1) (phy q n f)
  | 0, m, f, _ => Sup.zero _ _
  | n + 1, m, f, h => by
    refine Sup.add (fun i j e => ?_) (Sup.Yq h2 (phy_sup q h2 n m (taily f) fun i j e => h i (j + 1) e))
    show (if j = 0 then f i 0 else 0) = 0
    rcases e with e | e
    · rw [h i 0 e]
      split <;> rfl
    · rw [if_neg (by omega)]
/-- the rest in x of y f; the rest in y of X f -/
theorem phx_shy (p : Nat) : ∀ (n : Nat) (f : C), phx p n (shy f) = shy (phx p n f)
  | 0, f => Po.Y0.symm
  | n + 1, f => by
    show cstx (shy f) + Xp p (phx p n (shy (tailx f))) = shy (cstx f + Xp p (phx p n (tailx f)))
    have e : cstx (shy f) = shy (cstx f) := C.ext fun i j => by
      cases j with
      | zero =>
        show (if i = 0 then (0 : Int) else 0) = 0
        split <;> rfl
      | succ j => rfl
    have e2 : ∀ g : C, Xp p (shy g) = shy (Xp p g) := fun g => C.ext fun i j => by
      cases j with
      | zero =>
        show shx (shy g) i 0 - Sc p i * 0 = 0
        cases i <;> simp [shx, shy]
      | succ j =>
        show shx (shy g) i (j + 1) - Sc p i * g (p - 2) j = shx g i j - Sc p i * g (p - 2) j
        cases i <;> rfl
    rw [phx_shy p n, e, e2, shy_add]
theorem phy_Xp (p q : Nat) : ∀ (n : Nat) (f : C), phy q n (Xp p f) = Xp p (phy q n f)
  | 0, f => (Xp_zero p).symm
  | n + 1, f => by
    show csty (Xp p f) + Yq q (phy q n (Xp p (taily f))) = Xp p (csty f + Yq q (phy q n (taily f)))
    have e : csty (Xp p f) = Xp p (csty f) := C.ext fun i j => by
      show (if j = 0 then shx f i 0 - Sc p i * f (p - 2) 0 else 0) = shx (csty f) i j - Sc p i * (if j = 0 then f (p - 2) 0 else 0)
      cases i with
      | zero =>
        show (if j = 0 then 0 - Sc p 0 * f (p - 2) 0 else 0) = 0 - Sc p 0 * (if j = 0 then f (p - 2) 0 else 0)
        split <;> simp
      | succ i =>
        show (if j = 0 then f i 0 - Sc p (i + 1) * f (p - 2) 0 else 0) = (if j = 0 then f i 0 else 0) - Sc p (i + 1) * (if j = 0 then f (p - 2) 0 else 0)
        split <;> simp
    rw [phy_Xp p q n, e, Xp_add, XpYq]
theorem phx_y (p : Nat) : ∀ (n m : Nat) (f : C), (∀ i j, m ≤ j → f i j = 0) → ∀ i j, m ≤ j → phx p n f i j = 0
  | 0, _, _, _, _, _, _ => rfl
  | n + 1, m, f, h, i, j, e => by
    show (if i = 0 then f 0 j else 0) + (shx (phx p n (tailx f)) i j - Sc p i * phx p n (tailx f) (p - 2) j) = 0
    have ih := phx_y p n m (tailx f) (fun i j e => h (i + 1) j e)
    rw [h 0 j e, ih (p - 2) j e]
    cases i with
    | zero =>
      show (if (0 : Nat) = 0 then (0 : Int) else 0) + (0 - Sc p 0 * 0) = 0
      simp
    | succ i =>
      show (if i + 1 = 0 then (0 : Int) else 0) + (phx p n (tailx f) i j - Sc p (i + 1) * 0) = 0
      rw [ih i j e]
      simp
/-- a multiple of S(p) x^at, taken away, leaves the rest as it was -/
def mulS (p at_ : Nat) (g : Nat → Int) : C := fun i j => if at_ ≤ i then Sc p (i - at_) * g j else 0
theorem phx_mulS (p : Nat) (h2 : 2 ≤ p) (g : Nat → Int) : ∀ (at_ n : Nat), at_ + p ≤ n → phx p n (mulS p at_ g) = 0
  | 0, n, hn => by
    -- S(p) g = x (x^(p-2) g) + lower
    have hs : ∀ i j, p ≤ i → mulS p 0 g i j = 0 := fun i j e => by
      show (if 0 ≤ i then Sc p (i - 0) * g j else 0) = 0
      rw [if_pos (Nat.zero_le _), Sc_top p (i - 0) (by omega)]
      omega
    rw [phx_le p hs n (by omega)]
    let mono : C := fun i j => if i = p - 2 then g j else 0
    let low : C := fun i j => if i < p - 1 then Sc p i * g j else 0
    have e : mulS p 0 g = shx mono + low := C.ext fun i j => by
      show (if 0 ≤ i then Sc p (i - 0) * g j else 0) = shx mono i j + (if i < p - 1 then Sc p i * g j else 0)
      rw [if_pos (Nat.zero_le _), Nat.sub_zero]
      cases i with
      | zero =>
        show Sc p 0 * g j = 0 + (if 0 < p - 1 then Sc p 0 * g j else 0)
        rw [if_pos (by omega)]
        omega
      | succ i =>
        show Sc p (i + 1) * g j = (if i = p - 2 then g j else 0) + (if i + 1 < p - 1 then Sc p (i + 1) * g j else 0)
        by_cases h1 : i = p - 2
        · rw [if_pos h1, if_neg (by omega)]
          obtain ⟨r, rfl⟩ : ∃ r, p = r + 2 := ⟨p - 2, by omega⟩
          have h1' : i = r := by omega
          subst h1'
          rw [show i + 2 = (i + 1) + 1 from rfl, Sc_lead (i + 1)]
          omega
        · rw [if_neg h1]
          by_cases h3 : i + 1 < p - 1
          · rw [if_pos h3]
            omega
          · rw [if_neg h3, Sc_top p (i + 1) (by omega)]
            omega
    obtain ⟨r, hr⟩ : ∃ r, p = r + 1 := ⟨p - 1, by omega⟩
    have hlow : phx p p low = low := by
      have z : ∀ i j, p - 1 ≤ i → low i j = 0 := fun i j e => by
        show (if i < p - 1 then Sc p i * g j else 0) = 0
        rw [if_neg (by omega)]
      rw [phx_le p z p (by omega), phx_self p (p - 1) low (Nat.le_refl _) z]
    have hm : phx p p (shx mono) = Xp p mono := by
      have z : ∀ i j, p - 1 ≤ i → mono i j = 0 := fun i j e => by
        show (if i = p - 2 then g j else 0) = 0
        rw [if_neg (by omega)]
      have q : phx p ((p - 1) + 1) (shx mono) = Xp p (phx p (p - 1) mono) := phx_shx p (p - 1) mono
      rw [show p - 1 + 1 = p by omega] at q
      rw [q, phx_self p (p - 1) mono (Nat.le_refl _) z]
    rw [e, phx_add, hm, hlow]
    refine C.ext fun i j => ?_
    show (shx mono i j - Sc p i * mono (p - 2) j) + low i j = 0
    have e0 := congrFun (congrFun e i) j
    have e1 : mulS p 0 g i j = Sc p i * g j := by
      show (if 0 ≤ i then Sc p (i - 0) * g j else 0) = Sc p i * g j
      rw [if_pos (Nat.zero_le _), Nat.sub_zero]
    have e2 : mono (p - 2) j = g j := if_pos rfl
    have e3 : (shx mono + low) i j = shx mono i j + low i j := rfl
    rw [e2]
    rw [e1, e3] at e0
    omega
  | at_ + 1, n, hn => by
    obtain ⟨m, rfl⟩ : ∃ m, n = m + 1 := ⟨n - 1, by omega⟩
    have e : mulS p (at_ + 1) g = shx (mulS p at_ g) := C.ext fun i j => by
      cases i with
      | zero =>
        show (if at_ + 1 ≤ 0 then _ else (0 : Int)) = 0
        rw [if_neg (by omega)]
      | succ i =>
        show (if at_ + 1 ≤ i + 1 then Sc p (i + 1 - (at_ + 1)) * g j else 0) = (if at_ ≤ i then Sc p (i - at_) * g j else 0)
        by_cases h : at_ ≤ i
        · rw [if_pos h, if_pos (by omega), show i + 1 - (at_ + 1) = i - at_ by omega]
        · rw [if_neg h, if_neg (by omega)]
    rw [e, phx_shx, phx_mulS p h2 g at_ m (by omega), Xp_zero]
end K5
/-! K5Mathd: the number of a walk and its rests on a floor; turns modulo 2q; ending at the same thing. -/
namespace K5
/-! ### four at once -/
def Sup4 (n n' m : Nat) (z : N4) : Prop := Sup n m z.a ∧ Sup n m z.b ∧ Sup n' m z.c ∧ Sup n' m z.d
def one : N4 := ⟨fun i j => if i = 0 ∧ j = 0 then 1 else 0, 0, 0, 0⟩
theorem sup4_one : Sup4 1 0 1 one := by
  refine ⟨fun i j e => ?_, Sup.zero _ _, Sup.zero _ _, Sup.zero _ _⟩
  show (if i = 0 ∧ j = 0 then (1 : Int) else 0) = 0
  rw [if_neg (by omega)]
/-- degrees: behind g goes at most g in x for the first two, g - 1 for the others; in y at most the size -/
theorem sup4_T {g m : Nat} {z : N4} (h : Sup4 (g + 1) g m z) : Sup4 (g + 1) g (m + 1) (T Po z) := by
  obtain ⟨ha, hb, hc, hd⟩ := h
  refine ⟨(Sup.shx hc).mono (Nat.le_refl _) (by omega) |>.sub (hb.mono (Nat.le_refl _) (by omega)), ?_, (Sup.shy hc).add (hd.mono (Nat.le_refl _) (by omega)), (hc.mono (Nat.le_refl _) (by omega)).neg⟩
  exact ((ha.mono (Nat.le_refl _) (by omega)).add (Sup.shy hb)).add ((Sup.shx hd).mono (Nat.le_refl _) (by omega))
theorem sup4_R {g m : Nat} {z : N4} (h : Sup4 (g + 1) g m z) : Sup4 (g + 1) g (m + 1) (R Po z) := by
  obtain ⟨ha, hb, hc, hd⟩ := h
  refine ⟨((Sup.shy ha).add (hb.mono (Nat.le_refl _) (by omega))).sub ((Sup.shx hc).mono (Nat.le_refl _) (by omega)), ?_, (hd.mono (Nat.le_refl _) (by omega)).neg, (hc.mono (Nat.le_refl _) (by omega)).add (Sup.shy hd)⟩
  exact ((ha.mono (Nat.le_refl _) (by omega)).add ((Sup.shx hd).mono (Nat.le_refl _) (by omega))).neg
theorem sup4_G {g m : Nat} {z : N4} (h : Sup4 (g + 1) g m z) : Sup4 (g + 2) (g + 1) m (G z) := by
  obtain ⟨ha, hb, hc, hd⟩ := h
  exact ⟨hc.neg.mono (by omega) (Nat.le_refl _), hd.neg.mono (by omega) (Nat.le_refl _), ha, hb⟩
theorem Sup4.mono {n n' m k k' l : Nat} {z : N4} (h : Sup4 n n' m z) (h1 : n ≤ k) (h2 : n' ≤ k') (h3 : m ≤ l) : Sup4 k k' l z :=
  ⟨h.1.mono h1 h3, h.2.1.mono h1 h3, h.2.2.1.mono h2 h3, h.2.2.2.mono h2 h3⟩
theorem sup4_Tn {g : Nat} : ∀ (k m : Nat) {z : N4}, Sup4 (g + 1) g m z → Sup4 (g + 1) g (m + k) (Tn Po k z)
  | 0, _, _, h => h
  | k + 1, m, z, h => by
    have := sup4_Tn k (m + 1) (sup4_T h)
    rwa [show m + 1 + k = m + (k + 1) by omega] at this
theorem sup4_Rn {g : Nat} : ∀ (k m : Nat) {z : N4}, Sup4 (g + 1) g m z → Sup4 (g + 1) g (m + k) (Rn Po k z)
  | 0, _, _, h => h
  | k + 1, m, z, h => by
    have := sup4_Rn k (m + 1) (sup4_R h)
    rwa [show m + 1 + k = m + (k + 1) by omega] at this
theorem sup4_turn {g m : Nat} (k : Int) {z : N4} (h : Sup4 (g + 1) g m z) : Sup4 (g + 1) g (m + k.natAbs) (turnK Po k z) := by
  unfold turnK
  split
  · rw [show k.natAbs = k.toNat by omega]
    exact sup4_Tn _ m h
  · rw [show k.natAbs = (-k).toNat by omega]
    exact sup4_Rn _ m h
theorem sup4_actG : ∀ (w : List Int) (g m : Nat) {z : N4}, Sup4 (g + 1) g m z → Sup4 (g + w.length + 1) (g + w.length) (m + wsize w) (actG Po w z)
  | [], _, _, _, h => h
  | k :: w, g, m, z, h => by
    have := sup4_actG w (g + 1) (m + k.natAbs) (sup4_turn k (sup4_G h))
    show Sup4 (g + (w.length + 1) + 1) (g + (w.length + 1)) (m + (k.natAbs + wsize w)) _
    rwa [show g + 1 + w.length = g + (w.length + 1) by omega, show m + k.natAbs + wsize w = m + (k.natAbs + wsize w) by omega] at this
/-- the number of a walk: w.length = goes + 1 -/
theorem sup4_act (w : List Int) (h : w ≠ []) : Sup4 w.length (w.length - 1) (wsize w + 1) (act Po w one) := by
  match w, h with
  | k :: w, _ =>
    have h := sup4_actG w 0 (1 + k.natAbs) (sup4_turn k sup4_one)
    show Sup4 (w.length + 1) (w.length + 1 - 1) (k.natAbs + wsize w + 1) (actG Po w (turnK Po k one))
    rw [Nat.zero_add] at h
    rwa [show k.natAbs + wsize w + 1 = 1 + k.natAbs + wsize w by omega]

/-! ### rests of the four -/
/-- the rest: first in x, then in y (degrees below 64) -/
def rst (p q : Nat) (f : C) : C := phy q 64 (phx p 64 f)
def rst4 (p q : Nat) (z : N4) : N4 := ⟨rst p q z.a, rst p q z.b, rst p q z.c, rst p q z.d⟩
theorem rst_add (p q : Nat) (f g : C) : rst p q (f + g) = rst p q f + rst p q g := by
  unfold rst
  rw [phx_add, phy_add]
theorem rst_neg (p q : Nat) (f : C) : rst p q (-f) = -rst p q f := by
  unfold rst
  rw [phx_neg, phy_neg]
theorem C.sub_eq (f g : C) : f - g = f + -g := C.ext fun i j => by rw [C.sub_at, C.add_at, C.neg_at]; omega
theorem rst_sub (p q : Nat) (f g : C) : rst p q (f - g) = rst p q f - rst p q g := by
  rw [C.sub_eq, C.sub_eq, rst_add, rst_neg]
theorem rst_zero (p q : Nat) : rst p q 0 = 0 := by
  unfold rst
  rw [phx_zero, phy_zero]
theorem rst_shx {p q n m : Nat} {f : C} (h : Sup n m f) (hn : n < 64) : rst p q (shx f) = Xp p (rst p q f) := by
  unfold rst
  have e : phx p 64 (shx f) = Xp p (phx p 64 f) := by
    have z : phx p 64 f = phx p 63 f := by
      rw [phx_le p (n := n) (fun i j e => h i j (.inl e)) 64 (by omega), phx_le p (n := n) (fun i j e => h i j (.inl e)) 63 (by omega)]
    rw [z]
    exact phx_shx p 63 f
  rw [e, phy_Xp]
theorem rst_shy {p q n m : Nat} {f : C} (h : Sup n m f) (hm : m < 64) : rst p q (shy f) = Yq q (rst p q f) := by
  unfold rst
  rw [phx_shy]
  have hz : ∀ i j, m ≤ j → phx p 64 f i j = 0 := phx_y p 64 m f fun i j e => h i j (.inr e)
  have z : phy q 64 (phx p 64 f) = phy q 63 (phx p 64 f) := by
    rw [phy_le q hz 64 (by omega), phy_le q hz 63 (by omega)]
  rw [z]
  exact phy_shy q 63 (phx p 64 f)
theorem rst4_T {p q n n' m : Nat} {z : N4} (h : Sup4 n n' m z) (hn : n < 64) (hn' : n' < 64) (hm : m < 64) : rst4 p q (T Po z) = T (Fl p q) (rst4 p q z) := by
  obtain ⟨ha, hb, hc, hd⟩ := h
  refine N4.ext' ?_ ?_ ?_ ?_
  · show rst p q (shx z.c - z.b) = Xp p (rst p q z.c) - rst p q z.b
    rw [rst_sub, rst_shx hc hn']
  · show rst p q ((z.a + shy z.b) + shx z.d) = (rst p q z.a + Yq q (rst p q z.b)) + Xp p (rst p q z.d)
    rw [rst_add, rst_add, rst_shy hb hm, rst_shx hd hn']
  · show rst p q (shy z.c + z.d) = Yq q (rst p q z.c) + rst p q z.d
    rw [rst_add, rst_shy hc hm]
  · show rst p q (-z.c) = -rst p q z.c
    exact rst_neg p q _
theorem rst4_R {p q n n' m : Nat} {z : N4} (h : Sup4 n n' m z) (hn : n < 64) (hn' : n' < 64) (hm : m < 64) : rst4 p q (R Po z) = R (Fl p q) (rst4 p q z) := by
  obtain ⟨ha, hb, hc, hd⟩ := h
  refine N4.ext' ?_ ?_ ?_ ?_
  · show rst p q ((shy z.a + z.b) - shx z.c) = (Yq q (rst p q z.a) + rst p q z.b) - Xp p (rst p q z.c)
    rw [rst_sub, rst_add, rst_shy ha hm, rst_shx hc hn']
  · show rst p q (-(z.a + shx z.d)) = -(rst p q z.a + Xp p (rst p q z.d))
    rw [rst_neg, rst_add, rst_shx hd hn']
  · show rst p q (-z.d) = -rst p q z.d
    exact rst_neg p q _
  · show rst p q (z.c + shy z.d) = rst p q z.c + Yq q (rst p q z.d)
    rw [rst_add, rst_shy hd hm]
theorem rst4_G (p q : Nat) (z : N4) : rst4 p q (G z) = G (rst4 p q z) := by
  refine N4.ext' (rst_neg p q _) (rst_neg p q _) rfl rfl
theorem rst4_Tn {p q g : Nat} : ∀ (k m : Nat) {z : N4}, Sup4 (g + 1) g m z → g + 1 < 64 → m + k < 64 → rst4 p q (Tn Po k z) = Tn (Fl p q) k (rst4 p q z)
  | 0, _, _, _, _, _ => rfl
  | k + 1, m, z, h, hg, hm => by
    show rst4 p q (Tn Po k (T Po z)) = Tn (Fl p q) k (T (Fl p q) (rst4 p q z))
    rw [rst4_Tn k (m + 1) (sup4_T h) hg (by omega), rst4_T h hg (by omega) (by omega)]
theorem rst4_Rn {p q g : Nat} : ∀ (k m : Nat) {z : N4}, Sup4 (g + 1) g m z → g + 1 < 64 → m + k < 64 → rst4 p q (Rn Po k z) = Rn (Fl p q) k (rst4 p q z)
  | 0, _, _, _, _, _ => rfl
  | k + 1, m, z, h, hg, hm => by
    show rst4 p q (Rn Po k (R Po z)) = Rn (Fl p q) k (R (Fl p q) (rst4 p q z))
    rw [rst4_Rn k (m + 1) (sup4_R h) hg (by omega), rst4_R h hg (by omega) (by omega)]
theorem rst4_turn {p q g m : Nat} (k : Int) {z : N4} (h : Sup4 (g + 1) g m z) (hg : g + 1 < 64) (hm : m + k.natAbs < 64) : rst4 p q (turnK Po k z) = turnK (Fl p q) k (rst4 p q z) := by
  unfold turnK
  split
  · exact rst4_Tn _ m h hg (by omega)
  · exact rst4_Rn _ m h hg (by omega)
theorem rst4_actG {p q : Nat} : ∀ (w : List Int) (g m : Nat) {z : N4}, Sup4 (g + 1) g m z → g + w.length + 1 < 64 → m + wsize w < 64 → rst4 p q (actG Po w z) = actG (Fl p q) w (rst4 p q z)
  | [], _, _, _, _, _, _ => rfl
  | k :: w, g, m, z, h, hg, hm => by
    have hg : g + (w.length + 1) + 1 < 64 := hg
    have hm : m + (k.natAbs + wsize w) < 64 := hm
    show rst4 p q (actG Po w (turnK Po k (G z))) = actG (Fl p q) w (turnK (Fl p q) k (G (rst4 p q z)))
    rw [rst4_actG w (g + 1) (m + k.natAbs) (sup4_turn k (sup4_G h)) (by omega) (by omega), rst4_turn k (sup4_G h) (by omega) (by omega), rst4_G]
theorem rst_self {p q : Nat} {f : C} (hp : p ≤ 64) (hq : q ≤ 64) (h : Sup (p - 1) (q - 1) f) : rst p q f = f := by
  unfold rst
  have h1 : ∀ i j, p - 1 ≤ i → f i j = 0 := fun i j e => h i j (.inl e)
  have h2 : ∀ i j, q - 1 ≤ j → f i j = 0 := fun i j e => h i j (.inr e)
  rw [phx_le p h1 64 (by omega), phx_self p (p - 1) f (Nat.le_refl _) h1, phy_le q h2 64 (by omega), phy_self q (q - 1) f (Nat.le_refl _) h2]
theorem sup_one {n m : Nat} (hn : 1 ≤ n) (hm : 1 ≤ m) : Sup4 n n m one :=
  ⟨sup4_one.1.mono hn hm, Sup.zero _ _, Sup.zero _ _, Sup.zero _ _⟩
/-- THE TIE: the rests of the number of a walk are the floor's own four -/
theorem rst4_act {p q : Nat} (hp : 2 ≤ p) (hq : 2 ≤ q) (hp' : p ≤ 64) (hq' : q ≤ 64) (w : List Int) (h : w ≠ []) (hl : w.length < 60) (hs : wsize w < 60) : rst4 p q (act Po w one) = act (Fl p q) w one := by
  have e0 : rst4 p q one = one := by
    have hb := sup_one (n := p - 1) (m := q - 1) (by omega) (by omega)
    exact N4.ext' (rst_self hp' hq' hb.1) (rst_zero p q) (rst_zero p q) (rst_zero p q)
  match w, h with
  | k :: w, _ =>
    have hl : w.length + 1 < 60 := hl
    have hs : k.natAbs + wsize w < 60 := hs
    show rst4 p q (actG Po w (turnK Po k one)) = actG (Fl p q) w (turnK (Fl p q) k one)
    rw [rst4_actG w 0 (1 + k.natAbs) (sup4_turn k sup4_one) (by omega) (by omega), rst4_turn k sup4_one (by omega) (by omega), e0]
/-- from some side on nothing changes -/
theorem rst_far_x {p p' q n m : Nat} {f : C} (h : Sup n m f) (hp : n ≤ p - 1) (hp' : n ≤ p' - 1) (hn : n ≤ 64) : rst p q f = rst p' q f := by
  have h1 : ∀ i j, n ≤ i → f i j = 0 := fun i j e => h i j (.inl e)
  unfold rst
  rw [phx_le p h1 64 hn, phx_le p' h1 64 hn, phx_self p n f hp h1, phx_self p' n f hp' h1]
theorem rst_far_y {p q q' n m : Nat} {f : C} (h : Sup n m f) (hq : m ≤ q - 1) (hq' : m ≤ q' - 1) (hm : m ≤ 64) : rst p q f = rst p q' f := by
  have h1 : ∀ i j, m ≤ j → phx p 64 f i j = 0 := phx_y p 64 m f fun i j e => h i j (.inr e)
  unfold rst
  rw [phy_le q h1 64 hm, phy_le q' h1 64 hm, phy_self q m _ hq h1, phy_self q' m _ hq' h1]

/-! ### operators V with V² = Z V - 1 -/
section
variable (Z V : N4 → N4)
/-- S(k) of Z -/
def So : Nat → N4 → N4
  | 0, _ => ⟨0, 0, 0, 0⟩
  | 1, n => n
  | k + 2, n => Z (So (k + 1) n) - So k n
structure Lin (Z : N4 → N4) : Prop where
  add : ∀ m n, Z (m + n) = Z m + Z n
  neg : ∀ n, Z (-n) = -Z n
variable {Z V}
theorem N4.sub_eq (m n : N4) : m - n = m + -n := N4.ext' (C.sub_eq _ _) (C.sub_eq _ _) (C.sub_eq _ _) (C.sub_eq _ _)
theorem Lin.sub (l : Lin Z) (m n : N4) : Z (m - n) = Z m - Z n := by rw [N4.sub_eq, N4.sub_eq, l.add, l.neg]
def N0 : N4 := ⟨0, 0, 0, 0⟩
theorem N4.sub_zero (m : N4) : m - N0 = m := N4.ext' (C.ext fun i j => by rw [N4.sub_a, C.sub_at]; show _ - (0 : C) i j = _; rw [C.zero_at]; omega) (C.ext fun i j => by rw [N4.sub_b, C.sub_at]; show _ - (0 : C) i j = _; rw [C.zero_at]; omega)
  (C.ext fun i j => by rw [N4.sub_c, C.sub_at]; show _ - (0 : C) i j = _; rw [C.zero_at]; omega) (C.ext fun i j => by rw [N4.sub_d, C.sub_at]; show _ - (0 : C) i j = _; rw [C.zero_at]; omega)
theorem N4.zero_sub (m : N4) : N0 - m = -m := N4.ext' (C.ext fun i j => by rw [N4.sub_a, C.sub_at]; show (0 : C) i j - _ = _; rw [C.zero_at, N4.neg_a, C.neg_at]; omega) (C.ext fun i j => by rw [N4.sub_b, C.sub_at]; show (0 : C) i j - _ = _; rw [C.zero_at, N4.neg_b, C.neg_at]; omega)
  (C.ext fun i j => by rw [N4.sub_c, C.sub_at]; show (0 : C) i j - _ = _; rw [C.zero_at, N4.neg_c, C.neg_at]; omega) (C.ext fun i j => by rw [N4.sub_d, C.sub_at]; show (0 : C) i j - _ = _; rw [C.zero_at, N4.neg_d, C.neg_at]; omega)
theorem Lin.zero (l : Lin Z) : Z N0 = N0 := by
  have h := l.sub N0 N0
  have e : N0 - N0 = N0 := N4.sub_zero N0
  rw [e] at h
  have e2 : Z N0 - Z N0 = N0 := N4.ext' (C.ext fun i j => by rw [N4.sub_a, C.sub_at]; show _ = (0 : C) i j; rw [C.zero_at]; omega) (C.ext fun i j => by rw [N4.sub_b, C.sub_at]; show _ = (0 : C) i j; rw [C.zero_at]; omega)
    (C.ext fun i j => by rw [N4.sub_c, C.sub_at]; show _ = (0 : C) i j; rw [C.zero_at]; omega) (C.ext fun i j => by rw [N4.sub_d, C.sub_at]; show _ = (0 : C) i j; rw [C.zero_at]; omega)
  rw [e2] at h
  exact h
theorem N4.sub4 (a b c d : N4) : (a + b) - (c + d) = (a - c) + (b - d) := by (refine N4.ext' ?_ ?_ ?_ ?_ <;> refine C.ext fun i j => ?_ <;> simp only [T, R, G, X4, Y4, N4.add_a, N4.add_b, N4.add_c, N4.add_d, N4.sub_a, N4.sub_b, N4.sub_c, N4.sub_d, N4.neg_a, N4.neg_b, N4.neg_c, N4.neg_d, Ops.Xa, Ops.Xn, Ops.Ya, Ops.Yn, Ops.Xs, Ops.Ys, Ops.XY, C.neg_neg, C.add_at, C.sub_at, C.neg_at] <;> omega)
theorem N4.negsub (a b : N4) : -a - -b = -(a - b) := by (refine N4.ext' ?_ ?_ ?_ ?_ <;> refine C.ext fun i j => ?_ <;> simp only [T, R, G, X4, Y4, N4.add_a, N4.add_b, N4.add_c, N4.add_d, N4.sub_a, N4.sub_b, N4.sub_c, N4.sub_d, N4.neg_a, N4.neg_b, N4.neg_c, N4.neg_d, Ops.Xa, Ops.Xn, Ops.Ya, Ops.Yn, Ops.Xs, Ops.Ys, Ops.XY, C.neg_neg, C.add_at, C.sub_at, C.neg_at] <;> omega)
theorem so_add (l : Lin Z) : ∀ k m n, So Z k (m + n) = So Z k m + So Z k n
  | 0, _, _ => N4.ext' (C.add_zero 0).symm (C.add_zero 0).symm (C.add_zero 0).symm (C.add_zero 0).symm
  | 1, _, _ => rfl
  | k + 2, m, n => by
    show Z (So Z (k + 1) (m + n)) - So Z k (m + n) = (Z (So Z (k + 1) m) - So Z k m) + (Z (So Z (k + 1) n) - So Z k n)
    rw [so_add l (k + 1), so_add l k, l.add, N4.sub4]
theorem so_neg (l : Lin Z) : ∀ k n, So Z k (-n) = -So Z k n
  | 0, _ => N4.ext' C.neg_zero.symm C.neg_zero.symm C.neg_zero.symm C.neg_zero.symm
  | 1, _ => rfl
  | k + 2, n => by
    show Z (So Z (k + 1) (-n)) - So Z k (-n) = -(Z (So Z (k + 1) n) - So Z k n)
    rw [so_neg l (k + 1), so_neg l k, l.neg, N4.negsub]
theorem so_lin (l : Lin Z) (k : Nat) : Lin (So Z k) := ⟨so_add l k, so_neg l k⟩
/-- what passes Z and sums passes S(k) of Z -/
theorem so_pass {f : N4 → N4} (lf : Lin f) (h : ∀ n, f (Z n) = Z (f n)) : ∀ k n, f (So Z k n) = So Z k (f n)
  | 0, _ => lf.zero
  | 1, _ => rfl
  | k + 2, n => by
    show f (Z (So Z (k + 1) n) - So Z k n) = Z (So Z (k + 1) (f n)) - So Z k (f n)
    rw [lf.sub, h, so_pass lf h (k + 1), so_pass lf h k]
theorem so_so (l : Lin Z) (k j : Nat) (n : N4) : So Z k (So Z j n) = So Z j (So Z k n) :=
  so_pass (so_lin l k) (fun n => (so_pass l (fun _ => rfl) k n).symm) j n
/-- S(k+1) S(k+1) - S(k+2) S(k) = 1 -/
theorem so_cass (l : Lin Z) (n : N4) : ∀ k, So Z (k + 1) (So Z (k + 1) n) - So Z (k + 2) (So Z k n) = n
  | 0 => by
    have e : So Z 2 (So Z 0 n) = N0 := by
      show So Z 2 N0 = N0
      exact (so_lin l 2).zero
    rw [e, N4.sub_zero]
    rfl
  | k + 1 => by
    have ih := so_cass l n k
    have e1 : So Z (k + 2) (So Z (k + 2) n) = Z (So Z (k + 2) (So Z (k + 1) n)) - So Z (k + 2) (So Z k n) := by
      show So Z (k + 2) (Z (So Z (k + 1) n) - So Z k n) = _
      rw [(so_lin l (k + 2)).sub, ← so_pass l (fun _ => rfl) (k + 2) (So Z (k + 1) n)]
    have e2 : So Z (k + 3) (So Z (k + 1) n) = Z (So Z (k + 2) (So Z (k + 1) n)) - So Z (k + 1) (So Z (k + 1) n) := rfl
    rw [e1, e2]
    refine Eq.trans ?_ ih
    generalize Z (So Z (k + 2) (So Z (k + 1) n)) = a
    generalize So Z (k + 2) (So Z k n) = b
    generalize So Z (k + 1) (So Z (k + 1) n) = c
    (refine N4.ext' ?_ ?_ ?_ ?_ <;> refine C.ext fun i j => ?_ <;> simp only [T, R, G, X4, Y4, N4.add_a, N4.add_b, N4.add_c, N4.add_d, N4.sub_a, N4.sub_b, N4.sub_c, N4.sub_d, N4.neg_a, N4.neg_b, N4.neg_c, N4.neg_d, Ops.Xa, Ops.Xn, Ops.Ya, Ops.Yn, Ops.Xs, Ops.Ys, Ops.XY, C.neg_neg, C.add_at, C.sub_at, C.neg_at] <;> omega)
/-- V, k times -/
def Vn (V : N4 → N4) : Nat → N4 → N4
  | 0, n => n
  | k + 1, n => Vn V k (V n)
theorem vn_so (lz : Lin Z) (lv : Lin V) (zv : ∀ n, V (Z n) = Z (V n)) (vv : ∀ n, V (V n) = Z (V n) - n) : ∀ k n, Vn V (k + 1) n = So Z (k + 1) (V n) - So Z k n
  | 0, n => (N4.sub_zero _).symm
  | k + 1, n => by
    show Vn V (k + 1) (V n) = _
    rw [vn_so lz lv zv vv k (V n), vv]
    have e : So Z (k + 1) (Z (V n) - n) = So Z (k + 1) (Z (V n)) - So Z (k + 1) n := (so_lin lz (k + 1)).sub _ _
    have e2 : So Z (k + 1) (Z (V n)) = Z (So Z (k + 1) (V n)) := (so_pass lz (fun _ => rfl) (k + 1) (V n)).symm
    rw [e, e2]
    show _ = (Z (So Z (k + 1) (V n)) - So Z k (V n)) - So Z (k + 1) n
    generalize Z (So Z (k + 1) (V n)) = a
    generalize So Z (k + 1) n = b
    generalize So Z k (V n) = c
    (refine N4.ext' ?_ ?_ ?_ ?_ <;> refine C.ext fun i j => ?_ <;> simp only [T, R, G, X4, Y4, N4.add_a, N4.add_b, N4.add_c, N4.add_d, N4.sub_a, N4.sub_b, N4.sub_c, N4.sub_d, N4.neg_a, N4.neg_b, N4.neg_c, N4.neg_d, Ops.Xa, Ops.Xn, Ops.Ya, Ops.Yn, Ops.Xs, Ops.Ys, Ops.XY, C.neg_neg, C.add_at, C.sub_at, C.neg_at] <;> omega)
/-- where S(q) of Z is 0: V^q = -S(q-1), an involution -/
theorem vn_q (lz : Lin Z) (lv : Lin V) (zv : ∀ n, V (Z n) = Z (V n)) (vv : ∀ n, V (V n) = Z (V n) - n) {q : Nat} (hq : 1 ≤ q) {n : N4} (h : So Z q (V n) = N0) : Vn V q n = -So Z (q - 1) n := by
  obtain ⟨k, rfl⟩ : ∃ k, q = k + 1 := ⟨q - 1, by omega⟩
  rw [vn_so lz lv zv vv k n, h, N4.zero_sub]
  rfl
theorem so_inv (lz : Lin Z) {q : Nat} (hq : 2 ≤ q) {n : N4} (h : So Z q n = N0) : So Z (q - 1) (So Z (q - 1) n) = n := by
  obtain ⟨k, rfl⟩ : ∃ k, q = k + 2 := ⟨q - 2, by omega⟩
  have e := so_cass lz n k
  rw [so_so lz (k + 2) k, h, (so_lin lz k).zero, N4.sub_zero] at e
  exact e
end
end K5
/-! K5Mathe: a floor's box; T to the 2q; turns modulo 2q; ending at the same thing is an equivalence; a room led around. -/
namespace K5
/-! ### S(p) of X is 0 on the box -/
def soC (Z : C → C) : Nat → C → C
  | 0, _ => 0
  | 1, f => f
  | k + 2, f => Z (soC Z (k + 1) f) - soC Z k f
theorem so_X4 (o : Ops) : ∀ k n, So (X4 o) k n = ⟨soC o.X k n.a, soC o.X k n.b, soC o.X k n.c, soC o.X k n.d⟩
  | 0, _ => rfl
  | 1, _ => rfl
  | k + 2, n => by
    show X4 o (So (X4 o) (k + 1) n) - So (X4 o) k n = _
    rw [so_X4 o (k + 1), so_X4 o k]
    rfl
theorem so_Y4 (o : Ops) : ∀ k n, So (Y4 o) k n = ⟨soC o.Y k n.a, soC o.Y k n.b, soC o.Y k n.c, soC o.Y k n.d⟩
  | 0, _ => rfl
  | 1, _ => rfl
  | k + 2, n => by
    show Y4 o (So (Y4 o) (k + 1) n) - So (Y4 o) k n = _
    rw [so_Y4 o (k + 1), so_Y4 o k]
    rfl
theorem soC_add {Z : C → C} (ha : ∀ f g, Z (f + g) = Z f + Z g) : ∀ k f g, soC Z k (f + g) = soC Z k f + soC Z k g
  | 0, _, _ => (C.add_zero 0).symm
  | 1, _, _ => rfl
  | k + 2, f, g => by
    show Z (soC Z (k + 1) (f + g)) - soC Z k (f + g) = (Z (soC Z (k + 1) f) - soC Z k f) + (Z (soC Z (k + 1) g) - soC Z k g)
    rw [soC_add ha (k + 1), soC_add ha k, ha]
    exact C.ext fun i j => by simp only [C.add_at, C.sub_at]; omega
theorem soC_Z {Z : C → C} (hs : ∀ f g, Z (f - g) = Z f - Z g) (h0 : Z 0 = 0) : ∀ k f, soC Z k (Z f) = Z (soC Z k f)
  | 0, _ => h0.symm
  | 1, _ => rfl
  | k + 2, f => by
    show Z (soC Z (k + 1) (Z f)) - soC Z k (Z f) = Z (Z (soC Z (k + 1) f) - soC Z k f)
    rw [soC_Z hs h0 (k + 1), soC_Z hs h0 k, hs]
/-- S(k) in x, times what stands at x^0 -/
def scg (k : Nat) (f : C) : C := fun i j => Sc k i * f 0 j
theorem soC_cst (p : Nat) (f : C) : ∀ k, k + 1 ≤ p → soC (Xp p) k (cstx f) = scg k f
  | 0, _ => C.ext fun i j => by
    show (0 : Int) = Sc 0 i * f 0 j
    rw [Sc]
    omega
  | 1, _ => C.ext fun i j => by
    show (if i = 0 then f 0 j else 0) = Sc 1 i * f 0 j
    rw [Sc]
    split <;> omega
  | k + 2, h => by
    show Xp p (soC (Xp p) (k + 1) (cstx f)) - soC (Xp p) k (cstx f) = scg (k + 2) f
    rw [soC_cst p f (k + 1) (by omega), soC_cst p f k (by omega)]
    have hz : ∀ j, scg (k + 1) f (p - 2) j = 0 := fun j => by
      show Sc (k + 1) (p - 2) * f 0 j = 0
      rw [Sc_top (k + 1) (p - 2) (by omega)]
      omega
    rw [Xp_shift hz]
    refine C.ext fun i j => ?_
    cases i with
    | zero =>
      show (0 : Int) - Sc k 0 * f 0 j = Sc (k + 2) 0 * f 0 j
      rw [show Sc (k + 2) 0 = -Sc k 0 from by rw [Sc], Int.neg_mul]
      omega
    | succ i =>
      show Sc (k + 1) i * f 0 j - Sc k (i + 1) * f 0 j = Sc (k + 2) (i + 1) * f 0 j
      rw [show Sc (k + 2) (i + 1) = Sc (k + 1) i - Sc k (i + 1) from by rw [Sc], Int.sub_mul]
theorem soC_cst0 (p : Nat) (h2 : 2 ≤ p) (f : C) : soC (Xp p) p (cstx f) = 0 := by
  obtain ⟨r, rfl⟩ : ∃ r, p = r + 2 := ⟨p - 2, by omega⟩
  show Xp (r + 2) (soC (Xp (r + 2)) (r + 1) (cstx f)) - soC (Xp (r + 2)) r (cstx f) = 0
  rw [soC_cst (r + 2) f (r + 1) (by omega), soC_cst (r + 2) f r (by omega)]
  refine C.ext fun i j => ?_
  show (shx (scg (r + 1) f) i j - Sc (r + 2) i * (Sc (r + 1) r * f 0 j)) - Sc r i * f 0 j = 0
  rw [Sc_lead r, Int.one_mul]
  cases i with
  | zero =>
    show (0 - Sc (r + 2) 0 * f 0 j) - Sc r 0 * f 0 j = 0
    rw [show Sc (r + 2) 0 = -Sc r 0 from by rw [Sc], Int.neg_mul]
    omega
  | succ i =>
    show (Sc (r + 1) i * f 0 j - Sc (r + 2) (i + 1) * f 0 j) - Sc r (i + 1) * f 0 j = 0
    rw [show Sc (r + 2) (i + 1) = Sc (r + 1) i - Sc r (i + 1) from by rw [Sc], Int.sub_mul]
    omega
theorem soC_box (p : Nat) (h2 : 2 ≤ p) : ∀ (n : Nat) (f : C), n ≤ p - 1 → (∀ i j, n ≤ i → f i j = 0) → soC (Xp p) p f = 0
  | 0, f, _, h => by
    have e : f = cstx f := C.ext fun i j => by
      show f i j = if i = 0 then f 0 j else 0
      rw [h i j (Nat.zero_le _), h 0 j (Nat.zero_le _)]
      split <;> rfl
    rw [e]
    exact soC_cst0 p h2 f
  | n + 1, f, hn, h => by
    have e : f = cstx f + Xp p (tailx f) := by
      rw [Xp_shift fun j => h (p - 2 + 1) j (by omega)]
      exact (cstx_tailx f).symm
    rw [e, soC_add (Xp_add p), soC_cst0 p h2, soC_Z (Z := Xp p) (Fl p 0).Xs (Xp_zero p), soC_box p h2 n (tailx f) (by omega) fun i j e => h (i + 1) j (by omega), Xp_zero, C.add_zero]
def tr (f : C) : C := fun i j => f j i
theorem Yq_tr (q : Nat) (f : C) : Yq q f = tr (Xp q (tr f)) := C.ext fun i j => by cases j <;> rfl
theorem soC_tr (q : Nat) : ∀ k f, soC (Yq q) k f = tr (soC (Xp q) k (tr f))
  | 0, _ => rfl
  | 1, _ => rfl
  | k + 2, f => by
    show Yq q (soC (Yq q) (k + 1) f) - soC (Yq q) k f = tr (Xp q (soC (Xp q) (k + 1) (tr f)) - soC (Xp q) k (tr f))
    rw [Yq_tr, soC_tr q (k + 1), soC_tr q k]
    rfl
theorem soC_boxY (q : Nat) (h2 : 2 ≤ q) (f : C) (h : ∀ i j, q - 1 ≤ j → f i j = 0) : soC (Yq q) q f = 0 := by
  rw [soC_tr, soC_box q h2 (q - 1) (tr f) (Nat.le_refl _) fun i j e => h j i e]
  rfl
/-! ### the box of a floor -/
def Box (p q : Nat) (z : N4) : Prop := Sup4 (p - 1) (p - 1) (q - 1) z
section
variable {p q : Nat}
theorem box_T (hp : 2 ≤ p) (hq : 2 ≤ q) {z : N4} (h : Box p q z) : Box p q (T (Fl p q) z) := by
  obtain ⟨ha, hb, hc, hd⟩ := h
  exact ⟨(Sup.Xp hp hc).sub hb, (ha.add (Sup.Yq hq hb)).add (Sup.Xp hp hd), (Sup.Yq hq hc).add hd, hc.neg⟩
theorem box_R (hp : 2 ≤ p) (hq : 2 ≤ q) {z : N4} (h : Box p q z) : Box p q (R (Fl p q) z) := by
  obtain ⟨ha, hb, hc, hd⟩ := h
  exact ⟨((Sup.Yq hq ha).add hb).sub (Sup.Xp hp hc), (ha.add (Sup.Xp hp hd)).neg, hd.neg, hc.add (Sup.Yq hq hd)⟩
theorem box_G {z : N4} (h : Box p q z) : Box p q (G z) := by
  obtain ⟨ha, hb, hc, hd⟩ := h
  exact ⟨hc.neg, hd.neg, ha, hb⟩
theorem box_turn (hp : 2 ≤ p) (hq : 2 ≤ q) (k : Int) {z : N4} (h : Box p q z) : Box p q (turnK (Fl p q) k z) :=
  turnK_ind (Fl p q) (P := Box p q) (fun _ h => box_T hp hq h) (fun _ h => box_R hp hq h) k z h
theorem box_actG (hp : 2 ≤ p) (hq : 2 ≤ q) : ∀ (w : List Int) {z : N4}, Box p q z → Box p q (actG (Fl p q) w z)
  | [], _, h => h
  | k :: w, _, h => box_actG hp hq w (box_turn hp hq k (box_G h))
theorem box_act (hp : 2 ≤ p) (hq : 2 ≤ q) : ∀ (w : List Int) {z : N4}, Box p q z → Box p q (act (Fl p q) w z)
  | [], _, h => h
  | k :: w, _, h => box_actG hp hq w (box_turn hp hq k h)
theorem box_one (hp : 2 ≤ p) (hq : 2 ≤ q) : Box p q one := sup_one (by omega) (by omega)
theorem so_Y_box (hq : 2 ≤ q) {z : N4} (h : Box p q z) : So (Y4 (Fl p q)) q z = N0 := by
  obtain ⟨ha, hb, hc, hd⟩ := h
  rw [so_Y4]
  show (⟨soC (Yq q) q z.a, soC (Yq q) q z.b, soC (Yq q) q z.c, soC (Yq q) q z.d⟩ : N4) = ⟨0, 0, 0, 0⟩
  rw [soC_boxY q hq z.a fun i j e => ha i j (.inr e), soC_boxY q hq z.b fun i j e => hb i j (.inr e), soC_boxY q hq z.c fun i j e => hc i j (.inr e), soC_boxY q hq z.d fun i j e => hd i j (.inr e)]
theorem so_X_box (hp : 2 ≤ p) {z : N4} (h : Box p q z) : So (X4 (Fl p q)) p z = N0 := by
  obtain ⟨ha, hb, hc, hd⟩ := h
  rw [so_X4]
  show (⟨soC (Xp p) p z.a, soC (Xp p) p z.b, soC (Xp p) p z.c, soC (Xp p) p z.d⟩ : N4) = ⟨0, 0, 0, 0⟩
  rw [soC_box p hp (p - 1) z.a (Nat.le_refl _) fun i j e => ha i j (.inl e), soC_box p hp (p - 1) z.b (Nat.le_refl _) fun i j e => hb i j (.inl e), soC_box p hp (p - 1) z.c (Nat.le_refl _) fun i j e => hc i j (.inl e),
    soC_box p hp (p - 1) z.d (Nat.le_refl _) fun i j e => hd i j (.inl e)]
end
theorem lin_Y (o : Ops) : Lin (Y4 o) := ⟨fun m n => by (refine N4.ext' ?_ ?_ ?_ ?_ <;> refine C.ext fun i j => ?_ <;> simp only [T, R, G, X4, Y4, N4.add_a, N4.add_b, N4.add_c, N4.add_d, N4.sub_a, N4.sub_b, N4.sub_c, N4.sub_d, N4.neg_a, N4.neg_b, N4.neg_c, N4.neg_d, Ops.Xa, Ops.Xn, Ops.Ya, Ops.Yn, Ops.Xs, Ops.Ys, Ops.XY, C.neg_neg, C.add_at, C.sub_at, C.neg_at] <;> omega), fun n => by (refine N4.ext' ?_ ?_ ?_ ?_ <;> refine C.ext fun i j => ?_ <;> simp only [T, R, G, X4, Y4, N4.add_a, N4.add_b, N4.add_c, N4.add_d, N4.sub_a, N4.sub_b, N4.sub_c, N4.sub_d, N4.neg_a, N4.neg_b, N4.neg_c, N4.neg_d, Ops.Xa, Ops.Xn, Ops.Ya, Ops.Yn, Ops.Xs, Ops.Ys, Ops.XY, C.neg_neg, C.add_at, C.sub_at, C.neg_at] <;> omega)⟩
theorem lin_X (o : Ops) : Lin (X4 o) := ⟨fun m n => by (refine N4.ext' ?_ ?_ ?_ ?_ <;> refine C.ext fun i j => ?_ <;> simp only [T, R, G, X4, Y4, N4.add_a, N4.add_b, N4.add_c, N4.add_d, N4.sub_a, N4.sub_b, N4.sub_c, N4.sub_d, N4.neg_a, N4.neg_b, N4.neg_c, N4.neg_d, Ops.Xa, Ops.Xn, Ops.Ya, Ops.Yn, Ops.Xs, Ops.Ys, Ops.XY, C.neg_neg, C.add_at, C.sub_at, C.neg_at] <;> omega), fun n => by (refine N4.ext' ?_ ?_ ?_ ?_ <;> refine C.ext fun i j => ?_ <;> simp only [T, R, G, X4, Y4, N4.add_a, N4.add_b, N4.add_c, N4.add_d, N4.sub_a, N4.sub_b, N4.sub_c, N4.sub_d, N4.neg_a, N4.neg_b, N4.neg_c, N4.neg_d, Ops.Xa, Ops.Xn, Ops.Ya, Ops.Yn, Ops.Xs, Ops.Ys, Ops.XY, C.neg_neg, C.add_at, C.sub_at, C.neg_at] <;> omega)⟩
theorem lin_T (o : Ops) : Lin (T o) := ⟨T_add o, T_neg o⟩
theorem U_add (o : Ops) (m n : N4) : U o (m + n) = U o m + U o n := by
  unfold U
  rw [T_add, G_add]
theorem U_neg (o : Ops) (n : N4) : U o (-n) = -U o n := by
  unfold U
  rw [T_neg, G_neg]
theorem lin_U (o : Ops) : Lin (U o) := ⟨U_add o, U_neg o⟩
theorem UX (o : Ops) (n : N4) : U o (X4 o n) = X4 o (U o n) := by
  unfold U
  rw [TX, GX]
theorem tn_vn (o : Ops) : ∀ k n, Tn o k n = Vn (T o) k n
  | 0, _ => rfl
  | k + 1, n => tn_vn o k (T o n)
theorem tn_tn (o : Ops) : ∀ j k n, Tn o (j + k) n = Tn o k (Tn o j n)
  | 0, k, n => by rw [Nat.zero_add]; rfl
  | j + 1, k, n => by
    show Tn o (j + 1 + k) n = Tn o k (Tn o j (T o n))
    rw [show j + 1 + k = (j + k) + 1 by omega]
    exact tn_tn o j k (T o n)
section
variable {p q : Nat}
theorem tn_q (hp : 2 ≤ p) (hq : 2 ≤ q) {z : N4} (h : Box p q z) : Tn (Fl p q) q z = -So (Y4 (Fl p q)) (q - 1) z := by
  rw [tn_vn]
  exact vn_q (lin_Y _) (lin_T _) (TY _) (TT _) (by omega) (so_Y_box hq (box_T hp hq h))
/-- a whole turn twice is none -/
theorem tn_2q (hp : 2 ≤ p) (hq : 2 ≤ q) {z : N4} (h : Box p q z) : Tn (Fl p q) (q + q) z = z := by
  have hb : Box p q (Tn (Fl p q) q z) := by
    have := box_turn hp hq (q : Int) h
    unfold turnK at this
    rw [if_pos (by omega), show ((q : Nat) : Int).toNat = q by omega] at this
    exact this
  rw [tn_tn, tn_q hp hq hb, tn_q hp hq h, (so_lin (lin_Y _) (q - 1)).neg, N4.neg_neg, so_inv (lin_Y _) hq (so_Y_box hq h)]
theorem turn_2q (hp : 2 ≤ p) (hq : 2 ≤ q) {z : N4} (h : Box p q z) : turnK (Fl p q) (2 * (q : Int)) z = z := by
  unfold turnK
  rw [if_pos (by omega), show (2 * (q : Int)).toNat = q + q by omega]
  exact tn_2q hp hq h
theorem turn_2qN (hp : 2 ≤ p) (hq : 2 ≤ q) {z : N4} (h : Box p q z) : ∀ m : Nat, turnK (Fl p q) (2 * (q : Int) * m) z = z
  | 0 => by
    rw [show 2 * (q : Int) * ((0 : Nat) : Int) = 0 by simp]
    rfl
  | m + 1 => by
    rw [show 2 * (q : Int) * ((m + 1 : Nat) : Int) = 2 * (q : Int) * m + 2 * (q : Int) by rw [Int.natCast_succ, Int.mul_add, Int.mul_one], turnK_add, turn_2qN hp hq h m, turn_2q hp hq h]
theorem turn_2qZ (hp : 2 ≤ p) (hq : 2 ≤ q) {z : N4} (h : Box p q z) (m : Int) : turnK (Fl p q) (2 * (q : Int) * m) z = z := by
  by_cases hm : 0 ≤ m
  · obtain ⟨n, rfl⟩ : ∃ n : Nat, m = n := ⟨m.toNat, by omega⟩
    exact turn_2qN hp hq h n
  · obtain ⟨n, rfl⟩ : ∃ n : Nat, m = -(n : Int) := ⟨(-m).toNat, by omega⟩
    have e := turnK_cancel (Fl p q) (2 * (q : Int) * n) z
    rw [turn_2qN hp hq h n] at e
    rw [Int.mul_neg]
    exact e
/-- turns as the one floor does them -/
def turnM (o : Ops) (q : Nat) (k : Int) (n : N4) : N4 := if k % (2 * (q : Int)) > q then Rn o (2 * (q : Int) - k % (2 * (q : Int))).toNat n else Tn o (k % (2 * (q : Int))).toNat n
theorem turnM_eq (hp : 2 ≤ p) (hq : 2 ≤ q) (k : Int) {z : N4} (h : Box p q z) : turnM (Fl p q) q k z = turnK (Fl p q) k z := by
  have h0 : 0 ≤ k % (2 * (q : Int)) := Int.emod_nonneg _ (by omega)
  have h1 : k % (2 * (q : Int)) < 2 * (q : Int) := Int.emod_lt_of_pos _ (by omega)
  have hk : k = 2 * (q : Int) * (k / (2 * (q : Int))) + k % (2 * (q : Int)) := (Int.mul_ediv_add_emod k (2 * (q : Int))).symm
  have e1 : turnK (Fl p q) k z = turnK (Fl p q) (k % (2 * (q : Int))) z := by
    rw [show turnK (Fl p q) k z = turnK (Fl p q) (2 * (q : Int) * (k / (2 * (q : Int))) + k % (2 * (q : Int))) z by rw [← hk], turnK_add, turn_2qZ hp hq h]
  rw [e1]
  unfold turnM
  generalize k % (2 * (q : Int)) = r at h0 h1 ⊢
  by_cases h : r > q
  · rw [if_pos h]
    have e2 : turnK (Fl p q) r z = turnK (Fl p q) (r - 2 * (q : Int)) z := by
      rw [show r = 2 * (q : Int) * 1 + (r - 2 * (q : Int)) by omega, turnK_add, turn_2qZ hp hq ‹Box p q z›, show 2 * (q : Int) * 1 + (r - 2 * (q : Int)) - 2 * (q : Int) = r - 2 * (q : Int) by omega]
    rw [e2]
    unfold turnK
    rw [if_neg (by omega), show -(r - 2 * (q : Int)) = 2 * (q : Int) - r by omega]
  · rw [if_neg h]
    unfold turnK
    by_cases h3 : 0 < r
    · rw [if_pos h3]
    · rw [if_neg h3, show r = 0 by omega]
      rfl
end
/-! ### the same arrow, corner, edge, room -/
inductive Kind
  | arrow
  | corner
  | edge
  | room
def J : Kind → N4 → Prop
  | .arrow, z => z.b = 0 ∧ z.c = 0 ∧ z.d = 0
  | .corner, z => z.c = 0 ∧ z.d = 0
  | .edge, z => z.b = 0 ∧ z.d = 0
  | .room, z => z.b = 0 ∧ z.c = 0
theorem C.neg_of {f : C} (h : f = 0) : -f = 0 := by rw [h, C.neg_zero]
theorem C.add_of {f g : C} (h : f = 0) (k : g = 0) : f + g = 0 := by rw [h, k, C.add_zero]
theorem J.neg {k : Kind} {z : N4} (h : J k z) : J k (-z) := by
  cases k with
  | arrow => exact ⟨C.neg_of h.1, C.neg_of h.2.1, C.neg_of h.2.2⟩
  | corner => exact ⟨C.neg_of h.1, C.neg_of h.2⟩
  | edge => exact ⟨C.neg_of h.1, C.neg_of h.2⟩
  | room => exact ⟨C.neg_of h.1, C.neg_of h.2⟩
theorem J.add {k : Kind} {z y : N4} (h : J k z) (g : J k y) : J k (z + y) := by
  cases k with
  | arrow => exact ⟨C.add_of h.1 g.1, C.add_of h.2.1 g.2.1, C.add_of h.2.2 g.2.2⟩
  | corner => exact ⟨C.add_of h.1 g.1, C.add_of h.2 g.2⟩
  | edge => exact ⟨C.add_of h.1 g.1, C.add_of h.2 g.2⟩
  | room => exact ⟨C.add_of h.1 g.1, C.add_of h.2 g.2⟩
theorem J.map {k : Kind} {F : C → C} (h0 : F 0 = 0) {z : N4} (h : J k z) : J k ⟨F z.a, F z.b, F z.c, F z.d⟩ := by
  have e : ∀ {f : C}, f = 0 → F f = 0 := fun e => by rw [e, h0]
  cases k with
  | arrow => exact ⟨e h.1, e h.2.1, e h.2.2⟩
  | corner => exact ⟨e h.1, e h.2⟩
  | edge => exact ⟨e h.1, e h.2⟩
  | room => exact ⟨e h.1, e h.2⟩
theorem J.sg {k : Kind} {z y : N4} (h : Sg z y) (g : J k y) : J k z := by
  rcases h with rfl | rfl
  · exact g
  · exact g.neg
/-- left multiplication by t, by g, by tg -/
def lt (o : Ops) (z : N4) : N4 := ⟨-z.b, z.a + o.Y z.b, -z.d, z.c + o.Y z.d⟩
def lg (o : Ops) (z : N4) : N4 := ⟨(o.X z.b - z.c) - o.Y z.d, z.d, (z.a + o.Y z.b) + o.X z.d, -z.b⟩
def ltg (o : Ops) (z : N4) : N4 := ⟨-z.d, o.X z.b - z.c, z.b, z.a + o.X z.d⟩
theorem pass_lt (o : Ops) : Pass o (lt o) := ⟨fun n => by unfold lt; (refine N4.ext' ?_ ?_ ?_ ?_ <;> refine C.ext fun i j => ?_ <;> simp only [T, R, G, X4, Y4, N4.add_a, N4.add_b, N4.add_c, N4.add_d, N4.sub_a, N4.sub_b, N4.sub_c, N4.sub_d, N4.neg_a, N4.neg_b, N4.neg_c, N4.neg_d, Ops.Xa, Ops.Xn, Ops.Ya, Ops.Yn, Ops.Xs, Ops.Ys, Ops.XY, C.neg_neg, C.add_at, C.sub_at, C.neg_at] <;> omega), fun n => by unfold lt; (refine N4.ext' ?_ ?_ ?_ ?_ <;> refine C.ext fun i j => ?_ <;> simp only [T, R, G, X4, Y4, N4.add_a, N4.add_b, N4.add_c, N4.add_d, N4.sub_a, N4.sub_b, N4.sub_c, N4.sub_d, N4.neg_a, N4.neg_b, N4.neg_c, N4.neg_d, Ops.Xa, Ops.Xn, Ops.Ya, Ops.Yn, Ops.Xs, Ops.Ys, Ops.XY, C.neg_neg, C.add_at, C.sub_at, C.neg_at] <;> omega), fun n => by unfold lt; (refine N4.ext' ?_ ?_ ?_ ?_ <;> refine C.ext fun i j => ?_ <;> simp only [T, R, G, X4, Y4, N4.add_a, N4.add_b, N4.add_c, N4.add_d, N4.sub_a, N4.sub_b, N4.sub_c, N4.sub_d, N4.neg_a, N4.neg_b, N4.neg_c, N4.neg_d, Ops.Xa, Ops.Xn, Ops.Ya, Ops.Yn, Ops.Xs, Ops.Ys, Ops.XY, C.neg_neg, C.add_at, C.sub_at, C.neg_at] <;> omega)⟩
theorem pass_lg (o : Ops) : Pass o (lg o) := ⟨fun n => by unfold lg; (refine N4.ext' ?_ ?_ ?_ ?_ <;> refine C.ext fun i j => ?_ <;> simp only [T, R, G, X4, Y4, N4.add_a, N4.add_b, N4.add_c, N4.add_d, N4.sub_a, N4.sub_b, N4.sub_c, N4.sub_d, N4.neg_a, N4.neg_b, N4.neg_c, N4.neg_d, Ops.Xa, Ops.Xn, Ops.Ya, Ops.Yn, Ops.Xs, Ops.Ys, Ops.XY, C.neg_neg, C.add_at, C.sub_at, C.neg_at] <;> omega), fun n => by unfold lg; (refine N4.ext' ?_ ?_ ?_ ?_ <;> refine C.ext fun i j => ?_ <;> simp only [T, R, G, X4, Y4, N4.add_a, N4.add_b, N4.add_c, N4.add_d, N4.sub_a, N4.sub_b, N4.sub_c, N4.sub_d, N4.neg_a, N4.neg_b, N4.neg_c, N4.neg_d, Ops.Xa, Ops.Xn, Ops.Ya, Ops.Yn, Ops.Xs, Ops.Ys, Ops.XY, C.neg_neg, C.add_at, C.sub_at, C.neg_at] <;> omega), fun n => by unfold lg; (refine N4.ext' ?_ ?_ ?_ ?_ <;> refine C.ext fun i j => ?_ <;> simp only [T, R, G, X4, Y4, N4.add_a, N4.add_b, N4.add_c, N4.add_d, N4.sub_a, N4.sub_b, N4.sub_c, N4.sub_d, N4.neg_a, N4.neg_b, N4.neg_c, N4.neg_d, Ops.Xa, Ops.Xn, Ops.Ya, Ops.Yn, Ops.Xs, Ops.Ys, Ops.XY, C.neg_neg, C.add_at, C.sub_at, C.neg_at] <;> omega)⟩
theorem pass_ltg (o : Ops) : Pass o (ltg o) := ⟨fun n => by unfold ltg; (refine N4.ext' ?_ ?_ ?_ ?_ <;> refine C.ext fun i j => ?_ <;> simp only [T, R, G, X4, Y4, N4.add_a, N4.add_b, N4.add_c, N4.add_d, N4.sub_a, N4.sub_b, N4.sub_c, N4.sub_d, N4.neg_a, N4.neg_b, N4.neg_c, N4.neg_d, Ops.Xa, Ops.Xn, Ops.Ya, Ops.Yn, Ops.Xs, Ops.Ys, Ops.XY, C.neg_neg, C.add_at, C.sub_at, C.neg_at] <;> omega), fun n => by unfold ltg; (refine N4.ext' ?_ ?_ ?_ ?_ <;> refine C.ext fun i j => ?_ <;> simp only [T, R, G, X4, Y4, N4.add_a, N4.add_b, N4.add_c, N4.add_d, N4.sub_a, N4.sub_b, N4.sub_c, N4.sub_d, N4.neg_a, N4.neg_b, N4.neg_c, N4.neg_d, Ops.Xa, Ops.Xn, Ops.Ya, Ops.Yn, Ops.Xs, Ops.Ys, Ops.XY, C.neg_neg, C.add_at, C.sub_at, C.neg_at] <;> omega), fun n => by unfold ltg; (refine N4.ext' ?_ ?_ ?_ ?_ <;> refine C.ext fun i j => ?_ <;> simp only [T, R, G, X4, Y4, N4.add_a, N4.add_b, N4.add_c, N4.add_d, N4.sub_a, N4.sub_b, N4.sub_c, N4.sub_d, N4.neg_a, N4.neg_b, N4.neg_c, N4.neg_d, Ops.Xa, Ops.Xn, Ops.Ya, Ops.Yn, Ops.Xs, Ops.Ys, Ops.XY, C.neg_neg, C.add_at, C.sub_at, C.neg_at] <;> omega)⟩
theorem C.sub_of {f g : C} (h : f = 0) (k : g = 0) : f - g = 0 := by rw [C.sub_eq, h, k, C.neg_zero, C.add_zero]
theorem J.lt {o : Ops} {z : N4} (h : J .corner z) : J .corner (K5.lt o z) := ⟨C.neg_of h.2, C.add_of h.1 (by rw [h.2]; exact o.Y0)⟩
theorem J.lg {o : Ops} {z : N4} (h : J .edge z) : J .edge (K5.lg o z) := ⟨h.2, C.neg_of h.1⟩
theorem J.ltg {o : Ops} {z : N4} (h : J .room z) : J .room (K5.ltg o z) := ⟨C.sub_of (by rw [h.1]; exact o.X0) h.2, h.1⟩
/-- a whole number at 1 -/
def dl (c : Int) : C := fun i j => if i = 0 ∧ j = 0 then c else 0
/-- the first part alone -/
def in1 (f : C) : N4 := ⟨f, 0, 0, 0⟩
section
variable {p q : Nat}
/-- the box is made of 1 by sums, X and Y -/
theorem gen {Q : C → Prop} (h1 : Q one.a) (ha : ∀ f g, Q f → Q g → Q (f + g)) (hn : ∀ f, Q f → Q (-f)) (hX : ∀ f, Q f → Q (Xp p f)) (hY : ∀ f, Q f → Q (Yq q f)) (f : C) (h : Sup (p - 1) (q - 1) f) : Q f := by
  have h0 : Q 0 := by
    have e : one.a + -one.a = 0 := C.ext fun i j => by rw [C.add_at, C.neg_at, C.zero_at]; omega
    rw [← e]
    exact ha _ _ h1 (hn _ h1)
  -- a whole number at 1
  have hN : ∀ n : Nat, Q (dl n) := fun n => by
    induction n with
    | zero =>
      have e : dl ((0 : Nat) : Int) = 0 := C.ext fun i j => by
        show (if i = 0 ∧ j = 0 then ((0 : Nat) : Int) else 0) = 0
        split <;> rfl
      rw [e]
      exact h0
    | succ n ih =>
      have e : dl ((n + 1 : Nat) : Int) = dl n + one.a := C.ext fun i j => by
        show (if i = 0 ∧ j = 0 then ((n + 1 : Nat) : Int) else 0) = (if i = 0 ∧ j = 0 then (n : Int) else 0) + (if i = 0 ∧ j = 0 then (1 : Int) else 0)
        split <;> omega
      rw [e]
      exact ha _ _ ih h1
  have hc : ∀ c : Int, Q (dl c) := by
    intro c
    by_cases hc : 0 ≤ c
    · obtain ⟨n, rfl⟩ : ∃ n : Nat, c = n := ⟨c.toNat, by omega⟩
      exact hN n
    · obtain ⟨n, rfl⟩ : ∃ n : Nat, c = -(n : Int) := ⟨(-c).toNat, by omega⟩
      have e : dl (-(n : Int)) = -dl n := C.ext fun i j => by
        show (if i = 0 ∧ j = 0 then -(n : Int) else 0) = -(if i = 0 ∧ j = 0 then (n : Int) else 0)
        split <;> omega
      rw [e]
      exact hn _ (hN n)
  -- a row at x^0
  have hr : ∀ (m : Nat) (f : C), m ≤ q - 1 → (∀ i j, (1 ≤ i ∨ m ≤ j) → f i j = 0) → Q f := fun m => by
    induction m with
    | zero =>
      intro f _ hf
      have e : f = 0 := C.ext fun i j => hf i j (.inr (Nat.zero_le _))
      rw [e]
      exact h0
    | succ m ih =>
      intro f hm hf
      have hz : ∀ i, taily f i (q - 2) = 0 := fun i => hf i (q - 2 + 1) (.inr (by omega))
      have e : f = dl (f 0 0) + Yq q (taily f) := by
        rw [Yq_shift hz]
        refine C.ext fun i j => ?_
        show f i j = (if i = 0 ∧ j = 0 then f 0 0 else 0) + shy (taily f) i j
        cases j with
        | zero =>
          show f i 0 = (if i = 0 ∧ (0 : Nat) = 0 then f 0 0 else 0) + 0
          by_cases hi : i = 0
          · subst hi
            rw [if_pos ⟨rfl, rfl⟩]
            omega
          · rw [if_neg (by omega), hf i 0 (.inl (by omega))]
            rfl
        | succ j =>
          show f i (j + 1) = (if i = 0 ∧ j + 1 = 0 then f 0 0 else 0) + f i (j + 1)
          rw [if_neg (by omega)]
          omega
      rw [e]
      exact ha _ _ (hc _) (hY _ (ih (taily f) (by omega) fun i j e => hf i (j + 1) (e.elim .inl fun e => .inr (by omega))))
  have hx : ∀ (n : Nat) (f : C), n ≤ p - 1 → (∀ i j, (n ≤ i ∨ q - 1 ≤ j) → f i j = 0) → Q f := fun n => by
    induction n with
    | zero =>
      intro f _ hf
      have e : f = 0 := C.ext fun i j => hf i j (.inl (Nat.zero_le _))
      rw [e]
      exact h0
    | succ n ih =>
      intro f hm hf
      have e : f = cstx f + Xp p (tailx f) := by
        rw [Xp_shift fun j => hf (p - 2 + 1) j (.inl (by omega))]
        exact (cstx_tailx f).symm
      rw [e]
      refine ha _ _ (hr (q - 1) (cstx f) (Nat.le_refl _) fun i j e => ?_) (hX _ (ih (tailx f) (by omega) fun i j e => hf (i + 1) j (e.elim (fun e => .inl (by omega)) .inr)))
      show (if i = 0 then f 0 j else 0) = 0
      rcases e with e | e
      · rw [if_neg (by omega)]
      · rw [hf 0 j (.inr e)]
        split <;> rfl
  exact hx (p - 1) f (Nat.le_refl _) h
theorem in1_add (f g : C) : in1 (f + g) = in1 f + in1 g := N4.ext' rfl (C.add_zero 0).symm (C.add_zero 0).symm (C.add_zero 0).symm
theorem in1_neg (f : C) : in1 (-f) = -in1 f := N4.ext' rfl C.neg_zero.symm C.neg_zero.symm C.neg_zero.symm
theorem in1_X (o : Ops) (f : C) : in1 (o.X f) = X4 o (in1 f) := N4.ext' rfl o.X0.symm o.X0.symm o.X0.symm
theorem in1_Y (o : Ops) (f : C) : in1 (o.Y f) = Y4 o (in1 f) := N4.ext' rfl o.Y0.symm o.Y0.symm o.Y0.symm
/-- a walk that comes to the same thing keeps all that stand at it -/
theorem J.stay {k : Kind} (w : List Int) (h : J k (act (Fl p q) w one)) {z : N4} (hz : J k z) (hb : Box p q z) : J k (act (Fl p q) w z) := by
  have P : ∀ f, Sup (p - 1) (q - 1) f → J k (act (Fl p q) w (in1 f)) := fun f hf => by
    refine gen (p := p) (q := q) (Q := fun f => J k (act (Fl p q) w (in1 f))) h (fun f g hf hg => ?_) (fun f hf => ?_) (fun f hf => ?_) (fun f hf => ?_) f hf
    · show J k (act (Fl p q) w (in1 (f + g)))
      rw [in1_add, act_add4]
      exact J.add hf hg
    · show J k (act (Fl p q) w (in1 (-f)))
      rw [in1_neg, act_neg]
      exact J.neg hf
    · show J k (act (Fl p q) w (in1 ((Fl p q).X f)))
      rw [in1_X, ← (pass_X (Fl p q)).act]
      exact J.map (F := (Fl p q).X) (Fl p q).X0 hf
    · show J k (act (Fl p q) w (in1 ((Fl p q).Y f)))
      rw [in1_Y, ← (pass_Y (Fl p q)).act]
      exact J.map (F := (Fl p q).Y) (Fl p q).Y0 hf
  obtain ⟨ba, bb, bc, bd⟩ := hb
  obtain ⟨a, b, c, d⟩ := z
  cases k with
  | arrow =>
    obtain ⟨rfl, rfl, rfl⟩ : b = 0 ∧ c = 0 ∧ d = 0 := hz
    exact P a ba
  | corner =>
    obtain ⟨rfl, rfl⟩ : c = 0 ∧ d = 0 := hz
    have e : (⟨a, b, 0, 0⟩ : N4) = in1 a + K5.lt (Fl p q) (in1 b) := N4.ext' (by
      show a = a + -(0 : C)
      rw [C.neg_zero, C.add_zero]) (by
      show b = 0 + (b + (Fl p q).Y 0)
      rw [(Fl p q).Y0, C.add_zero, C.zero_add]) (by
      show (0 : C) = 0 + -(0 : C)
      rw [C.neg_zero, C.add_zero]) (by
      show (0 : C) = 0 + (0 + (Fl p q).Y 0)
      rw [(Fl p q).Y0, C.add_zero, C.zero_add])
    rw [e, act_add4, ← (pass_lt (Fl p q)).act]
    exact J.add (P a ba) (J.lt (P b bb))
  | edge =>
    obtain ⟨rfl, rfl⟩ : b = 0 ∧ d = 0 := hz
    have e : (⟨a, 0, c, 0⟩ : N4) = in1 a + K5.lg (Fl p q) (in1 c) := N4.ext' (by
      show a = a + (((Fl p q).X 0 - 0) - (Fl p q).Y 0)
      rw [(Fl p q).Y0, (Fl p q).X0, C.sub_of (C.sub_of rfl rfl) rfl, C.add_zero]) (C.add_zero 0).symm (by
      show c = 0 + ((c + (Fl p q).Y 0) + (Fl p q).X 0)
      rw [(Fl p q).Y0, (Fl p q).X0, C.add_zero, C.add_zero, C.zero_add]) (by
      show (0 : C) = 0 + -(0 : C)
      rw [C.neg_zero, C.add_zero])
    rw [e, act_add4, ← (pass_lg (Fl p q)).act]
    exact J.add (P a ba) (J.lg (P c bc))
  | room =>
    obtain ⟨rfl, rfl⟩ : b = 0 ∧ c = 0 := hz
    have e : (⟨a, 0, 0, d⟩ : N4) = in1 a + K5.ltg (Fl p q) (in1 d) := N4.ext' (by
      show a = a + -(0 : C)
      rw [C.neg_zero, C.add_zero]) (by
      show (0 : C) = 0 + ((Fl p q).X 0 - 0)
      rw [(Fl p q).X0, C.sub_of rfl rfl, C.add_zero]) (C.add_zero 0).symm (by
      show d = 0 + (d + (Fl p q).X 0)
      rw [(Fl p q).X0, C.add_zero, C.zero_add])
    rw [e, act_add4, ← (pass_ltg (Fl p q)).act]
    exact J.add (P a ba) (J.ltg (P d bd))
end
/-- u and v end at the same thing of the kind on the floor (p, q) -/
def Same5 (p q : Nat) (k : Kind) (u v : List Int) : Prop := J k (act (Fl p q) (cat (wneg u) v) one)
section
variable {p q : Nat} {k : Kind}
theorem J_one : J k one := by
  cases k with
  | arrow => exact ⟨rfl, rfl, rfl⟩
  | corner => exact ⟨rfl, rfl⟩
  | edge => exact ⟨rfl, rfl⟩
  | room => exact ⟨rfl, rfl⟩
theorem Same5.refl {u : List Int} (hu : u ≠ []) : Same5 p q k u u := by
  unfold Same5
  rw [act_cat _ _ _ _ (wneg_ne hu) hu]
  exact J.sg (act_forth u one hu) J_one
theorem Same5.trans (hp : 2 ≤ p) (hq : 2 ≤ q) {u v w : List Int} (hu : u ≠ []) (hv : v ≠ []) (hw : w ≠ []) (h : Same5 p q k u v) (g : Same5 p q k v w) : Same5 p q k u w := by
  have z := J.stay (cat (wneg v) w) g h (box_act hp hq _ (box_one hp hq))
  rw [act_cat _ _ _ _ (wneg_ne hv) hw, act_cat _ _ _ _ (wneg_ne hu) hv] at z
  unfold Same5
  rw [act_cat _ _ _ _ (wneg_ne hu) hw]
  exact J.sg (((act_back v (act (Fl p q) (wneg u) one) hv).act w).symm) z
/-- a walk put in front of both -/
theorem Same5.front {a u v : List Int} (ha : a ≠ []) (hu : u ≠ []) (hv : v ≠ []) : Same5 p q k (cat a u) (cat a v) ↔ Same5 p q k u v := by
  unfold Same5
  have e : Sg (act (Fl p q) (cat (wneg (cat a u)) (cat a v)) one) (act (Fl p q) (cat (wneg u) v) one) := by
    rw [wneg_cat ha hu, act_cat _ _ _ _ (cat_ne (wneg_ne hu)) (cat_ne ha), act_cat _ _ _ _ (wneg_ne hu) (wneg_ne ha), act_cat _ _ _ _ ha hv, act_cat _ _ _ _ (wneg_ne hu) hv]
    exact (act_forth a (act (Fl p q) (wneg u) one) ha).act v
  exact ⟨fun h => J.sg e.symm h, fun h => J.sg e h⟩
/-- the joined walk may be reduced -/
theorem Same5.red {u v : List Int} (hu : u ≠ []) : J k (act (Fl p q) (K5.red (cat (wneg u) v)) one) ↔ Same5 p q k u v := by
  have e : Sg (act (Fl p q) (K5.red (cat (wneg u) v)) one) (act (Fl p q) (cat (wneg u) v) one) := red_act _ one (cat_ne (wneg_ne hu))
  exact ⟨fun h => J.sg e.symm h, fun h => J.sg e h⟩
/-! ### around a room -/
def around (p : Nat) : List Int := List.replicate p 1 ++ [0]
theorem around_ne (p : Nat) : around p ≠ [] := by
  unfold around
  simp
theorem actG_around (o : Ops) : ∀ (p : Nat) (n : N4), actG o (List.replicate p 1 ++ [0]) n = Vn (U o) p (G n)
  | 0, n => rfl
  | p + 1, n => by
    show actG o (List.replicate p 1 ++ [0]) (turnK o 1 (G n)) = Vn (U o) p (U o (G n))
    rw [actG_around o p]
    rfl
theorem act_around (o : Ops) (p : Nat) (hp : 1 ≤ p) (n : N4) : act o (around p) n = Vn (U o) p n := by
  obtain ⟨r, rfl⟩ : ∃ r, p = r + 1 := ⟨p - 1, by omega⟩
  show actG o (List.replicate r 1 ++ [0]) (turnK o 1 n) = Vn (U o) r (U o n)
  rw [actG_around o r]
  rfl
theorem box_U (hp : 2 ≤ p) (hq : 2 ≤ q) {z : N4} (h : Box p q z) : Box p q (U (Fl p q) z) := box_G (box_T hp hq h)
theorem around_so (hp : 2 ≤ p) (hq : 2 ≤ q) {z : N4} (h : Box p q z) : act (Fl p q) (around p) z = -So (X4 (Fl p q)) (p - 1) z := by
  rw [act_around _ p (by omega)]
  exact vn_q (lin_X _) (lin_U _) (UX _) (UU _) (by omega) (so_X_box hp (box_U hp hq h))
theorem box_neg {z : N4} (h : Box p q z) : Box p q (-z) := ⟨h.1.neg, h.2.1.neg, h.2.2.1.neg, h.2.2.2.neg⟩
/-- led backwards around a room: S(p - 1) of X but for a sign -/
theorem around_back (hp : 2 ≤ p) (hq : 2 ≤ q) {z : N4} (h : Box p q z) : Sg (act (Fl p q) (wneg (around p)) z) (So (X4 (Fl p q)) (p - 1) z) := by
  have hb : Box p q (So (X4 (Fl p q)) (p - 1) z) := by
    have e := around_so hp hq h
    have hb := box_act hp hq (around p) h
    rw [e] at hb
    have := box_neg hb
    rwa [N4.neg_neg] at this
  have e2 := around_so hp hq hb
  rw [so_inv (lin_X _) hp (so_X_box hp h)] at e2
  -- z = -(around of S z)
  have e3 : z = -(act (Fl p q) (around p) (So (X4 (Fl p q)) (p - 1) z)) := by rw [e2, N4.neg_neg]
  have e4 := act_back (o := Fl p q) (around p) (So (X4 (Fl p q)) (p - 1) z) (around_ne p)
  have e5 : act (Fl p q) (wneg (around p)) z = -(act (Fl p q) (wneg (around p)) (act (Fl p q) (around p) (So (X4 (Fl p q)) (p - 1) z))) := by
    rw [← act_neg, ← e3]
  rw [e5]
  exact e4.neg
theorem J.so {z : N4} (h : J k z) : J k (So (X4 (Fl p q)) (p - 1) z) := by
  rw [so_X4]
  have h0 : ∀ r, soC (Fl p q).X r 0 = 0 := fun r => by
    have e := so_X4 (Fl p q) r N0
    rw [(so_lin (lin_X _) r).zero] at e
    exact (congrArg N4.a e).symm
  exact J.map (F := soC (Fl p q).X (p - 1)) (h0 _) h
/-- the walks with a room of p sides put in front show the same -/
theorem Same5.around (hp : 2 ≤ p) (hq : 2 ≤ q) {u v : List Int} (hu : u ≠ []) (hv : v ≠ []) : Same5 p q k (cat (K5.around p) u) v ↔ Same5 p q k u v := by
  unfold Same5
  have hb : Box p q (act (Fl p q) (wneg u) one) := box_act hp hq _ (box_one hp hq)
  have hb2 : Box p q (act (Fl p q) v (act (Fl p q) (wneg u) one)) := box_act hp hq _ hb
  have e : Sg (act (Fl p q) (cat (wneg (cat (K5.around p) u)) v) one) (So (X4 (Fl p q)) (p - 1) (act (Fl p q) (cat (wneg u) v) one)) := by
    rw [wneg_cat (around_ne p) hu, act_cat _ _ _ _ (cat_ne (wneg_ne hu)) hv, act_cat _ _ _ _ (wneg_ne hu) (wneg_ne (around_ne p)), act_cat _ _ _ _ (wneg_ne hu) hv]
    have e1 := (around_back hp hq hb).act (o := Fl p q) v
    have e2 : act (Fl p q) v (So (X4 (Fl p q)) (p - 1) (act (Fl p q) (wneg u) one)) = So (X4 (Fl p q)) (p - 1) (act (Fl p q) v (act (Fl p q) (wneg u) one)) :=
      so_pass ⟨act_add4 _ v, act_neg _ v⟩ (fun n => ((pass_X (Fl p q)).act v n).symm) (p - 1) _
    rw [e2] at e1
    exact e1
  refine ⟨fun h => ?_, fun h => J.sg e h.so⟩
  have z := (J.sg e.symm h).so (p := p) (q := q)
  rw [act_cat _ _ _ _ (wneg_ne hu) hv] at z ⊢
  rwa [so_inv (lin_X _) hp (so_X_box hp hb2)] at z
end
end K5
/-! K5Mathf: lists of terms. -/
namespace K5
abbrev Tm := Nat × Nat × Int
/-- the coefficient function of a list of terms -/
def cf : List Tm → C
  | [] => 0
  | t :: ts => fun i j => (if t.1 = i ∧ t.2.1 = j then t.2.2 else 0) + cf ts i j
theorem cf_nil : cf [] = 0 := rfl
theorem cf_cons (t : Tm) (ts : List Tm) (i j : Nat) : cf (t :: ts) i j = (if t.1 = i ∧ t.2.1 = j then t.2.2 else 0) + cf ts i j := rfl
theorem cf_append : ∀ (us vs : List Tm), cf (us ++ vs) = cf us + cf vs
  | [], vs => C.ext fun i j => by rw [C.add_at]; show _ = (0 : C) i j + _; rw [C.zero_at]; simp
  | t :: us, vs => C.ext fun i j => by
    rw [C.add_at, List.cons_append, cf_cons, cf_cons, cf_append us vs, C.add_at]
    omega
theorem cf_snoc (ts : List Tm) (t : Tm) (i j : Nat) : cf (ts ++ [t]) i j = cf ts i j + if t.1 = i ∧ t.2.1 = j then t.2.2 else 0 := by
  rw [cf_append, C.add_at, cf_cons]
  show _ + (_ + (0 : C) i j) = _
  rw [C.zero_at]
  omega
theorem cf_neg : ∀ ts : List Tm, cf (ts.map fun t => (t.1, t.2.1, -t.2.2)) = -cf ts
  | [] => C.ext fun _ _ => rfl
  | t :: ts => C.ext fun i j => by
    rw [C.neg_at, List.map_cons, cf_cons, cf_cons, cf_neg ts, C.neg_at]
    by_cases h : t.1 = i ∧ t.2.1 = j
    · rw [if_pos h, if_pos h]; show -t.2.2 + _ = _; omega
    · rw [if_neg h, if_neg h]; omega
theorem cf_swap : ∀ ts : List Tm, cf (ts.map fun t => (t.2.1, t.1, t.2.2)) = tr (cf ts)
  | [] => C.ext fun _ _ => rfl
  | t :: ts => C.ext fun i j => by
    show _ = cf (t :: ts) j i
    rw [List.map_cons, cf_cons, cf_cons, cf_swap ts]
    show _ + cf ts j i = _
    congr 1
    by_cases h : t.1 = j ∧ t.2.1 = i
    · rw [if_pos h, if_pos ⟨h.2, h.1⟩]
    · rw [if_neg h, if_neg fun q => h ⟨q.2, q.1⟩]
theorem cf_shx : ∀ ts : List Tm, cf (ts.map fun t => (1 + t.1, 0 + t.2.1, 1 * t.2.2)) = shx (cf ts)
  | [] => C.ext fun i j => by cases i <;> rfl
  | t :: ts => C.ext fun i j => by
    rw [List.map_cons, cf_cons, cf_shx ts]
    cases i with
    | zero =>
      rw [if_neg (by intro q; have := q.1; have := q.2; simp only at *; omega)]
      rfl
    | succ i =>
      show _ + cf ts i j = cf (t :: ts) i j
      rw [cf_cons]
      congr 1
      by_cases h : t.1 = i ∧ t.2.1 = j
      · rw [if_pos h, if_pos (by simp; omega)]; simp
      · rw [if_neg h, if_neg (by simp; omega)]
theorem cf_shy : ∀ ts : List Tm, cf (ts.map fun t => (0 + t.1, 1 + t.2.1, 1 * t.2.2)) = shy (cf ts)
  | [] => C.ext fun i j => by cases j <;> rfl
  | t :: ts => C.ext fun i j => by
    rw [List.map_cons, cf_cons, cf_shy ts]
    cases j with
    | zero =>
      rw [if_neg (by intro q; have := q.1; have := q.2; simp only at *; omega)]
      rfl
    | succ j =>
      show _ + cf ts i j = cf (t :: ts) i j
      rw [cf_cons]
      congr 1
      by_cases h : t.1 = i ∧ t.2.1 = j
      · rw [if_pos h, if_pos (by simp; omega)]; simp
      · rw [if_neg h, if_neg (by simp; omega)]
theorem cf_none : ∀ {ts : List Tm} {i j : Nat}, (i, j) ∉ ts.map (fun t => (t.1, t.2.1)) → cf ts i j = 0
  | [], _, _, _ => rfl
  | t :: ts, i, j, h => by
    simp only [List.map_cons, List.mem_cons, not_or, Prod.mk.injEq] at h
    rw [cf_cons, if_neg (fun q => h.1 ⟨q.1.symm, q.2.symm⟩), cf_none h.2]
    rfl
/-- no place twice, no zero -/
def Norm (ts : List Tm) : Prop := (ts.map fun t => (t.1, t.2.1)).Nodup ∧ ∀ t ∈ ts, t.2.2 ≠ 0
theorem Norm.tail {t : Tm} {ts : List Tm} (h : Norm (t :: ts)) : Norm ts := ⟨(List.nodup_cons.mp h.1).2, fun t m => h.2 t (List.mem_cons_of_mem _ m)⟩
theorem Norm.at_ : ∀ {ts : List Tm} {t : Tm}, Norm ts → t ∈ ts → cf ts t.1 t.2.1 = t.2.2
  | s :: ts, t, h, m => by
    have h1 := (List.nodup_cons.mp h.1).1
    rw [cf_cons]
    rcases List.mem_cons.mp m with e | m
    · subst e
      rw [if_pos ⟨rfl, rfl⟩, cf_none h1]
      omega
    · rw [if_neg, Norm.at_ h.tail m]
      · omega
      · intro q
        exact h1 (List.mem_map.mpr ⟨t, m, by show (t.1, t.2.1) = (s.1, s.2.1); rw [q.1, q.2]⟩)
theorem nodup_lt : ∀ (N : Nat) (l : List Nat), l.Nodup → (∀ x ∈ l, x < N) → l.length ≤ N
  | 0, l, _, h => by
    cases l with
    | nil => simp
    | cons x l => exact absurd (h x (by simp)) (Nat.not_lt_zero x)
  | N + 1, l, hd, h => by
    have h1 := nodup_lt N (l.erase N) (hd.erase N) fun x hx => by
      have hx1 := h x (List.mem_of_mem_erase hx)
      have : x ≠ N := by
        rintro rfl
        exact (List.Nodup.not_mem_erase hd) hx
      omega
    by_cases hN : N ∈ l
    · rw [List.length_erase_of_mem hN] at h1
      omega
    · rw [List.erase_of_not_mem hN] at h1
      omega
theorem Norm.len {ts : List Tm} {n m : Nat} (h : Norm ts) (s : Sup n m (cf ts)) : ts.length ≤ n * m := by
  have hb : ∀ t ∈ ts, t.1 < n ∧ t.2.1 < m := fun t ht => by
    have e := h.at_ ht
    have e2 := h.2 t ht
    constructor
    · apply Nat.lt_of_not_le
      intro q
      rw [s _ _ (.inl q)] at e
      exact e2 e.symm
    · apply Nat.lt_of_not_le
      intro q
      rw [s _ _ (.inr q)] at e
      exact e2 e.symm
  have h1 := nodup_lt (n * m) (ts.map fun t => t.1 * m + t.2.1) ?_ ?_
  · simpa using h1
  · have hd := h.1
    rw [List.nodup_iff_pairwise_ne, List.pairwise_map] at hd ⊢
    refine hd.imp_of_mem ?_
    intro a b ha hb' hne q
    apply hne
    have a2 := (hb a ha).2
    have b2 := (hb b hb').2
    have e1 : a.1 = b.1 := by
      have : (a.1 * m + a.2.1) / m = (b.1 * m + b.2.1) / m := congrArg (· / m) q
      rw [Nat.mul_comm, Nat.mul_add_div (by omega), Nat.mul_comm b.1, Nat.mul_add_div (by omega), Nat.div_eq_of_lt a2, Nat.div_eq_of_lt b2] at this
      omega
    rw [e1] at q
    have e2 : a.2.1 = b.2.1 := by omega
    rw [e1, e2]
  · intro x hx
    obtain ⟨t, ht, rfl⟩ := List.mem_map.mp hx
    have ⟨a, b⟩ := hb t ht
    calc t.1 * m + t.2.1 < t.1 * m + m := by omega
      _ = (t.1 + 1) * m := by rw [Nat.add_mul]; omega
      _ ≤ n * m := Nat.mul_le_mul_right m a
theorem Norm.key {ts : List Tm} {n m : Nat} (h : Norm ts) (s : Sup n m (cf ts)) {t : Tm} (ht : t ∈ ts) : t.1 < n ∧ t.2.1 < m := by
  have e := h.at_ ht
  have e2 := h.2 t ht
  constructor
  · apply Nat.lt_of_not_le
    intro q
    rw [s _ _ (.inl q)] at e
    exact e2 e.symm
  · apply Nat.lt_of_not_le
    intro q
    rw [s _ _ (.inr q)] at e
    exact e2 e.symm
theorem Norm.nil_iff {ts : List Tm} (h : Norm ts) : ts = [] ↔ cf ts = 0 := by
  constructor
  · rintro rfl; rfl
  · intro e
    cases ts with
    | nil => rfl
    | cons t ts =>
      have := h.at_ (t := t) (by simp)
      rw [e] at this
      exact absurd this.symm (h.2 t (by simp))
/-- a list of places, no place twice, with the values of f there, where f isn't 0: f, if f is nothing elsewhere -/
def atP (f : C) (ps : List (Nat × Nat)) : List Tm := (ps.filter fun p => decide (f p.1 p.2 ≠ 0)).map fun p => (p.1, p.2, f p.1 p.2)
theorem atP_norm (f : C) {ps : List (Nat × Nat)} (h : ps.Nodup) : Norm (atP f ps) := by
  refine ⟨?_, fun t ht => ?_⟩
  · unfold atP
    rw [List.map_map]
    show ((ps.filter _).map fun p => (p.1, p.2)).Nodup
    rw [show (fun p : Nat × Nat => (p.1, p.2)) = id from rfl, List.map_id]
    exact h.filter _
  · obtain ⟨p, hp, rfl⟩ := List.mem_map.mp ht
    simpa using (List.mem_filter.mp hp).2
theorem atP_cf (f : C) {ps : List (Nat × Nat)} (h : ps.Nodup) (hn : ∀ i j, (i, j) ∉ ps → f i j = 0) : cf (atP f ps) = f := C.ext fun i j => by
  have hN := atP_norm f h
  by_cases hf : f i j = 0
  · rw [hf]
    apply cf_none
    intro hm
    obtain ⟨t, ht, e⟩ := List.mem_map.mp hm
    obtain ⟨p, hp, rfl⟩ := List.mem_map.mp ht
    cases e
    have := (List.mem_filter.mp hp).2
    simp [hf] at this
  · have hm : (i, j) ∈ ps := Classical.byContradiction fun q => hf (hn i j q)
    have ht : (i, j, f i j) ∈ atP f ps := List.mem_map.mpr ⟨(i, j), List.mem_filter.mpr ⟨hm, by simpa using hf⟩, rfl⟩
    exact hN.at_ ht
end K5
/-! K5Mathg: tables of truths. -/
namespace K5
abbrev Tab := List (List Bool)
/-- without the copies at the end, back to front -/
def wcr {α : Type} [DecidableEq α] : List α → List α
  | a :: b :: r => if a = b then wcr (b :: r) else a :: b :: r
  | l => l
def wc {α : Type} [DecidableEq α] (l : List α) : List α := (wcr l.reverse).reverse
section
variable {α : Type} [DecidableEq α]
/-- the i-th, the last one for ever -/
def lastD (d : α) (l : List α) (i : Nat) : α := l.getD (min i (l.length - 1)) d
theorem wcr_ne : ∀ {l : List α}, l ≠ [] → wcr l ≠ []
  | [], h => absurd rfl h
  | [a], _ => by simp [wcr]
  | a :: b :: r, _ => by
    rw [wcr]
    split
    · exact wcr_ne (by simp)
    · simp
theorem wcr_len : ∀ l : List α, (wcr l).length ≤ l.length
  | [] => Nat.le_refl _
  | [a] => Nat.le_refl _
  | a :: b :: r => by
    rw [wcr]
    split
    · have := wcr_len (b :: r)
      simp only [List.length_cons] at *
      omega
    · exact Nat.le_refl _
theorem wc_ne {l : List α} (h : l ≠ []) : wc l ≠ [] := by
  unfold wc
  intro e
  exact wcr_ne (by simpa using h) (List.reverse_eq_nil_iff.mp e)
theorem wc_len (l : List α) : (wc l).length ≤ l.length := by
  unfold wc
  rw [List.length_reverse]
  have := wcr_len l.reverse
  rw [List.length_reverse] at this
  exact this
theorem lastD_dup (d : α) (l : List α) (a : α) (i : Nat) : lastD d (l ++ [a, a]) i = lastD d (l ++ [a]) i := by
  unfold lastD
  simp only [List.length_append, List.length_cons, List.length_nil, List.getD_eq_getElem?_getD]
  by_cases h : i < l.length
  · rw [List.getElem?_append_left (by omega), List.getElem?_append_left (by omega), show min i (l.length + (0 + 1 + 1) - 1) = i by omega, show min i (l.length + (0 + 1) - 1) = i by omega]
  · rw [List.getElem?_append_right (by omega), List.getElem?_append_right (by omega)]
    rw [show min i (l.length + (0 + 1) - 1) - l.length = 0 by omega]
    by_cases h2 : i = l.length
    · rw [show min i (l.length + (0 + 1 + 1) - 1) - l.length = 0 by omega]
      rfl
    · rw [show min i (l.length + (0 + 1 + 1) - 1) - l.length = 1 by omega]
      rfl
theorem wcr_lastD (d : α) : ∀ (l : List α) (i : Nat), lastD d (wcr l).reverse i = lastD d l.reverse i
  | [], i => rfl
  | [a], i => rfl
  | a :: b :: r, i => by
    rw [wcr]
    split
    · rename_i h
      subst h
      rw [wcr_lastD d (a :: r) i]
      simp only [List.reverse_cons, List.append_assoc, List.singleton_append]
      exact (lastD_dup d r.reverse a i).symm
    · rfl
theorem wc_lastD (d : α) (l : List α) (i : Nat) : lastD d (wc l) i = lastD d l i := by
  unfold wc
  rw [wcr_lastD, List.reverse_reverse]
theorem wcr_mem : ∀ {l : List α} {x : α}, x ∈ wcr l → x ∈ l
  | [], _, h => h
  | [a], _, h => h
  | a :: b :: r, x, h => by
    rw [wcr] at h
    split at h
    · exact List.mem_cons_of_mem _ (wcr_mem h)
    · exact h
theorem wc_mem {l : List α} {x : α} (h : x ∈ wc l) : x ∈ l := by
  unfold wc at h
  rw [List.mem_reverse] at h
  have := wcr_mem h
  rwa [List.mem_reverse] at this
/-- all the same: one is left -/
theorem wcr_all {a : α} : ∀ {l : List α}, l ≠ [] → (∀ x ∈ l, x = a) → wcr l = [a]
  | [], h, _ => absurd rfl h
  | [b], _, h => by rw [h b (by simp)]; rfl
  | b :: c :: r, _, h => by
    rw [wcr, if_pos (by rw [h b (by simp), h c (by simp)])]
    exact wcr_all (by simp) fun x hx => h x (List.mem_cons_of_mem _ hx)
theorem wc_all {a : α} {l : List α} (hl : l ≠ []) (h : ∀ x ∈ l, x = a) : wc l = [a] := by
  unfold wc
  rw [wcr_all (a := a) (by simpa using hl) (fun x hx => h x (by simpa using hx))]
  rfl
end
/-- the columns, m of them -/
def colsOf (m : Nat) (t : Tab) : Tab := (List.range m).map fun j => t.map fun r => r.getD j false
theorem colsOf_len (m : Nat) (t : Tab) : (colsOf m t).length = m := by simp [colsOf]
theorem colsOf_row {m : Nat} {t : Tab} : ∀ r ∈ colsOf m t, r.length = t.length := by
  intro r hr
  obtain ⟨j, _, rfl⟩ := List.mem_map.mp hr
  simp
theorem colsOf_at {m : Nat} {t : Tab} {i j : Nat} (hj : j < m) (hi : i < t.length) : ((colsOf m t).getD j []).getD i false = (t.getD i []).getD j false := by
  simp [colsOf, List.getD_eq_getElem?_getD, hj, hi]
def least (m : Nat) (t : Tab) : Tab := colsOf (wc t).length (wc (colsOf m (wc t)))
/-- what a table says of (i, j) -/
def memT (t : Tab) (i j : Nat) : Bool := lastD false (lastD [] t i) j
structure Rect (n m : Nat) (t : Tab) : Prop where
  len : t.length = n
  row : ∀ r ∈ t, r.length = m
  n0 : 0 < n
  m0 : 0 < m
theorem lastD_mem {α : Type} [DecidableEq α] {d : α} {l : List α} (h : l ≠ []) (i : Nat) : lastD d l i ∈ l := by
  unfold lastD
  have : 0 < l.length := List.length_pos_iff.mpr h
  rw [List.getD_eq_getElem?_getD, List.getElem?_eq_getElem (by omega)]
  exact List.getElem_mem _
theorem Rect.ne {n m : Nat} {t : Tab} (h : Rect n m t) : t ≠ [] := by
  intro e
  have := h.len
  rw [e] at this
  have := h.n0
  simp at *
  omega
theorem Rect.mem_eq {n m : Nat} {t : Tab} (h : Rect n m t) (i j : Nat) : memT t i j = (t.getD (min i (n - 1)) []).getD (min j (m - 1)) false := by
  unfold memT
  have hm := h.row _ (lastD_mem (d := []) h.ne i)
  unfold lastD at hm ⊢
  rw [hm, h.len]
theorem least_ok {n m : Nat} {t : Tab} (h : Rect n m t) : ∃ n' m', n' ≤ n ∧ m' ≤ m ∧ Rect n' m' (least m t) ∧ (∀ i j, memT (least m t) i j = memT t i j) ∧ ((∀ i j, memT t i j = true) → least m t = [[true]]) := by
  have hk : wc t ≠ [] := wc_ne h.ne
  have hkl : 0 < (wc t).length := List.length_pos_iff.mpr hk
  have hkr : ∀ r ∈ wc t, r.length = m := fun r hr => h.row r (wc_mem hr)
  have hc : colsOf m (wc t) ≠ [] := by
    intro e
    have := colsOf_len m (wc t)
    rw [e] at this
    have := h.m0
    simp at *
    omega
  have hcl : 0 < (wc (colsOf m (wc t))).length := List.length_pos_iff.mpr (wc_ne hc)
  have hcr : ∀ r ∈ wc (colsOf m (wc t)), r.length = (wc t).length := fun r hr => colsOf_row r (wc_mem hr)
  have hRk : Rect (wc t).length m (wc t) := ⟨rfl, hkr, hkl, h.m0⟩
  have hRc : Rect m (wc t).length (colsOf m (wc t)) := ⟨colsOf_len _ _, colsOf_row, h.m0, hkl⟩
  have hRc' : Rect (wc (colsOf m (wc t))).length (wc t).length (wc (colsOf m (wc t))) := ⟨rfl, hcr, hcl, hkl⟩
  have hR : Rect (wc t).length (wc (colsOf m (wc t))).length (least m t) := ⟨colsOf_len _ _, colsOf_row, hkl, hcl⟩
  have hcols : ∀ {n m : Nat} {t : Tab}, Rect n m t → ∀ i j, memT (colsOf m t) j i = memT t i j := by
    intro n m t h i j
    have hR' : Rect m n (colsOf m t) := ⟨colsOf_len _ _, fun r hr => by rw [colsOf_row r hr, h.len], h.m0, h.n0⟩
    rw [hR'.mem_eq, h.mem_eq]
    have := h.n0
    have := h.m0
    exact colsOf_at (by omega) (by rw [h.len]; omega)
  refine ⟨(wc t).length, (wc (colsOf m (wc t))).length, by rw [← h.len]; exact wc_len t, ?_, hR, fun i j => ?_, fun ht => ?_⟩
  · have := wc_len (colsOf m (wc t))
    rw [colsOf_len] at this
    exact this
  · have e1 : memT (least m t) i j = memT (wc (colsOf m (wc t))) j i := by
      unfold least
      exact hcols (n := (wc (colsOf m (wc t))).length) hRc' j i
    have e2 : memT (wc (colsOf m (wc t))) j i = memT (colsOf m (wc t)) j i := by
      unfold memT
      rw [wc_lastD]
    have e3 : memT (colsOf m (wc t)) j i = memT (wc t) i j := hcols hRk i j
    have e4 : memT (wc t) i j = memT t i j := by
      unfold memT
      rw [wc_lastD]
    rw [e1, e2, e3, e4]
  · have hrow : ∀ r ∈ t, r = List.replicate m true := by
      intro r hr
      obtain ⟨i, hi, e⟩ := List.getElem_of_mem hr
      apply List.ext_getElem
      · rw [h.row r hr, List.length_replicate]
      · intro j h1 h2
        have := ht i j
        rw [h.mem_eq, show min i (n - 1) = i by have := h.len; omega] at this
        rw [h.row r hr] at h1
        rw [show min j (m - 1) = j by omega] at this
        rw [List.getD_eq_getElem?_getD, List.getD_eq_getElem?_getD, List.getElem?_eq_getElem hi, Option.getD_some, e, List.getElem?_eq_getElem (by rw [h.row r hr]; exact h1), Option.getD_some] at this
        rw [this, List.getElem_replicate]
    have e1 : wc t = [List.replicate m true] := wc_all h.ne hrow
    have e2 : wc (colsOf m (wc t)) = [[true]] := by
      refine wc_all hc fun x hx => ?_
      rw [e1] at hx
      obtain ⟨j, hj, rfl⟩ := List.mem_map.mp hx
      have := List.mem_range.mp hj
      simp [List.getD_eq_getElem?_getD, this]
    unfold least
    rw [e2, e1]
    rfl
/-- grown to h rows of w -/
def grow (n m h w : Nat) (t : Tab) : Tab := t.map (fun r => r ++ List.replicate (w - m) (r.getD (m - 1) false)) ++ List.replicate (h - n) ((t.map fun r => r ++ List.replicate (w - m) (r.getD (m - 1) false)).getD (n - 1) [])
theorem grow_ok {n m h w : Nat} {t : Tab} (ht : Rect n m t) (hn : n ≤ h) (hm : m ≤ w) : Rect h w (grow n m h w t) ∧ ∀ i j, memT (grow n m h w t) i j = memT t i j := by
  have n0 := ht.n0
  have m0 := ht.m0
  have hrow : ∀ r ∈ grow n m h w t, r.length = w := by
    intro r hr
    unfold grow at hr
    have key : ∀ r ∈ t.map (fun r => r ++ List.replicate (w - m) (r.getD (m - 1) false)), r.length = w := by
      intro r hr
      obtain ⟨r', hr', rfl⟩ := List.mem_map.mp hr
      rw [List.length_append, List.length_replicate, ht.row r' hr']
      omega
    rcases List.mem_append.mp hr with hr | hr
    · exact key r hr
    · have := (List.mem_replicate.mp hr).2
      subst this
      refine key _ ?_
      rw [List.getD_eq_getElem?_getD, List.getElem?_eq_getElem (by rw [List.length_map, ht.len]; omega)]
      exact List.getElem_mem _
  have hR : Rect h w (grow n m h w t) := ⟨by unfold grow; rw [List.length_append, List.length_map, List.length_replicate, ht.len]; omega, hrow, by omega, by omega⟩
  refine ⟨hR, fun i j => ?_⟩
  rw [hR.mem_eq, ht.mem_eq]
  have e1 : (grow n m h w t).getD (min i (h - 1)) [] = (t.map fun r => r ++ List.replicate (w - m) (r.getD (m - 1) false)).getD (min i (n - 1)) [] := by
    unfold grow
    rw [List.getD_eq_getElem?_getD]
    by_cases hi : min i (h - 1) < n
    · rw [List.getElem?_append_left (by rw [List.length_map, ht.len]; exact hi), List.getD_eq_getElem?_getD, show min i (h - 1) = min i (n - 1) by omega]
    · rw [List.getElem?_append_right (by rw [List.length_map, ht.len]; omega), List.length_map, ht.len, List.getElem?_replicate, if_pos (by omega)]
      rw [Option.getD_some, show min i (n - 1) = n - 1 by omega]
  rw [e1]
  obtain ⟨r, hr⟩ : ∃ r, t[min i (n - 1)]? = some r := ⟨_, List.getElem?_eq_getElem (by rw [ht.len]; omega)⟩
  have hrl := ht.row r (List.mem_of_getElem? hr)
  have e2 : (t.map fun r => r ++ List.replicate (w - m) (r.getD (m - 1) false)).getD (min i (n - 1)) [] = r ++ List.replicate (w - m) (r.getD (m - 1) false) := by
    rw [List.getD_eq_getElem?_getD, List.getElem?_map, hr]; rfl
  have e3 : t.getD (min i (n - 1)) [] = r := by rw [List.getD_eq_getElem?_getD, hr]; rfl
  rw [e2, e3, List.getD_eq_getElem?_getD]
  by_cases hj : min j (w - 1) < m
  · rw [List.getElem?_append_left (by omega), List.getD_eq_getElem?_getD, show min j (w - 1) = min j (m - 1) by omega]
  · rw [List.getElem?_append_right (by omega), hrl, List.getElem?_replicate, if_pos (by omega), Option.getD_some, show min j (m - 1) = m - 1 by omega]
/-- two tables of one shape, place by place -/
def both (g : Bool → Bool → Bool) (s t : Tab) : Tab := List.zipWith (fun r q => List.zipWith g r q) s t
theorem both_ok {n m : Nat} {s t : Tab} {g : Bool → Bool → Bool} (hs : Rect n m s) (ht : Rect n m t) : Rect n m (both g s t) ∧ ∀ i j, memT (both g s t) i j = g (memT s i j) (memT t i j) := by
  have n0 := hs.n0
  have m0 := hs.m0
  have hrow : ∀ r ∈ both g s t, r.length = m := by
    intro r hr
    unfold both at hr
    obtain ⟨i, hi, e⟩ := List.getElem_of_mem hr
    rw [List.getElem_zipWith] at e
    rw [← e, List.length_zipWith, hs.row _ (List.getElem_mem _), ht.row _ (List.getElem_mem _)]
    omega
  have hR : Rect n m (both g s t) := ⟨by unfold both; rw [List.length_zipWith, hs.len, ht.len]; omega, hrow, n0, m0⟩
  refine ⟨hR, fun i j => ?_⟩
  rw [hR.mem_eq, hs.mem_eq, ht.mem_eq]
  obtain ⟨r, hr⟩ : ∃ r, s[min i (n - 1)]? = some r := ⟨_, List.getElem?_eq_getElem (by rw [hs.len]; omega)⟩
  obtain ⟨q, hq⟩ : ∃ q, t[min i (n - 1)]? = some q := ⟨_, List.getElem?_eq_getElem (by rw [ht.len]; omega)⟩
  have hrl := hs.row r (List.mem_of_getElem? hr)
  have hql := ht.row q (List.mem_of_getElem? hq)
  obtain ⟨x, hx⟩ : ∃ x, r[min j (m - 1)]? = some x := ⟨_, List.getElem?_eq_getElem (by omega)⟩
  obtain ⟨y, hy⟩ : ∃ y, q[min j (m - 1)]? = some y := ⟨_, List.getElem?_eq_getElem (by omega)⟩
  unfold both
  simp only [List.getD_eq_getElem?_getD, List.getElem?_zipWith, hr, hq, Option.getD_some, hx, hy]
end K5
set_option maxHeartbeats 4000000
/-! W5Ra: further rules over the hand layer: operators of own classes, classmethods without arguments, a class held by a local name, xs[i] op= e of lists, dict(d), several dicts locked at once. -/
namespace W5
open PySem PySem.Spec PyProof.Rows L2

/-! ### defs, methods, classes by what one needs to call them -/
section
variable (P : Program) (w : World) (K : PySem.W.Frag) (mg : Str → Option Value) (base : Heap)
def Cal (k : Nat) (x : Str) (sp : Sp) : Prop := ∃ (f : Addr) (fd : FuncData) (ps : List Str), FnOk P w K mg base CX0 k f fd ps sp ∧ mg x = some (.ref f) ∧ PySem.W.keepIn K (.ref f) = true ∧ Binds K fd ps []
/-- .. the last parameters by keyword alone, in this order -/
def CalK (k : Nat) (x : Str) (n : Nat) (ks : List Str) (sp : Sp) : Prop := ∃ (f : Addr) (fd : FuncData) (ps : List Str), FnOk P w K mg base CX0 k f fd ps sp ∧ mg x = some (.ref f) ∧ PySem.W.keepIn K (.ref f) = true ∧ KBn K fd ps n ks (fun us ws => us ++ ws) (fun vs zs => vs ++ zs)
def Met (k : Nat) (C : Addr) (m : Str) (sp : Sp) : Prop := ∃ (f : Addr) (fd : FuncData) (ps : List Str), Cls K C ∧ Meth K C m f ∧ FnOk P w K mg base CX0 k f fd ps sp ∧ Binds K fd ps []
def Mak (k : Nat) (x : Str) (C : Addr) (sp : Sp) : Prop := ∃ (f : Addr) (fd : FuncData) (ps : List Str), Mk K C f ∧ FnOk P w K mg base CX0 k f fd ps sp ∧ mg x = some (.ref C) ∧ Binds K fd ps []
/-- a classmethod of the class that the module's name x holds -/
def Clm (k : Nat) (x : Str) (C : Addr) (m : Str) (sp : Sp) : Prop := ∃ (mc : Value) (p g : Addr), ClX.CRead K C mc ∧ ClX.CMet K C mc m p g ∧ FnR P w K mg base CX0 k g sp ∧ mg x = some (.ref C)
end
section
variable {P : Program} {w : World} {K : PySem.W.Frag} {mg : Str → Option Value} {base : Heap}
theorem Cal.imp {k : Nat} {x : Str} {sp sp' : Sp} (c : Cal P w K mg base k x sp) (h : ∀ vs H Q E, sp' vs H Q E → sp vs H Q E) : Cal P w K mg base k x sp' :=
  let ⟨f, fd, ps, F, a, b, d⟩ := c
  ⟨f, fd, ps, F.imp h, a, b, d⟩
end

section
variable {X : Cx} {k j n : Nat} {C : Addr} {x m : Str} {sp : Sp} {p pos apos : Pos} {e o : Expr} {es : List Expr} {kws : List Keyword} {ta : TE} {t tk : TA} {ks : List Str}
theorem pe_c (c : Cal X.prog X.w X.K X.mg X.base k x sp) (hr : Room j X.A) (hk : k ≤ j) (hg : Gl X x) (ha : PA X (e :: es) t)
    (hdb : (x == ("__debug__" : Str)) = false := by decide) (he : starEach (e :: es) X.env = (false, eval e X.env) :: starEach es X.env := by rfl) (hpl : (backTo pos (starEach es X.env)).any (·.1) = false := by rfl) :
    PE X (.Call (.Name x p) (e :: es) [] pos) (tCall sp [] E0 t) := by
  obtain ⟨f, fd, ps, F, hm, kp, b⟩ := c
  exact pe_call F (hr.mono hk) hg hm kp b .nil pass0 ha hdb he hpl
theorem pe_c0 (c : Cal X.prog X.w X.K X.mg X.base k x sp) (hr : Room j X.A) (hk : k ≤ j) (hg : Gl X x) (hdb : (x == ("__debug__" : Str)) = false := by decide) : PE X (.Call (.Name x p) [] [] pos) (tCall sp [] E0 tNil) := by
  obtain ⟨f, fd, ps, F, hm, kp, b⟩ := c
  exact pe_call0 F (hr.mono hk) hg hm kp b .nil pass0 hdb
theorem pe_ck (c : CalK X.prog X.w X.K X.mg X.base k x n ks sp) (hr : Room j X.A) (hk : k ≤ j) (hg : Gl X x) (ha : PA X (e :: es) t) (hkw : PK X kws tk)
    (hall : (backToKw pos (keywordEach kws X.env)).all (·.1.isSome) = true := by rfl) (hks : (backToKw pos (keywordEach kws X.env)).filterMap (·.1) = ks := by rfl)
    (hdb : (x == ("__debug__" : Str)) = false := by decide) (he : starEach (e :: es) X.env = (false, eval e X.env) :: starEach es X.env := by rfl)
    (hpl : ((backTo pos (starEach (e :: es) X.env)).any (·.1) || (backToKw pos (keywordEach kws X.env)).any (·.1.isNone)) = false := by rfl) :
    PE X (.Call (.Name x p) (e :: es) kws pos) (tCallN n ks.length sp (fun vs zs => vs ++ zs) E0 t tk) := by
  obtain ⟨f, fd, ps, F, hm, kp, b⟩ := c
  exact pe_callN F (hr.mono hk) hg hm kp b pass0 ha hkw hall hks hdb he hpl
theorem pe_mk (c : Mak X.prog X.w X.K X.mg X.base k x C sp) (hr : Room j X.A) (hk : k + 1 ≤ j) (hg : Gl X x) (ha : PA X (e :: es) t)
    (hdb : (x == ("__debug__" : Str)) = false := by decide) (he : starEach (e :: es) X.env = (false, eval e X.env) :: starEach es X.env := by rfl) (hpl : (backTo pos (starEach es X.env)).any (·.1) = false := by rfl) :
    PE X (.Call (.Name x p) (e :: es) [] pos) (tMake C sp [] E0 t) := by
  obtain ⟨f, fd, ps, M, F, hm, b⟩ := c
  exact pe_make M F (hr.mono hk) hg hm b .nil pass0 ha hdb he hpl
theorem pe_mk0 (c : Mak X.prog X.w X.K X.mg X.base k x C sp) (hr : Room j X.A) (hk : k + 1 ≤ j) (hg : Gl X x) (hdb : (x == ("__debug__" : Str)) = false := by decide) : PE X (.Call (.Name x p) [] [] pos) (tMake C sp [] E0 tNil) := by
  obtain ⟨f, fd, ps, M, F, hm, b⟩ := c
  exact pe_make0 M F (hr.mono hk) hg hm b .nil pass0 hdb
theorem pe_mt {pl : Sem Bool} (c : Met X.prog X.w X.K X.mg X.base k C m sp) (hr : Room j X.A) (hk : k ≤ j) (he : PE X o ta) (ha : PA X (e :: es) t)
    (hst : starEach (e :: es) X.env = (false, eval e X.env) :: starEach es X.env := by rfl) (hpl : (backTo pos (starEach es X.env)).any (·.1) = false := by rfl)
    (ht : eval (.Call (.Attribute o m apos) (e :: es) [] pos) X.env = (do
      let ov ← eval o X.env
      standAt apos.atName
      let (f, first) ← holding [ov] (getMethod ov m pl)
      callWith pos f first (backTo pos (starEach (e :: es) X.env)) (backToKw pos (keywordEach [] X.env))) := by rfl) :
    PE X (.Call (.Attribute o m apos) (e :: es) [] pos) (tMeth C m sp [] E0 ta t) := by
  obtain ⟨f, fd, ps, hc, hm, F, b⟩ := c
  exact pe_meth (pl := pl) he hc hm F (hr.mono hk) b .nil pass0 ha hst hpl ht
theorem pe_mt0 {pl : Sem Bool} (c : Met X.prog X.w X.K X.mg X.base k C m sp) (hr : Room j X.A) (hk : k ≤ j) (he : PE X o ta)
    (ht : eval (.Call (.Attribute o m apos) [] [] pos) X.env = (do
      let ov ← eval o X.env
      standAt apos.atName
      let (f, first) ← holding [ov] (getMethod ov m pl)
      callWith pos f first (backTo pos (starEach [] X.env)) (backToKw pos (keywordEach [] X.env))) := by rfl) :
    PE X (.Call (.Attribute o m apos) [] [] pos) (tMeth C m sp [] E0 ta tNil) := by
  obtain ⟨f, fd, ps, hc, hm, F, b⟩ := c
  exact pe_meth0 (pl := pl) he hc hm F (hr.mono hk) b .nil pass0 ht
end

/-! ### operators of own classes -/
/-- a op b, both instances of C; the method's promise -/
def rOwn (C : Addr) (sp : Sp) : R2 := fun x y H Q => ∃ a b dx dy fs gs, x = .ref a ∧ y = .ref b ∧ H a = some (.ins C dx fs) ∧ H b = some (.ins C dy gs) ∧ sp [.ref a, .ref b] H (fun v H' => (∃ c, v = .ref c) ∧ Q v H') E0
def rOwn1 (C : Addr) (sp : Sp) : V → Hp → VK → Prop := fun x H Q => ∃ a dx fs, x = .ref a ∧ H a = some (.ins C dx fs) ∧ sp [.ref a] H Q E0
section
variable {X : Cx} {k j : Nat} {C : Addr} {m : Str} {sp : Sp}
theorem op_own {op : Operator} (c : Met X.prog X.w X.K X.mg X.base k C m sp) (hr : Room j X.A) (hk : k ≤ j) (hc : PySem.W.selfFirst X.K C = true) (e : m = PySem.dunder op.info.2) : OpR X (binaryOp op) (rOwn C sp) := by
  intro pins s σ H x y v u Q I rx ry h
  obtain ⟨a, b, dx, dy, fs, gs, rfl, rfl, ha, hb, hs⟩ := h
  cases rx
  cases ry
  obtain ⟨f, fd, ps, cl, hm, F, bi⟩ := c
  subst e
  obtain ⟨mA, JA, _⟩ := ins_get I.hok ha
  obtain ⟨mB, JB, _⟩ := ins_get I.hok hb
  obtain ⟨od, J, _⟩ := JA.look
  obtain ⟨od', J', _⟩ := JB.look
  obtain ⟨mm, hF⟩ := I.fr
  refine PySem.W.binop_K hF I.ok.mod.kin J J'.type hc hm.at_ hm.fn ?_
  refine thn (run_fn (us := [.ref a, .ref b]) (vs := [.ref a, .ref b]) F (hr.mono hk) bi .nil pass0 I (.cons rfl (.cons rfl .nil)) hs) fun r s' q => ?_
  obtain ⟨z, H', I', rz, ⟨cc, ez⟩, q⟩ := q
  subst ez
  cases rz
  exact ⟨.ref cc, H', I', rfl, q⟩
theorem un_own_neg (c : Met X.prog X.w X.K X.mg X.base k C "__neg__" sp) (hr : Room j X.A) (hk : k ≤ j) : UnR X (unaryOp .USub) (rOwn1 C sp) := by
  intro pins s σ H x v Q I rx h
  obtain ⟨a, dx, fs, rfl, ha, hs⟩ := h
  cases rx
  obtain ⟨f, fd, ps, cl, hm, F, bi⟩ := c
  obtain ⟨mA, JA, _⟩ := ins_get I.hok ha
  obtain ⟨od, J, _⟩ := JA.look
  obtain ⟨mm, hF⟩ := I.fr
  refine PySem.W.ksp_neg hF I.ok.mod.kin J hm.at_ hm.fn ?_
  exact run_fn (us := [.ref a]) (vs := [.ref a]) F (hr.mono hk) bi .nil pass0 I (.cons rfl .nil) hs
/-- x in o -/
def rOwnIn (C : Addr) (sp : Sp) : R2 := fun x y H Q => ∃ a dx fs, y = .ref a ∧ H a = some (.ins C dx fs) ∧ sp [.ref a, x] H (fun v H' => ∃ b, v = .bl b ∧ Q (.bl b) H') E0
theorem op_own_in (c : Met X.prog X.w X.K X.mg X.base k C "__contains__" sp) (hr : Room j X.A) (hk : k ≤ j) : OpR X (compareOp .In) (rOwnIn C sp) := by
  intro pins s σ H x y v u Q I rx ry h
  obtain ⟨a, dx, fs, rfl, ha, hs⟩ := h
  cases ry
  obtain ⟨f, fd, ps, cl, hm, F, bi⟩ := c
  obtain ⟨mA, JA, _⟩ := ins_get I.hok ha
  obtain ⟨od, J, _⟩ := JA.look
  obtain ⟨mm, hF⟩ := I.fr
  refine PySem.W.in_K hF I.ok.mod.kin J hm.at_ hm.fn ?_
  refine thn (run_fn (us := [.ref a, v]) (vs := [.ref a, x]) F (hr.mono hk) bi .nil pass0 I (.cons rfl (.cons rx .nil)) hs) fun r s' q => ?_
  obtain ⟨z, H', I', rz, b, ez, q⟩ := q
  subst ez
  cases rz
  exact wpAny_truthy_bool ⟨.bl b, H', I', rfl, q⟩
/-- a == b by the own __eq__, a bool -/
def rOwnEq (C : Addr) (sp : Sp) : R2 := fun x y H Q => ∃ a b dx dy fs gs, x = .ref a ∧ y = .ref b ∧ H a = some (.ins C dx fs) ∧ H b = some (.ins C dy gs) ∧ sp [.ref a, .ref b] H (fun v H' => ∃ k, v = .bl k ∧ Q (.bl k) H') E0
theorem op_own_eq (c : Met X.prog X.w X.K X.mg X.base k C "__eq__" sp) (hr : Room j X.A) (hk : k ≤ j) : OpR X (compareOp .Eq) (rOwnEq C sp) := by
  intro pins s σ H x y v u Q I rx ry h
  obtain ⟨a, b, dx, dy, fs, gs, rfl, rfl, ha, hb, hs⟩ := h
  cases rx
  cases ry
  obtain ⟨f, fd, ps, cl, hm, F, bi⟩ := c
  obtain ⟨mA, JA, _⟩ := ins_get I.hok ha
  obtain ⟨mB, JB, _⟩ := ins_get I.hok hb
  obtain ⟨od, J, _⟩ := JA.look
  obtain ⟨od', J', _⟩ := JB.look
  obtain ⟨mm, hF⟩ := I.fr
  show wpAny (model X.prog X.w) X.A (richCompare .Eq (.ref a) (.ref b)) (EP X pins σ Q) X.xe s
  refine PySem.W.cmp_K (op := .Eq) (tb := .ref C) hr.units0 hF I.ok.mod.kin J J'.type (by simp [PySem.W.notFirst]) hm.at_ hm.fn ?_
  refine thn (run_fn (us := [.ref a, .ref b]) (vs := [.ref a, .ref b]) F (hr.mono hk) bi .nil pass0 I (.cons rfl (.cons rfl .nil)) hs) fun r s' q => ?_
  obtain ⟨z, H', I', rz, kk, ez, q⟩ := q
  subst ez
  cases rz
  exact ⟨.bl kk, H', I', rfl, q⟩
/-- the truth of o by its own __bool__ -/
def tOwnTruth (C : Addr) (sp : Sp) (te : TE) : TT := fun σ H Q => te σ H fun x H1 => ∃ a dx fs, x = .ref a ∧ H1 a = some (.ins C dx fs) ∧ sp [.ref a] H1 (fun v H' => ∃ b, v = .bl b ∧ Q b H') E0
theorem pt_own {e : Expr} {te : TE} (c : Met X.prog X.w X.K X.mg X.base k C "__bool__" sp) (hr : Room j X.A) (hk : k ≤ j) (he : PE X e te) (ht : ∀ whole, isTrue e X.env whole = (do let v ← whole; standAt e.pos; holding [v] (truthy v)) := by intro _; rfl) :
    PT X e (tOwnTruth C sp te) := by
  refine ⟨fun pins s σ H Q I h => ?_⟩
  refine isTrue_plain (thn (he.run pins s σ H _ I h) fun v s1 ⟨x, H1, I1, r1, q1⟩ => ?_) (ht _)
  obtain ⟨a, dx, fs, rfl, ha, hs⟩ := q1
  cases r1
  obtain ⟨f, fd, ps, cl, hm, F, bi⟩ := c
  obtain ⟨mA, JA, _⟩ := ins_get I1.hok ha
  obtain ⟨od, J, _⟩ := JA.look
  obtain ⟨mm, hF⟩ := I1.fr
  refine PySem.W.truthy_K hF I1.ok.mod.kin J hm.at_ hm.fn ?_
  refine thn (run_fn (us := [.ref a]) (vs := [.ref a]) F (hr.mono hk) bi .nil pass0 I1 (.cons rfl .nil) hs) fun r s' q => ?_
  obtain ⟨z, H', I', rz, b, ez, q⟩ := q
  subst ez
  cases rz
  exact ⟨H', I', q⟩
end

/-! ### xs[i] op= e, xs a list of one's own -/
def rGetL (K : PySem.W.Frag) : V → V → Hp → VK → Prop := fun o i H Q => ∃ p xs z v, o = .ref p ∧ i = .int z ∧ SqL K H p xs ∧ atI xs z = some v ∧ Q v H
theorem get_list {X : Cx} : PGet X (rGetL X.K) := by
  intro pins s σ H o i ov iv Q I rx ry h
  obtain ⟨p, xs, z, v, rfl, rfl, hq, he, q⟩ := h
  cases rx
  obtain ⟨t, rfl⟩ := ry
  obtain ⟨its, r, pl, hz⟩ := I.list hq
  obtain ⟨j, h1, h2, h3, h4, h5⟩ := atI_get he
  obtain ⟨w, ew, rw'⟩ := r.get h2
  have hl := r.length
  have hn := line63
  have fin : EP X pins σ Q w s := ⟨v, H, I, rw', q⟩
  by_cases h0 : 0 ≤ z
  · have hj : z.toNat = j := by
      rw [seqIndex_of h0 h5] at h1
      exact Option.some.inj h1
    exact wpAny_getItem_list pl.isList h0 (by omega) (by rw [hj]; simpa using ew) fin
  · have hj : (z + (its.toArray.size : Int)).toNat = j := by
      rw [seqIndex_neg (by omega) h4] at h1
      rw [List.size_toArray, ← hl]
      exact Option.some.inj h1
    exact wpAny_getItem_list_neg pl.isList (by omega) (by rw [List.size_toArray] <;> omega) (by omega) (by rw [hj]; simpa using ew) fin
def sLAug (K : PySem.W.Frag) (to ti te : TE) (tip : TIp) : TS := tAugS to ti te (rGetL K) tip rSetL
theorem ps_laug {X : Cx} {o i e : Expr} {to ti te : TE} {tip : TIp} {op : Operator} {tpos pos : Pos} (ho : PE X o to) (hi : PE X i ti) (he : PE X e te) (hp : PIp X op tip)
    (ha : ∀ ov iv new, augStore i ov iv new = (do holding [new, ov, iv] (setItem ov iv new); release [new, ov, iv] []; pure .next) := by intros; rfl) : PS X (.AugAssign (.Subscript o i tpos) op e pos) (sLAug X.K to ti te tip) :=
  ps_augS ho hi get_list he hp set_list ha

/-! ### dict(d): a copy -/
theorem call_dictCopy {X : Cx} : CallR X (.type "dict") (fun xs H Q => ∃ a kvs, xs = [.ref a] ∧ Rd H a (.dK kvs) ∧ ∀ p, H p = none → Q (.ref p) (upd H p (.dK kvs))) := by
  intro pins s σ H xs us Q I r h
  obtain ⟨a, kvs, rfl, e, q⟩ := h
  obtain ⟨u, rfl, ru⟩ := r.one
  cases ru
  exact d_copyOf I e fun p s' hp I' => ⟨.ref p, _, I', rfl, q p hp⟩

/-! ### a class held by a local name, made -/
def tMakeL (i : Nat) (C : Addr) (sp : Sp) (t : TA) : TE := fun σ H Q => σ[i]? = some (some (.ref C)) ∧ t σ H fun vs H1 => ∀ x dx, H1 x = none → H1 dx = none → dx ≠ x →
  sp (.ref x :: vs) (upd (upd H1 dx (.own x)) x (.ins C dx [])) (fun v H2 => v = .non ∧ Q (.ref x) H2) E0
theorem pe_mkL {X : Cx} {k j i : Nat} {C : Addr} {x y : Str} {sp : Sp} {p pos : Pos} {e : Expr} {es : List Expr} {t : TA} (c : Mak X.prog X.w X.K X.mg X.base k y C sp) (hr : Room j X.A) (hk : k + 1 ≤ j) (hN : X.N[i]? = some x) (hv : Vis X.env.scope x) (ha : PA X (e :: es) t)
    (hd : (x == ("__debug__" : Str)) = false := by decide) (hcd : (x == ("__classdict__" : Str)) = false := by decide)
    (he : starEach (e :: es) X.env = (false, eval e X.env) :: starEach es X.env := by rfl) (hpl : (backTo pos (starEach es X.env)).any (·.1) = false := by rfl) :
    PE X (.Call (.Name x p) (e :: es) [] pos) (tMakeL i C sp t) := by
  refine ⟨fun pins s σ H Q I h => ?_⟩
  obtain ⟨hs, h⟩ := h
  obtain ⟨f, fd, ps, M, F, hm, b⟩ := c
  refine wpAny_Call_Name_kw (thn ((pe_var (pos := p) hN hv hd hcd).run pins s σ H (fun v H1 => v = .ref C ∧ H1 = H) I ⟨.ref C, hs, rfl, rfl⟩) fun u s1 ⟨v, H1, I1, r1, q1⟩ => ?_)
  obtain ⟨rfl, rfl⟩ := q1
  cases r1
  refine PySem.W.callWith_K (h₀ := X.base) I.ok.mod.kin M.kp (thn (ha.run pos pins s1 σ _ _ I1 h) fun us s2 ⟨vs, H2, I2, r, q⟩ => ⟨I2.kIn, ?_⟩) he hpl
  exact run_make M F (hr.mono hk) b .nil pass0 I2 r (by rw [List.append_nil]; exact q)

/-! ### C.m() and C.m(e), C a class of the module -/
def tClm (C : Addr) (sp : Sp) (t : TA) : TE := fun σ H Q => t σ H fun vs H1 => sp (.ref C :: vs) H1 Q E0
section
variable {X : Cx} {k j : Nat} {C : Addr} {x m : Str} {sp : Sp} {p apos pos : Pos} {e : Expr} {es : List Expr} {t : TA} {pl : Sem Bool}
theorem pe_clm (c : Clm X.prog X.w X.K X.mg X.base k x C m sp) (hr : Room j X.A) (hk : k ≤ j) (hg : Gl X x) (ha : PA X (e :: es) t) (hdb : (x == ("__debug__" : Str)) = false := by decide)
    (hst : starEach (e :: es) X.env = (false, eval e X.env) :: starEach es X.env := by rfl) (hpl : (backTo pos (starEach es X.env)).any (·.1) = false := by rfl)
    (ht : eval (.Call (.Attribute (.Name x p) m apos) (e :: es) [] pos) X.env = (do
      let ov ← eval (.Name x p) X.env
      standAt apos.atName
      let (f, first) ← holding [ov] (getMethod ov m pl)
      callWith pos f first (backTo pos (starEach (e :: es) X.env)) (backToKw pos (keywordEach [] X.env))) := by rfl) :
    PE X (.Call (.Attribute (.Name x p) m apos) (e :: es) [] pos) (tClm C sp t) := by
  obtain ⟨mc, pp, g, r, cm, F, hm⟩ := c
  have h := ClX.pe_cmeth (pl := pl) (E := E0) (pe_glob (pos := p) (v := .ref C) hg hm rfl hdb) r cm F (hr.mono hk) pass0 ha hst hpl ht
  exact ⟨fun pins s σ H Q I hw => h.run pins s σ H Q I ⟨rfl, hw⟩⟩
theorem pe_clm0 (c : Clm X.prog X.w X.K X.mg X.base k x C m sp) (hr : Room j X.A) (hk : k ≤ j) (hg : Gl X x) (hdb : (x == ("__debug__" : Str)) = false := by decide)
    (ht : eval (.Call (.Attribute (.Name x p) m apos) [] [] pos) X.env = (do
      let ov ← eval (.Name x p) X.env
      standAt apos.atName
      let (f, first) ← holding [ov] (getMethod ov m pl)
      callWith pos f first (backTo pos (starEach [] X.env)) (backToKw pos (keywordEach [] X.env))) := by rfl) :
    PE X (.Call (.Attribute (.Name x p) m apos) [] [] pos) (tClm C sp tNil) := by
  obtain ⟨mc, pp, g, r, cm, F, hm⟩ := c
  refine ⟨fun pins s σ H Q I h => ?_⟩
  refine PySem.W.methodCall_KW (pl := pl) (thn ((pe_glob (pos := p) (v := .ref C) hg hm rfl hdb).run pins s σ H (fun v H1 => v = .ref C ∧ H1 = H) I ⟨rfl, rfl⟩) fun u s1 ⟨z, H1, I1, rx, ex, eh⟩ => ?_) ht
  subst ex
  subst eh
  obtain rfl : u = Value.ref C := rx
  refine ClX.getmethcm_ok I1 r cm fun s2 I2 => ?_
  have hb := ClX.base_none I1 (Nat.le_refl _)
  show wpAny _ _ (callWith pos (.ref s1.heap.objs.size) [] [] []) _ _ s2
  refine PySem.W.callWith_M0 (env := X.env) (K := X.K) (first := []) ⟨ClX.pin_at I2, I2.kIn⟩ cm.fi ?_
  exact ClX.run_cm F (hr.mono hk) pass0 I2 .nil h
end

/-! ### several dicts locked at once, about an expression -/
/-- H with the dicts of ds as they are again -/
def unl : List (Addr × List (Key × V)) → Hp → Hp
  | [], H => H
  | p :: ds, H => upd (unl ds H) p.1 (.dK p.2)
def tLocks (t : TE) : TE := fun σ H Q => ∃ ds : List (Addr × List (Key × V)), (∀ p ∈ ds, H p.1 = some (.dK p.2)) ∧ (ds.map (·.1)).Nodup ∧
  ∀ H1, (∀ p ∈ ds, ∃ od, H1 p.1 = some (.frz od (.dK p.2))) → (∀ b, b ∉ ds.map (·.1) → H1 b = H b) → t σ H1 fun v H' => (∀ p ∈ ds, H' p.1 = H1 p.1) ∧ Q v (unl ds H')
theorem unl_out : ∀ {ds : List (Addr × List (Key × V))} {H : Hp} {b : Addr}, b ∉ ds.map (·.1) → unl ds H b = H b
  | [], _, _, _ => rfl
  | p :: ds, H, b, h => by
    show upd (unl ds H) p.1 (.dK p.2) b = H b
    rw [upd_ne (fun e => h (by rw [e]; exact List.mem_cons_self)), unl_out fun z => h (List.mem_cons_of_mem _ z)]
theorem unl_upd {q : Addr} {o : HO} : ∀ {ds : List (Addr × List (Key × V))} {H : Hp}, q ∉ ds.map (·.1) → unl ds (upd H q o) = upd (unl ds H) q o
  | [], _, _ => rfl
  | p :: ds, H, h => by
    show upd (unl ds (upd H q o)) p.1 (.dK p.2) = upd (upd (unl ds H) p.1 (.dK p.2)) q o
    rw [unl_upd fun z => h (List.mem_cons_of_mem _ z)]
    have hne : p.1 ≠ q := fun e => h (by rw [← e]; exact List.mem_cons_self)
    funext b
    by_cases h1 : b = p.1
    · subst h1
      rw [upd_same, upd_ne hne, upd_same]
    · by_cases h2 : b = q
      · subst h2
        rw [upd_ne h1, upd_same, upd_same]
      · rw [upd_ne h1, upd_ne h2, upd_ne h2, upd_ne h1]
theorem locks_run {X : Cx} {pins : List (Addr × Obj)} {σ : L2.St} {s : Shared} {m : Sem Value} {Q : VK} : ∀ (ds : List (Addr × List (Key × V))) {H : Hp}, Inv X pins σ H s → (∀ p ∈ ds, H p.1 = some (.dK p.2)) → (ds.map (·.1)).Nodup →
    (∀ H1, Inv X pins σ H1 s → (∀ p ∈ ds, ∃ od, H1 p.1 = some (.frz od (.dK p.2))) → (∀ b, b ∉ ds.map (·.1) → H1 b = H b) → wpAny (model X.prog X.w) X.A m (EP X pins σ fun v H' => (∀ p ∈ ds, H' p.1 = H1 p.1) ∧ Q v (unl ds H')) X.xe s) →
    wpAny (model X.prog X.w) X.A m (EP X pins σ Q) X.xe s
  | [], H, I, _, _, h => thn (h H I (fun _ z => nomatch z) fun _ _ => rfl) fun v s' ⟨z, H', I', r, _, q⟩ => ⟨z, H', I', r, q⟩
  | p :: ds, H, I, hd, nd, h => by
    obtain ⟨hp, nd'⟩ := List.nodup_cons.mp (show (p.1 :: ds.map (·.1)).Nodup from nd)
    have h1 := hd p List.mem_cons_self
    obtain ⟨od, I1⟩ := I.lock h1 trivial
    have nofr := I.nofrz h1 trivial
    have key := locks_run (m := m) (Q := fun v H' => H' p.1 = some (.frz od (.dK p.2)) ∧ Q v (upd H' p.1 (.dK p.2))) ds I1 (fun q hq => by
      rw [upd_ne (fun e => hp (by rw [← e]; exact List.mem_map_of_mem hq))]
      exact hd q (List.mem_cons_of_mem _ hq)) nd' fun H1 J hf ho => by
      refine thn (h H1 J (fun q hq => ?_) fun b hb => ?_) fun v s' ⟨z, H', I', r, e, q⟩ => ⟨z, H', I', r, fun q hq => e q (List.mem_cons_of_mem _ hq), ?_, ?_⟩
      · rcases List.mem_cons.mp hq with e | hq
        · subst e
          exact ⟨od, by rw [ho _ hp, upd_same]⟩
        · exact hf q hq
      · have hb' : b ≠ p.1 ∧ b ∉ ds.map (·.1) := ⟨fun e => hb (by rw [e]; exact List.mem_cons_self), fun z => hb (List.mem_cons_of_mem _ z)⟩
        rw [ho b hb'.2, upd_ne hb'.1]
      · rw [unl_out hp, e p List.mem_cons_self, ho _ hp, upd_same]
      · exact q
    refine thn key fun v s' ⟨z, H', I', r, e, q⟩ => ⟨z, _, I'.unlock e nofr, r, q⟩
theorem pe_locks {X : Cx} {e : Expr} {t : TE} (h : PE X e t) : PE X e (tLocks t) := by
  refine ⟨fun pins s σ H Q I hw => ?_⟩
  obtain ⟨ds, hd, nd, hw⟩ := hw
  exact locks_run ds I hd nd fun H1 I1 hf ho => h.run pins s σ H1 _ I1 (hw H1 hf ho)
end W5
set_option maxHeartbeats 4000000
/-! W5Rb: max(xs, default=d) of ints; enumerate of a tuple. -/
namespace W5
open PySem PySem.Spec PyProof.Rows L2
open Sem (wp)

/-! ### max with a default -/
section
variable {prog : Program} {w : World} {A : Around} {R : Result → Shared → Prop} {I : Addr} {fp wr : List Addr} {n : Nat} {P : Nat → Value → Prop} {St : Nat → Heap → Prop} {d : Value}
/-- the loop behind its first item -/
theorem maxd_loop (W : Walks prog w A.in1 I fp wr n P St) (bt : Nat → Nat → Bool) (hcmp : CmpOf prog w A.in1 .Gt P bt) (S : Addr) (hSf : S ∉ fp) :
    ∀ (k j : Nat) (s : Shared) (vb : Value) (c : Nat), n - (j + 1) = k → j + 1 ≤ n → St (j + 1) s.heap → P (argBest bt j) vb →
    s.heap.get? S = some { cls := .type "list", dict := none, data := .seq #[vb, vb] c, slots := #[] } →
    (∀ v h' tk, P (argBest bt (n - 1)) v → (∀ b o, b ∉ wr → b ≠ S → s.heap.get? b = some o → h'.get? b = some o) → R (.ok (.ret v)) { s with heap := h', toks := tk }) →
    codeAny (model prog w) A (.builtin "max.loop" ⟨[.ref I, .none, .ref S], [(Str.ofString "default", d)]⟩) R s := by
  have hSw : S ∉ wr := fun h => hSf (W.sub _ h)
  have hname : (toString "max" ++ toString ".loop" : String) = "max.loop" := by decide
  intro k
  induction k with
  | zero =>
    intro j s vb c hk hj hst hPb hS hR
    have hin : j + 1 = n := by omega
    refine codeAny_builtin F.entry_max_loop ?_
    rw [Around.under_plainId F.plain_max_loop _]
    show wpAny _ A.in1 (seqItems? (.ref S) >>= _) _ _ s
    refine wpAny_bind (wpAny_seqItems hS rfl ?_)
    show wpAny _ A.in1 (tryCatch (pyNext (.ref I)) _ >>= _) _ _ s
    refine wpAny_bind (wpAny_tryCatch (W.done s _ _ (hin ▸ hst) fun h' tk hk' => ?_))
    have hS' := hk' S _ hSw hS
    show wpAny _ A.in1 (updateSeq S (fun _ => #[]) >>= _) _ _ _
    refine wpAny_bind ?_
    refine wpAny_updateSeq hS' rfl (wpAny_bind (wpAny_letGo (wpAny_pure ?_)))
    refine hR vb _ tk (by rw [← hin]; exact hPb) fun b o hbw hbS e => (Heap.get?_update_other _ _ (Ne.symm hbS)).trans (hk' b o hbw e)
  | succ k ih =>
    intro j s vb c hk hj hst hPb hS hR
    have hlt : j + 1 < n := by omega
    refine codeAny_builtin F.entry_max_loop ?_
    rw [Around.under_plainId F.plain_max_loop _]
    show wpAny _ A.in1 (seqItems? (.ref S) >>= _) _ _ s
    refine wpAny_bind (wpAny_seqItems hS rfl ?_)
    show wpAny _ A.in1 (tryCatch (pyNext (.ref I)) _ >>= _) _ _ s
    refine wpAny_bind (wpAny_tryCatch (W.item (j + 1) s _ _ hlt hst fun v h' tk hP hst' hk' => ?_))
    have hS' := hk' S _ hSw hS
    show wpAny _ A.in1 (tryCatch (holding [v, v] (richCompare .Gt v vb >>= _)) _ >>= _) _ _ _
    refine wpAny_bind (wpAny_tryCatch (wpAny_holding (wpAny_bind (hcmp (j + 1) (argBest bt j) v vb _ _ _ hP hPb ?_))))
    refine wpAny_bind (wpAny_holding (wpAny_truthy_bool ?_))
    refine wpAny_bind (wpAny_letGo (wpAny_pure ?_))
    cases hb : bt (j + 1) (argBest bt j) with
    | true =>
      simp only [if_true]
      refine wpAny_bind ?_
      refine wpAny_updateSeq hS' rfl (wpAny_bind (wpAny_letGo ?_))
      rw [hname]
      refine wpAny_pure ⟨plainId_quiet F.plain_max_loop _, ih (j + 1) _ v _ (by omega) hlt (W.frame _ _ _ hst' fun b hbf o e => ?_) (by simp only [argBest, hb, if_true]; exact hP) (Heap.get?_update_self _ hS' rfl)
        fun v' h'' tk'' hP' hk'' => ?_⟩
      · exact (Heap.get?_update_other _ _ (fun h : S = b => hSf (by rw [h]; exact hbf))).trans e
      · exact hR v' h'' tk'' hP' fun b o hbw hbS e => hk'' b o hbw hbS ((Heap.get?_update_other _ _ (Ne.symm hbS)).trans (hk' b o hbw e))
    | false =>
      simp only [Bool.false_eq_true, if_false]
      refine wpAny_bind (wpAny_letGo ?_)
      rw [hname]
      refine wpAny_pure ⟨plainId_quiet F.plain_max_loop _, ih (j + 1) _ vb c (by omega) hlt hst' (by simp only [argBest, hb, Bool.false_eq_true, if_false]; exact hPb) hS' fun v' h'' tk'' hP' hk'' => ?_⟩
      exact hR v' h'' tk'' hP' fun b o hbw hbS e => hk'' b o hbw hbS (hk' b o hbw e)
/-- the loop from its start: no item gives the default -/
theorem maxd_first (W : Walks prog w A.in1 I fp wr n P St) (bt : Nat → Nat → Bool) (hcmp : CmpOf prog w A.in1 .Gt P bt) (S : Addr) (hSf : S ∉ fp) {s : Shared} {c : Nat} (hst : St 0 s.heap)
    (hS : s.heap.get? S = some { cls := .type "list", dict := none, data := .seq #[] c, slots := #[] })
    (hR : ∀ v h' tk, ((n = 0 ∧ v = d) ∨ (0 < n ∧ P (argBest bt (n - 1)) v)) → (∀ b o, b ∉ wr → b ≠ S → s.heap.get? b = some o → h'.get? b = some o) → R (.ok (.ret v)) { s with heap := h', toks := tk }) :
    codeAny (model prog w) A (.builtin "max.loop" ⟨[.ref I, .none, .ref S], [(Str.ofString "default", d)]⟩) R s := by
  have hSw : S ∉ wr := fun h => hSf (W.sub _ h)
  have hname : (toString "max" ++ toString ".loop" : String) = "max.loop" := by decide
  by_cases hn : 0 < n
  · refine codeAny_builtin F.entry_max_loop ?_
    rw [Around.under_plainId F.plain_max_loop _]
    show wpAny _ A.in1 (seqItems? (.ref S) >>= _) _ _ s
    refine wpAny_bind (wpAny_seqItems hS rfl ?_)
    show wpAny _ A.in1 (tryCatch (pyNext (.ref I)) _ >>= _) _ _ s
    refine wpAny_bind (wpAny_tryCatch (W.item 0 s _ _ hn hst fun v h' tk hP hst' hk' => ?_))
    have hS' := hk' S _ hSw hS
    show wpAny _ A.in1 (updateSeq S (fun _ => #[v, v]) >>= _) _ _ _
    refine wpAny_bind ?_
    refine wpAny_updateSeq hS' rfl ?_
    rw [hname]
    refine wpAny_pure ⟨plainId_quiet F.plain_max_loop _, maxd_loop W bt hcmp S hSf _ 0 _ v _ rfl hn (W.frame _ _ _ hst' fun b hbf o e => ?_) hP (Heap.get?_update_self _ hS' rfl) fun v' h'' tk'' hP' hk'' => ?_⟩
    · exact (Heap.get?_update_other _ _ (fun h : S = b => hSf (by rw [h]; exact hbf))).trans e
    · exact hR v' h'' tk'' (.inr ⟨hn, hP'⟩) fun b o hbw hbS e => hk'' b o hbw hbS ((Heap.get?_update_other _ _ (Ne.symm hbS)).trans (hk' b o hbw e))
  · have hn0 : n = 0 := by omega
    refine codeAny_builtin F.entry_max_loop ?_
    rw [Around.under_plainId F.plain_max_loop _]
    show wpAny _ A.in1 (seqItems? (.ref S) >>= _) _ _ s
    refine wpAny_bind (wpAny_seqItems hS rfl ?_)
    show wpAny _ A.in1 (tryCatch (pyNext (.ref I)) _ >>= _) _ _ s
    refine wpAny_bind (wpAny_tryCatch (W.done s _ _ (hn0 ▸ hst) fun h' tk hk' => ?_))
    show wpAny _ A.in1 (rule _ >>= _) _ _ _
    refine wpAny_bind (wpAny_rule (wpAny_pure ?_))
    exact hR d _ tk (.inl ⟨hn0, rfl⟩) fun b o hbw hbS e => hk' b o hbw e
end
theorem args_max_d (a d : Value) : argsOk "max" ⟨[a], [(Str.ofString "default", d)]⟩ := by unfold argsOk; kernel_rfl
theorem call_function_treeK {prog : Program} {w : World} {A : Around} {E : Value → Shared → Prop} {s : Shared} {id : String} {b : Builtin} {args : List Value} {kw : List (Str × Value)} {Q : Value → Shared → Prop} (hk : builtinKind id = none) (hp : plainId id = true)
    (hb : entryFor table id = some b) (ha : argsOk id ⟨args, kw⟩)
    (hc : wpAny (model prog w) A.in1 (b ⟨args, kw⟩) (fun fin s' => match fin with
      | .done f => (match (Except.ok f : Result) with | .ok (.ret v) => Q v s' | .ok _ => False | .error e => E e s')
      | .again c' => c'.quiet = true ∧ codeAny (model prog w) A c' (fun r s' => match r with | .ok (.ret v) => Q v s' | .ok _ => False | .error e => E e s') s') E s) :
    wpAny (model prog w) A (call (.builtin id) args kw) Q E s := by
  refine wpAny_call (codeAny_call_builtin hp hb ?_)
  simp only [checkBuiltinCall, hk]
  cases hsig : Manifest.signature? id with
  | none => exact wpAny_pure hc
  | some sig =>
    have ha' : Bind.checkArgs id sig ⟨args, kw⟩ = pure () := by simpa only [argsOk, hsig] using ha
    simp only [ha']
    exact wpAny_pure hc
theorem call_maxd_walk {prog : Program} {w : World} {A : Around} {E : Value → Shared → Prop} {s : Shared} {x d : Value} {Q : Value → Shared → Prop}
    (h : wpAny (model prog w) A.in1 (pyIter x) (fun it s₂ => ∃ I fp wr n P St bt, it = .ref I ∧ Walks prog w A.in1 I fp wr n P St ∧ St 0 s₂.heap ∧ (∀ b ∈ fp, b < s₂.heap.objs.size) ∧ CmpOf prog w A.in1 .Gt P bt ∧
      ∀ v h' tk, ((n = 0 ∧ v = d) ∨ (0 < n ∧ P (argBest bt (n - 1)) v)) → (∀ b o, b ∉ wr → s₂.heap.get? b = some o → h'.get? b = some o) → Q v { s₂ with heap := h', toks := tk }) E s) :
    wpAny (model prog w) A (call (.builtin "max") [x] [(Str.ofString "default", d)]) Q E s := by
  have hname : (toString "max" ++ toString ".loop" : String) = "max.loop" := by decide
  refine call_function_treeK F.kind_max F.plain_max F.entry_max (args_max_d _ _) ?_
  show wpAny _ A.in1 (Builtin.Builtins.bindParams "max" ["key", "default"] 0 ⟨[], [(Str.ofString "default", d)]⟩ >>= _) _ _ s
  refine wpAny_bind (wpAny_of_eq (show Builtin.Builtins.bindParams "max" ["key", "default"] 0 ⟨[], [(Str.ofString "default", d)]⟩ = pure [none, some d] from by kernel_rfl) ?_)
  refine wpAny_bind (wpAny_pure ?_)
  refine wpAny_bind (wpAny_mono h (fun it s₂ h₂ => ?_) fun _ _ e => e)
  obtain ⟨I, fp, wr, n, P, St, bt, rfl, W, hst, hfp, hcmp, hQ⟩ := h₂
  refine wpAny_bind (wpAny_newObj_type ?_)
  have hSf : s₂.heap.objs.size ∉ fp := fun hm => Nat.lt_irrefl _ (hfp _ hm)
  rw [hname]
  refine wpAny_pure ⟨plainId_quiet F.plain_max_loop _, maxd_first W bt hcmp s₂.heap.objs.size hSf (W.frame _ _ _ hst fun b _ o e => Heap.get?_push_of_some _ e) (Heap.get?_push_size _ rfl) fun v h' tk hP hk => ?_⟩
  exact hQ v h' tk hP fun b o hbw e => hk b o hbw (Nat.ne_of_lt (Heap.lt_size e)) (Heap.get?_push_of_some _ e)
/-- max(xs, default=d), a list of ints -/
def rMaxD (K : PySem.W.Frag) : List V → List V → Hp → VK → Prop := fun vs zs H Q => ∃ (a : Addr) (ns : List Int) (d : Int), vs = [V.ref a] ∧ zs = [.int d] ∧ SqL K H a (ns.map V.int) ∧ ∀ m, ((ns = [] ∧ m = d) ∨ (m ∈ ns ∧ ∀ y, y ∈ ns → y ≤ m)) → Q (.int m) H
theorem cr_maxD {X : Cx} (hc : X.calm = true) : CallRK X (.builtin "max") [Str.ofString "default"] (rMaxD X.K) := by
  intro pins s σ H xs zs us ws Q I r rz h
  obtain ⟨a, ns, d, rfl, rfl, hs, q⟩ := h
  obtain rfl := Vals.ref1 r
  obtain ⟨w1, rfl, e1⟩ := vals1 rz
  obtain ⟨t, rfl⟩ := e1
  obtain ⟨its, rv, pl, hz⟩ := I.list hs
  have hi : IntsAre its ns := Vals.ints rv
  obtain ⟨xs, e⟩ := hi.allInts.items
  have hn : numsOf (intItems xs).toList = ns := by rw [← e]; exact hi.numsOf
  rw [nums_intItems] at hn
  have hl : s.heap.IsList a (intItems xs) := by
    have := pl.isList
    rwa [e] at this
  show wpAny _ _ (call (.builtin "max") [.ref a] [(Str.ofString "default", .int d t)]) _ _ s
  refine call_maxd_walk (iter_intList hl fun s₂ e st hfp hlI => ?_)
  subst e
  refine ⟨_, _, _, _, _, _, _, rfl, Walks.list (A := X.A.in1) (I.ok.hd hc) _ a hlI (intItems xs), st, hfp, CmpOf.ints_gt (numAt xs) (fun _ _ => intItems_at), fun v h' tk hP hk => ?_⟩
  have kept := old_kept hk
  have I' : Inv X pins σ H { s with heap := h', toks := tk } := I.kept kept
  rcases hP with ⟨h0, rfl⟩ | ⟨h0, hP⟩
  · refine ⟨.int d, H, I', ⟨t, rfl⟩, q d (.inl ⟨?_, rfl⟩)⟩
    have hx : xs = #[] := Array.eq_empty_of_size_eq_zero (by simpa [intItems] using h0)
    rw [← hn, hx]
    rfl
  · have h0' : 0 < xs.size := by simpa [intItems] using h0
    have hP' : (intItems xs)[argBest (fun i j => decide (numAt xs i > numAt xs j)) (xs.size - 1)]? = some v := by simpa [intItems] using hP
    obtain ⟨t', rfl⟩ := intItems_at hP'
    obtain ⟨h1, h2⟩ := argBest_gt (numAt xs) (xs.size - 1)
    refine ⟨.int _, H, I', ⟨t', rfl⟩, q _ (.inr ⟨?_, fun y hy => ?_⟩)⟩
    · rw [← hn, numAt_eq]
      exact PySem.getD_mem (by rw [List.length_map, Array.length_toList]; omega)
    · rw [← hn] at hy
      obtain ⟨j, hj, rfl⟩ := mem_getD hy
      rw [List.length_map, Array.length_toList] at hj
      rw [← numAt_eq]
      exact h2 j (by omega)

/-! ### enumerate of a tuple -/
set_option maxHeartbeats 8000000 in
theorem meets_enum1 {v : Value} {o : Obj} {H : Heap → Prop} (B : Begins v o H) :
    Meets (Builtin.«enumerate.__new__» ⟨[.type "enumerate", v], []⟩) (fun _ R s => H s.heap ∧
      R (.ok (.ret (.ref (s.heap.push o).objs.size))) { s with heap := (s.heap.push o).push { cls := .type "enumerate", data := .fields #[.none, .bool false, .ref s.heap.objs.size, rawInt 0, .none, .none] } }) :=
  .of_wp fun prog w A R s h => by
    obtain ⟨hp, g, d, tk, os⟩ := s; obtain ⟨h1, h⟩ := h
    have hsub := sub_enumerate
    have q1 : ∀ {A' : Around} {E : Value → Shared → Prop} {Q : Value → Shared → Prop}, Q (.ref hp.objs.size) ⟨hp.push o, g, d, tk, os⟩ → wpAny (model prog w) A' (pyIter v) Q E ⟨hp, g, d, tk, os⟩ :=
      fun q => B.iter prog w _ _ ⟨hp, g, d, tk, os⟩ _ h1 q
    wp_walk using q1
    refine wpAny_stack_any fun st => wpAny_pure ?_
    split
    · rename_i c _ _ _ _ _
      cases (c == Value.type "enumerate")
      · wp_walk using q1
        exact ⟨_, rfl, h⟩
      · wp_walk using q1
        exact ⟨_, rfl, h⟩
    · wp_walk using q1
      exact ⟨_, rfl, h⟩
theorem enum_begins1 {prog : Program} {w : World} {A : Around} {E : Value → Shared → Prop} {s : Shared} {v : Value} {o : Obj} {H : Heap → Prop} {Q : Value → Shared → Prop} (B : Begins v o H) (h1 : H s.heap)
    (h : ∀ h', IsEnum h' (s.heap.objs.size + 1) s.heap.objs.size 0 .none → h'.get? s.heap.objs.size = some o → h'.objs.size = s.heap.objs.size + 2 →
      (∀ b o, s.heap.get? b = some o → h'.get? b = some o) → Q (.ref (s.heap.objs.size + 1)) { s with heap := h' }) :
    wpAny (model prog w) A (call (.type "enumerate") [v]) Q E s := by
  refine callType_new F.called_enumerate (by decide) (F.typeCall_enumerate_1 _) (F.newCall_enumerate_1 _) (fun obj => F.args_object_init_2 obj _) F.entry_enumerate_new (meets_enum1 B) ⟨h1, ?_⟩
  have hz : (s.heap.push o).objs.size = s.heap.objs.size + 1 := Heap.size_push ..
  show _ ∧ _
  rw [hz]
  have he : IsEnum ((s.heap.push o).push { cls := .type "enumerate", data := .fields #[.none, .bool false, .ref s.heap.objs.size, rawInt 0, .none, .none] }) (s.heap.objs.size + 1) s.heap.objs.size 0 .none := by
    have := Heap.get?_push_size (s.heap.push o) (o := { cls := .type "enumerate", data := .fields #[.none, .bool false, .ref s.heap.objs.size, rawInt 0, .none, .none] }) rfl
    rw [hz] at this; exact this
  refine ⟨⟨_, he, rfl⟩, h _ he (Heap.get?_push_of_some _ (Heap.get?_push_size _ B.free)) (by rw [Heap.size_push, hz]) fun b o x => Heap.get?_push_of_some _ (Heap.get?_push_of_some _ x)⟩
/-- the tuple at a, each item in a new pair -/
def IteT (K : PySem.W.Frag) (a : Addr) : It :=
  ⟨fun i H => ∃ (xs : List V) (x : V), SqT K H a xs ∧ xs[i]? = some x, fun i H v H' => ∃ T x, v = .ref T ∧ H T = none ∧ H' = upd H T (.tup [.int (i : Nat), x]) ∧ ∀ xs, SqT K H a xs → xs[i]? = some x, fun i H => ∃ xs : List V, SqT K H a xs ∧ xs.length = i⟩
theorem turn_enumT {P : Program} {w : World} {K : PySem.W.Frag} {elts : List Expr} {kk : Nat} {tpos : Pos} (a e it : Addr) :
    Turn P w K (.Tuple elts kk tpos) (IteT K a) [e, it] e (fun i h => (∃ old, IsEnum h e it ((i : Nat) : Int) old) ∧ h.IsTupleIter it a i ∧ e ≠ it ∧ a ≠ it ∧ a ≠ e) where
  mem := by simp
  obj := fun i h st b hb => by
    obtain ⟨⟨old, he⟩, ⟨o, ho, hc, hd⟩, _⟩ := st
    have e' : b = e ∨ b = it := by simpa using hb
    rcases e' with z | z
    · rw [z]; exact ⟨_, he, fun v q => nomatch q⟩
    · rw [z]; exact ⟨o, ho, fun v q => by rw [hd] at q; cases q⟩
  keep := fun i h h' st k => let ⟨⟨old, he⟩, hi, hne⟩ := st; ⟨⟨old, k e (by simp) _ he⟩, hi.at fun o q => k it (by simp) o q, hne⟩
  item := by
    intro X hP hw hK hc i pins s σ H E I hf st hg
    subst hP hw hK
    obtain ⟨⟨old, he⟩, hit, hne, hai, hae⟩ := st
    obtain ⟨xs, x, hq, hx⟩ := hg
    obtain ⟨its, rv, p, hz⟩ := I.tuple hq
    obtain ⟨u, hu, ru⟩ := rv.get hx
    have hel : e < s.heap.objs.size := Heap.lt_size he
    have hil : it < s.heap.objs.size := by obtain ⟨_, q, _⟩ := hit; exact Heap.lt_size q
    have hlt : i < its.toArray.size := by
      have := (List.getElem?_eq_some_iff.mp hu).1
      simpa using this
    have ht : s.heap.IsTuple a its.toArray := p
    refine wpAny_pyNext_enum_itemC (Draws.tuple (prog := X.prog) (w := X.w) (A := X.A.in1) (I.ok.hd hc) it a hai its.toArray) he ⟨hit, ht⟩ hlt hne (by simp [hne, Ne.symm hae]) fun y h' tk hy ho hst' hT hsz hk => ?_
    have hyu : y = u := by
      have e1 : its.toArray[i]? = some u := by simpa using hu
      rw [e1] at hy
      exact (Option.some.inj hy).symm
    subst hyu
    refine ⟨_, rfl, wpAny_letOwnedTupleGo_enum (s := { s with heap := h', toks := tk + 1 }) ho fun h'' he' sb => ?_⟩
    have hT2 : h''.get? s.heap.objs.size = some { cls := .type "tuple", data := .seq #[.int i tk, y] } := (sb.2 _ (Nat.ne_of_gt hel)).trans hT
    have new : ObjOk X.prog X.w (upd H s.heap.objs.size (.tup [.int (i : Nat), x])) h'' s.heap.objs.size (.tup [.int (i : Nat), x]) :=
      ⟨by show 2 ≤ sizeLine; decide, [.int i tk, y], .cons ⟨_, rfl⟩ (.cons ru .nil), ⟨_, hT2, rfl, _, rfl⟩⟩
    have I1 : Inv X pins σ (upd H s.heap.objs.size (.tup [.int (i : Nat), x])) { s with heap := h'', toks := tk + 1 } :=
      I.turnedNew (ch := [e, it]) (fun b ob hb q => (sb.2 b (fun z => hb (by simp [z]))).trans (hk b ob (fun z => hb (by simp [z])) (fun z => hb (by simp [z])) q)) hf (Nat.le_refl _) new
    refine ⟨.ref s.heap.objs.size, _, I1, rfl, ⟨_, x, rfl, I.hok.fresh (Nat.le_refl _), rfl, fun ys hy => by rw [I.tuple_inj hy hq]; exact hx⟩, ⟨⟨y, ?_⟩, hst'.1.at fun o q => (sb.2 it (Ne.symm hne)).trans q, hne, hai, hae⟩, fun b hb => ?_⟩
    · have e1 : ((i + 1 : Nat) : Int) = (i : Int) + 1 := by omega
      rw [e1]; exact he'
    · have hb' : b < s.heap.objs.size := by
        have e' : b = e ∨ b = it := by simpa using hb
        rcases e' with z | z
        · rw [z]; exact hel
        · rw [z]; exact hil
      rw [upd_ne (Nat.ne_of_lt hb')]
      exact (hf b hb).1
  done := by
    intro X hP hw hK hc i pins s σ H E I hf st hg
    subst hP hw hK
    obtain ⟨⟨old, he⟩, hit, hne, hai, hae⟩ := st
    obtain ⟨xs, hq, hx⟩ := hg
    obtain ⟨its, rv, p, hz⟩ := I.tuple hq
    obtain ⟨f0, f1, f2, f3, f4, f5⟩ := hf it (by simp)
    have hl := rv.length
    have ht : s.heap.IsTuple a its.toArray := p
    have hst : s.heap.IsTupleIter it a its.toArray.size := by
      have e : i = its.toArray.size := by simp; omega
      rw [← e]
      exact hit
    exact wpAny_pyNext_enum_endD (Draws.tuple (prog := X.prog) (w := X.w) (A := X.A.in1) (I.ok.hd hc) it a hai its.toArray) he ⟨hst, ht⟩ fun h' eb => ⟨rfl, I.turned (t' := s.toks) (fun b o hb q => eb b o hb q) f0 f1 f3 f4 f5⟩
  self := fun A i s Q E st h => let ⟨⟨_, he⟩, _⟩ := st; wpAny_pyIter_enum he h
def iEnumT (K : PySem.W.Frag) (ta : TA) : TI := fun σ H R => ta σ H fun vs H1 => ∃ a xs, vs = [.ref a] ∧ SqT K H1 a xs ∧ R (IteT K a) H1
theorem pi_enumT {X : Cx} {e : Expr} {ta : TA} {p pos tpos : Pos} {elts : List Expr} {kk : Nat} (hg : Gl X "enumerate") (hm : X.mg "enumerate" = none) (ha : PA X [e] ta) (hs : starEach [e] X.env = [(false, eval e X.env)] := by rfl) :
    PI X (.Tuple elts kk tpos) (.Call (.Name "enumerate" p) [e] [] pos) (iEnumT X.K ta) := by
  refine ⟨fun pins s σ H R I h => ?_⟩
  refine Call_ (ld_blt I hg hm boot_enumerate (PyProof.Rows.callWith_type1 (thn (ha.run pos pins s σ H _ I h) fun us s1 ⟨vs, H1, I1, r1, q1⟩ => ?_) hs rfl))
  obtain ⟨a, xs, ex, hq, q⟩ := q1
  subst ex
  cases r1 with
  | cons r rr =>
    cases rr
    cases r
    obtain ⟨its, rv, p', hz⟩ := I1.tuple hq
    have la : a < s1.heap.objs.size := by obtain ⟨_, q', _⟩ := p'; exact Heap.lt_size q'
    refine enum_begins1 (begins_tuple a its.toArray) p' fun h' he hit hsz hk => wpAny_pyIter_enum he ?_
    have I2 : Inv X pins σ H1 { s1 with heap := h' } := I1.kept (t' := s1.toks) hk
    refine ⟨s1.heap.objs.size + 1, [s1.heap.objs.size + 1, s1.heap.objs.size], _, _, H1, rfl, I2, turn_enumT a (s1.heap.objs.size + 1) s1.heap.objs.size, ⟨⟨.none, he⟩, ⟨_, hit, rfl, rfl⟩, Nat.succ_ne_self _, Nat.ne_of_lt la, Nat.ne_of_lt (Nat.lt_succ_of_lt la)⟩, fun b hb => ?_, q⟩
    have e' : b = s1.heap.objs.size + 1 ∨ b = s1.heap.objs.size := by simpa using hb
    have hle : s1.heap.objs.size ≤ b := by
      rcases e' with z | z
      · rw [z]; exact Nat.le_add_right _ _
      · rw [z]; exact Nat.le_refl _
    exact I1.fpOk hle (I1.hok.fresh hle)
theorem walk_enumT {K : PySem.W.Frag} {a : Addr} {xs : List V} : Walk (IteT K a) xs.length (fun H => SqT K H a xs) (YPair (fun i => some (.int (i : Nat))) (fun i => xs[i]?)) where
  goes := fun i H hi g => ⟨xs, xs[i], g, List.getElem?_eq_getElem hi⟩
  stops := fun H g => ⟨xs, g, rfl⟩
  yields := fun i H x H' hi g y => by
    obtain ⟨T, z, rfl, hT, rfl, hz⟩ := y
    exact ⟨T, _, z, rfl, hT, rfl, rfl, hz xs g⟩
end W5
set_option maxHeartbeats 4000000
/-! W5Rc: tuple * k, k any whole number from 0. -/
namespace W5
open PySem PySem.Spec PyProof.Rows L2
theorem tuple_mul1 (l : Addr) (items : Array Value) (n : Nat) (dd : Option Addr) (sl : Array (Option Value)) (u : Tok) :
    Meets (Builtin.«tuple.__mul__» ⟨[.ref l, .int 1 u], []⟩) (fun _ R s => s.heap.get? l = some { cls := .type "tuple", dict := dd, data := .seq items n, slots := sl } ∧ R (.ok (.ret (Value.ref l))) s) :=
  .of_wp fun prog w A R s h => by
    obtain ⟨hp, g, d, tk, os⟩ := s
    obtain ⟨hl, h⟩ := h
    have f1 := AutoSeq1.idx_int
    have c0 : (decide ((1 : Int) < -(2 ^ 63)) || decide ((1 : Int) ≥ 2 ^ 63)) = false := by decide
    have c1 : (items.isEmpty || ((1 : Int) == 1)) = true := by simp
    have hT : (⟨hp, g, d, tk, os⟩ : Shared).TypeIs (.ref l) "tuple" := ⟨_, hl, rfl⟩
    wp_walk using wpAny_loadPart' hl
    repeat (first
      | (refine wpAny_ite_false (decide_eq_false (by rw [c0]; exact Bool.false_ne_true)) ?_; wp_walk using wpAny_loadPart' hl)
      | (refine wpAny_ite_true (decide_eq_true c1) ?_; wp_walk using wpAny_loadPart' hl))
    exact ⟨_, rfl, h⟩
theorem tuple_mul0 (l : Addr) (items : Array Value) (n : Nat) (dd : Option Addr) (sl : Array (Option Value)) (u : Tok) (hne : items.isEmpty = false) :
    Meets (Builtin.«tuple.__mul__» ⟨[.ref l, .int 0 u], []⟩) (fun _ R s => s.heap.get? l = some { cls := .type "tuple", dict := dd, data := .seq items n, slots := sl } ∧
      R (.ok (.ret (Value.ref s.heap.objs.size))) { s with heap := s.heap.push { cls := Value.type "tuple", data := Data.seq #[] }, toks := s.toks }) :=
  .of_wp fun prog w A R s h => by
    obtain ⟨hp, g, d, tk, os⟩ := s
    obtain ⟨hl, h⟩ := h
    have f1 := AutoSeq1.idx_int
    have c0 : (decide ((0 : Int) < -(2 ^ 63)) || decide ((0 : Int) ≥ 2 ^ 63)) = false := by decide
    have c1 : (items.isEmpty || ((0 : Int) == 1)) = false := by rw [hne]; rfl
    have c2 : (decide ((0 : Int) ≤ 0) || items.isEmpty) = true := by simp
    wp_walk using wpAny_loadPart' hl
    repeat (first
      | (refine wpAny_ite_false (decide_eq_false (by rw [c0]; exact Bool.false_ne_true)) ?_; wp_walk using wpAny_loadPart' hl)
      | (refine wpAny_ite_false (decide_eq_false (by rw [c1]; exact Bool.false_ne_true)) ?_; wp_walk using wpAny_loadPart' hl)
      | (refine wpAny_ite_true (decide_eq_true c2) ?_; wp_walk using wpAny_loadPart' hl)
      | (refine wpAny_ite_false (decide_eq_false (by decide)) ?_; wp_walk using wpAny_loadPart' hl))
    exact ⟨_, rfl, h⟩
/-- t * k, 0 ≤ k ≤ 1000, t not empty -/
def rRepA (K : PySem.W.Frag) : R2 := fun x y H Q => ∃ l xs, ∃ k : Nat, x = .ref l ∧ y = .int k ∧ SqT K H l xs ∧ xs ≠ [] ∧ k ≤ 1000 ∧ xs.length ≤ 1000 ∧ ∀ t H1, Same H H1 → SqT K H1 t (List.replicate k xs).flatten → Q (.ref t) H1
theorem op_repA {X : Cx} : OpR X (binaryOp .Mult) (rRepA X.K) := by
  intro pins s σ H x y v u Q I rx ry h
  obtain ⟨l, xs, k, rfl, rfl, hT, hne, h2, hz, q⟩ := h
  by_cases hk : 2 ≤ k
  · refine op_repT pins s σ H _ _ v u Q I rx ry ⟨l, k, xs, rfl, rfl, hT, hne, by omega, by omega, hz, fun p np => q p _ (fun b o e => ?_) ?_⟩
    · rw [upd_ne (ne_of_none e np)]; exact e
    · rw [Int.toNat_natCast]
      exact .of upd_same
  · cases rx
    obtain ⟨t, rfl⟩ := ry
    obtain ⟨its, r, ⟨⟨cls, dd, data, sl⟩, ho, hc, n, hd⟩, hs⟩ := I.tuple hT
    simp only at hc hd
    subst hc hd
    have hle : its.length = xs.length := r.length.symm
    have hn : its ≠ [] := fun e => hne (by
      rw [e] at hle
      exact List.eq_nil_of_length_eq_zero hle.symm)
    have hi : its.toArray.isEmpty = false := by
      cases its with
      | nil => exact absurd rfl hn
      | cons a b => rfl
    have hk' : k = 0 ∨ k = 1 := by omega
    rcases hk' with rfl | rfl
    · refine wpAny_binaryOp_repeat_ref (T := "tuple") (U := "int") (by decide) ⟨_, ho, rfl⟩ (fun s' => typeIs_int s' _ t) noFill_tuple_mul F.fills_int_mul F.slot_int_rmul repeat_tuple F.slot_int_index.lookup
        (call_meets F.slot_int_rmul (typeIs_int s _ t) F.entry_int_rmul (F.args_int_rmul_2 _ _) (int_rmul_tuple _ t l its.toArray n dd sl)
          ⟨ho, rfl, ⟨_, ho, rfl⟩, call_meets F.slot_tuple_mul ⟨_, ho, rfl⟩ F.entry_tuple_mul (F.args_tuple_mul_2 _ _) (tuple_mul0 l its.toArray n dd sl t hi) ⟨ho, ?_⟩⟩)
      have hf : H s.heap.objs.size = none := I.hok.fresh (Nat.le_refl _)
      refine ⟨.ref s.heap.objs.size, _, I.laid (t' := s.toks) (o := .tup []) (fun b ob q => Heap.get?_push_of_some _ q) (Nat.le_refl _) ?_, rfl, q _ _ (fun b o e => ?_) (.of upd_same)⟩
      · exact ⟨Nat.zero_le _, [], .nil, IsTup.new _ _⟩
      · rw [upd_ne (ne_of_none e hf)]; exact e
    · refine wpAny_binaryOp_repeat_ref (T := "tuple") (U := "int") (by decide) ⟨_, ho, rfl⟩ (fun s' => typeIs_int s' _ t) noFill_tuple_mul F.fills_int_mul F.slot_int_rmul repeat_tuple F.slot_int_index.lookup
        (call_meets F.slot_int_rmul (typeIs_int s _ t) F.entry_int_rmul (F.args_int_rmul_2 _ _) (int_rmul_tuple _ t l its.toArray n dd sl)
          ⟨ho, rfl, ⟨_, ho, rfl⟩, call_meets F.slot_tuple_mul ⟨_, ho, rfl⟩ F.entry_tuple_mul (F.args_tuple_mul_2 _ _) (tuple_mul1 l its.toArray n dd sl t) ⟨ho, ?_⟩⟩)
      exact ⟨.ref l, H, I, rfl, q l H (Same.refl H) (by simpa using hT)⟩
end W5
set_option maxHeartbeats 4000000
/-! W5C: lists hidden from the view while an expression is asked; data predicates; comprehensions that make data. -/
namespace W5
open PySem PySem.Spec PyProof.Rows L2

/-! ### hidden lists -/
def phiL (a : Addr) (xs : List V) : Heap → Prop := fun h => xs.length ≤ sizeLine ∧ ∃ (its : List Value) (n : Nat), Vals xs its ∧ h.get? a = some { cls := .type "list", data := .seq its.toArray n }
abbrev Zs := Addr → Option (List V)
def hid (Z : Zs) (H : Hp) : Hp := fun a => match Z a with | some xs => some (.ext (phiL a xs)) | none => H a
def shw (Z : Zs) (H : Hp) : Hp := fun a => match Z a with | some xs => some (.lst xs) | none => H a
def tHide (te : TE) : TE := fun σ H Q => ∃ Z : Zs, (∀ a xs, Z a = some xs → H a = some (.lst xs)) ∧ te σ (hid Z H) fun y H4 => (∀ a xs, Z a = some xs → H4 a = some (.ext (phiL a xs))) ∧ Q y (shw Z H4)
theorem hid_on {Z : Zs} {H : Hp} {a : Addr} {xs : List V} (h : Z a = some xs) : hid Z H a = some (.ext (phiL a xs)) := by unfold hid; rw [h]
theorem hid_off {Z : Zs} {H : Hp} {a : Addr} (h : Z a = none) : hid Z H a = H a := by unfold hid; rw [h]
theorem shw_on {Z : Zs} {H : Hp} {a : Addr} {xs : List V} (h : Z a = some xs) : shw Z H a = some (.lst xs) := by unfold shw; rw [h]
theorem shw_off {Z : Zs} {H : Hp} {a : Addr} (h : Z a = none) : shw Z H a = H a := by unfold shw; rw [h]
section
variable {X : Cx} {pins : List (Addr × Obj)} {σ : L2.St} {H H' : Hp} {s : Shared} {Z : Zs}
theorem Inv_swap (I : Inv X pins σ H s) (h0 : ∀ a xs, Z a = some xs → (∃ ys, H a = some (.lst ys)) ∨ ∃ φ, H a = some (.ext φ)) (h1 : ∀ a, Z a = none → H' a = H a)
    (h2 : ∀ a xs o, Z a = some xs → H' a = some o → ObjOk X.prog X.w H' s.heap a o) : Inv X pins σ H' s := by
  have k : ∀ b o, H b = some o → (∀ ys, o ≠ .lst ys) → (∀ φ, o ≠ .ext φ) → H' b = some o := fun b o e n1 n2 => by
    cases z : Z b with
    | none => rw [h1 b z]; exact e
    | some xs =>
      rcases h0 b xs z with ⟨ys, q⟩ | ⟨φ, q⟩
      · rw [e] at q; exact absurd (Option.some.inj q) (n1 ys)
      · rw [e] at q; exact absurd (Option.some.inj q) (n2 φ)
  have kn : ∀ b, H b = none → H' b = none := fun b e => by
    cases z : Z b with
    | none => rw [h1 b z]; exact e
    | some xs =>
      rcases h0 b xs z with ⟨ys, q⟩ | ⟨φ, q⟩ <;> rw [e] at q <;> cases q
  refine I.un (h' := s.heap) (t' := s.toks) ⟨fun b o e _ _ _ => e, fun b o e _ _ _ => ⟨o.slots, e⟩, fun b o e n _ => kn b n, fun b o e _ => ⟨o, e⟩,
    fun b xs e => k b _ e (fun _ z => by cases z) (fun _ z => by cases z), fun b o u e => k b _ e (fun _ z => by cases z) (fun _ z => by cases z),
    fun b ps e => ⟨#[], by rw [Array.append_empty]; exact k b _ e (fun _ z => by cases z) (fun _ z => by cases z)⟩⟩ fun a o e => ?_
  cases z : Z a with
  | some xs => exact h2 a xs o z e
  | none =>
    rw [h1 a z] at e
    exact (I.hok a o e).stay (fun _ _ _ q => q) (fun b q => k b _ q (fun _ z => by cases z) (fun _ z => by cases z)) fun b xs q => k b _ q (fun _ z => by cases z) (fun _ z => by cases z)
theorem phiL_ok {a : Addr} {xs : List V} {h : Heap} (x : phiL a xs h) : (∃ o, h.get? a = some o) ∧ ∀ h1 h2 : Heap, phiL a xs h1 → (∀ o, h1.get? a = some o → h2.get? a = some o) → phiL a xs h2 := by
  obtain ⟨_, its, n, _, e⟩ := x
  exact ⟨⟨_, e⟩, fun h1 h2 ⟨a, its, n, r, q⟩ k => ⟨a, its, n, r, k _ q⟩⟩
theorem Inv_hid (I : Inv X pins σ H s) (hZ : ∀ a xs, Z a = some xs → H a = some (.lst xs)) : Inv X pins σ (hid Z H) s := by
  refine Inv_swap (Z := Z) I (fun a xs z => .inl ⟨xs, hZ a xs z⟩) (fun a z => hid_off z) fun a xs o z e => ?_
  rw [hid_on z] at e
  cases e
  have q : phiL a xs s.heap := I.hok a _ (hZ a xs z)
  exact ⟨q, phiL_ok q⟩
theorem Inv_shw (I : Inv X pins σ H s) (hZ : ∀ a xs, Z a = some xs → H a = some (.ext (phiL a xs))) : Inv X pins σ (shw Z H) s := by
  refine Inv_swap (Z := Z) I (fun a xs z => .inr ⟨_, hZ a xs z⟩) (fun a z => shw_off z) fun a xs o z e => ?_
  rw [shw_on z] at e
  cases e
  obtain ⟨q, _⟩ := I.hok a _ (hZ a xs z)
  exact q
end
theorem pe_hide {X : Cx} {e : Expr} {te : TE} (he : PE X e te) : PE X e (tHide te) := by
  refine ⟨fun pins s σ H Q I h => ?_⟩
  obtain ⟨Z, hZ, q⟩ := h
  refine thn (he.run pins s σ (hid Z H) _ (Inv_hid I hZ) q) fun v s1 ⟨x, H1, I1, r1, h1, q1⟩ => ?_
  exact ⟨x, _, Inv_shw I1 h1, r1, q1⟩

/-! ### what stays: everything but what is hidden -/
def Le (H H' : Hp) : Prop := ∀ b o, H b = some o → (∀ φ, o ≠ .ext φ) → H' b = some o
theorem Le.refl (H : Hp) : Le H H := fun _ _ h _ => h
theorem Le.trans {H H1 H2 : Hp} (a : Le H H1) (b : Le H1 H2) : Le H H2 := fun c o h n => b c o (a c o h n) n
theorem Le.of {H H' : Hp} (a : Same H H') : Le H H' := fun c o h _ => a c o h
theorem Le.sT {K : PySem.W.Frag} {H H' : Hp} {a : Addr} {xs : List V} (e : Le H H') (h : SqT K H a xs) : SqT K H' a xs := by
  rcases h with (h | ⟨o, h⟩) | h
  · exact .inl (.inl (e _ _ h fun _ z => by cases z))
  · exact .inl (.inr ⟨o, e _ _ h fun _ z => by cases z⟩)
  · exact .inr h
theorem Le.sL {K : PySem.W.Frag} {H H' : Hp} {a : Addr} {xs : List V} (e : Le H H') (h : SqL K H a xs) : SqL K H' a xs := by
  rcases h with (h | ⟨o, h⟩) | h
  · exact .inl (.inl (e _ _ h fun _ z => by cases z))
  · exact .inl (.inr ⟨o, e _ _ h fun _ z => by cases z⟩)
  · exact .inr h
theorem Le.ins {H H' : Hp} {a C dx : Addr} {fs : List (Str × V)} (e : Le H H') (h : H a = some (.ins C dx fs)) : H' a = some (.ins C dx fs) := e _ _ h fun _ z => by cases z
theorem Le.hid {H1 H : Hp} {Z : Zs} (s : Le H1 H) (hZ : ∀ a xs, Z a = some xs → H1 a = none) : Le H1 (hid Z H) := fun b o e n => by
  cases z : Z b with
  | none => rw [hid_off z]; exact s b o e n
  | some xs => rw [hZ b xs z] at e; cases e
theorem Same.hid {H1 H : Hp} {Z : Zs} (s : Same H1 H) (hZ : ∀ a xs, Z a = some xs → H1 a = none) : Same H1 (hid Z H) := fun b o e => by
  cases z : Z b with
  | none => rw [hid_off z]; exact s b o e
  | some xs => rw [hZ b xs z] at e; cases e
theorem Same.shw {H1 H : Hp} {Z : Zs} (s : Same H1 H) (hZ : ∀ a xs, Z a = some xs → H1 a = none) : Same H1 (shw Z H) := fun b o e => by
  cases z : Z b with
  | none => rw [shw_off z]; exact s b o e
  | some xs => rw [hZ b xs z] at e; cases e
theorem Le.shw {H : Hp} {Z : Zs} (h : ∀ a xs, Z a = some xs → H a = some (.ext (phiL a xs))) : Le H (shw Z H) := fun b o e n => by
  cases z : Z b with
  | none => rw [shw_off z]; exact e
  | some xs => rw [h b xs z] at e; cases e; exact absurd rfl (n _)
theorem Same.upd {H H1 : Hp} {a : Addr} {o : HO} (s : Same H H1) (h : H a = none) : Same H (upd H1 a o) := fun b u e => by
  rw [upd_ne (ne_of_none e h)]; exact s b u e
theorem Same.new {H : Hp} {a : Addr} {o : HO} (h : H a = none) : Same H (L2.upd H a o) := Same.upd (Same.refl H) h
theorem Le.new {H : Hp} {a : Addr} {o : HO} (h : H a = none) : Le H (L2.upd H a o) := Le.of (Same.new h)
/-- one list hidden -/
def one1 (D : Addr) (xs : List V) : Zs := fun a => if a = D then some xs else none
theorem one1_on {D : Addr} {xs : List V} : one1 D xs D = some xs := by unfold one1; rw [if_pos rfl]
theorem one1_off {D a : Addr} {xs : List V} (h : a ≠ D) : one1 D xs a = none := by unfold one1; rw [if_neg h]
theorem one1_eq {D a : Addr} {xs ys : List V} (h : one1 D xs a = some ys) : a = D ∧ ys = xs := by
  unfold one1 at h
  split at h
  · exact ⟨by assumption, (Option.some.inj h).symm⟩
  · cases h
theorem hide1 {te : TE} {σ : L2.St} {H : Hp} {Q : VK} {D : Addr} {xs : List V} (h : H D = some (.lst xs))
    (q : te σ (hid (one1 D xs) H) fun y H4 => H4 D = some (.ext (phiL D xs)) ∧ Q y (shw (one1 D xs) H4)) (mono : ∀ (Q Q' : VK) σ H, (∀ y H, Q y H → Q' y H) → te σ H Q → te σ H Q') : tHide te σ H Q :=
  ⟨one1 D xs, fun a ys z => by obtain ⟨rfl, rfl⟩ := one1_eq z; exact h, mono _ _ _ _ (fun y H4 ⟨a, b⟩ => ⟨fun c ys z => by obtain ⟨rfl, rfl⟩ := one1_eq z; exact a, b⟩) q⟩
/-- nothing hidden -/
theorem hide0 {te : TE} {σ : L2.St} {H : Hp} {Q : VK} (q : te σ H Q) : tHide te σ H Q := by
  refine ⟨fun _ => none, (fun _ _ z => nomatch z), ?_⟩
  have e : hid (fun _ => none) H = H := rfl
  have e2 : (fun y H4 => (∀ a xs, (fun _ => none : Zs) a = some xs → H4 a = some (HO.ext (phiL a xs))) ∧ Q y (shw (fun _ => none) H4)) = Q := by
    funext y H4
    exact propext ⟨fun z => z.2, fun z => ⟨(fun a xs q => nomatch q), z⟩⟩
  rw [e, e2]
  exact q

/-! ### data -/
abbrev RD (α : Type) := Hp → α → V → Prop
def Mo {α : Type} (R : RD α) : Prop := ∀ H H' x v, Le H H' → R H x v → R H' x v
def Iv : RD Int := fun _ n v => v = .int n
def Bv : RD Bool := fun _ b v => v = .bl b
def Ls {α : Type} (K : PySem.W.Frag) (R : RD α) : RD (List α) := fun H xs v => ∃ a vs, v = .ref a ∧ SqL K H a vs ∧ Paired (R H) xs vs
def Tp {α : Type} (K : PySem.W.Frag) (R : RD α) : RD (List α) := fun H xs v => ∃ a vs, v = .ref a ∧ SqT K H a vs ∧ Paired (R H) xs vs
theorem Mo.i : Mo Iv := fun _ _ _ _ _ h => h
theorem Mo.b : Mo Bv := fun _ _ _ _ _ h => h
theorem pmap {α β : Type} {F G : α → β → Prop} {l₁ : List α} {l₂ : List β} (h : Paired F l₁ l₂) (f : ∀ a b, F a b → G a b) : Paired G l₁ l₂ := L2.Paired.mapP h f
theorem Mo.ls {α : Type} {K : PySem.W.Frag} {R : RD α} (m : Mo R) : Mo (Ls K R) := fun H H' x v s ⟨a, vs, e, q, p⟩ => ⟨a, vs, e, s.sL q, pmap p fun _ _ r => m _ _ _ _ s r⟩
theorem Mo.tp {α : Type} {K : PySem.W.Frag} {R : RD α} (m : Mo R) : Mo (Tp K R) := fun H H' x v s ⟨a, vs, e, q, p⟩ => ⟨a, vs, e, s.sT q, pmap p fun _ _ r => m _ _ _ _ s r⟩
theorem Paired.get {α β : Type} {F : α → β → Prop} : ∀ {xs : List α} {ys : List β} {i : Nat} {x : α}, Paired F xs ys → xs[i]? = some x → ∃ y, ys[i]? = some y ∧ F x y
  | _, _, _, _, .nil, e => by simp at e
  | _, _, 0, _, .cons r _, e => by simp at e; subst e; exact ⟨_, rfl, r⟩
  | _, _, i + 1, x, .cons _ t, e => by
    obtain ⟨y, h1, h2⟩ := Paired.get (i := i) (x := x) t (by simpa using e)
    exact ⟨y, by simpa using h1, h2⟩
theorem Paired.getR {α β : Type} {F : α → β → Prop} : ∀ {xs : List α} {ys : List β} {i : Nat} {y : β}, Paired F xs ys → ys[i]? = some y → ∃ x, xs[i]? = some x ∧ F x y
  | _, _, _, _, .nil, e => by simp at e
  | _, _, 0, _, .cons r _, e => by simp at e; subst e; exact ⟨_, rfl, r⟩
  | _, _, i + 1, y, .cons _ t, e => by
    obtain ⟨x, h1, h2⟩ := Paired.getR (i := i) (y := y) t (by simpa using e)
    exact ⟨x, by simpa using h1, h2⟩
theorem Paired.ofGet {α β : Type} {F : α → β → Prop} : ∀ {xs : List α} {ys : List β}, xs.length = ys.length → (∀ (i : Nat) (x : α) (y : β), xs[i]? = some x → ys[i]? = some y → F x y) → Paired F xs ys
  | [], [], _, _ => .nil
  | x :: xs, y :: ys, h, f => .cons (f 0 x y rfl rfl) (Paired.ofGet (by simpa using h) fun i x' y' a b => f (i + 1) x' y' (by simpa using a) (by simpa using b))
theorem Paired.append {α β : Type} {F : α → β → Prop} : ∀ {xs xs' : List α} {ys ys' : List β}, Paired F xs ys → Paired F xs' ys' → Paired F (xs ++ xs') (ys ++ ys')
  | _, _, _, _, .nil, s => s
  | _, _, _, _, .cons r t, s => .cons r (Paired.append t s)
theorem Paired.app_inv {α β : Type} {F : α → β → Prop} : ∀ {xs : List α} {x : α} {ys : List β}, Paired F (xs ++ [x]) ys → ∃ zs z, ys = zs ++ [z] ∧ Paired F xs zs ∧ F x z
  | [], x, _, .cons r .nil => ⟨[], _, rfl, .nil, r⟩
  | a :: xs, x, _, .cons r t => by
    obtain ⟨zs, z, rfl, p, q⟩ := Paired.app_inv t
    exact ⟨_ :: zs, z, rfl, .cons r p, q⟩
theorem Paired.map {α β γ : Type} {F : α → β → Prop} {G : γ → β → Prop} {f : α → γ} (h : ∀ a b, F a b → G (f a) b) : ∀ {xs : List α} {ys : List β}, Paired F xs ys → Paired G (xs.map f) ys
  | _, _, .nil => .nil
  | _, _, .cons r t => .cons (h _ _ r) (Paired.map h t)
theorem Paired.intV : ∀ {xs : List Int} {vs : List V} {H : Hp}, Paired (Iv H) xs vs → vs = xs.map V.int
  | _, _, _, .nil => rfl
  | _, _, _, .cons r t => by rw [List.map_cons, ← Paired.intV t]; cases r; rfl
theorem Paired.ofInt {H : Hp} : ∀ (xs : List Int), Paired (Iv H) xs (xs.map V.int)
  | [] => .nil
  | _ :: xs => .cons rfl (Paired.ofInt xs)
theorem Paired.bV : ∀ {xs : List Bool} {vs : List V} {H : Hp}, Paired (Bv H) xs vs → vs = xs.map V.bl
  | _, _, _, .nil => rfl
  | _, _, _, .cons r t => by rw [List.map_cons, ← Paired.bV t]; cases r; rfl
theorem Paired.ofB {H : Hp} : ∀ (xs : List Bool), Paired (Bv H) xs (xs.map V.bl)
  | [] => .nil
  | _ :: xs => .cons rfl (Paired.ofB xs)

/-! ### comprehensions whose items are data -/
/-- the index list of the kept turns, below i -/
def keptTo (keep : Nat → Bool) (i : Nat) : List Nat := (List.range i).filter keep
theorem keptTo_succ (keep : Nat → Bool) (i : Nat) : keptTo keep (i + 1) = keptTo keep i ++ (if keep i then [i] else []) := by
  unfold keptTo
  rw [List.range_succ, List.filter_append]
  congr 1
  cases h : keep i <;> simp [h]
theorem keptTo_len (keep : Nat → Bool) (i : Nat) : (keptTo keep i).length ≤ i := by
  have := List.length_filter_le keep (List.range i)
  rw [List.length_range] at this
  exact this
theorem lc2_out {J : It} {n : Nat} {G : Hp → Prop} {Y : Nat → Hp → V → Hp → Prop} (w : Walk J n G Y) {F : (Hp → Prop) → V → Hp → Prop} {H0 : Hp} {Qd : Hp → Prop} (Pv : Nat → Hp → Prop) (h0 : Pv 0 H0) (hG : ∀ i H, i ≤ n → Pv i H → G H)
    (hs : ∀ i x H H', i < n → Pv i H → Y i H x H' → F (Pv (i + 1)) x H') (hd : ∀ H, Pv n H → Qd H) :
    ∃ W : Nat → Nat → Hp → Prop, (∃ m, W 0 m H0) ∧ ∀ i m H, W i m H → (J.stop i H ∧ Qd H) ∨ (J.go i H ∧ ∃ Nx : Hp → Prop, (∀ H', Nx H' → ∃ m', m' < m ∧ W (i + 1) m' H') ∧ ∀ x H', J.yld i H x H' → F Nx x H') := by
  refine ⟨fun i m H => m = n - i ∧ i ≤ n ∧ Pv i H, ⟨n, by simp, Nat.zero_le _, h0⟩, ?_⟩
  rintro i m H ⟨rfl, hi, p⟩
  have q := hG i H hi p
  by_cases hlt : i < n
  · refine .inr ⟨w.goes i H hlt q, Pv (i + 1), fun H' p' => ⟨n - (i + 1), by omega, rfl, hlt, p'⟩, fun x H' y => hs i x H H' hlt p (w.yields i H x H' hlt q y)⟩
  · have e : i = n := by omega
    subst e
    exact .inl ⟨w.stops H q, hd H p⟩
theorem lc_data {J : It} {n : Nat} {G : Hp → Prop} {Y : Nat → Hp → V → Hp → Prop} (w : Walk J n G Y) {g : TG} {tt : TT} {te : TE} {vs : List Nat} {σ0 : L2.St} {H1 : Hp} {D : Addr} {Qd : Hp → Prop}
    (keep : Nat → Bool) (R : RD Nat) (hm : Mo R) (hD : H1 D = none) (hn : n ≤ sizeLine) (hG : ∀ H, Same H1 H → G H)
    (hs : ∀ i x H H', i < n → Same H1 H → Same H1 H' → (∃ acc, H' D = some (.lst acc)) → Y i H x H' → ∀ (Kq : VK) (N : Hp → Prop), (∀ H3, Same H' H3 → keep i = false → N H3) →
      (∀ σ2 H3, Same H' H3 → keep i = true → (∀ Hx, Same H1 Hx → (∀ b o, H' b = some o → b ≠ D → Hx b = some o) → ∀ Q : VK, (∀ y H4, Same Hx H4 → R H4 i y → Q y H4) → te σ2 Hx Q) → tHide te σ2 H3 Kq) →
      g x σ0 H' fun σ2 H2 => wipe σ2 vs = σ0 ∧ tt σ2 H2 fun b H3 => if b = true then tHide te σ2 H3 Kq else N H3)
    (hY : ∀ i x H H', i < n → Y i H x H' → (∃ acc, H D = some (.lst acc)) → Same H H')
    (hd : ∀ H ys, Same H1 H → H D = some (.lst ys) → Paired (R H) (keptTo keep n) ys → Qd H) :
    ∃ W : Nat → Nat → Hp → Prop, (∃ m, W 0 m (upd H1 D (.lst []))) ∧ ∀ i m H, W i m H →
      (J.stop i H ∧ Qd H) ∨ (J.go i H ∧ ∃ Nx : Hp → Prop, (∀ H', Nx H' → ∃ m', m' < m ∧ W (i + 1) m' H') ∧ ∀ x H', J.yld i H x H' → g x σ0 H' fun σ2 H2 => wipe σ2 vs = σ0 ∧ tt σ2 H2 fun b H3 =>
        if b = true then tHide te σ2 H3 fun y H4 => ∃ acc, H4 D = some (.lst acc) ∧ acc.length < sizeLine ∧ Nx (upd H4 D (.lst (acc ++ [y]))) else Nx H3) := by
  refine lc2_out w (F := fun Nx x H' => g x σ0 H' fun σ2 H2 => wipe σ2 vs = σ0 ∧ tt σ2 H2 fun b H3 => if b = true then tHide te σ2 H3 fun y H4 => ∃ acc, H4 D = some (.lst acc) ∧ acc.length < sizeLine ∧ Nx (upd H4 D (.lst (acc ++ [y]))) else Nx H3) (fun i H => Same H1 H ∧ ∃ ys, H D = some (.lst ys) ∧ Paired (R (hid (one1 D ys) H)) (keptTo keep i) ys) ⟨Same.new hD, [], upd_same, .nil⟩ (fun i H _ p => hG H p.1) ?_ ?_
  · rintro i x H H' hi ⟨s1, ys, hys, hp⟩ hy
    have s2 : Same H H' := hY i x H H' hi hy ⟨_, hys⟩
    have hle : ys.length ≤ i := by
      have := hp.length
      have := keptTo_len keep i
      omega
    have lehid : ∀ {H3 : Hp} {zs : List V}, Same H H3 → Le (hid (one1 D ys) H) (hid (one1 D zs) H3) := fun {H3 zs} s b o e n => by
      by_cases hb : b = D
      · subst hb
        rw [hid_on one1_on] at e
        cases e
        exact absurd rfl (n _)
      · rw [hid_off (one1_off hb)] at e ⊢
        exact s b o e
    refine hs i x H H' hi s1 (Same.trans s1 s2) ⟨ys, s2 _ _ hys⟩ hy _ _ (fun H3 s3 hk => ?_) fun σ2 H3 s3 hk ht => ?_
    · refine ⟨Same.trans s1 (Same.trans s2 s3), ys, s3 _ _ (s2 _ _ hys), ?_⟩
      rw [keptTo_succ, hk]
      simp only [Bool.false_eq_true, if_false, List.append_nil]
      exact pmap hp fun a b r => hm _ _ _ _ (lehid (Same.trans s2 s3)) r
    · have hD3 : H3 D = some (.lst ys) := s3 _ _ (s2 _ _ hys)
      have hZ : ∀ a xs, one1 D ys a = some xs → H3 a = some (.lst xs) := fun a xs z => by obtain ⟨rfl, rfl⟩ := one1_eq z; exact hD3
      have hZ1 : ∀ a xs, one1 D ys a = some xs → H1 a = none := fun a xs z => by obtain ⟨rfl, rfl⟩ := one1_eq z; exact hD
      refine ⟨one1 D ys, hZ, ht _ (Same.hid (Same.trans s1 (Same.trans s2 s3)) hZ1) (fun b o e hb => by rw [hid_off (one1_off hb)]; exact s3 b o e) _ fun y H4 s4 r => ?_⟩
      have h4 : H4 D = some (.ext (phiL D ys)) := s4 _ _ (hid_on one1_on)
      refine ⟨fun a xs z => by obtain ⟨rfl, rfl⟩ := one1_eq z; exact h4, ys, shw_on one1_on, by omega, Same.upd (Same.shw (Same.trans (Same.hid (Same.trans s1 (Same.trans s2 s3)) hZ1) s4) hZ1) hD, _, upd_same, ?_⟩
      have l4 : Le H4 (hid (one1 D (ys ++ [y])) (upd (shw (one1 D ys) H4) D (.lst (ys ++ [y])))) := fun b o e n => by
        by_cases hb : b = D
        · subst hb
          rw [h4] at e
          cases e
          exact absurd rfl (n _)
        · rw [hid_off (one1_off hb), upd_ne hb, shw_off (one1_off hb)]
          exact e
      rw [keptTo_succ, hk]
      simp only [if_true]
      exact Paired.append (pmap hp fun a b q => hm _ _ _ _ (Le.trans (Le.trans (lehid (Same.trans s2 s3)) (Le.of s4)) l4) q) (.cons (hm _ _ _ _ l4 r) .nil)
  · rintro H ⟨s1, ys, hys, hp⟩
    exact hd H ys s1 hys (pmap hp fun a b r => hm _ _ _ _ (fun b o e n => by
      by_cases hb : b = D
      · subst hb
        rw [hid_on one1_on] at e
        cases e
        exact absurd rfl (n _)
      · rw [hid_off (one1_off hb)] at e
        exact e) r)
end W5
set_option maxHeartbeats 4000000
/-! W5D: the program's defs by place; what the top must have left. -/
namespace W5
open PySem PySem.Spec L2
def top (i : Nat) : Stmt := PySem.Challenge.pw_whichfloor_k05_whole_pictures_of_program.main.body.getD i (.Pass ⟨0, 0, 0, 0⟩)
/-- the built-ins are still themselves -/
structure Bn (mg : Str → Option Value) : Prop where
  babs : mg "abs" = none
  bany : mg "any" = none
  ball : mg "all" = none
  bdict : mg "dict" = none
  benum : mg "enumerate" = none
  bint : mg "int" = none
  bisi : mg "isinstance" = none
  blen : mg "len" = none
  blist : mg "list" = none
  bmax : mg "max" = none
  bmin : mg "min" = none
  brange : mg "range" = none
  brev : mg "reversed" = none
  bsorted : mg "sorted" = none
  bstr : mg "str" = none
  bsum : mg "sum" = none
  btuple : mg "tuple" = none
  bzip : mg "zip" = none
/-- a def of the top stands -/
def Df (K : PySem.W.Frag) (mg : Str → Option Value) (x : Str) (st : Stmt) : Prop := ∃ f fd, FunD K x x (defArgs st) (defBody st) (defScope st) [] [] f fd ∧ mg x = some (.ref f)
theorem Df.cal {P : Program} {w : World} {K : PySem.W.Frag} {mg : Str → Option Value} {base : Heap} {x : Str} {st : Stmt} {N ps : List Str} {k : Nat} {sp : Sp} (D : Df K mg x st) (S : FnScope N ps (defScope st))
    (hb : ∀ (kV doc pm : Value) (an : Option Addr) (cdv ct : Value) (us : List Value), us.length = ps.length → bindArgs (PySem.W.fnOf x x (defArgs st) (defBody st) (defScope st) .none kV doc pm an cdv ct) ⟨us, []⟩ = pure (ps.zip us))
    (len : ∀ vs H Q E, sp vs H Q E → vs.length = ps.length)
    (hbody : ∀ (cdv : Value) (A : Around) (outer : List Env) (f : Addr) (s : Shared) (H : Hp) (vs : List V) (Q : VK) (E : XK), Room k (A.deeper (PyProof.Rows.envOfC x (defScope st) s.heap.objs.size f cdv)) → sp vs H Q E →
      ∃ t, PSs (cxOf CX0 P w K mg base N x (defScope st) f cdv A outer s H E).nox (defBody st) t ∧ t { nx := fun _ H' => Q .non H', rt := Q } (start N vs) H) : Cal P w K mg base (k + 1) x sp := by
  obtain ⟨f, fd, F, hm⟩ := D
  refine ⟨f, fd, ps, F.ok S len fun cdv A outer s H vs Q E hr h => ?_, hm, F.kp, F.bindsN hb⟩
  obtain ⟨t, h1, h2⟩ := hbody cdv A outer f s H vs Q E hr h
  exact ⟨t, h1.nox, h2⟩
/-- keyword-only parameters, none with a default -/
theorem Df.calK {P : Program} {w : World} {K : PySem.W.Frag} {mg : Str → Option Value} {base : Heap} {x : Str} {st : Stmt} {N ps : List Str} {k n : Nat} {ks : List Str} {sp : Sp} (D : Df K mg x st) (S : FnScope N ps (defScope st))
    (hb : ∀ (kV doc pm : Value) (an : Option Addr) (cdv ct : Value) (us ws : List Value), us.length = n → ws.length = ks.length → bindArgs (PySem.W.fnOf x x (defArgs st) (defBody st) (defScope st) .none kV doc pm an cdv ct) ⟨us, ks.zip ws⟩ = pure (ps.zip (us ++ ws)))
    (len : ∀ vs H Q E, sp vs H Q E → vs.length = ps.length)
    (hbody : ∀ (cdv : Value) (A : Around) (outer : List Env) (f : Addr) (s : Shared) (H : Hp) (vs : List V) (Q : VK) (E : XK), Room k (A.deeper (PyProof.Rows.envOfC x (defScope st) s.heap.objs.size f cdv)) → sp vs H Q E →
      ∃ t, PSs (cxOf CX0 P w K mg base N x (defScope st) f cdv A outer s H E).nox (defBody st) t ∧ t { nx := fun _ H' => Q .non H', rt := Q } (start N vs) H) : CalK P w K mg base (k + 1) x n ks sp := by
  obtain ⟨f, fd, F, hm⟩ := D
  have hk : KBn K fd ps n ks (fun us ws => us ++ ws) (fun vs zs => vs ++ zs) := by
    obtain ⟨oc, od, dV, kV, doc, pm, an, cdv, ct, osl, rfl, lk, hcd, hD, hK⟩ := F.ex
    rcases hD with ⟨_, rfl⟩ | ⟨e, _⟩
    · exact ⟨fun s us ws _ h1 h2 => .of_eq (hb kV doc pm an cdv ct us ws h1 h2), fun a b => a.append b⟩
    · exact absurd rfl e
  refine ⟨f, fd, ps, F.ok S len fun cdv A outer s H vs Q E hr h => ?_, hm, F.kp, hk⟩
  obtain ⟨t, h1, h2⟩ := hbody cdv A outer f s H vs Q E hr h
  exact ⟨t, h1.nox, h2⟩
end W5
set_option maxHeartbeats 0
/-! W5K1: the head's facts as data. Printed by gen_K1.py. -/
namespace W5
open PySem PySem.Spec PyProof.Rows L2
open He (Fa Dv ga ma)
open He5 (DefA)
def dF (x : Str) (i : Nat) : DefA := ⟨fun K => ga K x, x, x, defArgs (top i), defBody (top i), defScope (top i), [], []⟩
def dM (c m q : Str) (st : Stmt) : DefA := ⟨fun K => ma K (ga K c) m, m, q, defArgs st, defBody st, defScope st, [], []⟩
def dC (c m q : Str) (st : Stmt) : DefA := ⟨fun K => He5.wf K (ga K c) "classmethod" m, m, q, defArgs st, defBody st, defScope st, [], []⟩
def fnL0 : List DefA := [dF "columns_of" 10, dF "without_copies" 11, dF "least_table" 12, dF "grown" 13, dF "alongside" 14, dF "collected" 17, dF "plus" 18, dF "minus" 19, dF "times" 20, dF "step" 21, dF "rows_of" 22, dF "terms_of" 23, dF "swapped" 24, dF "divided_in_x" 25, dF "divided" 26, dF "one" 30, dF "negated" 31, dF "turned_left" 32, dF "turned_right" 33, dF "turned" 34, dF "gone" 35, dF "number_of" 38, dF "is_number" 44, dF "is_name" 45, dF "done" 48, dF "deeds" 49, dF "joined" 55, dF "needed" 56, dF "parts_of" 57, dF "where" 58]
def fnL1 : List DefA := [dF "checked_floor" 59, dF "same" 60, dF "known_kind" 63, dF "painted" 64, dF "pairs_of" 65, dF "counts" 66, dF "within" 67, dF "alike" 68, dF "joined_rows" 74, dF "vanish" 76, dF "_law_cell" 78, dF "_law_draws" 79, dF "_law_text" 81, dF "_law_program" 82, dF "law" 83, dM "Floors" "__init__" "Floors.__init__" (inClass (top 15) 0), dM "Floors" "__contains__" "Floors.__contains__" (inClass (top 15) 4), dM "Floors" "__eq__" "Floors.__eq__" (inClass (top 15) 5), dM "Floors" "__bool__" "Floors.__bool__" (inClass (top 15) 6), dM "Floors" "__and__" "Floors.__and__" (inClass (top 15) 7), dM "Floors" "__or__" "Floors.__or__" (inClass (top 15) 8), dM "Floors" "__sub__" "Floors.__sub__" (inClass (top 15) 9), dC "Floors" "everywhere" "Floors.everywhere" (inClass (top 15) 1), dC "Floors" "nowhere" "Floors.nowhere" (inClass (top 15) 2), dM "Walk" "__init__" "Walk.__init__" (inClass (top 37) 0), dM "Walk" "__add__" "Walk.__add__" (inClass (top 37) 5), dM "Walk" "__neg__" "Walk.__neg__" (inClass (top 37) 6), dM "Walk" "reduced" "Walk.reduced" (inClass (top 37) 9), dM "Block" "__init__" "Block.__init__" (inClass (top 46) 0), dM "Block" "put_deed" "Block.put_deed" (inClass (top 46) 1)]
def fnL2 : List DefA := [dM "Block" "put_block" "Block.put_block" (inClass (top 46) 2), dM "Reader" "__init__" "Reader.__init__" (inClass (top 47) 0), dM "Reader" "next_word" "Reader.next_word" (inClass (top 47) 1), dM "Reader" "number" "Reader.number" (inClass (top 47) 2), dM "Reader" "bracketed" "Reader.bracketed" (inClass (top 47) 3), dM "Reader" "item" "Reader.item" (inClass (top 47) 4), dM "Reader" "definition" "Reader.definition" (inClass (top 47) 5), dM "Reader" "whole" "Reader.whole" (inClass (top 47) 6), dM "Picture" "__init__" "Picture.__init__" (inClass (top 62) 0), dC "Picture" "read" "Picture.read" (inClass (top 62) 1), dM "Floor" "__init__" "Floor.__init__" (inClass (top 73) 0), dM "Floor" "blank" "Floor.blank" (inClass (top 73) 3), dM "Floor" "start" "Floor.start" (inClass (top 73) 4), dM "Floor" "times_x" "Floor.times_x" (inClass (top 73) 5), dM "Floor" "times_y" "Floor.times_y" (inClass (top 73) 6), dM "Floor" "left" "Floor.left" (inClass (top 73) 7), dM "Floor" "right" "Floor.right" (inClass (top 73) 8), dM "Floor" "across" "Floor.across" (inClass (top 73) 9), dM "Floor" "turned" "Floor.turned" (inClass (top 73) 10), dM "Floor" "walked" "Floor.walked" (inClass (top 73) 11), dM "Floor" "same" "Floor.same" (inClass (top 73) 13), dM "Floor" "different" "Floor.different" (inClass (top 73) 16)]
def fnL : List DefA := fnL0 ++ (fnL1 ++ (fnL2))
def faL0 : List Fa := [.glo "columns_of", .glo "without_copies", .glo "least_table", .glo "grown", .glo "alongside", .glo "collected", .glo "plus", .glo "minus", .glo "times", .glo "step", .glo "rows_of", .glo "terms_of", .glo "swapped", .glo "divided_in_x", .glo "divided", .glo "one", .glo "negated", .glo "turned_left", .glo "turned_right", .glo "turned", .glo "gone", .glo "number_of", .glo "is_number", .glo "is_name", .glo "done", .glo "deeds", .glo "joined", .glo "needed", .glo "parts_of", .glo "where"]
def faL1 : List Fa := [.glo "checked_floor", .glo "same", .glo "known_kind", .glo "painted", .glo "pairs_of", .glo "counts", .glo "within", .glo "alike", .glo "joined_rows", .glo "vanish", .glo "_law_cell", .glo "_law_draws", .glo "_law_text", .glo "_law_program", .glo "law", .glo "Floors", .glo "Walk", .glo "Block", .glo "Reader", .glo "Picture", .glo "Floor", .glo "X", .glo "Y", .glo "WORDS", .glo "KINDS", .glo "PARTS", .free "abs", .free "any", .free "all", .free "dict"]
def faL2 : List Fa := [.free "enumerate", .free "int", .free "isinstance", .free "len", .free "list", .free "max", .free "min", .free "range", .free "reversed", .free "sorted", .free "str", .free "sum", .free "tuple", .free "zip", .int "FIRST" 3, .int "MOST_OPEN" 5, .int "MOST_GOES_DONE" 60, .int "MOST_OTHERS_DONE" 400, .int "MOST_GOES" 8, .int "MOST_SIZE" 12, .int "LEAST_SIDES" 3, .int "MOST_SIDES" 9, .cls "Floors", .mkr "Floors", .noat "Floors" "rows", .meth "Floors" "__contains__", .meth "Floors" "__eq__", .meth "Floors" "__bool__", .meth "Floors" "__and__", .meth "Floors" "__or__"]
def faL3 : List Fa := [.meth "Floors" "__sub__", .cls "Walk", .mkr "Walk", .noat "Walk" "turns", .noat "Walk" "goes", .noat "Walk" "size", .meth "Walk" "__add__", .meth "Walk" "__neg__", .meth "Walk" "reduced", .cls "Block", .mkr "Block", .noat "Block" "parts", .noat "Block" "going", .noat "Block" "others", .noat "Block" "paints", .meth "Block" "put_deed", .meth "Block" "put_block", .cls "Reader", .mkr "Reader", .noat "Reader" "words", .noat "Reader" "at", .noat "Reader" "meanings", .meth "Reader" "next_word", .meth "Reader" "number", .meth "Reader" "bracketed", .meth "Reader" "item", .meth "Reader" "definition", .meth "Reader" "whole", .cls "Picture", .mkr "Picture"]
def faL4 : List Fa := [.noat "Picture" "walks", .cls "Floor", .mkr "Floor", .noat "Floor" "p", .noat "Floor" "q", .noat "Floor" "down", .noat "Floor" "along", .meth "Floor" "blank", .meth "Floor" "start", .meth "Floor" "times_x", .meth "Floor" "times_y", .meth "Floor" "left", .meth "Floor" "right", .meth "Floor" "across", .meth "Floor" "turned", .meth "Floor" "walked", .meth "Floor" "same", .meth "Floor" "different"]
def faL : List Fa := faL0 ++ (faL1 ++ (faL2 ++ (faL3 ++ (faL4))))
def tsL : List He.Tab := [(fun K => ga K "PARTS", ["arrow", "corner", "edge", "room"])]
/-- a tuple at an address -/
def tupA (K : PySem.W.Frag) (a : Addr) (vs : List V) : Bool := match K.lookup a with
  | some ⟨.type c, _, .seq its _, _⟩ => decide (c = "tuple") && (decide (its.size ≤ sizeLine) && He.relAll vs its.toList)
  | _ => false
/-- the first item of the tuple at an address, if it is an object -/
def fstA (K : PySem.W.Frag) (a : Addr) : Addr := match K.lookup a with
  | some ⟨_, _, .seq its _, _⟩ => (match its.toList with
    | .ref b :: _ => b
    | _ => 0)
  | _ => 0
def parA (K : PySem.W.Frag) (k : Str) : Addr := match PySem.W.nsIn K (ga K "PARTS") k with
  | some (some (.ref a)) => a
  | _ => 0
def parB (K : PySem.W.Frag) (k : Str) (ns : List V) : Bool := He.eqO (PySem.W.nsIn K (ga K "PARTS") k) (some (some (.ref (parA K k)))) && tupA K (parA K k) ns
def insB (K : PySem.W.Frag) (C : Addr) : Bool := He.eqO (PySem.W.findIn K (.ref C) "__class__") (some (some (.builtin "object.__class__"))) && (He.eqO (PySem.W.specialIn K (.builtin "object.__class__") "__get__") (some (some (.builtin "getset_descriptor.__get__"))) &&
  (decide (PySem.W.takesIn K (.builtin "object.__class__") = some true) && (decide (PySem.W.mroIn K C (.type "object") = some true) && decide (PySem.W.kitOne K (.ref C) (.ref C) = some true))))
def clmB (K : PySem.W.Frag) (C : Addr) (m : Str) : Bool := He5.wrapB K C "classmethod" "classmethod.__get__" m && PySem.W.fnIn K (He5.wf K C "classmethod" m)
def redB (K : PySem.W.Frag) (C : Addr) : Bool := PySem.W.readsIn K C (.type "type") && He.eqO (PySem.W.specialIn K (.ref C) "__getattribute__") (some (some (.builtin "type.__getattribute__")))
def exS (K : PySem.W.Frag) : List Bool := [PySem.W.selfFirst K (ga K "Walk"), PySem.W.selfFirst K (ga K "Floors"), insB K (ga K "Floors"), tupA K (ga K "WORDS") [.str "go", .str "turn", .str "paint", .str "repeat", .str "back", .str "let"], tupA K (ga K "KINDS") [.str "arrow", .str "corner", .str "edge", .str "room"],
  tupA K (ga K "X") [.ref (fstA K (ga K "X"))], tupA K (fstA K (ga K "X")) [.int 1, .int 0, .int 1], tupA K (ga K "Y") [.ref (fstA K (ga K "Y"))], tupA K (fstA K (ga K "Y")) [.int 0, .int 1, .int 1],
  parB K "arrow" [.int 1, .int 2, .int 3], parB K "corner" [.int 2, .int 3], parB K "edge" [.int 1, .int 3], parB K "room" [.int 1, .int 2],
  redB K (ga K "Floors"), redB K (ga K "Picture"), clmB K (ga K "Floors") "everywhere", clmB K (ga K "Floors") "nowhere", clmB K (ga K "Picture") "read"]
/-! ### what is looked at -/
def nsOf (g : Addr → Option Obj) (a : Addr) : Addr := match g a with
  | some ⟨_, _, .cls cd, _⟩ => cd.ns
  | _ => 0
def codeOf (g : Addr → Option Obj) (a : Addr) : Addr := match g a with
  | some ⟨_, _, .func fd, _⟩ => (match fd.code with
    | .ref c => c
    | _ => 0)
  | _ => 0
def itemsOf (g : Addr → Option Obj) (a : Addr) : List Addr := match g a with
  | some ⟨_, _, .seq its _, _⟩ => its.toList.flatMap He.refV
  | some ⟨_, _, .dict es _, _⟩ => es.toList.flatMap fun e => He.refV e.val
  | _ => []
def clN : List Str := ["Floors", "Walk", "Block", "Reader", "Picture", "Floor"]
def as0 (g : Addr → Option Obj) : List Addr := mainGlobals :: cStatics :: clN.map (ga (He.frG g [mainGlobals]))
def as1 (g : Addr → Option Obj) : List Addr := as0 g ++ (clN.map (ga (He.frG g [mainGlobals]))).map (nsOf g)
def cmL : List (Str × Str) := [("Floors", "everywhere"), ("Floors", "nowhere"), ("Picture", "read")]
def tuL : List Str := ["X", "Y", "WORDS", "KINDS", "PARTS"]
def as2 (g : Addr → Option Obj) : List Addr := as1 g ++ (tuL.map (ga (He.frG g [mainGlobals])) ++ ((tuL.map (ga (He.frG g [mainGlobals]))).flatMap (itemsOf g) ++ cmL.map fun q => ma (He.frG g (as1 g)) (ga (He.frG g [mainGlobals]) q.1) q.2))
def as3 (g : Addr → Option Obj) : List Addr := as2 g ++ fnL.map fun d => d.at_ (He.frG g (as2 g))
def as4 (g : Addr → Option Obj) : List Addr := as3 g ++ fnL.map fun d => codeOf g (d.at_ (He.frG g (as2 g)))
/-! ### the Hook -/
abbrev AlZ : Type := He.AlD × Bool × List (Option (List (Option (Str × Int))))
def obsZ (K : PySem.W.Frag) : AlZ := (He5.obsA faL fnL K, (exS K).all id, tsL.map fun t => He.dicW K (t.1 K))
def valZ (w : World) : AlZ := (He5.valA fnL, true, tsL.map fun t => some (He.keysIn w.params t.2))
def obsZG (g : Addr → Option Obj) : AlZ := obsZ (He.frG g (as4 g))
def hookZ : PySem.W.Hook where
  α := AlZ
  obs := fun s => obsZG s.heap.get?
  val := fun w => valZ w
  says := fun w h => ∃ K : PySem.W.Frag, K.In h ∧ obsZ K = valZ w
  of := fun _ _ e => ⟨_, He.frG_in, e⟩
  keeps := fun _ _ _ ⟨K, hK, c⟩ k => ⟨K, PySem.W.Frag.In.keeps hK k, c⟩
end W5
namespace HeadT
open PySem PySem.W PySem.Calls PyProof.Rows
abbrev R : OpenRow := OpenLaw.row PySem.Challenge.rw_whichfloor_k05_whole_pictures_of_program
abbrev qv : Program := view R.prog [83]
def obZ (s : SharedT) : W5.AlZ := W5.obsZG (HandSHeadRun.getT s)
theorem obZ_eq (s : SharedT) : obZ s = W5.hookZ.obs s.abs := by
  have e : HandSHeadRun.getT s = s.abs.heap.get? := funext (HandSHeadRun.getT_eq s)
  unfold obZ
  rw [e]
  rfl
def n1 : List PySem.Str := ["_wall", "FloorError", "BadFloor", "BadKind", "BadProgram", "TooLong", "BadTable", "FIRST", "columns_of", "without_copies", "least_table", "grown", "alongside", "Floors", "collected", "plus", "minus", "times", "step", "rows_of", "terms_of", "swapped", "divided_in_x", "divided", "X", "Y", "one", "negated", "turned_left", "turned_right"]
def n2 : List PySem.Str := ["turned", "gone", "Walk", "number_of", "WORDS", "MOST_OPEN", "MOST_GOES_DONE", "MOST_OTHERS_DONE", "is_number", "is_name", "Block", "Reader", "done", "deeds", "KINDS", "PARTS", "MOST_GOES", "MOST_SIZE", "joined", "needed", "parts_of", "where", "checked_floor", "same", "Picture", "known_kind", "painted", "pairs_of", "counts", "within"]
def n3 : List PySem.Str := ["alike", "MOST_ROUNDS", "LEAST_SIDES", "MOST_SIDES", "Floor", "joined_rows", "terms_of_rows", "vanish", "_law_cell", "_law_draws", "_law_is_integer", "_law_text", "_law_program"]
def names : List PySem.Str := n1 ++ (n2 ++ n3)
theorem runF0 : ∀ (w : World), HandSHeadRun.RunEq R qv W5.hookZ obZ 20000 names (w.withFollow "special-get-raises" false) := by
  intro w os
  kernel_rfl
theorem runF1 : ∀ (w : World), HandSHeadRun.RunEq R qv W5.hookZ obZ 20000 names (w.withFollow "special-get-raises" true) := by
  intro w os
  kernel_rfl
theorem run (w : World) : HandSHeadRun.RunEq R qv W5.hookZ obZ 20000 names w :=
  byRow2 "special-get-raises" (P := fun w => HandSHeadRun.RunEq R qv W5.hookZ obZ 20000 names w) runF0 runF1 w
end HeadT
set_option maxHeartbeats 4000000
/-! W5E: comprehensions whose items' rules are told in the reading. -/
namespace W5
open PySem PySem.Spec L2
section
variable {X : Cx}
/-- the item in a block, by any rule -/
def tAll (X : Cx) (sc : Scope) (e : Expr) : TE := fun σ H Q => ∀ (s : Shared) (H0 : Hp) (C : Addr) (cl : List (Str × Addr)) (fp : List Addr), ∃ t, PE (X.blk s H0 sc (compEnvC sc cl C X.env) fp) e t ∧ t σ H Q
theorem pe_all {sc : Scope} {e : Expr} : ∀ (s : Shared) (H : Hp) (C : Addr) (cl : List (Str × Addr)) (fp : List Addr), PE (X.blk s H sc (compEnvC sc cl C X.env) fp) e (tAll X sc e) :=
  fun s H0 C cl fp => ⟨fun pins s1 σ H Q I h => let ⟨t, pt, q⟩ := h s H0 C cl fp; pt.run pins s1 σ H Q I q⟩
def tAllT (X : Cx) (sc : Scope) (e : Expr) : TT := fun σ H Q => ∀ (s : Shared) (H0 : Hp) (C : Addr) (cl : List (Str × Addr)) (fp : List Addr), ∃ t, PT (X.blk s H0 sc (compEnvC sc cl C X.env) fp) e t ∧ t σ H Q
theorem pt_all {sc : Scope} {e : Expr} : ∀ (s : Shared) (H : Hp) (C : Addr) (cl : List (Str × Addr)) (fp : List Addr), PT (X.blk s H sc (compEnvC sc cl C X.env) fp) e (tAllT X sc e) :=
  fun s H0 C cl fp => ⟨fun pins s1 σ H Q I h => let ⟨t, pt, q⟩ := h s H0 C cl fp; pt.run pins s1 σ H Q I q⟩
def iAll (X : Cx) (sc : Scope) (tg e : Expr) : TI := fun σ H R => ∀ (s : Shared) (H0 : Hp) (C : Addr) (cl : List (Str × Addr)) (fp : List Addr), ∃ t, PI (X.blk s H0 sc (compEnvC sc cl C X.env) fp) tg e t ∧ t σ H R
theorem pi_all {sc : Scope} {tg e : Expr} : ∀ (s : Shared) (H : Hp) (C : Addr) (cl : List (Str × Addr)) (fp : List Addr), PI (X.blk s H sc (compEnvC sc cl C X.env) fp) tg e (iAll X sc tg e) :=
  fun s H0 C cl fp => ⟨fun pins s1 σ H R I h => let ⟨t, pt, q⟩ := h s H0 C cl fp; pt.run pins s1 σ H R I q⟩
/-- tLc, tLc2 with the wiped slots named -/
def uLc (wi : TI) (g : TG) (tt : TT) (te : TE) (vs : List Nat) : TE := fun σ H Q => ∃ σ0, wipe σ vs = σ0 ∧ wi σ H fun J H1 => ∀ D, H1 D = none → ∃ W : Nat → Nat → Hp → Prop, (∃ m, W 0 m (upd H1 D (.lst []))) ∧ ∀ i m H, W i m H →
  (J.stop i H ∧ Q (.ref D) H) ∨ (J.go i H ∧ ∃ Nx : Hp → Prop, (∀ H', Nx H' → ∃ m', m' < m ∧ W (i + 1) m' H') ∧ ∀ x H', J.yld i H x H' → g x σ0 H' fun σ2 H2 => wipe σ2 vs = σ0 ∧ tt σ2 H2 fun b H3 =>
    if b = true then te σ2 H3 fun y H4 => ∃ acc, H4 D = some (.lst acc) ∧ acc.length < sizeLine ∧ Nx (upd H4 D (.lst (acc ++ [y]))) else Nx H3)
theorem uLc_eq {wi : TI} {g : TG} {tt : TT} {te : TE} {vs : List Nat} : tLc wi g tt te vs = uLc wi g tt te vs := by
  funext σ H Q
  unfold tLc uLc
  simp only [exists_eq_left']
def uLc2 (wi : TI) (g : TG) (tt : TT) (wi1 : TI) (g1 : TG) (tt1 : TT) (te : TE) (vs vs1 : List Nat) : TE := fun σ H Q => ∃ σ0, wipe σ vs = σ0 ∧ wi σ H fun J H1 => ∀ D, H1 D = none → ∃ W : Nat → Nat → Hp → Prop, (∃ m, W 0 m (upd H1 D (.lst []))) ∧ ∀ i m H, W i m H →
  (J.stop i H ∧ Q (.ref D) H) ∨ (J.go i H ∧ ∃ Nx : Hp → Prop, (∀ H', Nx H' → ∃ m', m' < m ∧ W (i + 1) m' H') ∧ ∀ x H', J.yld i H x H' → g x σ0 H' fun σ2 H2 => wipe σ2 vs = σ0 ∧ tt σ2 H2 fun b H3 =>
    if b = true then ∃ σ1, wipe σ2 vs1 = σ1 ∧ wi1 σ2 H3 fun J1 H4 => ∃ W1 : Nat → Nat → Hp → Prop, (∃ m, W1 0 m H4) ∧ ∀ j k H, W1 j k H →
      (J1.stop j H ∧ Nx H) ∨ (J1.go j H ∧ ∃ Nx1 : Hp → Prop, (∀ H', Nx1 H' → ∃ k', k' < k ∧ W1 (j + 1) k' H') ∧ ∀ x H', J1.yld j H x H' → g1 x σ1 H' fun σ3 H5 => wipe σ3 vs1 = σ1 ∧ tt1 σ3 H5 fun b H6 =>
        if b = true then te σ3 H6 fun y H7 => ∃ acc, H7 D = some (.lst acc) ∧ acc.length < sizeLine ∧ Nx1 (upd H7 D (.lst (acc ++ [y]))) else Nx1 H6)
    else Nx H3)
theorem uLc2_eq {wi wi1 : TI} {g g1 : TG} {tt tt1 : TT} {te : TE} {vs vs1 : List Nat} : tLc2 wi g tt wi1 g1 tt1 te vs vs1 = uLc2 wi g tt wi1 g1 tt1 te vs vs1 := by
  funext σ H Q
  unfold tLc2 uLc2
  simp only [exists_eq_left']
variable {elt tg iter c : Expr} {scope : Scope} {own : List (Str × Nat)} {pos spos py : Pos} {wi : TI} {g : TG} {i : Nat} {y : Str}
theorem pe_lcA (own : List (Str × Nat)) (hc : X.calm = true) (hN : X.N.Nodup) (hi : PI X tg iter wi) (ok : BlkOk X.N X.env.scope scope own)
    (hg : ∀ (s : Shared) (H : Hp) (C : Addr) (cl : List (Str × Addr)) (fp : List Addr), PG (X.blk s H scope (compEnvC scope cl C X.env) fp) tg g)
    (hs : ∀ x, foldedSetIterable iter X.env x = pure x := by intro _; rfl) :
    PE X (.ListComp elt [⟨tg, iter, [], 0⟩] scope pos) (uLc wi g tYes (tHide (tAll X scope elt)) (own.map (·.2))) :=
  uLc_eq ▸ pe_lc hc hN hi ok hg (fun _ _ _ _ _ => pts_nil) (fun s H C cl fp => pe_hide (pe_all s H C cl fp)) hs
theorem pe_lcI (own : List (Str × Nat)) (hc : X.calm = true) (hN : X.N.Nodup) (hi : PI X tg iter wi) (ok : BlkOk X.N X.env.scope scope own)
    (hg : ∀ (s : Shared) (H : Hp) (C : Addr) (cl : List (Str × Addr)) (fp : List Addr), PG (X.blk s H scope (compEnvC scope cl C X.env) fp) tg g)
    (hs : ∀ x, foldedSetIterable iter X.env x = pure x := by intro _; rfl) :
    PE X (.ListComp elt [⟨tg, iter, [c], 0⟩] scope pos) (uLc wi g (tAllT X scope c) (tHide (tAll X scope elt)) (own.map (·.2))) :=
  uLc_eq ▸ pe_lc hc hN hi ok hg (fun s H C cl fp => pts_one (pt_all s H C cl fp)) (fun s H C cl fp => pe_hide (pe_all s H C cl fp)) hs
theorem ps_lcA (own : List (Str × Nat)) (hc : X.calm = true) (hN : X.N.Nodup) (hy : X.N[i]? = some y) (hyl : X.env.scope.names.lookup y = some .local)
    (hsw : swapsWith (.ListComp elt [⟨tg, iter, [], 0⟩] scope pos) (some (.Name y py)) spos.line X.env = pure true) (hi : PI X tg iter wi) (ok : BlkOk X.N X.env.scope scope own)
    (hg : ∀ (s : Shared) (H : Hp) (C : Addr) (cl : List (Str × Addr)) (fp : List Addr), PG (X.blk s H scope (compEnvC scope cl C X.env) fp) tg g)
    (hs : ∀ x, foldedSetIterable iter X.env x = pure x := by intro _; rfl) :
    PS X (.Assign [.Name y py] (.ListComp elt [⟨tg, iter, [], 0⟩] scope pos) spos) (tAsg (uLc wi g tYes (tHide (tAll X scope elt)) (own.map (·.2))) (gName i)) :=
  uLc_eq ▸ ps_setLc hc hN hy hyl hsw hi ok hg (fun _ _ _ _ _ => pts_nil) (fun s H C cl fp => pe_hide (pe_all s H C cl fp)) hs
theorem pg_tupK {es : List Expr} {k : Nat} {t : TGs} {n : Nat} {K : PySem.W.Frag} {pos : Pos} (hc : X.calm = true) (h : PGs X es t)
    (hn : (assignEach es X.env).length = n := by rfl) (hst : (assignEach es X.env).findIdx? (·.1) = none := by rfl) (hK : X.K = K := by rfl) : PG X (.Tuple es k pos) (gTup K n t) := by
  subst hK
  exact pg_tup hc h hn hst
theorem pg_2K {a b : Expr} {k : Nat} {t u : TG} {K : PySem.W.Frag} {pos : Pos} (hc : X.calm = true) (h : PG X a t) (h2 : PG X b u)
    (hn : (assignEach [a, b] X.env).length = 2 := by rfl) (hst : (assignEach [a, b] X.env).findIdx? (·.1) = none := by rfl) (hK : X.K = K := by rfl)
    (e1 : (assignEach (a :: [b]) X.env).map (·.2) = assign a X.env :: (assignEach [b] X.env).map (·.2) := by rfl) (e2 : (assignEach (b :: []) X.env).map (·.2) = assign b X.env :: (assignEach [] X.env).map (·.2) := by rfl) : PG X (.Tuple [a, b] k pos) (gTup K 2 (gCons t (gCons u gNil))) := by
  subst hK
  exact pg_tup hc (pgs_cons h (pgs_cons h2 pgs_nil e2) e1) hn hst
theorem pg_3K {a b c : Expr} {k : Nat} {t u y : TG} {K : PySem.W.Frag} {pos : Pos} (hc : X.calm = true) (h : PG X a t) (h2 : PG X b u) (h3 : PG X c y)
    (hn : (assignEach [a, b, c] X.env).length = 3 := by rfl) (hst : (assignEach [a, b, c] X.env).findIdx? (·.1) = none := by rfl) (hK : X.K = K := by rfl)
    (e1 : (assignEach (a :: [b, c]) X.env).map (·.2) = assign a X.env :: (assignEach [b, c] X.env).map (·.2) := by rfl) (e2 : (assignEach (b :: [c]) X.env).map (·.2) = assign b X.env :: (assignEach [c] X.env).map (·.2) := by rfl)
    (e3 : (assignEach (c :: []) X.env).map (·.2) = assign c X.env :: (assignEach [] X.env).map (·.2) := by rfl) : PG X (.Tuple [a, b, c] k pos) (gTup K 3 (gCons t (gCons u (gCons y gNil)))) := by
  subst hK
  exact pg_tup hc (pgs_cons h (pgs_cons h2 (pgs_cons h3 pgs_nil e3) e2) e1) hn hst
theorem pg_n {x : Str} {pos : Pos} (i : Nat) (hN : X.N.Nodup) (hi : X.N[i]? = some x := by rfl) (hx : Loc X.env.scope x := by first | exact Or.inl rfl | exact Or.inr rfl)
    (hf : X.fn x = true ∨ X.env.scope.names.lookup x = some .local := by first | exact .inl rfl | exact .inr rfl) : PG X (.Name x pos) (gName i) := pg_name hN hi hx hf
end
theorem iteDF {c A B : Prop} [Decidable c] (hc : ¬ c) (h : B) : if decide c = true then A else B := by
  rw [if_neg (by simpa using hc)]
  exact h
theorem iteDT {c A B : Prop} [Decidable c] (hc : c) (h : A) : if decide c = true then A else B := by
  rw [if_pos (by simpa using hc)]
  exact h
theorem yes_ {F N : Hp → Prop} {σ : L2.St} {H : Hp} (h : F H) : tYes σ H fun b H3 => if b = true then F H3 else N H3 := iteT (B := N H) h
/-- the comprehension over data, all kept -/
theorem lc_all {J : It} {n : Nat} {G : Hp → Prop} {Y : Nat → Hp → V → Hp → Prop} (w : Walk J n G Y) {g : TG} {te : TE} {vs : List Nat} {σ0 : L2.St} {H1 : Hp} {D : Addr} {Qd : Hp → Prop}
    {β : Type} (R : RD β) (f : Nat → β) (hm : Mo R) (hD : H1 D = none) (hn : n ≤ sizeLine) (hG : ∀ H, Same H1 H → G H)
    (hs : ∀ i x H H', i < n → Same H1 H → Same H1 H' → Y i H x H' → ∀ (Kq : VK) (N : Hp → Prop),
      (∀ σ2 H3, Same H' H3 → (∀ Hx, Same H1 Hx → (∀ b o, H' b = some o → b ≠ D → Hx b = some o) → ∀ Q : VK, (∀ y H4, Same Hx H4 → R H4 (f i) y → Q y H4) → te σ2 Hx Q) → tHide te σ2 H3 Kq) →
      g x σ0 H' fun σ2 H2 => wipe σ2 vs = σ0 ∧ tYes σ2 H2 fun b H3 => if b = true then tHide te σ2 H3 Kq else N H3)
    (hY : ∀ i x H H', i < n → Y i H x H' → Same H H')
    (hd : ∀ H ys, Same H1 H → H D = some (.lst ys) → Paired (R H) ((List.range n).map f) ys → Qd H) :
    ∃ W : Nat → Nat → Hp → Prop, (∃ m, W 0 m (upd H1 D (.lst []))) ∧ ∀ i m H, W i m H →
      (J.stop i H ∧ Qd H) ∨ (J.go i H ∧ ∃ Nx : Hp → Prop, (∀ H', Nx H' → ∃ m', m' < m ∧ W (i + 1) m' H') ∧ ∀ x H', J.yld i H x H' → g x σ0 H' fun σ2 H2 => wipe σ2 vs = σ0 ∧ tYes σ2 H2 fun b H3 =>
        if b = true then tHide te σ2 H3 fun y H4 => ∃ acc, H4 D = some (.lst acc) ∧ acc.length < sizeLine ∧ Nx (upd H4 D (.lst (acc ++ [y]))) else Nx H3) := by
  refine lc_data w (fun _ => true) (fun H i y => R H (f i) y) (fun H H' i y s r => hm H H' (f i) y s r) hD hn hG ?_ (fun i x H H' hi y _ => hY i x H H' hi y) ?_
  · intro i x H H' hi s1 s2 _ y Kq N hN hK
    exact hs i x H H' hi s1 s2 y Kq N fun σ2 H3 s3 h => hK σ2 H3 s3 rfl h
  · intro H ys s hys hp
    refine hd H ys s hys ?_
    have e : keptTo (fun _ => true) n = List.range n := by unfold keptTo; rw [List.filter_eq_self]; intro _ _; rfl
    rw [e] at hp
    have : ∀ {is : List Nat} {ys : List V}, Paired (fun i y => R H (f i) y) is ys → Paired (R H) (is.map f) ys := fun q => by
      induction q with
      | nil => exact .nil
      | cons r _ ih => exact .cons r ih
    exact this hp
theorem hY_at {n : Nat} {xs : List V} : ∀ i x H H', i < n → YAt xs i H x H' → Same H H' := fun i x H H' _ y => by rw [y.1]; exact Same.refl H
theorem hY_fn {n : Nat} {f : Nat → V} : ∀ i x H H', i < n → YFn f i H x H' → Same H H' := fun i x H H' _ y => by rw [y.1]; exact Same.refl H
theorem hY_pair {n : Nat} {a b : Nat → Option V} : ∀ i x H H', i < n → YPair a b i H x H' → Same H H' := fun i x H H' _ y => by
  obtain ⟨T, u, v, _, hT, rfl, _⟩ := y
  exact Same.new hT
/-- target: one name -/
theorem lc_n {J : It} {n : Nat} {G : Hp → Prop} {Y : Nat → Hp → V → Hp → Prop} (w : Walk J n G Y) {te : TE} {vs : List Nat} {σ0 : L2.St} {H1 : Hp} {D : Addr} {Qd : Hp → Prop} {k : Nat}
    {β : Type} (R : RD β) (f : Nat → β) (hm : Mo R) (hD : H1 D = none) (hn : n ≤ sizeLine) (hG : ∀ H, Same H1 H → G H)
    (hw : ∀ x, wipe (σ0.set k (some x)) vs = σ0)
    (hs : ∀ i x H H', i < n → Y i H x H' → ∀ Hx, Same H1 Hx → ∀ Q : VK, (∀ y H4, Same Hx H4 → R H4 (f i) y → Q y H4) → te (σ0.set k (some x)) Hx Q)
    (hY : ∀ i x H H', i < n → Y i H x H' → Same H H')
    (hd : ∀ H ys, Same H1 H → H D = some (.lst ys) → Paired (R H) ((List.range n).map f) ys → Qd H) :
    ∃ W : Nat → Nat → Hp → Prop, (∃ m, W 0 m (upd H1 D (.lst []))) ∧ ∀ i m H, W i m H →
      (J.stop i H ∧ Qd H) ∨ (J.go i H ∧ ∃ Nx : Hp → Prop, (∀ H', Nx H' → ∃ m', m' < m ∧ W (i + 1) m' H') ∧ ∀ x H', J.yld i H x H' → gName k x σ0 H' fun σ2 H2 => wipe σ2 vs = σ0 ∧ tYes σ2 H2 fun b H3 =>
        if b = true then tHide te σ2 H3 fun y H4 => ∃ acc, H4 D = some (.lst acc) ∧ acc.length < sizeLine ∧ Nx (upd H4 D (.lst (acc ++ [y]))) else Nx H3) :=
  lc_all w R f hm hD hn hG (fun i x H H' hi s1 s2 y Kq N hK => ⟨hw x, yes_ (F := fun H3 => tHide te _ H3 Kq) (hK _ _ (Same.refl _) fun Hx sx _ Q hq => hs i x H H' hi y Hx sx Q hq)⟩) hY hd
/-- target: a, b -/
theorem lc_2 {J : It} {n : Nat} {G : Hp → Prop} {Y : Nat → Hp → V → Hp → Prop} (w : Walk J n G Y) {te : TE} {vs : List Nat} {σ0 : L2.St} {H1 : Hp} {D : Addr} {Qd : Hp → Prop} {k l : Nat} {K : PySem.W.Frag}
    {β : Type} (R : RD β) (f : Nat → β) (hm : Mo R) (hD : H1 D = none) (hn : n ≤ sizeLine) (hG : ∀ H, Same H1 H → G H)
    (hw : ∀ x y, wipe ((σ0.set k (some x)).set l (some y)) vs = σ0)
    (hs : ∀ i x H H', i < n → Same H1 H → Y i H x H' → ∃ a u v, x = .ref a ∧ SqT K H' a [u, v] ∧ ∀ Hx, Same H1 Hx → ∀ Q : VK, (∀ y H4, Same Hx H4 → R H4 (f i) y → Q y H4) → te ((σ0.set k (some u)).set l (some v)) Hx Q)
    (hY : ∀ i x H H', i < n → Y i H x H' → Same H H')
    (hd : ∀ H ys, Same H1 H → H D = some (.lst ys) → Paired (R H) ((List.range n).map f) ys → Qd H) :
    ∃ W : Nat → Nat → Hp → Prop, (∃ m, W 0 m (upd H1 D (.lst []))) ∧ ∀ i m H, W i m H →
      (J.stop i H ∧ Qd H) ∨ (J.go i H ∧ ∃ Nx : Hp → Prop, (∀ H', Nx H' → ∃ m', m' < m ∧ W (i + 1) m' H') ∧ ∀ x H', J.yld i H x H' → gTup K 2 (gCons (gName k) (gCons (gName l) gNil)) x σ0 H' fun σ2 H2 => wipe σ2 vs = σ0 ∧ tYes σ2 H2 fun b H3 =>
        if b = true then tHide te σ2 H3 fun y H4 => ∃ acc, H4 D = some (.lst acc) ∧ acc.length < sizeLine ∧ Nx (upd H4 D (.lst (acc ++ [y]))) else Nx H3) :=
  lc_all w R f hm hD hn hG (fun i x H H' hi s1 s2 y Kq N hK => by
    obtain ⟨a, u, v, rfl, q, h⟩ := hs i x H H' hi s1 y
    exact ⟨a, _, rfl, q, rfl, u, _, rfl, v, _, rfl, rfl, hw u v, yes_ (F := fun H3 => tHide te _ H3 Kq) (hK _ _ (Same.refl _) fun Hx sx _ Q hq => h Hx sx Q hq)⟩) hY hd
/-- target: a, b, c -/
theorem lc_3 {J : It} {n : Nat} {G : Hp → Prop} {Y : Nat → Hp → V → Hp → Prop} (w : Walk J n G Y) {te : TE} {vs : List Nat} {σ0 : L2.St} {H1 : Hp} {D : Addr} {Qd : Hp → Prop} {k l m0 : Nat} {K : PySem.W.Frag}
    {β : Type} (R : RD β) (f : Nat → β) (hm : Mo R) (hD : H1 D = none) (hn : n ≤ sizeLine) (hG : ∀ H, Same H1 H → G H)
    (hw : ∀ x y z, wipe (((σ0.set k (some x)).set l (some y)).set m0 (some z)) vs = σ0)
    (hs : ∀ i x H H', i < n → Same H1 H → Y i H x H' → ∃ a u v z, x = .ref a ∧ SqT K H' a [u, v, z] ∧ ∀ Hx, Same H1 Hx → ∀ Q : VK, (∀ y H4, Same Hx H4 → R H4 (f i) y → Q y H4) → te (((σ0.set k (some u)).set l (some v)).set m0 (some z)) Hx Q)
    (hY : ∀ i x H H', i < n → Y i H x H' → Same H H')
    (hd : ∀ H ys, Same H1 H → H D = some (.lst ys) → Paired (R H) ((List.range n).map f) ys → Qd H) :
    ∃ W : Nat → Nat → Hp → Prop, (∃ m, W 0 m (upd H1 D (.lst []))) ∧ ∀ i m H, W i m H →
      (J.stop i H ∧ Qd H) ∨ (J.go i H ∧ ∃ Nx : Hp → Prop, (∀ H', Nx H' → ∃ m', m' < m ∧ W (i + 1) m' H') ∧ ∀ x H', J.yld i H x H' → gTup K 3 (gCons (gName k) (gCons (gName l) (gCons (gName m0) gNil))) x σ0 H' fun σ2 H2 => wipe σ2 vs = σ0 ∧ tYes σ2 H2 fun b H3 =>
        if b = true then tHide te σ2 H3 fun y H4 => ∃ acc, H4 D = some (.lst acc) ∧ acc.length < sizeLine ∧ Nx (upd H4 D (.lst (acc ++ [y]))) else Nx H3) :=
  lc_all w R f hm hD hn hG (fun i x H H' hi s1 s2 y Kq N hK => by
    obtain ⟨a, u, v, z, rfl, q, h⟩ := hs i x H H' hi s1 y
    exact ⟨a, _, rfl, q, rfl, u, _, rfl, v, _, rfl, z, _, rfl, rfl, hw u v z, yes_ (F := fun H3 => tHide te _ H3 Kq) (hK _ _ (Same.refl _) fun Hx sx _ Q hq => h Hx sx Q hq)⟩) hY hd
theorem Paired.ofIx {α β : Type} {R : β → V → Prop} {xs : List α} {ys : List V} {f : α → β} (h : Paired (fun i y => ∀ x, xs[i]? = some x → R (f x) y) ((List.range xs.length).map fun i => i) ys) : Paired R (xs.map f) ys := by
  have hl := h.length
  refine Paired.ofGet (by simpa using hl) fun i x y e1 e2 => ?_
  rw [List.getElem?_map] at e1
  cases ex : xs[i]? with
  | none => rw [ex] at e1; cases e1
  | some x0 =>
    rw [ex] at e1
    cases e1
    obtain ⟨j, h1, h2⟩ := Paired.getR h e2
    simp only [List.map_id', List.getElem?_range (List.getElem?_eq_some_iff.mp ex).1] at h1
    cases h1
    exact h2 x0 ex
/-- over data; target: one name -/
theorem lc_L {J : It} {G : Hp → Prop} {α β : Type} {xs : List α} {ws : List V} (w : Walk J ws.length G (YAt ws)) {te : TE} {vs : List Nat} {σ0 : L2.St} {H1 : Hp} {D : Addr} {Qd : Hp → Prop} {k : Nat}
    {Rs : RD α} (hp : Paired (Rs H1) xs ws) (R : RD β) (f : α → β) (hm : Mo R) (hD : H1 D = none) (hn : ws.length ≤ sizeLine) (hG : ∀ H, Same H1 H → G H)
    (hw : ∀ x, wipe (σ0.set k (some x)) vs = σ0)
    (hs : ∀ x v Hx, x ∈ xs → Rs H1 x v → Same H1 Hx → ∀ Q : VK, (∀ y H4, Same Hx H4 → R H4 (f x) y → Q y H4) → te (σ0.set k (some v)) Hx Q)
    (hd : ∀ H ys, Same H1 H → H D = some (.lst ys) → Paired (R H) (xs.map f) ys → Qd H) :
    ∃ W : Nat → Nat → Hp → Prop, (∃ m, W 0 m (upd H1 D (.lst []))) ∧ ∀ i m H, W i m H →
      (J.stop i H ∧ Qd H) ∨ (J.go i H ∧ ∃ Nx : Hp → Prop, (∀ H', Nx H' → ∃ m', m' < m ∧ W (i + 1) m' H') ∧ ∀ x H', J.yld i H x H' → gName k x σ0 H' fun σ2 H2 => wipe σ2 vs = σ0 ∧ tYes σ2 H2 fun b H3 =>
        if b = true then tHide te σ2 H3 fun y H4 => ∃ acc, H4 D = some (.lst acc) ∧ acc.length < sizeLine ∧ Nx (upd H4 D (.lst (acc ++ [y]))) else Nx H3) := by
  have hl := hp.length
  refine lc_n w (fun H i y => ∀ x, xs[i]? = some x → R H (f x) y) (fun i => i) (fun H H' i y s r x e => hm _ _ _ _ s (r x e)) hD hn hG hw (fun i v H H' hi y Hx sx Q hQ => ?_) hY_at fun H ys s h p => hd H ys s h ?_
  · obtain ⟨x, hx1, hx2⟩ := Paired.getR hp y.2
    exact hs x v Hx (List.mem_of_getElem? hx1) hx2 sx Q fun y H4 s r => hQ y H4 s fun x' e => by rw [hx1] at e; cases e; exact r
  · rw [← hl] at p
    exact Paired.ofIx p
/-- over data; target: a, b, c -/
theorem lc_L3 {J : It} {G : Hp → Prop} {α β : Type} {xs : List α} {ws : List V} (w : Walk J ws.length G (YAt ws)) {te : TE} {vs : List Nat} {σ0 : L2.St} {H1 : Hp} {D : Addr} {Qd : Hp → Prop} {k l m0 : Nat} {K : PySem.W.Frag}
    {Rs : RD α} (hp : Paired (Rs H1) xs ws) (R : RD β) (f : α → β) (hm : Mo R) (hD : H1 D = none) (hn : ws.length ≤ sizeLine) (hG : ∀ H, Same H1 H → G H)
    (hw : ∀ x y z, wipe (((σ0.set k (some x)).set l (some y)).set m0 (some z)) vs = σ0)
    (hs : ∀ x v, x ∈ xs → Rs H1 x v → ∃ a p q r, v = .ref a ∧ SqT K H1 a [p, q, r] ∧ ∀ Hx, Same H1 Hx → ∀ Q : VK, (∀ y H4, Same Hx H4 → R H4 (f x) y → Q y H4) → te (((σ0.set k (some p)).set l (some q)).set m0 (some r)) Hx Q)
    (hd : ∀ H ys, Same H1 H → H D = some (.lst ys) → Paired (R H) (xs.map f) ys → Qd H) :
    ∃ W : Nat → Nat → Hp → Prop, (∃ m, W 0 m (upd H1 D (.lst []))) ∧ ∀ i m H, W i m H →
      (J.stop i H ∧ Qd H) ∨ (J.go i H ∧ ∃ Nx : Hp → Prop, (∀ H', Nx H' → ∃ m', m' < m ∧ W (i + 1) m' H') ∧ ∀ x H', J.yld i H x H' → gTup K 3 (gCons (gName k) (gCons (gName l) (gCons (gName m0) gNil))) x σ0 H' fun σ2 H2 => wipe σ2 vs = σ0 ∧ tYes σ2 H2 fun b H3 =>
        if b = true then tHide te σ2 H3 fun y H4 => ∃ acc, H4 D = some (.lst acc) ∧ acc.length < sizeLine ∧ Nx (upd H4 D (.lst (acc ++ [y]))) else Nx H3) := by
  have hl := hp.length
  refine lc_3 w (fun H i y => ∀ x, xs[i]? = some x → R H (f x) y) (fun i => i) (fun H H' i y s r x e => hm _ _ _ _ s (r x e)) hD hn hG hw (fun i v H H' hi s1 y => ?_) hY_at fun H ys s h p => hd H ys s h ?_
  · obtain ⟨x, hx1, hx2⟩ := Paired.getR hp y.2
    obtain ⟨a, p, q, r, rfl, h1, h2⟩ := hs x v (List.mem_of_getElem? hx1) hx2
    exact ⟨a, p, q, r, rfl, by rw [y.1]; exact (Le.of s1).sT h1, fun Hx sx Q hQ => h2 Hx sx Q fun y H4 s r => hQ y H4 s fun x' e => by rw [hx1] at e; cases e; exact r⟩
  · rw [← hl] at p
    exact Paired.ofIx p
/-- a list in the making at D, of data -/
def Made {β : Type} (D : Addr) (R : RD β) (H1 : Hp) (bs : List β) (H : Hp) : Prop := Same H1 H ∧ ∃ ys, H D = some (.lst ys) ∧ Paired (R (hid (one1 D ys) H)) bs ys
section
variable {β : Type} {D : Addr} {R : RD β} {H1 H H' : Hp} {bs : List β}
theorem Made.nil (hD : H1 D = none) : Made D R H1 [] (upd H1 D (.lst [])) := ⟨Same.new hD, [], upd_same, .nil⟩
theorem hid_le {H H' : Hp} {D : Addr} {ys zs : List V} (s : Same H H') : Le (hid (one1 D ys) H) (hid (one1 D zs) H') := fun b o e n => by
  by_cases hb : b = D
  · subst hb
    rw [hid_on one1_on] at e
    cases e
    exact absurd rfl (n _)
  · rw [hid_off (one1_off hb)] at e ⊢
    exact s b o e
theorem Made.same (hm : Mo R) (M : Made D R H1 bs H) (s : Same H H') : Made D R H1 bs H' := by
  obtain ⟨s1, ys, h1, h2⟩ := M
  exact ⟨Same.trans s1 s, ys, s _ _ h1, pmap h2 fun _ _ r => hm _ _ _ _ (hid_le s) r⟩
theorem Made.done (hm : Mo R) (M : Made D R H1 bs H) : ∃ ys, H D = some (.lst ys) ∧ Paired (R H) bs ys := by
  obtain ⟨s1, ys, h1, h2⟩ := M
  refine ⟨ys, h1, pmap h2 fun _ _ r => hm _ _ _ _ (fun b o e n => ?_) r⟩
  by_cases hb : b = D
  · subst hb
    rw [hid_on one1_on] at e
    cases e
    exact absurd rfl (n _)
  · rw [hid_off (one1_off hb)] at e
    exact e
theorem Made.push {c : β} {te : TE} {σ : L2.St} {Kx : Hp → Prop} (hD : H1 D = none) (hm : Mo R) (M : Made D R H1 bs H) (hl : bs.length < sizeLine)
    (h : ∀ Hx, Same H1 Hx → (∀ b o, H b = some o → b ≠ D → Hx b = some o) → ∀ Q : VK, (∀ y H4, Same Hx H4 → R H4 c y → Q y H4) → te σ Hx Q) (hk : ∀ H, Made D R H1 (bs ++ [c]) H → Kx H) :
    tHide te σ H fun y H4 => ∃ acc, H4 D = some (.lst acc) ∧ acc.length < sizeLine ∧ Kx (upd H4 D (.lst (acc ++ [y]))) := by
  obtain ⟨s1, ys, h1, h2⟩ := M
  have hZ : ∀ a xs, one1 D ys a = some xs → H a = some (.lst xs) := fun a xs z => by obtain ⟨rfl, rfl⟩ := one1_eq z; exact h1
  have hZ1 : ∀ a xs, one1 D ys a = some xs → H1 a = none := fun a xs z => by obtain ⟨rfl, rfl⟩ := one1_eq z; exact hD
  refine ⟨one1 D ys, hZ, h _ (Same.hid s1 hZ1) (fun b o e hb => by rw [hid_off (one1_off hb)]; exact e) _ fun y H4 s4 r => ?_⟩
  have h4 : H4 D = some (.ext (phiL D ys)) := s4 _ _ (hid_on one1_on)
  have l4 : Le H4 (hid (one1 D (ys ++ [y])) (upd (shw (one1 D ys) H4) D (.lst (ys ++ [y])))) := fun b o e n => by
    by_cases hb : b = D
    · subst hb
      rw [h4] at e
      cases e
      exact absurd rfl (n _)
    · rw [hid_off (one1_off hb), upd_ne hb, shw_off (one1_off hb)]
      exact e
  refine ⟨fun a xs z => by obtain ⟨rfl, rfl⟩ := one1_eq z; exact h4, ys, shw_on one1_on, by rw [← h2.length]; exact hl, hk _ ⟨Same.upd (Same.shw (Same.trans (Same.hid s1 hZ1) s4) hZ1) hD, _, upd_same, ?_⟩⟩
  exact Paired.append (pmap h2 fun a b q => hm _ _ _ _ (Le.trans (Le.of s4) l4) q) (.cons (hm _ _ _ _ l4 r) .nil)
end
/-- the loops of a comprehension with two clauses -/
theorem lc2_in {J : It} {n : Nat} {G : Hp → Prop} {Y : Nat → Hp → V → Hp → Prop} (w : Walk J n G Y) {g : TG} {tt : TT} {te : TE} {vs : List Nat} {σ0 : L2.St} {H0 : Hp} {D : Addr} {Qd : Hp → Prop} (Pv : Nat → Hp → Prop) (h0 : Pv 0 H0) (hG : ∀ i H, i ≤ n → Pv i H → G H)
    (hs : ∀ i x H H', i < n → Pv i H → Y i H x H' → g x σ0 H' fun σ2 H2 => wipe σ2 vs = σ0 ∧ tt σ2 H2 fun b H3 =>
      if b = true then te σ2 H3 fun y H4 => ∃ acc, H4 D = some (.lst acc) ∧ acc.length < sizeLine ∧ Pv (i + 1) (upd H4 D (.lst (acc ++ [y]))) else Pv (i + 1) H3) (hd : ∀ H, Pv n H → Qd H) :
    ∃ W : Nat → Nat → Hp → Prop, (∃ m, W 0 m H0) ∧ ∀ i m H, W i m H →
      (J.stop i H ∧ Qd H) ∨ (J.go i H ∧ ∃ Nx : Hp → Prop, (∀ H', Nx H' → ∃ m', m' < m ∧ W (i + 1) m' H') ∧ ∀ x H', J.yld i H x H' → g x σ0 H' fun σ2 H2 => wipe σ2 vs = σ0 ∧ tt σ2 H2 fun b H3 =>
        if b = true then te σ2 H3 fun y H4 => ∃ acc, H4 D = some (.lst acc) ∧ acc.length < sizeLine ∧ Nx (upd H4 D (.lst (acc ++ [y]))) else Nx H3) := by
  refine ⟨fun i m H => m = n - i ∧ i ≤ n ∧ Pv i H, ⟨n, by simp, Nat.zero_le _, h0⟩, ?_⟩
  rintro i m H ⟨rfl, hi, p⟩
  have q := hG i H hi p
  by_cases hlt : i < n
  · refine .inr ⟨w.goes i H hlt q, Pv (i + 1), fun H' p' => ⟨n - (i + 1), by omega, rfl, hlt, p'⟩, fun x H' y => hs i x H H' hlt p (w.yields i H x H' hlt q y)⟩
  · have e : i = n := by omega
    subst e
    exact .inl ⟨w.stops H q, hd H p⟩
section
variable {X : Cx} {elt tg iter tg1 iter1 : Expr} {scope : Scope} {pos : Pos} {wi : TI} {g g1 : TG}
theorem pe_lc2A (own : List (Str × Nat)) (vs1 : List Nat) (hc : X.calm = true) (hN : X.N.Nodup) (hi : PI X tg iter wi) (ok : BlkOk X.N X.env.scope scope own) (hv : ∀ i ∈ vs1, i ∈ own.map (·.2))
    (hg : ∀ (s : Shared) (H : Hp) (C : Addr) (cl : List (Str × Addr)) (fp : List Addr), PG (X.blk s H scope (compEnvC scope cl C X.env) fp) tg g)
    (hg1 : ∀ (s : Shared) (H : Hp) (C : Addr) (cl : List (Str × Addr)) (fp : List Addr), PG (X.blk s H scope (compEnvC scope cl C X.env) fp) tg1 g1)
    (hs : ∀ x, foldedSetIterable iter X.env x = pure x := by intro _; rfl) (hs1 : ∀ env x, foldedSetIterable iter1 env x = pure x := by intro _ _; rfl) :
    PE X (.ListComp elt [⟨tg, iter, [], 0⟩, ⟨tg1, iter1, [], 0⟩] scope pos) (uLc2 wi g tYes (iAll X scope tg1 iter1) g1 tYes (tHide (tAll X scope elt)) (own.map (·.2)) vs1) :=
  uLc2_eq ▸ pe_lc2 hc hN hi ok hv hg (fun _ _ _ _ _ => pts_nil) (fun s H C cl fp => pi_all s H C cl fp) hg1 (fun _ _ _ _ _ => pts_nil) (fun s H C cl fp => pe_hide (pe_all s H C cl fp)) hs hs1
end
theorem Paired.ofKept {α β : Type} {R : β → V → Prop} {xs : List α} {f : α → β} {q : α → Bool} {keep : Nat → Bool} (hk : ∀ i x, xs[i]? = some x → keep i = q x) :
    ∀ (n : Nat) (ys : List V), n ≤ xs.length → Paired (fun i y => ∀ x, xs[i]? = some x → R (f x) y) (keptTo keep n) ys → Paired R (((xs.take n).filter q).map f) ys
  | 0, ys, _, p => by
    cases p
    exact .nil
  | n + 1, ys, hn, p => by
    have hx : n < xs.length := hn
    have e : xs.take (n + 1) = xs.take n ++ [xs[n]] := (List.take_append_getElem hx).symm
    have hk' := hk n xs[n] (List.getElem?_eq_getElem hx)
    rw [keptTo_succ] at p
    rw [e, List.filter_append, List.map_append]
    cases hq : keep n with
    | false =>
      rw [hq] at p
      simp only [Bool.false_eq_true, if_false, List.append_nil] at p
      have : List.filter q [xs[n]] = [] := by simp [← hk', hq]
      rw [this, List.map_nil, List.append_nil]
      exact Paired.ofKept hk n ys (Nat.le_of_lt hx) p
    | true =>
      rw [hq] at p
      simp only [if_true] at p
      obtain ⟨zs, z, rfl, p1, p2⟩ := Paired.app_inv p
      have : List.filter q [xs[n]] = [xs[n]] := by simp [← hk', hq]
      rw [this]
      exact Paired.append (Paired.ofKept hk n zs (Nat.le_of_lt hx) p1) (.cons (p2 _ (List.getElem?_eq_getElem hx)) .nil)
/-- over data with a test; target: one name -/
theorem lc_F1 {J : It} {G : Hp → Prop} {α β : Type} {xs : List α} {ws : List V} (w : Walk J ws.length G (YAt ws)) {te : TE} {tt : TT} {vs : List Nat} {σ0 : L2.St} {H1 : Hp} {D : Addr} {Qd : Hp → Prop} {k : Nat}
    {Rs : RD α} (hp : Paired (Rs H1) xs ws) (R : RD β) (q : α → Bool) (f : α → β) (hm : Mo R) (hD : H1 D = none) (hn : ws.length ≤ sizeLine) (hG : ∀ H, Same H1 H → G H)
    (hw : ∀ x, wipe (σ0.set k (some x)) vs = σ0)
    (ht : ∀ x v H, x ∈ xs → Rs H1 x v → Same H1 H → ∀ Q : Bool → Hp → Prop, (∀ H3, Same H H3 → Q (q x) H3) → tt (σ0.set k (some v)) H Q)
    (hs : ∀ x v Hx, x ∈ xs → q x = true → Rs H1 x v → Same H1 Hx → ∀ Q : VK, (∀ y H4, Same Hx H4 → R H4 (f x) y → Q y H4) → te (σ0.set k (some v)) Hx Q)
    (hd : ∀ H ys, Same H1 H → H D = some (.lst ys) → Paired (R H) ((xs.filter q).map f) ys → Qd H) :
    ∃ W : Nat → Nat → Hp → Prop, (∃ m, W 0 m (upd H1 D (.lst []))) ∧ ∀ i m H, W i m H →
      (J.stop i H ∧ Qd H) ∨ (J.go i H ∧ ∃ Nx : Hp → Prop, (∀ H', Nx H' → ∃ m', m' < m ∧ W (i + 1) m' H') ∧ ∀ x H', J.yld i H x H' → gName k x σ0 H' fun σ2 H2 => wipe σ2 vs = σ0 ∧ tt σ2 H2 fun b H3 =>
        if b = true then tHide te σ2 H3 fun y H4 => ∃ acc, H4 D = some (.lst acc) ∧ acc.length < sizeLine ∧ Nx (upd H4 D (.lst (acc ++ [y]))) else Nx H3) := by
  have hl := hp.length
  refine lc_data w (fun i => (xs[i]?.map q).getD false) (fun H i y => ∀ x, xs[i]? = some x → R H (f x) y) (fun H H' i y s r x e => hm _ _ _ _ s (r x e)) hD hn hG ?_ (fun i x H H' hi y _ => hY_at i x H H' hi y) ?_
  · intro i v H H' hi s1 s2 _ y Kq N hN hK
    obtain ⟨x, hx1, hx2⟩ := Paired.getR hp y.2
    have hx := List.mem_of_getElem? hx1
    have hkx : (xs[i]?.map q).getD false = q x := by rw [hx1]; rfl
    refine ⟨hw v, ht x v H' hx hx2 s2 _ fun H3 s3 => ?_⟩
    cases hq : q x with
    | false => exact iteF (hN H3 s3 (hkx.trans hq))
    | true =>
      exact iteT (hK _ _ s3 (hkx.trans hq) fun Hx sx _ Q hQ => hs x v Hx hx hq hx2 sx Q fun y H4 s r => hQ y H4 s fun x' e => by rw [hx1] at e; cases e; exact r)
  · intro H ys s hys hp'
    rw [← hl] at hp'
    have := Paired.ofKept (R := R H) (f := f) (q := q) (fun i x e => by rw [e]; rfl) xs.length ys (Nat.le_refl _) hp'
    rw [List.take_length] at this
    exact hd H ys s hys this
/-- .. target: a, b -/
theorem lc_F2 {J : It} {G : Hp → Prop} {α β : Type} {xs : List α} {ws : List V} (w : Walk J ws.length G (YAt ws)) {te : TE} {tt : TT} {vs : List Nat} {σ0 : L2.St} {H1 : Hp} {D : Addr} {Qd : Hp → Prop} {k l : Nat} {K : PySem.W.Frag}
    {Rs : RD α} (hp : Paired (Rs H1) xs ws) (R : RD β) (q : α → Bool) (f : α → β) (hm : Mo R) (hD : H1 D = none) (hn : ws.length ≤ sizeLine) (hG : ∀ H, Same H1 H → G H)
    (hw : ∀ x y, wipe ((σ0.set k (some x)).set l (some y)) vs = σ0)
    (ht : ∀ x v, x ∈ xs → Rs H1 x v → ∃ a p r, v = .ref a ∧ SqT K H1 a [p, r] ∧ (∀ H, Same H1 H → ∀ Q : Bool → Hp → Prop, (∀ H3, Same H H3 → Q (q x) H3) → tt ((σ0.set k (some p)).set l (some r)) H Q) ∧
      (q x = true → ∀ Hx, Same H1 Hx → ∀ Q : VK, (∀ y H4, Same Hx H4 → R H4 (f x) y → Q y H4) → te ((σ0.set k (some p)).set l (some r)) Hx Q))
    (hd : ∀ H ys, Same H1 H → H D = some (.lst ys) → Paired (R H) ((xs.filter q).map f) ys → Qd H) :
    ∃ W : Nat → Nat → Hp → Prop, (∃ m, W 0 m (upd H1 D (.lst []))) ∧ ∀ i m H, W i m H →
      (J.stop i H ∧ Qd H) ∨ (J.go i H ∧ ∃ Nx : Hp → Prop, (∀ H', Nx H' → ∃ m', m' < m ∧ W (i + 1) m' H') ∧ ∀ x H', J.yld i H x H' → gTup K 2 (gCons (gName k) (gCons (gName l) gNil)) x σ0 H' fun σ2 H2 => wipe σ2 vs = σ0 ∧ tt σ2 H2 fun b H3 =>
        if b = true then tHide te σ2 H3 fun y H4 => ∃ acc, H4 D = some (.lst acc) ∧ acc.length < sizeLine ∧ Nx (upd H4 D (.lst (acc ++ [y]))) else Nx H3) := by
  have hl := hp.length
  refine lc_data w (fun i => (xs[i]?.map q).getD false) (fun H i y => ∀ x, xs[i]? = some x → R H (f x) y) (fun H H' i y s r x e => hm _ _ _ _ s (r x e)) hD hn hG ?_ (fun i x H H' hi y _ => hY_at i x H H' hi y) ?_
  · intro i v H H' hi s1 s2 _ y Kq N hN hK
    obtain ⟨x, hx1, hx2⟩ := Paired.getR hp y.2
    have hx := List.mem_of_getElem? hx1
    have hkx : (xs[i]?.map q).getD false = q x := by rw [hx1]; rfl
    obtain ⟨a, p, r, rfl, h1, h2, h3⟩ := ht x v hx hx2
    refine ⟨a, _, rfl, (Le.of s2).sT h1, rfl, p, _, rfl, r, _, rfl, rfl, hw p r, h2 H' s2 _ fun H3 s3 => ?_⟩
    cases hq : q x with
    | false => exact iteF (hN H3 s3 (hkx.trans hq))
    | true =>
      exact iteT (hK _ _ s3 (hkx.trans hq) fun Hx sx _ Q hQ => h3 hq Hx sx Q fun y H4 s r => hQ y H4 s fun x' e => by rw [hx1] at e; cases e; exact r)
  · intro H ys s hys hp'
    rw [← hl] at hp'
    have := Paired.ofKept (R := R H) (f := f) (q := q) (fun i x e => by rw [e]; rfl) xs.length ys (Nat.le_refl _) hp'
    rw [List.take_length] at this
    exact hd H ys s hys this
theorem Paired.perm {α β : Type} {F : α → β → Prop} {ys zs : List β} (h : ys.Perm zs) : ∀ {xs : List α}, Paired F xs ys → ∃ xs', xs'.Perm xs ∧ Paired F xs' zs := by
  induction h with
  | nil => intro xs p; exact ⟨xs, .refl _, p⟩
  | cons b _ ih =>
    intro xs p
    cases p with
    | cons r t =>
      obtain ⟨xs', q, p'⟩ := ih t
      exact ⟨_ :: xs', .cons _ q, .cons r p'⟩
  | swap a b l =>
    intro xs p
    cases p with
    | cons r t =>
      cases t with
      | cons r2 t2 => exact ⟨_, .swap _ _ _, .cons r2 (.cons r t2)⟩
  | trans _ _ ih1 ih2 =>
    intro xs p
    obtain ⟨xs', q, p'⟩ := ih1 p
    obtain ⟨xs'', q', p''⟩ := ih2 p'
    exact ⟨xs'', q'.trans q, p''⟩
theorem Paired.swap {α β : Type} {F : α → β → Prop} : ∀ {xs : List α} {ys : List β}, Paired F xs ys → Paired (fun y x => F x y) ys xs
  | _, _, .nil => .nil
  | _, _, .cons r t => .cons r (Paired.swap t)
theorem atI_map {α : Type} {f : α → V} {xs : List α} {z : Int} {i : Nat} (d : α) (h : i < xs.length) (e : z = i) : atI (xs.map f) z = some (f (xs.getD i d)) := by
  subst e
  refine atI_nat ?_
  rw [List.getElem?_map, List.getElem?_eq_getElem h]
  simp [h]
theorem atI_of {α : Type} {xs : List α} {z : Int} {i : Nat} {v : α} (h : xs[i]? = some v) (e : z = i) : atI xs z = some v := by
  subst e
  exact atI_nat h
theorem Same.sT {K : PySem.W.Frag} {H H' : Hp} {a : Addr} {xs : List V} (e : Same H H') (h : SqT K H a xs) : SqT K H' a xs := (Le.of e).sT h
theorem Same.sL {K : PySem.W.Frag} {H H' : Hp} {a : Addr} {xs : List V} (e : Same H H') (h : SqL K H a xs) : SqL K H' a xs := (Le.of e).sL h
theorem lsz {n m : Nat} (h : n ≤ m) (hm : m ≤ 1000000 := by first | decide | omega) : n ≤ sizeLine := Nat.le_trans h (Nat.le_trans hm (by decide))
/-- a list of data, mapped -/
theorem map_range_getD {α β : Type} (xs : List α) (d : α) (f : α → β) : (List.range xs.length).map (fun i => f (xs.getD i d)) = xs.map f := by
  apply List.ext_getElem
  · simp
  · intro i h1 h2
    simp at h1
    simp [h1]
end W5
set_option maxHeartbeats 4000000
/-! W5P: the module polys. -/
namespace W5
open PySem L2 K5
/-! ### terms and polynomials as data -/
def T3 (K : PySem.W.Frag) : RD Tm := fun H t v => ∃ a, v = .ref a ∧ SqT K H a [.int t.1, .int t.2.1, .int t.2.2]
theorem Mo.t3 {K : PySem.W.Frag} : Mo (T3 K) := fun H H' x v s ⟨a, e, q⟩ => ⟨a, e, s.sT q⟩
def Pl (K : PySem.W.Frag) : RD K5.C := fun H f v => ∃ ts, Ls K (T3 K) H ts v ∧ Norm ts ∧ cf ts = f
theorem Mo.pl {K : PySem.W.Frag} : Mo (Pl K) := fun H H' x v s ⟨ts, a, b, c⟩ => ⟨ts, Mo.ls Mo.t3 _ _ _ _ s a, b, c⟩
def keyP (i j : Nat) : List Key := [Sum.inl (i : Int), Sum.inl (j : Int)]
theorem keyP_inj {i j k l : Nat} (h : keyP i j = keyP k l) : i = k ∧ j = l := by
  simp only [keyP, List.cons.injEq, Sum.inl.injEq, Int.natCast_inj, and_true] at h
  exact h
/-- the dict of sums behind some terms -/
structure DInv (kvs : List (List Key × V)) (ts : List Tm) : Prop where
  val : ∀ i j : Nat, (valV kvs (keyP i j) = none ∧ cf ts i j = 0) ∨ valV kvs (keyP i j) = some (.int (cf ts i j))
  keys : ∀ k ∈ kvs.map (·.1), ∃ i j : Nat, k = keyP i j
  nd : (kvs.map (·.1)).Nodup
  len : kvs.length ≤ ts.length
theorem DInv.nil : DInv [] [] := ⟨fun i j => .inl ⟨rfl, rfl⟩, fun k h => (List.not_mem_nil h).elim, List.nodup_nil, Nat.le_refl _⟩
theorem mem_putK {κ : Type} [DecidableEq κ] {kvs : List (κ × V)} {k x : κ} {v : V} (h : x ∈ (putK kvs k v).map (·.1)) : x = k ∨ x ∈ kvs.map (·.1) := by
  cases e : valV kvs k with
  | none =>
    rw [putK_new v e] at h
    simp only [List.map_append, List.map_cons, List.map_nil, List.mem_append, List.mem_singleton] at h
    exact h.elim .inr .inl
  | some y =>
    obtain ⟨p, hp, rfl⟩ := List.mem_map.mp h
    unfold putK at hp
    split at hp
    · obtain ⟨r, hr, rfl⟩ := List.mem_map.mp hp
      right
      refine List.mem_map.mpr ⟨r, hr, ?_⟩
      by_cases c : r.1 = k
      · simp [c]
      · simp [c]
    · simp only [List.mem_append, List.mem_singleton] at hp
      rcases hp with hp | rfl
      · exact .inr (List.mem_map_of_mem hp)
      · exact .inl rfl
theorem nd_putK' {κ : Type} [DecidableEq κ] {kvs : List (κ × V)} {k : κ} (v : V) (hn : (kvs.map (·.1)).Nodup) : ((putK kvs k v).map (·.1)).Nodup := by
  cases e : valV kvs k with
  | none => exact nd_putK v hn e
  | some y =>
    have : (putK kvs k v).map (·.1) = kvs.map (·.1) := by
      unfold putK
      have ha : (kvs.any fun kv => decide (kv.1 = k)) = true := by rw [valV_any, e]; rfl
      rw [if_pos ha, List.map_map]
      apply List.map_congr_left
      intro a _
      by_cases c : a.1 = k
      · simp [c]
      · simp [c]
    rw [this]
    exact hn
theorem DInv.put {kvs : List (List Key × V)} {ts : List Tm} (h : DInv kvs ts) (t : Tm) : DInv (putK kvs (keyP t.1 t.2.1) (.int (cf ts t.1 t.2.1 + t.2.2))) (ts ++ [t]) := by
  refine ⟨fun i j => ?_, fun k hk => ?_, nd_putK' _ h.nd, ?_⟩
  · rw [valV_put, cf_snoc]
    by_cases e : t.1 = i ∧ t.2.1 = j
    · obtain ⟨rfl, rfl⟩ := e
      rw [if_pos rfl, if_pos ⟨rfl, rfl⟩]
      exact .inr rfl
    · rw [if_neg (fun q => e (keyP_inj q.symm)), if_neg e, Int.add_zero]
      exact h.val i j
  · rcases mem_putK hk with rfl | hk
    · exact ⟨_, _, rfl⟩
    · exact h.keys k hk
  · have := length_putK kvs (keyP t.1 t.2.1) (.int (cf ts t.1 t.2.1 + t.2.2))
    have := h.len
    rw [List.length_append]
    simp only [List.length_singleton]
    omega
section
variable {P : Program} {w : World} {K : PySem.W.Frag} {mg : Str → Option Value} {base : Heap}
theorem ints3 {a b c : Int} : ([V.int a, V.int b, V.int c] : List V) = [.int a, .int b, .int c] := rfl
/-! ### collected -/
def spCollected (K : PySem.W.Frag) : Sp := fun vs H Q _ => ∃ v ts, vs = [v] ∧ Ls K (T3 K) H ts v ∧ ts.length ≤ 20000 ∧ ∀ v' H', Same H H' → Pl K H' (cf ts) v' → Q v' H'
abbrev nCollected : List Str := ["terms", "sums", "i", "j", "c"]
theorem scCollected : FnScope nCollected ["terms"] (defScope (top 17)) := ⟨rfl, rfl, rfl, by decide +kernel, rfl, by decide +kernel, by decide +kernel⟩
theorem c_collected (F : Df K mg "collected" (top 17)) (T : Bn mg) : Cal P w K mg base 1 "collected" (spCollected K) := by
  refine F.cal scCollected (fun _ _ _ _ _ _ us hl => match us, hl with | [_], _ => rfl) (fun vs H Q E h => ?_) (fun cdv A outer f s H vs Q E hr h => ?_)
  · obtain ⟨v, t, rfl, _⟩ := h
    rfl
  · obtain ⟨v, ts, rfl, ⟨a, ws, rfl, hq, hp⟩, hlen, k⟩ := h
    have hu := hu_of hr
    have hl := hp.length
    refine ⟨_, pss_cons (ps_set (i := 1) scCollected.nd rfl (Or.inr rfl) pe_dnewT)
      (pss_cons (ps_for PassesOwn.never rfl (pi_list (pv 0)) (pg_3K rfl (pg_n 2 scCollected.nd) (pg_n 3 scCollected.nd) (pg_n 4 scCollected.nd))
        (pss_one (ps_dput hu (pv 1) (pe_tup (pa_cons (pv 2) (pa_cons (pv 3) pa_nil))) (pe_op op_add (pe_dget2 hu (pv 1) (pe_tup (pa_cons (pv 2) (pa_cons (pv 3) pa_nil))) pe_int ⟨rfl, rfl, rfl, rfl⟩) (pv 4)) rfl)))
      (pss_one (ps_ret (pe_lcI [("i", 2), ("j", 3)] rfl scCollected.nd (pi_list (pe_callB cr_sortedP (by rfl) T.bsorted (by decide +kernel) (pa_cons (pe_callTy (call_list_dT rfl) (by rfl) T.blist (by decide +kernel) (pa_cons (pv 1) pa_nil)) pa_nil)))
        (blkOk_by (N := nCollected) (sc := defScope (top 17)) (by decide +kernel)) (fun _ _ _ _ _ => pg_2K rfl (pg_n 2 scCollected.nd) (pg_n 3 scCollected.nd)))))), ?_⟩
    intro d hd
    have s0 : Same H (upd H d (.dT [])) := Same.new hd
    refine ⟨_, rfl, a, rfl, ⟨_, Same.sL s0 hq⟩, for_it (walk_list (xs := ws)) (fun i σ H' => ∃ x y z kvs, σ = [some (.ref a), some (.ref d), x, y, z] ∧ Same H H' ∧ H' d = some (.dT kvs) ∧ DInv kvs (ts.take i))
      ⟨none, none, none, [], rfl, s0, upd_same, DInv.nil⟩ (fun i σ H' _ ⟨_, _, _, _, _, s1, _⟩ => Same.sL s1 hq) ?_ ?_⟩
    · rintro i v σ H1 H1' hi ⟨x, y, z, kvs, rfl, s1, hd1, D⟩ ⟨rfl, hv⟩
      obtain ⟨t, ht, b, rfl, hb⟩ := Paired.getR hp hv
      have hb1 : SqT K H1' b _ := Same.sT s1 hb
      have hi' : i < ts.length := by omega
      have et : ts.take (i + 1) = ts.take i ++ [t] := by
        rw [List.take_succ, ht]; rfl
      have hsz : kvs.length < sizeLine := Nat.lt_of_le_of_lt (Nat.le_trans D.len (Nat.le_trans (by rw [List.length_take]; omega) hlen)) (by decide)
      refine ⟨b, _, rfl, hb1, rfl, _, _, rfl, _, _, rfl, _, _, rfl, rfl, ?_⟩
      refine ⟨_, rfl, d, rfl, .inr ⟨kvs, .inl hd1⟩, _, rfl, _, rfl, (by show 2 ≤ sizeLine; decide), fun p np => ?_⟩
      have hd2 : (upd H1' p (.tup [.int t.1, .int t.2.1])) d = some (.dT kvs) := by rw [upd_ne (ne_of_none hd1 np)]; exact hd1
      refine ⟨_, DGet.t (k := keyP t.1 t.2.1) hd2 upd_same, _, rfl, cf ts.dropLast t.1 t.2.1 * 0 + cf (ts.take i) t.1 t.2.1, t.2.2, ?_, rfl, ?_⟩
      · rcases D.val t.1 t.2.1 with ⟨e, e2⟩ | e <;> rw [e]
        · rw [e2]; simp
        · simp
      · refine ⟨_, rfl, _, rfl, _, rfl, (by show 2 ≤ sizeLine; decide), fun p2 np2 => ?_⟩
        have hd3 : (upd (upd H1' p (.tup [.int t.1, .int t.2.1])) p2 (.tup [.int t.1, .int t.2.1])) d = some (.dT kvs) := by rw [upd_ne (ne_of_none hd2 np2)]; exact hd2
        refine ⟨d, _, rfl, DPut.t (k := keyP t.1 t.2.1) hd3 upd_same hsz, ?_⟩
        refine ⟨_, _, _, _, rfl, ?_, upd_same, ?_⟩
        · exact Same.upd (Same.trans s1 (Same.trans (Same.new np) (Same.new np2))) hd
        · rw [et]
          have := D.put t
          simpa using this
    · rintro σ H1 ⟨x, y, z, kvs, rfl, s1, hd1, D⟩
      rw [← hl, List.take_length] at D
      refine ⟨[some (.ref a), some (.ref d), none, none, z], rfl, _, rfl, d, kvs, rfl, .inl hd1, fun p bs np hk => ?_⟩
      -- the keys as data
      obtain ⟨ps, hps, hps2⟩ : ∃ ps : List (Nat × Nat), ps.map (fun q => keyP q.1 q.2) = kvs.map (·.1) ∧ True := by
        have : ∀ l : List (List Key), (∀ k ∈ l, ∃ i j : Nat, k = keyP i j) → ∃ ps : List (Nat × Nat), ps.map (fun q => keyP q.1 q.2) = l := by
          intro l
          induction l with
          | nil => intro _; exact ⟨[], rfl⟩
          | cons k l ih =>
            intro h
            obtain ⟨i, j, rfl⟩ := h k (by simp)
            obtain ⟨ps, e⟩ := ih fun k hk => h k (by simp [hk])
            exact ⟨(i, j) :: ps, by rw [List.map_cons, e]⟩
        obtain ⟨ps, e⟩ := this _ D.keys
        exact ⟨ps, e, trivial⟩
      have hnd : ps.Nodup := by
        have := D.nd
        rw [← hps, List.nodup_iff_pairwise_ne, List.pairwise_map] at this
        rw [List.nodup_iff_pairwise_ne]
        exact this.imp fun h q => h (by rw [q])
      have hpk : Paired (fun (q : Nat × Nat) (x : V) => ∃ b, x = .ref b ∧ H1 b = some (.tup [.int q.1, .int q.2])) ps (bs.map V.ref) := by
        have : ∀ (kvs : List (List Key × V)) (bs : List Addr) (ps : List (Nat × Nat)), ps.map (fun q => keyP q.1 q.2) = kvs.map (·.1) → IsKeys H1 kvs bs →
            Paired (fun (q : Nat × Nat) (x : V) => ∃ b, x = .ref b ∧ H1 b = some (.tup [.int q.1, .int q.2])) ps (bs.map V.ref) := by
          intro kvs bs ps e h
          induction h generalizing ps with
          | nil =>
            cases ps with
            | nil => exact .nil
            | cons _ _ => cases e
          | cons r _ ih =>
            cases ps with
            | nil => cases e
            | cons q ps =>
              simp only [List.map_cons, List.cons.injEq] at e
              refine .cons ⟨_, rfl, ?_⟩ (ih ps e.2)
              rw [r, ← e.1]
              rfl
        exact this kvs bs ps hps hk
      refine ⟨p, _, rfl, .of upd_same, fun x hx => ?_, fun ys p2 hperm np2 => ?_⟩
      · obtain ⟨q, b, rfl, hb⟩ := hpk.right x hx
        exact ⟨b, _, _, rfl, by rw [upd_ne (ne_of_none hb np)]; exact hb⟩
      · obtain ⟨ps', hpp, hp2⟩ := Paired.perm hperm.symm hpk
        have snew : Same H1 (upd (upd H1 p (.lst (bs.map V.ref))) p2 (.lst ys)) := Same.trans (Same.new np) (Same.new np2)
        refine ⟨p2, rfl, ⟨_, .of upd_same⟩, fun D0 hD0 => ?_⟩
        have sz : ys.length ≤ sizeLine := by
          have h1 := hp2.length
          have h2 := hpp.length_eq
          have h3 := congrArg List.length hps
          rw [List.length_map, List.length_map] at h3
          have h4 := D.len
          refine lsz (m := 20000) ?_
          omega
        refine lc_F2 (walk_list (xs := ys)) (Rs := fun H q x => ∃ b, x = .ref b ∧ H b = some (.tup [.int (q : Nat × Nat).1, .int q.2])) (pmap hp2 fun q x ⟨b, e, hb⟩ => ⟨b, e, snew _ _ hb⟩) (T3 K)
          (fun q => decide (cf ts q.1 q.2 ≠ 0)) (fun q => (q.1, q.2, cf ts q.1 q.2)) Mo.t3 hD0 sz (fun _ s => Same.sL s (.of upd_same)) (fun _ _ => rfl) ?_ ?_
        · rintro q x hq ⟨b, rfl, hb⟩
          have hval : valV kvs (keyP q.1 q.2) = some (.int (cf ts q.1 q.2)) := by
            rcases D.val q.1 q.2 with ⟨e, _⟩ | e
            · exfalso
              have : keyP q.1 q.2 ∈ kvs.map (·.1) := by
                rw [← hps]
                exact List.mem_map_of_mem (f := fun q : Nat × Nat => keyP q.1 q.2) (hpp.mem_iff.mp hq)
              exact valV_not e this
            · exact e
          refine ⟨b, _, _, rfl, .of hb, fun H2 s2 Q2 hQ2 s' H0' C cl fp => ?_, fun hne Hx sx Q2 hQ2 s' H0' C cl fp => ?_⟩
          · refine ⟨_, pt_cmpR op_ne (pe_dget hu (pv 1) (pe_tup (pa_cons (pv 2) (pa_cons (pv 3) pa_nil))) (fun _ _ => rfl)) pe_int (nomark _), ?_⟩
            refine ⟨_, rfl, _, rfl, _, rfl, (by show 2 ≤ sizeLine; decide), fun p3 np3 => ?_⟩
            have hd3 : (upd H2 p3 (.tup [.int q.1, .int q.2])) d = some (.dT kvs) := Same.new np3 _ _ (s2 _ _ (snew _ _ hd1))
            refine ⟨d, _, rfl, by rw [← hval]; exact DGet.t (k := keyP q.1 q.2) hd3 upd_same, rfl, _, rfl, ?_⟩
            have := hQ2 _ (Same.new (o := .tup [.int q.1, .int q.2]) np3)
            simpa using this
          · refine ⟨_, pe_tup (pa_cons (pv 2) (pa_cons (pv 3) (pa_cons (pe_dget hu (pv 1) (pe_tup (pa_cons (pv 2) (pa_cons (pv 3) pa_nil))) (fun _ _ => rfl)) pa_nil))), ?_⟩
            refine ⟨_, rfl, _, rfl, _, rfl, _, rfl, _, rfl, (by show 2 ≤ sizeLine; decide), fun p3 np3 => ?_⟩
            have hd3 : (upd Hx p3 (.tup [.int q.1, .int q.2])) d = some (.dT kvs) := Same.new np3 _ _ (sx _ _ (snew _ _ hd1))
            refine ⟨d, _, rfl, by rw [← hval]; exact DGet.t (k := keyP q.1 q.2) hd3 upd_same, (by show 3 ≤ sizeLine; decide), fun p4 np4 => ?_⟩
            exact hQ2 _ _ (Same.trans (Same.new np3) (Same.new np4)) ⟨p4, rfl, .of upd_same⟩
        · intro H2 zs s2 hz hpz
          refine k _ _ (Same.trans s1 (Same.trans snew s2)) ⟨atP (cf ts) ps', ⟨D0, zs, rfl, .of hz, hpz⟩, atP_norm _ (hpp.nodup_iff.mpr hnd), atP_cf _ (hpp.nodup_iff.mpr hnd) fun i j hn => ?_⟩
          rcases D.val i j with ⟨_, e⟩ | e
          · exact e
          · exfalso
            apply hn
            have h1 := valV_in e
            rw [← hps] at h1
            obtain ⟨q, hq, e2⟩ := List.mem_map.mp h1
            have e3 := keyP_inj e2
            have : q = (i, j) := by cases q; simp only [Prod.mk.injEq]; exact e3
            rw [← this]
            exact hpp.mem_iff.mpr hq
end
end W5
set_option maxHeartbeats 4000000
/-! W5P2: plus, minus, times, swapped, negated. -/
namespace W5
open PySem L2 K5
section
variable {P : Program} {w : World} {K : PySem.W.Frag} {mg : Str → Option Value} {base : Heap}
theorem Pl.terms {H : Hp} {f : K5.C} {v : V} (h : Pl K H f v) (s : Sup 64 64 f) : ∃ ts a ws, v = .ref a ∧ SqL K H a ws ∧ Paired (T3 K H) ts ws ∧ Norm ts ∧ cf ts = f ∧ ts.length ≤ 4096 ∧ ∀ t ∈ ts, t.1 < 64 ∧ t.2.1 < 64 := by
  obtain ⟨ts, ⟨a, ws, e, q, p⟩, hn, rfl⟩ := h
  exact ⟨ts, a, ws, e, q, p, hn, rfl, hn.len s, fun t ht => hn.key s ht⟩
def spPlus (K : PySem.W.Frag) : Sp := fun vs H Q _ => ∃ u v f g, vs = [u, v] ∧ Pl K H f u ∧ Pl K H g v ∧ Sup 64 64 f ∧ Sup 64 64 g ∧ ∀ v' H', Same H H' → Pl K H' (f + g) v' → Q v' H'
theorem scPlus : FnScope ["f", "g"] ["f", "g"] (defScope (top 18)) := ⟨rfl, rfl, rfl, by decide +kernel, rfl, by decide +kernel, by decide +kernel⟩
theorem c_plus (F : Df K mg "plus" (top 18)) (T : Bn mg) (C1 : Cal P w K mg base 1 "collected" (spCollected K)) : Cal P w K mg base 2 "plus" (spPlus K) := by
  refine F.cal scPlus (fun _ _ _ _ _ _ us hl => match us, hl with | [_, _], _ => rfl) (fun vs H Q E h => ?_) (fun cdv A outer f s H vs Q E hr h => ?_)
  · obtain ⟨u, v, f, g, rfl, _⟩ := h
    rfl
  · obtain ⟨u, v, f, g, rfl, hf, hg, sf, sg, k⟩ := h
    obtain ⟨ts, a, ws, rfl, qa, pa, na, rfl, la, _⟩ := hf.terms sf
    obtain ⟨us, b, xs, rfl, qb, pb, nb, rfl, lb, _⟩ := hg.terms sg
    refine ⟨_, pss_one (ps_ret (pe_c C1 hr (by decide) rfl (pa_cons (pe_op op_cat (pe_callTy call_list_of (by rfl) T.blist (by decide +kernel) (pa_cons (pv 0) pa_nil)) (pe_callTy call_list_of (by rfl) T.blist (by decide +kernel) (pa_cons (pv 1) pa_nil))) pa_nil))), ?_⟩
    refine ⟨_, rfl, a, _, rfl, .inl qa, fun l nl => ?_⟩
    refine ⟨_, rfl, b, _, rfl, .inl (Same.sL (Same.new nl) qb), fun m nm => ?_⟩
    have l1 := pa.length
    have l2 := pb.length
    refine ⟨l, m, _, _, rfl, rfl, by rw [upd_ne (ne_of_none upd_same nm)]; exact upd_same, upd_same, lsz (m := 10000) (by omega), fun p np => ?_⟩
    have s1 : Same H (upd (upd (upd H l (.lst ws)) m (.lst xs)) p (.lst (ws ++ xs))) := Same.trans (Same.new nl) (Same.trans (Same.new nm) (Same.new np))
    refine ⟨_, ts ++ us, rfl, ⟨p, _, rfl, .of upd_same, Paired.append (pmap pa fun _ _ r => Mo.t3 _ _ _ _ (Le.of s1) r) (pmap pb fun _ _ r => Mo.t3 _ _ _ _ (Le.of s1) r)⟩, by rw [List.length_append]; omega, fun v' H' s2 h2 => ?_⟩
    rw [cf_append] at h2
    exact k v' H' (Same.trans s1 s2) h2
def spMinus (K : PySem.W.Frag) : Sp := fun vs H Q _ => ∃ u v f g, vs = [u, v] ∧ Pl K H f u ∧ Pl K H g v ∧ Sup 64 64 f ∧ Sup 64 64 g ∧ ∀ v' H', Same H H' → Pl K H' (f - g) v' → Q v' H'
abbrev nMinus : List Str := ["f", "g", "i", "j", "c"]
theorem scMinus : FnScope nMinus ["f", "g"] (defScope (top 19)) := ⟨rfl, rfl, rfl, by decide +kernel, rfl, by decide +kernel, by decide +kernel⟩
theorem c_minus (F : Df K mg "minus" (top 19)) (T : Bn mg) (C1 : Cal P w K mg base 1 "collected" (spCollected K)) : Cal P w K mg base 2 "minus" (spMinus K) := by
  refine F.cal scMinus (fun _ _ _ _ _ _ us hl => match us, hl with | [_, _], _ => rfl) (fun vs H Q E h => ?_) (fun cdv A outer f s H vs Q E hr h => ?_)
  · obtain ⟨u, v, f, g, rfl, _⟩ := h
    rfl
  · obtain ⟨u, v, f, g, rfl, hf, hg, sf, sg, k⟩ := h
    obtain ⟨ts, a, ws, rfl, qa, pa, na, rfl, la, _⟩ := hf.terms sf
    obtain ⟨us, b, xs, rfl, qb, pb, nb, rfl, lb, _⟩ := hg.terms sg
    have l1 := pa.length
    have l2 := pb.length
    refine ⟨_, pss_one (ps_ret (pe_c C1 hr (by decide) rfl (pa_cons (pe_op op_cat (pe_callTy call_list_of (by rfl) T.blist (by decide +kernel) (pa_cons (pv 0) pa_nil))
      (pe_lcA [("i", 2), ("j", 3), ("c", 4)] rfl scMinus.nd (pi_list (pv 1)) (blkOk_by (N := nMinus) (sc := defScope (top 19)) (by decide +kernel)) (fun _ _ _ _ _ => pg_3K rfl (pg_n 2 scMinus.nd) (pg_n 3 scMinus.nd) (pg_n 4 scMinus.nd)))) pa_nil))), ?_⟩
    refine ⟨_, rfl, a, _, rfl, .inl qa, fun l nl => ?_⟩
    refine ⟨[some (.ref a), some (.ref b), none, none, none], rfl, _, rfl, b, rfl, ⟨_, Same.sL (Same.new nl) qb⟩, fun D nD => ?_⟩
    refine lc_L3 (walk_list (xs := xs)) (Rs := T3 K) (pmap pb fun _ _ r => Mo.t3 _ _ _ _ (Le.new nl) r) (T3 K) (fun t => (t.1, t.2.1, -t.2.2)) Mo.t3 nD (lsz (m := 10000) (by omega)) (fun _ s => Same.sL s (Same.sL (Same.new nl) qb)) (fun _ _ _ => rfl) ?_ ?_
    · rintro t v ht ⟨c, rfl, hc⟩
      refine ⟨c, _, _, _, rfl, hc, fun Hx sx Q2 hQ2 s' H0' C cl fp => ?_⟩
      refine ⟨_, pe_tup (pa_cons (pv 2) (pa_cons (pv 3) (pa_cons (pe_un un_neg (pv 4)) pa_nil))), ?_⟩
      exact ⟨_, rfl, _, rfl, _, rfl, _, rfl, (by show 3 ≤ sizeLine; decide), fun p np => hQ2 _ _ (Same.new np) ⟨p, rfl, .of upd_same⟩⟩
    · intro H2 ys s2 hD hp
      have l3 := hp.length
      rw [List.length_map] at l3
      refine ⟨l, D, _, _, rfl, rfl, s2 _ _ upd_same, hD, lsz (m := 10000) (by omega), fun p np => ?_⟩
      have s1 : Same H (upd H2 p (.lst (ws ++ ys))) := Same.trans (Same.new nl) (Same.trans s2 (Same.new np))
      refine ⟨_, ts ++ us.map (fun t => (t.1, t.2.1, -t.2.2)), rfl, ⟨p, _, rfl, .of upd_same, Paired.append (pmap pa fun _ _ r => Mo.t3 _ _ _ _ (Le.of s1) r) (pmap hp fun _ _ r => Mo.t3 _ _ _ _ (Le.new np) r)⟩, by rw [List.length_append, List.length_map]; omega, fun v' H' s3 h3 => ?_⟩
      rw [cf_append, cf_neg, ← C.sub_eq] at h3
      exact k v' H' (Same.trans s1 s3) h3
def spTimes (K : PySem.W.Frag) : Sp := fun vs H Q _ => ∃ u v g, ∃ b : Bool, vs = [u, v] ∧ Tp K (T3 K) H [if b then (1, 0, 1) else (0, 1, 1)] u ∧ Pl K H g v ∧ Sup 64 64 g ∧ ∀ v' H', Same H H' → Pl K H' (if b then shx g else shy g) v' → Q v' H'
abbrev nTimes : List Str := ["f", "g", "i", "j", "c", "k", "m", "d"]
theorem scTimes : FnScope nTimes ["f", "g"] (defScope (top 20)) := ⟨rfl, rfl, rfl, by decide +kernel, rfl, by decide +kernel, by decide +kernel⟩
theorem c_times (F : Df K mg "times" (top 20)) (T : Bn mg) (C1 : Cal P w K mg base 1 "collected" (spCollected K)) : Cal P w K mg base 2 "times" (spTimes K) := by
  refine F.cal scTimes (fun _ _ _ _ _ _ us hl => match us, hl with | [_, _], _ => rfl) (fun vs H Q E h => ?_) (fun cdv A outer f s H vs Q E hr h => ?_)
  · obtain ⟨u, v, g, b, rfl, _⟩ := h
    rfl
  · obtain ⟨u, v, g, bb, rfl, ⟨a, ws, rfl, qa, pa⟩, hg, sg, k⟩ := h
    obtain ⟨us, b, xs, rfl, qb, pb, nb, rfl, lb, _⟩ := hg.terms sg
    have l2 := pb.length
    cases pa with
    | cons ra rn =>
    cases rn
    obtain ⟨tb, rfl, qt⟩ := ra
    generalize ht0 : (if bb = true then ((1, 0, 1) : K5.Tm) else (0, 1, 1)) = t0 at qt
    have hc0 : t0.2.2 = 1 := by subst ht0; cases bb <;> rfl
    refine ⟨_, pss_one (ps_ret (pe_c C1 hr (by decide) rfl (pa_cons
      (pe_lc2A [("i", 2), ("j", 3), ("c", 4), ("k", 5), ("m", 6), ("d", 7)] [5, 6, 7] rfl scTimes.nd (pi_tup (pv 0)) (blkOk_by (N := nTimes) (sc := defScope (top 20)) (by decide +kernel)) (by decide) (fun _ _ _ _ _ => pg_3K rfl (pg_n 2 scTimes.nd) (pg_n 3 scTimes.nd) (pg_n 4 scTimes.nd))
        (fun _ _ _ _ _ => pg_3K rfl (pg_n 5 scTimes.nd) (pg_n 6 scTimes.nd) (pg_n 7 scTimes.nd))) pa_nil))), ?_⟩
    refine ⟨[some (.ref a), some (.ref b), none, none, none, none, none, none], rfl, _, rfl, a, rfl, ⟨_, qa⟩, fun D nD => ?_⟩
    refine lc2_out (walk_tup (xs := [V.ref tb])) (fun i H2 => Made D (T3 K) H (if i = 0 then [] else us.map fun t => (t0.1 + t.1, t0.2.1 + t.2.1, t0.2.2 * t.2.2)) H2) (Made.nil nD) (fun i H2 _ M => Same.sT M.1 qa) ?_ ?_
    · rintro i x H2 _ hi M ⟨rfl, hx⟩
      obtain rfl : i = 0 := by simp at hi; exact hi
      obtain rfl : x = .ref tb := by simpa using hx.symm
      refine ⟨tb, _, rfl, Same.sT M.1 qt, rfl, _, _, rfl, _, _, rfl, _, _, rfl, rfl, rfl, yes_ ?_⟩
      refine ⟨[some (.ref a), some (.ref b), some (.int t0.1), some (.int t0.2.1), some (.int t0.2.2), none, none, none], rfl, ?_⟩
      intro s' H0' C cl fp
      refine ⟨_, pi_list (pv 1), _, rfl, b, rfl, ⟨_, Same.sL M.1 qb⟩, ?_⟩
      refine lc2_in (walk_list (xs := xs)) (fun j H3 => Made D (T3 K) H ((us.take j).map fun t => (t0.1 + t.1, t0.2.1 + t.2.1, t0.2.2 * t.2.2)) H3) M (fun j H3 _ M => Same.sL M.1 qb) ?_ ?_
      · rintro j x H3 _ hj M3 ⟨rfl, hx3⟩
        obtain ⟨t, ht, c, rfl, hc⟩ := Paired.getR pb hx3
        refine ⟨c, _, rfl, Same.sT M3.1 hc, rfl, _, _, rfl, _, _, rfl, _, _, rfl, rfl, rfl, yes_ ?_⟩
        refine Made.push (c := (t0.1 + t.1, t0.2.1 + t.2.1, t0.2.2 * t.2.2)) nD Mo.t3 M3 (by rw [List.length_map, List.length_take]; exact Nat.lt_of_le_of_lt (m := 4096) (by omega) (by decide)) (fun Hx sx _ Q2 hQ2 s' H0' C cl fp => ?_) fun H4 M4 => ?_
        · refine ⟨_, pe_tup (pa_cons (pe_op op_add (pv 2) (pv 5)) (pa_cons (pe_op op_add (pv 3) (pv 6)) (pa_cons (pe_op op_mul (pv 4) (pv 7)) pa_nil))), ?_⟩
          refine ⟨_, rfl, _, rfl, _, _, rfl, rfl, _, rfl, _, rfl, _, _, rfl, rfl, _, rfl, _, rfl, _, _, rfl, rfl, .inl (by rw [hc0]; decide), (by show 3 ≤ sizeLine; decide), fun p np => hQ2 _ _ (Same.new np) ⟨p, rfl, .of ?_⟩⟩
          rw [upd_same]
          simp only [Int.natCast_add]
        · have e : us.take (j + 1) = us.take j ++ [t] := by rw [List.take_succ, ht]; rfl
          rw [e, List.map_append]
          exact M4
      · intro H3 M3
        rw [← l2, List.take_length] at M3
        exact M3
    · intro H2 M
      obtain ⟨ys, hD, hp⟩ := M.done Mo.t3
      refine ⟨_, _, rfl, ⟨D, ys, rfl, .of hD, hp⟩, by rw [if_neg (by simp), List.length_map]; omega, fun v' H' s3 h3 => k v' H' (Same.trans M.1 s3) ?_⟩
      have e : cf (us.map fun t => (t0.1 + t.1, t0.2.1 + t.2.1, t0.2.2 * t.2.2)) = if bb = true then shx (cf us) else shy (cf us) := by
        subst ht0
        cases bb with
        | true => exact cf_shx us
        | false => exact cf_shy us
      rw [if_neg (by simp), e] at h3
      exact h3
end
end W5
set_option maxHeartbeats 4000000
/-! W5P3: swapped, negated, step. -/
namespace W5
open PySem L2 K5
section
variable {P : Program} {w : World} {K : PySem.W.Frag} {mg : Str → Option Value} {base : Heap}
def spUn (K : PySem.W.Frag) (F : K5.C → K5.C) : Sp := fun vs H Q _ => ∃ v g, vs = [v] ∧ Pl K H g v ∧ Sup 64 64 g ∧ ∀ v' H', Same H H' → Pl K H' (F g) v' → Q v' H'
abbrev nUn : List Str := ["f", "i", "j", "c"]
theorem scSwapped : FnScope nUn ["f"] (defScope (top 24)) := ⟨rfl, rfl, rfl, by decide +kernel, rfl, by decide +kernel, by decide +kernel⟩
theorem c_swapped (F : Df K mg "swapped" (top 24)) (T : Bn mg) (C1 : Cal P w K mg base 1 "collected" (spCollected K)) : Cal P w K mg base 2 "swapped" (spUn K tr) := by
  refine F.cal scSwapped (fun _ _ _ _ _ _ us hl => match us, hl with | [_], _ => rfl) (fun vs H Q E h => ?_) (fun cdv A outer f s H vs Q E hr h => ?_)
  · obtain ⟨v, g, rfl, _⟩ := h
    rfl
  · obtain ⟨v, g, rfl, hg, sg, k⟩ := h
    obtain ⟨us, b, xs, rfl, qb, pb, nb, rfl, lb, _⟩ := hg.terms sg
    have l2 := pb.length
    refine ⟨_, pss_one (ps_ret (pe_c C1 hr (by decide) rfl (pa_cons
      (pe_lcA [("i", 1), ("j", 2), ("c", 3)] rfl scSwapped.nd (pi_list (pv 0)) (blkOk_by (N := nUn) (sc := defScope (top 24)) (by decide +kernel)) (fun _ _ _ _ _ => pg_3K rfl (pg_n 1 scSwapped.nd) (pg_n 2 scSwapped.nd) (pg_n 3 scSwapped.nd))) pa_nil))), ?_⟩
    refine ⟨[some (.ref b), none, none, none], rfl, _, rfl, b, rfl, ⟨_, qb⟩, fun D nD => ?_⟩
    refine lc_L3 (walk_list (xs := xs)) (Rs := T3 K) pb (T3 K) (fun t => (t.2.1, t.1, t.2.2)) Mo.t3 nD (lsz (m := 10000) (by omega)) (fun _ s => Same.sL s qb) (fun _ _ _ => rfl) ?_ ?_
    · rintro t v ht ⟨c, rfl, hc⟩
      refine ⟨c, _, _, _, rfl, hc, fun Hx sx Q2 hQ2 s' H0' C cl fp => ?_⟩
      refine ⟨_, pe_tup (pa_cons (pv 2) (pa_cons (pv 1) (pa_cons (pv 3) pa_nil))), ?_⟩
      exact ⟨_, rfl, _, rfl, _, rfl, (by show 3 ≤ sizeLine; decide), fun p np => hQ2 _ _ (Same.new np) ⟨p, rfl, .of upd_same⟩⟩
    · intro H2 ys s2 hD hp
      refine ⟨_, us.map (fun t => (t.2.1, t.1, t.2.2)), rfl, ⟨D, _, rfl, .of hD, hp⟩, by rw [List.length_map]; omega, fun v' H' s3 h3 => ?_⟩
      rw [cf_swap] at h3
      exact k v' H' (Same.trans s2 s3) h3
theorem scNegated : FnScope nUn ["f"] (defScope (top 31)) := ⟨rfl, rfl, rfl, by decide +kernel, rfl, by decide +kernel, by decide +kernel⟩
theorem c_negated (F : Df K mg "negated" (top 31)) (T : Bn mg) (C1 : Cal P w K mg base 1 "collected" (spCollected K)) : Cal P w K mg base 2 "negated" (spUn K fun f => -f) := by
  refine F.cal scNegated (fun _ _ _ _ _ _ us hl => match us, hl with | [_], _ => rfl) (fun vs H Q E h => ?_) (fun cdv A outer f s H vs Q E hr h => ?_)
  · obtain ⟨v, g, rfl, _⟩ := h
    rfl
  · obtain ⟨v, g, rfl, hg, sg, k⟩ := h
    obtain ⟨us, b, xs, rfl, qb, pb, nb, rfl, lb, _⟩ := hg.terms sg
    have l2 := pb.length
    refine ⟨_, pss_one (ps_ret (pe_c C1 hr (by decide) rfl (pa_cons
      (pe_lcA [("i", 1), ("j", 2), ("c", 3)] rfl scNegated.nd (pi_list (pv 0)) (blkOk_by (N := nUn) (sc := defScope (top 31)) (by decide +kernel)) (fun _ _ _ _ _ => pg_3K rfl (pg_n 1 scNegated.nd) (pg_n 2 scNegated.nd) (pg_n 3 scNegated.nd))) pa_nil))), ?_⟩
    refine ⟨[some (.ref b), none, none, none], rfl, _, rfl, b, rfl, ⟨_, qb⟩, fun D nD => ?_⟩
    refine lc_L3 (walk_list (xs := xs)) (Rs := T3 K) pb (T3 K) (fun t => (t.1, t.2.1, -t.2.2)) Mo.t3 nD (lsz (m := 10000) (by omega)) (fun _ s => Same.sL s qb) (fun _ _ _ => rfl) ?_ ?_
    · rintro t v ht ⟨c, rfl, hc⟩
      refine ⟨c, _, _, _, rfl, hc, fun Hx sx Q2 hQ2 s' H0' C cl fp => ?_⟩
      refine ⟨_, pe_tup (pa_cons (pv 1) (pa_cons (pv 2) (pa_cons (pe_un un_neg (pv 3)) pa_nil))), ?_⟩
      exact ⟨_, rfl, _, rfl, _, rfl, _, rfl, (by show 3 ≤ sizeLine; decide), fun p np => hQ2 _ _ (Same.new np) ⟨p, rfl, .of upd_same⟩⟩
    · intro H2 ys s2 hD hp
      refine ⟨_, us.map (fun t => (t.1, t.2.1, -t.2.2)), rfl, ⟨D, _, rfl, .of hD, hp⟩, by rw [List.length_map]; omega, fun v' H' s3 h3 => ?_⟩
      rw [cf_neg] at h3
      exact k v' H' (Same.trans s2 s3) h3
/-! ### step -/
def scL (k : Nat) : List Int := (List.range k).map (Sc k)
theorem scL_len (k : Nat) : (scL k).length = k := by simp [scL]
theorem scL_get {k i : Nat} (h : i < k) (d : Int) : (scL k).getD i d = Sc k i := by
  simp [scL, List.getD_eq_getElem?_getD, h]
/-- one row in the making -/
def scS (i : Nat) : Nat → Int
  | 0 => 0
  | t + 1 => Sc (i + 1) t
def scM (i j : Nat) : List Int := (List.range (i + 2)).map fun t => scS i t - if t < j then Sc i t else 0
theorem scM_zero (i : Nat) : scM i 0 = 0 :: scL (i + 1) := by
  apply List.ext_getElem
  · simp [scM, scL]
  · intro t h1 h2
    cases t with
    | zero => simp [scM, scS]
    | succ t => simp [scM, scL, scS]
theorem scM_end (i : Nat) : scM i i = scL (i + 2) := by
  apply List.ext_getElem
  · simp [scM, scL]
  · intro t h1 h2
    simp only [scM, List.length_map, List.length_range] at h1
    simp only [scM, scL, List.getElem_map, List.getElem_range]
    have e : (if t < i then Sc i t else 0) = Sc i t := by
      by_cases h : t < i
      · rw [if_pos h]
      · rw [if_neg h, Sc_top i t (by omega)]
    rw [e]
    cases t with
    | zero =>
      show 0 - Sc i 0 = _
      rw [Sc]; omega
    | succ t =>
      show Sc (i + 1) t - _ = _
      rw [Sc]
theorem scM_at {i j : Nat} (h : j < i) : (scM i j)[j]? = some (scS i j) := by
  simp only [scM, List.getElem?_map, List.getElem?_range (show j < i + 2 by omega), Option.map_some, if_neg (Nat.lt_irrefl j), Int.sub_zero]
theorem scM_set {i j : Nat} (h : j < i) : (scM i j).set j (scS i j - Sc i j) = scM i (j + 1) := by
  apply List.ext_getElem
  · simp [scM]
  · intro t h1 h2
    rw [List.getElem_set]
    simp only [scM, List.getElem_map, List.getElem_range]
    by_cases e : j = t
    · subst e
      rw [if_pos rfl, if_pos (Nat.lt_succ_self j)]
    · rw [if_neg e]
      by_cases q : t < j
      · rw [if_pos q, if_pos (by omega)]
      · rw [if_neg q, if_neg (by omega)]
def spStep (K : PySem.W.Frag) : Sp := fun vs H Q _ => ∃ k : Nat, vs = [.int k] ∧ 1 ≤ k ∧ k ≤ 64 ∧ ∀ a H', Same H H' → H a = none → H' a = some (.lst ((scL k).map V.int)) → Q (.ref a) H'
abbrev nStep : List Str := ["k", "older", "newer", "count", "following", "at"]
theorem scStep : FnScope nStep ["k"] (defScope (top 21)) := ⟨rfl, rfl, rfl, by decide +kernel, rfl, by decide +kernel, by decide +kernel⟩
theorem c_step (F : Df K mg "step" (top 21)) (T : Bn mg) : Cal P w K mg base 1 "step" (spStep K) := by
  refine F.cal scStep (fun _ _ _ _ _ _ us hl => match us, hl with | [_], _ => rfl) (fun vs H Q E h => ?_) (fun cdv A outer f s H vs Q E hr h => ?_)
  · obtain ⟨k, rfl, _⟩ := h
    rfl
  · obtain ⟨k, rfl, hk1, hk2, kk⟩ := h
    refine ⟨_, pss_cons (ps_set (i := 1) scStep.nd rfl (Or.inl rfl) (pe_lst pa_nil))
      (pss_cons (ps_set (i := 2) scStep.nd rfl (Or.inl rfl) (pe_lst (pa_cons pe_int pa_nil)))
      (pss_cons (ps_if (pt_cmpR op_eq (pv 0) pe_int (nomark _)) (pss_one (ps_ret (pv 1))) pss_nil)
      (pss_cons (ps_for PassesOwn.never rfl (pi_range1 rfl T.brange (pa_cons (pe_op op_sub (pv 0) pe_int) pa_nil)) (pg_n 3 scStep.nd)
        (pss_cons (ps_set (i := 4) scStep.nd rfl (Or.inl rfl) (pe_op op_cat (pe_lst (pa_cons pe_int pa_nil)) (pv 2)))
        (pss_cons (ps_for PassesOwn.never rfl (pi_range1 rfl T.brange (pa_cons (pe_callB call_len_seq (by rfl) T.blen PySem.boot_len (pa_cons (pv 1) pa_nil)) pa_nil)) (pg_n 5 scStep.nd)
          (pss_one (ps_laug (pv 4) (pv 5) (pe_ix ix_list (pv 1) (pv 5) (fun _ _ => rfl)) ip_sub)))
        (pss_cons (ps_set (i := 1) scStep.nd rfl (Or.inl rfl) (pv 2))
        (pss_one (ps_set (i := 2) scStep.nd rfl (Or.inl rfl) (pv 4)))))))
      (pss_one (ps_ret (pv 2)))))), ?_⟩
    refine ⟨(by show 0 ≤ sizeLine; decide), fun o no => ?_⟩
    refine ⟨(by show 1 ≤ sizeLine; decide), fun n nn => ?_⟩
    refine ⟨_, rfl, rfl, _, rfl, ?_⟩
    refine iteDF (by simp; omega) ?_
    have on : o ≠ n := ne_of_none upd_same nn
    refine ⟨_, rfl, _, _, rfl, rfl, _, rfl, by omega, by omega, ?_⟩
    have ek : ((k : Int) - 1).toNat = k - 1 := by omega
    rw [ek]
    refine for_it walk_range (fun i σ H1 => ∃ o n x y z, σ = [some (.int k), some (.ref o), some (.ref n), x, y, z] ∧ Same H H1 ∧ H o = none ∧ H n = none ∧ H1 o = some (.lst ((scL i).map V.int)) ∧ H1 n = some (.lst ((scL (i + 1)).map V.int)))
      ⟨o, n, none, none, none, rfl, Same.trans (Same.new no) (Same.new nn), no, (Same.new no).free nn, by rw [upd_ne on]; exact upd_same, upd_same⟩ (fun _ _ _ _ _ => trivial) ?_ ?_
    · rintro i x σ _ H1 hi ⟨o, n, x1, y1, z1, rfl, s1, no, nn, ho, hn⟩ ⟨rfl, rfl⟩
      refine ⟨(by show 1 ≤ sizeLine; decide), fun z nz => ?_⟩
      have hn' : (upd H1 z (.lst [V.int 0])) n = some (.lst ((scL (i + 1)).map V.int)) := by rw [upd_ne (ne_of_none hn nz)]; exact hn
      refine ⟨_, rfl, z, n, _, _, rfl, rfl, upd_same, hn', lsz (m := 1000) (by rw [List.length_map, scL_len]; simp; omega), fun g ng => ?_⟩
      have s2 : Same H1 (upd (upd H1 z (.lst [V.int 0])) g (.lst ([V.int 0] ++ (scL (i + 1)).map V.int))) := Same.trans (Same.new nz) (Same.new ng)
      have fo : H g = none := s1.free ((Same.new (o := .lst [V.int 0]) nz).free ng)
      have og : o ≠ g := ne_of_none ho ((Same.new (o := .lst [V.int 0]) nz).free ng)
      have ngg : n ≠ g := ne_of_none hn ((Same.new (o := .lst [V.int 0]) nz).free ng)
      refine ⟨_, rfl, o, _, rfl, .inl (.of (s2 _ _ ho)), _, rfl, by rw [List.length_map, scL_len]; omega, by rw [List.length_map, scL_len]; omega, ?_⟩
      have el : (((scL i).map V.int).length : Int).toNat = i := by rw [List.length_map, scL_len]; omega
      rw [el]
      refine for_it walk_range (fun j σ H2 => ∃ z, σ = [some (.int k), some (.ref o), some (.ref n), some (.int (0 + i)), some (.ref g), z] ∧ Same H H2 ∧ H2 o = some (.lst ((scL i).map V.int)) ∧ H2 n = some (.lst ((scL (i + 1)).map V.int)) ∧ H2 g = some (.lst ((scM i j).map V.int)))
        ⟨z1, rfl, Same.trans s1 s2, s2 _ _ ho, s2 _ _ hn, by rw [upd_same, scM_zero]; rfl⟩ (fun _ _ _ _ _ => trivial) ?_ ?_
      · rintro j x σ _ H2 hj ⟨z2, rfl, s3, ho2, hn2, hg2⟩ ⟨rfl, rfl⟩
        refine ⟨_, rfl, _, rfl, g, _, _, _, rfl, rfl, .of hg2, atI_of (i := j) (by rw [List.getElem?_map, scM_at hj]; rfl) (by omega), ?_⟩
        refine ⟨_, rfl, _, rfl, o, _, _, _, rfl, rfl, .of ho2, atI_map (i := j) 0 (by rw [scL_len]; exact hj) (by omega), ?_⟩
        rw [scL_get hj]
        refine ⟨_, _, rfl, rfl, g, _, _, j, rfl, rfl, hg2, ?_, _, rfl, Same.upd s3 fo, by rw [upd_ne og]; exact ho2, by rw [upd_ne ngg]; exact hn2, ?_⟩
        · unfold ixN
          rw [if_pos (by omega), List.length_map, if_pos (by simp [scM]; omega)]
          congr 1
          omega
        · rw [upd_same, ← scM_set hj, List.map_set]
      · rintro σ H2 ⟨z2, rfl, s3, ho2, hn2, hg2⟩
        refine ⟨_, rfl, _, rfl, n, g, _, _, _, rfl, s3, nn, fo, hn2, ?_⟩
        rw [hg2, scM_end]
    · rintro σ H1 ⟨o, n, x1, y1, z1, rfl, s1, no, nn, ho, hn⟩
      have e : k - 1 + 1 = k := by omega
      rw [e] at hn
      exact ⟨_, rfl, kk n H1 s1 nn hn⟩
end
end W5
set_option maxHeartbeats 4000000
/-! W5P4: rows_of, terms_of. -/
namespace W5
open PySem L2 K5
structure RowD (kvs : List (Key × V)) (g : Nat → Int) : Prop where
  val : ∀ j : Nat, (valV kvs (Sum.inl (j : Int)) = none ∧ g j = 0) ∨ valV kvs (Sum.inl (j : Int)) = some (.int (g j))
  keys : ∀ k ∈ kvs.map (·.1), ∃ j : Nat, j < 64 ∧ k = Sum.inl (j : Int)
  nd : (kvs.map (·.1)).Nodup
theorem inl_inj {i j : Nat} (h : (Sum.inl (i : Int) : Key) = Sum.inl (j : Int)) : i = j := by
  have := Sum.inl.inj h
  omega
theorem RowD.nil : RowD [] fun _ => 0 := ⟨fun _ => .inl ⟨rfl, rfl⟩, fun k h => (List.not_mem_nil h).elim, List.nodup_nil⟩
theorem RowD.put {kvs : List (Key × V)} {g : Nat → Int} (h : RowD kvs g) {j : Nat} (c : Int) (hj : j < 64) : RowD (putK kvs (Sum.inl (j : Int)) (.int c)) fun x => if x = j then c else g x := by
  refine ⟨fun x => ?_, fun k hk => ?_, nd_putK' _ h.nd⟩
  · rw [valV_put]
    by_cases e : x = j
    · subst e
      rw [if_pos rfl, if_pos rfl]
      exact .inr rfl
    · rw [if_neg (fun q => e (inl_inj q)), if_neg e]
      exact h.val x
  · rcases mem_putK hk with rfl | hk
    · exact ⟨j, hj, rfl⟩
    · exact h.keys k hk
/-- the keys as numbers -/
theorem RowD.nums {kvs : List (Key × V)} {g : Nat → Int} (h : RowD kvs g) : ∃ js : List Nat, kvs = js.map (fun j : Nat => ((Sum.inl (j : Int) : Key), V.int (g j))) ∧ js.Nodup ∧ (∀ j ∈ js, j < 64) ∧ ∀ j, j ∉ js → g j = 0 := by
  have key : ∀ l : List (Key × V), (l.map (·.1)).Nodup → (∀ p ∈ l, ∃ j : Nat, j < 64 ∧ p = (Sum.inl (j : Int), V.int (g j))) →
      ∃ js : List Nat, l = js.map (fun j : Nat => ((Sum.inl (j : Int) : Key), V.int (g j))) ∧ js.Nodup ∧ ∀ j ∈ js, j < 64 := by
    intro l
    induction l with
    | nil => intro _ _; exact ⟨[], rfl, List.nodup_nil, by simp⟩
    | cons p l ih =>
      intro hn hl
      rw [List.map_cons, List.nodup_cons] at hn
      obtain ⟨js, e1, e2, e3⟩ := ih hn.2 fun p hp => hl p (by simp [hp])
      obtain ⟨j, hj, rfl⟩ := hl p (by simp)
      refine ⟨j :: js, by rw [List.map_cons, ← e1], List.nodup_cons.mpr ⟨fun m => hn.1 ?_, e2⟩, fun x hx => ?_⟩
      · rw [e1, List.map_map]
        exact List.mem_map.mpr ⟨j, m, rfl⟩
      · rcases List.mem_cons.mp hx with rfl | hx
        · exact hj
        · exact e3 x hx
  obtain ⟨js, e1, e2, e3⟩ := key kvs h.nd fun p hp => by
    obtain ⟨j, hj, e⟩ := h.keys p.1 (List.mem_map_of_mem hp)
    refine ⟨j, hj, ?_⟩
    have hv := val_nodup h.nd p hp
    rw [e] at hv
    rcases h.val j with ⟨e1, _⟩ | e1
    · rw [e1] at hv; cases hv
    · rw [e1] at hv
      cases p
      simp only at e hv
      rw [e, ← Option.some.inj hv]
  refine ⟨js, e1, e2, e3, fun j hj => ?_⟩
  rcases h.val j with ⟨_, e⟩ | e
  · exact e
  · exfalso
    apply hj
    have := valV_in e
    rw [e1, List.map_map] at this
    obtain ⟨x, hx, ex⟩ := List.mem_map.mp this
    have : x = j := inl_inj ex
    rw [← this]
    exact hx
theorem RowD.len {kvs : List (Key × V)} {g : Nat → Int} (h : RowD kvs g) : kvs.length ≤ 64 := by
  obtain ⟨js, rfl, h2, h3, _⟩ := h.nums
  rw [List.length_map]
  exact nodup_lt 64 js h2 h3
def RowsAt (H : Hp) (ds : List Addr) (F : K5.C) : Prop := ∀ i d, ds[i]? = some d → ∃ kvs, H d = some (.dK kvs) ∧ RowD kvs (F i)
theorem nodup_at {α : Type} {l : List α} (h : l.Nodup) {i j : Nat} {x : α} (a : l[i]? = some x) (b : l[j]? = some x) : i = j := by
  obtain ⟨h1, e1⟩ := List.getElem?_eq_some_iff.mp a
  obtain ⟨h2, e2⟩ := List.getElem?_eq_some_iff.mp b
  exact (List.getElem_inj h).mp (e1.trans e2.symm)
theorem RowsAt.same {H H' : Hp} {ds : List Addr} {F : K5.C} (h : RowsAt H ds F) (s : Same H H') : RowsAt H' ds F := fun i d e => by
  obtain ⟨kvs, a, b⟩ := h i d e
  exact ⟨kvs, s _ _ a, b⟩
theorem RowsAt.put {H : Hp} {ds : List Addr} {F : K5.C} (h : RowsAt H ds F) (hn : ds.Nodup) {i j : Nat} {d : Addr} {kvs : List (Key × V)} (e : ds[i]? = some d) (hd : H d = some (.dK kvs)) (c : Int) (hj : j < 64) :
    RowsAt (upd H d (.dK (putK kvs (Sum.inl (j : Int)) (.int c)))) ds fun x y => if x = i ∧ y = j then c else F x y := fun i' d' e' => by
  by_cases hi : i' = i
  · subst hi
    rw [e] at e'
    cases e'
    obtain ⟨kvs', a, b⟩ := h i' d e
    rw [hd] at a
    cases a
    refine ⟨_, upd_same, ?_⟩
    have := b.put c hj
    simp only [true_and]
    exact this
  · have hne : d' ≠ d := by
      rintro rfl
      exact hi (nodup_at hn e' e)
    obtain ⟨kvs', a, b⟩ := h i' d' e'
    refine ⟨kvs', by rw [upd_ne hne]; exact a, ?_⟩
    simp only [hi, false_and, if_false]
    exact b
section
variable {P : Program} {w : World} {K : PySem.W.Frag} {mg : Str → Option Value} {base : Heap}
def spRows (K : PySem.W.Frag) : Sp := fun vs H Q _ => ∃ v f, vs = [v] ∧ Pl K H f v ∧ Sup 64 64 f ∧ ∀ a ds H', Same H H' → H a = none → H' a = some (.lst (ds.map V.ref)) → ds.Nodup → (∀ d ∈ ds, H d = none) → RowsAt H' ds f → ds.length ≤ 64 → (∀ i j, ds.length ≤ i → f i j = 0) → Q (.ref a) H'
abbrev nRows : List Str := ["f", "top", "rows", "i", "j", "c"]
theorem scRows : FnScope nRows ["f"] (defScope (top 22)) := ⟨rfl, rfl, rfl, by decide +kernel, rfl, by decide +kernel, by decide +kernel⟩
theorem c_rows (F : Df K mg "rows_of" (top 22)) (T : Bn mg) : Cal P w K mg base 1 "rows_of" (spRows K) := by
  refine F.cal scRows (fun _ _ _ _ _ _ us hl => match us, hl with | [_], _ => rfl) (fun vs H Q E h => ?_) (fun cdv A outer f s H vs Q E hr h => ?_)
  · obtain ⟨v, g, rfl, _⟩ := h
    rfl
  · obtain ⟨v, g, rfl, hg, sg, k⟩ := h
    have hu := hu_of hr
    obtain ⟨us, b, xs, rfl, qb, pb, nb, rfl, lb, hb⟩ := hg.terms sg
    have l2 := pb.length
    refine ⟨_, pss_cons (ps_set (i := 1) scRows.nd rfl (Or.inl rfl) (pe_callBK (cr_maxD rfl) (by rfl) T.bmax (by decide +kernel) (pa_cons
        (pe_lcA [("i", 3), ("j", 4), ("c", 5)] rfl scRows.nd (pi_list (pv 0)) (blkOk_by (N := nRows) (sc := defScope (top 22)) (by decide +kernel)) (fun _ _ _ _ _ => pg_3K rfl (pg_n 3 scRows.nd) (pg_n 4 scRows.nd) (pg_n 5 scRows.nd))) pa_nil) (pk_cons (pe_un un_neg pe_int) pk_nil)))
      (pss_cons (ps_lcA (i := 2) [("i", 3)] rfl scRows.nd rfl rfl (sw_true rfl rfl rfl (by decide +kernel)) (pi_range1 rfl T.brange (pa_cons (pe_op op_add (pv 1) pe_int) pa_nil)) (blkOk_by (N := nRows) (sc := defScope (top 22)) (by decide +kernel)) (fun _ _ _ _ _ => pg_n 3 scRows.nd))
      (pss_cons (ps_for PassesOwn.never rfl (pi_list (pv 0)) (pg_3K rfl (pg_n 3 scRows.nd) (pg_n 4 scRows.nd) (pg_n 5 scRows.nd))
        (pss_one (ps_dput hu (pe_ix ix_list (pv 2) (pv 3) (fun _ _ => rfl)) (pv 4) (pv 5) rfl)))
      (pss_one (ps_ret (pv 2))))), ?_⟩
    refine ⟨[some (.ref b), none, none, none, none, none], rfl, _, rfl, b, rfl, ⟨_, qb⟩, fun D nD => ?_⟩
    refine lc_L3 (walk_list (xs := xs)) (Rs := T3 K) pb Iv (fun t => (t.1 : Int)) Mo.i nD (lsz (m := 10000) (by omega)) (fun _ s => Same.sL s qb) (fun _ _ _ => rfl) ?_ ?_
    · rintro t v ht ⟨c, rfl, hc⟩
      refine ⟨c, _, _, _, rfl, hc, fun Hx sx Q2 hQ2 s' H0' C cl fp => ?_⟩
      refine ⟨_, pv 3, ?_⟩
      exact ⟨_, rfl, hQ2 _ _ (Same.refl _) rfl⟩
    · intro H2 ys s2 hD hp
      have := Paired.intV hp
      subst this
      refine ⟨_, rfl, D, us.map fun t => (t.1 : Int), -1, rfl, rfl, .of hD, fun m hm => ?_⟩
      obtain ⟨n, hn, hn2, hn3⟩ : ∃ n : Nat, m + 1 = (n : Int) ∧ n ≤ 64 ∧ ∀ t ∈ us, t.1 < n := by
        rcases hm with ⟨e, rfl⟩ | ⟨h1, h2⟩
        · refine ⟨0, rfl, by omega, fun t ht => ?_⟩
          cases us with
          | nil => cases ht
          | cons _ _ => cases e
        · obtain ⟨t, ht, rfl⟩ := List.mem_map.mp h1
          refine ⟨t.1 + 1, by simp, by have := (hb t ht).1; omega, fun t' ht' => ?_⟩
          have := h2 _ (List.mem_map_of_mem (f := fun t : K5.Tm => (t.1 : Int)) ht')
          omega
      refine ⟨[some (.ref b), some (.int m), none, none, none, none], rfl, _, rfl, _, _, rfl, rfl, _, rfl, by omega, by omega, fun D2 nD2 => ?_⟩
      rw [hn, Int.toNat_natCast]
      refine lc2_out (F := fun Nx x H' => gName 3 x [some (.ref b), some (.int m), none, none, none, none] H' fun σ2 H2 => wipe σ2 [3] = [some (.ref b), some (.int m), none, none, none, none] ∧ tYes σ2 H2 fun b H3 => if b = true then tHide _ σ2 H3 fun y H4 => ∃ acc, H4 D2 = some (.lst acc) ∧ acc.length < sizeLine ∧ Nx (upd H4 D2 (.lst (acc ++ [y]))) else Nx H3)
        walk_range (fun i H3 => Same H2 H3 ∧ ∃ ds : List Addr, ds.length = i ∧ H3 D2 = some (.lst (ds.map V.ref)) ∧ ds.Nodup ∧ ∀ d ∈ ds, H2 d = none ∧ d ≠ D2 ∧ H3 d = some (.dK [])) ⟨Same.new nD2, [], rfl, upd_same, List.nodup_nil, fun _ z => (List.not_mem_nil z).elim⟩ (fun _ _ _ _ => trivial) ?_ ?_
      · rintro i x _ H3 hi ⟨s3, ds, hl, hd2, hnd, hds⟩ ⟨rfl, rfl⟩
        refine ⟨rfl, yes_ (hide0 ?_)⟩
        intro s' H0' C cl fp
        refine ⟨_, pe_dnewK, ?_⟩
        intro d nd
        have hdD : d ≠ D2 := (ne_of_none hd2 nd).symm
        refine ⟨_, by rw [upd_ne hdD.symm]; exact hd2, by rw [List.length_map, hl]; exact Nat.lt_of_le_of_lt (m := 64) (by omega) (by decide), ?_⟩
        refine ⟨Same.upd (Same.trans s3 (Same.new nd)) nD2, ds ++ [d], by simp [hl], by rw [upd_same, List.map_append]; rfl, ?_, fun e he => ?_⟩
        · rw [List.nodup_append]
          refine ⟨hnd, by simp, fun x hx y hy => ?_⟩
          obtain rfl : y = d := by simpa using hy
          exact ne_of_none (hds x hx).2.2 nd
        · rcases List.mem_append.mp he with he | he
          · obtain ⟨h1, h2, h3⟩ := hds e he
            exact ⟨h1, h2, by rw [upd_ne h2, upd_ne (ne_of_none h3 nd)]; exact h3⟩
          · obtain rfl : e = d := by simpa using he
            exact ⟨s3.free nd, hdD, by rw [upd_ne hdD, upd_same]⟩
      · rintro H3 ⟨s3, ds, hl, hd2, hnd, hds⟩
        have s23 : Same H H3 := Same.trans s2 s3
        refine ⟨_, rfl, b, rfl, ⟨_, Same.sL s23 qb⟩, for_it (walk_list (xs := xs)) (fun i σ H4 => ∃ x y z, σ = [some (.ref b), some (.int m), some (.ref D2), x, y, z] ∧ Same H H4 ∧ H4 D2 = some (.lst (ds.map V.ref)) ∧ RowsAt H4 ds (cf (us.take i)))
          ⟨none, none, none, rfl, s23, hd2, ?_⟩ (fun i σ H' _ ⟨_, _, _, _, s1, _⟩ => Same.sL s1 qb) ?_ ?_⟩
        · intro i d e
          exact ⟨[], (hds d (List.mem_of_getElem? e)).2.2, RowD.nil⟩
        · rintro i v σ _ H4 hi ⟨x, y, z, rfl, s4, hD4, R4⟩ ⟨rfl, hv⟩
          obtain ⟨t, ht, c, rfl, hc⟩ := Paired.getR pb hv
          have htm := List.mem_of_getElem? ht
          have hti : t.1 < ds.length := by rw [hl]; exact hn3 t htm
          obtain ⟨kvs, hk1, hk2⟩ := R4 t.1 _ (List.getElem?_eq_getElem hti)
          have et : us.take (i + 1) = us.take i ++ [t] := by rw [List.take_succ, ht]; rfl
          refine ⟨c, _, rfl, Same.sT s4 hc, rfl, _, _, rfl, _, _, rfl, _, _, rfl, rfl, ?_⟩
          refine ⟨_, rfl, _, rfl, _, rfl, D2, _, _, _, rfl, rfl, .of hD4, atI_of (i := t.1) (v := .ref ds[t.1]) (by rw [List.getElem?_map, List.getElem?_eq_getElem hti]; rfl) rfl, ?_⟩
          refine ⟨_, rfl, _, _, rfl, DPut.k (k := Sum.inl (t.2.1 : Int)) hk1 (Nat.lt_of_le_of_lt (hk2.len) (by decide)), ?_⟩
          refine ⟨_, _, _, rfl, Same.upd s4 (s2.free (hds _ (List.getElem_mem hti)).1), by rw [upd_ne (ne_of hD4 hk1 (by intro z; cases z))]; exact hD4, ?_⟩
          have := R4.put hnd (List.getElem?_eq_getElem hti) hk1 t.2.2 (hb t htm).2
          refine cast (congrArg (RowsAt _ ds) (C.ext fun x y => ?_)) this
          rw [et, cf_snoc]
          by_cases e : x = t.1 ∧ y = t.2.1
          · rw [if_pos e, if_pos ⟨e.1.symm, e.2.symm⟩]
            have : cf (us.take i) x y = 0 := by
              apply cf_none
              intro hm
              have hnn := nb.1
              have e3 : us.take (i + 1) = us.take i ++ [t] := et
              have h5 : ((us.take (i + 1)).map fun t => (t.1, t.2.1)).Nodup := by
                have := hnn
                rw [← List.take_append_drop (i + 1) us, List.map_append, List.nodup_append] at this
                exact this.1
              rw [e3, List.map_append, List.nodup_append] at h5
              exact h5.2.2 _ hm (t.1, t.2.1) (by simp) (by rw [e.1, e.2])
            rw [this]
            omega
          · rw [if_neg e, if_neg (fun q => e ⟨q.1.symm, q.2.symm⟩)]
            omega
        · rintro σ H4 ⟨x, y, z, rfl, s4, hD4, R4⟩
          rw [← l2, List.take_length] at R4
          exact ⟨_, rfl, k D2 ds H4 s4 (s2.free nD2) hD4 hnd (fun d hd => s2.free (hds d hd).1) R4 (by omega) fun i j hi => cf_none fun hm => by
            obtain ⟨t, ht, e⟩ := List.mem_map.mp hm
            have := hn3 t ht
            simp only [Prod.mk.injEq] at e
            omega⟩
end
end W5
set_option maxHeartbeats 4000000
/-! W5P5: terms_of. -/
namespace W5
open PySem L2 K5
def kN : Key → Nat
  | .inl z => z.toNat
  | _ => 0
def vI : V → Int
  | .int c => c
  | _ => 0
def tmRow (i : Nat) (kvs : List (Key × V)) : List K5.Tm := kvs.map fun p => (i, kN p.1, vI p.2)
theorem cf_row (i : Nat) (g : Nat → Int) : ∀ (js : List Nat), js.Nodup → ∀ x y, cf (js.map fun j => (i, j, g j)) x y = if x = i ∧ y ∈ js then g y else 0
  | [], _, x, y => by simp [cf]; rfl
  | j :: js, h, x, y => by
    rw [List.nodup_cons] at h
    rw [List.map_cons, cf_cons, cf_row i g js h.2]
    by_cases e : i = x ∧ j = y
    · obtain ⟨rfl, rfl⟩ := e
      rw [if_pos ⟨rfl, rfl⟩, if_neg (fun q => h.1 q.2), if_pos ⟨rfl, by simp⟩]
      simp
    · rw [if_neg e]
      by_cases q : x = i ∧ y ∈ js
      · rw [if_pos q, if_pos ⟨q.1, by simp [q.2]⟩]; simp
      · rw [if_neg q, if_neg]
        · simp
        · rintro ⟨rfl, hm⟩
          rcases List.mem_cons.mp hm with rfl | hm
          · exact e ⟨rfl, rfl⟩
          · exact q ⟨rfl, hm⟩
theorem RowD.tm {kvs : List (Key × V)} {g : Nat → Int} (h : RowD kvs g) (i x y : Nat) : cf (tmRow i kvs) x y = if x = i then g y else 0 := by
  obtain ⟨js, rfl, h2, _, h4⟩ := h.nums
  have e : tmRow i (js.map fun j : Nat => ((Sum.inl (j : Int) : Key), V.int (g j))) = js.map fun j => (i, j, g j) := by
    unfold tmRow
    rw [List.map_map]
    apply List.map_congr_left
    intro j _
    simp [kN, vI]
  rw [e, cf_row i g js h2]
  by_cases hx : x = i
  · by_cases hy : y ∈ js
    · rw [if_pos ⟨hx, hy⟩, if_pos hx]
    · rw [if_neg (fun q => hy q.2), if_pos hx, h4 y hy]
  · rw [if_neg (fun q => hx q.1), if_neg hx]
def tmOut (L : List (Addr × List (Key × V))) (i : Nat) : List K5.Tm := ((List.range i).map fun t => tmRow t (L.getD t (0, [])).2).flatten
theorem tmOut_succ (L : List (Addr × List (Key × V))) (i : Nat) : tmOut L (i + 1) = tmOut L i ++ tmRow i (L.getD i (0, [])).2 := by
  unfold tmOut
  rw [List.range_succ, List.map_append, List.flatten_append]
  simp
def cut (n : Nat) (F : K5.C) : K5.C := fun i j => if i < n then F i j else 0
section
variable {P : Program} {w : World} {K : PySem.W.Frag} {mg : Str → Option Value} {base : Heap}
def spTerms (K : PySem.W.Frag) : Sp := fun vs H Q _ => ∃ a ds F, vs = [.ref a] ∧ SqL K H a (ds.map V.ref) ∧ ds.Nodup ∧ RowsAt H ds F ∧ ds.length ≤ 64 ∧ ∀ v' H', Same H H' → Pl K H' (cut ds.length F) v' → Q v' H'
abbrev nTerms : List Str := ["rows", "i", "row", "j"]
theorem scTerms : FnScope nTerms ["rows"] (defScope (top 23)) := ⟨rfl, rfl, rfl, by decide +kernel, rfl, by decide +kernel, by decide +kernel⟩
theorem unl_in : ∀ {L : List (Addr × List (Key × V))} {H : Hp} {p : Addr × List (Key × V)}, (L.map (·.1)).Nodup → p ∈ L → unl L H p.1 = some (.dK p.2)
  | q :: L, H, p, hn, hp => by
    rw [List.map_cons, List.nodup_cons] at hn
    show upd (unl L H) q.1 (.dK q.2) p.1 = _
    rcases List.mem_cons.mp hp with rfl | hp
    · exact upd_same
    · rw [upd_ne, unl_in hn.2 hp]
      intro e
      exact hn.1 (e ▸ List.mem_map_of_mem hp)
theorem c_terms (F : Df K mg "terms_of" (top 23)) (T : Bn mg) (C1 : Cal P w K mg base 1 "collected" (spCollected K)) : Cal P w K mg base 2 "terms_of" (spTerms K) := by
  refine F.cal scTerms (fun _ _ _ _ _ _ us hl => match us, hl with | [_], _ => rfl) (fun vs H Q E h => ?_) (fun cdv A outer f s H vs Q E hr h => ?_)
  · obtain ⟨a, ds, F, rfl, _⟩ := h
    rfl
  · obtain ⟨a, ds, F, rfl, qa, hnd, hR, hlen, k⟩ := h
    have hu := hu_of hr
    refine ⟨_, pss_one (ps_ret (pe_c C1 hr (by decide) rfl (pa_cons (pe_locks
      (pe_lc2A [("i", 1), ("row", 2), ("j", 3)] [3] rfl scTerms.nd (pi_enum rfl T.benum (pa_cons (pv 0) pa_nil)) (blkOk_by (N := nTerms) (sc := defScope (top 23)) (by decide +kernel)) (by decide) (fun _ _ _ _ _ => pg_2K rfl (pg_n 1 scTerms.nd) (pg_n 2 scTerms.nd))
        (fun _ _ _ _ _ => pg_n 3 scTerms.nd))) pa_nil))), ?_⟩
    -- the dicts
    obtain ⟨L, hL1, hL2⟩ : ∃ L : List (Addr × List (Key × V)), L.map (·.1) = ds ∧ ∀ i p, L[i]? = some p → H p.1 = some (.dK p.2) ∧ RowD p.2 (F i) := by
      refine ⟨ds.map fun d => (d, match H d with | some (.dK kvs) => kvs | _ => []), by rw [List.map_map]; exact List.map_id _, fun i p e => ?_⟩
      rw [List.getElem?_map] at e
      cases ed : ds[i]? with
      | none => rw [ed] at e; cases e
      | some d =>
        rw [ed] at e
        cases e
        obtain ⟨kvs, h1, h2⟩ := hR i d ed
        simp only [h1]
        exact ⟨trivial, h2⟩
    have hLl : L.length = ds.length := by rw [← hL1, List.length_map]
    refine ⟨L, fun p hp => ?_, by rw [hL1]; exact hnd, fun H1 hf ho => ?_⟩
    · obtain ⟨i, hi⟩ := List.getElem?_of_mem hp
      exact (hL2 i p hi).1
    have qa1 : SqL K H1 a (ds.map V.ref) := by
      have hna : ∀ o, H a = some o → (∀ kvs, o ≠ .dK kvs) → H1 a = some o := fun o e hne => by
        rw [ho a (fun hm => ?_)]
        · exact e
        · obtain ⟨p, hp, rfl⟩ := List.mem_map.mp hm
          obtain ⟨i, hi⟩ := List.getElem?_of_mem hp
          rw [(hL2 i p hi).1] at e
          exact hne _ (Option.some.inj e).symm
      rcases qa with (h | ⟨o, h⟩) | h
      · exact .inl (.inl (hna _ h fun _ z => by cases z))
      · exact .inl (.inr ⟨o, hna _ h fun _ z => by cases z⟩)
      · exact .inr h
    refine ⟨[some (.ref a), none, none, none], rfl, _, rfl, a, _, rfl, qa1, fun D nD => ?_⟩
    refine lc2_out (walk_enum (xs := ds.map V.ref)) (fun i H2 => Made D (T3 K) H1 (tmOut L i) H2) (Made.nil nD) (fun i H2 _ M => Same.sL M.1 qa1) ?_ ?_
    · rintro i x H2 _ hi M ⟨tp, u, v, rfl, ntp, rfl, e1, e2⟩
      cases e1
      rw [List.length_map] at hi
      have hiL : i < L.length := by omega
      have ep : L[i]? = some L[i] := List.getElem?_eq_getElem hiL
      have ed : ds[i]? = some L[i].1 := by rw [← hL1, List.getElem?_map, ep]; rfl
      obtain rfl : v = .ref L[i].1 := by
        have e3 : (ds.map V.ref)[i]? = some v := e2
        rw [List.getElem?_map, ed] at e3
        exact (Option.some.inj e3).symm
      obtain ⟨hk1, hk2⟩ := hL2 i _ ep
      obtain ⟨od, hfz⟩ := hf L[i] (List.getElem_mem hiL)
      have M2 := M.same Mo.t3 (Same.new (o := .tup [.int (i : Nat), .ref L[i].1]) ntp)
      refine ⟨tp, _, rfl, .of upd_same, rfl, _, _, rfl, _, _, rfl, rfl, rfl, yes_ ?_⟩
      refine ⟨[some (.ref a), some (.int i), some (.ref L[i].1), none], rfl, ?_⟩
      intro s' H0' C cl fp
      refine ⟨_, pi_keys (pv 2), _, rfl, L[i].1, od, rfl, .inl ⟨L[i].2, M2.1 _ _ hfz, ?_⟩⟩
      refine lc2_in walk_keys (fun j H3 => Made D (T3 K) H1 (tmOut L i ++ (tmRow i L[i].2).take j) H3) (by rw [List.take_zero, List.append_nil]; exact M2) (fun j H3 _ M => M.1 _ _ hfz) ?_ ?_
      · rintro j x _ H3 hj M3 ⟨rfl, kk, vv, ekv, rfl⟩
        refine ⟨rfl, yes_ ?_⟩
        have hmem := List.mem_of_getElem? ekv
        have hval := val_nodup hk2.nd _ hmem
        obtain ⟨jj, hjj, ejj⟩ := hk2.keys kk (List.mem_map_of_mem (f := Prod.fst) hmem)
        subst ejj
        obtain ⟨c, hc⟩ : ∃ c, vv = .int c := by
          rcases hk2.val jj with ⟨e, _⟩ | e
          · rw [e] at hval; cases hval
          · rw [e] at hval; exact ⟨_, (Option.some.inj hval).symm⟩
        subst hc
        have sz : (tmOut L i).length + 64 ≤ 64 * 64 := by
          have : ∀ n, n ≤ L.length → (tmOut L n).length ≤ 64 * n := by
            intro n
            induction n with
            | zero => intro _; simp [tmOut]
            | succ n ih =>
              intro hn
              rw [tmOut_succ, List.length_append]
              have h1 := ih (by omega)
              have h2 : (tmRow n (L.getD n (0, [])).2).length ≤ 64 := by
                unfold tmRow
                rw [List.length_map, List.getD_eq_getElem?_getD, List.getElem?_eq_getElem (by omega)]
                exact (hL2 n _ (List.getElem?_eq_getElem (by omega))).2.len
              omega
          have := this i (by omega)
          omega
        have sz2 : ((tmRow i L[i].2).take j).length ≤ 64 := by
          rw [List.length_take]
          have : (tmRow i L[i].2).length ≤ 64 := by unfold tmRow; rw [List.length_map]; exact hk2.len
          omega
        refine Made.push (c := (i, jj, c)) nD Mo.t3 M3 (by rw [List.length_append]; exact Nat.lt_of_le_of_lt (m := 4096) (by omega) (by decide)) (fun Hx sx _ Q2 hQ2 s' H0' C cl fp => ?_) fun H4 M4 => ?_
        · refine ⟨_, pe_tup (pa_cons (pv 1) (pa_cons (pv 3) (pa_cons (pe_dget hu (pv 2) (pv 3) (fun _ _ => rfl)) pa_nil))), ?_⟩
          refine ⟨_, rfl, _, rfl, _, rfl, _, rfl, L[i].1, .int c, rfl, .inl ⟨L[i].2, Sum.inl (jj : Int), .inr ⟨od, sx _ _ hfz⟩, rfl, hval.symm⟩, (by show 3 ≤ sizeLine; decide), fun p np => hQ2 _ _ (Same.new np) ⟨p, rfl, .of upd_same⟩⟩
        · have e : (tmRow i L[i].2).take (j + 1) = (tmRow i L[i].2).take j ++ [(i, jj, c)] := by
            rw [List.take_succ]
            congr 1
            unfold tmRow
            rw [List.getElem?_map, ekv]
            simp [kN, vI]
          rw [e, ← List.append_assoc]
          exact M4
      · intro H3 M3
        have e : tmOut L (i + 1) = tmOut L i ++ tmRow i L[i].2 := by
          rw [tmOut_succ, List.getD_eq_getElem?_getD, ep]; rfl
        rw [e]
        have e2 : L[i].2.length = (tmRow i L[i].2).length := by unfold tmRow; rw [List.length_map]
        rw [e2, List.take_length] at M3
        exact M3
    · intro H2 M
      obtain ⟨ys, hD, hp⟩ := M.done Mo.t3
      have hlen2 : (tmOut L ds.length).length ≤ 4096 := by
        have : ∀ n, n ≤ L.length → (tmOut L n).length ≤ 64 * n := by
          intro n
          induction n with
          | zero => intro _; simp [tmOut]
          | succ n ih =>
            intro hn
            rw [tmOut_succ, List.length_append]
            have h1 := ih (by omega)
            have h2 : (tmRow n (L.getD n (0, [])).2).length ≤ 64 := by
              unfold tmRow
              rw [List.length_map, List.getD_eq_getElem?_getD, List.getElem?_eq_getElem (by omega)]
              exact (hL2 n _ (List.getElem?_eq_getElem (by omega))).2.len
            omega
        have := this ds.length (by omega)
        omega
      have hDL : ∀ b o, H2 b = some o → (∀ od kvs, o ≠ .frz od (.dK kvs)) → unl L H2 b = some o := fun b o e hne => by
        rw [unl_out (fun hm => ?_)]
        · exact e
        · obtain ⟨p, hp, rfl⟩ := List.mem_map.mp hm
          obtain ⟨od, hfz⟩ := hf p hp
          rw [M.1 _ _ hfz] at e
          exact hne _ _ (Option.some.inj e).symm
      have sHU : Same H (unl L H2) := fun b o e => by
        by_cases hb : b ∈ L.map (·.1)
        · obtain ⟨p, hp, rfl⟩ := List.mem_map.mp hb
          obtain ⟨i, hi⟩ := List.getElem?_of_mem hp
          rw [(hL2 i p hi).1] at e
          rw [unl_in (by rw [hL1]; exact hnd) hp]
          exact e
        · rw [unl_out hb]
          exact M.1 b o (by rw [ho b hb]; exact e)
      rw [List.length_map] at hp
      refine ⟨fun p hp => ?_, ?_⟩
      · obtain ⟨od, hfz⟩ := hf p hp
        rw [hfz, M.1 _ _ hfz]
      refine ⟨_, tmOut L ds.length, rfl, ⟨D, ys, rfl, .of (hDL _ _ hD fun _ _ z => by cases z), pmap hp fun t x ⟨b, e, q⟩ => ⟨b, e, ?_⟩⟩, by omega, fun v' H' s3 h3 => k v' H' (Same.trans sHU s3) ?_⟩
      · rcases q with (h | ⟨o, h⟩) | h
        · exact .inl (.inl (hDL _ _ h fun _ _ z => by cases z))
        · exact .inl (.inr ⟨o, hDL _ _ h fun _ _ z => by cases z⟩)
        · exact .inr h
      · have e : cf (tmOut L ds.length) = cut ds.length F := C.ext fun x y => by
          have : ∀ n, n ≤ L.length → cf (tmOut L n) x y = if x < n then F x y else 0 := by
            intro n
            induction n with
            | zero => intro _; rfl
            | succ n ih =>
              intro hn
              rw [tmOut_succ, cf_append, C.add_at, ih (by omega), List.getD_eq_getElem?_getD, List.getElem?_eq_getElem (show n < L.length by omega)]
              rw [Option.getD_some, (hL2 n _ (List.getElem?_eq_getElem (by omega))).2.tm]
              by_cases h1 : x = n
              · subst h1
                rw [if_neg (Nat.lt_irrefl x), if_pos rfl, if_pos (Nat.lt_succ_self x)]
                omega
              · rw [if_neg h1]
                by_cases h2 : x < n
                · rw [if_pos h2, if_pos (by omega)]; omega
                · rw [if_neg h2, if_neg (by omega)]; rfl
          exact this _ (by omega)
        rw [e] at h3
        exact h3
end
end W5
set_option maxHeartbeats 8000000
/-! W5P6: divided_in_x, divided. -/
namespace W5
open PySem L2 K5
theorem Sc_abs : ∀ k i : Nat, (Sc k i).natAbs ≤ 2 ^ k
  | 0, i => by rw [Sc]; decide
  | 1, i => by rw [Sc]; by_cases h : i = 0 <;> simp [h]
  | k + 2, 0 => by
    rw [Sc, Int.natAbs_neg]
    have := Sc_abs k 0
    have e : 2 ^ (k + 2) = 4 * 2 ^ k := by rw [Nat.pow_add]; omega
    omega
  | k + 2, i + 1 => by
    rw [Sc]
    have h1 := Sc_abs (k + 1) i
    have h2 := Sc_abs k (i + 1)
    have e : 2 ^ (k + 2) = 4 * 2 ^ k := by rw [Nat.pow_add]; omega
    have e1 : 2 ^ (k + 1) = 2 * 2 ^ k := by rw [Nat.pow_add]; omega
    omega
theorem Sc_small {k i : Nat} (h : k ≤ 60) : -(2 ^ 64) < Sc k i ∧ Sc k i < 2 ^ 64 := by
  have h1 := Sc_abs k i
  have h2 : 2 ^ k ≤ 2 ^ 60 := Nat.pow_le_pow_right (by decide) h
  have h3 : (Sc k i).natAbs ≤ 2 ^ 60 := Nat.le_trans h1 h2
  omega
theorem RowD.far {kvs : List (Key × V)} {g : Nat → Int} (h : RowD kvs g) {j : Nat} (hj : 64 ≤ j) : g j = 0 := by
  rcases h.val j with ⟨_, e⟩ | e
  · exact e
  · obtain ⟨x, hx, ex⟩ := h.keys _ (valV_in e)
    have := inl_inj ex
    omega
theorem nodup_set {α : Type} {l : List α} {x : α} (h : l.Nodup) (hx : x ∉ l) (i : Nat) : (l.set i x).Nodup := by
  induction l generalizing i with
  | nil => exact List.nodup_nil
  | cons y l ih =>
    rw [List.nodup_cons] at h
    simp only [List.mem_cons, not_or] at hx
    cases i with
    | zero => exact List.nodup_cons.mpr ⟨hx.2, h.2⟩
    | succ i =>
      refine List.nodup_cons.mpr ⟨fun m => ?_, ih h.2 hx.2 i⟩
      rcases List.mem_or_eq_of_mem_set m with m | m
      · exact h.1 m
      · exact hx.1 m.symm
theorem mem_take_succ {α : Type} {l : List α} (h : l.Nodup) {i : Nat} {x : α} (e : l[i]? = some x) (y : α) : y ∈ l.take (i + 1) ↔ y ∈ l.take i ∨ y = x := by
  rw [List.take_succ, e]
  simp
theorem not_mem_take {α : Type} {l : List α} (h : l.Nodup) {i : Nat} {x : α} (e : l[i]? = some x) : x ∉ l.take i := fun m => by
  obtain ⟨j, hj⟩ := List.getElem?_of_mem m
  rw [List.getElem?_take] at hj
  split at hj
  · rename_i q
    have := nodup_at h hj e
    omega
  · cases hj
/-- m of the p rows done -/
def stepF (p at_ m : Nat) (g : Nat → Int) (F : K5.C) : K5.C := fun i j => F i j - if at_ ≤ i ∧ i < at_ + m then Sc p (i - at_) * g j else 0
theorem stepF_zero (p at_ : Nat) (g : Nat → Int) (F : K5.C) : stepF p at_ 0 g F = F := C.ext fun i j => by
  unfold stepF
  rw [if_neg (by omega)]
  omega
theorem stepF_end (p at_ : Nat) (g : Nat → Int) (F : K5.C) : stepF p at_ p g F = F - mulS p at_ g := C.ext fun i j => by
  rw [C.sub_at]
  unfold stepF mulS
  by_cases h : at_ ≤ i
  · rw [if_pos h]
    by_cases h2 : i < at_ + p
    · rw [if_pos ⟨h, h2⟩]
    · rw [if_neg (fun q => h2 q.2), Sc_top p _ (by omega)]
      omega
  · rw [if_neg h, if_neg (fun q => h q.1)]
section
variable {P : Program} {w : World} {K : PySem.W.Frag} {mg : Str → Option Value} {base : Heap}
def spDivX (K : PySem.W.Frag) : Sp := fun vs H Q _ => ∃ v f, ∃ p : Nat, vs = [v, .int p] ∧ Pl K H f v ∧ Sup 64 64 f ∧ 3 ≤ p ∧ p ≤ 60 ∧ ∀ t g x y H', Same H H' → H' t = some (.tup [x, y]) → Pl K H' g x → Sup 64 64 g → Pl K H' (phx p 64 f) y → Q (.ref t) H'
abbrev nDivX : List Str := ["f", "p", "rows", "divisor", "quotient", "at", "lead", "m", "row", "j", "i"]
theorem scDivX : FnScope nDivX ["f", "p"] (defScope (top 25)) := ⟨rfl, rfl, rfl, by decide +kernel, rfl, by decide +kernel, by decide +kernel⟩
theorem c_divX (F : Df K mg "divided_in_x" (top 25)) (T : Bn mg) (C1 : Cal P w K mg base 1 "collected" (spCollected K)) (CR : Cal P w K mg base 1 "rows_of" (spRows K)) (CS : Cal P w K mg base 1 "step" (spStep K)) (CT : Cal P w K mg base 2 "terms_of" (spTerms K)) :
    Cal P w K mg base 3 "divided_in_x" (spDivX K) := by
  refine F.cal scDivX (fun _ _ _ _ _ _ us hl => match us, hl with | [_, _], _ => rfl) (fun vs H Q E h => ?_) (fun cdv A outer f s H vs Q E hr h => ?_)
  · obtain ⟨v, g, p, rfl, _⟩ := h
    rfl
  · obtain ⟨v, g, p, rfl, hg, sg, hp3, hp60, k⟩ := h
    have hu := hu_of hr
    refine ⟨_, pss_cons (ps_set (i := 2) scDivX.nd rfl (Or.inl rfl) (pe_c CR hr (by decide) rfl (pa_cons (pv 0) pa_nil)))
      (pss_cons (ps_if (pt_cmpR op_lt (pe_callB call_len_seq (by rfl) T.blen PySem.boot_len (pa_cons (pv 2) pa_nil)) (pv 1) (nomark _)) (pss_one (ps_ret (pe_tup (pa_cons (pe_lst pa_nil) (pa_cons (pe_c C1 hr (by decide) rfl (pa_cons (pv 0) pa_nil)) pa_nil))))) pss_nil)
      (pss_cons (ps_set (i := 3) scDivX.nd rfl (Or.inl rfl) (pe_c CS hr (by decide) rfl (pa_cons (pv 1) pa_nil)))
      (pss_cons (ps_lcA (i := 4) [("i", 10)] rfl scDivX.nd rfl rfl (sw_true rfl rfl rfl (by decide +kernel)) (pi_range1 rfl T.brange (pa_cons (pe_op op_add (pe_op op_sub (pe_callB call_len_seq (by rfl) T.blen PySem.boot_len (pa_cons (pv 2) pa_nil)) (pv 1)) pe_int) pa_nil)) (blkOk_by (N := nDivX) (sc := defScope (top 25)) (by decide +kernel)) (fun _ _ _ _ _ => pg_n 10 scDivX.nd))
      (pss_cons (ps_for PassesOwn.never rfl (pi_revR rfl T.brev (prg_1 rfl T.brange (pe_callB call_len_seq (by rfl) T.blen PySem.boot_len (pa_cons (pv 4) pa_nil)))) (pg_n 5 scDivX.nd)
        (pss_cons (ps_set (i := 6) scDivX.nd rfl (Or.inl rfl) (pe_callTy call_dictCopy (by rfl) T.bdict (by decide +kernel) (pa_cons (pe_ix ix_list (pv 2) (pe_op op_sub (pe_op op_add (pv 5) (pv 1)) pe_int) (fun _ _ => rfl)) pa_nil)))
        (pss_cons (ps_asg (pv 6) (pg_sub (pv 4) (pv 5) set_list))
        (pss_one (ps_for PassesOwn.never rfl (pi_range1 rfl T.brange (pa_cons (pv 1) pa_nil)) (pg_n 7 scDivX.nd)
          (pss_one (ps_if (pt_cmpR op_ne (pe_ix ix_list (pv 3) (pv 7) (fun _ _ => rfl)) pe_int (nomark _))
            (pss_cons (ps_set (i := 8) scDivX.nd rfl (Or.inl rfl) (pe_ix ix_list (pv 2) (pe_op op_add (pv 5) (pv 7)) (fun _ _ => rfl)))
            (pss_one (ps_lock (ps_for PassesOwn.never rfl (pi_keys (pv 6)) (pg_n 9 scDivX.nd)
              (pss_one (ps_dput hu (pv 8) (pv 9) (pe_op op_sub (pe_dget2 hu (pv 8) (pv 9) pe_int ⟨rfl, rfl, rfl, rfl⟩) (pe_op op_mul (pe_ix ix_list (pv 3) (pv 7) (fun _ _ => rfl)) (pe_dget hu (pv 6) (pv 9) (fun _ _ => rfl)))) rfl))))))
            pss_nil)))))))
      (pss_one (ps_ret (pe_tup (pa_cons (pe_c CT hr (by decide) rfl (pa_cons (pv 4) pa_nil)) (pa_cons (pe_c CT hr (by decide) rfl (pa_cons (pv 2) pa_nil)) pa_nil))))))))), ?_⟩
    refine ⟨_, rfl, v, g, rfl, hg, sg, fun a ds H1 s1 na ha hnd hds hR hdl hgd => ?_⟩
    refine ⟨_, rfl, a, _, rfl, .inl (.of ha), _, rfl, _, _, rfl, rfl, _, rfl, ?_⟩
    by_cases hlt : ds.length < p
    · refine iteDT (by rw [List.length_map]; omega) ?_
      refine ⟨(by show 0 ≤ sizeLine; decide), fun e ne => ?_⟩
      obtain ⟨ts, b, ws, rfl, qb, pb, nb, rfl, lb, _⟩ := hg.terms sg
      have s2 : Same H (upd H1 e (.lst [])) := Same.trans s1 (Same.new ne)
      refine ⟨_, rfl, _, ts, rfl, ⟨b, ws, rfl, Same.sL s2 qb, pmap pb fun _ _ r => Mo.t3 _ _ _ _ (Le.of s2) r⟩, by omega, fun y H2 s3 hy => ⟨(by show 2 ≤ sizeLine; decide), fun t nt => ?_⟩⟩
      refine k t 0 (.ref e) y _ (Same.trans s2 (Same.trans s3 (Same.new nt))) upd_same ⟨[], ⟨e, [], rfl, .of (Same.new nt _ _ (s3 _ _ upd_same)), .nil⟩, ⟨List.nodup_nil, by simp⟩, rfl⟩ (Sup.zero _ _) ?_
      have e1 : phx p 64 (cf ts) = cf ts := by
        rw [phx_le p (n := ds.length) hgd 64 hdl]
        exact phx_self p ds.length (cf ts) (by omega) hgd
      rw [e1]
      exact Mo.pl _ _ _ _ (Le.new nt) hy
    · refine iteDF (by rw [List.length_map]; omega) ?_
      refine ⟨_, rfl, p, rfl, by omega, by omega, fun dv H2 s2 ndv hdv => ?_⟩
      have ha2 := s2 _ _ ha
      refine ⟨[some v, some (.int p), some (.ref a), some (.ref dv), none, none, none, none, none, none, none], rfl, _, rfl, a, _, rfl, .inl (.of ha2), _, rfl, _, _, rfl, rfl, _, _, rfl, rfl, _, rfl, by rw [List.length_map]; omega, by rw [List.length_map]; omega, fun q nq => ?_⟩
      have en : ((((ds.map V.ref).length : Int) - (p : Int)) + 1).toNat = ds.length - p + 1 := by rw [List.length_map]; omega
      rw [en]
      refine lc2_out (F := fun Nx x H' => gName 10 x [some v, some (.int p), some (.ref a), some (.ref dv), none, none, none, none, none, none, none] H' fun σ2 H2 => wipe σ2 [10] = [some v, some (.int p), some (.ref a), some (.ref dv), none, none, none, none, none, none, none] ∧ tYes σ2 H2 fun b H3 => if b = true then tHide _ σ2 H3 fun y H4 => ∃ acc, H4 q = some (.lst acc) ∧ acc.length < sizeLine ∧ Nx (upd H4 q (.lst (acc ++ [y]))) else Nx H3)
        walk_range (fun i H3 => Same H2 H3 ∧ ∃ qs : List Addr, qs.length = i ∧ H3 q = some (.lst (qs.map V.ref)) ∧ qs.Nodup ∧ ∀ d ∈ qs, H2 d = none ∧ d ≠ q ∧ H3 d = some (.dK [])) ⟨Same.new nq, [], rfl, upd_same, List.nodup_nil, fun _ z => (List.not_mem_nil z).elim⟩ (fun _ _ _ _ => trivial) ?_ ?_
      · rintro i x _ H3 hi ⟨s3, qs, hl, hd2, hnd, hqs⟩ ⟨rfl, rfl⟩
        refine ⟨rfl, yes_ (hide0 ?_)⟩
        intro s' H0' C cl fp
        refine ⟨_, pe_dnewK, ?_⟩
        intro d nd
        have hdD : d ≠ q := (ne_of_none hd2 nd).symm
        refine ⟨_, by rw [upd_ne hdD.symm]; exact hd2, by rw [List.length_map, hl]; exact Nat.lt_of_le_of_lt (m := 64) (by omega) (by decide), ?_⟩
        refine ⟨Same.upd (Same.trans s3 (Same.new nd)) nq, qs ++ [d], by simp [hl], by rw [upd_same, List.map_append]; rfl, ?_, fun e he => ?_⟩
        · rw [List.nodup_append]
          refine ⟨hnd, by simp, fun x hx y hy => ?_⟩
          obtain rfl : y = d := by simpa using hy
          exact ne_of_none (hqs x hx).2.2 nd
        · rcases List.mem_append.mp he with he | he
          · obtain ⟨h1, h2, h3⟩ := hqs e he
            exact ⟨h1, h2, by rw [upd_ne h2, upd_ne (ne_of_none h3 nd)]; exact h3⟩
          · obtain rfl : e = d := by simpa using he
            exact ⟨s3.free nd, hdD, by rw [upd_ne hdD, upd_same]⟩
      · rintro H3 ⟨s3, qs, hql, hq3, hqnd, hqs⟩
        have s03 : Same H H3 := Same.trans s1 (Same.trans s2 s3)
        refine ⟨_, rfl, q, _, rfl, .inl (.of hq3), _, rfl, by decide, by decide, by rw [List.length_map]; omega, by rw [List.length_map]; omega, ?_⟩
        have en2 : (((qs.map V.ref).length : Int) - 0).toNat = ds.length - p + 1 := by rw [List.length_map]; omega
        rw [en2]
        have hdsq : ∀ d, d ∈ qs → d ∉ ds := fun d hd hd' => by
          obtain ⟨i, hi⟩ := List.getElem?_of_mem hd'
          obtain ⟨kvs, h1, _⟩ := hR i d hi
          have := s2 _ _ h1
          rw [(hqs d hd).1] at this
          cases this
        refine for_it walk_rangeC (fun t σ H4 => ∃ x5 x6 x7 x8 x9, σ = [some v, some (.int p), some (.ref a), some (.ref dv), some (.ref q), x5, x6, x7, x8, x9, none] ∧ Same H H4 ∧ H4 a = some (.lst (ds.map V.ref)) ∧ H4 dv = some (.lst ((scL p).map V.int)) ∧
            ∃ qs G F, H4 q = some (.lst (qs.map V.ref)) ∧ qs.length = ds.length - p + 1 ∧ qs.Nodup ∧ (∀ d ∈ qs, d ∉ ds) ∧ RowsAt H4 qs G ∧ RowsAt H4 ds F ∧ phx p 64 F = phx p 64 g ∧ ∀ i j, ds.length - t ≤ i → F i j = 0)
          ⟨none, none, none, none, none, rfl, s03, s3 _ _ ha2, s3 _ _ hdv, qs, 0, g, hq3, hql, hqnd, hdsq, fun i d e => ⟨[], (hqs d (List.mem_of_getElem? e)).2.2, RowD.nil⟩, (hR.same s2).same s3, rfl, fun i j h => hgd i j (by omega)⟩ (fun _ _ _ _ _ => trivial) ?_ ?_
        · rintro t x σ _ H4 ht ⟨x5, x6, x7, x8, x9, rfl, s4, ha4, hdv4, qs, G, F, hq4, hql, hqnd, hdsq, hRq, hRd, hph, hz⟩ ⟨rfl, ex⟩
          obtain ⟨at_, hat⟩ : ∃ at_ : Nat, at_ = ds.length - p - t := ⟨_, rfl⟩
          obtain rfl : x = .int (at_ : Int) := ex.trans (congrArg V.int (by omega))
          have htop : at_ + p - 1 < ds.length := by omega
          have etop : ds[at_ + p - 1]? = some ds[at_ + p - 1] := List.getElem?_eq_getElem htop
          obtain ⟨kv0, hk0, hk1⟩ := hRd _ _ etop
          refine ⟨_, rfl, _, rfl, _, rfl, _, _, rfl, rfl, _, _, rfl, rfl, a, _, _, _, rfl, rfl, .of ha4, atI_of (i := at_ + p - 1) (v := .ref ds[at_ + p - 1]) (by rw [List.getElem?_map, etop]; rfl) (by omega), ds[at_ + p - 1], kv0, rfl, .inl hk0, fun d nd => ?_⟩
          have hdds : d ∉ ds := fun hd => by
            obtain ⟨i, hi⟩ := List.getElem?_of_mem hd
            obtain ⟨kvs, h1, _⟩ := hRd i d hi
            rw [nd] at h1
            cases h1
          have hdqs : d ∉ qs := fun hd => by
            obtain ⟨i, hi⟩ := List.getElem?_of_mem hd
            obtain ⟨kvs, h1, _⟩ := hRq i d hi
            rw [nd] at h1
            cases h1
          have hdq : d ≠ q := (ne_of_none hq4 nd).symm
          have hq5 : (upd H4 d (.dK kv0)) q = some (.lst (qs.map V.ref)) := by rw [upd_ne hdq.symm]; exact hq4
          have hix : ixN (qs.map V.ref).length (at_ : Int) = some at_ := by
            unfold ixN
            rw [if_pos (by omega), List.length_map, if_pos (by omega)]
            congr 1
          refine ⟨_, rfl, _, rfl, _, rfl, q, _, _, at_, rfl, rfl, hq5, hix, ?_⟩
          obtain ⟨H5, hH5⟩ : ∃ H5, H5 = upd (upd H4 d (.dK kv0)) q (.lst ((qs.map V.ref).set at_ (.ref d))) := ⟨_, rfl⟩
          rw [← hH5]
          have nq0 : H q = none := s1.free (s2.free nq)
          have s5 : Same H H5 := by rw [hH5]; exact Same.upd (Same.trans s4 (Same.new nd)) nq0
          have k5 : ∀ b, b ≠ d → b ≠ q → H5 b = H4 b := fun b h1 h2 => by rw [hH5, upd_ne h2, upd_ne h1]
          have hd5 : H5 d = some (.dK kv0) := by rw [hH5, upd_ne hdq, upd_same]
          have hq6 : H5 q = some (.lst ((qs.set at_ d).map V.ref)) := by rw [hH5, upd_same, List.map_set]
          have haq : a ≠ q := fun e => by rw [e] at ha2; rw [nq] at ha2; cases ha2
          have had : a ≠ d := ne_of_none ha4 nd
          have hdvq : dv ≠ q := fun e => by rw [e] at hdv; rw [nq] at hdv; cases hdv
          have hdvd : dv ≠ d := ne_of_none hdv4 nd
          have ha5 : H5 a = some (.lst (ds.map V.ref)) := by rw [k5 a had haq]; exact ha4
          have hdv5 : H5 dv = some (.lst ((scL p).map V.int)) := by rw [k5 dv hdvd hdvq]; exact hdv4
          have hR5 : RowsAt H5 ds F := fun i e he => by
            obtain ⟨kvs, h1, h2⟩ := hRd i e he
            refine ⟨kvs, ?_, h2⟩
            rw [k5 e (ne_of_none h1 nd) (ne_of h1 hq4 (by intro z; cases z))]
            exact h1
          have hadsn : a ∉ ds := fun hm => by
            obtain ⟨i, hi⟩ := List.getElem?_of_mem hm
            obtain ⟨kvs, h1, _⟩ := hRd i a hi
            rw [ha4] at h1
            cases h1
          have hdvdsn : dv ∉ ds := fun hm => by
            obtain ⟨i, hi⟩ := List.getElem?_of_mem hm
            obtain ⟨kvs, h1, _⟩ := hRd i dv hi
            rw [hdv4] at h1
            cases h1
          have hqdsn : q ∉ ds := fun hm => by
            obtain ⟨i, hi⟩ := List.getElem?_of_mem hm
            obtain ⟨kvs, h1, _⟩ := hRd i q hi
            rw [hq4] at h1
            cases h1
          obtain ⟨js, ejs, njs, bjs, zjs⟩ := hk1.nums
          -- the loop over m
          refine ⟨_, rfl, _, rfl, by omega, by omega, ?_⟩
          rw [Int.toNat_natCast]
          refine for_it walk_range (fun m σ H6 => ∃ x7 x8 x9, σ = [some v, some (.int p), some (.ref a), some (.ref dv), some (.ref q), some (.int at_), some (.ref d), x7, x8, x9, none] ∧ (∀ b, b ∉ ds → H6 b = H5 b) ∧ RowsAt H6 ds (stepF p at_ m (F (at_ + p - 1)) F))
            ⟨x7, x8, x9, rfl, fun _ _ => rfl, by rw [stepF_zero]; exact hR5⟩ (fun _ _ _ _ _ => trivial) ?_ ?_
          · rintro m x σ _ H6 hm ⟨x7, x8, x9, rfl, k6, hR6⟩ ⟨rfl, ex⟩
            obtain rfl : x = .int (m : Int) := ex.trans (congrArg V.int (by omega))
            have hdv6 : H6 dv = some (.lst ((scL p).map V.int)) := by rw [k6 dv hdvdsn]; exact hdv5
            have ha6 : H6 a = some (.lst (ds.map V.ref)) := by rw [k6 a hadsn]; exact ha5
            have hd6 : H6 d = some (.dK kv0) := by rw [k6 d hdds]; exact hd5
            refine ⟨_, rfl, _, rfl, dv, _, _, _, rfl, rfl, .of hdv6, atI_map (i := m) 0 (by rw [scL_len]; exact hm) rfl, rfl, _, rfl, ?_⟩
            rw [scL_get hm]
            by_cases hsc : Sc p m = 0
            · rw [hsc]
              refine iteF ?_
              refine ⟨_, _, _, rfl, k6, ?_⟩
              refine cast (congrArg (RowsAt H6 ds) (C.ext fun i j => ?_)) hR6
              unfold stepF
              by_cases h1 : at_ ≤ i ∧ i < at_ + m
              · rw [if_pos h1, if_pos (by omega)]
              · rw [if_neg h1]
                by_cases h2 : at_ ≤ i ∧ i < at_ + (m + 1)
                · have : i - at_ = m := by omega
                  rw [if_pos h2, this, hsc]
                  omega
                · rw [if_neg h2]
            · have hne : (!decide (V.int (Sc p m) = V.int 0)) = true := by simp [hsc]
              rw [hne]
              refine iteT ?_
              have hmr : at_ + m < ds.length := by omega
              have emr : ds[at_ + m]? = some ds[at_ + m] := List.getElem?_eq_getElem hmr
              obtain ⟨kvr, hr0, hr1⟩ := hR6 _ _ emr
              obtain ⟨r, hrr⟩ : ∃ r, r = ds[at_ + m] := ⟨_, rfl⟩
              rw [← hrr] at emr hr0
              have hrd : r ≠ d := fun e => hdds (by rw [← e]; exact List.mem_of_getElem? emr)
              refine ⟨_, rfl, _, rfl, _, rfl, _, _, rfl, rfl, a, _, _, _, rfl, rfl, .of ha6, atI_of (i := at_ + m) (v := .ref r) (by rw [List.getElem?_map, emr]; rfl) (by omega), ?_⟩
              refine ⟨d, _, hd6, trivial, fun od => ?_⟩
              refine ⟨_, rfl, d, od, rfl, .inl ⟨kv0, upd_same, ?_⟩⟩
              have hg0 : ∀ x, stepF p at_ m (F (at_ + p - 1)) F (at_ + m) x = F (at_ + m) x := fun x => by
                unfold stepF
                rw [if_neg (by omega)]
                omega
              refine for_it walk_keys (fun jj σ H7 => ∃ x9, σ = [some v, some (.int p), some (.ref a), some (.ref dv), some (.ref q), some (.int at_), some (.ref d), some (.int m), some (.ref r), x9, none] ∧ (∀ b, b ≠ r → H7 b = (upd H6 d (.frz od (.dK kv0))) b) ∧
                  ∃ kvs, H7 r = some (.dK kvs) ∧ RowD kvs fun x => F (at_ + m) x - if x ∈ js.take jj then Sc p m * F (at_ + p - 1) x else 0)
                ⟨x9, rfl, fun _ _ => rfl, kvr, by rw [upd_ne hrd]; exact hr0, ?_⟩ (fun jj σ H7 _ ⟨_, _, k7, _⟩ => by rw [k7 d hrd.symm]; exact upd_same) ?_ ?_
              · refine cast (congrArg (RowD kvr) (funext fun x => ?_)) hr1
                rw [hg0 x]
                simp
              · rintro jj x σ _ H7 hjj ⟨x9, rfl, k7, kvs, hr7, hrow⟩ ⟨rfl, kk, vv, ekv, rfl⟩
                rw [ejs, List.getElem?_map] at ekv
                cases ej : js[jj]? with
                | none => rw [ej] at ekv; cases ekv
                | some j =>
                rw [ej] at ekv
                simp only [Option.map_some, Option.some.injEq, Prod.mk.injEq] at ekv
                obtain ⟨rfl, rfl⟩ := ekv
                have hjm : j ∈ js := List.mem_of_getElem? ej
                have hdv7 : H7 dv = some (.lst ((scL p).map V.int)) := by
                  rw [k7 dv (fun e => hdvdsn (by rw [e]; exact List.mem_of_getElem? emr)), upd_ne hdvd]
                  exact hdv6
                have hd7 : H7 d = some (.frz od (.dK kv0)) := by rw [k7 d hrd.symm]; exact upd_same
                have hval : valV kv0 (Sum.inl (j : Int)) = some (.int (F (at_ + p - 1) j)) := by
                  have := val_nodup hk1.nd (Sum.inl (j : Int), V.int (F (at_ + p - 1) j)) (by rw [ejs]; exact List.mem_map.mpr ⟨j, hjm, rfl⟩)
                  exact this
                refine ⟨_, rfl, r, rfl, .inl ⟨kvs, .inl hr7⟩, _, rfl, _, DGet.k (k := Sum.inl (j : Int)) hr7, ?_⟩
                refine ⟨_, rfl, _, rfl, dv, _, _, _, rfl, rfl, .of hdv7, atI_map (i := m) 0 (by rw [scL_len]; exact hm) rfl, ?_⟩
                rw [scL_get hm]
                refine ⟨_, rfl, _, rfl, d, _, rfl, .inl ⟨kv0, Sum.inl (j : Int), .inr ⟨od, hd7⟩, rfl, hval.symm⟩, ?_⟩
                refine ⟨_, _, rfl, rfl, .inl (Sc_small hp60), F (at_ + m) j, _, ?_, rfl, ?_⟩
                · rcases hrow.val j with ⟨e, e2⟩ | e
                  · rw [e]
                    rw [if_neg (not_mem_take njs ej)] at e2
                    show V.int 0 = _
                    congr 1
                    omega
                  · rw [e]
                    rw [if_neg (not_mem_take njs ej)]
                    show V.int _ = _
                    congr 1
                    omega
                · refine ⟨_, rfl, _, rfl, r, _, rfl, DPut.k (k := Sum.inl (j : Int)) hr7 (Nat.lt_of_le_of_lt hrow.len (by decide)), ?_⟩
                  refine ⟨_, rfl, fun b hb => by rw [upd_ne hb]; exact k7 b hb, _, upd_same, ?_⟩
                  refine cast (congrArg (RowD _) (funext fun x => ?_)) (hrow.put (F (at_ + m) j - Sc p m * F (at_ + p - 1) j) (bjs j hjm))
                  by_cases hx : x = j
                  · subst hx
                    rw [if_pos rfl, if_pos ((mem_take_succ njs ej x).mpr (.inr rfl))]
                  · rw [if_neg hx]
                    by_cases hx2 : x ∈ js.take jj
                    · rw [if_pos hx2, if_pos ((mem_take_succ njs ej x).mpr (.inl hx2))]
                    · rw [if_neg hx2, if_neg (fun z => ((mem_take_succ njs ej x).mp z).elim hx2 hx)]
              · rintro σ H7 ⟨x9, rfl, k7, kvs, hr7, hrow⟩
                refine ⟨by rw [k7 d hrd.symm]; exact upd_same, _, _, _, rfl, fun b hb => ?_, fun i e he => ?_⟩
                · by_cases hbd : b = d
                  · subst hbd
                    rw [upd_same]
                    exact hd5.symm
                  · rw [upd_ne hbd, k7 b (fun e => hb (by rw [e]; exact List.mem_of_getElem? emr)), upd_ne hbd]
                    exact k6 b hb
                · have hed : e ≠ d := fun z => hdds (by rw [← z]; exact List.mem_of_getElem? he)
                  by_cases hir : i = at_ + m
                  · subst hir
                    rw [emr] at he
                    cases he
                    refine ⟨kvs, by rw [upd_ne hrd]; exact hr7, ?_⟩
                    refine cast (congrArg (RowD kvs) (funext fun x => ?_)) hrow
                    have e1 : stepF p at_ (m + 1) (F (at_ + p - 1)) F (at_ + m) x = F (at_ + m) x - Sc p m * F (at_ + p - 1) x := by
                      unfold stepF
                      rw [if_pos (by omega), Nat.add_sub_cancel_left]
                    have e2 : js.take kv0.length = js := by rw [ejs, List.length_map, List.take_length]
                    rw [e1, e2]
                    by_cases hx : x ∈ js
                    · rw [if_pos hx]
                    · rw [if_neg hx, zjs x hx, Int.mul_zero]
                  · obtain ⟨kvs', h1, h2⟩ := hR6 i e he
                    refine ⟨kvs', by rw [upd_ne hed, k7 e (fun z => hir (nodup_at hnd he (by rw [z]; exact emr))), upd_ne hed]; exact h1, ?_⟩
                    refine cast (congrArg (RowD kvs') (funext fun x => ?_)) h2
                    unfold stepF
                    by_cases h1 : at_ ≤ i ∧ i < at_ + m
                    · rw [if_pos h1, if_pos (by omega)]
                    · rw [if_neg h1, if_neg (by omega)]
          · rintro σ H6 ⟨x7, x8, x9, rfl, k6, hR6⟩
            rw [stepF_end] at hR6
            have s6 : Same H H6 := fun b o e => by
              rw [k6 b (fun hm => ?_)]
              · exact s5 b o e
              · rw [hds b hm] at e
                cases e
            refine ⟨_, _, _, _, _, rfl, s6, by rw [k6 a hadsn]; exact ha5, by rw [k6 dv hdvdsn]; exact hdv5, qs.set at_ d, (fun i => if i = at_ then F (at_ + p - 1) else G i), _, by rw [k6 q hqdsn]; exact hq6, by rw [List.length_set]; exact hql, nodup_set hqnd hdqs at_, fun e he => ?_, fun i e he => ?_, hR6, ?_, fun i j hi => ?_⟩
            · rcases List.mem_or_eq_of_mem_set he with he | rfl
              · exact hdsq e he
              · exact hdds
            · rw [List.getElem?_set] at he
              by_cases hia : at_ = i
              · subst hia
                rw [if_pos rfl, if_pos (by omega)] at he
                cases he
                exact ⟨kv0, by rw [k6 d hdds]; exact hd5, by simp only [if_true]; exact hk1⟩
              · rw [if_neg hia] at he
                obtain ⟨kvs, h1, h2⟩ := hRq i e he
                have hem := List.mem_of_getElem? he
                refine ⟨kvs, by rw [k6 e (hdsq e hem), k5 e (ne_of_none h1 nd) (ne_of h1 hq4 (by intro z; cases z))]; exact h1, ?_⟩
                show RowD kvs (if i = at_ then F (at_ + p - 1) else G i)
                rw [if_neg (fun z : i = at_ => hia z.symm)]
                exact h2
            · rw [C.sub_eq, phx_add, phx_neg, phx_mulS p (by omega) _ at_ 64 (by omega), C.neg_zero, C.add_zero]
              exact hph
            · rw [C.sub_at]
              unfold mulS
              by_cases h1 : at_ ≤ i
              · rw [if_pos h1]
                by_cases h2 : i = at_ + p - 1
                · subst h2
                  have e1 : at_ + p - 1 - at_ = p - 1 := by omega
                  obtain ⟨r, hrp⟩ : ∃ r, p = r + 1 := ⟨p - 1, by omega⟩
                  have e2 : Sc p (p - 1) = 1 := by rw [hrp]; exact Sc_lead r
                  rw [e1, e2]
                  omega
                · rw [hz i j (by omega), Sc_top p _ (by omega)]
                  omega
              · omega
        · rintro σ H4 ⟨x5, x6, x7, x8, x9, rfl, s4, ha4, hdv4, qs, G, F, hq4, hql, hqnd, hdsq, hRq, hRd, hph, hz⟩
          refine ⟨_, rfl, q, qs, G, rfl, .of hq4, hqnd, hRq, by omega, fun x H5 s5 hx => ?_⟩
          refine ⟨_, rfl, a, ds, F, rfl, .of (s5 _ _ ha4), hnd, hRd.same s5, hdl, fun y H6 s6 hy => ⟨(by show 2 ≤ sizeLine; decide), fun t nt => ?_⟩⟩
          refine k t _ x y _ (Same.trans s4 (Same.trans s5 (Same.trans s6 (Same.new nt)))) upd_same (Mo.pl _ _ _ _ (Le.of (Same.trans s6 (Same.new nt))) hx) ?_ ?_
          · intro i j h
            unfold cut
            by_cases hi : i < qs.length
            · rw [if_pos hi]
              obtain ⟨kvs, _, hrow⟩ := hRq i _ (List.getElem?_eq_getElem hi)
              exact hrow.far (h.elim (fun h => by omega) id)
            · rw [if_neg hi]
          · have e : cut ds.length F = phx p 64 g := by
              rw [← hph]
              have h1 : cut ds.length F = F := C.ext fun i j => by
                unfold cut
                by_cases hi : i < ds.length
                · rw [if_pos hi]
                · rw [if_neg hi, hz i j (by omega)]
              rw [h1, phx_le p (n := p - 1) (fun i j h => hz i j (by omega)) 64 (by omega)]
              exact (phx_self p (p - 1) F (Nat.le_refl _) (fun i j h => hz i j (by omega))).symm
            rw [e] at hy
            exact Mo.pl _ _ _ _ (Le.new nt) hy
end
end W5
set_option maxHeartbeats 8000000
/-! W5P7: divided. -/
namespace W5
open PySem L2 K5
theorem phy_tr (q : Nat) : ∀ (n : Nat) (f : K5.C), phy q n f = tr (phx q n (tr f))
  | 0, f => rfl
  | n + 1, f => by
    show csty f + Yq q (phy q n (taily f)) = tr (cstx (tr f) + Xp q (phx q n (tailx (tr f))))
    rw [phy_tr q n (taily f), Yq_tr]
    rfl
theorem tr_tr (f : K5.C) : tr (tr f) = f := rfl
theorem Sup.tr {n m : Nat} {f : K5.C} (h : Sup n m f) : Sup m n (tr f) := fun i j e => h j i e.symm
theorem sup_phx {p n m : Nat} {f : K5.C} (hp : 2 ≤ p) (hp' : p ≤ 64) (h : Sup n m f) : Sup 64 m (phx p 64 f) := (phx_sup p hp 64 m f (fun i j hj => h i j (.inr hj))).mono (by omega) (Nat.le_refl _)
section
variable {P : Program} {w : World} {K : PySem.W.Frag} {mg : Str → Option Value} {base : Heap}
/-- the third of divided: the rest -/
def spDiv (K : PySem.W.Frag) : Sp := fun vs H Q _ => ∃ v f, ∃ p q : Nat, vs = [v, .int p, .int q] ∧ Pl K H f v ∧ Sup 64 64 f ∧ 3 ≤ p ∧ p ≤ 60 ∧ 3 ≤ q ∧ q ≤ 60 ∧ ∀ t x y z H', Same H H' → H' t = some (.tup [x, y, z]) → Pl K H' (rst p q f) z → Q (.ref t) H'
abbrev nDiv : List Str := ["f", "p", "q", "first", "left", "second", "remainder"]
theorem scDiv : FnScope nDiv ["f", "p", "q"] (defScope (top 26)) := ⟨rfl, rfl, rfl, by decide +kernel, rfl, by decide +kernel, by decide +kernel⟩
theorem c_div (F : Df K mg "divided" (top 26)) (CD : Cal P w K mg base 3 "divided_in_x" (spDivX K)) (CW : Cal P w K mg base 2 "swapped" (spUn K tr)) :
    CalK P w K mg base 4 "divided" 1 ["p", "q"] (spDiv K) := by
  refine F.calK scDiv (fun _ _ _ _ _ _ us ws h1 h2 => match us, ws, h1, h2 with | [_], [_, _], _, _ => rfl) (fun vs H Q E h => ?_) (fun cdv A outer f s H vs Q E hr h => ?_)
  · obtain ⟨v, g, p, q, rfl, _⟩ := h
    rfl
  · obtain ⟨v, g, p, q, rfl, hg, sg, hp3, hp60, hq3, hq60, k⟩ := h
    refine ⟨_, pss_cons (ps_if (PW.pt (pw_or (pt_cmpR op_lt (pv 1) pe_int (nomark _)) (pw_or1 (pt_cmpR op_lt (pv 2) pe_int (nomark _))))) pss_never pss_nil)
      (pss_cons (ps_asg (pe_c CD hr (by decide) rfl (pa_cons (pv 0) (pa_cons (pv 1) pa_nil))) (pg_2K rfl (pg_n 3 scDiv.nd) (pg_n 4 scDiv.nd)))
      (pss_cons (ps_asg (pe_c CD hr (by decide) rfl (pa_cons (pe_c CW hr (by decide) rfl (pa_cons (pv 4) pa_nil)) (pa_cons (pv 2) pa_nil))) (pg_2K rfl (pg_n 5 scDiv.nd) (pg_n 6 scDiv.nd)))
      (pss_one (ps_ret (pe_tup (pa_cons (pv 3) (pa_cons (pe_c CW hr (by decide) rfl (pa_cons (pv 5) pa_nil)) (pa_cons (pe_c CW hr (by decide) rfl (pa_cons (pv 6) pa_nil)) pa_nil)))))))), ?_⟩
    refine ⟨_, rfl, _, _, rfl, rfl, _, rfl, iteDF (by omega) ?_⟩
    refine ⟨_, rfl, _, _, rfl, rfl, _, rfl, iteDF (by omega) ?_⟩
    refine ⟨_, rfl, _, rfl, v, g, p, rfl, hg, sg, hp3, hp60, fun t1 g1 x1 y1 H1 s1 ht1 hx1 sg1 hy1 => ?_⟩
    refine ⟨t1, _, rfl, .of ht1, rfl, _, _, rfl, _, _, rfl, rfl, ?_⟩
    have sy1 := sup_phx (p := p) (by omega) (by omega) sg
    refine ⟨_, rfl, y1, _, rfl, hy1, sy1, fun w1 H2 s2 hw1 => ?_⟩
    refine ⟨_, rfl, w1, _, q, rfl, hw1, (Sup.tr sy1), hq3, hq60, fun t2 g2 x2 y2 H3 s3 ht2 hx2 sg2 hy2 => ?_⟩
    refine ⟨t2, _, rfl, .of ht2, rfl, _, _, rfl, _, _, rfl, rfl, ?_⟩
    have sy2 := sup_phx (p := q) (by omega) (by omega) (Sup.tr sy1)
    refine ⟨_, rfl, _, rfl, x2, g2, rfl, hx2, sg2, fun w2 H4 s4 hw2 => ?_⟩
    refine ⟨_, rfl, y2, _, rfl, Mo.pl _ _ _ _ (Le.of s4) hy2, sy2, fun w3 H5 s5 hw3 => ⟨(by show 3 ≤ sizeLine; decide), fun t nt => ?_⟩⟩
    refine k t _ _ w3 _ (Same.trans s1 (Same.trans s2 (Same.trans s3 (Same.trans s4 (Same.trans s5 (Same.new nt)))))) upd_same ?_
    have e : rst p q g = tr (phx q 64 (tr (phx p 64 g))) := by unfold rst; rw [phy_tr]
    rw [e]
    exact Mo.pl _ _ _ _ (Le.new nt) hw3
end
end W5
set_option maxHeartbeats 8000000
/-! W5N: the module numbers. -/
namespace W5
open PySem L2 K5
def Num (K : PySem.W.Frag) : RD N4 := fun H z v => ∃ t a b c d, v = .ref t ∧ SqT K H t [a, b, c, d] ∧ Pl K H z.a a ∧ Pl K H z.b b ∧ Pl K H z.c c ∧ Pl K H z.d d
theorem Mo.num {K : PySem.W.Frag} : Mo (Num K) := fun H H' x v s ⟨t, a, b, c, d, e, q, h1, h2, h3, h4⟩ => ⟨t, a, b, c, d, e, s.sT q, Mo.pl _ _ _ _ s h1, Mo.pl _ _ _ _ s h2, Mo.pl _ _ _ _ s h3, Mo.pl _ _ _ _ s h4⟩
def S4 (m : Nat) (z : N4) : Prop := Sup m m z.a ∧ Sup m m z.b ∧ Sup m m z.c ∧ Sup m m z.d
theorem S4.up {m n : Nat} {z : N4} (h : S4 m z) (l : m ≤ n) : S4 n z := ⟨h.1.mono l l, h.2.1.mono l l, h.2.2.1.mono l l, h.2.2.2.mono l l⟩
theorem supX {m : Nat} {f : K5.C} (h : Sup m m f) : Sup (m + 1) (m + 1) (shx f) := h.shx.mono (Nat.le_refl _) (by omega)
theorem supY {m : Nat} {f : K5.C} (h : Sup m m f) : Sup (m + 1) (m + 1) (shy f) := h.shy.mono (by omega) (Nat.le_refl _)
theorem supU {m : Nat} {f : K5.C} (h : Sup m m f) : Sup (m + 1) (m + 1) f := h.mono (by omega) (by omega)
theorem S4.T {m : Nat} {z : N4} (h : S4 m z) : S4 (m + 1) (K5.T Po z) := ⟨(supX h.2.2.1).sub (supU h.2.1), ((supU h.1).add (supY h.2.1)).add (supX h.2.2.2), (supY h.2.2.1).add (supU h.2.2.2), (supU h.2.2.1).neg⟩
theorem S4.R {m : Nat} {z : N4} (h : S4 m z) : S4 (m + 1) (K5.R Po z) := ⟨((supY h.1).add (supU h.2.1)).sub (supX h.2.2.1), ((supU h.1).add (supX h.2.2.2)).neg, (supU h.2.2.2).neg, (supU h.2.2.1).add (supY h.2.2.2)⟩
theorem S4.G {m : Nat} {z : N4} (h : S4 m z) : S4 m (K5.G z) := ⟨h.2.2.1.neg, h.2.2.2.neg, h.1, h.2.1⟩
theorem S4.one : S4 1 K5.one := ⟨fun i j e => if_neg (by omega), Sup.zero _ _, Sup.zero _ _, Sup.zero _ _⟩
theorem S4.Tn {m : Nat} {z : N4} (h : S4 m z) : ∀ k, S4 (m + k) (K5.Tn Po k z)
  | 0 => h
  | k + 1 => by rw [Tn_succ]; exact (S4.Tn h k).T
theorem S4.Rn {m : Nat} {z : N4} (h : S4 m z) : ∀ k, S4 (m + k) (K5.Rn Po k z)
  | 0 => h
  | k + 1 => by rw [Rn_succ]; exact (S4.Rn h k).R
theorem S4.turn {m : Nat} {z : N4} (h : S4 m z) (k : Int) : S4 (m + k.natAbs) (turnK Po k z) := by
  unfold turnK
  by_cases hk : 0 < k
  · rw [if_pos hk]
    have := h.Tn k.toNat
    rw [show k.toNat = k.natAbs by omega] at this ⊢
    exact this
  · rw [if_neg hk]
    have := h.Rn (-k).toNat
    rw [show (-k).toNat = k.natAbs by omega] at this ⊢
    exact this
theorem rvr (a : Addr) : RelV (.ref a) (.ref a) := rfl
/-- X, Y of the module -/
structure XY (K : PySem.W.Frag) (mg : Str → Option Value) (aX aY : Addr) : Prop where
  mX : mg "X" = some (.ref aX)
  mY : mg "Y" = some (.ref aY)
  tX : ∀ H, Tp K (T3 K) H [(1, 0, 1)] (.ref aX)
  tY : ∀ H, Tp K (T3 K) H [(0, 1, 1)] (.ref aY)
section
variable {P : Program} {w : World} {K : PySem.W.Frag} {mg : Str → Option Value} {base : Heap} {aX aY : Addr}
def spOne (K : PySem.W.Frag) : Sp := fun vs H Q _ => vs = [] ∧ ∀ v H', Same H H' → Num K H' K5.one v → Q v H'
theorem scOne : FnScope [] [] (defScope (top 30)) := ⟨rfl, rfl, rfl, by decide +kernel, rfl, by decide +kernel, by decide +kernel⟩
theorem Pl.nil {H : Hp} {a : Addr} (h : H a = some (.lst [])) : Pl K H 0 (.ref a) := ⟨[], ⟨a, [], rfl, .of h, .nil⟩, ⟨List.nodup_nil, by simp⟩, rfl⟩
theorem c_one (F : Df K mg "one" (top 30)) : Cal P w K mg base 1 "one" (spOne K) := by
  refine F.cal scOne (fun _ _ _ _ _ _ us hl => match us, hl with | [], _ => rfl) (fun vs H Q E h => ?_) (fun cdv A outer f s H vs Q E hr h => ?_)
  · obtain ⟨rfl, _⟩ := h
    rfl
  · obtain ⟨rfl, k⟩ := h
    refine ⟨_, pss_one (ps_ret (pe_tup (pa_cons (pe_lst (pa_cons (pe_tup (pa_cons pe_int (pa_cons pe_int (pa_cons pe_int pa_nil)))) pa_nil)) (pa_cons (pe_lst pa_nil) (pa_cons (pe_lst pa_nil) (pa_cons (pe_lst pa_nil) pa_nil)))))), ?_⟩
    refine ⟨(by show 3 ≤ sizeLine; decide), fun t nt => ⟨(by show 1 ≤ sizeLine; decide), fun a na => ⟨(by show 0 ≤ sizeLine; decide), fun b nb => ⟨(by show 0 ≤ sizeLine; decide), fun c nc => ⟨(by show 0 ≤ sizeLine; decide), fun d nd => ⟨(by show 4 ≤ sizeLine; decide), fun q nq => ?_⟩⟩⟩⟩⟩⟩
    have sd := Same.new (o := .tup [.ref a, .ref b, .ref c, .ref d]) nq
    have sc := Same.trans (Same.new (o := .lst []) nd) sd
    have sb := Same.trans (Same.new (o := .lst []) nc) sc
    have sa := Same.trans (Same.new (o := .lst []) nb) sb
    have st := Same.trans (Same.new (o := .lst [.ref t]) na) sa
    refine k _ _ (Same.trans (Same.new nt) st) ⟨q, _, _, _, _, rfl, .of upd_same, ⟨[(0, 0, 1)], ⟨a, _, rfl, .of (sa _ _ upd_same), .cons ⟨t, rfl, .of (st _ _ upd_same)⟩ .nil⟩, ⟨by simp, by simp⟩, ?_⟩, Pl.nil (sb _ _ upd_same), Pl.nil (sc _ _ upd_same), Pl.nil (sd _ _ upd_same)⟩
    refine C.ext fun i j => ?_
    rw [cf_cons]
    show _ + (0 : Int) = if i = 0 ∧ j = 0 then 1 else 0
    by_cases e : i = 0 ∧ j = 0
    · rw [if_pos e, if_pos ⟨e.1.symm, e.2.symm⟩]; rfl
    · rw [if_neg e, if_neg (fun q => e ⟨q.1.symm, q.2.symm⟩)]; rfl
def spNum (K : PySem.W.Frag) (G : N4 → N4) : Sp := fun vs H Q _ => ∃ v z, vs = [v] ∧ Num K H z v ∧ S4 62 z ∧ ∀ v' H', Same H H' → Num K H' (G z) v' → Q v' H'
abbrev nTL : List Str := ["number", "a", "b", "c", "d", "first", "second", "third"]
theorem scTL : FnScope nTL ["number"] (defScope (top 32)) := ⟨rfl, rfl, rfl, by decide +kernel, rfl, by decide +kernel, by decide +kernel⟩
theorem s62 {f : K5.C} (h : Sup 62 62 f) : Sup 64 64 f := h.mono (by omega) (by omega)
theorem s63 {f : K5.C} (h : Sup 63 63 f) : Sup 64 64 f := h.mono (by omega) (by omega)
theorem c_left (F : Df K mg "turned_left" (top 32)) (C : XY K mg aX aY) (CM : Cal P w K mg base 2 "minus" (spMinus K)) (CP : Cal P w K mg base 2 "plus" (spPlus K)) (CT : Cal P w K mg base 2 "times" (spTimes K)) (CN : Cal P w K mg base 2 "negated" (spUn K fun f => -f)) :
    Cal P w K mg base 3 "turned_left" (spNum K (T Po)) := by
  refine F.cal scTL (fun _ _ _ _ _ _ us hl => match us, hl with | [_], _ => rfl) (fun vs H Q E h => ?_) (fun cdv A outer f s H vs Q E hr h => ?_)
  · obtain ⟨v, z, rfl, _⟩ := h
    rfl
  · obtain ⟨v, z, rfl, ⟨t, a, b, c, d, rfl, qt, ha, hb, hc, hd⟩, sz, k⟩ := h
    refine ⟨_, pss_cons (ps_asg (pv 0) (pg_tup rfl (pgs_cons (pg_n 1 scTL.nd) (pgs_cons (pg_n 2 scTL.nd) (pgs_cons (pg_n 3 scTL.nd) (pgs_cons (pg_n 4 scTL.nd) pgs_nil))))))
      (pss_cons (ps_set (i := 5) scTL.nd rfl (Or.inl rfl) (pe_c CM hr (by decide) rfl (pa_cons (pe_c CT hr (by decide) rfl (pa_cons (pe_glob rfl C.mX (rvr aX)) (pa_cons (pv 3) pa_nil))) (pa_cons (pv 2) pa_nil))))
      (pss_cons (ps_set (i := 6) scTL.nd rfl (Or.inl rfl) (pe_c CP hr (by decide) rfl (pa_cons (pe_c CP hr (by decide) rfl (pa_cons (pv 1) (pa_cons (pe_c CT hr (by decide) rfl (pa_cons (pe_glob rfl C.mY (rvr aY)) (pa_cons (pv 2) pa_nil))) pa_nil))) (pa_cons (pe_c CT hr (by decide) rfl (pa_cons (pe_glob rfl C.mX (rvr aX)) (pa_cons (pv 4) pa_nil))) pa_nil))))
      (pss_cons (ps_set (i := 7) scTL.nd rfl (Or.inl rfl) (pe_c CP hr (by decide) rfl (pa_cons (pe_c CT hr (by decide) rfl (pa_cons (pe_glob rfl C.mY (rvr aY)) (pa_cons (pv 3) pa_nil))) (pa_cons (pv 4) pa_nil))))
      (pss_one (ps_ret (pe_tup (pa_cons (pv 5) (pa_cons (pv 6) (pa_cons (pv 7) (pa_cons (pe_c CN hr (by decide) rfl (pa_cons (pv 3) pa_nil)) pa_nil)))))))))), ?_⟩
    refine ⟨_, rfl, t, _, rfl, qt, rfl, _, _, rfl, _, _, rfl, _, _, rfl, _, _, rfl, rfl, ?_⟩
    -- first
    refine ⟨_, rfl, _, c, z.c, true, rfl, C.tX _, hc, s62 sz.2.2.1, fun v1 H1 s1 h1 => ?_⟩
    refine ⟨_, rfl, v1, b, _, _, rfl, h1, Mo.pl _ _ _ _ (Le.of s1) hb, s63 (supX sz.2.2.1), s62 sz.2.1, fun x1 H2 s2 hx1 => ?_⟩
    have t2 := Same.trans s1 s2
    -- second
    refine ⟨_, rfl, _, rfl, _, b, z.b, false, rfl, C.tY _, Mo.pl _ _ _ _ (Le.of t2) hb, s62 sz.2.1, fun v2 H3 s3 h2 => ?_⟩
    have t3 := Same.trans t2 s3
    refine ⟨a, v2, _, _, rfl, Mo.pl _ _ _ _ (Le.of t3) ha, h2, s62 sz.1, s63 (supY sz.2.1), fun v3 H4 s4 h3 => ?_⟩
    have t4 := Same.trans t3 s4
    refine ⟨_, rfl, _, d, z.d, true, rfl, C.tX _, Mo.pl _ _ _ _ (Le.of t4) hd, s62 sz.2.2.2, fun v4 H5 s5 h4 => ?_⟩
    have t5 := Same.trans t4 s5
    refine ⟨v3, v4, _, _, rfl, Mo.pl _ _ _ _ (Le.of s5) h3, h4, s63 ((supU sz.1).add (supY sz.2.1)), s63 (supX sz.2.2.2), fun x2 H6 s6 hx2 => ?_⟩
    have t6 := Same.trans t5 s6
    -- third
    refine ⟨_, rfl, _, c, z.c, false, rfl, C.tY _, Mo.pl _ _ _ _ (Le.of t6) hc, s62 sz.2.2.1, fun v5 H7 s7 h5 => ?_⟩
    have t7 := Same.trans t6 s7
    refine ⟨_, rfl, v5, d, _, _, rfl, h5, Mo.pl _ _ _ _ (Le.of t7) hd, s63 (supY sz.2.2.1), s62 sz.2.2.2, fun x3 H8 s8 hx3 => ?_⟩
    have t8 := Same.trans t7 s8
    refine ⟨_, rfl, _, rfl, _, rfl, _, rfl, c, z.c, rfl, Mo.pl _ _ _ _ (Le.of t8) hc, s62 sz.2.2.1, fun x4 H9 s9 hx4 => ⟨(by show 4 ≤ sizeLine; decide), fun q nq => ?_⟩⟩
    have s9' := Same.trans s9 (Same.new (o := .tup [x1, x2, x3, x4]) nq)
    have s8' := Same.trans s8 s9'
    have s6' := Same.trans s7 s8'
    exact k _ _ (Same.trans t8 s9') ⟨q, _, _, _, _, rfl, .of upd_same, Mo.pl _ _ _ _ (Le.of (Same.trans s3 (Same.trans s4 (Same.trans s5 (Same.trans s6 s6'))))) hx1, Mo.pl _ _ _ _ (Le.of s6') hx2, Mo.pl _ _ _ _ (Le.of s9') hx3, Mo.pl _ _ _ _ (Le.new nq) hx4⟩
abbrev nTR : List Str := ["number", "a", "b", "c", "d", "first", "second", "fourth"]
theorem scTR : FnScope nTR ["number"] (defScope (top 33)) := ⟨rfl, rfl, rfl, by decide +kernel, rfl, by decide +kernel, by decide +kernel⟩
theorem c_right (F : Df K mg "turned_right" (top 33)) (C : XY K mg aX aY) (CM : Cal P w K mg base 2 "minus" (spMinus K)) (CP : Cal P w K mg base 2 "plus" (spPlus K)) (CT : Cal P w K mg base 2 "times" (spTimes K)) (CN : Cal P w K mg base 2 "negated" (spUn K fun f => -f)) :
    Cal P w K mg base 3 "turned_right" (spNum K (R Po)) := by
  refine F.cal scTR (fun _ _ _ _ _ _ us hl => match us, hl with | [_], _ => rfl) (fun vs H Q E h => ?_) (fun cdv A outer f s H vs Q E hr h => ?_)
  · obtain ⟨v, z, rfl, _⟩ := h
    rfl
  · obtain ⟨v, z, rfl, ⟨t, a, b, c, d, rfl, qt, ha, hb, hc, hd⟩, sz, k⟩ := h
    refine ⟨_, pss_cons (ps_asg (pv 0) (pg_tup rfl (pgs_cons (pg_n 1 scTR.nd) (pgs_cons (pg_n 2 scTR.nd) (pgs_cons (pg_n 3 scTR.nd) (pgs_cons (pg_n 4 scTR.nd) pgs_nil))))))
      (pss_cons (ps_set (i := 5) scTR.nd rfl (Or.inl rfl) (pe_c CM hr (by decide) rfl (pa_cons (pe_c CP hr (by decide) rfl (pa_cons (pe_c CT hr (by decide) rfl (pa_cons (pe_glob rfl C.mY (rvr aY)) (pa_cons (pv 1) pa_nil))) (pa_cons (pv 2) pa_nil))) (pa_cons (pe_c CT hr (by decide) rfl (pa_cons (pe_glob rfl C.mX (rvr aX)) (pa_cons (pv 3) pa_nil))) pa_nil))))
      (pss_cons (ps_set (i := 6) scTR.nd rfl (Or.inl rfl) (pe_c CN hr (by decide) rfl (pa_cons (pe_c CP hr (by decide) rfl (pa_cons (pv 1) (pa_cons (pe_c CT hr (by decide) rfl (pa_cons (pe_glob rfl C.mX (rvr aX)) (pa_cons (pv 4) pa_nil))) pa_nil))) pa_nil)))
      (pss_cons (ps_set (i := 7) scTR.nd rfl (Or.inl rfl) (pe_c CP hr (by decide) rfl (pa_cons (pv 3) (pa_cons (pe_c CT hr (by decide) rfl (pa_cons (pe_glob rfl C.mY (rvr aY)) (pa_cons (pv 4) pa_nil))) pa_nil))))
      (pss_one (ps_ret (pe_tup (pa_cons (pv 5) (pa_cons (pv 6) (pa_cons (pe_c CN hr (by decide) rfl (pa_cons (pv 4) pa_nil)) (pa_cons (pv 7) pa_nil)))))))))), ?_⟩
    refine ⟨_, rfl, t, _, rfl, qt, rfl, _, _, rfl, _, _, rfl, _, _, rfl, _, _, rfl, rfl, ?_⟩
    -- first
    refine ⟨_, rfl, _, a, z.a, false, rfl, C.tY _, ha, s62 sz.1, fun v1 H1 s1 h1 => ?_⟩
    refine ⟨_, rfl, v1, b, _, _, rfl, h1, Mo.pl _ _ _ _ (Le.of s1) hb, s63 (supY sz.1), s62 sz.2.1, fun v2 H2 s2 h2 => ?_⟩
    have t2 := Same.trans s1 s2
    refine ⟨_, rfl, _, c, z.c, true, rfl, C.tX _, Mo.pl _ _ _ _ (Le.of t2) hc, s62 sz.2.2.1, fun v3 H3 s3 h3 => ?_⟩
    have t3 := Same.trans t2 s3
    refine ⟨v2, v3, _, _, rfl, Mo.pl _ _ _ _ (Le.of s3) h2, h3, s63 ((supY sz.1).add (supU sz.2.1)), s63 (supX sz.2.2.1), fun x1 H4 s4 hx1 => ?_⟩
    have t4 := Same.trans t3 s4
    -- second
    refine ⟨_, rfl, _, rfl, _, d, z.d, true, rfl, C.tX _, Mo.pl _ _ _ _ (Le.of t4) hd, s62 sz.2.2.2, fun v4 H5 s5 h4 => ?_⟩
    have t5 := Same.trans t4 s5
    refine ⟨a, v4, _, _, rfl, Mo.pl _ _ _ _ (Le.of t5) ha, h4, s62 sz.1, s63 (supX sz.2.2.2), fun v5 H6 s6 h5 => ?_⟩
    have t6 := Same.trans t5 s6
    refine ⟨v5, _, rfl, h5, s63 ((supU sz.1).add (supX sz.2.2.2)), fun x2 H7 s7 hx2 => ?_⟩
    have t7 := Same.trans t6 s7
    -- fourth
    refine ⟨_, rfl, _, rfl, _, d, z.d, false, rfl, C.tY _, Mo.pl _ _ _ _ (Le.of t7) hd, s62 sz.2.2.2, fun v6 H8 s8 h6 => ?_⟩
    have t8 := Same.trans t7 s8
    refine ⟨c, v6, _, _, rfl, Mo.pl _ _ _ _ (Le.of t8) hc, h6, s62 sz.2.2.1, s63 (supY sz.2.2.2), fun x4 H9 s9 hx4 => ?_⟩
    have t9 := Same.trans t8 s9
    refine ⟨_, rfl, _, rfl, _, rfl, d, z.d, rfl, Mo.pl _ _ _ _ (Le.of t9) hd, s62 sz.2.2.2, fun x3 H10 s10 hx3 => ⟨_, rfl, (by show 4 ≤ sizeLine; decide), fun q nq => ?_⟩⟩
    have s10' := Same.trans s10 (Same.new (o := .tup [x1, x2, x3, x4]) nq)
    have s8' := Same.trans s8 (Same.trans s9 s10')
    have s5' := Same.trans s5 (Same.trans s6 (Same.trans s7 s8'))
    exact k _ _ (Same.trans t9 s10') ⟨q, _, _, _, _, rfl, .of upd_same, Mo.pl _ _ _ _ (Le.of s5') hx1, Mo.pl _ _ _ _ (Le.of s8') hx2, Mo.pl _ _ _ _ (Le.new nq) hx3, Mo.pl _ _ _ _ (Le.of s10') hx4⟩
abbrev nGone : List Str := ["number", "a", "b", "c", "d"]
theorem scGone : FnScope nGone ["number"] (defScope (top 35)) := ⟨rfl, rfl, rfl, by decide +kernel, rfl, by decide +kernel, by decide +kernel⟩
theorem c_gone (F : Df K mg "gone" (top 35)) (C1 : Cal P w K mg base 1 "collected" (spCollected K)) (CN : Cal P w K mg base 2 "negated" (spUn K fun f => -f)) : Cal P w K mg base 3 "gone" (spNum K G) := by
  refine F.cal scGone (fun _ _ _ _ _ _ us hl => match us, hl with | [_], _ => rfl) (fun vs H Q E h => ?_) (fun cdv A outer f s H vs Q E hr h => ?_)
  · obtain ⟨v, z, rfl, _⟩ := h
    rfl
  · obtain ⟨v, z, rfl, ⟨t, a, b, c, d, rfl, qt, ha, hb, hc, hd⟩, sz, k⟩ := h
    refine ⟨_, pss_cons (ps_asg (pv 0) (pg_tup rfl (pgs_cons (pg_n 1 scGone.nd) (pgs_cons (pg_n 2 scGone.nd) (pgs_cons (pg_n 3 scGone.nd) (pgs_cons (pg_n 4 scGone.nd) pgs_nil))))))
      (pss_one (ps_ret (pe_tup (pa_cons (pe_c CN hr (by decide) rfl (pa_cons (pv 3) pa_nil)) (pa_cons (pe_c CN hr (by decide) rfl (pa_cons (pv 4) pa_nil)) (pa_cons (pe_c C1 hr (by decide) rfl (pa_cons (pv 1) pa_nil)) (pa_cons (pe_c C1 hr (by decide) rfl (pa_cons (pv 2) pa_nil)) pa_nil))))))), ?_⟩
    refine ⟨_, rfl, t, _, rfl, qt, rfl, _, _, rfl, _, _, rfl, _, _, rfl, _, _, rfl, rfl, ?_⟩
    refine ⟨_, rfl, c, z.c, rfl, hc, s62 sz.2.2.1, fun x1 H1 s1 hx1 => ?_⟩
    refine ⟨_, rfl, d, z.d, rfl, Mo.pl _ _ _ _ (Le.of s1) hd, s62 sz.2.2.2, fun x2 H2 s2 hx2 => ?_⟩
    have t2 := Same.trans s1 s2
    obtain ⟨ts, la, na, ea⟩ := Mo.pl _ _ _ _ (Le.of t2) ha
    have ll : ts.length ≤ 20000 := by
      have := na.len (n := 64) (m := 64) (by rw [ea]; exact s62 sz.1)
      omega
    refine ⟨_, rfl, a, ts, rfl, la, ll, fun x3 H3 s3 hx3 => ?_⟩
    have t3 := Same.trans t2 s3
    obtain ⟨us, lb, nb, eb⟩ := Mo.pl _ _ _ _ (Le.of t3) hb
    have ll2 : us.length ≤ 20000 := by
      have := nb.len (n := 64) (m := 64) (by rw [eb]; exact s62 sz.2.1)
      omega
    refine ⟨_, rfl, b, us, rfl, lb, ll2, fun x4 H4 s4 hx4 => ⟨(by show 4 ≤ sizeLine; decide), fun q nq => ?_⟩⟩
    rw [ea] at hx3
    rw [eb] at hx4
    have s4' := Same.trans s4 (Same.new (o := .tup [x1, x2, x3, x4]) nq)
    have s3' := Same.trans s3 s4'
    exact k _ _ (Same.trans t2 s3') ⟨q, _, _, _, _, rfl, .of upd_same, Mo.pl _ _ _ _ (Le.of (Same.trans s2 s3')) hx1, Mo.pl _ _ _ _ (Le.of s3') hx2, Mo.pl _ _ _ _ (Le.of s4') hx3, Mo.pl _ _ _ _ (Le.new nq) hx4⟩
end
end W5
set_option maxHeartbeats 8000000
/-! W5W: turned; methods and classes; the class Walk. -/
namespace W5
open PySem L2 K5
/-! ### methods, __init__ and classmethods by what the top must have left -/
def DfI (K : PySem.W.Frag) (mg : Str → Option Value) (x : Str) (C : Addr) (qual : Str) (st : Stmt) : Prop := ∃ f fd, FunD K "__init__" qual (defArgs st) (defBody st) (defScope st) [] [] f fd ∧ Mk K C f ∧ mg x = some (.ref C)
def DfM (K : PySem.W.Frag) (C : Addr) (m qual : Str) (st : Stmt) : Prop := ∃ f fd, FunD K m qual (defArgs st) (defBody st) (defScope st) [] [] f fd ∧ Cls K C ∧ Meth K C m f
def DfC (K : PySem.W.Frag) (mg : Str → Option Value) (x : Str) (C : Addr) (m qual : Str) (st : Stmt) : Prop := ∃ mc p f fd, FunD K m qual (defArgs st) (defBody st) (defScope st) [] [] f fd ∧ ClX.CRead K C mc ∧ ClX.CMet K C mc m p f ∧ mg x = some (.ref C)
section
variable {P : Program} {w : World} {K : PySem.W.Frag} {mg : Str → Option Value} {base : Heap} {x m qual : Str} {C : Addr} {st : Stmt} {N ps : List Str} {k : Nat} {sp : Sp}
theorem DfI.mak (D : DfI K mg x C qual st) (S : FnScope N ps (defScope st))
    (hb : ∀ (kV doc pm : Value) (an : Option Addr) (cdv ct : Value) (us : List Value), us.length = ps.length → bindArgs (PySem.W.fnOf "__init__" qual (defArgs st) (defBody st) (defScope st) .none kV doc pm an cdv ct) ⟨us, []⟩ = pure (ps.zip us))
    (len : ∀ vs H Q E, sp vs H Q E → vs.length = ps.length)
    (hbody : ∀ (cdv : Value) (A : Around) (outer : List Env) (f : Addr) (s : Shared) (H : Hp) (vs : List V) (Q : VK) (E : XK), Room k (A.deeper (PyProof.Rows.envOfC qual (defScope st) s.heap.objs.size f cdv)) → sp vs H Q E →
      ∃ t, PSs (cxOf CX0 P w K mg base N qual (defScope st) f cdv A outer s H E).nox (defBody st) t ∧ t { nx := fun _ H' => Q .non H', rt := Q } (start N vs) H) : Mak P w K mg base (k + 1) x C sp := by
  obtain ⟨f, fd, F, M, hm⟩ := D
  refine ⟨f, fd, ps, M, F.ok S len fun cdv A outer s H vs Q E hr h => ?_, hm, F.bindsN hb⟩
  obtain ⟨t, h1, h2⟩ := hbody cdv A outer f s H vs Q E hr h
  exact ⟨t, h1.nox, h2⟩
theorem DfM.met (D : DfM K C m qual st) (S : FnScope N ps (defScope st))
    (hb : ∀ (kV doc pm : Value) (an : Option Addr) (cdv ct : Value) (us : List Value), us.length = ps.length → bindArgs (PySem.W.fnOf m qual (defArgs st) (defBody st) (defScope st) .none kV doc pm an cdv ct) ⟨us, []⟩ = pure (ps.zip us))
    (len : ∀ vs H Q E, sp vs H Q E → vs.length = ps.length)
    (hbody : ∀ (cdv : Value) (A : Around) (outer : List Env) (f : Addr) (s : Shared) (H : Hp) (vs : List V) (Q : VK) (E : XK), Room k (A.deeper (PyProof.Rows.envOfC qual (defScope st) s.heap.objs.size f cdv)) → sp vs H Q E →
      ∃ t, PSs (cxOf CX0 P w K mg base N qual (defScope st) f cdv A outer s H E).nox (defBody st) t ∧ t { nx := fun _ H' => Q .non H', rt := Q } (start N vs) H) : Met P w K mg base (k + 1) C m sp := by
  obtain ⟨f, fd, F, c, hm⟩ := D
  refine ⟨f, fd, ps, c, hm, F.ok S len fun cdv A outer s H vs Q E hr h => ?_, F.bindsN hb⟩
  obtain ⟨t, h1, h2⟩ := hbody cdv A outer f s H vs Q E hr h
  exact ⟨t, h1.nox, h2⟩
theorem DfC.clm (D : DfC K mg x C m qual st) (S : FnScope N ps (defScope st))
    (hb : ∀ (kV doc pm : Value) (an : Option Addr) (cdv ct : Value) (us : List Value), us.length = ps.length → bindArgs (PySem.W.fnOf m qual (defArgs st) (defBody st) (defScope st) .none kV doc pm an cdv ct) ⟨us, []⟩ = pure (ps.zip us))
    (len : ∀ vs H Q E, sp vs H Q E → vs.length = ps.length)
    (hbody : ∀ (cdv : Value) (A : Around) (outer : List Env) (f : Addr) (s : Shared) (H : Hp) (vs : List V) (Q : VK) (E : XK), Room k (A.deeper (PyProof.Rows.envOfC qual (defScope st) s.heap.objs.size f cdv)) → sp vs H Q E →
      ∃ t, PSs (cxOf CX0 P w K mg base N qual (defScope st) f cdv A outer s H E).nox (defBody st) t ∧ t { nx := fun _ H' => Q .non H', rt := Q } (start N vs) H) : Clm P w K mg base (k + 1) x C m sp := by
  obtain ⟨mc, p, f, fd, F, r, c, hm⟩ := D
  have G : FnOk P w K mg base CX0 (k + 1) f fd ps sp := F.ok S len fun cdv A outer s H vs Q E hr h => by
    obtain ⟨t, h1, h2⟩ := hbody cdv A outer f s H vs Q E hr h
    exact ⟨t, h1.nox, h2⟩
  exact ⟨mc, p, f, r, c, (G.raw (F.bindsN hb) .nil).imp fun vs H Q E h => by rw [List.append_nil]; exact h, hm⟩
end
section
variable {P : Program} {w : World} {K : PySem.W.Frag} {mg : Str → Option Value} {base : Heap}
/-! ### turned -/
def spTurned (K : PySem.W.Frag) : Sp := fun vs H Q _ => ∃ v z, ∃ k : Int, ∃ m : Nat, vs = [v, .int k] ∧ Num K H z v ∧ S4 m z ∧ m + k.natAbs ≤ 62 ∧ ∀ v' H', Same H H' → Num K H' (turnK Po k z) v' → Q v' H'
abbrev nTurned : List Str := ["number", "k", "result", "count", "part"]
theorem scTurned : FnScope nTurned ["number", "k"] (defScope (top 34)) := ⟨rfl, rfl, rfl, by decide +kernel, rfl, by decide +kernel, by decide +kernel⟩
theorem c_turned (F : Df K mg "turned" (top 34)) (T : Bn mg) (C1 : Cal P w K mg base 1 "collected" (spCollected K)) (CL : Cal P w K mg base 3 "turned_left" (spNum K (K5.T Po))) (CR : Cal P w K mg base 3 "turned_right" (spNum K (R Po))) : Cal P w K mg base 4 "turned" (spTurned K) := by
  refine F.cal scTurned (fun _ _ _ _ _ _ us hl => match us, hl with | [_, _], _ => rfl) (fun vs H Q E h => ?_) (fun cdv A outer f s H vs Q E hr h => ?_)
  · obtain ⟨v, z, k, m, rfl, _⟩ := h
    rfl
  · obtain ⟨v, z, kk, m, rfl, ⟨t, a, b, c, d, rfl, qt, ha, hb, hc, hd⟩, sz, hm, k⟩ := h
    refine ⟨_, pss_cons (ps_set (i := 2) scTurned.nd rfl (Or.inl rfl) (pe_tupleOf rfl T.btuple (pe_lcA [("part", 4)] rfl scTurned.nd (pi_tup (pv 0)) (blkOk_by (N := nTurned) (sc := defScope (top 34)) (by decide +kernel)) (fun _ _ _ _ _ => pg_n 4 scTurned.nd))))
      (pss_cons (ps_for PassesOwn.never rfl (pi_range1 rfl T.brange (pa_cons (pe_callB call_abs (by rfl) T.babs (by decide +kernel) (pa_cons (pv 1) pa_nil)) pa_nil)) (pg_n 3 scTurned.nd)
        (pss_one (ps_if (pt_cmpR op_gt (pv 1) pe_int (nomark _)) (pss_one (ps_set (i := 2) scTurned.nd rfl (Or.inl rfl) (pe_c CL hr (by decide) rfl (pa_cons (pv 2) pa_nil))))
          (pss_one (ps_set (i := 2) scTurned.nd rfl (Or.inl rfl) (pe_c CR hr (by decide) rfl (pa_cons (pv 2) pa_nil)))))))
      (pss_one (ps_ret (pv 2)))), ?_⟩
    refine ⟨[some (.ref t), some (.int kk), none, none, none], rfl, _, rfl, t, rfl, ⟨_, qt⟩, fun D nD => ?_⟩
    have sz' := sz.up (n := 62) (by omega)
    refine lc_L (walk_tup (xs := [a, b, c, d])) (Rs := Pl K) (xs := [z.a, z.b, z.c, z.d]) (.cons ha (.cons hb (.cons hc (.cons hd .nil)))) (Pl K) (fun f => f) Mo.pl nD (by show 4 ≤ sizeLine; decide) (fun _ s => Same.sT s qt) (fun _ => rfl) ?_ ?_
    · intro x v Hx hx hv sx Q2 hQ2 s' H0' C cl fp
      refine ⟨_, pe_c C1 hr (by decide) rfl (pa_cons (pv 4) pa_nil), ?_⟩
      have hs : Sup 62 62 x := by
        simp only [List.mem_cons, List.not_mem_nil, or_false] at hx
        rcases hx with rfl | rfl | rfl | rfl
        · exact sz'.1
        · exact sz'.2.1
        · exact sz'.2.2.1
        · exact sz'.2.2.2
      obtain ⟨ts, la, na, ea⟩ := Mo.pl _ _ _ _ (Le.of sx) hv
      have ll : ts.length ≤ 20000 := by
        have := na.len (n := 64) (m := 64) (by rw [ea]; exact s62 hs)
        omega
      refine ⟨_, rfl, v, ts, rfl, la, ll, fun v' H' s' h' => hQ2 _ _ s' (by rw [ea] at h'; exact h')⟩
    · intro H2 ys s2 hD hp
      rw [List.map_id'] at hp
      cases hp with
      | cons ra hp =>
      cases hp with
      | cons rb hp =>
      cases hp with
      | cons rc hp =>
      cases hp with
      | cons rd hp =>
      cases hp
      rename_i y1 y2 y3 y4
      refine .inl ⟨D, _, rfl, .of hD, fun q nq => ?_⟩
      have sq := Same.new (H := H2) (o := .tup [y1, y2, y3, y4]) nq
      refine ⟨_, rfl, _, rfl, _, rfl, by split <;> omega, by split <;> omega, ?_⟩
      have en : (if kk < 0 then -kk else kk).toNat = kk.natAbs := by split <;> omega
      rw [en]
      refine for_it walk_range (fun i σ H3 => ∃ v x y, σ = [some (.ref t), some (.int kk), some v, x, y] ∧ Same H H3 ∧ Num K H3 (if 0 < kk then Tn Po i z else Rn Po i z) v)
        ⟨_, _, _, rfl, Same.trans s2 sq, ?_⟩ (fun _ _ _ _ _ => trivial) ?_ ?_
      · have : (if 0 < kk then Tn Po 0 z else Rn Po 0 z) = z := by split <;> rfl
        rw [this]
        exact ⟨q, _, _, _, _, rfl, .of upd_same, Mo.pl _ _ _ _ (Le.of sq) ra, Mo.pl _ _ _ _ (Le.of sq) rb, Mo.pl _ _ _ _ (Le.of sq) rc, Mo.pl _ _ _ _ (Le.of sq) rd⟩
      · rintro i x σ _ H3 hi ⟨v, x, y, rfl, s3, h3⟩ ⟨rfl, rfl⟩
        refine ⟨_, rfl, _, _, rfl, rfl, _, rfl, ?_⟩
        by_cases hk : 0 < kk
        · refine iteDT hk ?_
          rw [if_pos hk] at h3
          refine ⟨_, rfl, v, _, rfl, h3, (sz.Tn i).up (by omega), fun v' H' s' h' => ⟨v', _, _, rfl, Same.trans s3 s', ?_⟩⟩
          rw [if_pos hk, Tn_succ]
          exact h'
        · refine iteDF hk ?_
          rw [if_neg hk] at h3
          refine ⟨_, rfl, v, _, rfl, h3, (sz.Rn i).up (by omega), fun v' H' s' h' => ⟨v', _, _, rfl, Same.trans s3 s', ?_⟩⟩
          rw [if_neg hk, Rn_succ]
          exact h'
      · rintro σ H3 ⟨v, x, y, rfl, s3, h3⟩
        refine ⟨_, rfl, k v H3 s3 ?_⟩
        unfold turnK
        by_cases hk : 0 < kk
        · rw [if_pos hk] at h3 ⊢
          rw [show kk.toNat = kk.natAbs by omega]
          exact h3
        · rw [if_neg hk] at h3 ⊢
          rw [show (-kk).toNat = kk.natAbs by omega]
          exact h3
end
end W5
set_option maxHeartbeats 8000000
/-! W5W2: the class Walk. -/
namespace W5
open PySem L2 K5
/-! ### tuples by what they hold -/
section
variable {K : PySem.W.Frag} {H : Hp} {Q : VK} {a b : Addr} {xs ys : List V}
theorem kTup_of (h : SqL K H a xs ∨ SqT K H a xs) (k : ∀ t H1, Same H H1 → SqT K H1 t xs → Q (.ref t) H1) : kTup K (.ref a) H Q := by
  rcases h with h | h
  · exact .inl ⟨a, xs, rfl, h, fun q nq => k q _ (Same.new nq) (.of upd_same)⟩
  · exact .inr ⟨a, xs, rfl, h, k a H (Same.refl H) h⟩
theorem slA_of {lo hi : Option Int} (h : SqT K H a xs) (k : ∀ t H1, Same H H1 → SqT K H1 t (cutV xs lo hi) → Q (.ref t) H1) : rSlA K (.ref a) lo hi H Q := by
  refine ⟨a, xs, rfl, h, fun e => k a H (Same.refl H) ?_, fun _ p np => k p _ (Same.new np) (.of upd_same)⟩
  have : cutV xs lo hi = xs := by unfold cutV; rw [e.1, e.2, List.drop_zero, Nat.sub_zero, List.take_length]
  rw [this]
  exact h
theorem catA_of (ha : SqT K H a xs) (hb : SqT K H b ys) (hl : xs.length + ys.length ≤ sizeLine) (k : ∀ t H1, Same H H1 → SqT K H1 t (xs ++ ys) → Q (.ref t) H1) : rCatA K (.ref a) (.ref b) H Q := by
  refine ⟨a, b, xs, ys, rfl, rfl, ha, hb, hl, fun e => k b H (Same.refl H) (by rw [e]; exact hb), fun _ e => k a H (Same.refl H) (by rw [e, List.append_nil]; exact ha), fun _ _ p np => k p _ (Same.new np) (.of upd_same)⟩
theorem cutV_init : cutV xs none (some (-1)) = xs.dropLast := by
  unfold cutV
  show (xs.drop 0).take ((-1 + (xs.length : Int)).toNat - 0) = _
  rw [List.drop_zero, List.dropLast_eq_take]
  congr 1
  omega
theorem cutV_tail : cutV xs (some 1) none = xs.drop 1 := by
  unfold cutV
  have e : HT.sIx xs.length 0 (some 1) = min 1 xs.length := HT.sIx_nat _ _ 1
  rw [e]
  show (xs.drop _).take (xs.length - _) = _
  by_cases h : xs.length = 0
  · have : xs = [] := List.eq_nil_of_length_eq_zero h
    subst this
    rfl
  · rw [show min 1 xs.length = 1 by omega]
    apply List.take_of_length_le
    rw [List.length_drop]
    omega
theorem cutV_take {i : Nat} : cutV xs none (some (i : Int)) = xs.take i := by
  unfold cutV
  rw [HT.sIx_nat]
  show (xs.drop 0).take (min i xs.length - 0) = _
  rw [List.drop_zero, Nat.sub_zero]
  by_cases h : i ≤ xs.length
  · rw [Nat.min_eq_left h]
  · rw [Nat.min_eq_right (by omega), List.take_length, List.take_of_length_le (by omega)]
/-- reversed(tuple) -/
theorem walk_revT : Walk (RT.ItvT K a xs.length) xs.length (fun H => SqT K H a xs) (YAt xs.reverse) := by
  refine ⟨fun i H hi q => ⟨hi, xs, xs[xs.length - 1 - i]'(by omega), q, by simp [show xs.length - 1 - i < xs.length by omega]⟩, fun _ _ => Nat.le_refl _, fun i H x H' hi q y => ⟨y.1, ?_⟩⟩
  have := y.2 xs q
  rw [List.getElem?_reverse hi]
  exact this
end
/-- everything but p as it was -/
def Sx (p : Addr) (H H' : Hp) : Prop := ∀ b o, H b = some o → b ≠ p → H' b = some o
theorem Sx.refl (p : Addr) (H : Hp) : Sx p H H := fun _ _ e _ => e
theorem Sx.trans {p : Addr} {H H1 H2 : Hp} (a : Sx p H H1) (b : Sx p H1 H2) : Sx p H H2 := fun c o e n => b c o (a c o e n) n
theorem Sx.of {p : Addr} {H H' : Hp} (s : Same H H') : Sx p H H' := fun b o e _ => s b o e
theorem Sx.upd {p : Addr} {H H' : Hp} {o : HO} (s : Sx p H H') : Sx p H (L2.upd H' p o) := fun b u e n => by rw [upd_ne n]; exact s b u e n
theorem Sx.sT {K : PySem.W.Frag} {p a C dx : Addr} {fs : List (Str × V)} {H H' : Hp} {xs : List V} (s : Sx p H H') (hp : H p = some (.ins C dx fs)) (h : SqT K H a xs) : SqT K H' a xs := by
  rcases h with (h | ⟨o, h⟩) | h
  · exact .inl (.inl (s _ _ h (ne_of h hp fun z => by cases z)))
  · exact .inl (.inr ⟨o, s _ _ h (ne_of h hp fun z => by cases z)⟩)
  · exact .inr h
theorem Sx.sL {K : PySem.W.Frag} {p a C dx : Addr} {fs : List (Str × V)} {H H' : Hp} {xs : List V} (s : Sx p H H') (hp : H p = some (.ins C dx fs)) (h : SqL K H a xs) : SqL K H' a xs := by
  rcases h with (h | ⟨o, h⟩) | h
  · exact .inl (.inl (s _ _ h (ne_of h hp fun z => by cases z)))
  · exact .inl (.inr ⟨o, s _ _ h (ne_of h hp fun z => by cases z)⟩)
  · exact .inr h
/-! ### a Walk -/
def wF (t : Addr) (w : List Int) : List (Str × V) := putF "size" (.int (wsize w)) (putF "goes" (.int ((w.length : Int) - 1)) (putF "turns" (.ref t) []))
theorem wF_turns (t : Addr) (w : List Int) : (wF t w).lookup ("turns" : Str) = some (.ref t) := by
  unfold wF
  rw [lookup_putF, if_neg (by decide +kernel), lookup_putF, if_neg (by decide +kernel), lookup_putF, if_pos rfl]
theorem wF_goes (t : Addr) (w : List Int) : (wF t w).lookup ("goes" : Str) = some (.int ((w.length : Int) - 1)) := by
  unfold wF
  rw [lookup_putF, if_neg (by decide +kernel), lookup_putF, if_pos rfl]
theorem wF_size (t : Addr) (w : List Int) : (wF t w).lookup ("size" : Str) = some (.int (wsize w)) := by
  unfold wF
  rw [lookup_putF, if_pos rfl]
def Wk (K : PySem.W.Frag) (C : Addr) : RD (List Int) := fun H w v => ∃ x dx t, v = .ref x ∧ H x = some (.ins C dx (wF t w)) ∧ SqT K H t (w.map V.int)
theorem Mo.wk {K : PySem.W.Frag} {C : Addr} : Mo (Wk K C) := fun H H' x v s ⟨a, dx, t, e, h, q⟩ => ⟨a, dx, t, e, s.ins h, s.sT q⟩
structure WC (K : PySem.W.Frag) (C : Addr) : Prop where
  cl : Cls K C
  nT : NoAttr K C "turns"
  nG : NoAttr K C "goes"
  nS : NoAttr K C "size"
theorem wsize_sum : ∀ w : List Int, (w.map fun k => if k < 0 then -k else k).sum = (wsize w : Int)
  | [] => rfl
  | k :: w => by
    rw [List.map_cons, List.sum_cons, wsize_sum w, wsize]
    split <;> omega
section
variable {P : Program} {w : World} {K : PySem.W.Frag} {mg : Str → Option Value} {base : Heap} {C : Addr}
def spWI (K : PySem.W.Frag) (C : Addr) : Sp := fun vs H Q _ => ∃ p a dx ws, vs = [.ref p, .ref a] ∧ H p = some (.ins C dx []) ∧ (SqL K H a (ws.map V.int) ∨ SqT K H a (ws.map V.int)) ∧ ws.length ≤ 1000 ∧
  ∀ H' t, Sx p H H' → H' p = some (.ins C dx (wF t ws)) → SqT K H' t (ws.map V.int) → Q .non H'
abbrev nWI : List Str := ["self", "turns", "k"]
theorem scWI : FnScope nWI ["self", "turns"] (defScope (inClass (top 37) 0)) := ⟨rfl, rfl, rfl, by decide +kernel, rfl, by decide +kernel, by decide +kernel⟩
theorem c_WI (D : DfI K mg "Walk" C "Walk.__init__" (inClass (top 37) 0)) (T : Bn mg) (W : WC K C) : Mak P w K mg base 1 "Walk" C (spWI K C) := by
  refine D.mak scWI (fun _ _ _ _ _ _ us hl => match us, hl with | [_, _], _ => rfl) (fun vs H Q E h => ?_) (fun cdv A outer f s H vs Q E hr h => ?_)
  · obtain ⟨p, a, dx, ws, rfl, _⟩ := h
    rfl
  · obtain ⟨p, a, dx, ws, rfl, hp, hq, hl, k⟩ := h
    refine ⟨_, pss_cons (ps_fld (pv 0) (pe_tupleOf rfl T.btuple (pv 1)) rfl)
      (pss_cons (ps_fld (pv 0) (pe_op op_sub (pe_callB call_len_seq (by rfl) T.blen PySem.boot_len (pa_cons (pe_fld (pv 0) rfl) pa_nil)) pe_int) rfl)
      (pss_one (ps_fld (pv 0) (pe_callB (cr_sum rfl) (by rfl) T.bsum (by decide +kernel) (pa_cons (pe_lcA [("k", 2)] rfl scWI.nd (pi_tup (pe_fld (pv 0) rfl)) (blkOk_by (N := nWI) (sc := defScope (inClass (top 37) 0)) (by decide +kernel)) (fun _ _ _ _ _ => pg_n 2 scWI.nd)) pa_nil)) rfl))), ?_⟩
    refine ⟨_, rfl, kTup_of hq fun t H1 s1 ht => ?_⟩
    have hp1 := s1 _ _ hp
    refine ⟨_, rfl, p, C, dx, _, rfl, hp1, W.cl, W.nT, (by show 0 < 1000; decide), ?_⟩
    have ht2 : SqT K (upd H1 p (.ins C dx (putF "turns" (.ref t) []))) t (ws.map V.int) := Sx.sT (Sx.upd (Sx.refl p H1)) hp1 ht
    refine ⟨_, rfl, p, C, dx, _, _, rfl, upd_same, W.cl, W.nT, (by rw [lookup_putF, if_pos rfl]), t, _, rfl, .inr ht2, _, _, rfl, rfl, _, rfl, p, C, dx, _, rfl, upd_same, W.cl, W.nG, (by show 1 < 1000; decide), ?_⟩
    rw [upd_upd, List.length_map]
    have ht3 : SqT K (upd H1 p (.ins C dx (putF "goes" (.int ((ws.length : Int) - 1)) (putF "turns" (.ref t) [])))) t (ws.map V.int) := Sx.sT (Sx.upd (Sx.refl p H1)) hp1 ht
    refine ⟨[some (.ref p), some (.ref a), none], rfl, _, rfl, p, C, dx, _, _, rfl, upd_same, W.cl, W.nT, (by rw [lookup_putF, if_neg (by decide +kernel), lookup_putF, if_pos rfl]), t, rfl, ⟨_, ht3⟩, fun D nD => ?_⟩
    refine lc_L (walk_tup (xs := ws.map V.int)) (Rs := Iv) (Paired.ofInt ws) Iv (fun k => if k < 0 then -k else k) Mo.i nD (lsz (m := 1000) (by rw [List.length_map]; exact hl)) (fun _ s => Same.sT s ht3) (fun _ => rfl) ?_ ?_
    · rintro x v Hx hx rfl sx Q2 hQ2 s' H0' C' cl fp
      exact ⟨_, pe_callB call_abs (by rfl) T.babs (by decide +kernel) (pa_cons (pv 2) pa_nil), _, rfl, _, rfl, hQ2 _ _ (Same.refl _) rfl⟩
    · intro H2 ys s2 hD hp2
      have := Paired.intV hp2
      subst this
      refine ⟨D, _, rfl, .of hD, _, rfl, p, C, dx, _, rfl, s2 _ _ upd_same, W.cl, W.nS, (by show 2 < 1000; decide), ?_⟩
      rw [wsize_sum]
      refine k _ t (Sx.upd (Sx.trans (Sx.upd (Sx.of s1)) (Sx.of s2))) upd_same (Sx.sT (Sx.upd (Sx.refl p H2)) (s2 _ _ upd_same) (Same.sT s2 ht3))
/-- Walk(..) in a reading -/
theorem mkW_of {H : Hp} {Q : VK} {a : Addr} {ws : List Int} (hq : SqL K H a (ws.map V.int) ∨ SqT K H a (ws.map V.int)) (hl : ws.length ≤ 1000) (k : ∀ v H2, Same H H2 → Wk K C H2 ws v → Q v H2) :
    ∀ x dx, H x = none → H dx = none → dx ≠ x → spWI K C (.ref x :: [.ref a]) (upd (upd H dx (.own x)) x (.ins C dx [])) (fun v H2 => v = .non ∧ Q (.ref x) H2) E0 := by
  intro x dx nx nd ne
  have s0 : Same H (upd (upd H dx (.own x)) x (.ins C dx [])) := Same.upd (Same.new nd) nx
  refine ⟨x, a, dx, ws, rfl, upd_same, hq.elim (fun h => .inl (Same.sL s0 h)) (fun h => .inr (Same.sT s0 h)), hl, fun H' t kp hx ht => ⟨rfl, k _ _ (fun b o e => ?_) ⟨x, dx, t, rfl, hx, ht⟩⟩⟩
  exact kp b o (s0 b o e) (ne_of_none e nx)
theorem cat_parts {u v : List Int} (hu : u ≠ []) (hv : v ≠ []) : cat u v = u.dropLast ++ (u.getLast hu + v.head hv) :: v.tail := by
  obtain ⟨l, v', rfl⟩ := List.exists_cons_of_ne_nil hv
  conv => lhs; rw [← List.dropLast_concat_getLast hu]
  rw [cat_eq]
  rfl
theorem atI_lastI {u : List Int} (hu : u ≠ []) : atI (u.map V.int) (-1) = some (.int (u.getLast hu)) := by
  have h : u.map V.int = u.dropLast.map V.int ++ [V.int (u.getLast hu)] := by
    conv => lhs; rw [← List.dropLast_concat_getLast hu]
    rw [List.map_append]
    rfl
  rw [h]
  exact atI_last _ _
def spAdd (K : PySem.W.Frag) (C : Addr) : Sp := fun vs H Q _ => ∃ x y u v, vs = [x, y] ∧ Wk K C H u x ∧ Wk K C H v y ∧ u ≠ [] ∧ v ≠ [] ∧ u.length + v.length ≤ 900 ∧ ∀ z H', Same H H' → Wk K C H' (cat u v) z → Q z H'
abbrev nAdd : List Str := ["self", "other", "joint"]
theorem scAdd : FnScope nAdd ["self", "other"] (defScope (inClass (top 37) 5)) := ⟨rfl, rfl, rfl, by decide +kernel, rfl, by decide +kernel, by decide +kernel⟩
theorem c_Add (D : DfM K C "__add__" "Walk.__add__" (inClass (top 37) 5)) (W : WC K C) (CW : Mak P w K mg base 1 "Walk" C (spWI K C)) : Met P w K mg base 3 C "__add__" (spAdd K C) := by
  refine D.met scAdd (fun _ _ _ _ _ _ us hl => match us, hl with | [_, _], _ => rfl) (fun vs H Q E h => ?_) (fun cdv A outer f s H vs Q E hr h => ?_)
  · obtain ⟨x, y, u, v, rfl, _⟩ := h
    rfl
  · obtain ⟨x, y, u, v, rfl, ⟨a, dx, t, rfl, hx, ht⟩, ⟨b, dy, r, rfl, hy, hr2⟩, hu, hv, hl, k⟩ := h
    refine ⟨_, pss_cons (ps_set (i := 2) scAdd.nd rfl (Or.inl rfl) (pe_op op_add (pe_ix ix_tup (pe_fld (pv 0) rfl) (pe_un un_neg pe_int) (fun _ _ => rfl)) (pe_ix ix_tup (pe_fld (pv 1) rfl) pe_int (fun _ _ => rfl))))
      (pss_one (ps_ret (pe_mk CW hr (by decide) rfl (pa_cons (pe_op op_catA (pe_op op_catA (pe_slice sl_tupA (pe_fld (pv 0) rfl) po_none (po_some (pe_un un_neg pe_int))) (pe_tup (pa_cons (pv 2) pa_nil))) (pe_slice sl_tupA (pe_fld (pv 1) rfl) (po_some pe_int) po_none)) pa_nil)))), ?_⟩
    have e1 := atI_lastI hu
    have e2 : atI (v.map V.int) 0 = some (.int (v.head hv)) := by
      obtain ⟨l, v', rfl⟩ := List.exists_cons_of_ne_nil hv
      exact atI_nat (j := 0) rfl
    refine ⟨_, rfl, a, C, dx, _, _, rfl, hx, W.cl, W.nT, wF_turns _ _, _, rfl, t, _, _, _, rfl, rfl, ht, e1, ?_⟩
    refine ⟨_, rfl, b, C, dy, _, _, rfl, hy, W.cl, W.nT, wF_turns _ _, r, _, _, _, rfl, rfl, hr2, e2, _, _, rfl, rfl, ?_⟩
    refine ⟨_, rfl, a, C, dx, _, _, rfl, hx, W.cl, W.nT, wF_turns _ _, _, rfl, _, rfl, slA_of ht fun t1 H1 s1 h1 => ?_⟩
    rw [cutV_init] at h1
    refine ⟨_, rfl, (by show 1 ≤ sizeLine; decide), fun p np => catA_of (Same.sT (Same.new np) h1) (.of upd_same) (lsz (m := 1000) (by rw [List.length_dropLast, List.length_map]; simp; omega)) fun t2 H2 s2 h2 => ?_⟩
    have t12 := Same.trans s1 (Same.trans (Same.new (o := .tup [.int (u.getLast hu + v.head hv)]) np) s2)
    refine ⟨_, rfl, b, C, dy, _, _, rfl, t12 _ _ hy, W.cl, W.nT, wF_turns _ _, _, rfl, ?_⟩
    unfold tNoPart
    refine slA_of (Same.sT t12 hr2) fun t3 H3 s3 h3 => ?_
    rw [cutV_tail] at h3
    refine catA_of (Same.sT s3 h2) h3 (lsz (m := 1000) (by rw [List.length_append, List.length_dropLast, List.length_drop, List.length_map, List.length_map]; simp; omega)) fun t4 H4 s4 h4 => ?_
    have ec : (u.map V.int).dropLast ++ [V.int (u.getLast hu + v.head hv)] ++ (v.map V.int).drop 1 = (cat u v).map V.int := by
      rw [cat_parts hu hv, List.map_append, List.map_cons, List.map_dropLast, List.append_assoc]
      simp
    rw [ec] at h4
    exact mkW_of (.inr h4) (by rw [cat_parts hu hv]; simp; omega) fun z H5 s5 h5 => k z H5 (Same.trans t12 (Same.trans s3 (Same.trans s4 s5))) h5
def spNeg (K : PySem.W.Frag) (C : Addr) : Sp := fun vs H Q _ => ∃ x u, vs = [x] ∧ Wk K C H u x ∧ u.length ≤ 900 ∧ ∀ z H', Same H H' → Wk K C H' (wneg u) z → Q z H'
abbrev nNeg : List Str := ["self", "k"]
theorem scNeg : FnScope nNeg ["self"] (defScope (inClass (top 37) 6)) := ⟨rfl, rfl, rfl, by decide +kernel, rfl, by decide +kernel, by decide +kernel⟩
theorem c_Neg (D : DfM K C "__neg__" "Walk.__neg__" (inClass (top 37) 6)) (T : Bn mg) (W : WC K C) (CW : Mak P w K mg base 1 "Walk" C (spWI K C)) : Met P w K mg base 3 C "__neg__" (spNeg K C) := by
  refine D.met scNeg (fun _ _ _ _ _ _ us hl => match us, hl with | [_], _ => rfl) (fun vs H Q E h => ?_) (fun cdv A outer f s H vs Q E hr h => ?_)
  · obtain ⟨x, u, rfl, _⟩ := h
    rfl
  · obtain ⟨x, u, rfl, ⟨a, dx, t, rfl, hx, ht⟩, hl, k⟩ := h
    refine ⟨_, pss_one (ps_ret (pe_mk CW hr (by decide) rfl (pa_cons (pe_lcA [("k", 1)] rfl scNeg.nd (RT.pi_revA rfl T.brev (pe_fld (pv 0) rfl)) (blkOk_by (N := nNeg) (sc := defScope (inClass (top 37) 6)) (by decide +kernel)) (fun _ _ _ _ _ => pg_n 1 scNeg.nd)) pa_nil))), ?_⟩
    refine ⟨[some (.ref a), none], rfl, _, rfl, a, C, dx, _, _, rfl, hx, W.cl, W.nT, wF_turns _ _, t, _, rfl, .inr ⟨ht, fun D nD => ?_⟩⟩
    have ew := walk_revT (K := K) (a := t) (xs := u.map V.int)
    rw [← List.length_reverse (as := u.map V.int)] at ew ⊢
    rw [List.length_reverse (as := u.map V.int)] at ew ⊢
    have ew2 : Walk (RT.ItvT K t (u.map V.int).length) (u.map V.int).reverse.length (fun H => SqT K H t (u.map V.int)) (YAt (u.map V.int).reverse) := by rw [List.length_reverse]; exact ew
    refine lc_L (Rs := Iv) (xs := u.reverse) ew2 (by rw [← List.map_reverse]; exact Paired.ofInt _) Iv (fun k => -k) Mo.i nD (lsz (m := 1000) (by rw [List.length_reverse, List.length_map]; omega)) (fun _ s => Same.sT s ht) (fun _ => rfl) ?_ ?_
    · rintro x v Hx hx rfl sx Q2 hQ2 s' H0' C' cl fp
      exact ⟨_, pe_un un_neg (pv 1), _, rfl, _, rfl, hQ2 _ _ (Same.refl _) rfl⟩
    · intro H2 ys s2 hD hp2
      have := Paired.intV hp2
      subst this
      have e : u.reverse.map (fun k => -k) = wneg u := by unfold wneg; rw [List.map_reverse]
      rw [e] at hD
      exact mkW_of (.inl (.of hD)) (by rw [wneg_length]; omega) fun z H5 s5 h5 => k z H5 (Same.trans s2 s5) h5
end
end W5
set_option maxHeartbeats 8000000
/-! W5W3: Walk.reduced, number_of. -/
namespace W5
open PySem L2 K5
theorem push_len (st : List Int) (k : Int) : (push st k).length ≤ st.length + 1 := by
  unfold push
  split
  · split <;> simp
  · simp
theorem foldl_push_len : ∀ (w st : List Int), (w.foldl push st).length ≤ st.length + w.length
  | [], st => by simp
  | k :: w, st => by
    have h := foldl_push_len w (push st k)
    have h2 := push_len st k
    rw [List.foldl_cons, List.length_cons]
    omega
theorem red_len (w : List Int) : (red w).length ≤ w.length := by
  unfold red
  rw [List.length_reverse]
  have := foldl_push_len w []
  simpa using this
theorem atI_neg {α : Type} {xs : List α} {i : Nat} {v : α} {z : Int} (h : xs[i]? = some v) (hz : z = (i : Int) - xs.length) : atI xs z = some v := by
  have hi : i < xs.length := (List.getElem?_eq_some_iff.mp h).1
  unfold atI ixN
  rw [if_neg (by omega), if_pos (by omega)]
  show xs[_]? = _
  rw [show (z + (xs.length : Int)).toNat = i by omega]
  exact h
section
variable {P : Program} {w : World} {K : PySem.W.Frag} {mg : Str → Option Value} {base : Heap} {C : Addr}
def spRed (K : PySem.W.Frag) (C : Addr) : Sp := fun vs H Q _ => ∃ x u, vs = [x] ∧ Wk K C H u x ∧ u.length ≤ 900 ∧ ∀ z H', Same H H' → Wk K C H' (red u) z → Q z H'
abbrev nRed : List Str := ["self", "kept", "k", "last"]
theorem scRed : FnScope nRed ["self"] (defScope (inClass (top 37) 9)) := ⟨rfl, rfl, rfl, by decide +kernel, rfl, by decide +kernel, by decide +kernel⟩
theorem c_Red (D : DfM K C "reduced" "Walk.reduced" (inClass (top 37) 9)) (T : Bn mg) (W : WC K C) (CW : Mak P w K mg base 1 "Walk" C (spWI K C)) : Met P w K mg base 3 C "reduced" (spRed K C) := by
  refine D.met scRed (fun _ _ _ _ _ _ us hl => match us, hl with | [_], _ => rfl) (fun vs H Q E h => ?_) (fun cdv A outer f s H vs Q E hr h => ?_)
  · obtain ⟨x, u, rfl, _⟩ := h
    rfl
  · obtain ⟨x, u, rfl, ⟨a, dx, t, rfl, hx, ht⟩, hl, k⟩ := h
    refine ⟨_, pss_cons (ps_set (i := 1) scRed.nd rfl (Or.inl rfl) (pe_lst pa_nil))
      (pss_cons (ps_for PassesOwn.never rfl (pi_tup (pe_fld (pv 0) rfl)) (pg_n 2 scRed.nd)
        (pss_cons (ps_expr (pe_bm PySem.F.plainAttrs_list PySem.F.slot_list_append PySem.F.type_list_append mt_append (pv 1) (pa_cons (pv 2) pa_nil)))
        (pss_one (ps_if (PW.pt (pw_and (pt_cmpR op_gt (pe_callB call_len_seq (by rfl) T.blen PySem.boot_len (pa_cons (pv 1) pa_nil)) pe_int (nomark _)) (pw_and1 (pt_cmpR op_eq (pe_ix ix_list (pv 1) (pe_un un_neg pe_int) (fun _ _ => rfl)) pe_int (nomark _)))))
          (pss_cons (ps_set (i := 3) scRed.nd rfl (Or.inl rfl) (pe_bm0 PySem.F.plainAttrs_list PySem.F.slot_list_pop PySem.F.type_list_pop mt_pop (pv 1)))
          (pss_cons (ps_expr (pe_bm0 PySem.F.plainAttrs_list PySem.F.slot_list_pop PySem.F.type_list_pop mt_pop (pv 1)))
          (pss_one (ps_laug (pv 1) (pe_un un_neg pe_int) (pv 3) ip_add))))
          pss_nil))))
      (pss_one (ps_ret (pe_mk CW hr (by decide) rfl (pa_cons (pv 1) pa_nil))))), ?_⟩
    refine ⟨(by show 0 ≤ sizeLine; decide), fun p np => ?_⟩
    have s0 : Same H (upd H p (.lst [])) := Same.new np
    refine ⟨_, rfl, a, C, dx, _, _, rfl, s0 _ _ hx, W.cl, W.nT, wF_turns _ _, t, rfl, ⟨_, Same.sT s0 ht⟩, ?_⟩
    refine for_it (walk_tup (xs := u.map V.int)) (fun i σ H1 => ∃ y z, σ = [some (.ref a), some (.ref p), y, z] ∧ Same H H1 ∧ H1 p = some (.lst (((u.take i).foldl push []).reverse.map V.int)))
      ⟨none, none, rfl, s0, upd_same⟩ (fun i σ H1 _ ⟨_, _, _, s1, _⟩ => Same.sT s1 ht) ?_ ?_
    · rintro i v σ _ H1 hi ⟨y, z, rfl, s1, hp⟩ ⟨rfl, hv⟩
      rw [List.length_map] at hi
      rw [List.getElem?_map, List.getElem?_eq_getElem hi] at hv
      obtain rfl : V.int u[i] = v := Option.some.inj hv
      have et : u.take (i + 1) = u.take i ++ [u[i]] := (List.take_append_getElem hi).symm
      have ef : (u.take (i + 1)).foldl push [] = push ((u.take i).foldl push []) u[i] := by rw [et, List.foldl_append]; rfl
      obtain ⟨st, hst⟩ : ∃ st, st = (u.take i).foldl push [] := ⟨_, rfl⟩
      rw [← hst] at hp ef
      have hsl : st.length ≤ 900 := by
        have := foldl_push_len (u.take i) []
        rw [← hst, List.length_take] at this
        simp only [List.length_nil] at this
        omega
      rw [ef]
      clear hst ef et hv
      generalize u[i] = c at *
      refine ⟨_, rfl, .inl ⟨rfl, _, .of hp⟩, _, rfl, p, _, _, rfl, rfl, hp, Nat.lt_of_le_of_lt (m := 900) (by rw [List.length_map, List.length_reverse]; exact hsl) (by decide), ?_⟩
      have hp2 : (upd H1 p (.lst (st.reverse.map V.int ++ [V.int c]))) p = some (.lst (((c :: st).reverse).map V.int)) := by rw [upd_same]; simp
      have s2 : Same H (upd H1 p (.lst (st.reverse.map V.int ++ [V.int c]))) := Same.upd s1 np
      generalize upd H1 p (.lst (st.reverse.map V.int ++ [V.int c])) = H2 at hp2 s2
      refine ⟨_, rfl, p, _, rfl, .inl (.of hp2), _, _, rfl, rfl, _, rfl, ?_⟩
      have elen : (((c :: st).reverse.map V.int).length : Int) = st.length + 1 := by simp
      match st, hsl, hp2, elen with
      | [], _, hp2, _ =>
        refine iteDF (by simp) ?_
        refine iteF (A := True) ?_
        exact ⟨_, _, rfl, s2, hp2⟩
      | [m], _, hp2, _ =>
        refine iteDF (by simp) ?_
        refine iteF (A := True) ?_
        exact ⟨_, _, rfl, s2, hp2⟩
      | z0 :: m :: r, hsl, hp2, elen =>
        refine iteDT (by rw [elen]; simp only [List.length_cons]; omega) ?_
        have eL : (c :: z0 :: m :: r).reverse.map V.int = (r.reverse.map V.int ++ [V.int m, V.int z0]) ++ [V.int c] := by simp
        have e1 : atI ((c :: z0 :: m :: r).reverse.map V.int) (-2) = some (.int z0) := by
          refine atI_neg (i := r.length + 1) ?_ (by simp; omega)
          rw [eL]
          simp
        refine ⟨_, rfl, _, rfl, p, _, _, _, rfl, rfl, .of hp2, e1, rfl, _, rfl, ?_⟩
        by_cases hz : z0 = 0
        · subst hz
          refine iteDT rfl ?_
          refine iteT (B := True) ?_
          have ep : push (0 :: m :: r) c = (m + c) :: r := rfl
          refine ⟨_, rfl, .inl ⟨rfl, _, .of hp2⟩, p, _, .int c, rfl, rfl, hp2, by rw [eL]; simp, ?_⟩
          rw [eL, List.dropLast_concat]
          refine ⟨_, rfl, .inl ⟨rfl, _, .of upd_same⟩, p, _, .int 0, rfl, rfl, upd_same, by simp, ?_⟩
          have ed : (r.reverse.map V.int ++ [V.int m, V.int 0]).dropLast = r.reverse.map V.int ++ [V.int m] := by
            rw [show r.reverse.map V.int ++ [V.int m, V.int 0] = (r.reverse.map V.int ++ [V.int m]) ++ [V.int 0] by simp, List.dropLast_concat]
          rw [ed, upd_upd]
          have e2 : atI (r.reverse.map V.int ++ [V.int m]) (-1) = some (.int m) := atI_last _ _
          have e3 : ixN (r.reverse.map V.int ++ [V.int m]).length (-1) = some r.length := by
            unfold ixN
            have e9 : (r.reverse.map V.int ++ [V.int m]).length = r.length + 1 := by simp
            rw [if_neg (by omega), if_pos (by rw [e9]; omega), e9]
            congr 1
            omega
          refine ⟨_, rfl, _, rfl, p, _, _, _, rfl, rfl, .of upd_same, e2, _, rfl, _, _, rfl, rfl, p, _, _, _, rfl, rfl, upd_same, e3, _, _, rfl, ?_, ?_⟩
          · rw [upd_upd]
            exact Same.upd s2 np
          · rw [upd_same, ep]
            congr 2
            rw [List.reverse_cons, List.map_append, List.set_append_right _ _ (by simp)]
            simp
        · refine iteDF (by simpa using hz) ?_
          refine iteF (A := True) ?_
          refine ⟨_, _, rfl, s2, ?_⟩
          have ep : push (z0 :: m :: r) c = c :: z0 :: m :: r := by show (if z0 = 0 then _ else _) = _; rw [if_neg hz]
          rw [ep]
          exact hp2
    · rintro σ H1 ⟨y, z, rfl, s1, hp⟩
      rw [List.length_map, List.take_length] at hp
      exact ⟨_, rfl, mkW_of (ws := red u) (.inl (.of hp)) (by have := red_len u; omega) fun z H5 s5 h5 => k z H5 (Same.trans s1 s5) h5⟩
/-! ### number_of -/
theorem S4.act {m : Nat} {z : N4} (h : S4 m z) : ∀ (u : List Int), S4 (m + wsize u) (act Po u z) := by
  have hG : ∀ (u : List Int) (m : Nat) (z : N4), S4 m z → S4 (m + wsize u) (actG Po u z) := by
    intro u
    induction u with
    | nil => intro m z h; exact h
    | cons k u ih =>
      intro m z h
      have := ih _ _ ((h.G).turn k)
      rw [wsize, ← Nat.add_assoc]
      exact this
  intro u
  cases u with
  | nil => exact h
  | cons k u =>
    have := hG u _ _ (h.turn k)
    rw [wsize, ← Nat.add_assoc]
    exact this
def spNumOf (K : PySem.W.Frag) (C : Addr) : Sp := fun vs H Q _ => ∃ x u, vs = [x] ∧ Wk K C H u x ∧ wsize u ≤ 60 ∧ ∀ z H', Same H H' → Num K H' (act Po u K5.one) z → Q z H'
abbrev nNumOf : List Str := ["walk", "number", "place", "k"]
theorem scNumOf : FnScope nNumOf ["walk"] (defScope (top 38)) := ⟨rfl, rfl, rfl, by decide +kernel, rfl, by decide +kernel, by decide +kernel⟩
theorem wsize_take (u : List Int) (i : Nat) : wsize (u.take i) ≤ wsize u := by
  have := wsize_append (u.take i) (u.drop i)
  rw [List.take_append_drop] at this
  omega
theorem c_numOf (F : Df K mg "number_of" (top 38)) (T : Bn mg) (W : WC K C) (C1 : Cal P w K mg base 1 "one" (spOne K)) (CG : Cal P w K mg base 3 "gone" (spNum K G)) (CT : Cal P w K mg base 4 "turned" (spTurned K)) : Cal P w K mg base 5 "number_of" (spNumOf K C) := by
  refine F.cal scNumOf (fun _ _ _ _ _ _ us hl => match us, hl with | [_], _ => rfl) (fun vs H Q E h => ?_) (fun cdv A outer f s H vs Q E hr h => ?_)
  · obtain ⟨x, u, rfl, _⟩ := h
    rfl
  · obtain ⟨x, u, rfl, ⟨a, dx, t, rfl, hx, ht⟩, hl, k⟩ := h
    refine ⟨_, pss_cons (ps_set (i := 1) scNumOf.nd rfl (Or.inl rfl) (pe_c0 C1 hr (by decide) rfl))
      (pss_cons (ps_for PassesOwn.never rfl (pi_enumT rfl T.benum (pa_cons (pe_fld (pv 0) rfl) pa_nil)) (pg_2K rfl (pg_n 2 scNumOf.nd) (pg_n 3 scNumOf.nd))
        (pss_cons (ps_if (pt_cmpR op_gt (pv 2) pe_int (nomark _)) (pss_one (ps_set (i := 1) scNumOf.nd rfl (Or.inl rfl) (pe_c CG hr (by decide) rfl (pa_cons (pv 1) pa_nil)))) pss_nil)
        (pss_one (ps_set (i := 1) scNumOf.nd rfl (Or.inl rfl) (pe_c CT hr (by decide) rfl (pa_cons (pv 1) (pa_cons (pv 3) pa_nil)))))))
      (pss_one (ps_ret (pv 1)))), ?_⟩
    refine ⟨rfl, fun n0 H0 s0 h0 => ?_⟩
    refine ⟨_, rfl, a, C, dx, _, _, rfl, s0 _ _ hx, W.cl, W.nT, wF_turns _ _, t, _, rfl, Same.sT s0 ht, ?_⟩
    refine for_it (walk_enumT (xs := u.map V.int)) (fun i σ H1 => ∃ n y z, σ = [some (.ref a), some n, y, z] ∧ Same H H1 ∧ Num K H1 (act Po (u.take i) K5.one) n)
      ⟨n0, none, none, rfl, s0, h0⟩ (fun i σ H1 _ ⟨_, _, _, _, s1, _⟩ => Same.sT s1 ht) ?_ ?_
    · rintro i v σ H1 _ hi ⟨n, y, z, rfl, s1, hn⟩ ⟨tp, p1, p2, rfl, ntp, rfl, e1, e2⟩
      rw [List.length_map] at hi
      cases e1
      obtain rfl : p2 = .int u[i] := by
        have e3 : (u.map V.int)[i]? = some p2 := e2
        rw [List.getElem?_map, List.getElem?_eq_getElem hi] at e3
        exact (Option.some.inj e3).symm
      have et : u.take (i + 1) = u.take i ++ [u[i]] := (List.take_append_getElem hi).symm
      have sn := Same.new (H := H1) (o := .tup [.int (i : Nat), .int u[i]]) ntp
      have hn2 := Mo.num _ _ _ _ (Le.of sn) hn
      have s2 := Same.trans s1 sn
      have hS := S4.act S4.one (u.take i)
      have hw1 := wsize_take u i
      have hw2 := wsize_take u (i + 1)
      rw [et, wsize_append] at hw2
      simp only [wsize] at hw2
      refine ⟨tp, _, rfl, .of upd_same, rfl, _, _, rfl, _, _, rfl, rfl, ?_⟩
      refine ⟨_, rfl, _, _, rfl, rfl, _, rfl, ?_⟩
      by_cases h0 : i = 0
      · subst h0
        refine iteDF (by simp) ?_
        refine ⟨_, rfl, _, rfl, n, _, u[0], 1, rfl, hn2, S4.one, by simp only [List.take_zero, wsize] at hw2; omega, fun v' H' s' h' => ⟨v', _, _, rfl, Same.trans s2 s', ?_⟩⟩
        rw [et]
        exact h'
      · refine iteDT (by omega) ?_
        refine ⟨_, rfl, n, _, rfl, hn2, hS.up (by omega), fun v' H' s' h' => ?_⟩
        refine ⟨_, rfl, _, rfl, v', G (act Po (u.take i) K5.one), u[i], 1 + wsize (u.take i), rfl, h', hS.G, by omega, fun v2 H2 s3 h2 => ⟨v2, _, _, rfl, Same.trans s2 (Same.trans s' s3), ?_⟩⟩
        rw [et, act_snoc Po (fun e => h0 (by have := congrArg List.length e; rw [List.length_take, List.length_nil] at this; omega))]
        exact h2
    · rintro σ H1 ⟨n, y, z, rfl, s1, hn⟩
      rw [List.length_map, List.take_length] at hn
      exact ⟨_, rfl, k n H1 s1 hn⟩
end
end W5
set_option maxHeartbeats 8000000
/-! W5S: needed, joined, parts_of, checked_floor, same. -/
namespace W5
open PySem L2 K5
/-! ### a module's dict with text keys -/
def tKd (K : PySem.W.Frag) (d : Addr) (td ty : TE) : TE := fun σ H Q => td σ H fun x H1 => ty σ H1 fun y H2 => ∃ (z : Str) (u0 : Value) (v0 : V), x = .ref d ∧ y = .str z ∧ PySem.W.nsIn K d z = some (some u0) ∧ RelV v0 u0 ∧ Q v0 H2
theorem pe_kdget {X : Cx} {d : Addr} {es : Array DictEntry} {n : Nat} {o i : Expr} {td ty : TE} {pos : Pos} (D : KDict X.K X.w d es n) (ho : PE X o td) (hi : PE X i ty) (hs : NoSl i) : PE X (.Subscript o i pos) (tKd X.K d td ty) := by
  refine ⟨fun pins s σ H Q I h => ?_⟩
  refine subD_of PySem.F.slot_dict_getitem.lookup hs (thn (ho.run pins s σ H _ I h) fun u s1 ⟨x, H1, I1, rx, q1⟩ => thn (hi.run pins s1 σ H1 _ I1 q1) fun iv s2 ⟨y, H2, I2, ry, z, u0, v0, ex, ey, e, r, q2⟩ => ?_)
  subst ex
  obtain rfl : u = Value.ref d := rx
  exact ⟨kd_type D I2, op_item_kd D pins s2 σ H2 _ _ _ _ Q I2 (rvr d) ry ⟨z, u0, v0, rfl, ey, e, r, q2⟩⟩
/-! ### lists of terms under == -/
def t3D (t : K5.Tm) : PyData := .tuple [.int t.1, .int t.2.1, .int t.2.2]
theorem t3Ds_lay : ∀ ts : List K5.Tm, PyData.canLayAll0 (ts.map t3D) = true
  | [] => by simp [PyData.canLayAll0]
  | t :: ts => by simp [PyData.canLayAll0, t3D, PyData.canLay0, t3Ds_lay ts]
theorem t3Ds_depth : ∀ ts : List K5.Tm, PyData.depthAll (ts.map t3D) ≤ 1
  | [] => by simp [PyData.depthAll]
  | t :: ts => by
    have h1 := t3Ds_depth ts
    have h2 : (t3D t).depth = 1 := by simp [t3D, PyData.depth, PyData.depthAll]
    simp only [List.map_cons, PyData.depthAll]
    omega
theorem t3Ds_shaped (ts : List K5.Tm) : SeqAt.shaped (.list (ts.map t3D)) = true := by
  have h1 := t3Ds_depth ts
  have h2 : PyData.depth (.list (ts.map t3D)) ≤ 64 := by
    simp only [PyData.depth]
    omega
  show (PyData.canLay0 (.list (ts.map t3D)) && decide (PyData.depth (.list (ts.map t3D)) ≤ 64)) = true
  rw [Bool.and_eq_true]
  exact ⟨by simp only [PyData.canLay0]; exact t3Ds_lay ts, decide_eq_true h2⟩
theorem t3D_dp {K : PySem.W.Frag} {H : Hp} : ∀ {ts : List K5.Tm} {vs : List V}, Paired (T3 K H) ts vs → DpAll K H vs (ts.map t3D)
  | _, _, .nil => .nil
  | _, _, .cons ⟨a, e, q⟩ t => by
    subst e
    exact .cons (.tup q (.cons (.int _) (.cons (.int _) (.cons (.int _) .nil)))) (t3D_dp t)
/-- f == [] -/
theorem eq_nil_of {K : PySem.W.Frag} {H : Hp} {Q : VK} {f : K5.C} {x : V} {a : Addr} (hx : Pl K H f x) (ha : SqL K H a []) (k : ∀ b : Bool, (b = true ↔ f = 0) → Q (.bl b) H) : rEqD K x (.ref a) H Q := by
  obtain ⟨ts, ⟨b, vs, rfl, qb, pb⟩, hn, rfl⟩ := hx
  refine ⟨.list (ts.map t3D), .list [], .lst qb (t3D_dp pb), .lst ha .nil, t3Ds_shaped ts, t3Ds_shaped [], k _ ?_⟩
  rw [← hn.nil_iff]
  cases ts with
  | nil => simp [PyData.eqv, PyData.eqvAll]
  | cons t ts => simp [PyData.eqv, PyData.eqvAll]
/-! ### the kinds -/
def kS : K5.Kind → Str
  | .arrow => "arrow"
  | .corner => "corner"
  | .edge => "edge"
  | .room => "room"
def kP : K5.Kind → List Int
  | .arrow => [1, 2, 3]
  | .corner => [2, 3]
  | .edge => [1, 3]
  | .room => [1, 2]
def kinds : List V := [.str "arrow", .str "corner", .str "edge", .str "room"]
theorem kinds_has (k : K5.Kind) : inV (.str (kS k)) kinds = true := by cases k <;> decide +kernel
theorem kinds_flat : kinds.all flatV = true := by decide +kernel
/-- the parts that a kind asks -/
def kParts : K5.Kind → N4 → List K5.C
  | .arrow, z => [z.b, z.c, z.d]
  | .corner, z => [z.c, z.d]
  | .edge, z => [z.b, z.d]
  | .room, z => [z.b, z.c]
structure SM (K : PySem.W.Frag) (w : World) (mg : Str → Option Value) (aK aP : Addr) : Prop where
  mK : mg "KINDS" = some (.ref aK)
  tK : ∀ H, SqT K H aK kinds
  mP : mg "PARTS" = some (.ref aP)
  dP : ∃ es n, KDict K w aP es n
  pP : ∀ k : K5.Kind, ∃ t, PySem.W.nsIn K aP (kS k) = some (some (.ref t)) ∧ ∀ H, SqT K H t ((kP k).map V.int)
  mG : ∃ t, mg "MOST_GOES" = some (.int 8 t)
  mZ : ∃ t, mg "MOST_SIZE" = some (.int 12 t)
section
variable {P : Program} {w : World} {K : PySem.W.Frag} {mg : Str → Option Value} {base : Heap} {C aK aP : Addr}
def spNeeded (K : PySem.W.Frag) : Sp := fun vs H Q _ => ∃ k : K5.Kind, vs = [.str (kS k)] ∧ ∀ t, (∀ H, SqT K H t ((kP k).map V.int)) → Q (.ref t) H
theorem scNeeded : FnScope ["kind"] ["kind"] (defScope (top 56)) := ⟨rfl, rfl, rfl, by decide +kernel, rfl, by decide +kernel, by decide +kernel⟩
theorem c_needed (F : Df K mg "needed" (top 56)) (M : SM K w mg aK aP) : Cal P w K mg base 1 "needed" (spNeeded K) := by
  refine F.cal scNeeded (fun _ _ _ _ _ _ us hl => match us, hl with | [_], _ => rfl) (fun vs H Q E h => ?_) (fun cdv A outer f s H vs Q E hr h => ?_)
  · obtain ⟨k, rfl, _⟩ := h
    rfl
  · obtain ⟨k, rfl, kk⟩ := h
    obtain ⟨es, n, D⟩ := M.dP
    refine ⟨_, pss_cons (ps_if (pt_cmpR op_notIn_seq (pv 0) (pe_glob rfl M.mK (rvr aK)) (by rfl)) pss_never pss_nil) (pss_one (ps_ret (pe_kdget D (pe_glob rfl M.mP (rvr aP)) (pv 0) (fun _ _ => rfl)))), ?_⟩
    refine ⟨_, rfl, aK, kinds, rfl, .inr (M.tK _), rfl, kinds_flat, _, rfl, ?_⟩
    rw [kinds_has]
    refine iteF (A := False) ?_
    obtain ⟨t, h1, h2⟩ := M.pP k
    exact ⟨_, rfl, kS k, .ref t, .ref t, rfl, rfl, h1, rfl, kk t h2⟩
def spJoined (K : PySem.W.Frag) (C : Addr) : Sp := fun vs H Q _ => ∃ x y u v, vs = [x, y] ∧ Wk K C H u x ∧ Wk K C H v y ∧ u ≠ [] ∧ v ≠ [] ∧ u.length + v.length ≤ 800 ∧ ∀ z H', Same H H' → Wk K C H' (red (cat (wneg u) v)) z → Q z H'
theorem scJoined : FnScope ["first", "second"] ["first", "second"] (defScope (top 55)) := ⟨rfl, rfl, rfl, by decide +kernel, rfl, by decide +kernel, by decide +kernel⟩
theorem wF_no (t : Addr) (w : List Int) {m : Str} (h1 : ¬ m = "size") (h2 : ¬ m = "goes") (h3 : ¬ m = "turns") : (wF t w).lookup m = none := by
  unfold wF
  rw [lookup_putF, if_neg h1, lookup_putF, if_neg h2, lookup_putF, if_neg h3]
  rfl
theorem cat_len {u v : List Int} (hu : u ≠ []) (hv : v ≠ []) : (cat u v).length = u.length + v.length - 1 := by
  rw [cat_parts hu hv, List.length_append, List.length_cons, List.length_dropLast, List.length_tail]
  have := List.length_pos_iff.mpr hu
  have := List.length_pos_iff.mpr hv
  omega
/-- -first + second, in a reading -/
theorem neg_add_of {H : Hp} {Q : VK} {x y : V} {u v : List Int} (hx : Wk K C H u x) (hy : Wk K C H v y) (hu : u ≠ []) (hv : v ≠ []) (hl : u.length + v.length ≤ 800) (k : ∀ z H', Same H H' → Wk K C H' (cat (wneg u) v) z → Q z H') :
    rOwn1 C (spNeg K C) x H fun a H1 => ∀ y', y' = y → rOwn C (spAdd K C) a y' H1 Q := by
  obtain ⟨a, dx, t, rfl, h1, h2⟩ := hx
  refine ⟨a, dx, _, rfl, h1, .ref a, u, rfl, ⟨a, dx, t, rfl, h1, h2⟩, by omega, fun z H1 s1 hz => ?_⟩
  rintro y' rfl
  obtain ⟨b, dy, r, rfl, g1, g2⟩ := hy
  obtain ⟨c, dz, q, rfl, f1, f2⟩ := hz
  refine ⟨c, b, dz, dy, _, _, rfl, rfl, f1, s1 _ _ g1, .ref c, .ref b, wneg u, v, rfl, ⟨c, dz, q, rfl, f1, f2⟩, ⟨b, dy, r, rfl, s1 _ _ g1, Same.sT s1 g2⟩, wneg_ne hu, hv, by rw [wneg_length]; omega, fun z' H2 s2 hz' => ?_⟩
  obtain ⟨d, dd, dt, rfl, e1, e2⟩ := hz'
  exact ⟨⟨d, rfl⟩, k _ _ (Same.trans s1 s2) ⟨d, dd, dt, rfl, e1, e2⟩⟩
theorem c_joined (F : Df K mg "joined" (top 55)) (hsf : PySem.W.selfFirst K C = true) (CA : Met P w K mg base 3 C "__add__" (spAdd K C)) (CN : Met P w K mg base 3 C "__neg__" (spNeg K C)) (CR : Met P w K mg base 3 C "reduced" (spRed K C)) : Cal P w K mg base 4 "joined" (spJoined K C) := by
  refine F.cal scJoined (fun _ _ _ _ _ _ us hl => match us, hl with | [_, _], _ => rfl) (fun vs H Q E h => ?_) (fun cdv A outer f s H vs Q E hr h => ?_)
  · obtain ⟨x, y, u, v, rfl, _⟩ := h
    rfl
  · obtain ⟨x, y, u, v, rfl, hx, hy, hu, hv, hl, k⟩ := h
    refine ⟨_, pss_one (ps_ret (pe_mt0 CR hr (by decide) (pe_op (op_own CA hr (by decide) hsf rfl) (pe_un (un_own_neg CN hr (by decide)) (pv 0)) (pv 1)))), ?_⟩
    refine ⟨_, rfl, ?_⟩
    obtain ⟨a, dx, t, rfl, h1, h2⟩ := id hx
    refine ⟨a, dx, _, rfl, h1, .ref a, u, rfl, hx, by omega, fun z H1 s1 hz => ?_⟩
    obtain ⟨b, dy, r, rfl, g1, g2⟩ := id hy
    obtain ⟨c, dz, q, rfl, f1, f2⟩ := id hz
    refine ⟨_, rfl, c, b, dz, dy, _, _, rfl, rfl, f1, s1 _ _ g1, .ref c, .ref b, wneg u, v, rfl, hz, Mo.wk _ _ _ _ (Le.of s1) hy, wneg_ne hu, hv, by rw [wneg_length]; omega, fun z' H2 s2 hz' => ?_⟩
    obtain ⟨d, dd, dt, rfl, e1, e2⟩ := id hz'
    refine ⟨⟨d, rfl⟩, ?_⟩
    refine ⟨d, dd, _, rfl, e1, wF_no _ _ (by decide +kernel) (by decide +kernel) (by decide +kernel), .ref d, _, rfl, hz', by rw [cat_len (wneg_ne hu) hv, wneg_length]; omega, fun z3 H3 s3 h3 => k z3 H3 (Same.trans s1 (Same.trans s2 s3)) h3⟩
/-! ### parts_of -/
def spParts (K : PySem.W.Frag) (C : Addr) : Sp := fun vs H Q _ => ∃ k : K5.Kind, ∃ x y u v, vs = [.str (kS k), x, y] ∧ Wk K C H u x ∧ Wk K C H v y ∧ u ≠ [] ∧ v ≠ [] ∧ u.length + v.length ≤ 800 ∧
  (red (cat (wneg u) v)).length ≤ 9 ∧ wsize (red (cat (wneg u) v)) ≤ 12 ∧ ∀ z H', Same H H' → Ls K (Pl K) H' (kParts k (act Po (red (cat (wneg u) v)) K5.one)) z → Q z H'
abbrev nParts : List Str := ["kind", "first", "second", "places", "walk", "number", "at"]
theorem scParts : FnScope nParts ["kind", "first", "second"] (defScope (top 57)) := ⟨rfl, rfl, rfl, by decide +kernel, rfl, by decide +kernel, by decide +kernel⟩
theorem c_parts (F : Df K mg "parts_of" (top 57)) (M : SM K w mg aK aP) (W : WC K C) (C1 : Cal P w K mg base 1 "needed" (spNeeded K)) (CJ : Cal P w K mg base 4 "joined" (spJoined K C)) (CN : Cal P w K mg base 5 "number_of" (spNumOf K C)) : Cal P w K mg base 6 "parts_of" (spParts K C) := by
  refine F.cal scParts (fun _ _ _ _ _ _ us hl => match us, hl with | [_, _, _], _ => rfl) (fun vs H Q E h => ?_) (fun cdv A outer f s H vs Q E hr h => ?_)
  · obtain ⟨k, x, y, u, v, rfl, _⟩ := h
    rfl
  · obtain ⟨kd, x, y, u, v, rfl, hx, hy, hu, hv, hl, hg, hz, k⟩ := h
    obtain ⟨tG, mG⟩ := M.mG
    obtain ⟨tZ, mZ⟩ := M.mZ
    refine ⟨_, pss_cons (ps_set (i := 3) scParts.nd rfl (Or.inl rfl) (pe_c C1 hr (by decide) rfl (pa_cons (pv 0) pa_nil)))
      (pss_cons (ps_set (i := 4) scParts.nd rfl (Or.inl rfl) (pe_c CJ hr (by decide) rfl (pa_cons (pv 1) (pa_cons (pv 2) pa_nil))))
      (pss_cons (ps_if (PW.pt (pw_or (pt_cmpR op_gt (pe_fld (pv 4) rfl) (pe_glob (v := .int 8) rfl mG ⟨_, rfl⟩) (nomark _)) (pw_or1 (pt_cmpR op_gt (pe_fld (pv 4) rfl) (pe_glob (v := .int 12) rfl mZ ⟨_, rfl⟩) (nomark _))))) pss_never pss_nil)
      (pss_cons (ps_set (i := 5) scParts.nd rfl (Or.inr rfl) (pe_c CN hr (by decide) rfl (pa_cons (pv 4) pa_nil)))
      (pss_one (ps_ret (pe_lcA [("at", 6)] rfl scParts.nd (pi_tup (pv 3)) (blkOk_by (N := nParts) (sc := defScope (top 57)) (by decide +kernel)) (fun _ _ _ _ _ => pg_n 6 scParts.nd))))))), ?_⟩
    refine ⟨_, rfl, kd, rfl, fun t ht => ?_⟩
    refine ⟨_, rfl, _, rfl, x, y, u, v, rfl, hx, hy, hu, hv, hl, fun z1 H1 s1 hz1 => ?_⟩
    obtain ⟨a, dx, r, rfl, h1, h2⟩ := id hz1
    refine ⟨_, rfl, a, C, dx, _, _, rfl, h1, W.cl, W.nG, wF_goes _ _, _, _, rfl, rfl, _, rfl, iteDF (by omega) ?_⟩
    refine ⟨_, rfl, a, C, dx, _, _, rfl, h1, W.cl, W.nS, wF_size _ _, _, _, rfl, rfl, _, rfl, iteDF (by omega) ?_⟩
    refine ⟨_, rfl, _, _, rfl, hz1, by omega, fun n H2 s2 hn => ?_⟩
    obtain ⟨m, pa, pb, pc, pd, rfl, qm, hA, hB, hC, hD⟩ := hn
    refine ⟨[some (.str (kS kd)), some x, some y, some (.ref t), some (.ref a), some (.ref m), none], rfl, _, rfl, t, rfl, ⟨_, ht H2⟩, fun D nD => ?_⟩
    refine lc_L (walk_tup (xs := (kP kd).map V.int)) (Rs := Iv) (Paired.ofInt (kP kd)) (Pl K) (fun i => if i = 1 then (act Po (red (cat (wneg u) v)) K5.one).b else if i = 2 then (act Po (red (cat (wneg u) v)) K5.one).c else (act Po (red (cat (wneg u) v)) K5.one).d) Mo.pl nD
      (lsz (m := 10) (by cases kd <;> decide)) (fun _ _ => ht _) (fun _ => rfl) ?_ ?_
    · rintro i x Hx hi rfl sx Q2 hQ2 s' H0' C' cl fp
      have hi' : i = 1 ∨ i = 2 ∨ i = 3 := by cases kd <;> simp [kP] at hi <;> omega
      rcases hi' with rfl | rfl | rfl
      · exact ⟨_, pe_ix ix_tup (pv 5) (pv 6) (fun _ _ => rfl), _, rfl, _, rfl, m, _, 1, pb, rfl, rfl, Same.sT sx qm, rfl, hQ2 _ _ (Same.refl _) (Mo.pl _ _ _ _ (Le.of sx) hB)⟩
      · exact ⟨_, pe_ix ix_tup (pv 5) (pv 6) (fun _ _ => rfl), _, rfl, _, rfl, m, _, 2, pc, rfl, rfl, Same.sT sx qm, rfl, hQ2 _ _ (Same.refl _) (Mo.pl _ _ _ _ (Le.of sx) hC)⟩
      · exact ⟨_, pe_ix ix_tup (pv 5) (pv 6) (fun _ _ => rfl), _, rfl, _, rfl, m, _, 3, pd, rfl, rfl, Same.sT sx qm, rfl, hQ2 _ _ (Same.refl _) (Mo.pl _ _ _ _ (Le.of sx) hD)⟩
    · intro H3 ys s3 hD3 hp
      refine k _ _ (Same.trans s1 (Same.trans s2 s3)) ⟨D, ys, rfl, .of hD3, ?_⟩
      cases kd <;> exact hp
def spChecked : Sp := fun vs H Q _ => ∃ k : K5.Kind, ∃ p q : Nat, vs = [.str (kS k), .int p, .int q] ∧ 3 ≤ p ∧ 3 ≤ q ∧ Q .non H
theorem scChecked : FnScope ["kind", "p", "q"] ["kind", "p", "q"] (defScope (top 59)) := ⟨rfl, rfl, rfl, by decide +kernel, rfl, by decide +kernel, by decide +kernel⟩
theorem c_checked (F : Df K mg "checked_floor" (top 59)) (C1 : Cal P w K mg base 1 "needed" (spNeeded K)) : Cal P w K mg base 2 "checked_floor" spChecked := by
  refine F.cal scChecked (fun _ _ _ _ _ _ us hl => match us, hl with | [_, _, _], _ => rfl) (fun vs H Q E h => ?_) (fun cdv A outer f s H vs Q E hr h => ?_)
  · obtain ⟨k, p, q, rfl, _⟩ := h
    rfl
  · obtain ⟨kd, p, q, rfl, hp, hq, k⟩ := h
    refine ⟨_, pss_cons (ps_expr (pe_c C1 hr (by decide) rfl (pa_cons (pv 0) pa_nil)))
      (pss_one (ps_if (PW.pt (pw_or (pt_cmpR op_lt (pv 1) pe_int (nomark _)) (pw_or1 (pt_cmpR op_lt (pv 2) pe_int (nomark _))))) pss_never pss_nil)), ?_⟩
    refine ⟨_, rfl, kd, rfl, fun t ht => ?_⟩
    refine ⟨_, rfl, _, _, rfl, rfl, _, rfl, iteDF (by omega) ?_⟩
    refine ⟨_, rfl, _, _, rfl, rfl, _, rfl, iteDF (by omega) ?_⟩
    exact k
/-! ### same -/
theorem rst_parts {p q : Nat} {k : K5.Kind} {z : N4} : (∀ f ∈ kParts k z, rst p q f = 0) ↔ J k (rst4 p q z) := by
  cases k <;> simp [kParts, J, rst4]
def spSame (K : PySem.W.Frag) (C : Addr) : Sp := fun vs H Q _ => ∃ k : K5.Kind, ∃ x y u v, ∃ p q : Nat, vs = [.str (kS k), x, y, .int p, .int q] ∧ Wk K C H u x ∧ Wk K C H v y ∧ u ≠ [] ∧ v ≠ [] ∧ u.length + v.length ≤ 800 ∧
  (red (cat (wneg u) v)).length ≤ 9 ∧ wsize (red (cat (wneg u) v)) ≤ 12 ∧ 3 ≤ p ∧ p ≤ 60 ∧ 3 ≤ q ∧ q ≤ 60 ∧ ∀ b H', Same H H' → (b = true ↔ Same5 p q k u v) → Q (.bl b) H'
abbrev nSame : List Str := ["kind", "first", "second", "p", "q", "part"]
theorem scSame : FnScope nSame ["kind", "first", "second", "p", "q"] (defScope (top 60)) := ⟨rfl, rfl, rfl, by decide +kernel, rfl, by decide +kernel, by decide +kernel⟩
theorem kParts_sup {k : K5.Kind} {z : N4} {m : Nat} (h : S4 m z) : ∀ f ∈ kParts k z, Sup m m f := by
  intro f hf
  cases k <;> simp only [kParts, List.mem_cons, List.not_mem_nil, or_false] at hf
  · rcases hf with rfl | rfl | rfl
    · exact h.2.1
    · exact h.2.2.1
    · exact h.2.2.2
  · rcases hf with rfl | rfl
    · exact h.2.2.1
    · exact h.2.2.2
  · rcases hf with rfl | rfl
    · exact h.2.1
    · exact h.2.2.2
  · rcases hf with rfl | rfl
    · exact h.2.1
    · exact h.2.2.1
theorem kParts_len (k : K5.Kind) (z : N4) : (kParts k z).length ≤ 3 := by cases k <;> simp [kParts]
theorem c_same (F : Df K mg "same" (top 60)) (T : Bn mg) (CC : Cal P w K mg base 2 "checked_floor" spChecked) (CP : Cal P w K mg base 6 "parts_of" (spParts K C)) (CD : CalK P w K mg base 4 "divided" 1 ["p", "q"] (spDiv K)) : CalK P w K mg base 7 "same" 3 ["p", "q"] (spSame K C) := by
  refine F.calK scSame (fun _ _ _ _ _ _ us ws h1 h2 => match us, ws, h1, h2 with | [_, _, _], [_, _], _, _ => rfl) (fun vs H Q E h => ?_) (fun cdv A outer f s H vs Q E hr h => ?_)
  · obtain ⟨k, x, y, u, v, p, q, rfl, _⟩ := h
    rfl
  · obtain ⟨kd, x, y, u, v, p, q, rfl, hx, hy, hu, hv, hl, hg, hz, hp, hp', hq, hq', k⟩ := h
    refine ⟨_, pss_cons (ps_expr (pe_c CC hr (by decide) rfl (pa_cons (pv 0) (pa_cons (pv 3) (pa_cons (pv 4) pa_nil)))))
      (pss_one (ps_ret (pe_callB (cr_all rfl) (by rfl) T.ball (by decide +kernel) (pa_cons (pe_lcA [("part", 5)] rfl scSame.nd (pi_list (pe_c CP hr (by decide) rfl (pa_cons (pv 0) (pa_cons (pv 1) (pa_cons (pv 2) pa_nil))))) (blkOk_by (N := nSame) (sc := defScope (top 60)) (by decide +kernel)) (fun _ _ _ _ _ => pg_n 5 scSame.nd)) pa_nil)))), ?_⟩
    refine ⟨_, rfl, _, rfl, _, rfl, kd, p, q, rfl, hp, hq, ?_⟩
    refine ⟨[some (.str (kS kd)), some x, some y, some (.int p), some (.int q), none], rfl, _, rfl, _, rfl, _, rfl, kd, x, y, u, v, rfl, hx, hy, hu, hv, hl, hg, hz, fun z1 H1 s1 hz1 => ?_⟩
    obtain ⟨a, ws, rfl, qa, pa⟩ := hz1
    refine ⟨a, rfl, ⟨_, qa⟩, fun D nD => ?_⟩
    have hS := S4.act S4.one (red (cat (wneg u) v))
    have hlen := pa.length
    have hl3 := kParts_len kd (act Po (red (cat (wneg u) v)) K5.one)
    refine lc_L (walk_list (xs := ws)) (Rs := Pl K) pa Bv (fun f => @decide (rst p q f = 0) (Classical.propDecidable _)) Mo.b nD (lsz (m := 10) (by omega)) (fun _ s => Same.sL s qa) (fun _ => rfl) ?_ ?_
    · intro g x Hx hg' hgx sx Q2 hQ2 s' H0' C' cl fp
      have hsup : Sup 64 64 g := (kParts_sup hS g hg').mono (by omega) (by omega)
      refine ⟨_, pe_cmpR (op_eqD hr.units) (pe_ix ix_tup (pe_ck CD hr (by decide) rfl (pa_cons (pv 5) pa_nil) (pk_cons (pv 3) (pk_cons (pv 4) pk_nil))) pe_int (fun _ _ => rfl)) (pe_lst pa_nil) (nomark _), ?_⟩
      refine ⟨_, rfl, _, rfl, _, rfl, rfl, rfl, x, g, p, q, rfl, Mo.pl _ _ _ _ (Le.of sx) hgx, hsup, hp, hp', hq, hq', fun t y1 y2 y3 H2 s2 ht h3 => ?_⟩
      refine ⟨t, _, 2, y3, rfl, rfl, .of ht, rfl, (by show 0 ≤ sizeLine; decide), fun e ne => ?_⟩
      refine eq_nil_of (Mo.pl _ _ _ _ (Le.new ne) h3) (.of upd_same) fun b hb => hQ2 _ _ (Same.trans s2 (Same.new ne)) ?_
      show V.bl b = V.bl _
      congr 1
      by_cases hc : rst p q g = 0
      · rw [hb.mpr hc]
        exact (@decide_eq_true _ (Classical.propDecidable _) hc).symm
      · have : b = false := by
          cases b with
          | false => rfl
          | true => exact absurd (hb.mp rfl) hc
        rw [this]
        exact (@decide_eq_false _ (Classical.propDecidable _) hc).symm
    · intro H3 ys s3 hD3 hp3
      have := Paired.bV hp3
      subst this
      refine ⟨D, _, rfl, .of hD3, k _ _ (Same.trans s1 s3) ?_⟩
      rw [List.all_map, List.all_eq_true]
      have e1 : (∀ f ∈ kParts kd (act Po (red (cat (wneg u) v)) K5.one), rst p q f = 0) ↔ Same5 p q kd u v := by
        rw [rst_parts, rst4_act (by omega) (by omega) (by omega) (by omega) _ (red_ne (cat_ne (wneg_ne hu))) (by omega) (by omega)]
        exact Same5.red hu
      rw [← e1]
      constructor
      · intro h f hf
        exact @of_decide_eq_true _ (Classical.propDecidable _) (h f hf)
      · intro h f hf
        exact @decide_eq_true _ (Classical.propDecidable _) (h f hf)
end
end W5
set_option maxHeartbeats 8000000
/-! W5F1: columns_of, without_copies, least_table. -/
namespace W5
open PySem L2 K5
abbrev TabL (K : PySem.W.Frag) : RD Tab := Ls K (Tp K Bv)
abbrev TabT (K : PySem.W.Frag) : RD Tab := Tp K (Tp K Bv)
abbrev TabLL (K : PySem.W.Frag) : RD Tab := Ls K (Ls K Bv)
theorem Mo.tabL {K : PySem.W.Frag} : Mo (TabL K) := Mo.ls (Mo.tp Mo.b)
theorem Mo.tabT {K : PySem.W.Frag} : Mo (TabT K) := Mo.tp (Mo.tp Mo.b)
theorem Mo.tabLL {K : PySem.W.Frag} : Mo (TabLL K) := Mo.ls (Mo.ls Mo.b)
/-! ### rows under == -/
def rowD (r : List Bool) : PyData := .tuple (r.map .bool)
theorem bools_lay : ∀ r : List Bool, PyData.canLayAll0 (r.map .bool) = true
  | [] => by simp [PyData.canLayAll0]
  | b :: r => by simp [PyData.canLayAll0, PyData.canLay0, bools_lay r]
theorem bools_depth : ∀ r : List Bool, PyData.depthAll (r.map .bool) = 0
  | [] => by simp [PyData.depthAll]
  | b :: r => by simp [PyData.depthAll, PyData.depth, bools_depth r]
theorem rowD_depth (r : List Bool) : (rowD r).depth = 1 := by simp [rowD, PyData.depth, bools_depth]
theorem rowD_lay (r : List Bool) : (rowD r).canLay0 = true := by simp [rowD, PyData.canLay0, bools_lay]
theorem rowD_shaped (r : List Bool) : SeqAt.shaped (rowD r) = true := by
  show ((rowD r).canLay0 && decide ((rowD r).depth ≤ 64)) = true
  rw [Bool.and_eq_true]
  exact ⟨rowD_lay r, decide_eq_true (by rw [rowD_depth]; omega)⟩
theorem bools_eqv : ∀ r s : List Bool, PyData.eqvAll (r.map .bool) (s.map .bool) = decide (r = s)
  | [], [] => by simp [PyData.eqvAll]
  | [], b :: s => by simp [PyData.eqvAll]
  | a :: r, [] => by simp [PyData.eqvAll]
  | a :: r, b :: s => by
    rw [List.map_cons, List.map_cons, PyData.eqvAll, bools_eqv r s]
    by_cases h : a = b <;> by_cases h2 : r = s <;> simp [PyData.eqv, h, h2]
theorem rowD_eqv (r s : List Bool) : PyData.eqv (rowD r) (rowD s) = decide (r = s) := by
  unfold rowD
  rw [PyData.eqv]
  exact bools_eqv r s
theorem bools_dp {K : PySem.W.Frag} {H : Hp} : ∀ {r : List Bool} {vs : List V}, Paired (Bv H) r vs → DpAll K H vs (r.map .bool)
  | _, _, .nil => .nil
  | _, _, .cons e t => by
    cases e
    exact .cons (.bl _) (bools_dp t)
theorem rowD_dp {K : PySem.W.Frag} {H : Hp} {r : List Bool} {v : V} (h : Tp K Bv H r v) : Dp K H v (rowD r) := by
  obtain ⟨a, vs, rfl, q, p⟩ := h
  exact .tup q (bools_dp p)
section
variable {P : Program} {w : World} {K : PySem.W.Frag} {mg : Str → Option Value} {base : Heap}
/-! ### columns_of -/
def spCols (K : PySem.W.Frag) : Sp := fun vs H Q _ => ∃ v t n m, vs = [v] ∧ TabL K H t v ∧ Rect n m t ∧ n ≤ 100 ∧ m ≤ 100 ∧ ∀ v' H', Same H H' → TabL K H' (colsOf m t) v' → Q v' H'
abbrev nCols : List Str := ["rows", "j", "row"]
theorem scCols : FnScope nCols ["rows"] (defScope (top 10)) := ⟨rfl, rfl, rfl, by decide +kernel, rfl, by decide +kernel, by decide +kernel⟩
theorem c_cols (F : Df K mg "columns_of" (top 10)) (T : Bn mg) : Cal P w K mg base 1 "columns_of" (spCols K) := by
  refine F.cal scCols (fun _ _ _ _ _ _ us hl => match us, hl with | [_], _ => rfl) (fun vs H Q E h => ?_) (fun cdv A outer f s H vs Q E hr h => ?_)
  · obtain ⟨v, t, n, m, rfl, _⟩ := h
    rfl
  · obtain ⟨v, t, n, m, rfl, ⟨a, ws, rfl, hq, hp⟩, hR, hn, hm, k⟩ := h
    have hl := hp.length
    have hlen := hR.len
    have hn0 := hR.n0
    refine ⟨_, pss_one (ps_ret (pe_lcA [("j", 1)] rfl scCols.nd (pi_range1 rfl T.brange (pa_cons (pe_callB call_len_seq (by rfl) T.blen PySem.boot_len (pa_cons (pe_ix ix_list (pv 0) pe_int (fun _ _ => rfl)) pa_nil)) pa_nil)) (blkOk_by (N := nCols) (sc := defScope (top 10)) (by decide +kernel)) (fun _ _ _ _ _ => pg_n 1 scCols.nd))), ?_⟩
    obtain ⟨r0, hr0⟩ : ∃ r0, t[0]? = some r0 := ⟨_, List.getElem?_eq_getElem (by omega)⟩
    obtain ⟨x0, h0, q, xs, rfl, hq0, hp0⟩ := Paired.get hp hr0
    have e0 : xs.length = m := by rw [← hp0.length]; exact hR.row r0 (List.mem_of_getElem? hr0)
    refine ⟨[some (.ref a), none, none], rfl, _, rfl, a, ws, 0, .ref q, rfl, rfl, hq, atI_nat (j := 0) h0, q, xs, rfl, .inr hq0, _, rfl, by omega, by omega, fun D hD => ?_⟩
    rw [Int.toNat_natCast, e0]
    refine lc_n walk_range (Tp K Bv) (fun j => t.map fun r => r.getD j false) (Mo.tp Mo.b) hD (lsz (m := 100) hm) (fun _ _ => trivial) (fun _ => rfl) ?_ hY_fn ?_
    · rintro i x H1 H' hi ⟨_, rfl⟩ Hx sx Q hQ s' H0' C cl fp
      refine ⟨_, pe_tupleOf rfl T.btuple (pe_lcA [("row", 2)] rfl scCols.nd (pi_list (pv 0)) (blkOk_by (N := nCols) (by kernel_rfl)) (fun _ _ _ _ _ => pg_n 2 scCols.nd)), ?_⟩
      refine ⟨[some (.ref a), some (.int (0 + i)), none], rfl, _, rfl, a, rfl, ⟨_, Same.sL sx hq⟩, fun D2 hD2 => ?_⟩
      refine lc_L (walk_list (xs := ws)) (Rs := Tp K Bv) (pmap hp fun _ _ r => Mo.tp Mo.b _ _ _ _ (Le.of sx) r) Bv (fun r => r.getD i false) Mo.b hD2 (lsz (m := 100) (by omega)) (fun _ s => Same.sL s (Same.sL sx hq)) (fun _ => rfl) ?_ ?_
      · rintro r v Hx2 hr ⟨b, ys, rfl, hqb, hpb⟩ sx2 Q2 hQ2 s2 H02 C2 cl2 fp2
        refine ⟨_, pe_ix ix_tup (pv 2) (pv 1) (fun _ _ => rfl), ?_⟩
        have := Paired.bV hpb
        subst this
        refine ⟨_, rfl, _, rfl, b, _, _, _, rfl, rfl, Same.sT sx2 hqb, atI_map (i := i) false (by rw [hR.row r hr]; omega) (by omega), hQ2 _ _ (Same.refl _) rfl⟩
      · intro H4 ys s4 hD4 hp4
        exact .inl ⟨D2, ys, rfl, .of hD4, fun q hq => hQ _ _ (Same.trans s4 (Same.new hq)) ⟨q, _, rfl, .of upd_same, hp4⟩⟩
    · intro H4 ys s4 hD4 hp4
      exact k _ _ s4 ⟨D, ys, rfl, .of hD4, hp4⟩
/-! ### without_copies -/
def spWc (K : PySem.W.Frag) : Sp := fun vs H Q _ => ∃ v t, vs = [v] ∧ TabL K H t v ∧ t ≠ [] ∧ t.length ≤ 100 ∧ ∀ v' H', Same H H' → TabL K H' (wc t) v' → Q v' H'
abbrev nWc : List Str := ["rows", "kept"]
theorem scWc : FnScope nWc ["rows"] (defScope (top 11)) := ⟨rfl, rfl, rfl, by decide +kernel, rfl, by decide +kernel, by decide +kernel⟩
theorem c_wc (F : Df K mg "without_copies" (top 11)) (T : Bn mg) : Cal P w K mg base 1 "without_copies" (spWc K) := by
  refine F.cal scWc (fun _ _ _ _ _ _ us hl => match us, hl with | [_], _ => rfl) (fun vs H Q E h => ?_) (fun cdv A outer f s H vs Q E hr h => ?_)
  · obtain ⟨v, t, rfl, _⟩ := h
    rfl
  · obtain ⟨v, t, rfl, ⟨a, ws, rfl, hq, hp⟩, hne, hlen, k⟩ := h
    refine ⟨_, pss_cons (ps_set (i := 1) scWc.nd rfl (Or.inl rfl) (pe_callTy call_list_of (by rfl) T.blist (by decide +kernel) (pa_cons (pv 0) pa_nil)))
      (pss_cons (ps_while PassesOwn.never (PW.pt (pw_and (pt_cmpR op_gt (pe_callB call_len_seq (by rfl) T.blen PySem.boot_len (pa_cons (pv 1) pa_nil)) pe_int (nomark _)) (pw_and1 (pt_cmpR (op_eqD hr.units) (pe_ix ix_list (pv 1) (pe_un un_neg pe_int) (fun _ _ => rfl)) (pe_ix ix_list (pv 1) (pe_un un_neg pe_int) (fun _ _ => rfl)) (nomark _)))))
        (pss_one (ps_expr (pe_bm0 PySem.F.plainAttrs_list PySem.F.slot_list_pop PySem.F.type_list_pop mt_pop (pv 1)))))
      (pss_one (ps_ret (pv 1)))), ?_⟩
    refine ⟨_, rfl, a, ws, rfl, .inl hq, fun p np => ?_⟩
    refine ⟨fun m σ H1 => ∃ rt vs', m = rt.length ∧ σ = [some (.ref a), some (.ref p)] ∧ Same H H1 ∧ H1 p = some (.lst vs') ∧ Paired (Tp K Bv H) rt.reverse vs' ∧ rt ≠ [] ∧ wcr rt = wcr t.reverse,
      ⟨_, t.reverse, ws, rfl, rfl, Same.new np, upd_same, by rw [List.reverse_reverse]; exact hp, by simpa using hne, rfl⟩, ?_⟩
    rintro m σ H1 ⟨rt, vs', rfl, rfl, s1, hp1, hpr, hrn, hw⟩
    have hvl := hpr.length
    rw [List.length_reverse] at hvl
    have fin : ∀ H2, Same H H2 → H2 p = some (.lst vs') → wcr rt = rt → Q (.ref p) H2 := fun H2 s2 h2 e => by
      refine k _ H2 s2 ⟨p, vs', rfl, .of h2, pmap ?_ fun _ _ r => Mo.tp Mo.b _ _ _ _ (Le.of s2) r⟩
      unfold wc
      rw [← hw, e]
      exact hpr
    refine ⟨_, rfl, p, _, rfl, .inl (.of hp1), _, _, rfl, rfl, _, rfl, ?_⟩
    match rt, hpr, hvl, hw, hrn, fin with
    | [], _, _, _, hrn, _ => exact absurd rfl hrn
    | [x], _, hvl, _, _, fin =>
      refine iteDF (by rw [← hvl]; simp) ?_
      refine iteF (A := True) ?_
      exact ⟨_, rfl, fin H1 s1 hp1 rfl⟩
    | x :: y :: r, hpr, hvl, hw, _, fin =>
      refine iteDT (by rw [← hvl]; simp only [List.length_cons]; omega) ?_
      rw [List.reverse_cons] at hpr
      obtain ⟨zs, zx, rfl, hpr1, hx⟩ := Paired.app_inv hpr
      rw [List.reverse_cons] at hpr1
      obtain ⟨zs', zy, rfl, hpr2, hy⟩ := Paired.app_inv hpr1
      have e1 : atI (zs' ++ [zy] ++ [zx]) (-1) = some zx := atI_last _ _
      have e2 : atI (zs' ++ [zy] ++ [zx]) (-2) = some zy := atI_neg (i := zs'.length) (by simp) (by simp; omega)
      refine ⟨_, rfl, _, rfl, p, _, _, _, rfl, rfl, .of hp1, e1, _, rfl, _, rfl, p, _, _, _, rfl, rfl, .of hp1, e2, ?_⟩
      refine ⟨rowD x, rowD y, rowD_dp (Mo.tp Mo.b _ _ _ _ (Le.of s1) hx), rowD_dp (Mo.tp Mo.b _ _ _ _ (Le.of s1) hy), rowD_shaped x, rowD_shaped y, _, rfl, ?_⟩
      rw [rowD_eqv]
      by_cases hxy : x = y
      · refine iteDT hxy ?_
        refine iteT (B := True) ?_
        subst hxy
        refine ⟨fun σ' H' => σ' = [some (.ref a), some (.ref p)] ∧ Same H H' ∧ H' p = some (.lst (zs' ++ [zy])), ?_, ?_⟩
        · rintro σ' H' ⟨rfl, s', h'⟩
          refine ⟨_, by simp only [List.length_cons]; exact Nat.lt_succ_self _, x :: r, _, rfl, rfl, s', h', ?_, by simp, ?_⟩
          · rw [List.reverse_cons]; exact hpr1
          · rw [← hw, wcr, if_pos rfl]
        · refine ⟨_, rfl, .inl ⟨rfl, _, .of hp1⟩, p, _, zx, rfl, rfl, hp1, by simp, ?_⟩
          rw [List.dropLast_concat]
          exact ⟨rfl, Same.upd s1 np, upd_same⟩
      · refine iteDF hxy ?_
        refine iteF (A := True) ?_
        exact ⟨_, rfl, fin H1 s1 hp1 (by rw [wcr, if_neg hxy])⟩
/-! ### least_table -/
def spLeast (K : PySem.W.Frag) : Sp := fun vs H Q _ => ∃ v t n m, vs = [v] ∧ TabLL K H t v ∧ Rect n m t ∧ n ≤ 100 ∧ m ≤ 100 ∧ ∀ v' H', Same H H' → TabT K H' (least m t) v' → Q v' H'
abbrev nLeast : List Str := ["rows", "kept", "columns", "row"]
theorem scLeast : FnScope nLeast ["rows"] (defScope (top 12)) := ⟨rfl, rfl, rfl, by decide +kernel, rfl, by decide +kernel, by decide +kernel⟩
theorem c_least (F : Df K mg "least_table" (top 12)) (T : Bn mg) (CC : Cal P w K mg base 1 "columns_of" (spCols K)) (CW : Cal P w K mg base 1 "without_copies" (spWc K)) : Cal P w K mg base 2 "least_table" (spLeast K) := by
  refine F.cal scLeast (fun _ _ _ _ _ _ us hl => match us, hl with | [_], _ => rfl) (fun vs H Q E h => ?_) (fun cdv A outer f s H vs Q E hr h => ?_)
  · obtain ⟨v, t, n, m, rfl, _⟩ := h
    rfl
  · obtain ⟨v, t, n, m, rfl, ⟨a, ws, rfl, hq, hp⟩, hR, hn, hm, k⟩ := h
    have hl := hp.length
    have hlen := hR.len
    refine ⟨_, pss_cons (ps_set (i := 1) scLeast.nd rfl (Or.inl rfl) (pe_c CW hr (by decide) rfl (pa_cons (pe_lcA [("row", 3)] rfl scLeast.nd (pi_list (pv 0)) (blkOk_by (N := nLeast) (sc := defScope (top 12)) (by decide +kernel)) (fun _ _ _ _ _ => pg_n 3 scLeast.nd)) pa_nil)))
      (pss_cons (ps_set (i := 2) scLeast.nd rfl (Or.inl rfl) (pe_c CW hr (by decide) rfl (pa_cons (pe_c CC hr (by decide) rfl (pa_cons (pv 1) pa_nil)) pa_nil)))
      (pss_one (ps_ret (pe_tupleOf rfl T.btuple (pe_c CC hr (by decide) rfl (pa_cons (pv 2) pa_nil)))))), ?_⟩
    refine ⟨[some (.ref a), none, none, none], rfl, _, rfl, a, rfl, ⟨_, hq⟩, fun D nD => ?_⟩
    refine lc_L (walk_list (xs := ws)) (Rs := Ls K Bv) hp (Tp K Bv) (fun r => r) (Mo.tp Mo.b) nD (lsz (m := 100) (by omega)) (fun _ s => Same.sL s hq) (fun _ => rfl) ?_ ?_
    · rintro r v Hx hr' ⟨b, ys, rfl, hqb, hpb⟩ sx Q2 hQ2 s' H0' C cl fp
      exact ⟨_, pe_tupleOf rfl T.btuple (pv 3), _, rfl, .inl ⟨b, ys, rfl, Same.sL sx hqb, fun q nq => hQ2 _ _ (Same.new nq) ⟨q, ys, rfl, .of upd_same, hpb⟩⟩⟩
    · intro H2 ys s2 hD hp2
      rw [List.map_id'] at hp2
      refine ⟨_, t, rfl, ⟨D, ys, rfl, .of hD, hp2⟩, hR.ne, by omega, fun v1 H3 s3 h3 => ?_⟩
      have hk : wc t ≠ [] := wc_ne hR.ne
      have hkl := wc_len t
      have hRk : Rect (wc t).length m (wc t) := ⟨rfl, fun r hr => hR.row r (wc_mem hr), List.length_pos_iff.mpr hk, hR.m0⟩
      refine ⟨_, rfl, v1, _, _, m, rfl, h3, hRk, by omega, hm, fun v2 H4 s4 h4 => ?_⟩
      have hc : colsOf m (wc t) ≠ [] := by
        intro e
        have := colsOf_len m (wc t)
        rw [e] at this
        have := hR.m0
        simp at *
        omega
      refine ⟨v2, _, rfl, h4, hc, by rw [colsOf_len]; omega, fun v3 H5 s5 h5 => ?_⟩
      have hcl := wc_len (colsOf m (wc t))
      rw [colsOf_len] at hcl
      refine ⟨_, rfl, v3, _, (wc (colsOf m (wc t))).length, (wc t).length, rfl, h5, ⟨rfl, fun r hr => colsOf_row r (wc_mem hr), List.length_pos_iff.mpr (wc_ne hc), List.length_pos_iff.mpr hk⟩, by omega, by omega, fun v4 H6 s6 h6 => ?_⟩
      obtain ⟨b, zs, rfl, qb, pb⟩ := h6
      exact .inl ⟨b, zs, rfl, qb, fun q nq => k _ _ (Same.trans s2 (Same.trans s3 (Same.trans s4 (Same.trans s5 (Same.trans s6 (Same.new nq)))))) ⟨q, zs, rfl, .of upd_same, pmap pb fun _ _ r => Mo.tp Mo.b _ _ _ _ (Le.new nq) r⟩⟩
end
end W5
set_option maxHeartbeats 8000000
/-! W5F2: grown, alongside; the class Floors. -/
namespace W5
open PySem L2 K5
theorem flat1 {α : Type} (x : α) (k : Nat) : (List.replicate k [x]).flatten = List.replicate k x := by
  induction k with
  | zero => rfl
  | succ k ih => rw [List.replicate_succ, List.flatten_cons, ih]; rfl
theorem Paired.rep {α β : Type} {F : α → β → Prop} {x : α} {y : β} (h : F x y) : ∀ k, Paired F (List.replicate k x) (List.replicate k y)
  | 0 => .nil
  | k + 1 => .cons h (Paired.rep h k)
section
variable {P : Program} {w : World} {K : PySem.W.Frag} {mg : Str → Option Value} {base : Heap} {C : Addr}
def spGrown (K : PySem.W.Frag) : Sp := fun vs H Q _ => ∃ v t, ∃ n m h l : Nat, vs = [v, .int h, .int l] ∧ TabT K H t v ∧ Rect n m t ∧ n ≤ h ∧ m ≤ l ∧ h ≤ 100 ∧ l ≤ 100 ∧ ∀ v' H', Same H H' → TabL K H' (grow n m h l t) v' → Q v' H'
abbrev nGrown : List Str := ["rows", "height", "width", "wide", "row"]
theorem scGrown : FnScope nGrown ["rows", "height", "width"] (defScope (top 13)) := ⟨rfl, rfl, rfl, by decide +kernel, rfl, by decide +kernel, by decide +kernel⟩
theorem c_grown (F : Df K mg "grown" (top 13)) (T : Bn mg) : Cal P w K mg base 1 "grown" (spGrown K) := by
  refine F.cal scGrown (fun _ _ _ _ _ _ us hl => match us, hl with | [_, _, _], _ => rfl) (fun vs H Q E h => ?_) (fun cdv A outer f s H vs Q E hr h => ?_)
  · obtain ⟨v, t, n, m, h, l, rfl, _⟩ := h
    rfl
  · obtain ⟨v, t, n, m, hh, ll, rfl, ⟨a, ws, rfl, hq, hp⟩, hR, hn, hm, hh1, hl1, k⟩ := h
    have hl := hp.length
    have hlen := hR.len
    have n0 := hR.n0
    have m0 := hR.m0
    refine ⟨_, pss_cons (ps_lcA (i := 3) [("row", 4)] rfl scGrown.nd rfl rfl (sw_true rfl rfl rfl (by decide +kernel)) (pi_tup (pv 0)) (blkOk_by (N := nGrown) (sc := defScope (top 13)) (by decide +kernel)) (fun _ _ _ _ _ => pg_n 4 scGrown.nd))
      (pss_one (ps_ret (pe_op op_cat (pv 3) (pe_op op_rep (pe_lst (pa_cons (pe_ix ix_list (pv 3) (pe_un un_neg pe_int) (fun _ _ => rfl)) pa_nil)) (pe_op op_sub (pv 1) (pe_callB call_len_seq (by rfl) T.blen PySem.boot_len (pa_cons (pv 3) pa_nil))))))), ?_⟩
    refine ⟨[some (.ref a), some (.int hh), some (.int ll), none, none], rfl, _, rfl, a, rfl, ⟨_, hq⟩, fun D nD => ?_⟩
    refine lc_L (walk_tup (xs := ws)) (Rs := Tp K Bv) hp (Tp K Bv) (fun r => r ++ List.replicate (ll - m) (r.getD (m - 1) false)) (Mo.tp Mo.b) nD (lsz (m := 100) (by omega)) (fun _ s => Same.sT s hq) (fun _ => rfl) ?_ ?_
    · rintro r v Hx hr' ⟨b, ys, rfl, hqb, hpb⟩ sx Q2 hQ2 s' H0' C' cl fp
      have := Paired.bV hpb
      subst this
      have hrm := hR.row r hr'
      refine ⟨_, pe_op op_catA (pv 4) (pe_op op_repA (pe_tup (pa_cons (pe_ix ix_tup (pv 4) (pe_un un_neg pe_int) (fun _ _ => rfl)) pa_nil)) (pe_op op_sub (pv 2) (pe_callB call_len_seq (by rfl) T.blen PySem.boot_len (pa_cons (pv 4) pa_nil)))), ?_⟩
      refine ⟨_, rfl, _, rfl, _, rfl, b, _, _, .bl (r.getD (m - 1) false), rfl, rfl, Same.sT sx hqb, atI_neg (i := m - 1) ?_ (by rw [List.length_map]; omega), (by show 1 ≤ sizeLine; decide), fun p np => ?_⟩
      · rw [List.getElem?_map, List.getElem?_eq_getElem (by omega), List.getD_eq_getElem?_getD, List.getElem?_eq_getElem (by omega)]
        rfl
      · refine ⟨_, rfl, _, rfl, b, _, rfl, .inr (Same.sT (Same.new np) (Same.sT sx hqb)), _, _, rfl, rfl, p, _, ll - m, rfl, ?_, .of upd_same, by simp, by omega, by simp, fun t1 H1 s1 h1 => ?_⟩
        · show V.int ((ll : Int) - ((r.map V.bl).length : Int)) = V.int ((ll - m : Nat) : Int)
          rw [List.length_map]
          exact congrArg V.int (by omega)
        · rw [flat1] at h1
          refine catA_of (Same.sT s1 (Same.sT (Same.new np) (Same.sT sx hqb))) h1 (lsz (m := 1000) (by rw [List.length_map, List.length_replicate]; omega)) fun t2 H2 s2 h2 => ?_
          refine hQ2 _ _ (Same.trans (Same.new np) (Same.trans s1 s2)) ⟨t2, _, rfl, h2, ?_⟩
          exact Paired.append (Paired.ofB r) (Paired.rep (show Bv H2 _ _ from rfl) _)
    · intro H2 ys s2 hD hp2
      have hl2 := hp2.length
      rw [List.length_map] at hl2
      obtain ⟨y, hy⟩ : ∃ y, ys[n - 1]? = some y := ⟨_, List.getElem?_eq_getElem (by omega)⟩
      refine ⟨_, rfl, _, rfl, _, rfl, D, _, _, y, rfl, rfl, .of hD, atI_neg (i := n - 1) hy (by omega), (by show 1 ≤ sizeLine; decide), fun p np => ?_⟩
      have hD2 : (upd H2 p (.lst [y])) D = some (.lst ys) := Same.new np _ _ hD
      refine ⟨_, rfl, _, rfl, D, _, rfl, .inl (.of hD2), _, _, rfl, rfl, p, _, _, rfl, rfl, upd_same, by omega, by omega, lsz (m := 1000) (by simp; omega), fun q nq => ?_⟩
      have hD3 := Same.new (o := .lst (List.replicate ((hh : Int) - ys.length).toNat [y]).flatten) nq _ _ hD2
      refine ⟨D, q, _, _, rfl, rfl, hD3, upd_same, lsz (m := 1000) (by rw [flat1, List.length_replicate]; omega), fun r nr => ?_⟩
      have s3 := Same.trans (Same.new (o := .lst [y]) np) (Same.trans (Same.new (o := .lst (List.replicate ((hh : Int) - ys.length).toNat [y]).flatten) nq) (Same.new (o := .lst (ys ++ (List.replicate ((hh : Int) - ys.length).toNat [y]).flatten)) nr))
      refine k _ _ (Same.trans s2 s3) ⟨r, _, rfl, .of upd_same, pmap ?_ fun _ _ r => Mo.tp Mo.b _ _ _ _ (Le.of s3) r⟩
      unfold grow
      rw [flat1]
      have e1 : ((hh : Int) - ys.length).toNat = hh - n := by omega
      rw [e1]
      refine Paired.append hp2 (Paired.rep ?_ _)
      obtain ⟨x, hx, hxy⟩ := Paired.getR hp2 hy
      rw [List.getD_eq_getElem?_getD, hx]
      exact hxy
/-! ### alongside -/
def spAlong (K : PySem.W.Frag) : Sp := fun vs H Q _ => ∃ x y s t n m n' m', vs = [x, y] ∧ TabT K H s x ∧ TabT K H t y ∧ Rect n m s ∧ Rect n' m' t ∧ n ≤ 100 ∧ m ≤ 100 ∧ n' ≤ 100 ∧ m' ≤ 100 ∧
  ∀ q u v H', Same H H' → H' q = some (.tup [u, v]) → TabL K H' (grow n m (max n n') (max m m') s) u → TabL K H' (grow n' m' (max n n') (max m m') t) v → Q (.ref q) H'
abbrev nAlong : List Str := ["first", "second", "height", "width"]
theorem scAlong : FnScope nAlong ["first", "second"] (defScope (top 14)) := ⟨rfl, rfl, rfl, by decide +kernel, rfl, by decide +kernel, by decide +kernel⟩
theorem row0 {H : Hp} {n m : Nat} {t : Tab} {ws : List V} (hR : Rect n m t) (hp : Paired (Tp K Bv H) t ws) : ∃ q xs, ws[0]? = some (.ref q) ∧ SqT K H q xs ∧ xs.length = m ∧ ws.length = n := by
  have := hR.n0
  have := hR.len
  obtain ⟨r0, hr0⟩ : ∃ r0, t[0]? = some r0 := ⟨_, List.getElem?_eq_getElem (by omega)⟩
  obtain ⟨x0, h0, q, xs, rfl, hq0, hp0⟩ := Paired.get hp hr0
  exact ⟨q, xs, h0, hq0, by rw [← hp0.length]; exact hR.row r0 (List.mem_of_getElem? hr0), by rw [← hp.length, hR.len]⟩
theorem max_int (a b : Nat) : (if (b : Int) > (a : Int) then (b : Int) else (a : Int)) = ((max a b : Nat) : Int) := by
  split <;> omega
theorem c_along (F : Df K mg "alongside" (top 14)) (T : Bn mg) (CG : Cal P w K mg base 1 "grown" (spGrown K)) : Cal P w K mg base 2 "alongside" (spAlong K) := by
  refine F.cal scAlong (fun _ _ _ _ _ _ us hl => match us, hl with | [_, _], _ => rfl) (fun vs H Q E h => ?_) (fun cdv A outer f s H vs Q E hr h => ?_)
  · obtain ⟨x, y, s, t, n, m, n', m', rfl, _⟩ := h
    rfl
  · obtain ⟨x, y, s', t, n, m, n', m', rfl, ⟨a, ws, rfl, qa, pa⟩, ⟨b, xs, rfl, qb, pb⟩, hS, hT, hn, hm, hn', hm', k⟩ := h
    obtain ⟨qa0, za, ha0, hqa0, la, lwa⟩ := row0 hS pa
    obtain ⟨qb0, zb, hb0, hqb0, lb, lwb⟩ := row0 hT pb
    refine ⟨_, pss_cons (ps_set (i := 2) scAlong.nd rfl (Or.inl rfl) (pe_callB (call_max2 rfl) (by rfl) T.bmax (by decide +kernel) (pa_cons (pe_callB call_len_seq (by rfl) T.blen PySem.boot_len (pa_cons (pv 0) pa_nil)) (pa_cons (pe_callB call_len_seq (by rfl) T.blen PySem.boot_len (pa_cons (pv 1) pa_nil)) pa_nil))))
      (pss_cons (ps_set (i := 3) scAlong.nd rfl (Or.inl rfl) (pe_callB (call_max2 rfl) (by rfl) T.bmax (by decide +kernel) (pa_cons (pe_callB call_len_seq (by rfl) T.blen PySem.boot_len (pa_cons (pe_ix ix_tup (pv 0) pe_int (fun _ _ => rfl)) pa_nil)) (pa_cons (pe_callB call_len_seq (by rfl) T.blen PySem.boot_len (pa_cons (pe_ix ix_tup (pv 1) pe_int (fun _ _ => rfl)) pa_nil)) pa_nil))))
      (pss_one (ps_ret (pe_tup (pa_cons (pe_c CG hr (by decide) rfl (pa_cons (pv 0) (pa_cons (pv 2) (pa_cons (pv 3) pa_nil)))) (pa_cons (pe_c CG hr (by decide) rfl (pa_cons (pv 1) (pa_cons (pv 2) (pa_cons (pv 3) pa_nil)))) pa_nil)))))), ?_⟩
    refine ⟨_, rfl, a, _, rfl, .inr qa, _, rfl, b, _, rfl, .inr qb, _, _, rfl, ?_⟩
    refine ⟨_, rfl, a, _, 0, .ref qa0, rfl, rfl, qa, atI_nat (j := 0) ha0, qa0, za, rfl, .inr hqa0, _, rfl, b, _, 0, .ref qb0, rfl, rfl, qb, atI_nat (j := 0) hb0, qb0, zb, rfl, .inr hqb0, _, _, rfl, ?_⟩
    rw [la, lb, lwa, lwb, max_int, max_int]
    refine ⟨_, rfl, _, rfl, _, rfl, .ref a, s', n, m, max n n', max m m', rfl, ⟨a, ws, rfl, qa, pa⟩, hS, Nat.le_max_left _ _, Nat.le_max_left _ _, by omega, by omega, fun u H1 s1 h1 => ?_⟩
    refine ⟨_, rfl, _, rfl, _, rfl, .ref b, t, n', m', max n n', max m m', rfl, Mo.tabT _ _ _ _ (Le.of s1) ⟨b, xs, rfl, qb, pb⟩, hT, Nat.le_max_right _ _, Nat.le_max_right _ _, by omega, by omega, fun v H2 s2 h2 => ⟨(by show 2 ≤ sizeLine; decide), fun q nq => ?_⟩⟩
    exact k q u v _ (Same.trans s1 (Same.trans s2 (Same.new nq))) upd_same (Mo.tabL _ _ _ _ (Le.of (Same.trans s2 (Same.new nq))) h1) (Mo.tabL _ _ _ _ (Le.new nq) h2)
end
end W5
set_option maxHeartbeats 8000000
/-! W5F3: the class Floors. -/
namespace W5
open PySem L2 K5
abbrev FS := Nat → Nat → Bool
def Fo (K : PySem.W.Frag) (C : Addr) : RD FS := fun H S v => ∃ x dx r t n m, v = .ref x ∧ H x = some (.ins C dx [("rows", .ref r)]) ∧ TabT K H t (.ref r) ∧ Rect n m t ∧ n ≤ 20 ∧ m ≤ 20 ∧ (∀ i j, memT t i j = S i j) ∧ ((∀ i j, S i j = true) → t = [[true]])
theorem Mo.fo {K : PySem.W.Frag} {C : Addr} : Mo (Fo K C) := fun H H' S v s ⟨x, dx, r, t, n, m, e, h, q, a⟩ => ⟨x, dx, r, t, n, m, e, s.ins h, Mo.tabT _ _ _ _ s q, a⟩
structure FC (K : PySem.W.Frag) (mg : Str → Option Value) (C : Addr) : Prop where
  cl : Cls K C
  nR : NoAttr K C "rows"
  isC : C8.InsC K C
  mC : mg "Floors" = some (.ref C)
  mF : ∃ t, mg "FIRST" = some (.int 3 t)
section
variable {P : Program} {w : World} {K : PySem.W.Frag} {mg : Str → Option Value} {base : Heap} {C : Addr}
theorem Sx.tabT {p dx : Addr} {fs : List (Str × V)} {H H' : Hp} {t : Tab} {v : V} (s : Sx p H H') (hp : H p = some (.ins C dx fs)) (h : TabT K H t v) : TabT K H' t v := by
  obtain ⟨a, vs, rfl, q, pp⟩ := h
  exact ⟨a, vs, rfl, s.sT hp q, pmap pp fun _ _ ⟨b, us, e, q', p'⟩ => ⟨b, us, e, s.sT hp q', p'⟩⟩
def spFI (K : PySem.W.Frag) (C : Addr) : Sp := fun vs H Q _ => ∃ p dx v t n m, vs = [.ref p, v] ∧ H p = some (.ins C dx []) ∧ TabLL K H t v ∧ Rect n m t ∧ n ≤ 20 ∧ m ≤ 20 ∧
  ∀ H' r, Sx p H H' → H' p = some (.ins C dx [("rows", .ref r)]) → TabT K H' (least m t) (.ref r) → Q .non H'
abbrev nFI : List Str := ["self", "rows", "at", "row"]
theorem scFI : FnScope nFI ["self", "rows"] (defScope (inClass (top 15) 0)) := ⟨rfl, rfl, rfl, by decide +kernel, rfl, by decide +kernel, by decide +kernel⟩
theorem c_FI (D : DfI K mg "Floors" C "Floors.__init__" (inClass (top 15) 0)) (T : Bn mg) (W : FC K mg C) (CL : Cal P w K mg base 2 "least_table" (spLeast K)) : Mak P w K mg base 3 "Floors" C (spFI K C) := by
  refine D.mak scFI (fun _ _ _ _ _ _ us hl => match us, hl with | [_, _], _ => rfl) (fun vs H Q E h => ?_) (fun cdv A outer f s H vs Q E hr h => ?_)
  · obtain ⟨p, dx, v, t, n, m, rfl, _⟩ := h
    rfl
  · obtain ⟨p, dx, v, t, n, m, rfl, hp, ⟨a, ws, rfl, qa, pa⟩, hR, hn, hm, k⟩ := h
    have hl := pa.length
    have hlen := hR.len
    have n0 := hR.n0
    have m0 := hR.m0
    refine ⟨_, pss_cons (ps_if (pt_cmpR op_eq (pe_callB call_len_seq (by rfl) T.blen PySem.boot_len (pa_cons (pv 1) pa_nil)) pe_int (nomark _)) pss_never pss_nil)
      (pss_cons (ps_for PassesOwn.never rfl (pi_enum rfl T.benum (pa_cons (pv 1) pa_nil)) (pg_2K rfl (pg_n 2 scFI.nd) (pg_n 3 scFI.nd))
        (pss_one (ps_if (PW.pt (pw_or (pt_cmpR op_eq (pe_callB call_len_seq (by rfl) T.blen PySem.boot_len (pa_cons (pv 3) pa_nil)) pe_int (nomark _)) (pw_or1 (pt_cmpR op_ne (pe_callB call_len_seq (by rfl) T.blen PySem.boot_len (pa_cons (pv 3) pa_nil)) (pe_callB call_len_seq (by rfl) T.blen PySem.boot_len (pa_cons (pe_ix ix_list (pv 1) pe_int (fun _ _ => rfl)) pa_nil)) (nomark _))))) pss_never pss_nil)))
      (pss_one (ps_fld (pv 0) (pe_c CL hr (by decide) rfl (pa_cons (pv 1) pa_nil)) rfl))), ?_⟩
    refine ⟨_, rfl, a, _, rfl, .inl qa, rfl, _, rfl, iteDF (by intro e; injection e with e; omega) ?_⟩
    obtain ⟨q0, z0, h0, hq0, hz0⟩ : ∃ q xs, ws[0]? = some (.ref q) ∧ SqL K H q xs ∧ xs.length = m := by
      obtain ⟨r0, hr0⟩ : ∃ r0, t[0]? = some r0 := ⟨_, List.getElem?_eq_getElem (by omega)⟩
      obtain ⟨x0, h0, q, xs, rfl, hq0, hp0⟩ := Paired.get pa hr0
      exact ⟨q, xs, h0, hq0, by rw [← hp0.length]; exact hR.row r0 (List.mem_of_getElem? hr0)⟩
    refine ⟨_, rfl, a, _, rfl, qa, for_it (walk_enum (xs := ws)) (fun i σ H1 => ∃ x y, σ = [some (.ref p), some (.ref a), x, y] ∧ Same H H1) ⟨none, none, rfl, Same.refl H⟩ (fun i σ H1 _ ⟨_, _, _, s1⟩ => Same.sL s1 qa) ?_ ?_⟩
    · rintro i v σ H1 _ hi ⟨x, y, rfl, s1⟩ ⟨tp, p1, p2, rfl, ntp, rfl, e1, e2⟩
      cases e1
      obtain ⟨r, hr', b, ys, rfl, qb, pb⟩ := Paired.getR pa e2
      have hbl : ys.length = m := by rw [← pb.length]; exact hR.row r (List.mem_of_getElem? hr')
      have s2 := Same.trans s1 (Same.new (o := .tup [.int (i : Nat), .ref b]) ntp)
      refine ⟨tp, _, rfl, .of upd_same, rfl, _, _, rfl, _, _, rfl, rfl, ?_⟩
      refine ⟨_, rfl, b, _, rfl, .inl (Same.sL s2 qb), rfl, _, rfl, iteDF (by intro e; injection e with e; omega) ?_⟩
      refine ⟨_, rfl, b, _, rfl, .inl (Same.sL s2 qb), _, rfl, a, _, 0, .ref q0, rfl, rfl, Same.sL s2 qa, atI_nat (j := 0) h0, q0, z0, rfl, .inl (Same.sL s2 hq0), rfl, _, rfl, ?_⟩
      rw [hbl, hz0]
      refine iteNS rfl ?_
      exact ⟨_, _, rfl, s2⟩
    · rintro σ H1 ⟨x, y, rfl, s1⟩
      refine ⟨_, rfl, .ref a, t, n, m, rfl, Mo.tabLL _ _ _ _ (Le.of s1) ⟨a, ws, rfl, qa, pa⟩, hR, by omega, by omega, fun v' H2 s2 h2 => ?_⟩
      have hp2 := s2 _ _ (s1 _ _ hp)
      obtain ⟨r, us, rfl, qr, pr⟩ := id h2
      refine ⟨_, rfl, p, C, dx, _, rfl, hp2, W.cl, W.nR, (by show 0 < 1000; decide), ?_⟩
      exact k _ r (Sx.upd (Sx.of (Same.trans s1 s2))) upd_same (Sx.tabT (Sx.upd (Sx.refl p H2)) hp2 h2)
theorem mkF_of {H : Hp} {Q : VK} {v : V} {t : Tab} {n m : Nat} {S : FS} (hv : TabLL K H t v) (hR : Rect n m t) (hn : n ≤ 20) (hm : m ≤ 20) (hS : ∀ i j, memT t i j = S i j) (k : ∀ v H2, Same H H2 → Fo K C H2 S v → Q v H2) :
    ∀ x dx, H x = none → H dx = none → dx ≠ x → spFI K C (.ref x :: [v]) (upd (upd H dx (.own x)) x (.ins C dx [])) (fun v H2 => v = .non ∧ Q (.ref x) H2) E0 := by
  intro x dx nx nd ne
  have s0 : Same H (upd (upd H dx (.own x)) x (.ins C dx [])) := Same.upd (Same.new nd) nx
  refine ⟨x, dx, v, t, n, m, rfl, upd_same, Mo.tabLL _ _ _ _ (Le.of s0) hv, hR, hn, hm, fun H' r kp hx ht => ⟨rfl, ?_⟩⟩
  obtain ⟨n', m', h1, h2, h3, h4, h5⟩ := least_ok hR
  exact k _ _ (fun b o e => kp b o (s0 b o e) (ne_of_none e nx)) ⟨x, dx, r, _, n', m', rfl, hx, ht, h3, by omega, by omega, fun i j => (h4 i j).trans (hS i j), fun hs => h5 fun i j => (hS i j).trans (hs i j)⟩
theorem one_rect (b : Bool) : Rect 1 1 [[b]] := ⟨rfl, by simp, by omega, by omega⟩
theorem one_mem (b : Bool) (i j : Nat) : memT [[b]] i j = b := by
  rw [(one_rect b).mem_eq]
  simp
def spEv (K : PySem.W.Frag) (C : Addr) (b : Bool) : Sp := fun vs H Q _ => vs = [.ref C] ∧ ∀ v H', Same H H' → Fo K C H' (fun _ _ => b) v → Q v H'
theorem scEv : FnScope ["cls"] ["cls"] (defScope (inClass (top 15) 1)) := ⟨rfl, rfl, rfl, by decide +kernel, rfl, by decide +kernel, by decide +kernel⟩
theorem scNo : FnScope ["cls"] ["cls"] (defScope (inClass (top 15) 2)) := ⟨rfl, rfl, rfl, by decide +kernel, rfl, by decide +kernel, by decide +kernel⟩
theorem boolRow_of {H : Hp} {Q : VK} {b : Bool} (k : ∀ q H1, Same H H1 → TabLL K H1 [[b]] (.ref q) → Q (.ref q) H1) : ∀ p, H p = none → (([.ref p] : List V).length ≤ sizeLine ∧ ∀ q, (upd H p (.lst [.bl b])) q = none → Q (.ref q) (upd (upd H p (.lst [.bl b])) q (.lst [.ref p]))) := by
  intro p np
  refine ⟨(by show 1 ≤ sizeLine; decide), fun q nq => k q _ (Same.trans (Same.new np) (Same.new nq)) ⟨q, _, rfl, .of upd_same, .cons ⟨p, _, rfl, .of (Same.new nq _ _ upd_same), .cons rfl .nil⟩ .nil⟩⟩
theorem c_ev (D : DfC K mg "Floors" C "everywhere" "Floors.everywhere" (inClass (top 15) 1)) (CF : Mak P w K mg base 3 "Floors" C (spFI K C)) : Clm P w K mg base 5 "Floors" C "everywhere" (spEv K C true) := by
  refine D.clm scEv (fun _ _ _ _ _ _ us hl => match us, hl with | [_], _ => rfl) (fun vs H Q E h => ?_) (fun cdv A outer f s H vs Q E hr h => ?_)
  · obtain ⟨rfl, _⟩ := h
    rfl
  · obtain ⟨rfl, k⟩ := h
    refine ⟨_, pss_one (ps_ret (pe_mkL (i := 0) CF hr (by decide) rfl (Or.inl rfl) (pa_cons (pe_lst (pa_cons (pe_lst (pa_cons pe_bl pa_nil)) pa_nil)) pa_nil))), ?_⟩
    refine ⟨rfl, (by show 1 ≤ sizeLine; decide), fun p np => ⟨(by show 1 ≤ sizeLine; decide), fun q nq => ?_⟩⟩
    exact mkF_of (t := [[true]]) ⟨q, _, rfl, .of upd_same, .cons ⟨p, _, rfl, .of (Same.new nq _ _ upd_same), .cons rfl .nil⟩ .nil⟩ (one_rect true) (by omega) (by omega) (one_mem true) fun v H2 s2 h2 => k v H2 (Same.trans (Same.new np) (Same.trans (Same.new nq) s2)) h2
theorem c_no (D : DfC K mg "Floors" C "nowhere" "Floors.nowhere" (inClass (top 15) 2)) (CF : Mak P w K mg base 3 "Floors" C (spFI K C)) : Clm P w K mg base 5 "Floors" C "nowhere" (spEv K C false) := by
  refine D.clm scNo (fun _ _ _ _ _ _ us hl => match us, hl with | [_], _ => rfl) (fun vs H Q E h => ?_) (fun cdv A outer f s H vs Q E hr h => ?_)
  · obtain ⟨rfl, _⟩ := h
    rfl
  · obtain ⟨rfl, k⟩ := h
    refine ⟨_, pss_one (ps_ret (pe_mkL (i := 0) CF hr (by decide) rfl (Or.inl rfl) (pa_cons (pe_lst (pa_cons (pe_lst (pa_cons pe_bl pa_nil)) pa_nil)) pa_nil))), ?_⟩
    refine ⟨rfl, (by show 1 ≤ sizeLine; decide), fun p np => ⟨(by show 1 ≤ sizeLine; decide), fun q nq => ?_⟩⟩
    exact mkF_of (t := [[false]]) ⟨q, _, rfl, .of upd_same, .cons ⟨p, _, rfl, .of (Same.new nq _ _ upd_same), .cons rfl .nil⟩ .nil⟩ (one_rect false) (by omega) (by omega) (one_mem false) fun v H2 s2 h2 => k v H2 (Same.trans (Same.new np) (Same.trans (Same.new nq) s2)) h2
/-! ### (p, q) in floors -/
def spHas (K : PySem.W.Frag) (C : Addr) : Sp := fun vs H Q _ => ∃ x S a, ∃ p q : Nat, vs = [x, .ref a] ∧ Fo K C H S x ∧ SqT K H a [.int p, .int q] ∧ 3 ≤ p ∧ 3 ≤ q ∧ Q (.bl (S (p - 3) (q - 3))) H
abbrev nHas : List Str := ["self", "floor", "p", "q", "row"]
theorem scHas : FnScope nHas ["self", "floor"] (defScope (inClass (top 15) 4)) := ⟨rfl, rfl, rfl, by decide +kernel, rfl, by decide +kernel, by decide +kernel⟩
theorem min_int {a b : Nat} (hb : 0 < b) (ha : 3 ≤ a) : (if (b : Int) - 1 < (a : Int) - 3 then (b : Int) - 1 else (a : Int) - 3) = ((min (a - 3) (b - 1) : Nat) : Int) := by
  split <;> omega
theorem c_has (D : DfM K C "__contains__" "Floors.__contains__" (inClass (top 15) 4)) (T : Bn mg) (W : FC K mg C) : Met P w K mg base 1 C "__contains__" (spHas K C) := by
  refine D.met scHas (fun _ _ _ _ _ _ us hl => match us, hl with | [_, _], _ => rfl) (fun vs H Q E h => ?_) (fun cdv A outer f s H vs Q E hr h => ?_)
  · obtain ⟨x, S, a, p, q, rfl, _⟩ := h
    rfl
  · obtain ⟨x, S, a, p, q, rfl, ⟨b, dx, r, t, n, m, rfl, hb, ⟨r', ws, er, qr, pr⟩, hR, hn, hm, hS, _⟩, ha, hp, hq, k⟩ := h
    cases er
    obtain ⟨tF, mF⟩ := W.mF
    have n0 := hR.n0
    have m0 := hR.m0
    have hlen := hR.len
    have hl := pr.length
    refine ⟨_, pss_cons (ps_asg (pv 1) (pg_2K rfl (pg_n 2 scHas.nd) (pg_n 3 scHas.nd)))
      (pss_cons (ps_if (PW.pt (pw_or (pt_cmpR op_lt (pv 2) (pe_glob (v := .int 3) rfl mF ⟨_, rfl⟩) (nomark _)) (pw_or1 (pt_cmpR op_lt (pv 3) (pe_glob (v := .int 3) rfl mF ⟨_, rfl⟩) (nomark _))))) (pss_one (ps_ret pe_bl)) pss_nil)
      (pss_cons (ps_set (i := 4) scHas.nd rfl (Or.inl rfl) (pe_ix ix_tup (pe_fld (pv 0) rfl) (pe_callB (call_min2 rfl) (by rfl) T.bmin (by decide +kernel) (pa_cons (pe_op op_sub (pv 2) (pe_glob (v := .int 3) rfl mF ⟨_, rfl⟩)) (pa_cons (pe_op op_sub (pe_callB call_len_seq (by rfl) T.blen PySem.boot_len (pa_cons (pe_fld (pv 0) rfl) pa_nil)) pe_int) pa_nil))) (fun _ _ => rfl)))
      (pss_one (ps_ret (pe_ix ix_tup (pv 4) (pe_callB (call_min2 rfl) (by rfl) T.bmin (by decide +kernel) (pa_cons (pe_op op_sub (pv 3) (pe_glob (v := .int 3) rfl mF ⟨_, rfl⟩)) (pa_cons (pe_op op_sub (pe_callB call_len_seq (by rfl) T.blen PySem.boot_len (pa_cons (pv 4) pa_nil)) pe_int) pa_nil))) (fun _ _ => rfl)))))), ?_⟩
    refine ⟨_, rfl, a, _, rfl, ha, rfl, _, _, rfl, _, _, rfl, rfl, ?_⟩
    refine ⟨_, rfl, _, _, rfl, rfl, _, rfl, iteDF (by omega) ?_⟩
    refine ⟨_, rfl, _, _, rfl, rfl, _, rfl, iteDF (by omega) ?_⟩
    have hlk : ([("rows", V.ref r)] : List (Str × V)).lookup ("rows" : Str) = some (.ref r) := by simp [List.lookup]
    obtain ⟨rw, hrw⟩ : ∃ rw, t[min (p - 3) (n - 1)]? = some rw := ⟨_, List.getElem?_eq_getElem (by omega)⟩
    obtain ⟨y, hy, c, us, rfl, qc, pc⟩ := Paired.get pr hrw
    have hrm := hR.row rw (List.mem_of_getElem? hrw)
    have := Paired.bV pc
    subst this
    refine ⟨_, rfl, b, C, dx, _, _, rfl, hb, W.cl, W.nR, hlk, _, rfl, _, _, rfl, rfl, _, rfl, b, C, dx, _, _, rfl, hb, W.cl, W.nR, hlk, r, _, rfl, .inr qr, _, _, rfl, rfl, _, _, rfl, ?_⟩
    rw [← hl, hlen, min_int n0 hp]
    refine ⟨r, _, _, _, rfl, rfl, qr, atI_nat hy, ?_⟩
    refine ⟨_, rfl, _, rfl, _, _, rfl, rfl, _, rfl, c, _, rfl, .inr qc, _, _, rfl, rfl, _, _, rfl, ?_⟩
    rw [List.length_map, hrm, min_int m0 hq]
    refine ⟨c, _, _, _, rfl, rfl, qc, atI_map (i := min (q - 3) (m - 1)) false (by omega) rfl, ?_⟩
    have e : S (p - 3) (q - 3) = rw.getD (min (q - 3) (m - 1)) false := by
      rw [← hS, hR.mem_eq, List.getD_eq_getElem?_getD (l := t), hrw]
      rfl
    rw [← e]
    exact k
end
end W5
set_option maxHeartbeats 8000000
/-! W5F4: the operators of Floors. -/
namespace W5
open PySem L2 K5
theorem walk_zipT {K : PySem.W.Frag} {a b : Addr} {xs ys : List V} {n : Nat} (hn : n = min xs.length ys.length) : Walk (RZ.ItzT K a b) n (fun H => SqT K H a xs ∧ SqT K H b ys) (YPair (fun i => xs[i]?) (fun i => ys[i]?)) := by
  subst hn
  refine ⟨fun i _ hi q => ?_, fun _ q => ⟨xs, ys, q.1, q.2, by omega⟩, fun i H v H' _ q y => ?_⟩
  · have h1 : i < xs.length := by omega
    have h2 : i < ys.length := by omega
    exact ⟨xs, ys, xs[i], ys[i], q.1, q.2, by simp [h1], by simp [h2]⟩
  · obtain ⟨T, x, z, h1, h2, h3, h4, h5⟩ := y
    exact ⟨T, x, z, h1, h2, h3, h4 xs q.1, h5 ys q.2⟩
section
variable {P : Program} {w : World} {K : PySem.W.Frag} {mg : Str → Option Value} {base : Heap} {C : Addr}
def spBin (K : PySem.W.Frag) (C : Addr) (g : Bool → Bool → Bool) : Sp := fun vs H Q _ => ∃ x y S T, vs = [x, y] ∧ Fo K C H S x ∧ Fo K C H T y ∧ ∀ z H', Same H H' → Fo K C H' (fun i j => g (S i j) (T i j)) z → Q z H'
theorem bin_inner {X : Cx} : True := trivial
abbrev nBin : List Str := ["self", "other", "mine", "theirs", "one", "two", "a", "b"]
theorem scAnd : FnScope nBin ["self", "other"] (defScope (inClass (top 15) 7)) := ⟨rfl, rfl, rfl, by decide +kernel, rfl, by decide +kernel, by decide +kernel⟩
theorem c_And (D : DfM K C "__and__" "Floors.__and__" (inClass (top 15) 7)) (T : Bn mg) (W : FC K mg C) (CA : Cal P w K mg base 2 "alongside" (spAlong K)) (CF : Mak P w K mg base 3 "Floors" C (spFI K C)) : Met P w K mg base 5 C "__and__" (spBin K C (fun a b => a && b)) := by
  refine D.met scAnd (fun _ _ _ _ _ _ us hl => match us, hl with | [_, _], _ => rfl) (fun vs H Q E h => ?_) (fun cdv A outer f s H vs Q E hr h => ?_)
  · obtain ⟨x, y, S, T, rfl, _⟩ := h
    rfl
  · obtain ⟨x, y, S1, S2, rfl, ⟨b, dx, r, t, n, m, rfl, hb, qr, hR, hn, hm, hS, _⟩, ⟨b', dx', r', t', n', m', rfl, hb', qr', hR', hn', hm', hS', _⟩, k⟩ := h
    have hlk : ∀ r, ([("rows", V.ref r)] : List (Str × V)).lookup ("rows" : Str) = some (.ref r) := fun r => by simp [List.lookup]
    refine ⟨_, pss_cons (ps_asg (pe_c CA hr (by decide) rfl (pa_cons (pe_fld (pv 0) rfl) (pa_cons (pe_fld (pv 1) rfl) pa_nil))) (pg_2K rfl (pg_n 2 scAnd.nd) (pg_n 3 scAnd.nd)))
      (pss_one (ps_ret (pe_mk CF hr (by decide) rfl (pa_cons (pe_lcA [("one", 4), ("two", 5)] rfl scAnd.nd (RZ.pi_zipA rfl T.bzip (pa_cons (pv 2) (pa_cons (pv 3) pa_nil))) (blkOk_by (N := nBin) (sc := defScope (inClass (top 15) 7)) (by decide +kernel)) (fun _ _ _ _ _ => pg_2K rfl (pg_n 4 scAnd.nd) (pg_n 5 scAnd.nd))) pa_nil)))), ?_⟩
    refine ⟨_, rfl, b, C, dx, _, _, rfl, hb, W.cl, W.nR, hlk r, _, rfl, b', C, dx', _, _, rfl, hb', W.cl, W.nR, hlk r', .ref r, .ref r', t, t', n, m, n', m', rfl, qr, qr', hR, hR', by omega, by omega, by omega, by omega, fun q u v H1 s1 hq hu hv => ?_⟩
    obtain ⟨g1, e1⟩ := grow_ok hR (Nat.le_max_left n n') (Nat.le_max_left m m')
    obtain ⟨g2, e2⟩ := grow_ok hR' (Nat.le_max_right n n') (Nat.le_max_right m m')
    generalize grow n m (max n n') (max m m') t = t1 at g1 e1 hu
    generalize grow n' m' (max n n') (max m m') t' = t2 at g2 e2 hv
    obtain ⟨bR, bM⟩ := both_ok (g := fun a b => a && b) g1 g2
    obtain ⟨ua, us, rfl, qu, pu⟩ := hu
    obtain ⟨va, vs, rfl, qv, pv'⟩ := hv
    have lu : us.length = max n n' := by rw [← pu.length, g1.len]
    have lv : vs.length = max n n' := by rw [← pv'.length, g2.len]
    refine ⟨q, _, rfl, .of hq, rfl, _, _, rfl, _, _, rfl, rfl, ?_⟩
    refine ⟨[some (.ref b), some (.ref b'), some (.ref ua), some (.ref va), none, none, none, none], rfl, _, rfl, _, rfl, ua, va, us, vs, rfl, .inl ⟨qu, qv, fun D nD => ?_⟩⟩
    refine lc_2 (walk_zip (n := max n n') (xs := us) (ys := vs) (by rw [lu, lv]; omega)) (Ls K Bv) (fun i => (both (fun a b => a && b) t1 t2).getD i []) (Mo.ls Mo.b) nD (lsz (m := 100) (by omega)) (fun _ s => ⟨Same.sL s qu, Same.sL s qv⟩) (fun _ _ => rfl) ?_ hY_pair ?_
    · rintro i x H2 _ hi s2 ⟨tp, p1, p2, rfl, ntp, rfl, f1, f2⟩
      obtain ⟨ro, hro, oa, os, rfl, qo, po⟩ := Paired.getR pu f1
      obtain ⟨rt, hrt, ta, ts, rfl, qt, pt⟩ := Paired.getR pv' f2
      have lo : ro.length = max m m' := g1.row ro (List.mem_of_getElem? hro)
      have lt : rt.length = max m m' := g2.row rt (List.mem_of_getElem? hrt)
      have erow : (both (fun a b => a && b) t1 t2).getD i [] = List.zipWith (fun a b => a && b) ro rt := by
        unfold both
        rw [List.getD_eq_getElem?_getD, List.getElem?_zipWith, hro, hrt]
        rfl
      refine ⟨tp, _, _, rfl, .of upd_same, fun Hx sx Q1 hQ1 s' H0' C' cl fp => ?_⟩
      refine ⟨_, pe_lcA [("a", 6), ("b", 7)] rfl scAnd.nd (RZ.pi_zipA rfl T.bzip (pa_cons (pv 4) (pa_cons (pv 5) pa_nil))) (blkOk_by (N := nBin) (by kernel_rfl)) (fun _ _ _ _ _ => pg_2K rfl (pg_n 6 scAnd.nd) (pg_n 7 scAnd.nd)), ?_⟩
      have := Paired.bV po
      subst this
      have := Paired.bV pt
      subst this
      refine ⟨[some (.ref b), some (.ref b'), some (.ref ua), some (.ref va), some (.ref oa), some (.ref ta), none, none], rfl, _, rfl, _, rfl, oa, ta, _, _, rfl, .inr ⟨Same.sT sx qo, Same.sT sx qt, fun D2 nD2 => ?_⟩⟩
      refine lc_2 (walk_zipT (n := max m m') (xs := ro.map V.bl) (ys := rt.map V.bl) (by rw [List.length_map, List.length_map, lo, lt]; omega)) Bv (fun j => (fun a b => a && b) (ro.getD j false) (rt.getD j false)) Mo.b nD2 (lsz (m := 100) (by omega)) (fun _ s => ⟨Same.sT s (Same.sT sx qo), Same.sT s (Same.sT sx qt)⟩) (fun _ _ => rfl) ?_ hY_pair ?_
      · rintro j x H3 _ hj s3 ⟨tq, p3, p4, rfl, ntq, rfl, f3, f4⟩
        have f5 : (ro.map V.bl)[j]? = some p3 := f3
        have f6 : (rt.map V.bl)[j]? = some p4 := f4
        rw [List.getElem?_map, List.getElem?_eq_getElem (by omega)] at f5 f6
        cases f5
        cases f6
        have ex : ro.getD j false = ro[j] := by rw [List.getD_eq_getElem?_getD, List.getElem?_eq_getElem (by omega)]; rfl
        have ey : rt.getD j false = rt[j] := by rw [List.getD_eq_getElem?_getD, List.getElem?_eq_getElem (by omega)]; rfl
        rw [ex, ey]
        refine ⟨tq, _, _, rfl, .of upd_same, ?_⟩
        generalize ro[j] = x
        generalize rt[j] = y
        intro Hx2 sx2 Q2 hQ2 s2 H02 C2 cl2 fp2
        refine ⟨_, pe_and (pv 6) (pe_one (pv 7)), _, rfl, x, rfl, ?_⟩
        cases x with
        | false => exact hQ2 _ _ (Same.refl _) rfl
        | true => exact ⟨_, rfl, hQ2 _ _ (Same.refl _) (congrArg V.bl (Bool.true_and y).symm)⟩
      · intro H4 ys s4 hD4 hp4
        refine hQ1 _ _ s4 ⟨D2, ys, rfl, .of hD4, ?_⟩
        have e5 : (both (fun a b => a && b) t1 t2).getD i [] = (List.range (max m m')).map fun j => (fun a b => a && b) (ro.getD j false) (rt.getD j false) := by
          rw [erow]
          apply List.ext_getElem
          · simp [lo, lt]
          · intro j h1 h2
            simp only [List.length_map, List.length_range] at h2
            simp [List.getD_eq_getElem?_getD, lo, lt, h2]
        show Paired (Bv H4) ((both (fun a b => a && b) t1 t2).getD i []) ys
        rw [e5]
        exact hp4
    · intro H4 ys s4 hD4 hp4
      have e5 : (List.range (max n n')).map (fun i => (both (fun a b => a && b) t1 t2).getD i []) = both (fun a b => a && b) t1 t2 := by
        apply List.ext_getElem
        · rw [List.length_map, List.length_range, bR.len]
        · intro j h1 h2
          simp [List.getD_eq_getElem?_getD, h2]
      rw [e5] at hp4
      exact mkF_of ⟨D, ys, rfl, .of hD4, hp4⟩ bR (by omega) (by omega) (fun i j => by rw [bM, e1, e2, hS, hS']) fun z H5 s5 h5 => k z H5 (Same.trans s1 (Same.trans s4 s5)) h5
theorem scOr : FnScope nBin ["self", "other"] (defScope (inClass (top 15) 8)) := ⟨rfl, rfl, rfl, by decide +kernel, rfl, by decide +kernel, by decide +kernel⟩
theorem c_Or (D : DfM K C "__or__" "Floors.__or__" (inClass (top 15) 8)) (T : Bn mg) (W : FC K mg C) (CA : Cal P w K mg base 2 "alongside" (spAlong K)) (CF : Mak P w K mg base 3 "Floors" C (spFI K C)) : Met P w K mg base 5 C "__or__" (spBin K C (fun a b => a || b)) := by
  refine D.met scOr (fun _ _ _ _ _ _ us hl => match us, hl with | [_, _], _ => rfl) (fun vs H Q E h => ?_) (fun cdv A outer f s H vs Q E hr h => ?_)
  · obtain ⟨x, y, S, T, rfl, _⟩ := h
    rfl
  · obtain ⟨x, y, S1, S2, rfl, ⟨b, dx, r, t, n, m, rfl, hb, qr, hR, hn, hm, hS, _⟩, ⟨b', dx', r', t', n', m', rfl, hb', qr', hR', hn', hm', hS', _⟩, k⟩ := h
    have hlk : ∀ r, ([("rows", V.ref r)] : List (Str × V)).lookup ("rows" : Str) = some (.ref r) := fun r => by simp [List.lookup]
    refine ⟨_, pss_cons (ps_asg (pe_c CA hr (by decide) rfl (pa_cons (pe_fld (pv 0) rfl) (pa_cons (pe_fld (pv 1) rfl) pa_nil))) (pg_2K rfl (pg_n 2 scOr.nd) (pg_n 3 scOr.nd)))
      (pss_one (ps_ret (pe_mk CF hr (by decide) rfl (pa_cons (pe_lcA [("one", 4), ("two", 5)] rfl scOr.nd (RZ.pi_zipA rfl T.bzip (pa_cons (pv 2) (pa_cons (pv 3) pa_nil))) (blkOk_by (N := nBin) (sc := defScope (inClass (top 15) 8)) (by decide +kernel)) (fun _ _ _ _ _ => pg_2K rfl (pg_n 4 scOr.nd) (pg_n 5 scOr.nd))) pa_nil)))), ?_⟩
    refine ⟨_, rfl, b, C, dx, _, _, rfl, hb, W.cl, W.nR, hlk r, _, rfl, b', C, dx', _, _, rfl, hb', W.cl, W.nR, hlk r', .ref r, .ref r', t, t', n, m, n', m', rfl, qr, qr', hR, hR', by omega, by omega, by omega, by omega, fun q u v H1 s1 hq hu hv => ?_⟩
    obtain ⟨g1, e1⟩ := grow_ok hR (Nat.le_max_left n n') (Nat.le_max_left m m')
    obtain ⟨g2, e2⟩ := grow_ok hR' (Nat.le_max_right n n') (Nat.le_max_right m m')
    generalize grow n m (max n n') (max m m') t = t1 at g1 e1 hu
    generalize grow n' m' (max n n') (max m m') t' = t2 at g2 e2 hv
    obtain ⟨bR, bM⟩ := both_ok (g := fun a b => a || b) g1 g2
    obtain ⟨ua, us, rfl, qu, pu⟩ := hu
    obtain ⟨va, vs, rfl, qv, pv'⟩ := hv
    have lu : us.length = max n n' := by rw [← pu.length, g1.len]
    have lv : vs.length = max n n' := by rw [← pv'.length, g2.len]
    refine ⟨q, _, rfl, .of hq, rfl, _, _, rfl, _, _, rfl, rfl, ?_⟩
    refine ⟨[some (.ref b), some (.ref b'), some (.ref ua), some (.ref va), none, none, none, none], rfl, _, rfl, _, rfl, ua, va, us, vs, rfl, .inl ⟨qu, qv, fun D nD => ?_⟩⟩
    refine lc_2 (walk_zip (n := max n n') (xs := us) (ys := vs) (by rw [lu, lv]; omega)) (Ls K Bv) (fun i => (both (fun a b => a || b) t1 t2).getD i []) (Mo.ls Mo.b) nD (lsz (m := 100) (by omega)) (fun _ s => ⟨Same.sL s qu, Same.sL s qv⟩) (fun _ _ => rfl) ?_ hY_pair ?_
    · rintro i x H2 _ hi s2 ⟨tp, p1, p2, rfl, ntp, rfl, f1, f2⟩
      obtain ⟨ro, hro, oa, os, rfl, qo, po⟩ := Paired.getR pu f1
      obtain ⟨rt, hrt, ta, ts, rfl, qt, pt⟩ := Paired.getR pv' f2
      have lo : ro.length = max m m' := g1.row ro (List.mem_of_getElem? hro)
      have lt : rt.length = max m m' := g2.row rt (List.mem_of_getElem? hrt)
      have erow : (both (fun a b => a || b) t1 t2).getD i [] = List.zipWith (fun a b => a || b) ro rt := by
        unfold both
        rw [List.getD_eq_getElem?_getD, List.getElem?_zipWith, hro, hrt]
        rfl
      refine ⟨tp, _, _, rfl, .of upd_same, fun Hx sx Q1 hQ1 s' H0' C' cl fp => ?_⟩
      refine ⟨_, pe_lcA [("a", 6), ("b", 7)] rfl scOr.nd (RZ.pi_zipA rfl T.bzip (pa_cons (pv 4) (pa_cons (pv 5) pa_nil))) (blkOk_by (N := nBin) (by kernel_rfl)) (fun _ _ _ _ _ => pg_2K rfl (pg_n 6 scOr.nd) (pg_n 7 scOr.nd)), ?_⟩
      have := Paired.bV po
      subst this
      have := Paired.bV pt
      subst this
      refine ⟨[some (.ref b), some (.ref b'), some (.ref ua), some (.ref va), some (.ref oa), some (.ref ta), none, none], rfl, _, rfl, _, rfl, oa, ta, _, _, rfl, .inr ⟨Same.sT sx qo, Same.sT sx qt, fun D2 nD2 => ?_⟩⟩
      refine lc_2 (walk_zipT (n := max m m') (xs := ro.map V.bl) (ys := rt.map V.bl) (by rw [List.length_map, List.length_map, lo, lt]; omega)) Bv (fun j => (fun a b => a || b) (ro.getD j false) (rt.getD j false)) Mo.b nD2 (lsz (m := 100) (by omega)) (fun _ s => ⟨Same.sT s (Same.sT sx qo), Same.sT s (Same.sT sx qt)⟩) (fun _ _ => rfl) ?_ hY_pair ?_
      · rintro j x H3 _ hj s3 ⟨tq, p3, p4, rfl, ntq, rfl, f3, f4⟩
        have f5 : (ro.map V.bl)[j]? = some p3 := f3
        have f6 : (rt.map V.bl)[j]? = some p4 := f4
        rw [List.getElem?_map, List.getElem?_eq_getElem (by omega)] at f5 f6
        cases f5
        cases f6
        have ex : ro.getD j false = ro[j] := by rw [List.getD_eq_getElem?_getD, List.getElem?_eq_getElem (by omega)]; rfl
        have ey : rt.getD j false = rt[j] := by rw [List.getD_eq_getElem?_getD, List.getElem?_eq_getElem (by omega)]; rfl
        rw [ex, ey]
        refine ⟨tq, _, _, rfl, .of upd_same, ?_⟩
        generalize ro[j] = x
        generalize rt[j] = y
        intro Hx2 sx2 Q2 hQ2 s2 H02 C2 cl2 fp2
        refine ⟨_, pe_or (pv 6) (pe_one (pv 7)), _, rfl, x, rfl, ?_⟩
        cases x with
        | true => exact hQ2 _ _ (Same.refl _) rfl
        | false => exact ⟨_, rfl, hQ2 _ _ (Same.refl _) (congrArg V.bl (Bool.false_or y).symm)⟩
      · intro H4 ys s4 hD4 hp4
        refine hQ1 _ _ s4 ⟨D2, ys, rfl, .of hD4, ?_⟩
        have e5 : (both (fun a b => a || b) t1 t2).getD i [] = (List.range (max m m')).map fun j => (fun a b => a || b) (ro.getD j false) (rt.getD j false) := by
          rw [erow]
          apply List.ext_getElem
          · simp [lo, lt]
          · intro j h1 h2
            simp only [List.length_map, List.length_range] at h2
            simp [List.getD_eq_getElem?_getD, lo, lt, h2]
        show Paired (Bv H4) ((both (fun a b => a || b) t1 t2).getD i []) ys
        rw [e5]
        exact hp4
    · intro H4 ys s4 hD4 hp4
      have e5 : (List.range (max n n')).map (fun i => (both (fun a b => a || b) t1 t2).getD i []) = both (fun a b => a || b) t1 t2 := by
        apply List.ext_getElem
        · rw [List.length_map, List.length_range, bR.len]
        · intro j h1 h2
          simp [List.getD_eq_getElem?_getD, h2]
      rw [e5] at hp4
      exact mkF_of ⟨D, ys, rfl, .of hD4, hp4⟩ bR (by omega) (by omega) (fun i j => by rw [bM, e1, e2, hS, hS']) fun z H5 s5 h5 => k z H5 (Same.trans s1 (Same.trans s4 s5)) h5
theorem scSub : FnScope nBin ["self", "other"] (defScope (inClass (top 15) 9)) := ⟨rfl, rfl, rfl, by decide +kernel, rfl, by decide +kernel, by decide +kernel⟩
theorem c_Sub (D : DfM K C "__sub__" "Floors.__sub__" (inClass (top 15) 9)) (T : Bn mg) (W : FC K mg C) (CA : Cal P w K mg base 2 "alongside" (spAlong K)) (CF : Mak P w K mg base 3 "Floors" C (spFI K C)) : Met P w K mg base 5 C "__sub__" (spBin K C (fun a b => a && !b)) := by
  refine D.met scSub (fun _ _ _ _ _ _ us hl => match us, hl with | [_, _], _ => rfl) (fun vs H Q E h => ?_) (fun cdv A outer f s H vs Q E hr h => ?_)
  · obtain ⟨x, y, S, T, rfl, _⟩ := h
    rfl
  · obtain ⟨x, y, S1, S2, rfl, ⟨b, dx, r, t, n, m, rfl, hb, qr, hR, hn, hm, hS, _⟩, ⟨b', dx', r', t', n', m', rfl, hb', qr', hR', hn', hm', hS', _⟩, k⟩ := h
    have hlk : ∀ r, ([("rows", V.ref r)] : List (Str × V)).lookup ("rows" : Str) = some (.ref r) := fun r => by simp [List.lookup]
    refine ⟨_, pss_cons (ps_asg (pe_c CA hr (by decide) rfl (pa_cons (pe_fld (pv 0) rfl) (pa_cons (pe_fld (pv 1) rfl) pa_nil))) (pg_2K rfl (pg_n 2 scSub.nd) (pg_n 3 scSub.nd)))
      (pss_one (ps_ret (pe_mk CF hr (by decide) rfl (pa_cons (pe_lcA [("one", 4), ("two", 5)] rfl scSub.nd (RZ.pi_zipA rfl T.bzip (pa_cons (pv 2) (pa_cons (pv 3) pa_nil))) (blkOk_by (N := nBin) (sc := defScope (inClass (top 15) 9)) (by decide +kernel)) (fun _ _ _ _ _ => pg_2K rfl (pg_n 4 scSub.nd) (pg_n 5 scSub.nd))) pa_nil)))), ?_⟩
    refine ⟨_, rfl, b, C, dx, _, _, rfl, hb, W.cl, W.nR, hlk r, _, rfl, b', C, dx', _, _, rfl, hb', W.cl, W.nR, hlk r', .ref r, .ref r', t, t', n, m, n', m', rfl, qr, qr', hR, hR', by omega, by omega, by omega, by omega, fun q u v H1 s1 hq hu hv => ?_⟩
    obtain ⟨g1, e1⟩ := grow_ok hR (Nat.le_max_left n n') (Nat.le_max_left m m')
    obtain ⟨g2, e2⟩ := grow_ok hR' (Nat.le_max_right n n') (Nat.le_max_right m m')
    generalize grow n m (max n n') (max m m') t = t1 at g1 e1 hu
    generalize grow n' m' (max n n') (max m m') t' = t2 at g2 e2 hv
    obtain ⟨bR, bM⟩ := both_ok (g := fun a b => a && !b) g1 g2
    obtain ⟨ua, us, rfl, qu, pu⟩ := hu
    obtain ⟨va, vs, rfl, qv, pv'⟩ := hv
    have lu : us.length = max n n' := by rw [← pu.length, g1.len]
    have lv : vs.length = max n n' := by rw [← pv'.length, g2.len]
    refine ⟨q, _, rfl, .of hq, rfl, _, _, rfl, _, _, rfl, rfl, ?_⟩
    refine ⟨[some (.ref b), some (.ref b'), some (.ref ua), some (.ref va), none, none, none, none], rfl, _, rfl, _, rfl, ua, va, us, vs, rfl, .inl ⟨qu, qv, fun D nD => ?_⟩⟩
    refine lc_2 (walk_zip (n := max n n') (xs := us) (ys := vs) (by rw [lu, lv]; omega)) (Ls K Bv) (fun i => (both (fun a b => a && !b) t1 t2).getD i []) (Mo.ls Mo.b) nD (lsz (m := 100) (by omega)) (fun _ s => ⟨Same.sL s qu, Same.sL s qv⟩) (fun _ _ => rfl) ?_ hY_pair ?_
    · rintro i x H2 _ hi s2 ⟨tp, p1, p2, rfl, ntp, rfl, f1, f2⟩
      obtain ⟨ro, hro, oa, os, rfl, qo, po⟩ := Paired.getR pu f1
      obtain ⟨rt, hrt, ta, ts, rfl, qt, pt⟩ := Paired.getR pv' f2
      have lo : ro.length = max m m' := g1.row ro (List.mem_of_getElem? hro)
      have lt : rt.length = max m m' := g2.row rt (List.mem_of_getElem? hrt)
      have erow : (both (fun a b => a && !b) t1 t2).getD i [] = List.zipWith (fun a b => a && !b) ro rt := by
        unfold both
        rw [List.getD_eq_getElem?_getD, List.getElem?_zipWith, hro, hrt]
        rfl
      refine ⟨tp, _, _, rfl, .of upd_same, fun Hx sx Q1 hQ1 s' H0' C' cl fp => ?_⟩
      refine ⟨_, pe_lcA [("a", 6), ("b", 7)] rfl scSub.nd (RZ.pi_zipA rfl T.bzip (pa_cons (pv 4) (pa_cons (pv 5) pa_nil))) (blkOk_by (N := nBin) (by kernel_rfl)) (fun _ _ _ _ _ => pg_2K rfl (pg_n 6 scSub.nd) (pg_n 7 scSub.nd)), ?_⟩
      have := Paired.bV po
      subst this
      have := Paired.bV pt
      subst this
      refine ⟨[some (.ref b), some (.ref b'), some (.ref ua), some (.ref va), some (.ref oa), some (.ref ta), none, none], rfl, _, rfl, _, rfl, oa, ta, _, _, rfl, .inr ⟨Same.sT sx qo, Same.sT sx qt, fun D2 nD2 => ?_⟩⟩
      refine lc_2 (walk_zipT (n := max m m') (xs := ro.map V.bl) (ys := rt.map V.bl) (by rw [List.length_map, List.length_map, lo, lt]; omega)) Bv (fun j => (fun a b => a && !b) (ro.getD j false) (rt.getD j false)) Mo.b nD2 (lsz (m := 100) (by omega)) (fun _ s => ⟨Same.sT s (Same.sT sx qo), Same.sT s (Same.sT sx qt)⟩) (fun _ _ => rfl) ?_ hY_pair ?_
      · rintro j x H3 _ hj s3 ⟨tq, p3, p4, rfl, ntq, rfl, f3, f4⟩
        have f5 : (ro.map V.bl)[j]? = some p3 := f3
        have f6 : (rt.map V.bl)[j]? = some p4 := f4
        rw [List.getElem?_map, List.getElem?_eq_getElem (by omega)] at f5 f6
        cases f5
        cases f6
        have ex : ro.getD j false = ro[j] := by rw [List.getD_eq_getElem?_getD, List.getElem?_eq_getElem (by omega)]; rfl
        have ey : rt.getD j false = rt[j] := by rw [List.getD_eq_getElem?_getD, List.getElem?_eq_getElem (by omega)]; rfl
        rw [ex, ey]
        refine ⟨tq, _, _, rfl, .of upd_same, ?_⟩
        generalize ro[j] = x
        generalize rt[j] = y
        intro Hx2 sx2 Q2 hQ2 s2 H02 C2 cl2 fp2
        refine ⟨_, pe_and (pv 6) (pe_one (pe_not (pv 7))), _, rfl, x, rfl, ?_⟩
        cases x with
        | false => exact hQ2 _ _ (Same.refl _) rfl
        | true => exact ⟨_, rfl, y, rfl, hQ2 _ _ (Same.refl _) (congrArg V.bl (Bool.true_and (!y)).symm)⟩
      · intro H4 ys s4 hD4 hp4
        refine hQ1 _ _ s4 ⟨D2, ys, rfl, .of hD4, ?_⟩
        have e5 : (both (fun a b => a && !b) t1 t2).getD i [] = (List.range (max m m')).map fun j => (fun a b => a && !b) (ro.getD j false) (rt.getD j false) := by
          rw [erow]
          apply List.ext_getElem
          · simp [lo, lt]
          · intro j h1 h2
            simp only [List.length_map, List.length_range] at h2
            simp [List.getD_eq_getElem?_getD, lo, lt, h2]
        show Paired (Bv H4) ((both (fun a b => a && !b) t1 t2).getD i []) ys
        rw [e5]
        exact hp4
    · intro H4 ys s4 hD4 hp4
      have e5 : (List.range (max n n')).map (fun i => (both (fun a b => a && !b) t1 t2).getD i []) = both (fun a b => a && !b) t1 t2 := by
        apply List.ext_getElem
        · rw [List.length_map, List.length_range, bR.len]
        · intro j h1 h2
          simp [List.getD_eq_getElem?_getD, h2]
      rw [e5] at hp4
      exact mkF_of ⟨D, ys, rfl, .of hD4, hp4⟩ bR (by omega) (by omega) (fun i j => by rw [bM, e1, e2, hS, hS']) fun z H5 s5 h5 => k z H5 (Same.trans s1 (Same.trans s4 s5)) h5
end
end W5
set_option maxHeartbeats 8000000
/-! W5F5: the equality and the truth of Floors. -/
namespace W5
open PySem L2 K5
def tabD (t : Tab) : PyData := .tuple (t.map rowD)
theorem tabD_lay : ∀ t : Tab, PyData.canLayAll0 (t.map rowD) = true
  | [] => by simp [PyData.canLayAll0]
  | r :: t => by simp [PyData.canLayAll0, rowD_lay, tabD_lay t]
theorem tabD_depth : ∀ t : Tab, PyData.depthAll (t.map rowD) ≤ 1
  | [] => by simp [PyData.depthAll]
  | r :: t => by
    have h1 := tabD_depth t
    have h2 := rowD_depth r
    simp only [List.map_cons, PyData.depthAll]
    omega
theorem tabD_shaped (t : Tab) : SeqAt.shaped (tabD t) = true := by
  have h1 := tabD_depth t
  have h2 : PyData.depth (tabD t) ≤ 64 := by
    simp only [tabD, PyData.depth]
    omega
  show (PyData.canLay0 (tabD t) && decide (PyData.depth (tabD t) ≤ 64)) = true
  rw [Bool.and_eq_true]
  exact ⟨by simp only [tabD, PyData.canLay0]; exact tabD_lay t, decide_eq_true h2⟩
theorem tabD_all {K : PySem.W.Frag} {H : Hp} : ∀ {t : Tab} {vs : List V}, Paired (Tp K Bv H) t vs → DpAll K H vs (t.map rowD)
  | _, _, .nil => .nil
  | _, _, .cons e t => .cons (rowD_dp e) (tabD_all t)
theorem tabD_dp {K : PySem.W.Frag} {H : Hp} {t : Tab} {v : V} (h : TabT K H t v) : Dp K H v (tabD t) := by
  obtain ⟨a, vs, rfl, q, p⟩ := h
  exact .tup q (tabD_all p)
theorem inV_true (r : List Bool) : inV (.bl true) (r.map V.bl) = r.any id := by
  unfold inV
  rw [List.any_map]
  congr 1
  funext b
  show (b == true) = b
  cases b <;> rfl
theorem mem_any {n m : Nat} {t : Tab} (hR : Rect n m t) : ((t.map fun r => r.any id).any id = true) ↔ ∃ i j, memT t i j = true := by
  constructor
  · intro h
    rw [List.any_map, List.any_eq_true] at h
    obtain ⟨r, hr, h⟩ := h
    have h' : r.any id = true := h
    rw [List.any_eq_true] at h'
    obtain ⟨b, hb, eb⟩ := h'
    have eb' : b = true := eb
    subst eb'
    obtain ⟨i, hi, ei⟩ := List.getElem_of_mem hr
    obtain ⟨j, hj, ej⟩ := List.getElem_of_mem hb
    refine ⟨i, j, ?_⟩
    have h1 := hR.len
    have h2 := hR.row r hr
    rw [hR.mem_eq, show min i (n - 1) = i by omega, show min j (m - 1) = j by omega, List.getD_eq_getElem?_getD (l := t), List.getElem?_eq_getElem hi, Option.getD_some, ei, List.getD_eq_getElem?_getD, List.getElem?_eq_getElem hj, Option.getD_some, ej]
  · rintro ⟨i, j, h⟩
    rw [hR.mem_eq] at h
    have h1 := hR.len
    have n0 := hR.n0
    have m0 := hR.m0
    have hi : min i (n - 1) < t.length := by omega
    rw [List.getD_eq_getElem?_getD (l := t), List.getElem?_eq_getElem hi, Option.getD_some] at h
    have h2 := hR.row _ (List.getElem_mem hi)
    rw [List.getD_eq_getElem?_getD, List.getElem?_eq_getElem (by omega), Option.getD_some] at h
    rw [List.any_map, List.any_eq_true]
    refine ⟨_, List.getElem_mem hi, ?_⟩
    show List.any _ id = true
    rw [List.any_eq_true]
    exact ⟨_, List.getElem_mem _, h⟩
section
variable {P : Program} {w : World} {K : PySem.W.Frag} {mg : Str → Option Value} {base : Heap} {C : Addr}
def spFEq (K : PySem.W.Frag) (C : Addr) : Sp := fun vs H Q _ => ∃ x y S T, vs = [x, y] ∧ Fo K C H S x ∧ Fo K C H T y ∧ ∀ b, ((∀ i j, S i j = true) → (∀ i j, T i j = true) → b = true) → Q (.bl b) H
theorem scFEq : FnScope ["self", "other"] ["self", "other"] (defScope (inClass (top 15) 5)) := ⟨rfl, rfl, rfl, by decide +kernel, rfl, by decide +kernel, by decide +kernel⟩
theorem c_FEq (D : DfM K C "__eq__" "Floors.__eq__" (inClass (top 15) 5)) (T : Bn mg) (W : FC K mg C) : Met P w K mg base 1 C "__eq__" (spFEq K C) := by
  refine D.met scFEq (fun _ _ _ _ _ _ us hl => match us, hl with | [_, _], _ => rfl) (fun vs H Q E h => ?_) (fun cdv A outer f s H vs Q E hr h => ?_)
  · obtain ⟨x, y, S, T, rfl, _⟩ := h
    rfl
  · obtain ⟨x, y, S1, S2, rfl, ⟨b, dx, r, t, n, m, rfl, hb, qr, hR, hn, hm, hS, hS1⟩, ⟨b', dx', r', t', n', m', rfl, hb', qr', hR', hn', hm', hS', hS2⟩, k⟩ := h
    have hlk : ∀ r, ([("rows", V.ref r)] : List (Str × V)).lookup ("rows" : Str) = some (.ref r) := fun r => by simp [List.lookup]
    refine ⟨_, pss_one (ps_ret (pe_and (pe_callB (C8.call_isC W.isC) (by rfl) T.bisi (by decide +kernel) (pa_cons (pv 1) (pa_cons (pe_glob rfl W.mC (rvr C)) pa_nil))) (pe_one (pe_cmpR (op_eqD hr.units) (pe_fld (pv 0) rfl) (pe_fld (pv 1) rfl) (nomark _))))), ?_⟩
    refine ⟨_, rfl, b', dx', _, rfl, hb', true, rfl, ?_⟩
    refine ⟨_, rfl, b, C, dx, _, _, rfl, hb, W.cl, W.nR, hlk r, _, rfl, b', C, dx', _, _, rfl, hb', W.cl, W.nR, hlk r', tabD t, tabD t', tabD_dp qr, tabD_dp qr', tabD_shaped t, tabD_shaped t', k _ fun h1 h2 => ?_⟩
    rw [hS1 h1, hS2 h2]
    simp [tabD, rowD, PyData.eqv, PyData.eqvAll]
def spFBool (K : PySem.W.Frag) (C : Addr) : Sp := fun vs H Q _ => ∃ x S, vs = [x] ∧ Fo K C H S x ∧ ∀ b H', Same H H' → (b = true ↔ ∃ i j, S i j = true) → Q (.bl b) H'
abbrev nFBool : List Str := ["self", "row"]
theorem scFBool : FnScope nFBool ["self"] (defScope (inClass (top 15) 6)) := ⟨rfl, rfl, rfl, by decide +kernel, rfl, by decide +kernel, by decide +kernel⟩
theorem c_FBool (D : DfM K C "__bool__" "Floors.__bool__" (inClass (top 15) 6)) (T : Bn mg) (W : FC K mg C) : Met P w K mg base 1 C "__bool__" (spFBool K C) := by
  refine D.met scFBool (fun _ _ _ _ _ _ us hl => match us, hl with | [_], _ => rfl) (fun vs H Q E h => ?_) (fun cdv A outer f s H vs Q E hr h => ?_)
  · obtain ⟨x, S, rfl, _⟩ := h
    rfl
  · obtain ⟨x, S1, rfl, ⟨b, dx, r, t, n, m, rfl, hb, ⟨r', ws, er, qr, pr⟩, hR, hn, hm, hS, hS1⟩, k⟩ := h
    cases er
    have hl := pr.length
    have hlen := hR.len
    have hlk : ([("rows", V.ref r)] : List (Str × V)).lookup ("rows" : Str) = some (.ref r) := by simp [List.lookup]
    refine ⟨_, pss_one (ps_ret (pe_callB (cr_any rfl) (by rfl) T.bany (by decide +kernel) (pa_cons (pe_lcA [("row", 1)] rfl scFBool.nd (pi_tup (pe_fld (pv 0) rfl)) (blkOk_by (N := nFBool) (sc := defScope (inClass (top 15) 6)) (by decide +kernel)) (fun _ _ _ _ _ => pg_n 1 scFBool.nd)) pa_nil))), ?_⟩
    refine ⟨[some (.ref b), none], rfl, _, rfl, b, C, dx, _, _, rfl, hb, W.cl, W.nR, hlk, r, rfl, ⟨_, qr⟩, fun D nD => ?_⟩
    refine lc_L (walk_tup (xs := ws)) (Rs := Tp K Bv) pr Bv (fun row => row.any id) Mo.b nD (lsz (m := 100) (by omega)) (fun _ s => Same.sT s qr) (fun _ => rfl) ?_ ?_
    · rintro row v Hx hrow ⟨c, us, rfl, qc, pc⟩ sx Q2 hQ2 s' H0' C' cl fp
      have := Paired.bV pc
      subst this
      refine ⟨_, pe_cmpR op_in_seq pe_bl (pv 1) (by rfl), ?_⟩
      refine ⟨_, rfl, c, _, rfl, .inr (Same.sT sx qc), rfl, by rw [List.all_map]; simp [flatV], ?_⟩
      show Q2 (.bl (inV (.bl true) (row.map V.bl))) Hx
      rw [inV_true]
      exact hQ2 _ _ (Same.refl _) rfl
    · intro H2 ys s2 hD hp2
      have := Paired.bV hp2
      subst this
      refine ⟨D, _, rfl, .of hD, k _ _ s2 ?_⟩
      rw [mem_any hR]
      simp only [hS]
end
end W5
set_option maxHeartbeats 8000000
/-! W5H: where. -/
namespace W5
open PySem L2 K5
/-! ### lists hidden while a statement runs -/
def sHide (t : TS) : TS := fun D σ H => ∃ Z : Zs, (∀ a xs, Z a = some xs → H a = some (.lst xs)) ∧
  t { nx := fun σ' H' => (∀ a xs, Z a = some xs → H' a = some (.ext (phiL a xs))) ∧ D.nx σ' (shw Z H'), rt := fun v H' => (∀ a xs, Z a = some xs → H' a = some (.ext (phiL a xs))) ∧ D.rt v (shw Z H'),
      bk := fun σ' H' => (∀ a xs, Z a = some xs → H' a = some (.ext (phiL a xs))) ∧ D.bk σ' (shw Z H'), ct := fun σ' H' => (∀ a xs, Z a = some xs → H' a = some (.ext (phiL a xs))) ∧ D.ct σ' (shw Z H') } σ (hid Z H)
theorem ps_hide {X : Cx} {st : Stmt} {t : TS} (h : PS X st t) : PS X st (sHide t) := by
  refine ⟨fun pins s σ H D I hw => ?_⟩
  obtain ⟨Z, hZ, hw⟩ := hw
  refine thn (h.run pins s σ _ _ (Inv_hid I hZ) hw) fun f s1 q => ?_
  cases f with
  | next => obtain ⟨σ', H', I2, e, q⟩ := q; exact ⟨σ', _, Inv_shw I2 e, q⟩
  | brk => obtain ⟨σ', H', I2, e, q⟩ := q; exact ⟨σ', _, Inv_shw I2 e, q⟩
  | cont => obtain ⟨σ', H', I2, e, q⟩ := q; exact ⟨σ', _, Inv_shw I2 e, q⟩
  | ret v => obtain ⟨y, σ', H', I2, r, e, q⟩ := q; exact ⟨y, σ', _, Inv_shw I2 e, r, q⟩
/-! ### what where tells -/
noncomputable def wS (k : K5.Kind) (u v : List Int) : FS := fun i j => @decide (∀ f ∈ kParts k (act Po (red (cat (wneg u) v)) K5.one), rst (min (i + 3) (max 3 ((red (cat (wneg u) v)).length + 1))) (min (j + 3) (max 3 (wsize (red (cat (wneg u) v)) + 2))) f = 0) (Classical.propDecidable _)
theorem kParts_sup4 {k : K5.Kind} {z : N4} {n n' m : Nat} (h : Sup4 n n' m z) (hn : n' ≤ n) : ∀ f ∈ kParts k z, Sup n m f := by
  intro f hf
  have h1 := h.2.2.1.mono hn (Nat.le_refl m)
  have h2 := h.2.2.2.mono hn (Nat.le_refl m)
  cases k <;> simp only [kParts, List.mem_cons, List.not_mem_nil, or_false] at hf
  · rcases hf with rfl | rfl | rfl
    · exact h.2.1
    · exact h1
    · exact h2
  · rcases hf with rfl | rfl
    · exact h1
    · exact h2
  · rcases hf with rfl | rfl
    · exact h.2.1
    · exact h2
  · rcases hf with rfl | rfl
    · exact h.2.1
    · exact h1
theorem wS_iff {k : K5.Kind} {u v : List Int} (hu : u ≠ []) (hl : (red (cat (wneg u) v)).length ≤ 9) (hs : wsize (red (cat (wneg u) v)) ≤ 12) {i j : Nat} (hi : i + 3 ≤ 60) (hj : j + 3 ≤ 60) : wS k u v i j = true ↔ Same5 (i + 3) (j + 3) k u v := by
  unfold wS
  rw [@decide_eq_true_iff _ (Classical.propDecidable _), ← Same5.red hu, ← rst4_act (by omega) (by omega) (by omega) (by omega) _ (red_ne (cat_ne (wneg_ne hu))) (by omega) (by omega), ← rst_parts]
  have hne := List.length_pos_iff.mpr (red_ne (cat_ne (v := v) (wneg_ne hu)))
  have hS := sup4_act (red (cat (wneg u) v)) (red_ne (cat_ne (wneg_ne hu)))
  have key : ∀ f ∈ kParts k (act Po (red (cat (wneg u) v)) K5.one), rst (min (i + 3) (max 3 ((red (cat (wneg u) v)).length + 1))) (min (j + 3) (max 3 (wsize (red (cat (wneg u) v)) + 2))) f = rst (i + 3) (j + 3) f := by
    intro f hf
    have hf' := kParts_sup4 hS (by omega) f hf
    have e1 : rst (min (i + 3) (max 3 ((red (cat (wneg u) v)).length + 1))) (min (j + 3) (max 3 (wsize (red (cat (wneg u) v)) + 2))) f = rst (i + 3) (min (j + 3) (max 3 (wsize (red (cat (wneg u) v)) + 2))) f := by
      by_cases h : i + 3 ≤ max 3 ((red (cat (wneg u) v)).length + 1)
      · rw [Nat.min_eq_left h]
      · exact rst_far_x hf' (by omega) (by omega) (by omega)
    have e2 : rst (i + 3) (min (j + 3) (max 3 (wsize (red (cat (wneg u) v)) + 2))) f = rst (i + 3) (j + 3) f := by
      by_cases h : j + 3 ≤ max 3 (wsize (red (cat (wneg u) v)) + 2)
      · rw [Nat.min_eq_left h]
      · exact rst_far_y hf' (by omega) (by omega) (by omega)
    rw [e1, e2]
  constructor
  · intro h f hf
    rw [← key f hf]
    exact h f hf
  · intro h f hf
    rw [key f hf]
    exact h f hf
theorem wS_self {k : K5.Kind} {u : List Int} (hu : u ≠ []) (i j : Nat) : wS k u u i j = true := by
  unfold wS
  rw [@decide_eq_true_iff _ (Classical.propDecidable _)]
  intro f hf
  rw [joined_self hu] at hf
  have h0 : act Po [0] K5.one = K5.one := rfl
  rw [h0] at hf
  have : f = 0 := by
    cases k <;> simp only [kParts, K5.one, List.mem_cons, List.not_mem_nil, or_false, or_self] at hf <;> exact hf
  rw [this, rst_zero]
theorem rst_two (p q : Nat) (f : K5.C) : tr (phx q 64 (tr (phx p 64 f))) = rst p q f := by unfold rst; rw [phy_tr]
theorem tr_zero {f : K5.C} : tr f = 0 ↔ f = 0 := ⟨fun h => by rw [← tr_tr f, h]; rfl, fun h => by rw [h]; rfl⟩
section
variable {P : Program} {w : World} {K : PySem.W.Frag} {mg : Str → Option Value} {base : Heap} {C CF : Addr}
def spWhere (K : PySem.W.Frag) (C CF : Addr) : Sp := fun vs H Q _ => ∃ k : K5.Kind, ∃ x y u v, vs = [.str (kS k), x, y] ∧ Wk K C H u x ∧ Wk K C H v y ∧ u ≠ [] ∧ v ≠ [] ∧ u.length + v.length ≤ 800 ∧
  (red (cat (wneg u) v)).length ≤ 9 ∧ wsize (red (cat (wneg u) v)) ≤ 12 ∧ ∀ z H', Same H H' → Fo K CF H' (wS k u v) z → Q z H'
abbrev nWhere : List Str := ["kind", "first", "second", "parts", "walk", "rows", "p", "left", "row", "q", "part"]
theorem scWhere : FnScope nWhere ["kind", "first", "second"] (defScope (top 58)) := ⟨rfl, rfl, rfl, by decide +kernel, rfl, by decide +kernel, by decide +kernel⟩
/-- the rows of where -/
noncomputable def wRow (fs : List K5.C) (p m : Nat) : List Bool := (List.range m).map fun j => @decide (∀ f ∈ fs, rst p (j + 3) f = 0) (Classical.propDecidable _)
theorem wRow_rect (fs : List K5.C) {n m : Nat} (hn : 0 < n) (hm : 0 < m) : Rect n m ((List.range n).map fun i => wRow fs (i + 3) m) := ⟨by simp, fun r hr => by obtain ⟨i, _, rfl⟩ := List.mem_map.mp hr; simp [wRow], hn, hm⟩
theorem wRow_mem (fs : List K5.C) {n m : Nat} (hn : 0 < n) (hm : 0 < m) (i j : Nat) : memT ((List.range n).map fun i => wRow fs (i + 3) m) i j = @decide (∀ f ∈ fs, rst (min i (n - 1) + 3) (min j (m - 1) + 3) f = 0) (Classical.propDecidable _) := by
  rw [(wRow_rect fs hn hm).mem_eq, List.getD_eq_getElem?_getD (l := (List.range n).map _), List.getElem?_map, List.getElem?_range (by omega), Option.map_some, Option.getD_some, List.getD_eq_getElem?_getD]
  unfold wRow
  rw [List.getElem?_map, List.getElem?_range (by omega)]
  rfl
theorem c_where (F : Df K mg "where" (top 58)) (T : Bn mg) (W : WC K C) (CP : Cal P w K mg base 6 "parts_of" (spParts K C)) (CJ : Cal P w K mg base 4 "joined" (spJoined K C)) (CS : Cal P w K mg base 2 "swapped" (spUn K tr)) (CD : Cal P w K mg base 3 "divided_in_x" (spDivX K)) (CM : Mak P w K mg base 3 "Floors" CF (spFI K CF)) :
    Cal P w K mg base 7 "where" (spWhere K C CF) := by
  refine F.cal scWhere (fun _ _ _ _ _ _ us hl => match us, hl with | [_, _, _], _ => rfl) (fun vs H Q E h => ?_) (fun cdv A outer f s H vs Q E hr h => ?_)
  · obtain ⟨k, x, y, u, v, rfl, _⟩ := h
    rfl
  · obtain ⟨kd, x, y, u, v, rfl, hx, hy, hu, hv, hl, hg, hz, k⟩ := h
    have hrne := List.length_pos_iff.mpr (red_ne (cat_ne (v := v) (wneg_ne hu)))
    have hS := S4.act S4.one (red (cat (wneg u) v))
    have hl3 := kParts_len kd (act Po (red (cat (wneg u) v)) K5.one)
    refine ⟨_, pss_cons (ps_set (i := 3) scWhere.nd rfl (Or.inl rfl) (pe_c CP hr (by decide) rfl (pa_cons (pv 0) (pa_cons (pv 1) (pa_cons (pv 2) pa_nil)))))
      (pss_cons (ps_set (i := 4) scWhere.nd rfl (Or.inl rfl) (pe_c CJ hr (by decide) rfl (pa_cons (pv 1) (pa_cons (pv 2) pa_nil))))
      (pss_cons (ps_set (i := 5) scWhere.nd rfl (Or.inl rfl) (pe_lst pa_nil))
      (pss_cons (ps_for PassesOwn.never rfl (pi_range2 rfl T.brange (pa_cons pe_int (pa_cons (pe_op op_add (pe_callB (call_max2 rfl) (by rfl) T.bmax (by decide +kernel) (pa_cons pe_int (pa_cons (pe_op op_add (pe_fld (pv 4) rfl) pe_int) pa_nil))) pe_int) pa_nil))) (pg_name (i := 6) scWhere.nd rfl (Or.inr rfl))
        (pss_cons (ps_hide (ps_lcA (i := 7) [("part", 10)] rfl scWhere.nd rfl rfl (sw_true rfl rfl rfl (by decide +kernel)) (pi_list (pv 3)) (blkOk_by (N := nWhere) (sc := defScope (top 58)) (by decide +kernel)) (fun _ _ _ _ _ => pg_n 10 scWhere.nd)))
        (pss_cons (ps_set (i := 8) scWhere.nd rfl (Or.inl rfl) (pe_lst pa_nil))
        (pss_cons (ps_for PassesOwn.never rfl (pi_range2 rfl T.brange (pa_cons pe_int (pa_cons (pe_op op_add (pe_callB (call_max2 rfl) (by rfl) T.bmax (by decide +kernel) (pa_cons pe_int (pa_cons (pe_op op_add (pe_fld (pv 4) rfl) pe_int) pa_nil))) pe_int) pa_nil))) (pg_name (i := 9) scWhere.nd rfl (Or.inr rfl))
          (pss_one (ps_expr (pe_bm PySem.F.plainAttrs_list PySem.F.slot_list_append PySem.F.type_list_append mt_append (pv 8) (pa_cons (pe_callB (cr_all rfl) (by rfl) T.ball (by decide +kernel) (pa_cons (pe_lcA [("part", 10)] rfl scWhere.nd (pi_list (pv 7)) (blkOk_by (N := nWhere) (sc := defScope (top 58)) (by decide +kernel)) (fun _ _ _ _ _ => pg_n 10 scWhere.nd)) pa_nil)) pa_nil)))))
        (pss_one (ps_expr (pe_bm PySem.F.plainAttrs_list PySem.F.slot_list_append PySem.F.type_list_append mt_append (pv 5) (pa_cons (pv 8) pa_nil))))))))
      (pss_one (ps_ret (pe_mk CM hr (by decide) rfl (pa_cons (pv 5) pa_nil)))))))
      , ?_⟩
    refine ⟨_, rfl, _, rfl, _, rfl, kd, x, y, u, v, rfl, hx, hy, hu, hv, hl, hg, hz, fun zp H1 s1 hzp => ?_⟩
    obtain ⟨pa, ps, rfl, qp, pp⟩ := hzp
    refine ⟨_, rfl, _, rfl, x, y, u, v, rfl, Mo.wk _ _ _ _ (Le.of s1) hx, Mo.wk _ _ _ _ (Le.of s1) hy, hu, hv, hl, fun zw H2 s2 hzw => ?_⟩
    obtain ⟨wa, dx, wt, rfl, hw1, hw2⟩ := id hzw
    refine ⟨(by show 0 ≤ sizeLine; decide), fun R0 nR0 => ?_⟩
    have s3 := Same.new (o := .lst []) nR0
    generalize hfs : kParts kd (act Po (red (cat (wneg u) v)) K5.one) = fs at *
    have hsup : ∀ f ∈ fs, Sup 64 64 f := fun f hf => ((kParts_sup hS f (by rw [hfs]; exact hf)).mono (by omega) (by omega))
    generalize hG : red (cat (wneg u) v) = g at *
    obtain ⟨n, hn⟩ : ∃ n : Nat, n = max 3 (g.length + 1) - 2 := ⟨_, rfl⟩
    obtain ⟨m, hm⟩ : ∃ m : Nat, m = max 3 (wsize g + 2) - 2 := ⟨_, rfl⟩
    refine ⟨_, rfl, wa, C, dx, _, _, rfl, s3 _ _ hw1, W.cl, W.nG, wF_goes _ _, _, _, rfl, rfl, _, _, rfl, _, _, rfl, rfl, _, _, rfl, ⟨by omega, by omega, by split <;> omega, by split <;> omega⟩, ?_⟩
    have en : ((if (g.length : Int) - 1 + 2 > 3 then (g.length : Int) - 1 + 2 else 3) + 1 - 3).toNat = n := by split <;> omega
    rw [en]
    refine for_it walk_range (fun i σ H3 => ∃ x6 x7 x8 x9, σ = [some (.str (kS kd)), some x, some y, some (.ref pa), some (.ref wa), some (.ref R0), x6, x7, x8, x9, none] ∧ Same H2 H3 ∧ ∃ ys, H3 R0 = some (.lst ys) ∧ Paired (Ls K Bv (hid (one1 R0 ys) H3)) ((List.range i).map fun i => wRow fs (i + 3) m) ys)
      ⟨none, none, none, none, rfl, s3, [], upd_same, .nil⟩ (fun _ _ _ _ _ => trivial) ?_ ?_
    · rintro i x' σ _ H3 hi ⟨x6, x7, x8, x9, rfl, s4, ys, hR0, hys⟩ ⟨rfl, rfl⟩
      have hyl := hys.length
      rw [List.length_map, List.length_range] at hyl
      have hZ : ∀ a xs, one1 R0 ys a = some xs → H3 a = some (.lst xs) := fun a xs z => by obtain ⟨rfl, rfl⟩ := one1_eq z; exact hR0
      have hZ2 : ∀ a xs, one1 R0 ys a = some xs → H2 a = none := fun a xs z => by obtain ⟨rfl, rfl⟩ := one1_eq z; exact nR0
      refine ⟨one1 R0 ys, hZ, [some (.str (kS kd)), some x, some y, some (.ref pa), some (.ref wa), some (.ref R0), some (.int (3 + i)), x7, x8, x9, none], rfl, _, rfl, pa, rfl, ⟨_, Same.sL (Same.hid s4 hZ2) (Same.sL s2 qp)⟩, fun D nD => ?_⟩
      have sG : Same H2 (hid (one1 R0 ys) H3) := Same.hid s4 hZ2
      have hpl := pp.length
      refine lc_L (walk_list (xs := ps)) (Rs := Pl K) (pmap pp fun _ _ r => Mo.pl _ _ _ _ (Le.of (Same.trans s2 sG)) r) (Pl K) (fun f => tr (phx (i + 3) 64 f)) Mo.pl nD (lsz (m := 10) (by omega)) (fun _ s => Same.sL s (Same.sL sG (Same.sL s2 qp))) (fun _ => rfl) ?_ ?_
      · intro f0 x0 Hx hf0 hx0 sx Q2 hQ2 s' H0' C' cl fp
        refine ⟨_, pe_c CS hr (by decide) rfl (pa_cons (pe_ix ix_tup (pe_c CD hr (by decide) rfl (pa_cons (pv 10) (pa_cons (pv 6) pa_nil))) pe_int (fun _ _ => rfl)) pa_nil), ?_⟩
        refine ⟨_, rfl, _, rfl, x0, f0, i + 3, ?_, Mo.pl _ _ _ _ (Le.of sx) hx0, hsup f0 hf0, by omega, by omega, fun t g1 y1 y2 H4 s5 ht h1 h2 h3 => ?_⟩
        · show [x0, V.int (3 + (i : Int))] = [x0, V.int ((i + 3 : Nat) : Int)]
          rw [show (3 + (i : Int)) = ((i + 3 : Nat) : Int) by omega]
        · refine ⟨t, _, 1, y2, rfl, rfl, .of ht, rfl, y2, _, rfl, h3, sup_phx (by omega) (by omega) (hsup f0 hf0), fun y3 H5 s6 h6 => hQ2 _ _ (Same.trans s5 s6) h6⟩
      · intro H4 ls s5 hD hpl2
        have hR04 : H4 R0 = some (.ext (phiL R0 ys)) := s5 _ _ (hid_on one1_on)
        refine ⟨fun a xs z => by obtain ⟨rfl, rfl⟩ := one1_eq z; exact hR04, ?_⟩
        have hR05 : shw (one1 R0 ys) H4 R0 = some (.lst ys) := shw_on one1_on
        have l45 : Le H4 (shw (one1 R0 ys) H4) := Le.shw fun a xs z => by obtain ⟨rfl, rfl⟩ := one1_eq z; exact hR04
        have s25 : Same H2 (shw (one1 R0 ys) H4) := Same.shw (Same.trans sG s5) hZ2
        have noR1 : ∀ b, (shw (one1 R0 ys) H4) b = none → H4 b = none := fun b e => by
          by_cases hb : b = R0
          · subst hb; rw [hR05] at e; cases e
          · rw [shw_off (one1_off hb)] at e; exact e
        generalize shw (one1 R0 ys) H4 = H5 at hR05 l45 s25 noR1
        refine ⟨(by show 0 ≤ sizeLine; decide), fun R1 nR1 => ?_⟩
        have n4 := noR1 R1 nR1
        have h01 : R0 ≠ R1 := ne_of_none hR05 nR1
        have nR12 : H2 R1 = none := s25.free nR1
        refine ⟨_, rfl, wa, C, dx, _, _, rfl, Same.new nR1 _ _ (s25 _ _ hw1), W.cl, W.nS, wF_size _ _, _, _, rfl, rfl, _, _, rfl, _, _, rfl, rfl, _, _, rfl, ⟨by omega, by omega, by split <;> omega, by split <;> omega⟩, ?_⟩
        have em : ((if (wsize g : Int) + 2 > 3 then (wsize g : Int) + 2 else 3) + 1 - 3).toNat = m := by split <;> omega
        rw [em]
        refine for_it walk_range (fun j σ H6 => ∃ x9, σ = [some (.str (kS kd)), some x, some y, some (.ref pa), some (.ref wa), some (.ref R0), some (.int (3 + i)), some (.ref D), some (.ref R1), x9, none] ∧ Same H2 H6 ∧ Le H4 H6 ∧ H6 R0 = some (.lst ys) ∧ H6 R1 = some (.lst ((wRow fs (i + 3) j).map V.bl)))
          ⟨x9, rfl, Same.upd s25 nR12, Le.trans l45 (Le.new nR1), by rw [upd_ne h01]; exact hR05, upd_same⟩ (fun _ _ _ _ _ => trivial) ?_ ?_
        · rintro j x'' σ _ H6 hj ⟨x9, rfl, s6, l6, hR06, hR16⟩ ⟨rfl, rfl⟩
          have qD : SqL K H6 D ls := l6.sL (.of hD)
          have hp6 := pmap hpl2 fun _ _ r => Mo.pl _ _ _ _ l6 r
          have hll := hp6.length
          rw [List.length_map] at hll
          refine ⟨_, rfl, .inl ⟨rfl, _, .of hR16⟩, [some (.str (kS kd)), some x, some y, some (.ref pa), some (.ref wa), some (.ref R0), some (.int (3 + i)), some (.ref D), some (.ref R1), some (.int (3 + j)), none], rfl, _, rfl, D, rfl, ⟨_, qD⟩, fun D2 nD2 => ?_⟩
          refine lc_L (walk_list (xs := ls)) (Rs := Pl K) hp6 Bv (fun h => @decide (phx (j + 3) 64 h = 0) (Classical.propDecidable _)) Mo.b nD2 (lsz (m := 10) (by omega)) (fun _ s => Same.sL s qD) (fun _ => rfl) ?_ ?_
          · intro h0 x0 Hx hh0 hx0 sx Q2 hQ2 s' H0' C' cl fp
            refine ⟨_, pe_cmpR (op_eqD hr.units) (pe_ix ix_tup (pe_c CD hr (by decide) rfl (pa_cons (pv 10) (pa_cons (pv 9) pa_nil))) pe_int (fun _ _ => rfl)) (pe_lst pa_nil) (nomark _), ?_⟩
            have hsh : Sup 64 64 h0 := by
              obtain ⟨f0, hf0, rfl⟩ := List.mem_map.mp hh0
              exact Sup.tr (sup_phx (by omega) (by omega) (hsup f0 hf0))
            refine ⟨_, rfl, _, rfl, x0, h0, j + 3, ?_, Mo.pl _ _ _ _ (Le.of sx) hx0, hsh, by omega, by omega, fun t g1 y1 y2 H7 s7 ht h1 h2 h3 => ?_⟩
            · show [x0, V.int (3 + (j : Int))] = [x0, V.int ((j + 3 : Nat) : Int)]
              rw [show (3 + (j : Int)) = ((j + 3 : Nat) : Int) by omega]
            · refine ⟨t, _, 1, y2, rfl, rfl, .of ht, rfl, (by show 0 ≤ sizeLine; decide), fun e ne => ?_⟩
              refine eq_nil_of (Mo.pl _ _ _ _ (Le.new ne) h3) (.of upd_same) fun b hb => hQ2 _ _ (Same.trans s7 (Same.new ne)) ?_
              show V.bl b = V.bl _
              congr 1
              by_cases hc : phx (j + 3) 64 h0 = 0
              · rw [hb.mpr hc]
                exact (@decide_eq_true _ (Classical.propDecidable _) hc).symm
              · have : b = false := by
                  cases b with
                  | false => rfl
                  | true => exact absurd (hb.mp rfl) hc
                rw [this]
                exact (@decide_eq_false _ (Classical.propDecidable _) hc).symm
          · intro H7 bs s7 hD7 hp7
            have := Paired.bV hp7
            subst this
            refine ⟨D2, _, rfl, .of hD7, R1, _, _, rfl, rfl, s7 _ _ hR16, Nat.lt_of_le_of_lt (m := 100) (by simp [wRow]; omega) (by decide), ?_⟩
            refine ⟨_, rfl, Same.upd (Same.trans s6 s7) nR12, fun b o e ne => ?_, by rw [upd_ne h01]; exact s7 _ _ hR06, ?_⟩
            · rw [upd_ne (ne_of_none e n4)]
              exact s7 _ _ (l6 b o e ne)
            · rw [upd_same]
              congr 2
              have er : wRow fs (i + 3) (j + 1) = wRow fs (i + 3) j ++ [@decide (∀ f ∈ fs, rst (i + 3) (j + 3) f = 0) (Classical.propDecidable _)] := by
                unfold wRow
                rw [List.range_succ, List.map_append]
                rfl
              rw [er, List.map_append]
              congr 2
              rw [List.all_map, List.all_map]
              show V.bl _ = V.bl _
              congr 1
              rw [Bool.eq_iff_iff, List.all_eq_true, @decide_eq_true_iff _ (Classical.propDecidable _)]
              constructor
              · intro h f hf
                have h1 := h f hf
                have h2 : phx (j + 3) 64 (tr (phx (i + 3) 64 f)) = 0 := @of_decide_eq_true _ (Classical.propDecidable _) h1
                rw [← rst_two, h2]
                rfl
              · intro h f hf
                refine @decide_eq_true _ (Classical.propDecidable _) ?_
                have h1 := h f hf
                rw [← rst_two] at h1
                exact tr_zero.mp h1
        · rintro σ H6 ⟨x9, rfl, s6, l6, hR06, hR16⟩
          refine ⟨_, rfl, .inl ⟨rfl, _, .of hR06⟩, _, rfl, R0, _, _, rfl, rfl, hR06, Nat.lt_of_le_of_lt (m := 100) (by omega) (by decide), ?_⟩
          refine ⟨_, _, _, _, rfl, Same.upd s6 nR0, _, upd_same, ?_⟩
          rw [List.range_succ, List.map_append]
          have lg : Le (hid (one1 R0 ys) H3) (hid (one1 R0 (ys ++ [.ref R1])) (upd H6 R0 (.lst (ys ++ [.ref R1])))) := fun b o e ne => by
            by_cases hb : b = R0
            · subst hb
              rw [hid_on one1_on] at e
              cases e
              exact absurd rfl (ne _)
            · rw [hid_off (one1_off hb), upd_ne hb]
              exact l6 b o (s5 b o e) ne
          refine Paired.append (pmap hys fun _ _ r => Mo.ls Mo.b _ _ _ _ lg r) (.cons ⟨R1, _, rfl, .of (by rw [hid_off (one1_off h01.symm), upd_ne h01.symm]; exact hR16), Paired.ofB _⟩ .nil)
    · rintro σ H3 ⟨x6, x7, x8, x9, rfl, s4, ys, hR0, hys⟩
      refine ⟨_, rfl, ?_⟩
      have lfin : Le (hid (one1 R0 ys) H3) H3 := fun b o e ne => by
        by_cases hb : b = R0
        · subst hb
          rw [hid_on one1_on] at e
          cases e
          exact absurd rfl (ne _)
        · rw [hid_off (one1_off hb)] at e
          exact e
      refine mkF_of (S := wS kd u v) ⟨R0, ys, rfl, .of hR0, pmap hys fun _ _ r => Mo.ls Mo.b _ _ _ _ lfin r⟩ (wRow_rect fs (by omega) (by omega)) (by omega) (by omega) (fun i j => ?_) fun z H5 s5 h5 => k z H5 (Same.trans s1 (Same.trans s2 (Same.trans s4 s5))) h5
      rw [wRow_mem fs (by omega) (by omega)]
      unfold wS
      rw [hG, hfs]
      have e1 : min i (n - 1) + 3 = min (i + 3) (max 3 (g.length + 1)) := by omega
      have e2 : min j (m - 1) + 3 = min (j + 3) (max 3 (wsize g + 2)) := by omega
      rw [e1, e2]
end
end W5
set_option maxHeartbeats 4000000
/-! W5Rd: a, b, .. = a list; a list in the making, any continuation. -/
namespace W5
open PySem PySem.Spec PyProof.Rows L2
def gLst (K : PySem.W.Frag) (n : Nat) (t : TGs) : TG := fun v σ H Q => ∃ a xs, v = .ref a ∧ SqL K H a xs ∧ xs.length = n ∧ t xs σ H Q
theorem pg_lst {X : Cx} {es : List Expr} {k : Nat} {t : TGs} {n : Nat} {pos : Pos} (hc : X.calm = true) (h : PGs X es t)
    (hn : (assignEach es X.env).length = n := by rfl) (hst : (assignEach es X.env).findIdx? (·.1) = none := by rfl) : PG X (.Tuple es k pos) (gLst X.K n t) := by
  refine ⟨fun pins s σ H v u Q I r hw => ?_⟩
  obtain ⟨a, xs, e1, hq, hl, hw⟩ := hw
  subst e1
  cases r
  obtain ⟨its, rv, ht, hz⟩ := I.list hq
  have hlen : (assignEach es X.env).length = its.toArray.size := by
    rw [hn, ← hl, List.size_toArray]
    exact rv.length
  rw [assign_Tuple]
  refine wpAny_bind (wpAny_standAt ?_)
  unfold unpack
  rw [hlen, hst]
  refine wpAny_bind (wpAny_holding (PySem.W.kun_itemsOf (I.ok.hd hc) ht.isList fun h' hx => ?_))
  have I1 : L2.Inv X pins σ H { s with heap := h' } := I.kept (t' := s.toks) fun b o e => hx b o (Nat.ne_of_lt (Heap.lt_size e)) e
  exact h.run pins _ σ H xs _ Q I1 (by simpa using rv) hw
theorem Made.gen {β : Type} {D : Addr} {R : RD β} {H1 H : Hp} {bs : List β} {c : β} {te : TE} {σ : L2.St} {Q : VK} (hD : H1 D = none) (hm : Mo R) (M : Made D R H1 bs H)
    (h : ∀ Hx, Same H1 Hx → (∀ b o, H b = some o → b ≠ D → Hx b = some o) → ∀ Q : VK, (∀ y H4, Same Hx H4 → R H4 c y → Q y H4) → te σ Hx Q)
    (hk : ∀ y H4 acc, H4 D = some (.lst acc) → acc.length = bs.length → Made D R H1 (bs ++ [c]) (upd H4 D (.lst (acc ++ [y]))) → Q y H4) : tHide te σ H Q := by
  obtain ⟨s1, ys, h1, h2⟩ := M
  have hZ : ∀ a xs, one1 D ys a = some xs → H a = some (.lst xs) := fun a xs z => by obtain ⟨rfl, rfl⟩ := one1_eq z; exact h1
  have hZ1 : ∀ a xs, one1 D ys a = some xs → H1 a = none := fun a xs z => by obtain ⟨rfl, rfl⟩ := one1_eq z; exact hD
  refine ⟨one1 D ys, hZ, h _ (Same.hid s1 hZ1) (fun b o e hb => by rw [hid_off (one1_off hb)]; exact e) _ fun y H4 s4 r => ?_⟩
  have h4 : H4 D = some (.ext (phiL D ys)) := s4 _ _ (hid_on one1_on)
  have l4 : Le H4 (hid (one1 D (ys ++ [y])) (upd (shw (one1 D ys) H4) D (.lst (ys ++ [y])))) := fun b o e n => by
    by_cases hb : b = D
    · subst hb
      rw [h4] at e
      cases e
      exact absurd rfl (n _)
    · rw [hid_off (one1_off hb), upd_ne hb, shw_off (one1_off hb)]
      exact e
  refine ⟨fun a xs z => by obtain ⟨rfl, rfl⟩ := one1_eq z; exact h4, hk y _ ys (shw_on one1_on) h2.length.symm ⟨Same.upd (Same.shw (Same.trans (Same.hid s1 hZ1) s4) hZ1) hD, _, upd_same, ?_⟩⟩
  exact Paired.append (pmap h2 fun a b q => hm _ _ _ _ (Le.trans (Le.of s4) l4) q) (.cons (hm _ _ _ _ l4 r) .nil)
end W5
set_option maxHeartbeats 8000000
/-! W5O1: joined_rows, vanish, Floor.__init__, blank. -/
namespace W5
open PySem L2 K5
def rw1 (q : Nat) (f : Nat → Int) : List Int := (List.range (q - 1)).map f
def tbl (p q : Nat) (f : K5.C) : List (List Int) := (List.range (p - 1)).map fun i => rw1 q (f i)
theorem rw1_len (q : Nat) (f : Nat → Int) : (rw1 q f).length = q - 1 := by simp [rw1]
theorem tbl_len (p q : Nat) (f : K5.C) : (tbl p q f).length = p - 1 := by simp [tbl]
theorem rw1_at {q : Nat} {f : Nat → Int} {j : Nat} (h : j < q - 1) : (rw1 q f)[j]? = some (f j) := by simp [rw1, h]
theorem tbl_at {p q : Nat} {f : K5.C} {i : Nat} (h : i < p - 1) : (tbl p q f)[i]? = some (rw1 q (f i)) := by simp [tbl, h]
def Pt (K : PySem.W.Frag) (p q : Nat) : RD K5.C := fun H f v => Ls K (Ls K Iv) H (tbl p q f) v
theorem Mo.pt {K : PySem.W.Frag} {p q : Nat} : Mo (Pt K p q) := fun H H' f v s h => Mo.ls (Mo.ls Mo.i) _ _ _ _ s h
/-- four parts as a list -/
def Pn (K : PySem.W.Frag) (p q : Nat) : RD N4 := fun H z v => ∃ t a b c d, v = .ref t ∧ SqL K H t [a, b, c, d] ∧ Pt K p q H z.a a ∧ Pt K p q H z.b b ∧ Pt K p q H z.c c ∧ Pt K p q H z.d d
theorem Mo.pn {K : PySem.W.Frag} {p q : Nat} : Mo (Pn K p q) := fun H H' z v s ⟨t, a, b, c, d, e, h, h1, h2, h3, h4⟩ => ⟨t, a, b, c, d, e, s.sL h, Mo.pt _ _ _ _ s h1, Mo.pt _ _ _ _ s h2, Mo.pt _ _ _ _ s h3, Mo.pt _ _ _ _ s h4⟩
/-! ### an object Floor -/
def fF (d a : Addr) (p q : Nat) : List (Str × V) := putF "along" (.ref a) (putF "down" (.ref d) (putF "q" (.int q) (putF "p" (.int p) [])))
theorem fF_p (d a : Addr) (p q : Nat) : (fF d a p q).lookup ("p" : Str) = some (.int p) := by
  unfold fF
  rw [lookup_putF, if_neg (by decide +kernel), lookup_putF, if_neg (by decide +kernel), lookup_putF, if_neg (by decide +kernel), lookup_putF, if_pos rfl]
theorem fF_q (d a : Addr) (p q : Nat) : (fF d a p q).lookup ("q" : Str) = some (.int q) := by
  unfold fF
  rw [lookup_putF, if_neg (by decide +kernel), lookup_putF, if_neg (by decide +kernel), lookup_putF, if_pos rfl]
theorem fF_d (d a : Addr) (p q : Nat) : (fF d a p q).lookup ("down" : Str) = some (.ref d) := by
  unfold fF
  rw [lookup_putF, if_neg (by decide +kernel), lookup_putF, if_pos rfl]
theorem fF_a (d a : Addr) (p q : Nat) : (fF d a p q).lookup ("along" : Str) = some (.ref a) := by
  unfold fF
  rw [lookup_putF, if_pos rfl]
theorem fF_no (d a : Addr) (p q : Nat) {m : Str} (h1 : ¬ m = "along") (h2 : ¬ m = "down") (h3 : ¬ m = "q") (h4 : ¬ m = "p") : (fF d a p q).lookup m = none := by
  unfold fF
  rw [lookup_putF, if_neg h1, lookup_putF, if_neg h2, lookup_putF, if_neg h3, lookup_putF, if_neg h4]
  rfl
def Flo (K : PySem.W.Frag) (C : Addr) (p q : Nat) (H : Hp) (v : V) : Prop := ∃ x dx d a, v = .ref x ∧ H x = some (.ins C dx (fF d a p q)) ∧ SqL K H d ((scL p).map V.int) ∧ SqL K H a ((scL q).map V.int)
theorem Flo.le {K : PySem.W.Frag} {C : Addr} {p q : Nat} {H H' : Hp} {v : V} (h : Flo K C p q H v) (s : Le H H') : Flo K C p q H' v := by
  obtain ⟨x, dx, d, a, e, h1, h2, h3⟩ := h
  exact ⟨x, dx, d, a, e, s.ins h1, s.sL h2, s.sL h3⟩
structure LC (K : PySem.W.Frag) (mg : Str → Option Value) (C : Addr) : Prop where
  cl : Cls K C
  nP : NoAttr K C "p"
  nQ : NoAttr K C "q"
  nD : NoAttr K C "down"
  nA : NoAttr K C "along"
  mL : ∃ t, mg "LEAST_SIDES" = some (.int 3 t)
  mM : ∃ t, mg "MOST_SIDES" = some (.int 9 t)
section
variable {P : Program} {w : World} {K : PySem.W.Frag} {mg : Str → Option Value} {base : Heap} {C : Addr}
def spFlI (K : PySem.W.Frag) (C : Addr) : Sp := fun vs H Q _ => ∃ x dx, ∃ p q : Nat, vs = [.ref x, .int p, .int q] ∧ H x = some (.ins C dx []) ∧ 3 ≤ p ∧ p ≤ 9 ∧ 3 ≤ q ∧ q ≤ 9 ∧
  ∀ H' d a, Sx x H H' → H' x = some (.ins C dx (fF d a p q)) → SqL K H' d ((scL p).map V.int) → SqL K H' a ((scL q).map V.int) → Q .non H'
theorem scFlI : FnScope ["self", "p", "q"] ["self", "p", "q"] (defScope (inClass (top 73) 0)) := ⟨rfl, rfl, rfl, by decide +kernel, rfl, by decide +kernel, by decide +kernel⟩
theorem c_FlI (D : DfI K mg "Floor" C "Floor.__init__" (inClass (top 73) 0)) (L : LC K mg C) (CS : Cal P w K mg base 1 "step" (spStep K)) : Mak P w K mg base 2 "Floor" C (spFlI K C) := by
  refine D.mak scFlI (fun _ _ _ _ _ _ us hl => match us, hl with | [_, _, _], _ => rfl) (fun vs H Q E h => ?_) (fun cdv A outer f s H vs Q E hr h => ?_)
  · obtain ⟨x, dx, p, q, rfl, _⟩ := h
    rfl
  · obtain ⟨x, dx, p, q, rfl, hx, hp, hp', hq, hq', k⟩ := h
    obtain ⟨tL, mL⟩ := L.mL
    obtain ⟨tM, mM⟩ := L.mM
    refine ⟨_, pss_cons (ps_if (PW.pt (pw_or (pt_not (pt_chain op_le op_le (pe_glob (v := .int 3) rfl mL ⟨_, rfl⟩) (pv 1) (pe_glob (v := .int 9) rfl mM ⟨_, rfl⟩))) (pw_or1 (pt_not (pt_chain op_le op_le (pe_glob (v := .int 3) rfl mL ⟨_, rfl⟩) (pv 2) (pe_glob (v := .int 9) rfl mM ⟨_, rfl⟩)))))) pss_never pss_nil)
      (pss_cons (ps_fld (pv 0) (pv 1) rfl)
      (pss_cons (ps_fld (pv 0) (pv 2) rfl)
      (pss_cons (ps_fld (pv 0) (pe_c CS hr (by decide) rfl (pa_cons (pv 1) pa_nil)) rfl)
      (pss_one (ps_fld (pv 0) (pe_c CS hr (by decide) rfl (pa_cons (pv 2) pa_nil)) rfl))))), ?_⟩
    refine ⟨_, rfl, _, _, rfl, rfl, _, rfl, iteDT (by omega) ⟨_, _, rfl, rfl, _, rfl, ?_⟩⟩
    refine iteNS (A := False) (c := (p : Int) ≤ 9) (by omega) ?_
    refine ⟨_, rfl, _, _, rfl, rfl, _, rfl, iteDT (by omega) ⟨_, _, rfl, rfl, _, rfl, ?_⟩⟩
    refine iteNS (A := False) (c := (q : Int) ≤ 9) (by omega) ?_
    refine ⟨_, rfl, _, rfl, x, C, dx, _, rfl, hx, L.cl, L.nP, (by show 0 < 1000; decide), ?_⟩
    refine ⟨_, rfl, _, rfl, x, C, dx, _, rfl, upd_same, L.cl, L.nQ, (by show 1 < 1000; decide), ?_⟩
    rw [upd_upd]
    refine ⟨_, rfl, p, rfl, by omega, by omega, fun d H1 s1 nd hd => ?_⟩
    refine ⟨_, rfl, x, C, dx, _, rfl, s1 _ _ upd_same, L.cl, L.nD, (by show 2 < 1000; decide), ?_⟩
    refine ⟨_, rfl, q, rfl, by omega, by omega, fun a H2 s2 na ha => ?_⟩
    refine ⟨_, rfl, x, C, dx, _, rfl, s2 _ _ upd_same, L.cl, L.nA, (by show 3 < 1000; decide), ?_⟩
    have hx1 := s1 _ _ (upd_same (H := H) (a := x))
    have hx2 := s2 _ _ (upd_same (H := H1) (a := x))
    refine k _ d a (Sx.upd (Sx.trans (Sx.upd (Sx.trans (Sx.upd (Sx.refl x H)) (Sx.of s1))) (Sx.of s2))) upd_same ?_ ?_
    · refine Sx.sL (Sx.upd (Sx.refl x H2)) hx2 (Same.sL s2 (Sx.sL (Sx.upd (Sx.refl x H1)) hx1 (.of hd)))
    · exact Sx.sL (Sx.upd (Sx.refl x H2)) hx2 (.of ha)
/-- Floor(p, q) in a reading -/
theorem mkFl_of {H : Hp} {Q : VK} {p q : Nat} (hp : 3 ≤ p) (hp' : p ≤ 9) (hq : 3 ≤ q) (hq' : q ≤ 9) (k : ∀ v H2, Same H H2 → Flo K C p q H2 v → Q v H2) :
    ∀ x dx, H x = none → H dx = none → dx ≠ x → spFlI K C (.ref x :: [.int p, .int q]) (upd (upd H dx (.own x)) x (.ins C dx [])) (fun v H2 => v = .non ∧ Q (.ref x) H2) E0 := by
  intro x dx nx nd ne
  have s0 : Same H (upd (upd H dx (.own x)) x (.ins C dx [])) := Same.upd (Same.new nd) nx
  refine ⟨x, dx, p, q, rfl, upd_same, hp, hp', hq, hq', fun H' d a kp hx h1 h2 => ⟨rfl, k _ _ (fun b o e => kp b o (s0 b o e) (ne_of_none e nx)) ⟨x, dx, d, a, rfl, hx, h1, h2⟩⟩⟩
/-! ### joined_rows -/
def spJR (K : PySem.W.Frag) (p q : Nat) : Sp := fun vs H Q _ => ∃ x y f g, ∃ s : Int, vs = [x, y, .int s] ∧ Pt K p q H f x ∧ Pt K p q H g y ∧ -(2 ^ 64) < s ∧ s < 2 ^ 64 ∧ ∀ z H', Same H H' → Pt K p q H' (fun i j => f i j + s * g i j) z → Q z H'
abbrev nJR : List Str := ["first", "second", "sign", "row", "other", "a", "b"]
theorem scJR : FnScope nJR ["first", "second", "sign"] (defScope (top 74)) := ⟨rfl, rfl, rfl, by decide +kernel, rfl, by decide +kernel, by decide +kernel⟩
theorem c_JR {p q : Nat} (hp : p ≤ 100) (hq : q ≤ 100) (F : Df K mg "joined_rows" (top 74)) (T : Bn mg) : Cal P w K mg base 1 "joined_rows" (spJR K p q) := by
  refine F.cal scJR (fun _ _ _ _ _ _ us hl => match us, hl with | [_, _, _], _ => rfl) (fun vs H Q E h => ?_) (fun cdv A outer f s H vs Q E hr h => ?_)
  · obtain ⟨x, y, f, g, s, rfl, _⟩ := h
    rfl
  · obtain ⟨x, y, ff, g, sg, rfl, ⟨a, us, rfl, qa, pa⟩, ⟨b, vs, rfl, qb, pb⟩, h1, h2, k⟩ := h
    have la := pa.length
    have lb := pb.length
    rw [tbl_len] at la lb
    refine ⟨_, pss_one (ps_ret (pe_lcA [("row", 3), ("other", 4)] rfl scJR.nd (RZ.pi_zipA rfl T.bzip (pa_cons (pv 0) (pa_cons (pv 1) pa_nil))) (blkOk_by (N := nJR) (sc := defScope (top 74)) (by decide +kernel)) (fun _ _ _ _ _ => pg_2K rfl (pg_n 3 scJR.nd) (pg_n 4 scJR.nd)))), ?_⟩
    refine ⟨[some (.ref a), some (.ref b), some (.int sg), none, none, none, none], rfl, _, rfl, _, rfl, a, b, us, vs, rfl, .inl ⟨qa, qb, fun D nD => ?_⟩⟩
    refine lc_2 (walk_zip (n := p - 1) (xs := us) (ys := vs) (by omega)) (Ls K Iv) (fun i => rw1 q (fun j => ff i j + sg * g i j)) (Mo.ls Mo.i) nD (lsz (m := 100) (by omega)) (fun _ s => ⟨Same.sL s qa, Same.sL s qb⟩) (fun _ _ => rfl) ?_ hY_pair ?_
    · rintro i x H2 _ hi s2 ⟨tp, p1, p2, rfl, ntp, rfl, f1, f2⟩
      obtain ⟨ro, hro, oa, os, rfl, qo, po⟩ := Paired.getR pa f1
      obtain ⟨rt, hrt, ta, ts, rfl, qt, pt⟩ := Paired.getR pb f2
      rw [tbl_at hi] at hro hrt
      cases hro
      cases hrt
      have := Paired.intV po
      subst this
      have := Paired.intV pt
      subst this
      refine ⟨tp, _, _, rfl, .of upd_same, fun Hx sx Q1 hQ1 s' H0' C' cl fp => ?_⟩
      refine ⟨_, pe_lcA [("a", 5), ("b", 6)] rfl scJR.nd (RZ.pi_zipA rfl T.bzip (pa_cons (pv 3) (pa_cons (pv 4) pa_nil))) (blkOk_by (N := nJR) (by kernel_rfl)) (fun _ _ _ _ _ => pg_2K rfl (pg_n 5 scJR.nd) (pg_n 6 scJR.nd)), ?_⟩
      refine ⟨[some (.ref a), some (.ref b), some (.int sg), some (.ref oa), some (.ref ta), none, none], rfl, _, rfl, _, rfl, oa, ta, _, _, rfl, .inl ⟨Same.sL sx qo, Same.sL sx qt, fun D2 nD2 => ?_⟩⟩
      refine lc_2 (walk_zip (n := q - 1) (xs := (rw1 q (ff i)).map V.int) (ys := (rw1 q (g i)).map V.int) (by rw [List.length_map, List.length_map, rw1_len, rw1_len]; omega)) Iv (fun j => ff i j + sg * g i j) Mo.i nD2 (lsz (m := 100) (by omega)) (fun _ s => ⟨Same.sL s (Same.sL sx qo), Same.sL s (Same.sL sx qt)⟩) (fun _ _ => rfl) ?_ hY_pair ?_
      · rintro j x H3 _ hj s3 ⟨tq, p3, p4, rfl, ntq, rfl, f3, f4⟩
        have f5 : ((rw1 q (ff i)).map V.int)[j]? = some p3 := f3
        have f6 : ((rw1 q (g i)).map V.int)[j]? = some p4 := f4
        rw [List.getElem?_map, rw1_at hj] at f5 f6
        cases f5
        cases f6
        refine ⟨tq, _, _, rfl, .of upd_same, fun Hx2 sx2 Q2 hQ2 s2 H02 C2 cl2 fp2 => ?_⟩
        exact ⟨_, pe_op op_add (pv 5) (pe_op op_mul (pv 2) (pv 6)), _, rfl, _, rfl, _, rfl, _, _, rfl, rfl, .inl ⟨h1, h2⟩, _, _, rfl, rfl, hQ2 _ _ (Same.refl _) rfl⟩
      · intro H4 ys s4 hD4 hp4
        exact hQ1 _ _ s4 ⟨D2, ys, rfl, .of hD4, hp4⟩
    · intro H4 ys s4 hD4 hp4
      exact k _ _ s4 ⟨D, ys, rfl, .of hD4, hp4⟩
/-! ### vanish -/
def pAt (z : N4) (i : Int) : K5.C := if i = 1 then z.b else if i = 2 then z.c else if i = 3 then z.d else z.a
theorem box_zero {p q : Nat} {f : K5.C} (h : Sup (p - 1) (q - 1) f) : f = 0 ↔ ∀ r ∈ tbl p q f, ∀ c ∈ r, c = 0 := by
  constructor
  · rintro rfl r hr c hc
    obtain ⟨i, _, rfl⟩ := List.mem_map.mp hr
    obtain ⟨j, _, rfl⟩ := List.mem_map.mp hc
    rfl
  · intro hz
    refine C.ext fun i j => ?_
    by_cases hi : i < p - 1
    · by_cases hj : j < q - 1
      · exact hz _ (List.mem_map.mpr ⟨i, List.mem_range.mpr hi, rfl⟩) _ (List.mem_map.mpr ⟨j, List.mem_range.mpr hj, rfl⟩)
      · exact h i j (.inr (by omega))
    · exact h i j (.inl (by omega))
def spVan (K : PySem.W.Frag) (p q : Nat) : Sp := fun vs H Q _ => ∃ k : K5.Kind, ∃ x t z, vs = [x, .ref t] ∧ Pn K p q H z x ∧ Box p q z ∧ SqT K H t ((kP k).map V.int) ∧ ∀ b H', Same H H' → (b = true ↔ J k z) → Q (.bl b) H'
abbrev nVan : List Str := ["parts", "places", "at", "row", "c"]
theorem scVan : FnScope nVan ["parts", "places"] (defScope (top 76)) := ⟨rfl, rfl, rfl, by decide +kernel, rfl, by decide +kernel, by decide +kernel⟩
theorem J_pAt {k : K5.Kind} {z : N4} : J k z ↔ ∀ i ∈ kP k, pAt z i = 0 := by
  cases k <;> simp [J, kP, pAt]
theorem c_van {p q : Nat} (hp : p ≤ 100) (hq : q ≤ 100) (F : Df K mg "vanish" (top 76)) (T : Bn mg) : Cal P w K mg base 1 "vanish" (spVan K p q) := by
  refine F.cal scVan (fun _ _ _ _ _ _ us hl => match us, hl with | [_, _], _ => rfl) (fun vs H Q E h => ?_) (fun cdv A outer f s H vs Q E hr h => ?_)
  · obtain ⟨k, x, t, z, rfl, _⟩ := h
    rfl
  · obtain ⟨kd, x, t, z, rfl, ⟨l, a, b, c, d, rfl, ql, ha, hb, hc, hd⟩, hB, qt, k⟩ := h
    refine ⟨_, pss_cons (ps_for PassesOwn.never rfl (pi_tup (pv 1)) (pg_n 2 scVan.nd)
        (pss_one (ps_for PassesOwn.never rfl (pi_list (pe_ix ix_list (pv 0) (pv 2) (fun _ _ => rfl))) (pg_n 3 scVan.nd)
          (pss_one (ps_if (pt_val (pe_callB (cr_any rfl) (by rfl) T.bany (by decide +kernel) (pa_cons (pe_lcA [("c", 4)] rfl scVan.nd (pi_list (pv 3)) (blkOk_by (N := nVan) (sc := defScope (top 76)) (by decide +kernel)) (fun _ _ _ _ _ => pg_n 4 scVan.nd)) pa_nil))) (pss_one (ps_ret pe_bl)) pss_nil)))))
      (pss_one (ps_ret pe_bl)), ?_⟩
    refine ⟨_, rfl, t, rfl, ⟨_, qt⟩, for_it (walk_tup (xs := (kP kd).map V.int)) (fun i σ H1 => ∃ x y z', σ = [some (.ref l), some (.ref t), x, y, z'] ∧ Same H H1 ∧ ∀ e ∈ (kP kd).take i, pAt z e = 0)
      ⟨none, none, none, rfl, Same.refl H, by simp⟩ (fun i σ H1 _ ⟨_, _, _, _, s1, _⟩ => Same.sT s1 qt) ?_ ?_⟩
    · rintro i v σ _ H1 hi ⟨x, y, z', rfl, s1, hz⟩ ⟨rfl, hv⟩
      rw [List.length_map] at hi
      rw [List.getElem?_map, List.getElem?_eq_getElem hi] at hv
      obtain rfl : V.int (kP kd)[i] = v := Option.some.inj hv
      have hm : (kP kd)[i] ∈ kP kd := List.getElem_mem hi
      generalize he : (kP kd)[i] = e at hm
      have hi' : e = 1 ∨ e = 2 ∨ e = 3 := by cases kd <;> simp [kP] at hm <;> omega
      have et : (kP kd).take (i + 1) = (kP kd).take i ++ [e] := by rw [← he]; exact (List.take_append_getElem hi).symm
      obtain ⟨pv', hpv, hpt, hsup⟩ : ∃ pv', atI [a, b, c, d] e = some pv' ∧ Pt K p q H (pAt z e) pv' ∧ Sup (p - 1) (q - 1) (pAt z e) := by
        rcases hi' with rfl | rfl | rfl
        · exact ⟨b, rfl, hb, hB.2.1⟩
        · exact ⟨c, rfl, hc, hB.2.2.1⟩
        · exact ⟨d, rfl, hd, hB.2.2.2⟩
      obtain ⟨pa, ws, rfl, qw, pw⟩ := hpt
      have lw := pw.length
      rw [tbl_len] at lw
      refine ⟨_, rfl, _, rfl, l, _, _, _, rfl, rfl, Same.sL s1 ql, hpv, pa, rfl, ⟨_, Same.sL s1 qw⟩, ?_⟩
      refine for_it (walk_list (xs := ws)) (fun j σ H2 => ∃ y z', σ = [some (.ref l), some (.ref t), some (.int e), y, z'] ∧ Same H H2 ∧ ∀ r ∈ (tbl p q (pAt z e)).take j, ∀ c ∈ r, c = 0)
        ⟨y, z', rfl, s1, by simp⟩ (fun j σ H2 _ ⟨_, _, _, s2, _⟩ => Same.sL s2 qw) ?_ ?_
      · rintro j v σ _ H2 hj ⟨y, z', rfl, s2, hz2⟩ ⟨rfl, hv2⟩
        obtain ⟨r, hr', rb, rs, rfl, qr, pr⟩ := Paired.getR pw hv2
        have := Paired.intV pr
        subst this
        have hrl : r.length ≤ 100 := by
          rw [tbl_at (by omega)] at hr'
          cases hr'
          rw [rw1_len]
          omega
        have et2 : (tbl p q (pAt z e)).take (j + 1) = (tbl p q (pAt z e)).take j ++ [r] := by rw [List.take_succ, hr']; rfl
        refine ⟨[some (.ref l), some (.ref t), some (.int e), some (.ref rb), none], rfl, _, rfl, rb, rfl, ⟨_, Same.sL s2 qr⟩, fun D nD => ?_⟩
        refine lc_L (walk_list (xs := r.map V.int)) (Rs := Iv) (Paired.ofInt r) Bv (fun c => !decide (c = 0)) Mo.b nD (lsz (m := 100) (by rw [List.length_map]; exact hrl)) (fun _ s => Same.sL s (Same.sL s2 qr)) (fun _ => rfl) ?_ ?_
        · rintro c v Hx hc' rfl sx Q2 hQ2 s' H0' C' cl fp
          refine ⟨_, pe_cmpR op_ne (pv 4) pe_int (nomark _), _, rfl, rfl, ?_⟩
          refine hQ2 _ _ (Same.refl _) ?_
          show V.bl (!decide (V.int c = V.int 0)) = V.bl (!decide (c = 0))
          simp
        · intro H3 ys s3 hD hp3
          have := Paired.bV hp3
          subst this
          refine ⟨D, _, rfl, .of hD, _, rfl, ?_⟩
          rw [List.any_map]
          cases ha' : r.any (id ∘ fun c => !decide (c = 0)) with
          | true =>
            refine iteT (B := True) ?_
            refine k false H3 (Same.trans s2 s3) ⟨(fun h => nomatch h), fun hJ => ?_⟩
            exfalso
            rw [List.any_eq_true] at ha'
            obtain ⟨c, hc, hc2⟩ := ha'
            have h1 := J_pAt.mp hJ e hm
            have h2 := (box_zero hsup).mp h1 r (List.mem_of_getElem? hr') c hc
            simp [h2] at hc2
          | false =>
            refine iteF (A := True) ?_
            refine ⟨_, _, rfl, Same.trans s2 s3, ?_⟩
            rw [et2]
            intro r' hr2 c hc
            rcases List.mem_append.mp hr2 with hr2 | hr2
            · exact hz2 r' hr2 c hc
            · obtain rfl : r' = r := by simpa using hr2
              rw [List.any_eq_false] at ha'
              have := ha' c hc
              simpa using this
      · rintro σ H2 ⟨y, z', rfl, s2, hz2⟩
        rw [← lw, ← tbl_len p q (pAt z e), List.take_length] at hz2
        refine ⟨_, _, _, rfl, s2, ?_⟩
        rw [et]
        intro e' he'
        rcases List.mem_append.mp he' with he' | he'
        · exact hz e' he'
        · obtain rfl : e' = e := by simpa using he'
          exact (box_zero hsup).mpr hz2
    · rintro σ H1 ⟨x, y, z', rfl, s1, hz⟩
      rw [List.length_map, List.take_length] at hz
      exact k true H1 s1 ⟨fun _ => J_pAt.mpr hz, fun _ => rfl⟩
end
end W5
set_option maxHeartbeats 8000000
/-! W5O2: Floor.blank, start, times_x, times_y. -/
namespace W5
open PySem L2 K5
def zeros (q : Nat) : List V := List.replicate (q - 1) (.int 0)
theorem zeros_eq (q : Nat) : (rw1 q fun _ => 0).map V.int = zeros q := by
  unfold rw1 zeros
  apply List.ext_getElem
  · simp
  · intro i h1 h2
    simp
section
variable {P : Program} {w : World} {K : PySem.W.Frag} {mg : Str → Option Value} {base : Heap} {C : Addr} {p q : Nat}
/-! ### blank -/
def spBlank (K : PySem.W.Frag) (C : Addr) (p q : Nat) : Sp := fun vs H Q _ => ∃ x, vs = [x] ∧ Flo K C p q H x ∧ ∀ (a : Addr) (rs : List Addr) (H' : Hp), Same H H' → H a = none → H' a = some (.lst (rs.map V.ref)) → rs.length = p - 1 → rs.Nodup → (∀ r ∈ rs, H r = none ∧ H' r = some (.lst (zeros q))) → Q (.ref a) H'
theorem blank_pt {H : Hp} {a : Addr} {rs : List Addr} (ha : H a = some (.lst (rs.map V.ref))) (hl : rs.length = p - 1) (hr : ∀ r ∈ rs, H r = some (.lst (zeros q))) : Pt K p q H 0 (.ref a) := by
  refine ⟨a, _, rfl, .of ha, Paired.ofGet (by rw [tbl_len, List.length_map, hl]) fun i x y e1 e2 => ?_⟩
  rw [List.getElem?_map] at e2
  cases er : rs[i]? with
  | none => rw [er] at e2; cases e2
  | some r =>
    rw [er] at e2
    cases e2
    have hi : i < p - 1 := by rw [← hl]; exact (List.getElem?_eq_some_iff.mp er).1
    rw [tbl_at hi] at e1
    cases e1
    exact ⟨r, zeros q, rfl, .of (hr r (List.mem_of_getElem? er)), by rw [← zeros_eq]; exact Paired.ofInt _⟩
abbrev nBlank : List Str := ["self", "i"]
theorem scBlank : FnScope nBlank ["self"] (defScope (inClass (top 73) 3)) := ⟨rfl, rfl, rfl, by decide +kernel, rfl, by decide +kernel, by decide +kernel⟩
theorem c_blank (hp1 : 3 ≤ p) (hq1 : 3 ≤ q) (hp : p ≤ 60) (hq : q ≤ 60) (D : DfM K C "blank" "Floor.blank" (inClass (top 73) 3)) (T : Bn mg) (L : LC K mg C) : Met P w K mg base 1 C "blank" (spBlank K C p q) := by
  refine D.met scBlank (fun _ _ _ _ _ _ us hl => match us, hl with | [_], _ => rfl) (fun vs H Q E h => ?_) (fun cdv A outer f s H vs Q E hr h => ?_)
  · obtain ⟨x, rfl, _⟩ := h
    rfl
  · obtain ⟨x, rfl, ⟨o, dx, d, a, rfl, ho, h1, h2⟩, k⟩ := h
    refine ⟨_, pss_one (ps_ret (pe_lcA [("i", 1)] rfl scBlank.nd (pi_range1 rfl T.brange (pa_cons (pe_op op_sub (pe_fld (pv 0) rfl) pe_int) pa_nil)) (blkOk_by (N := nBlank) (sc := defScope (inClass (top 73) 3)) (by decide +kernel)) (fun _ _ _ _ _ => pg_n 1 scBlank.nd))), ?_⟩
    refine ⟨[some (.ref o), none], rfl, _, rfl, o, C, dx, _, _, rfl, ho, L.cl, L.nP, fF_p _ _ _ _, _, _, rfl, rfl, _, rfl, by omega, by omega, fun R nR => ?_⟩
    have ep : ((p : Int) - 1).toNat = p - 1 := by omega
    rw [ep]
    refine lc2_out (F := fun Nx x H' => gName 1 x [some (.ref o), none] H' fun σ2 H2 => wipe σ2 [1] = [some (.ref o), none] ∧ tYes σ2 H2 fun b H3 => if b = true then tHide _ σ2 H3 fun y H4 => ∃ acc, H4 R = some (.lst acc) ∧ acc.length < sizeLine ∧ Nx (upd H4 R (.lst (acc ++ [y]))) else Nx H3)
      walk_range (fun i H3 => Same H H3 ∧ ∃ rs : List Addr, rs.length = i ∧ H3 R = some (.lst (rs.map V.ref)) ∧ rs.Nodup ∧ ∀ r ∈ rs, H r = none ∧ r ≠ R ∧ H3 r = some (.lst (zeros q))) ⟨Same.new nR, [], rfl, upd_same, List.nodup_nil, fun _ z => (List.not_mem_nil z).elim⟩ (fun _ _ _ _ => trivial) ?_ ?_
    · rintro i x _ H3 hi ⟨s3, rs, hl, hd2, hnd, hrs⟩ ⟨rfl, rfl⟩
      refine ⟨rfl, yes_ (hide0 ?_)⟩
      intro s' H0' C' cl fp
      refine ⟨_, pe_op op_rep (pe_lst (pa_cons pe_int pa_nil)) (pe_op op_sub (pe_fld (pv 0) rfl) pe_int), ?_⟩
      refine ⟨(by show 1 ≤ sizeLine; decide), fun z nz => ?_⟩
      refine ⟨_, rfl, o, C, dx, _, _, rfl, Same.new nz _ _ (s3 _ _ ho), L.cl, L.nQ, fF_q _ _ _ _, _, _, rfl, rfl, z, _, _, rfl, rfl, upd_same, by omega, by omega, lsz (m := 100) (by simp; omega), fun r nr => ?_⟩
      have hz2 : R ≠ z := ne_of_none hd2 nz
      have hRr : R ≠ r := ne_of_none hd2 ((Same.new (o := .lst [.int 0]) nz).free nr)
      have nr3 : H3 r = none := (Same.new (o := .lst [.int 0]) nz).free nr
      have ez : (List.replicate ((q : Int) - 1).toNat [V.int 0]).flatten = zeros q := by
        rw [flat1, show ((q : Int) - 1).toNat = q - 1 by omega]; rfl
      rw [ez]
      refine ⟨rs.map V.ref, by rw [upd_ne hRr, upd_ne hz2]; exact hd2, by rw [List.length_map, hl]; exact Nat.lt_of_le_of_lt (m := 100) (by omega) (by decide), ?_⟩
      refine ⟨Same.upd (Same.trans s3 (Same.trans (Same.new nz) (Same.new nr))) nR, rs ++ [r], by simp [hl], by rw [upd_same, List.map_append]; rfl, ?_, fun e he => ?_⟩
      · rw [List.nodup_append]
        refine ⟨hnd, by simp, fun x hx y hy => ?_⟩
        obtain rfl : y = r := by simpa using hy
        exact ne_of_none (hrs x hx).2.2 nr3
      · rcases List.mem_append.mp he with he | he
        · obtain ⟨g1, g2, g3⟩ := hrs e he
          exact ⟨g1, g2, by rw [upd_ne g2, upd_ne (ne_of_none g3 nr3), upd_ne (ne_of_none g3 nz)]; exact g3⟩
        · obtain rfl : e = r := by simpa using he
          exact ⟨s3.free nr3, hRr.symm, by rw [upd_ne hRr.symm, upd_same]⟩
    · rintro H3 ⟨s3, rs, hl, hR, hnd, hrs⟩
      exact k R rs H3 s3 nR hR hl hnd fun r hr' => ⟨(hrs r hr').1, (hrs r hr').2.2⟩
/-! ### start -/
def spStart (K : PySem.W.Frag) (C : Addr) (p q : Nat) : Sp := fun vs H Q _ => ∃ x, vs = [x] ∧ Flo K C p q H x ∧ ∀ v H', Same H H' → Pn K p q H' K5.one v → Q v H'
abbrev nStart : List Str := ["self", "parts", "at"]
theorem scStart : FnScope nStart ["self"] (defScope (inClass (top 73) 4)) := ⟨rfl, rfl, rfl, by decide +kernel, rfl, by decide +kernel, by decide +kernel⟩
theorem row_one (q : Nat) (hq : 2 ≤ q) : (rw1 q (K5.one.a 0)).map V.int = (zeros q).set 0 (.int 1) := by
  apply List.ext_getElem
  · simp [rw1, zeros]
  · intro i h1 h2
    rw [List.getElem_set]
    simp only [rw1, K5.one, List.getElem_map, List.getElem_range, zeros, List.getElem_replicate]
    by_cases h : i = 0
    · subst h; simp
    · rw [if_neg (by omega), if_neg (by omega)]
theorem c_start (hp1 : 3 ≤ p) (hq1 : 3 ≤ q) (hp : p ≤ 60) (hq : q ≤ 60) (D : DfM K C "start" "Floor.start" (inClass (top 73) 4)) (T : Bn mg) (L : LC K mg C) (CB : Met P w K mg base 1 C "blank" (spBlank K C p q)) : Met P w K mg base 2 C "start" (spStart K C p q) := by
  refine D.met scStart (fun _ _ _ _ _ _ us hl => match us, hl with | [_], _ => rfl) (fun vs H Q E h => ?_) (fun cdv A outer f s H vs Q E hr h => ?_)
  · obtain ⟨x, rfl, _⟩ := h
    rfl
  · obtain ⟨x, rfl, hF, k⟩ := h
    obtain ⟨o, dx, d, a, rfl, ho, h1, h2⟩ := id hF
    refine ⟨_, pss_cons (ps_lcA (i := 1) [("at", 2)] rfl scStart.nd rfl rfl (sw_true rfl rfl rfl (by decide +kernel)) (pi_range1 rfl T.brange (pa_cons pe_int pa_nil)) (blkOk_by (N := nStart) (sc := defScope (inClass (top 73) 4)) (by decide +kernel)) (fun _ _ _ _ _ => pg_n 2 scStart.nd))
      (pss_cons (ps_asg pe_int (pg_sub (pe_ix ix_list (pe_ix ix_list (pv 1) pe_int (fun _ _ => rfl)) pe_int (fun _ _ => rfl)) pe_int set_list))
      (pss_one (ps_ret (pv 1)))), ?_⟩
    refine ⟨[some (.ref o), none, none], rfl, 4, rfl, by decide, by decide, fun R nR => ?_⟩
    refine lc2_out (n := 4) (F := fun Nx x H' => gName 2 x [some (.ref o), none, none] H' fun σ2 H2 => wipe σ2 [2] = [some (.ref o), none, none] ∧ tYes σ2 H2 fun b H3 => if b = true then tHide _ σ2 H3 fun y H4 => ∃ acc, H4 R = some (.lst acc) ∧ acc.length < sizeLine ∧ Nx (upd H4 R (.lst (acc ++ [y]))) else Nx H3)
      walk_range (fun i H3 => Same H H3 ∧ ∃ ts : List (Addr × List Addr), ts.length = i ∧ H3 R = some (.lst (ts.map fun t => V.ref t.1)) ∧ (ts.flatMap fun t => t.2).Nodup ∧ ∀ t ∈ ts, t.1 ≠ R ∧ H3 t.1 = some (.lst (t.2.map V.ref)) ∧ t.2.length = p - 1 ∧ ∀ r ∈ t.2, H r = none ∧ r ≠ R ∧ H3 r = some (.lst (zeros q)))
      ⟨Same.new nR, [], rfl, upd_same, List.nodup_nil, fun _ z => (List.not_mem_nil z).elim⟩ (fun _ _ _ _ => trivial) ?_ ?_
    · rintro i x _ H3 hi ⟨s3, ts, hl, hd2, hnd, hts⟩ ⟨rfl, rfl⟩
      refine ⟨rfl, yes_ (hide0 ?_)⟩
      intro s' H0' C' cl fp
      refine ⟨_, pe_mt0 CB hr (by decide) (pv 0), ?_⟩
      refine ⟨_, rfl, o, dx, _, rfl, s3 _ _ ho, fF_no _ _ _ _ (by decide +kernel) (by decide +kernel) (by decide +kernel) (by decide +kernel), .ref o, rfl, hF.le (Le.of s3), fun b rs H4 s4 nb hb hrl hrn hrs => ?_⟩
      have hR4 := s4 _ _ hd2
      have hbR : b ≠ R := (ne_of_none hd2 nb).symm
      refine ⟨_, hR4, by rw [List.length_map, hl]; exact Nat.lt_of_le_of_lt (m := 100) (by omega) (by decide), ?_⟩
      refine ⟨Same.upd (Same.trans s3 s4) nR, ts ++ [(b, rs)], by simp [hl], by rw [upd_same, List.map_append]; rfl, ?_, fun t ht => ?_⟩
      · rw [List.flatMap_append, List.nodup_append]
        refine ⟨hnd, by simpa using hrn, fun x hx y hy => ?_⟩
        obtain ⟨t, ht, hxt⟩ := List.mem_flatMap.mp hx
        have hy' : y ∈ rs := by simpa using hy
        exact ne_of_none ((hts t ht).2.2.2 x hxt).2.2 (hrs y hy').1
      · rcases List.mem_append.mp ht with ht | ht
        · obtain ⟨g1, g2, g3, g4⟩ := hts t ht
          exact ⟨g1, by rw [upd_ne g1]; exact s4 _ _ g2, g3, fun r hr' => ⟨(g4 r hr').1, (g4 r hr').2.1, by rw [upd_ne (g4 r hr').2.1]; exact s4 _ _ (g4 r hr').2.2⟩⟩
        · obtain rfl : t = (b, rs) := by simpa using ht
          refine ⟨hbR, by rw [upd_ne hbR]; exact hb, hrl, fun r hr' => ?_⟩
          have hrR : r ≠ R := (ne_of_none hd2 (hrs r hr').1).symm
          exact ⟨s3.free (hrs r hr').1, hrR, by rw [upd_ne hrR]; exact (hrs r hr').2⟩
    · rintro H3 ⟨s3, ts, hl, hR, hnd, hts⟩
      match ts, hl, hR, hnd, hts with
      | [t0, t1, t2, t3], _, hR, hnd, hts =>
        obtain ⟨a0, b0, c0, d0⟩ := hts t0 (by simp)
        obtain ⟨a1, b1, c1, d1⟩ := hts t1 (by simp)
        obtain ⟨a2, b2, c2, d2⟩ := hts t2 (by simp)
        obtain ⟨a3, b3, c3, d3⟩ := hts t3 (by simp)
        obtain ⟨t0a, t0r⟩ := t0
        obtain ⟨r0, rr, rfl⟩ : ∃ r0 rr, t0r = r0 :: rr := by
          cases t0r with
          | nil => simp at c0; omega
          | cons r rr => exact ⟨r, rr, rfl⟩
        obtain ⟨e1, e2, e3⟩ := d0 r0 (by simp)
        have hq0 : (zeros q).length = q - 1 := by simp [zeros]
        have n0 : r0 ∉ rr ∧ r0 ∉ t1.2 ∧ r0 ∉ t2.2 ∧ r0 ∉ t3.2 := by
          simp only [List.flatMap_cons, List.flatMap_nil, List.append_nil, List.cons_append, List.nodup_cons, List.mem_append, not_or] at hnd
          exact ⟨hnd.1.1, hnd.1.2.1, hnd.1.2.2.1, hnd.1.2.2.2⟩
        refine ⟨_, rfl, R, _, 0, .ref t0a, rfl, rfl, .of hR, rfl, t0a, _, 0, .ref r0, rfl, rfl, .of b0, atI_nat (j := 0) rfl, r0, _, _, 0, rfl, rfl, e3, ?_, ?_⟩
        · unfold ixN
          rw [if_pos (by omega), if_pos (by rw [hq0]; omega)]
          rfl
        · have hlst : ∀ (a : Addr) (rs : List Addr), H3 a = some (.lst (rs.map V.ref)) → 0 < rs.length → a ≠ r0 := fun a rs h1 h2 e => by
            rw [e, e3] at h1
            have h3 := Option.some.inj h1
            injection h3 with h4
            have h5 := congrArg (fun l => l[0]?) h4
            rw [show rs.map V.ref = V.ref rs[0] :: (rs.drop 1).map V.ref by cases rs with | nil => simp at h2 | cons x xs => rfl] at h5
            have h6 : (zeros q)[0]? = some (.int 0) := by
              unfold zeros
              rw [List.getElem?_replicate, if_pos (by omega)]
            rw [h6] at h5
            cases h5
          have kz : ∀ (a : Addr) (rs : List Addr), H3 a = some (.lst (rs.map V.ref)) → rs.length = p - 1 → (∀ r ∈ rs, H3 r = some (.lst (zeros q))) → r0 ∉ rs → Pt K p q (upd H3 r0 (.lst ((zeros q).set 0 (.int 1)))) 0 (.ref a) := fun a rs h1 h2 h3 h4 => by
            refine blank_pt (rs := rs) (by rw [upd_ne (hlst a rs h1 (by omega))]; exact h1) h2 fun r hr' => ?_
            rw [upd_ne (fun e => h4 (by rw [← e]; exact hr'))]
            exact h3 r hr'
          refine ⟨_, rfl, k _ _ (Same.upd s3 e1) ⟨R, _, _, _, _, rfl, .of (by rw [upd_ne e2.symm]; exact hR), ?_, kz t1.1 t1.2 b1 c1 (fun r hr' => (d1 r hr').2.2) n0.2.1, kz t2.1 t2.2 b2 c2 (fun r hr' => (d2 r hr').2.2) n0.2.2.1, kz t3.1 t3.2 b3 c3 (fun r hr' => (d3 r hr').2.2) n0.2.2.2⟩⟩
          have h0 := hlst t0a (r0 :: rr) b0 (by simp)
          refine ⟨t0a, _, rfl, .of (by rw [upd_ne h0]; exact b0), Paired.ofGet (by rw [tbl_len, List.length_map]; exact c0.symm) fun i x y f1 f2 => ?_⟩
          have hi : i < p - 1 := by
            have := (List.getElem?_eq_some_iff.mp f1).1
            rwa [tbl_len] at this
          rw [tbl_at hi] at f1
          cases f1
          cases i with
          | zero =>
            cases f2
            exact ⟨r0, _, rfl, .of upd_same, by rw [← row_one q (by omega)]; exact Paired.ofInt _⟩
          | succ i =>
            rw [List.map_cons, List.getElem?_cons_succ, List.getElem?_map] at f2
            cases er : rr[i]? with
            | none => rw [er] at f2; cases f2
            | some r =>
              rw [er] at f2
              cases f2
              have hrm := List.mem_of_getElem? er
              have hne : r ≠ r0 := fun e => n0.1 (by rw [← e]; exact hrm)
              refine ⟨r, zeros q, rfl, .of (by rw [upd_ne hne]; exact (d0 r (by simp [hrm])).2.2), ?_⟩
              have : rw1 q (K5.one.a (i + 1)) = rw1 q fun _ => 0 := by
                unfold rw1
                apply List.map_congr_left
                intro j _
                show (if i + 1 = 0 ∧ j = 0 then (1 : Int) else 0) = 0
                rw [if_neg (by omega)]
              rw [this, ← zeros_eq]
              exact Paired.ofInt _
end
end W5
set_option maxHeartbeats 8000000
/-! W5O3: Floor.times_x, times_y. -/
namespace W5
open PySem L2 K5
section
variable {P : Program} {w : World} {K : PySem.W.Frag} {mg : Str → Option Value} {base : Heap} {C : Addr} {p q : Nat}
def spTX (K : PySem.W.Frag) (C : Addr) (p q : Nat) (F : K5.C → K5.C) : Sp := fun vs H Q _ => ∃ s x f, vs = [s, x] ∧ Flo K C p q H s ∧ Pt K p q H f x ∧ ∀ z H', Same H H' → Pt K p q H' (F f) z → Q z H'
abbrev nTX : List Str := ["self", "rows", "last", "moved", "result", "i", "row", "j"]
theorem scTX : FnScope nTX ["self", "rows"] (defScope (inClass (top 73) 5)) := ⟨rfl, rfl, rfl, by decide +kernel, rfl, by decide +kernel, by decide +kernel⟩
theorem tbl_shx (hp : 1 ≤ p - 1) (f : K5.C) : tbl p q (shx f) = (rw1 q fun _ => 0) :: (tbl p q f).dropLast := by
  apply List.ext_getElem
  · rw [tbl_len, List.length_cons, List.length_dropLast, tbl_len]; omega
  · intro i h1 h2
    cases i with
    | zero => simp [tbl, rw1, shx]
    | succ i => simp [tbl, rw1, shx]
theorem Pt.at_ {H : Hp} {f : K5.C} {x : V} (h : Pt K p q H f x) : ∃ a ws, x = .ref a ∧ SqL K H a ws ∧ ws.length = p - 1 ∧ Paired (Ls K Iv H) (tbl p q f) ws := by
  obtain ⟨a, ws, e, qa, pa⟩ := h
  exact ⟨a, ws, e, qa, by rw [← pa.length, tbl_len], pa⟩
theorem rows_at {H : Hp} {f : K5.C} {ws : List V} (pa : Paired (Ls K Iv H) (tbl p q f) ws) {i : Nat} (hi : i < p - 1) : ∃ r, ws[i]? = some (.ref r) ∧ SqL K H r ((rw1 q (f i)).map V.int) := by
  obtain ⟨y, hy, r, rs, rfl, qr, pr⟩ := Paired.get pa (tbl_at hi)
  have := Paired.intV pr
  subst this
  exact ⟨r, hy, qr⟩
theorem c_TX (hp1 : 3 ≤ p) (hq1 : 3 ≤ q) (hp : p ≤ 60) (hq : q ≤ 60) (D : DfM K C "times_x" "Floor.times_x" (inClass (top 73) 5)) (T : Bn mg) (L : LC K mg C) : Met P w K mg base 1 C "times_x" (spTX K C p q (Xp p)) := by
  refine D.met scTX (fun _ _ _ _ _ _ us hl => match us, hl with | [_, _], _ => rfl) (fun vs H Q E h => ?_) (fun cdv A outer f s H vs Q E hr h => ?_)
  · obtain ⟨s, x, f, rfl, _⟩ := h
    rfl
  · obtain ⟨x0, x, g, rfl, hF, hx, k⟩ := h
    obtain ⟨o, dx, d, al, rfl, ho, hd, hal⟩ := id hF
    obtain ⟨a, ws, rfl, qa, lw, pa⟩ := Pt.at_ hx
    refine ⟨_, pss_cons (ps_set (i := 2) scTX.nd rfl (Or.inr rfl) (pe_ix ix_list (pv 1) (pe_un un_neg pe_int) (fun _ _ => rfl)))
      (pss_cons (ps_set (i := 3) scTX.nd rfl (Or.inl rfl) (pe_op op_cat (pe_lst (pa_cons (pe_op op_rep (pe_lst (pa_cons pe_int pa_nil)) (pe_op op_sub (pe_fld (pv 0) rfl) pe_int)) pa_nil)) (pe_slice sl_list (pv 1) po_none (po_some (pe_un un_neg pe_int)))))
      (pss_cons (ps_set (i := 4) scTX.nd rfl (Or.inl rfl) (pe_lst pa_nil))
      (pss_cons (ps_for PassesOwn.never rfl (pi_enum rfl T.benum (pa_cons (pv 3) pa_nil)) (pg_2K rfl (pg_n 5 scTX.nd) (pg_n 6 scTX.nd))
        (pss_one (ps_expr (pe_bm PySem.F.plainAttrs_list PySem.F.slot_list_append PySem.F.type_list_append mt_append (pv 4) (pa_cons (pe_hide (pe_lcA [("j", 7)] rfl scTX.nd (pi_range1 rfl T.brange (pa_cons (pe_op op_sub (pe_fld (pv 0) rfl) pe_int) pa_nil)) (blkOk_by (N := nTX) (sc := defScope (inClass (top 73) 5)) (by decide +kernel)) (fun _ _ _ _ _ => pg_n 7 scTX.nd))) pa_nil)))))
      (pss_one (ps_ret (pv 4)))))), ?_⟩
    obtain ⟨rl, hrl, qrl⟩ := rows_at pa (show p - 2 < p - 1 by omega)
    refine ⟨_, rfl, _, rfl, a, _, _, .ref rl, rfl, rfl, qa, atI_neg (i := p - 2) hrl (by omega), ?_⟩
    refine ⟨(by show 1 ≤ sizeLine; decide), fun z nz => ?_⟩
    refine ⟨_, rfl, o, C, dx, _, _, rfl, Same.new nz _ _ ho, L.cl, L.nQ, fF_q _ _ _ _, _, _, rfl, rfl, z, _, _, rfl, rfl, upd_same, by omega, by omega, lsz (m := 100) (by simp; omega), fun r0 nr0 => ?_⟩
    have ez : (List.replicate ((q : Int) - 1).toNat [V.int 0]).flatten = zeros q := by
      rw [flat1, show ((q : Int) - 1).toNat = q - 1 by omega]; rfl
    rw [ez]
    have s2 := Same.trans (Same.new (H := H) (o := .lst [.int 0]) nz) (Same.new (o := .lst (zeros q)) nr0)
    refine ⟨(by show 1 ≤ sizeLine; decide), fun l1 nl1 => ?_⟩
    have s3 := Same.trans s2 (Same.new (o := .lst [.ref r0]) nl1)
    refine ⟨_, rfl, _, rfl, _, rfl, a, ws, rfl, Same.sL s3 qa, fun l2 nl2 => ?_⟩
    have s4 := Same.trans s3 (Same.new (o := .lst (cutV ws none (some (-1)))) nl2)
    refine ⟨l1, l2, _, _, rfl, rfl, Same.new nl2 _ _ upd_same, upd_same, lsz (m := 1000) (by rw [cutV_init, List.length_dropLast]; simp; omega), fun mv nmv => ?_⟩
    have s45 := Same.new (o := .lst ([V.ref r0] ++ cutV ws none (some (-1)))) nmv
    have s5 := Same.trans s4 s45
    refine ⟨(by show 0 ≤ sizeLine; decide), fun R nR => ?_⟩
    have hz5 := s45 _ _ (Same.new (o := .lst (cutV ws none (some (-1)))) nl2 _ _ (Same.new (o := .lst [.ref r0]) nl1 _ _ (upd_same (H := upd H z (.lst [.int 0])) (a := r0) (o := .lst (zeros q)))))
    rw [cutV_init] at *
    generalize hH5 : upd (upd (upd (upd (upd H z (.lst [V.int 0])) r0 (.lst (zeros q))) l1 (.lst [V.ref r0])) l2 (.lst ws.dropLast)) mv (.lst ([V.ref r0] ++ ws.dropLast)) = H5 at *
    have hmv : H5 mv = some (.lst (.ref r0 :: ws.dropLast)) := by rw [← hH5, upd_same]; rfl
    have hmd : Paired (Ls K Iv H5) (tbl p q (shx g)) (.ref r0 :: ws.dropLast) := by
      rw [tbl_shx (by omega)]
      refine .cons ⟨r0, _, rfl, .of hz5, by rw [← zeros_eq]; exact Paired.ofInt _⟩ (Paired.ofGet (by rw [List.length_dropLast, List.length_dropLast, tbl_len, lw]) fun i x y e1 e2 => ?_)
      rw [List.getElem?_dropLast] at e1 e2
      split at e1
      · split at e2
        · obtain ⟨y', hy', h'⟩ := Paired.get pa e1
          rw [e2] at hy'
          cases hy'
          exact Mo.ls Mo.i _ _ _ _ (Le.of s5) h'
        · cases e2
      · cases e1
    have lmv : (V.ref r0 :: ws.dropLast).length = p - 1 := by rw [List.length_cons, List.length_dropLast, lw]; omega
    refine ⟨_, rfl, mv, _, rfl, .of (Same.new nR _ _ hmv), ?_⟩
    refine for_it (walk_enum (xs := .ref r0 :: ws.dropLast)) (fun i σ H6 => ∃ y5 y6, σ = [some (.ref o), some (.ref a), some (.ref rl), some (.ref mv), some (.ref R), y5, y6, none] ∧ Made R (Ls K Iv) H5 ((tbl p q (Xp p g)).take i) H6)
      ⟨none, none, rfl, by rw [List.take_zero]; exact Made.nil nR⟩ (fun i σ H6 _ ⟨_, _, _, M⟩ => .of (M.1 _ _ hmv)) ?_ ?_
    · rintro i v σ H6 _ hi ⟨y5, y6, rfl, M⟩ ⟨tp, p1, p2, rfl, ntp, rfl, e1, e2⟩
      rw [lmv] at hi
      cases e1
      obtain ⟨r, hr', qr⟩ := rows_at hmd hi
      obtain rfl : p2 = .ref r := by
        have e3 : (V.ref r0 :: ws.dropLast)[i]? = some p2 := e2
        rw [hr'] at e3
        exact (Option.some.inj e3).symm
      have M2 := M.same (Mo.ls Mo.i) (Same.new (o := .tup [.int (i : Nat), .ref r]) ntp)
      refine ⟨tp, _, rfl, .of upd_same, rfl, _, _, rfl, _, _, rfl, rfl, ?_⟩
      obtain ⟨_, ys0, hys0, _⟩ := id M2
      refine ⟨_, rfl, .inl ⟨rfl, _, .of hys0⟩, ?_⟩
      have et : (tbl p q (Xp p g)).take (i + 1) = (tbl p q (Xp p g)).take i ++ [rw1 q (Xp p g i)] := by rw [List.take_succ, tbl_at hi]; rfl
      refine Made.gen (c := rw1 q (Xp p g i)) nR (Mo.ls Mo.i) M2 (fun Hx sx _ Q1 hQ1 => ?_) fun y H7 acc hacc hal' M3 => ?_
      · refine ⟨[some (.ref o), some (.ref a), some (.ref rl), some (.ref mv), some (.ref R), some (.int i), some (.ref r), none], rfl, _, rfl, o, C, dx, _, _, rfl, sx _ _ (s5 _ _ ho), L.cl, L.nQ, fF_q _ _ _ _, _, _, rfl, rfl, _, rfl, by omega, by omega, fun D2 nD2 => ?_⟩
        have eq1 : ((q : Int) - 1).toNat = q - 1 := by omega
        rw [eq1]
        refine lc_n walk_range Iv (fun j => Xp p g i j) Mo.i nD2 (lsz (m := 100) (by omega)) (fun _ _ => trivial) (fun _ => rfl) ?_ hY_fn ?_
        · rintro j x H8 H8' hj ⟨_, rfl⟩ Hy sy Q2 hQ2 s' H0' C' cl fp
          have sxy := Same.trans sx sy
          have eL : (rw1 q (g (p - 2)))[j]? = some (g (p - 2) j) := rw1_at hj
          refine ⟨_, pe_op op_sub (pe_ix ix_list (pv 6) (pv 7) (fun _ _ => rfl)) (pe_op op_mul (pe_ix ix_list (pe_fld (pv 0) rfl) (pv 5) (fun _ _ => rfl)) (pe_ix ix_list (pv 2) (pv 7) (fun _ _ => rfl))), ?_⟩
          refine ⟨_, rfl, _, rfl, r, _, _, .int (shx g i j), rfl, rfl, Same.sL sxy qr, atI_of (i := j) (by rw [List.getElem?_map, rw1_at hj]; rfl) (by omega), ?_⟩
          refine ⟨_, rfl, o, C, dx, _, _, rfl, sxy _ _ (s5 _ _ ho), L.cl, L.nD, fF_d _ _ _ _, _, rfl, d, _, _, _, rfl, rfl, Same.sL sxy (Same.sL s5 hd), atI_map (i := i) 0 (by rw [scL_len]; omega) rfl, ?_⟩
          rw [scL_get (show i < p by omega)]
          refine ⟨_, rfl, _, rfl, rl, _, _, .int (g (p - 2) j), rfl, rfl, Same.sL sxy (Same.sL s5 qrl), atI_of (i := j) (by rw [List.getElem?_map, eL]; rfl) (by omega), ?_⟩
          exact ⟨_, _, rfl, rfl, .inl (Sc_small hp), _, _, rfl, rfl, hQ2 _ _ (Same.refl _) rfl⟩
        · intro H8 zs s8 hD8 hp8
          exact hQ1 _ _ s8 ⟨D2, zs, rfl, .of hD8, hp8⟩
      · refine ⟨R, acc, y, rfl, rfl, hacc, ?_, _, _, rfl, ?_⟩
        · rw [hal', List.length_take, tbl_len]
          exact Nat.lt_of_le_of_lt (m := 100) (by omega) (by decide)
        · rw [et]
          exact M3
    · rintro σ H6 ⟨y5, y6, rfl, M⟩
      obtain ⟨ys, hys, hpy⟩ := M.done (Mo.ls Mo.i)
      rw [lmv, ← tbl_len p q (Xp p g), List.take_length] at hpy
      exact ⟨_, rfl, k _ _ (Same.trans s5 M.1) ⟨R, ys, rfl, .of hys, hpy⟩⟩
abbrev nTY : List Str := ["self", "rows", "result", "row", "moved", "j"]
theorem scTY : FnScope nTY ["self", "rows"] (defScope (inClass (top 73) 6)) := ⟨rfl, rfl, rfl, by decide +kernel, rfl, by decide +kernel, by decide +kernel⟩
theorem rw1_shy (hq : 1 ≤ q - 1) (f : K5.C) (i : Nat) : (rw1 q (shy f i)).map V.int = V.int 0 :: ((rw1 q (f i)).map V.int).dropLast := by
  apply List.ext_getElem
  · rw [List.length_map, rw1_len, List.length_cons, List.length_dropLast, List.length_map, rw1_len]; omega
  · intro j h1 h2
    cases j with
    | zero => simp [rw1, shy]
    | succ j => simp [rw1, shy]
theorem c_TY (hp1 : 3 ≤ p) (hq1 : 3 ≤ q) (hp : p ≤ 60) (hq : q ≤ 60) (D : DfM K C "times_y" "Floor.times_y" (inClass (top 73) 6)) (T : Bn mg) (L : LC K mg C) : Met P w K mg base 1 C "times_y" (spTX K C p q (Yq q)) := by
  refine D.met scTY (fun _ _ _ _ _ _ us hl => match us, hl with | [_, _], _ => rfl) (fun vs H Q E h => ?_) (fun cdv A outer f s H vs Q E hr h => ?_)
  · obtain ⟨s, x, f, rfl, _⟩ := h
    rfl
  · obtain ⟨x0, x, g, rfl, hF, hx, k⟩ := h
    obtain ⟨o, dx, d, al, rfl, ho, hd, hal⟩ := id hF
    obtain ⟨a, ws, rfl, qa, lw, pa⟩ := Pt.at_ hx
    refine ⟨_, pss_cons (ps_set (i := 2) scTY.nd rfl (Or.inl rfl) (pe_lst pa_nil))
      (pss_cons (ps_for PassesOwn.never rfl (pi_list (pv 1)) (pg_n 3 scTY.nd)
        (pss_cons (ps_set (i := 4) scTY.nd rfl (Or.inr rfl) (pe_op op_cat (pe_lst (pa_cons pe_int pa_nil)) (pe_slice sl_list (pv 3) po_none (po_some (pe_un un_neg pe_int)))))
        (pss_one (ps_expr (pe_bm PySem.F.plainAttrs_list PySem.F.slot_list_append PySem.F.type_list_append mt_append (pv 2) (pa_cons (pe_hide (pe_lcA [("j", 5)] rfl scTY.nd (pi_range1 rfl T.brange (pa_cons (pe_op op_sub (pe_fld (pv 0) rfl) pe_int) pa_nil)) (blkOk_by (N := nTY) (sc := defScope (inClass (top 73) 6)) (by decide +kernel)) (fun _ _ _ _ _ => pg_n 5 scTY.nd))) pa_nil))))))
      (pss_one (ps_ret (pv 2)))), ?_⟩
    refine ⟨(by show 0 ≤ sizeLine; decide), fun R nR => ?_⟩
    refine ⟨_, rfl, a, rfl, ⟨_, Same.sL (Same.new nR) qa⟩, ?_⟩
    refine for_it (walk_list (xs := ws)) (fun i σ H6 => ∃ y3 y4, σ = [some (.ref o), some (.ref a), some (.ref R), y3, y4, none] ∧ Made R (Ls K Iv) H ((tbl p q (Yq q g)).take i) H6)
      ⟨none, none, rfl, by rw [List.take_zero]; exact Made.nil nR⟩ (fun i σ H6 _ ⟨_, _, _, M⟩ => Same.sL M.1 qa) ?_ ?_
    · rintro i v σ _ H6 hi ⟨y3, y4, rfl, M⟩ ⟨rfl, hv⟩
      rw [lw] at hi
      obtain ⟨r, hr', qr⟩ := rows_at pa hi
      rw [hr'] at hv
      cases hv
      refine ⟨(by show 1 ≤ sizeLine; decide), fun l1 nl1 => ?_⟩
      have t1 := Same.new (H := H6) (o := .lst [.int 0]) nl1
      refine ⟨_, rfl, _, rfl, _, rfl, r, _, rfl, Same.sL t1 (Same.sL M.1 qr), fun l2 nl2 => ?_⟩
      have t2 := Same.trans t1 (Same.new (o := .lst (cutV ((rw1 q (g i)).map V.int) none (some (-1)))) nl2)
      refine ⟨l1, l2, _, _, rfl, rfl, Same.new nl2 _ _ upd_same, upd_same, lsz (m := 1000) (by rw [cutV_init, List.length_dropLast, List.length_map, rw1_len]; simp; omega), fun mv nmv => ?_⟩
      have t3 := Same.trans t2 (Same.new (o := .lst ([V.int 0] ++ cutV ((rw1 q (g i)).map V.int) none (some (-1)))) nmv)
      rw [cutV_init] at *
      have emv : [V.int 0] ++ ((rw1 q (g i)).map V.int).dropLast = (rw1 q (shy g i)).map V.int := by rw [rw1_shy (by omega)]; rfl
      have hmv : (upd (upd (upd H6 l1 (.lst [V.int 0])) l2 (.lst ((rw1 q (g i)).map V.int).dropLast)) mv (.lst ([V.int 0] ++ ((rw1 q (g i)).map V.int).dropLast))) mv = some (.lst ((rw1 q (shy g i)).map V.int)) := by rw [upd_same, emv]
      clear emv
      generalize upd (upd (upd H6 l1 (.lst [V.int 0])) l2 (.lst ((rw1 q (g i)).map V.int).dropLast)) mv (.lst ([V.int 0] ++ ((rw1 q (g i)).map V.int).dropLast)) = H7 at *
      have M2 := M.same (Mo.ls Mo.i) t3
      obtain ⟨_, ys0, hys0, _⟩ := id M2
      obtain ⟨_, ysM, hysM, _⟩ := id M
      have hmR : mv ≠ R := (ne_of_none (t2 _ _ hysM) nmv).symm
      refine ⟨_, rfl, .inl ⟨rfl, _, .of hys0⟩, ?_⟩
      have et : (tbl p q (Yq q g)).take (i + 1) = (tbl p q (Yq q g)).take i ++ [rw1 q (Yq q g i)] := by rw [List.take_succ, tbl_at hi]; rfl
      refine Made.gen (c := rw1 q (Yq q g i)) nR (Mo.ls Mo.i) M2 (fun Hx sx hx Q1 hQ1 => ?_) fun y H8 acc hacc hal' M3 => ?_
      · have hmx : Hx mv = some (.lst ((rw1 q (shy g i)).map V.int)) := hx _ _ hmv hmR
        refine ⟨[some (.ref o), some (.ref a), some (.ref R), some (.ref r), some (.ref mv), none], rfl, _, rfl, o, C, dx, _, _, rfl, sx _ _ ho, L.cl, L.nQ, fF_q _ _ _ _, _, _, rfl, rfl, _, rfl, by omega, by omega, fun D2 nD2 => ?_⟩
        have eq1 : ((q : Int) - 1).toNat = q - 1 := by omega
        rw [eq1]
        refine lc_n walk_range Iv (fun j => Yq q g i j) Mo.i nD2 (lsz (m := 100) (by omega)) (fun _ _ => trivial) (fun _ => rfl) ?_ hY_fn ?_
        · rintro j x H8 H8' hj ⟨_, rfl⟩ Hy sy Q2 hQ2 s' H0' C' cl fp
          have sxy := Same.trans sx sy
          refine ⟨_, pe_op op_sub (pe_ix ix_list (pv 4) (pv 5) (fun _ _ => rfl)) (pe_op op_mul (pe_ix ix_list (pe_fld (pv 0) rfl) (pv 5) (fun _ _ => rfl)) (pe_ix ix_list (pv 3) (pe_un un_neg pe_int) (fun _ _ => rfl))), ?_⟩
          refine ⟨_, rfl, _, rfl, mv, _, _, .int (shy g i j), rfl, rfl, .of (sy _ _ hmx), atI_of (i := j) (by rw [List.getElem?_map, rw1_at hj]; rfl) (by omega), ?_⟩
          refine ⟨_, rfl, o, C, dx, _, _, rfl, sxy _ _ ho, L.cl, L.nA, fF_a _ _ _ _, _, rfl, al, _, _, _, rfl, rfl, Same.sL sxy hal, atI_map (i := j) 0 (by rw [scL_len]; omega) (by omega), ?_⟩
          rw [scL_get (show j < q by omega)]
          refine ⟨_, rfl, _, rfl, r, _, _, .int (g i (q - 2)), rfl, rfl, Same.sL sxy qr, atI_neg (i := q - 2) (by rw [List.getElem?_map, rw1_at (by omega)]; rfl) (by rw [List.length_map, rw1_len]; omega), ?_⟩
          exact ⟨_, _, rfl, rfl, .inl (Sc_small hq), _, _, rfl, rfl, hQ2 _ _ (Same.refl _) rfl⟩
        · intro H8 zs s8 hD8 hp8
          exact hQ1 _ _ s8 ⟨D2, zs, rfl, .of hD8, hp8⟩
      · refine ⟨R, acc, y, rfl, rfl, hacc, ?_, _, _, rfl, ?_⟩
        · rw [hal', List.length_take, tbl_len]
          exact Nat.lt_of_le_of_lt (m := 100) (by omega) (by decide)
        · rw [et]
          exact M3
    · rintro σ H6 ⟨y3, y4, rfl, M⟩
      obtain ⟨ys, hys, hpy⟩ := M.done (Mo.ls Mo.i)
      rw [lw, ← tbl_len p q (Yq q g), List.take_length] at hpy
      exact ⟨_, rfl, k _ _ M.1 ⟨R, ys, rfl, .of hys, hpy⟩⟩
end
end W5
set_option maxHeartbeats 8000000
/-! W5O4: Floor.left, right, across, turned, walked. -/
namespace W5
open PySem L2 K5
theorem jr1 (f g : K5.C) : (fun i j => f i j + 1 * g i j) = f + g := C.ext fun i j => by rw [C.add_at]; omega
theorem jrm (f g : K5.C) : (fun i j => f i j + -1 * g i j) = f - g := C.ext fun i j => by rw [C.sub_at]; omega
theorem jr0 (g : K5.C) : (fun i j => (0 : K5.C) i j + -1 * g i j) = -g := C.ext fun i j => by rw [C.neg_at, C.zero_at]; omega
section
variable {P : Program} {w : World} {K : PySem.W.Frag} {mg : Str → Option Value} {base : Heap} {C : Addr} {p q : Nat}
def spFN (K : PySem.W.Frag) (C : Addr) (p q : Nat) (F : N4 → N4) : Sp := fun vs H Q _ => ∃ s x z, vs = [s, x] ∧ Flo K C p q H s ∧ Pn K p q H z x ∧ ∀ y H', Same H H' → Pn K p q H' (F z) y → Q y H'
abbrev nLeft : List Str := ["self", "parts", "a", "b", "c", "d", "first", "second", "third"]
theorem scLeft : FnScope nLeft ["self", "parts"] (defScope (inClass (top 73) 7)) := ⟨rfl, rfl, rfl, by decide +kernel, rfl, by decide +kernel, by decide +kernel⟩
theorem fno {d a : Addr} {m : Str} (h : (decide (m = "along") || decide (m = "down") || decide (m = "q") || decide (m = "p")) = false := by decide +kernel) : (fF d a p q).lookup m = none := by
  simp only [Bool.or_eq_false_iff, decide_eq_false_iff_not] at h
  exact fF_no _ _ _ _ h.1.1.1 h.1.1.2 h.1.2 h.2
theorem c_Left (D : DfM K C "left" "Floor.left" (inClass (top 73) 7)) (CB : Met P w K mg base 1 C "blank" (spBlank K C p q)) (CX : Met P w K mg base 1 C "times_x" (spTX K C p q (Xp p))) (CY : Met P w K mg base 1 C "times_y" (spTX K C p q (Yq q))) (CJ : Cal P w K mg base 1 "joined_rows" (spJR K p q)) :
    Met P w K mg base 2 C "left" (spFN K C p q (K5.T (Fl p q))) := by
  refine D.met scLeft (fun _ _ _ _ _ _ us hl => match us, hl with | [_, _], _ => rfl) (fun vs H Q E h => ?_) (fun cdv A outer f s H vs Q E hr h => ?_)
  · obtain ⟨s, x, z, rfl, _⟩ := h
    rfl
  · obtain ⟨s', x, z, rfl, hF, ⟨t, a, b, c, d, rfl, qt, ha, hb, hc, hd⟩, k⟩ := h
    obtain ⟨o, dx, dn, al, rfl, ho, hdn, hal⟩ := id hF
    refine ⟨_, pss_cons (ps_asg (pv 1) (pg_lst rfl (pgs_cons (pg_n 2 scLeft.nd) (pgs_cons (pg_n 3 scLeft.nd) (pgs_cons (pg_n 4 scLeft.nd) (pgs_cons (pg_n 5 scLeft.nd) pgs_nil))))))
      (pss_cons (ps_set (i := 6) scLeft.nd rfl (Or.inl rfl) (pe_c CJ hr (by decide) rfl (pa_cons (pe_mt CX hr (by decide) (pv 0) (pa_cons (pv 4) pa_nil)) (pa_cons (pv 3) (pa_cons (pe_un un_neg pe_int) pa_nil)))))
      (pss_cons (ps_set (i := 7) scLeft.nd rfl (Or.inl rfl) (pe_c CJ hr (by decide) rfl (pa_cons (pe_c CJ hr (by decide) rfl (pa_cons (pv 2) (pa_cons (pe_mt CY hr (by decide) (pv 0) (pa_cons (pv 3) pa_nil)) (pa_cons pe_int pa_nil)))) (pa_cons (pe_mt CX hr (by decide) (pv 0) (pa_cons (pv 5) pa_nil)) (pa_cons pe_int pa_nil)))))
      (pss_cons (ps_set (i := 8) scLeft.nd rfl (Or.inl rfl) (pe_c CJ hr (by decide) rfl (pa_cons (pe_mt CY hr (by decide) (pv 0) (pa_cons (pv 4) pa_nil)) (pa_cons (pv 5) (pa_cons pe_int pa_nil)))))
      (pss_one (ps_ret (pe_lst (pa_cons (pv 6) (pa_cons (pv 7) (pa_cons (pv 8) (pa_cons (pe_c CJ hr (by decide) rfl (pa_cons (pe_mt0 CB hr (by decide) (pv 0)) (pa_cons (pv 4) (pa_cons (pe_un un_neg pe_int) pa_nil)))) pa_nil)))))))))), ?_⟩
    refine ⟨_, rfl, t, _, rfl, qt, rfl, _, _, rfl, _, _, rfl, _, _, rfl, _, _, rfl, rfl, ?_⟩
    refine ⟨_, rfl, o, dx, _, rfl, ho, fno, _, rfl, .ref o, c, z.c, rfl, hF, hc, fun v1 H1 s1 h1 => ?_⟩
    refine ⟨_, rfl, _, rfl, v1, b, _, _, -1, rfl, h1, Mo.pt _ _ _ _ (Le.of s1) hb, by decide, by decide, fun x1 H2 s2 g1 => ?_⟩
    have t2 := Same.trans s1 s2
    rw [jrm] at g1
    refine ⟨_, rfl, _, rfl, o, dx, _, rfl, t2 _ _ ho, fno, _, rfl, .ref o, b, z.b, rfl, hF.le (Le.of t2), Mo.pt _ _ _ _ (Le.of t2) hb, fun v2 H3 s3 h2 => ?_⟩
    have t3 := Same.trans t2 s3
    refine ⟨a, v2, _, _, 1, rfl, Mo.pt _ _ _ _ (Le.of t3) ha, h2, by decide, by decide, fun v3 H4 s4 h3 => ?_⟩
    have t4 := Same.trans t3 s4
    rw [jr1] at h3
    refine ⟨_, rfl, o, dx, _, rfl, t4 _ _ ho, fno, _, rfl, .ref o, d, z.d, rfl, hF.le (Le.of t4), Mo.pt _ _ _ _ (Le.of t4) hd, fun v4 H5 s5 h4 => ?_⟩
    have t5 := Same.trans t4 s5
    refine ⟨v3, v4, _, _, 1, rfl, Mo.pt _ _ _ _ (Le.of s5) h3, h4, by decide, by decide, fun x2 H6 s6 g2 => ?_⟩
    have t6 := Same.trans t5 s6
    rw [jr1] at g2
    refine ⟨_, rfl, o, dx, _, rfl, t6 _ _ ho, fno, _, rfl, .ref o, c, z.c, rfl, hF.le (Le.of t6), Mo.pt _ _ _ _ (Le.of t6) hc, fun v5 H7 s7 h5 => ?_⟩
    have t7 := Same.trans t6 s7
    refine ⟨_, rfl, v5, d, _, _, 1, rfl, h5, Mo.pt _ _ _ _ (Le.of t7) hd, by decide, by decide, fun x3 H8 s8 g3 => ?_⟩
    have t8 := Same.trans t7 s8
    rw [jr1] at g3
    refine ⟨_, rfl, _, rfl, _, rfl, _, rfl, o, dx, _, rfl, t8 _ _ ho, fno, .ref o, rfl, hF.le (Le.of t8), fun b0 rs H9 s9 nb hb0 hrl hrn hrs => ?_⟩
    have t9 := Same.trans t8 s9
    refine ⟨_, rfl, _, rfl, .ref b0, c, 0, z.c, -1, rfl, blank_pt hb0 hrl fun r hr' => (hrs r hr').2, Mo.pt _ _ _ _ (Le.of t9) hc, by decide, by decide, fun x4 H10 s10 g4 => ⟨(by show 4 ≤ sizeLine; decide), fun l nl => ?_⟩⟩
    rw [jr0] at g4
    have s10' := Same.trans s10 (Same.new (o := .lst [x1, x2, x3, x4]) nl)
    have s8' := Same.trans s9 s10'
    have s6' := Same.trans s7 (Same.trans s8 s8')
    have s2' := Same.trans s3 (Same.trans s4 (Same.trans s5 (Same.trans s6 s6')))
    exact k _ _ (Same.trans t2 s2') ⟨l, _, _, _, _, rfl, .of upd_same, Mo.pt _ _ _ _ (Le.of s2') g1, Mo.pt _ _ _ _ (Le.of s6') g2, Mo.pt _ _ _ _ (Le.of s8') g3, Mo.pt _ _ _ _ (Le.new nl) g4⟩
abbrev nRight : List Str := ["self", "parts", "a", "b", "c", "d", "first", "second"]
theorem scRight : FnScope nRight ["self", "parts"] (defScope (inClass (top 73) 8)) := ⟨rfl, rfl, rfl, by decide +kernel, rfl, by decide +kernel, by decide +kernel⟩
theorem jrn (f g : K5.C) : -f - g = -(f + g) := C.ext fun i j => by rw [C.sub_at, C.neg_at, C.neg_at, C.add_at]; omega
theorem c_Right (D : DfM K C "right" "Floor.right" (inClass (top 73) 8)) (CB : Met P w K mg base 1 C "blank" (spBlank K C p q)) (CX : Met P w K mg base 1 C "times_x" (spTX K C p q (Xp p))) (CY : Met P w K mg base 1 C "times_y" (spTX K C p q (Yq q))) (CJ : Cal P w K mg base 1 "joined_rows" (spJR K p q)) :
    Met P w K mg base 2 C "right" (spFN K C p q (R (Fl p q))) := by
  refine D.met scRight (fun _ _ _ _ _ _ us hl => match us, hl with | [_, _], _ => rfl) (fun vs H Q E h => ?_) (fun cdv A outer f s H vs Q E hr h => ?_)
  · obtain ⟨s, x, z, rfl, _⟩ := h
    rfl
  · obtain ⟨s', x, z, rfl, hF, ⟨t, a, b, c, d, rfl, qt, ha, hb, hc, hd⟩, k⟩ := h
    obtain ⟨o, dx, dn, al, rfl, ho, hdn, hal⟩ := id hF
    refine ⟨_, pss_cons (ps_asg (pv 1) (pg_lst rfl (pgs_cons (pg_n 2 scRight.nd) (pgs_cons (pg_n 3 scRight.nd) (pgs_cons (pg_n 4 scRight.nd) (pgs_cons (pg_n 5 scRight.nd) pgs_nil))))))
      (pss_cons (ps_set (i := 6) scRight.nd rfl (Or.inl rfl) (pe_c CJ hr (by decide) rfl (pa_cons (pe_c CJ hr (by decide) rfl (pa_cons (pe_mt CY hr (by decide) (pv 0) (pa_cons (pv 2) pa_nil)) (pa_cons (pv 3) (pa_cons pe_int pa_nil)))) (pa_cons (pe_mt CX hr (by decide) (pv 0) (pa_cons (pv 4) pa_nil)) (pa_cons (pe_un un_neg pe_int) pa_nil)))))
      (pss_cons (ps_set (i := 7) scRight.nd rfl (Or.inl rfl) (pe_c CJ hr (by decide) rfl (pa_cons (pe_c CJ hr (by decide) rfl (pa_cons (pe_mt0 CB hr (by decide) (pv 0)) (pa_cons (pv 2) (pa_cons (pe_un un_neg pe_int) pa_nil)))) (pa_cons (pe_mt CX hr (by decide) (pv 0) (pa_cons (pv 5) pa_nil)) (pa_cons (pe_un un_neg pe_int) pa_nil)))))
      (pss_one (ps_ret (pe_lst (pa_cons (pv 6) (pa_cons (pv 7) (pa_cons (pe_c CJ hr (by decide) rfl (pa_cons (pe_mt0 CB hr (by decide) (pv 0)) (pa_cons (pv 5) (pa_cons (pe_un un_neg pe_int) pa_nil)))) (pa_cons (pe_c CJ hr (by decide) rfl (pa_cons (pv 4) (pa_cons (pe_mt CY hr (by decide) (pv 0) (pa_cons (pv 5) pa_nil)) (pa_cons pe_int pa_nil)))) pa_nil))))))))), ?_⟩
    refine ⟨_, rfl, t, _, rfl, qt, rfl, _, _, rfl, _, _, rfl, _, _, rfl, _, _, rfl, rfl, ?_⟩
    refine ⟨_, rfl, o, dx, _, rfl, ho, fno, _, rfl, .ref o, a, z.a, rfl, hF, ha, fun v1 H1 s1 h1 => ?_⟩
    refine ⟨_, rfl, v1, b, _, _, 1, rfl, h1, Mo.pt _ _ _ _ (Le.of s1) hb, by decide, by decide, fun v2 H2 s2 h2 => ?_⟩
    have t2 := Same.trans s1 s2
    rw [jr1] at h2
    refine ⟨_, rfl, o, dx, _, rfl, t2 _ _ ho, fno, _, rfl, .ref o, c, z.c, rfl, hF.le (Le.of t2), Mo.pt _ _ _ _ (Le.of t2) hc, fun v3 H3 s3 h3 => ?_⟩
    have t3 := Same.trans t2 s3
    refine ⟨_, rfl, v2, v3, _, _, -1, rfl, Mo.pt _ _ _ _ (Le.of s3) h2, h3, by decide, by decide, fun x1 H4 s4 g1 => ?_⟩
    have t4 := Same.trans t3 s4
    rw [jrm] at g1
    refine ⟨_, rfl, o, dx, _, rfl, t4 _ _ ho, fno, .ref o, rfl, hF.le (Le.of t4), fun b0 rs H5 s5 nb hb0 hrl hrn hrs => ?_⟩
    have t5 := Same.trans t4 s5
    refine ⟨_, rfl, _, rfl, .ref b0, a, 0, z.a, -1, rfl, blank_pt hb0 hrl fun r hr' => (hrs r hr').2, Mo.pt _ _ _ _ (Le.of t5) ha, by decide, by decide, fun v4 H6 s6 h4 => ?_⟩
    have t6 := Same.trans t5 s6
    rw [jr0] at h4
    refine ⟨_, rfl, o, dx, _, rfl, t6 _ _ ho, fno, _, rfl, .ref o, d, z.d, rfl, hF.le (Le.of t6), Mo.pt _ _ _ _ (Le.of t6) hd, fun v5 H7 s7 h5 => ?_⟩
    have t7 := Same.trans t6 s7
    refine ⟨_, rfl, v4, v5, _, _, -1, rfl, Mo.pt _ _ _ _ (Le.of s7) h4, h5, by decide, by decide, fun x2 H8 s8 g2 => ?_⟩
    have t8 := Same.trans t7 s8
    rw [jrm, jrn] at g2
    refine ⟨_, rfl, _, rfl, _, rfl, o, dx, _, rfl, t8 _ _ ho, fno, .ref o, rfl, hF.le (Le.of t8), fun b1 rs1 H9 s9 nb1 hb1 hrl1 hrn1 hrs1 => ?_⟩
    have t9 := Same.trans t8 s9
    refine ⟨_, rfl, _, rfl, .ref b1, d, 0, z.d, -1, rfl, blank_pt hb1 hrl1 fun r hr' => (hrs1 r hr').2, Mo.pt _ _ _ _ (Le.of t9) hd, by decide, by decide, fun x3 H10 s10 g3 => ?_⟩
    have t10 := Same.trans t9 s10
    rw [jr0] at g3
    refine ⟨_, rfl, _, rfl, o, dx, _, rfl, t10 _ _ ho, fno, _, rfl, .ref o, d, z.d, rfl, hF.le (Le.of t10), Mo.pt _ _ _ _ (Le.of t10) hd, fun v6 H11 s11 h6 => ?_⟩
    have t11 := Same.trans t10 s11
    refine ⟨c, v6, _, _, 1, rfl, Mo.pt _ _ _ _ (Le.of t11) hc, h6, by decide, by decide, fun x4 H12 s12 g4 => ⟨(by show 4 ≤ sizeLine; decide), fun l nl => ?_⟩⟩
    rw [jr1] at g4
    have e12 := Same.new (o := .lst [x1, x2, x3, x4]) nl
    have e10 := Same.trans s11 (Same.trans s12 e12)
    have e8 := Same.trans s9 (Same.trans s10 e10)
    have e4 := Same.trans s5 (Same.trans s6 (Same.trans s7 (Same.trans s8 e8)))
    exact k _ _ (Same.trans t4 e4) ⟨l, _, _, _, _, rfl, .of upd_same, Mo.pt _ _ _ _ (Le.of e4) g1, Mo.pt _ _ _ _ (Le.of e8) g2, Mo.pt _ _ _ _ (Le.of e10) g3, Mo.pt _ _ _ _ (Le.of e12) g4⟩
abbrev nAcross : List Str := ["self", "parts", "a", "b", "c", "d"]
theorem scAcross : FnScope nAcross ["self", "parts"] (defScope (inClass (top 73) 9)) := ⟨rfl, rfl, rfl, by decide +kernel, rfl, by decide +kernel, by decide +kernel⟩
theorem c_Across (D : DfM K C "across" "Floor.across" (inClass (top 73) 9)) (CB : Met P w K mg base 1 C "blank" (spBlank K C p q)) (CJ : Cal P w K mg base 1 "joined_rows" (spJR K p q)) : Met P w K mg base 2 C "across" (spFN K C p q G) := by
  refine D.met scAcross (fun _ _ _ _ _ _ us hl => match us, hl with | [_, _], _ => rfl) (fun vs H Q E h => ?_) (fun cdv A outer f s H vs Q E hr h => ?_)
  · obtain ⟨s, x, z, rfl, _⟩ := h
    rfl
  · obtain ⟨s', x, z, rfl, hF, ⟨t, a, b, c, d, rfl, qt, ha, hb, hc, hd⟩, k⟩ := h
    obtain ⟨o, dx, dn, al, rfl, ho, hdn, hal⟩ := id hF
    refine ⟨_, pss_cons (ps_asg (pv 1) (pg_lst rfl (pgs_cons (pg_n 2 scAcross.nd) (pgs_cons (pg_n 3 scAcross.nd) (pgs_cons (pg_n 4 scAcross.nd) (pgs_cons (pg_n 5 scAcross.nd) pgs_nil))))))
      (pss_one (ps_ret (pe_lst (pa_cons (pe_c CJ hr (by decide) rfl (pa_cons (pe_mt0 CB hr (by decide) (pv 0)) (pa_cons (pv 4) (pa_cons (pe_un un_neg pe_int) pa_nil)))) (pa_cons (pe_c CJ hr (by decide) rfl (pa_cons (pe_mt0 CB hr (by decide) (pv 0)) (pa_cons (pv 5) (pa_cons (pe_un un_neg pe_int) pa_nil)))) (pa_cons (pv 2) (pa_cons (pv 3) pa_nil))))))), ?_⟩
    refine ⟨_, rfl, t, _, rfl, qt, rfl, _, _, rfl, _, _, rfl, _, _, rfl, _, _, rfl, rfl, ?_⟩
    refine ⟨_, rfl, o, dx, _, rfl, ho, fno, .ref o, rfl, hF, fun b0 rs H1 s1 nb hb0 hrl hrn hrs => ?_⟩
    refine ⟨_, rfl, _, rfl, .ref b0, c, 0, z.c, -1, rfl, blank_pt hb0 hrl fun r hr' => (hrs r hr').2, Mo.pt _ _ _ _ (Le.of s1) hc, by decide, by decide, fun x1 H2 s2 g1 => ?_⟩
    have t2 := Same.trans s1 s2
    rw [jr0] at g1
    refine ⟨_, rfl, o, dx, _, rfl, t2 _ _ ho, fno, .ref o, rfl, hF.le (Le.of t2), fun b1 rs1 H3 s3 nb1 hb1 hrl1 hrn1 hrs1 => ?_⟩
    have t3 := Same.trans t2 s3
    refine ⟨_, rfl, _, rfl, .ref b1, d, 0, z.d, -1, rfl, blank_pt hb1 hrl1 fun r hr' => (hrs1 r hr').2, Mo.pt _ _ _ _ (Le.of t3) hd, by decide, by decide, fun x2 H4 s4 g2 => ?_⟩
    rw [jr0] at g2
    refine ⟨_, rfl, _, rfl, (by show 4 ≤ sizeLine; decide), fun l nl => ?_⟩
    have e4 := Same.new (o := .lst [x1, x2, a, b]) nl
    have e2 := Same.trans s3 (Same.trans s4 e4)
    have e0 := Same.trans t2 e2
    exact k _ _ e0 ⟨l, _, _, _, _, rfl, .of upd_same, Mo.pt _ _ _ _ (Le.of e2) g1, Mo.pt _ _ _ _ (Le.of e4) g2, Mo.pt _ _ _ _ (Le.of e0) ha, Mo.pt _ _ _ _ (Le.of e0) hb⟩
end
end W5
set_option maxHeartbeats 8000000
/-! W5O5: Floor.turned, walked, same, different. -/
namespace W5
open PySem L2 K5
section
variable {P : Program} {w : World} {K : PySem.W.Frag} {mg : Str → Option Value} {base : Heap} {C CW aK aP : Addr} {p q : Nat}
def spFTurned (K : PySem.W.Frag) (C : Addr) (p q : Nat) : Sp := fun vs H Q _ => ∃ s x z, ∃ k : Int, vs = [s, x, .int k] ∧ Flo K C p q H s ∧ Pn K p q H z x ∧ Box p q z ∧ ∀ y H', Same H H' → Pn K p q H' (turnK (Fl p q) k z) y → Q y H'
abbrev nFTurned : List Str := ["self", "parts", "k", "count"]
theorem scFTurned : FnScope nFTurned ["self", "parts", "k"] (defScope (inClass (top 73) 10)) := ⟨rfl, rfl, rfl, by decide +kernel, rfl, by decide +kernel, by decide +kernel⟩
theorem c_FTurned (hp1 : 3 ≤ p) (hq1 : 3 ≤ q) (hp : p ≤ 60) (hq : q ≤ 60) (D : DfM K C "turned" "Floor.turned" (inClass (top 73) 10)) (T : Bn mg) (L : LC K mg C) (CL : Met P w K mg base 2 C "left" (spFN K C p q (K5.T (Fl p q)))) (CR : Met P w K mg base 2 C "right" (spFN K C p q (R (Fl p q)))) :
    Met P w K mg base 3 C "turned" (spFTurned K C p q) := by
  refine D.met scFTurned (fun _ _ _ _ _ _ us hl => match us, hl with | [_, _, _], _ => rfl) (fun vs H Q E h => ?_) (fun cdv A outer f s H vs Q E hr h => ?_)
  · obtain ⟨s, x, z, k, rfl, _⟩ := h
    rfl
  · obtain ⟨s', x, z, kk, rfl, hF, hz, hB, k⟩ := h
    obtain ⟨o, dx, dn, al, rfl, ho, hdn, hal⟩ := id hF
    refine ⟨_, pss_cons (ps_set (i := 2) scFTurned.nd rfl (Or.inl rfl) (pe_op op_modN (pv 2) (pe_op op_mul pe_int (pe_fld (pv 0) rfl))))
      (pss_cons (ps_if (pt_cmpR op_gt (pv 2) (pe_fld (pv 0) rfl) (nomark _))
        (pss_cons (ps_for PassesOwn.never rfl (pi_range1 rfl T.brange (pa_cons (pe_op op_sub (pe_op op_mul pe_int (pe_fld (pv 0) rfl)) (pv 2)) pa_nil)) (pg_n 3 scFTurned.nd) (pss_one (ps_set (i := 1) scFTurned.nd rfl (Or.inl rfl) (pe_mt CR hr (by decide) (pv 0) (pa_cons (pv 1) pa_nil))))) (pss_one (ps_ret (pv 1)))) pss_nil)
      (pss_cons (ps_for PassesOwn.never rfl (pi_range1 rfl T.brange (pa_cons (pv 2) pa_nil)) (pg_n 3 scFTurned.nd) (pss_one (ps_set (i := 1) scFTurned.nd rfl (Or.inl rfl) (pe_mt CL hr (by decide) (pv 0) (pa_cons (pv 1) pa_nil)))))
      (pss_one (ps_ret (pv 1))))), ?_⟩
    refine ⟨_, rfl, _, rfl, o, C, dx, _, _, rfl, ho, L.cl, L.nQ, fF_q _ _ _ _, _, _, rfl, rfl, .inl (by decide), _, _, rfl, rfl, by omega, ?_⟩
    have ef : kk.fmod (2 * (q : Int)) = kk % (2 * (q : Int)) := Int.fmod_eq_emod_of_nonneg _ (by omega)
    have h0 := Int.emod_nonneg kk (show (2 * (q : Int)) ≠ 0 by omega)
    have h1 := Int.emod_lt_of_pos kk (show (0 : Int) < 2 * (q : Int) by omega)
    have hM := turnM_eq (p := p) (q := q) (by omega) (by omega) kk hB
    unfold turnM at hM
    rw [← ef] at h0 h1 hM
    refine ⟨_, rfl, _, rfl, o, C, dx, _, _, rfl, ho, L.cl, L.nQ, fF_q _ _ _ _, _, _, rfl, rfl, _, rfl, ?_⟩
    by_cases hgt : kk.fmod (2 * (q : Int)) > (q : Int)
    · rw [if_pos hgt] at hM
      refine iteDT hgt ?_
      refine ⟨_, rfl, o, C, dx, _, _, rfl, ho, L.cl, L.nQ, fF_q _ _ _ _, _, _, rfl, rfl, .inl (by decide), _, rfl, _, _, rfl, rfl, _, rfl, by omega, by omega, ?_⟩
      refine for_it walk_range (fun i σ H1 => ∃ v y, σ = [some (.ref o), some v, some (.int (kk.fmod (2 * (q : Int)))), y] ∧ Same H H1 ∧ Pn K p q H1 (Rn (Fl p q) i z) v) ⟨x, none, rfl, Same.refl H, hz⟩ (fun _ _ _ _ _ => trivial) ?_ ?_
      · rintro i x' σ _ H1 hi ⟨v, y, rfl, s1, hv⟩ ⟨rfl, rfl⟩
        refine ⟨_, rfl, o, dx, _, rfl, s1 _ _ ho, fno, _, rfl, .ref o, v, _, rfl, hF.le (Le.of s1), hv, fun v' H2 s2 h2 => ⟨v', _, rfl, Same.trans s1 s2, ?_⟩⟩
        rw [Rn_succ]
        exact h2
      · rintro σ H1 ⟨v, y, rfl, s1, hv⟩
        refine ⟨_, rfl, k v H1 s1 ?_⟩
        rw [← hM]
        exact hv
    · rw [if_neg hgt] at hM
      refine iteDF hgt ?_
      refine ⟨_, rfl, _, rfl, by omega, by omega, ?_⟩
      refine for_it walk_range (fun i σ H1 => ∃ v y, σ = [some (.ref o), some v, some (.int (kk.fmod (2 * (q : Int)))), y] ∧ Same H H1 ∧ Pn K p q H1 (Tn (Fl p q) i z) v) ⟨x, none, rfl, Same.refl H, hz⟩ (fun _ _ _ _ _ => trivial) ?_ ?_
      · rintro i x' σ _ H1 hi ⟨v, y, rfl, s1, hv⟩ ⟨rfl, rfl⟩
        refine ⟨_, rfl, o, dx, _, rfl, s1 _ _ ho, fno, _, rfl, .ref o, v, _, rfl, hF.le (Le.of s1), hv, fun v' H2 s2 h2 => ⟨v', _, rfl, Same.trans s1 s2, ?_⟩⟩
        rw [Tn_succ]
        exact h2
      · rintro σ H1 ⟨v, y, rfl, s1, hv⟩
        refine ⟨_, rfl, k v H1 s1 ?_⟩
        rw [← hM]
        exact hv
def spWalked (K : PySem.W.Frag) (C CW : Addr) (p q : Nat) : Sp := fun vs H Q _ => ∃ s x y z u, vs = [s, x, y] ∧ Flo K C p q H s ∧ Pn K p q H z x ∧ Box p q z ∧ Wk K CW H u y ∧ u ≠ [] ∧ u.length ≤ 900 ∧ ∀ v H', Same H H' → Pn K p q H' (act (Fl p q) u z) v → Q v H'
abbrev nWalked : List Str := ["self", "parts", "walk", "k"]
theorem scWalked : FnScope nWalked ["self", "parts", "walk"] (defScope (inClass (top 73) 11)) := ⟨rfl, rfl, rfl, by decide +kernel, rfl, by decide +kernel, by decide +kernel⟩
theorem c_Walked (hp1 : 3 ≤ p) (hq1 : 3 ≤ q) (D : DfM K C "walked" "Floor.walked" (inClass (top 73) 11)) (W : WC K CW) (CT : Met P w K mg base 3 C "turned" (spFTurned K C p q)) (CX : Met P w K mg base 2 C "across" (spFN K C p q G)) : Met P w K mg base 4 C "walked" (spWalked K C CW p q) := by
  refine D.met scWalked (fun _ _ _ _ _ _ us hl => match us, hl with | [_, _, _], _ => rfl) (fun vs H Q E h => ?_) (fun cdv A outer f s H vs Q E hr h => ?_)
  · obtain ⟨s, x, y, z, u, rfl, _⟩ := h
    rfl
  · obtain ⟨s', x, y, z, u, rfl, hF, hz, hB, hy, hu, hul, k⟩ := h
    obtain ⟨o, dx, dn, al, rfl, ho, hdn, hal⟩ := id hF
    obtain ⟨b, dy, t, rfl, hb, ht⟩ := hy
    obtain ⟨k0, u', rfl⟩ := List.exists_cons_of_ne_nil hu
    refine ⟨_, pss_cons (ps_set (i := 1) scWalked.nd rfl (Or.inl rfl) (pe_mt CT hr (by decide) (pv 0) (pa_cons (pv 1) (pa_cons (pe_ix ix_tup (pe_fld (pv 2) rfl) pe_int (fun _ _ => rfl)) pa_nil))))
      (pss_cons (ps_for PassesOwn.never rfl (pi_tup (pe_slice sl_tupA (pe_fld (pv 2) rfl) (po_some pe_int) po_none)) (pg_n 3 scWalked.nd)
        (pss_one (ps_set (i := 1) scWalked.nd rfl (Or.inl rfl) (pe_mt CT hr (by decide) (pv 0) (pa_cons (pe_mt CX hr (by decide) (pv 0) (pa_cons (pv 1) pa_nil)) (pa_cons (pv 3) pa_nil))))))
      (pss_one (ps_ret (pv 1)))), ?_⟩
    refine ⟨_, rfl, o, dx, _, rfl, ho, fno, _, rfl, _, rfl, b, CW, dy, _, _, rfl, hb, W.cl, W.nT, wF_turns _ _, t, _, 0, .int k0, rfl, rfl, ht, atI_nat (j := 0) rfl, .ref o, x, z, k0, rfl, hF, hz, hB, fun v1 H1 s1 h1 => ?_⟩
    refine ⟨_, rfl, b, CW, dy, _, _, rfl, s1 _ _ hb, W.cl, W.nT, wF_turns _ _, _, rfl, ?_⟩
    unfold tNoPart
    refine slA_of (Same.sT s1 ht) fun t2 H2 s2 h2 => ?_
    rw [cutV_tail] at h2
    have e2 : ((k0 :: u').map V.int).drop 1 = u'.map V.int := rfl
    rw [e2] at h2
    have s12 := Same.trans s1 s2
    refine ⟨t2, rfl, ⟨_, h2⟩, ?_⟩
    refine for_it (walk_tup (xs := u'.map V.int)) (fun i σ H3 => ∃ v y, σ = [some (.ref o), some v, some (.ref b), y] ∧ Same H2 H3 ∧ Pn K p q H3 (act (Fl p q) (k0 :: u'.take i) z) v) ⟨v1, none, rfl, Same.refl H2, Mo.pn _ _ _ _ (Le.of s2) h1⟩ (fun i σ H3 _ ⟨_, _, _, s3, _⟩ => Same.sT s3 h2) ?_ ?_
    · rintro i v σ _ H3 hi ⟨v3, y, rfl, s3, h3⟩ ⟨rfl, hv⟩
      rw [List.length_map] at hi
      rw [List.getElem?_map, List.getElem?_eq_getElem hi] at hv
      cases hv
      have t3 := Same.trans s12 s3
      have et : u'.take (i + 1) = u'.take i ++ [u'[i]] := (List.take_append_getElem hi).symm
      refine ⟨_, rfl, o, dx, _, rfl, t3 _ _ ho, fno, _, rfl, o, dx, _, rfl, t3 _ _ ho, fno, _, rfl, .ref o, v3, _, rfl, hF.le (Le.of t3), h3, fun v4 H4 s4 h4 => ?_⟩
      refine ⟨_, rfl, .ref o, v4, _, u'[i], rfl, hF.le (Le.of (Same.trans t3 s4)), h4, box_G (box_act (by omega) (by omega) _ hB), fun v5 H5 s5 h5 => ⟨v5, _, rfl, Same.trans s3 (Same.trans s4 s5), ?_⟩⟩
      rw [et, ← List.cons_append, act_snoc _ (by simp)]
      exact h5
    · rintro σ H3 ⟨v3, y, rfl, s3, h3⟩
      rw [List.length_map, List.take_length] at h3
      exact ⟨_, rfl, k v3 H3 (Same.trans s12 s3) h3⟩
/-! ### Floor.same -/
def spFSame (K : PySem.W.Frag) (C CW : Addr) (p q : Nat) : Sp := fun vs H Q _ => ∃ k : K5.Kind, ∃ s x y u v, vs = [s, .str (kS k), x, y] ∧ Flo K C p q H s ∧ Wk K CW H u x ∧ Wk K CW H v y ∧ u ≠ [] ∧ v ≠ [] ∧ u.length + v.length ≤ 800 ∧ ∀ b H', Same H H' → (b = true ↔ Same5 p q k u v) → Q (.bl b) H'
abbrev nFSame : List Str := ["self", "kind", "first", "second", "parts"]
theorem scFSame : FnScope nFSame ["self", "kind", "first", "second"] (defScope (inClass (top 73) 13)) := ⟨rfl, rfl, rfl, by decide +kernel, rfl, by decide +kernel, by decide +kernel⟩
theorem c_FSame (hp1 : 3 ≤ p) (hq1 : 3 ≤ q) (D : DfM K C "same" "Floor.same" (inClass (top 73) 13)) (M : SM K w mg aK aP) (hsf : PySem.W.selfFirst K CW = true) (CA : Met P w K mg base 3 CW "__add__" (spAdd K CW)) (CN : Met P w K mg base 3 CW "__neg__" (spNeg K CW)) (CS : Met P w K mg base 2 C "start" (spStart K C p q)) (CK : Met P w K mg base 4 C "walked" (spWalked K C CW p q)) (CV : Cal P w K mg base 1 "vanish" (spVan K p q)) :
    Met P w K mg base 5 C "same" (spFSame K C CW p q) := by
  refine D.met scFSame (fun _ _ _ _ _ _ us hl => match us, hl with | [_, _, _, _], _ => rfl) (fun vs H Q E h => ?_) (fun cdv A outer f s H vs Q E hr h => ?_)
  · obtain ⟨k, s, x, y, u, v, rfl, _⟩ := h
    rfl
  · obtain ⟨kd, s', x, y, u, v, rfl, hF, hx, hy, hu, hv, hl, k⟩ := h
    obtain ⟨o, dx, dn, al, rfl, ho, hdn, hal⟩ := id hF
    obtain ⟨es, n, DP⟩ := M.dP
    refine ⟨_, pss_cons (ps_if (pt_cmpR op_notIn_seq (pv 1) (pe_glob rfl M.mK (rvr aK)) (by rfl)) pss_never pss_nil)
      (pss_cons (ps_set (i := 4) scFSame.nd rfl (Or.inl rfl) (pe_mt CK hr (by decide) (pv 0) (pa_cons (pe_mt0 CS hr (by decide) (pv 0)) (pa_cons (pe_op (op_own CA hr (by decide) hsf rfl) (pe_un (un_own_neg CN hr (by decide)) (pv 2)) (pv 3)) pa_nil))))
      (pss_one (ps_ret (pe_c CV hr (by decide) rfl (pa_cons (pv 4) (pa_cons (pe_kdget DP (pe_glob rfl M.mP (rvr aP)) (pv 1) (fun _ _ => rfl)) pa_nil)))))), ?_⟩
    refine ⟨_, rfl, aK, kinds, rfl, .inr (M.tK _), rfl, kinds_flat, _, rfl, ?_⟩
    rw [kinds_has]
    refine iteF (A := False) ?_
    refine ⟨_, rfl, o, dx, _, rfl, ho, fno, _, rfl, o, dx, _, rfl, ho, fno, .ref o, rfl, hF, fun v0 H0 s0 h0 => ?_⟩
    obtain ⟨a, dxa, t, rfl, h1, h2⟩ := id hx
    refine ⟨_, rfl, a, dxa, _, rfl, s0 _ _ h1, .ref a, u, rfl, Mo.wk _ _ _ _ (Le.of s0) hx, by omega, fun z1 H1 s1 hz => ?_⟩
    have t1 := Same.trans s0 s1
    obtain ⟨b, dy, r, rfl, g1, g2⟩ := id hy
    obtain ⟨c, dz, q', rfl, f1, f2⟩ := id hz
    refine ⟨_, rfl, c, b, dz, dy, _, _, rfl, rfl, f1, t1 _ _ g1, .ref c, .ref b, wneg u, v, rfl, hz, Mo.wk _ _ _ _ (Le.of t1) hy, wneg_ne hu, hv, by rw [wneg_length]; omega, fun z2 H2 s2 hz2 => ?_⟩
    have t2 := Same.trans t1 s2
    obtain ⟨e, de, et, rfl, e1, e2⟩ := id hz2
    refine ⟨⟨e, rfl⟩, ?_⟩
    have hcl := cat_len (u := wneg u) (v := v) (wneg_ne hu) hv
    rw [wneg_length] at hcl
    refine ⟨.ref o, v0, .ref e, K5.one, cat (wneg u) v, rfl, hF.le (Le.of t2), Mo.pn _ _ _ _ (Le.of (Same.trans s1 s2)) h0, box_one (by omega) (by omega), hz2, cat_ne (wneg_ne hu), by omega, fun v3 H3 s3 h3 => ?_⟩
    obtain ⟨tk, k1, k2⟩ := M.pP kd
    refine ⟨_, rfl, _, rfl, kS kd, .ref tk, .ref tk, rfl, rfl, k1, rfl, ?_⟩
    exact ⟨kd, v3, tk, _, rfl, h3, box_act (by omega) (by omega) _ (box_one (by omega) (by omega)), k2 _, fun bb H4 s4 hb => k bb H4 (Same.trans t2 (Same.trans s3 s4)) hb⟩
/-! ### Floor.different -/
noncomputable def sB (p q : Nat) (k : K5.Kind) (u v : List Int) : Bool := @decide (Same5 p q k u v) (Classical.propDecidable _)
def keepD (S : List Int → List Int → Bool) (kept : List (List Int)) (us : List (List Int)) : List (List Int) := us.foldl (fun kept u => if kept.any fun e => S e u then kept else kept ++ [u]) kept
theorem keepD_len (S : List Int → List Int → Bool) : ∀ (us kept : List (List Int)), (keepD S kept us).length ≤ kept.length + us.length
  | [], kept => by simp [keepD]
  | u :: us, kept => by
    show (keepD S (if kept.any fun e => S e u then kept else kept ++ [u]) us).length ≤ _
    rw [List.length_cons]
    by_cases h : (kept.any fun e => S e u) = true
    · rw [if_pos h]
      have := keepD_len S us kept
      omega
    · rw [if_neg h]
      have := keepD_len S us (kept ++ [u])
      rw [List.length_append, List.length_singleton] at this
      omega
theorem keepD_mem (S : List Int → List Int → Bool) : ∀ (us kept : List (List Int)) (x : List Int), x ∈ keepD S kept us → x ∈ kept ∨ x ∈ us
  | [], kept, x, h => .inl h
  | u :: us, kept, x, h => by
    have h' : x ∈ keepD S (if kept.any fun e => S e u then kept else kept ++ [u]) us := h
    rcases keepD_mem S us _ x h' with h2 | h2
    · split at h2
      · exact .inl h2
      · rcases List.mem_append.mp h2 with h3 | h3
        · exact .inl h3
        · exact .inr (by simp at h3; simp [h3])
    · exact .inr (by simp [h2])
def spDiff (K : PySem.W.Frag) (C CW : Addr) (p q : Nat) : Sp := fun vs H Q _ => ∃ k : K5.Kind, ∃ s x us, vs = [s, .str (kS k), x] ∧ Flo K C p q H s ∧ Ls K (Wk K CW) H us x ∧ us.length ≤ 100 ∧ (∀ u ∈ us, u ≠ [] ∧ u.length ≤ 400) ∧ ∀ H', Same H H' → Q (.int (keepD (sB p q k) [] us).length) H'
abbrev nDiff : List Str := ["self", "kind", "walks", "kept", "walk", "elder"]
theorem scDiff : FnScope nDiff ["self", "kind", "walks"] (defScope (inClass (top 73) 16)) := ⟨rfl, rfl, rfl, by decide +kernel, rfl, by decide +kernel, by decide +kernel⟩
theorem c_Diff (D : DfM K C "different" "Floor.different" (inClass (top 73) 16)) (T : Bn mg) (M : SM K w mg aK aP) (CS : Met P w K mg base 5 C "same" (spFSame K C CW p q)) : Met P w K mg base 6 C "different" (spDiff K C CW p q) := by
  refine D.met scDiff (fun _ _ _ _ _ _ us hl => match us, hl with | [_, _, _], _ => rfl) (fun vs H Q E h => ?_) (fun cdv A outer f s H vs Q E hr h => ?_)
  · obtain ⟨k, s, x, us, rfl, _⟩ := h
    rfl
  · obtain ⟨kd, s', x, us, rfl, hF, ⟨a, ws, rfl, qa, pa⟩, hul, huo, k⟩ := h
    obtain ⟨o, dx, dn, al, rfl, ho, hdn, hal⟩ := id hF
    have lw := pa.length
    refine ⟨_, pss_cons (ps_if (pt_cmpR op_notIn_seq (pv 1) (pe_glob rfl M.mK (rvr aK)) (by rfl)) pss_never pss_nil)
      (pss_cons (ps_set (i := 3) scDiff.nd rfl (Or.inl rfl) (pe_lst pa_nil))
      (pss_cons (ps_for PassesOwn.never rfl (pi_list (pv 2)) (pg_n 4 scDiff.nd)
        (pss_one (ps_if (pt_not (pt_val (pe_callB (cr_any rfl) (by rfl) T.bany (by decide +kernel) (pa_cons (pe_lcA [("elder", 5)] rfl scDiff.nd (pi_list (pv 3)) (blkOk_by (N := nDiff) (sc := defScope (inClass (top 73) 16)) (by decide +kernel)) (fun _ _ _ _ _ => pg_n 5 scDiff.nd)) pa_nil)))) (pss_one (ps_expr (pe_bm PySem.F.plainAttrs_list PySem.F.slot_list_append PySem.F.type_list_append mt_append (pv 3) (pa_cons (pv 4) pa_nil)))) pss_nil)))
      (pss_one (ps_ret (pe_callB call_len_seq (by rfl) T.blen PySem.boot_len (pa_cons (pv 3) pa_nil)))))), ?_⟩
    refine ⟨_, rfl, aK, kinds, rfl, .inr (M.tK _), rfl, kinds_flat, _, rfl, ?_⟩
    rw [kinds_has]
    refine iteF (A := False) ?_
    refine ⟨(by show 0 ≤ sizeLine; decide), fun R nR => ?_⟩
    refine ⟨_, rfl, a, rfl, ⟨_, Same.sL (Same.new nR) qa⟩, ?_⟩
    refine for_it (walk_list (xs := ws)) (fun i σ H1 => ∃ y, σ = [some (.ref o), some (.str (kS kd)), some (.ref a), some (.ref R), y, none] ∧ Same H H1 ∧ ∃ vs', H1 R = some (.lst vs') ∧ Paired (Wk K CW H) (keepD (sB p q kd) [] (us.take i)) vs')
      ⟨none, rfl, Same.new nR, [], upd_same, .nil⟩ (fun i σ H1 _ ⟨_, _, s1, _⟩ => Same.sL s1 qa) ?_ ?_
    · rintro i v σ _ H1 hi ⟨y, rfl, s1, vs', hR1, hpv⟩ ⟨rfl, hv⟩
      obtain ⟨u, hu, hw⟩ := Paired.getR pa hv
      have hum := List.mem_of_getElem? hu
      have et : us.take (i + 1) = us.take i ++ [u] := by rw [List.take_succ, hu]; rfl
      have ek : keepD (sB p q kd) [] (us.take (i + 1)) = if (keepD (sB p q kd) [] (us.take i)).any fun e => sB p q kd e u then keepD (sB p q kd) [] (us.take i) else keepD (sB p q kd) [] (us.take i) ++ [u] := by
        rw [et]
        unfold keepD
        rw [List.foldl_append]
        rfl
      have hkl := keepD_len (sB p q kd) (us.take i) []
      have hvl := hpv.length
      rw [List.length_take] at hkl
      simp only [List.length_nil] at hkl
      refine ⟨[some (.ref o), some (.str (kS kd)), some (.ref a), some (.ref R), some v, none], rfl, _, rfl, R, rfl, ⟨_, .of hR1⟩, fun D2 nD2 => ?_⟩
      refine lc_L (walk_list (xs := vs')) (Rs := Wk K CW) (pmap hpv fun _ _ r => Mo.wk _ _ _ _ (Le.of s1) r) Bv (fun e => sB p q kd e u) Mo.b nD2 (lsz (m := 1000) (by omega)) (fun _ s => .of (s _ _ hR1)) (fun _ => rfl) ?_ ?_
      · intro e ve Hx he hwe sx Q2 hQ2 s' H0' C' cl fp
        refine ⟨_, pe_mt CS hr (by decide) (pv 0) (pa_cons (pv 1) (pa_cons (pv 5) (pa_cons (pv 4) pa_nil))), ?_⟩
        have t1 := Same.trans s1 sx
        have hem : e ∈ us := by
          rcases keepD_mem _ _ _ _ he with h | h
          · cases h
          · exact List.mem_of_mem_take h
        have := huo e hem
        have := huo u hum
        refine ⟨_, rfl, o, dx, _, rfl, t1 _ _ ho, fno, _, rfl, _, rfl, _, rfl, kd, .ref o, ve, v, e, u, rfl, hF.le (Le.of t1), Mo.wk _ _ _ _ (Le.of sx) hwe, Mo.wk _ _ _ _ (Le.of t1) hw, (huo e hem).1, (huo u hum).1, by omega, fun b H2 s2 hb => hQ2 _ _ s2 ?_⟩
        show V.bl b = V.bl _
        congr 1
        unfold sB
        rw [Bool.eq_iff_iff, hb, @decide_eq_true_iff _ (Classical.propDecidable _)]
      · intro H2 bs s2 hD2 hp2
        have := Paired.bV hp2
        subst this
        have t2 := Same.trans s1 s2
        have hR2 := s2 _ _ hR1
        refine ⟨D2, _, rfl, .of hD2, _, rfl, ?_⟩
        rw [List.any_map]
        cases ha : (keepD (sB p q kd) [] (us.take i)).any (id ∘ fun e => sB p q kd e u) with
        | true =>
          refine iteF (A := True) ?_
          have ha' : ((keepD (sB p q kd) [] (us.take i)).any fun e => sB p q kd e u) = true := ha
          refine ⟨_, rfl, t2, vs', hR2, ?_⟩
          rw [ek, if_pos ha']
          exact hpv
        | false =>
          refine iteT (B := True) ?_
          have ha' : ¬ ((keepD (sB p q kd) [] (us.take i)).any fun e => sB p q kd e u) = true := by
            intro h
            have : (keepD (sB p q kd) [] (us.take i)).any (id ∘ fun e => sB p q kd e u) = true := h
            rw [ha] at this
            cases this
          refine ⟨_, rfl, .inl ⟨rfl, _, .of hR2⟩, _, rfl, R, _, _, rfl, rfl, hR2, Nat.lt_of_le_of_lt (m := 1000) (by omega) (by decide), ?_⟩
          refine ⟨_, rfl, Same.upd t2 nR, _, upd_same, ?_⟩
          rw [ek, if_neg ha']
          exact Paired.append hpv (.cons hw .nil)
    · rintro σ H1 ⟨y, rfl, s1, vs', hR1, hpv⟩
      rw [← lw, List.take_length] at hpv
      refine ⟨_, rfl, R, _, rfl, .inl (.of hR1), ?_⟩
      rw [← hpv.length]
      exact k H1 s1
end
end W5
set_option maxHeartbeats 8000000
/-! W5Q1: Picture, known_kind, painted, pairs_of, within. -/
namespace W5
open PySem L2 K5
def Pic (K : PySem.W.Frag) (CP CW : Addr) : RD (List (List Int)) := fun H us v => ∃ x dx t, v = .ref x ∧ H x = some (.ins CP dx [("walks", .ref t)]) ∧ Tp K (Wk K CW) H us (.ref t)
theorem Mo.pic {K : PySem.W.Frag} {CP CW : Addr} : Mo (Pic K CP CW) := fun H H' us v s ⟨x, dx, t, e, h, q⟩ => ⟨x, dx, t, e, s.ins h, Mo.tp Mo.wk _ _ _ _ s q⟩
structure PC (K : PySem.W.Frag) (CP : Addr) : Prop where
  cl : Cls K CP
  nW : NoAttr K CP "walks"
/-- walks that the program can compare -/
def Fit (us : List (List Int)) : Prop := (∀ u ∈ us, u ≠ [] ∧ u.length ≤ 400) ∧ ∀ u ∈ us, ∀ v ∈ us, (red (cat (wneg u) v)).length ≤ 9 ∧ wsize (red (cat (wneg u) v)) ≤ 12
theorem walks_lk (t : Addr) : ([("walks", V.ref t)] : List (Str × V)).lookup ("walks" : Str) = some (.ref t) := by simp [List.lookup]
/-- how many of us have no earlier same one (seen: those ahead) -/
def paintN (S : List Int → List Int → Bool) : List (List Int) → List (List Int) → Nat
  | _, [] => 0
  | seen, u :: us => (if (seen.any fun e => S e u) = true then 0 else 1) + paintN S (seen ++ [u]) us
theorem paintN_snoc (S : List Int → List Int → Bool) : ∀ (us seen : List (List Int)) (u : List Int), paintN S seen (us ++ [u]) = paintN S seen us + if ((seen ++ us).any fun e => S e u) = true then 0 else 1
  | [], seen, u => by simp [paintN]
  | v :: us, seen, u => by
    show _ + paintN S (seen ++ [v]) (us ++ [u]) = _
    rw [paintN_snoc S us (seen ++ [v]) u]
    show _ = (_ + paintN S (seen ++ [v]) us) + _
    rw [List.append_assoc]
    simp only [List.singleton_append]
    omega
section
variable {P : Program} {w : World} {K : PySem.W.Frag} {mg : Str → Option Value} {base : Heap} {CP CW CF aK aP : Addr}
def spPI (K : PySem.W.Frag) (CP CW : Addr) : Sp := fun vs H Q _ => ∃ p x dx us, vs = [.ref p, x] ∧ H p = some (.ins CP dx []) ∧ Ls K (Wk K CW) H us x ∧ ∀ H' t, Sx p H H' → H' p = some (.ins CP dx [("walks", .ref t)]) → Tp K (Wk K CW) H' us (.ref t) → Q .non H'
theorem scPI : FnScope ["self", "walks"] ["self", "walks"] (defScope (inClass (top 62) 0)) := ⟨rfl, rfl, rfl, by decide +kernel, rfl, by decide +kernel, by decide +kernel⟩
theorem Sx.wk {p dx : Addr} {H H' : Hp} {u : List Int} {v : V} (s : Sx p H H') (hp : H p = some (.ins CP dx [])) (h : Wk K CW H u v) : Wk K CW H' u v := by
  obtain ⟨a, d, t, e, h1, h2⟩ := h
  refine ⟨a, d, t, e, s _ _ h1 ?_, s.sT hp h2⟩
  rintro rfl
  rw [h1] at hp
  have h3 := Option.some.inj hp
  injection h3 with _ _ h4
  unfold wF at h4
  have h5 := congrArg (fun l => List.lookup ("size" : Str) l) h4
  simp only [lookup_putF, if_pos rfl] at h5
  cases h5
theorem c_PI (D : DfI K mg "Picture" CP "Picture.__init__" (inClass (top 62) 0)) (T : Bn mg) (W : PC K CP) : Mak P w K mg base 1 "Picture" CP (spPI K CP CW) := by
  refine D.mak scPI (fun _ _ _ _ _ _ us hl => match us, hl with | [_, _], _ => rfl) (fun vs H Q E h => ?_) (fun cdv A outer f s H vs Q E hr h => ?_)
  · obtain ⟨p, x, dx, us, rfl, _⟩ := h
    rfl
  · obtain ⟨p, x, dx, us, rfl, hp, ⟨a, ws, rfl, qa, pa⟩, k⟩ := h
    refine ⟨_, pss_one (ps_fld (pv 0) (pe_tupleOf rfl T.btuple (pv 1)) rfl), ?_⟩
    refine ⟨_, rfl, kTup_of (.inl qa) fun t H1 s1 ht => ?_⟩
    have hp1 := s1 _ _ hp
    refine ⟨_, rfl, p, CP, dx, _, rfl, hp1, W.cl, W.nW, (by show 0 < 1000; decide), ?_⟩
    have sx := Sx.upd (o := .ins CP dx (putF "walks" (.ref t) [])) (Sx.refl p H1)
    exact k _ t (Sx.trans (Sx.of s1) sx) upd_same ⟨t, ws, rfl, sx.sT hp1 ht, pmap pa fun _ _ r => Sx.wk sx hp1 (Mo.wk _ _ _ _ (Le.of s1) r)⟩
theorem mkP_of {H : Hp} {Q : VK} {x : V} {us : List (List Int)} (hx : Ls K (Wk K CW) H us x) (k : ∀ v H2, Same H H2 → Pic K CP CW H2 us v → Q v H2) :
    ∀ a dx, H a = none → H dx = none → dx ≠ a → spPI K CP CW (.ref a :: [x]) (upd (upd H dx (.own a)) a (.ins CP dx [])) (fun v H2 => v = .non ∧ Q (.ref a) H2) E0 := by
  intro a dx na nd ne
  have s0 : Same H (upd (upd H dx (.own a)) a (.ins CP dx [])) := Same.upd (Same.new nd) na
  refine ⟨a, x, dx, us, rfl, upd_same, Mo.ls Mo.wk _ _ _ _ (Le.of s0) hx, fun H' t kp h1 h2 => ⟨rfl, k _ _ (fun b o e => kp b o (s0 b o e) (ne_of_none e na)) ⟨a, dx, t, rfl, h1, h2⟩⟩⟩
def spKnown : Sp := fun vs H Q _ => ∃ k : K5.Kind, vs = [.str (kS k)] ∧ Q .non H
theorem scKnown : FnScope ["kind"] ["kind"] (defScope (top 63)) := ⟨rfl, rfl, rfl, by decide +kernel, rfl, by decide +kernel, by decide +kernel⟩
theorem c_known (F : Df K mg "known_kind" (top 63)) (M : SM K w mg aK aP) : Cal P w K mg base 1 "known_kind" spKnown := by
  refine F.cal scKnown (fun _ _ _ _ _ _ us hl => match us, hl with | [_], _ => rfl) (fun vs H Q E h => ?_) (fun cdv A outer f s H vs Q E hr h => ?_)
  · obtain ⟨k, rfl, _⟩ := h
    rfl
  · obtain ⟨k, rfl, kk⟩ := h
    refine ⟨_, pss_one (ps_if (pt_cmpR op_notIn_seq (pv 0) (pe_glob rfl M.mK (rvr aK)) (by rfl)) pss_never pss_nil), ?_⟩
    refine ⟨_, rfl, aK, kinds, rfl, .inr (M.tK _), rfl, kinds_flat, _, rfl, ?_⟩
    rw [kinds_has]
    refine iteF (A := False) ?_
    exact kk
/-! ### painted -/
def spPainted (K : PySem.W.Frag) (CP CW : Addr) : Sp := fun vs H Q _ => ∃ k : K5.Kind, ∃ x us, ∃ p q : Nat, vs = [x, .str (kS k), .int p, .int q] ∧ Pic K CP CW H us x ∧ Fit us ∧ us.length ≤ 50 ∧ 3 ≤ p ∧ p ≤ 60 ∧ 3 ≤ q ∧ q ≤ 60 ∧ ∀ H', Same H H' → Q (.int (paintN (sB p q k) [] us)) H'
abbrev nPainted : List Str := ["picture", "kind", "p", "q", "different", "at", "walk", "other"]
theorem scPainted : FnScope nPainted ["picture", "kind", "p", "q"] (defScope (top 64)) := ⟨rfl, rfl, rfl, by decide +kernel, rfl, by decide +kernel, by decide +kernel⟩
theorem c_painted (F : Df K mg "painted" (top 64)) (T : Bn mg) (W : PC K CP) (CK : Cal P w K mg base 1 "known_kind" spKnown) (CS : CalK P w K mg base 7 "same" 3 ["p", "q"] (spSame K CW)) : CalK P w K mg base 8 "painted" 2 ["p", "q"] (spPainted K CP CW) := by
  refine F.calK scPainted (fun _ _ _ _ _ _ us ws h1 h2 => match us, ws, h1, h2 with | [_, _], [_, _], _, _ => rfl) (fun vs H Q E h => ?_) (fun cdv A outer f s H vs Q E hr h => ?_)
  · obtain ⟨k, x, us, p, q, rfl, _⟩ := h
    rfl
  · obtain ⟨kd, x, us, p, q, rfl, ⟨o, dx, t, rfl, ho, ⟨t', ws, et, qt, pt⟩⟩, hfit, hul, hp, hp', hq, hq', k⟩ := h
    cases et
    have lw := pt.length
    refine ⟨_, pss_cons (ps_expr (pe_c CK hr (by decide) rfl (pa_cons (pv 1) pa_nil)))
      (pss_cons (ps_if (PW.pt (pw_or (pt_cmpR op_lt (pv 2) pe_int (nomark _)) (pw_or1 (pt_cmpR op_lt (pv 3) pe_int (nomark _))))) pss_never pss_nil)
      (pss_cons (ps_set (i := 4) scPainted.nd rfl (Or.inl rfl) pe_int)
      (pss_cons (ps_for PassesOwn.never rfl (pi_enumT rfl T.benum (pa_cons (pe_fld (pv 0) rfl) pa_nil)) (pg_2K rfl (pg_n 5 scPainted.nd) (pg_n 6 scPainted.nd))
        (pss_one (ps_if (pt_not (pt_truth (pe_lcI [("other", 7)] rfl scPainted.nd (pi_tup (pe_slice sl_tupA (pe_fld (pv 0) rfl) po_none (po_some (pv 5)))) (blkOk_by (N := nPainted) (sc := defScope (top 64)) (by decide +kernel)) (fun _ _ _ _ _ => pg_n 7 scPainted.nd)) (by intro _; rfl)))
          (pss_one (ps_aug (i := 4) scPainted.nd rfl (Or.inl rfl) pe_int ip_add)) pss_nil)))
      (pss_one (ps_ret (pv 4)))))), ?_⟩
    refine ⟨_, rfl, kd, rfl, ?_⟩
    refine ⟨_, rfl, _, _, rfl, rfl, _, rfl, iteDF (by omega) ?_⟩
    refine ⟨_, rfl, _, _, rfl, rfl, _, rfl, iteDF (by omega) ?_⟩
    refine ⟨_, rfl, o, CP, dx, _, _, rfl, ho, W.cl, W.nW, walks_lk t, t, _, rfl, qt, ?_⟩
    refine for_it (walk_enumT (xs := ws)) (fun i σ H1 => ∃ y z, σ = [some (.ref o), some (.str (kS kd)), some (.int p), some (.int q), some (.int (paintN (sB p q kd) [] (us.take i))), y, z, none] ∧ Same H H1) ⟨none, none, rfl, Same.refl H⟩ (fun i σ H1 _ ⟨_, _, _, s1⟩ => Same.sT s1 qt) ?_ ?_
    · rintro i v σ H1 _ hi ⟨y, z, rfl, s1⟩ ⟨tp, p1, p2, rfl, ntp, rfl, e1, e2⟩
      cases e1
      obtain ⟨u, hu, hw⟩ := Paired.getR pt e2
      have hum := List.mem_of_getElem? hu
      have s2 := Same.trans s1 (Same.new (o := .tup [.int (i : Nat), p2]) ntp)
      have et : us.take (i + 1) = us.take i ++ [u] := by rw [List.take_succ, hu]; rfl
      refine ⟨tp, _, rfl, .of upd_same, rfl, _, _, rfl, _, _, rfl, rfl, ?_⟩
      refine ⟨[some (.ref o), some (.str (kS kd)), some (.int p), some (.int q), some (.int (paintN (sB p q kd) [] (us.take i))), some (.int i), some p2, none], rfl, _, rfl, o, CP, dx, _, _, rfl, s2 _ _ ho, W.cl, W.nW, walks_lk t, _, rfl, _, rfl, slA_of (Same.sT s2 qt) fun t2 H2 s3 ht2 => ?_⟩
      rw [cutV_take] at ht2
      have t3 := Same.trans s2 s3
      refine ⟨t2, rfl, ⟨_, ht2⟩, fun D nD => ?_⟩
      have hpt : Paired (Wk K CW H2) (us.take i) (ws.take i) := by
        refine Paired.ofGet (by rw [List.length_take, List.length_take, lw]) fun j a b e1 e2 => ?_
        rw [List.getElem?_take] at e1 e2
        split at e1
        · rw [if_pos (by assumption)] at e2
          obtain ⟨b', hb', h'⟩ := Paired.get pt e1
          rw [e2] at hb'
          cases hb'
          exact Mo.wk _ _ _ _ (Le.of t3) h'
        · cases e1
      refine lc_F1 (walk_tup (xs := ws.take i)) (Rs := Wk K CW) hpt (Wk K CW) (fun e => sB p q kd e u) (fun e => e) Mo.wk nD (lsz (m := 1000) (by rw [List.length_take]; omega)) (fun _ s => Same.sT s ht2) (fun _ => rfl) ?_ ?_ ?_
      · intro e ve H4 he hwe s4 Qb hQb s' H0' C' cl fp
        have hem := List.mem_of_mem_take he
        have f1 := hfit.1 e hem
        have f2 := hfit.1 u hum
        have f3 := hfit.2 e hem u hum
        refine ⟨_, pt_val (pe_ck CS hr (by decide) rfl (pa_cons (pv 1) (pa_cons (pv 7) (pa_cons (pv 6) pa_nil))) (pk_cons (pv 2) (pk_cons (pv 3) pk_nil))), ?_⟩
        refine ⟨_, rfl, _, rfl, _, rfl, _, rfl, _, rfl, rfl, rfl, kd, ve, p2, e, u, p, q, rfl, Mo.wk _ _ _ _ (Le.of s4) hwe, Mo.wk _ _ _ _ (Le.of (Same.trans t3 s4)) hw, f1.1, f2.1, by omega, f3.1, f3.2, hp, hp', hq, hq', fun b H5 s5 hb => ⟨b, rfl, ?_⟩⟩
        have : b = sB p q kd e u := by
          unfold sB
          rw [Bool.eq_iff_iff, hb, @decide_eq_true_iff _ (Classical.propDecidable _)]
        rw [this]
        exact hQb H5 s5
      · intro e ve Hx he hqe hwe sx Q2 hQ2 s' H0' C' cl fp
        exact ⟨_, pv 7, _, rfl, hQ2 _ _ (Same.refl _) (Mo.wk _ _ _ _ (Le.of sx) hwe)⟩
      · intro H4 ys s4 hD hpy
        have t4 := Same.trans t3 s4
        rw [List.map_id'] at hpy
        refine ⟨_, .inl ⟨ys, .of hD, rfl⟩, ?_⟩
        have hlen := hpy.length
        have hany : ys.isEmpty = !((us.take i).any fun e => sB p q kd e u) := by
          rw [Bool.eq_iff_iff, List.isEmpty_iff_length_eq_zero, ← hlen]
          rw [Bool.not_eq_true', List.any_eq_false]
          constructor
          · intro h e he hc
            have : e ∈ (us.take i).filter fun e => sB p q kd e u := List.mem_filter.mpr ⟨he, hc⟩
            rw [List.eq_nil_of_length_eq_zero h] at this
            cases this
          · intro h
            rw [List.length_eq_zero_iff, List.filter_eq_nil_iff]
            exact h
        have hs := paintN_snoc (sB p q kd) (us.take i) [] u
        rw [List.nil_append] at hs
        rw [hany]
        cases ha : ((us.take i).any fun e => sB p q kd e u) with
        | true =>
          refine iteF (A := True) ?_
          rw [ha, if_pos rfl] at hs
          refine ⟨some (.int i), some p2, ?_, t4⟩
          rw [et, hs]
          rfl
        | false =>
          refine iteT (B := True) ?_
          rw [ha, if_neg Bool.false_ne_true] at hs
          refine ⟨_, rfl, _, _, rfl, rfl, some (.int i), some p2, ?_, t4⟩
          rw [et, hs]
          rfl
    · rintro σ H1 ⟨y, z, rfl, s1⟩
      rw [← lw, List.take_length]
      exact ⟨_, rfl, k H1 s1⟩
end
end W5
set_option maxHeartbeats 8000000
/-! W5Q2: pairs_of, within, alike. -/
namespace W5
open PySem L2 K5
/-! ### a def with *args -/
def CalR (P : Program) (w : World) (K : PySem.W.Frag) (mg : Str → Option Value) (base : Heap) (k : Nat) (x : Str) (sp : Sp) : Prop := ∃ f, FnR P w K mg base CX0 k f sp ∧ mg x = some (.ref f) ∧ PySem.W.keepIn K (.ref f) = true
def tCallR (sp : Sp) (t : TA) : TE := fun σ H Q => t σ H fun vs H1 => sp vs H1 Q E0
theorem pe_cR {X : Cx} {k j : Nat} {x : Str} {sp : Sp} {p pos : Pos} {e : Expr} {es : List Expr} {t : TA} (c : CalR X.prog X.w X.K X.mg X.base k x sp) (hr : Room j X.A) (hk : k ≤ j) (hg : Gl X x) (ha : PA X (e :: es) t)
    (hdb : (x == ("__debug__" : Str)) = false := by decide) (he : starEach (e :: es) X.env = (false, eval e X.env) :: starEach es X.env := by rfl) (hpl : (backTo pos (starEach es X.env)).any (·.1) = false := by rfl) :
    PE X (.Call (.Name x p) (e :: es) [] pos) (tCallR sp t) := by
  obtain ⟨f, F, hm, kp⟩ := c
  refine ⟨fun pins s σ H Q I h => ?_⟩
  refine wpAny_Call_Name_kw (ld_glob I hg hm ?_ hdb)
  refine PySem.W.callWith_K (h₀ := X.base) I.ok.mod.kin kp (thn (ha.run pos pins s σ H _ I h) fun us s1 ⟨vs, H1, I1, r, q⟩ => ⟨I1.kIn, ?_⟩) he hpl
  exact wpAny_call (run_fnR F (hr.mono hk) pass0 I1 r q)
theorem Df.calS {P : Program} {w : World} {K : PySem.W.Frag} {mg : Str → Option Value} {base : Heap} {x pv : Str} {st : Stmt} {N ps : List Str} {k : Nat} {sp : Sp} (D : Df K mg x st) (S : FnScope N (ps ++ [pv]) (defScope st))
    (hb : ∀ (kV doc pm : Value) (an : Option Addr) (cdv ct : Value) (us rest : List Value), us.length = ps.length → bindArgs (PySem.W.fnOf x x (defArgs st) (defBody st) (defScope st) .none kV doc pm an cdv ct) ⟨us ++ rest, []⟩ = (newTuple rest >>= fun t => pure (ps.zip us ++ [(pv, t)])))
    (hbody : ∀ (cdv : Value) (A : Around) (outer : List Env) (f : Addr) (s : Shared) (H : Hp) (vs : List V) (Q : VK) (E : XK), Room k (A.deeper (PyProof.Rows.envOfC x (defScope st) s.heap.objs.size f cdv)) → sp vs H Q E →
      ∃ t, PSs (cxOf CX0 P w K mg base N x (defScope st) f cdv A outer s H E).nox (defBody st) t ∧ t { nx := fun _ H' => Q .non H', rt := Q } (start N vs) H) :
    CalR P w K mg base (k + 1) x fun vs H Q E => ∃ ws rest, vs = ws ++ rest ∧ ws.length = ps.length ∧ rest.length ≤ sizeLine ∧ ∀ p, H p = none → sp (ws ++ [V.ref p]) (upd H p (.tup rest)) Q E := by
  obtain ⟨f, fd, F, hm⟩ := D
  obtain ⟨oc, od, dV, kV, doc, pm, an, cdv, ct, osl, rfl, lk, hcd, hD, hK⟩ := F.ex
  rcases hD with ⟨_, rfl⟩ | ⟨e, _⟩
  · refine ⟨f, StX.fn_star lk hcd S StX.cxUp_none (hb kV doc pm an cdv ct) fun A outer s H vs Q E hr h => ?_, hm, F.kp⟩
    obtain ⟨t, h1, h2⟩ := hbody cdv A outer f s H vs Q E hr h
    exact ⟨t, h1.nox, h2⟩
  · exact absurd rfl e
section
variable {P : Program} {w : World} {K : PySem.W.Frag} {mg : Str → Option Value} {base : Heap} {CP CW CF aK aP : Addr}
theorem own_of {H : Hp} {Q : VK} {g : Bool → Bool → Bool} {S T : FS} {x y : V} (hx : Fo K CF H S x) (hy : Fo K CF H T y) (k : ∀ z H', Same H H' → Fo K CF H' (fun i j => g (S i j) (T i j)) z → Q z H') : rOwn CF (spBin K CF g) x y H Q := by
  obtain ⟨a, dx, r, t, n, m, rfl, h1, h2⟩ := id hx
  obtain ⟨b, dy, r', t', n', m', rfl, g1, g2⟩ := id hy
  refine ⟨a, b, dx, dy, _, _, rfl, rfl, h1, g1, .ref a, .ref b, S, T, rfl, hx, hy, fun z H' s hz => ?_⟩
  obtain ⟨c, dz, r2, t2, n2, m2, rfl, f1, f2⟩ := id hz
  exact ⟨⟨c, rfl⟩, k _ _ s hz⟩
theorem taken {H H2 : Hp} {us : List (List Int)} {ws : List V} (pt : Paired (Wk K CW H) us ws) (s : Le H H2) (i : Nat) : Paired (Wk K CW H2) (us.take i) (ws.take i) := by
  have lw := pt.length
  refine Paired.ofGet (by rw [List.length_take, List.length_take, lw]) fun j a b e1 e2 => ?_
  rw [List.getElem?_take] at e1 e2
  split at e1
  · rw [if_pos (by assumption)] at e2
    obtain ⟨b', hb', h'⟩ := Paired.get pt e1
    rw [e2] at hb'
    cases hb'
    exact Mo.wk _ _ _ _ s h'
  · cases e1
/-! ### pairs_of -/
noncomputable def pairsL (k : K5.Kind) (us : List (List Int)) : List (List FS) := (List.range us.length).map fun i => (us.take i).map fun e => wS k e (us.getD i [])
def spPairs (K : PySem.W.Frag) (CP CW CF : Addr) : Sp := fun vs H Q _ => ∃ k : K5.Kind, ∃ x us, vs = [x, .str (kS k)] ∧ Pic K CP CW H us x ∧ Fit us ∧ us.length ≤ 50 ∧ ∀ v H', Same H H' → Ls K (Ls K (Fo K CF)) H' (pairsL k us) v → Q v H'
abbrev nPairs : List Str := ["picture", "kind", "at", "walk", "other"]
theorem scPairs : FnScope nPairs ["picture", "kind"] (defScope (top 65)) := ⟨rfl, rfl, rfl, by decide +kernel, rfl, by decide +kernel, by decide +kernel⟩
theorem c_pairs (F : Df K mg "pairs_of" (top 65)) (T : Bn mg) (W : PC K CP) (CH : Cal P w K mg base 7 "where" (spWhere K CW CF)) : Cal P w K mg base 8 "pairs_of" (spPairs K CP CW CF) := by
  refine F.cal scPairs (fun _ _ _ _ _ _ us hl => match us, hl with | [_, _], _ => rfl) (fun vs H Q E h => ?_) (fun cdv A outer f s H vs Q E hr h => ?_)
  · obtain ⟨k, x, us, rfl, _⟩ := h
    rfl
  · obtain ⟨kd, x, us, rfl, ⟨o, dx, t, rfl, ho, ⟨t', ws, et, qt, pt⟩⟩, hfit, hul, k⟩ := h
    cases et
    have lw := pt.length
    refine ⟨_, pss_one (ps_ret (pe_lcA [("at", 2), ("walk", 3)] rfl scPairs.nd (pi_enumT rfl T.benum (pa_cons (pe_fld (pv 0) rfl) pa_nil)) (blkOk_by (N := nPairs) (sc := defScope (top 65)) (by decide +kernel)) (fun _ _ _ _ _ => pg_2K rfl (pg_n 2 scPairs.nd) (pg_n 3 scPairs.nd)))), ?_⟩
    refine ⟨[some (.ref o), some (.str (kS kd)), none, none, none], rfl, _, rfl, o, CP, dx, _, _, rfl, ho, W.cl, W.nW, walks_lk t, t, _, rfl, qt, fun D nD => ?_⟩
    refine lc_2 (walk_enumT (xs := ws)) (Ls K (Fo K CF)) (fun i => (us.take i).map fun e => wS kd e (us.getD i [])) (Mo.ls Mo.fo) nD (lsz (m := 100) (by omega)) (fun _ s => Same.sT s qt) (fun _ _ => rfl) ?_ hY_pair ?_
    · rintro i x H2 _ hi s2 ⟨tp, p1, p2, rfl, ntp, rfl, e1, e2⟩
      cases e1
      obtain ⟨u, hu, hw⟩ := Paired.getR pt e2
      have hum := List.mem_of_getElem? hu
      have eu : us.getD i [] = u := by rw [List.getD_eq_getElem?_getD, hu]; rfl
      rw [eu]
      refine ⟨tp, _, _, rfl, .of upd_same, fun Hx sx Q1 hQ1 s' H0' C' cl fp => ?_⟩
      refine ⟨_, pe_lcA [("other", 4)] rfl scPairs.nd (pi_tup (pe_slice sl_tupA (pe_fld (pv 0) rfl) po_none (po_some (pv 2)))) (blkOk_by (N := nPairs) (by kernel_rfl)) (fun _ _ _ _ _ => pg_n 4 scPairs.nd), ?_⟩
      refine ⟨[some (.ref o), some (.str (kS kd)), some (.int i), some p2, none], rfl, _, rfl, o, CP, dx, _, _, rfl, sx _ _ ho, W.cl, W.nW, walks_lk t, _, rfl, _, rfl, slA_of (Same.sT sx qt) fun t2 H3 s3 ht2 => ?_⟩
      rw [cutV_take] at ht2
      have t3 := Same.trans sx s3
      refine ⟨t2, rfl, ⟨_, ht2⟩, fun D2 nD2 => ?_⟩
      refine lc_L (walk_tup (xs := ws.take i)) (Rs := Wk K CW) (taken pt (Le.of t3) i) (Fo K CF) (fun e => wS kd e u) Mo.fo nD2 (lsz (m := 100) (by rw [List.length_take]; omega)) (fun _ s => Same.sT s ht2) (fun _ => rfl) ?_ ?_
      · intro e ve Hy he hwe sy Q2 hQ2 s' H0' C' cl fp
        have hem := List.mem_of_mem_take he
        have f1 := hfit.1 e hem
        have f2 := hfit.1 u hum
        have f3 := hfit.2 e hem u hum
        refine ⟨_, pe_c CH hr (by decide) rfl (pa_cons (pv 1) (pa_cons (pv 4) (pa_cons (pv 3) pa_nil))), ?_⟩
        exact ⟨_, rfl, _, rfl, _, rfl, kd, ve, p2, e, u, rfl, Mo.wk _ _ _ _ (Le.of sy) hwe, Mo.wk _ _ _ _ (Le.of (Same.trans t3 sy)) hw, f1.1, f2.1, by omega, f3.1, f3.2, fun z H5 s5 h5 => hQ2 _ _ s5 h5⟩
      · intro H4 ys s4 hD4 hp4
        exact hQ1 _ _ (Same.trans s3 s4) ⟨D2, ys, rfl, .of hD4, hp4⟩
    · intro H4 ys s4 hD4 hp4
      refine k _ _ s4 ⟨D, ys, rfl, .of hD4, ?_⟩
      unfold pairsL
      rw [lw]
      exact hp4
/-! ### within -/
noncomputable def wIn (k : K5.Kind) (us vs : List (List Int)) : FS := fun a b => us.all fun u => vs.any fun v => wS k u v a b
def Fit2 (us vs : List (List Int)) : Prop := (∀ u ∈ us, u ≠ [] ∧ u.length ≤ 400) ∧ (∀ v ∈ vs, v ≠ [] ∧ v.length ≤ 400) ∧ ∀ u ∈ us, ∀ v ∈ vs, (red (cat (wneg u) v)).length ≤ 9 ∧ wsize (red (cat (wneg u) v)) ≤ 12
def spWithin (K : PySem.W.Frag) (CP CW CF : Addr) : Sp := fun vs H Q _ => ∃ k : K5.Kind, ∃ x y us ws, vs = [.str (kS k), x, y] ∧ Pic K CP CW H us x ∧ Pic K CP CW H ws y ∧ Fit2 us ws ∧ ∀ v H', Same H H' → Fo K CF H' (wIn k us ws) v → Q v H'
abbrev nWithin : List Str := ["kind", "first", "second", "result", "walk", "covered", "other"]
theorem scWithin : FnScope nWithin ["kind", "first", "second"] (defScope (top 67)) := ⟨rfl, rfl, rfl, by decide +kernel, rfl, by decide +kernel, by decide +kernel⟩
theorem c_within (F : Df K mg "within" (top 67)) (W : PC K CP) (hsf : PySem.W.selfFirst K CF = true) (CK : Cal P w K mg base 1 "known_kind" spKnown) (CH : Cal P w K mg base 7 "where" (spWhere K CW CF)) (CE : Clm P w K mg base 5 "Floors" CF "everywhere" (spEv K CF true)) (CN : Clm P w K mg base 5 "Floors" CF "nowhere" (spEv K CF false))
    (CA : Met P w K mg base 5 CF "__and__" (spBin K CF fun a b => a && b)) (CO : Met P w K mg base 5 CF "__or__" (spBin K CF fun a b => a || b)) : Cal P w K mg base 8 "within" (spWithin K CP CW CF) := by
  refine F.cal scWithin (fun _ _ _ _ _ _ us hl => match us, hl with | [_, _, _], _ => rfl) (fun vs H Q E h => ?_) (fun cdv A outer f s H vs Q E hr h => ?_)
  · obtain ⟨k, x, y, us, ws, rfl, _⟩ := h
    rfl
  · obtain ⟨kd, x, y, us, vs, rfl, ⟨o, dx, t, rfl, ho, ⟨t', ws, et, qt, pt⟩⟩, ⟨o2, dx2, t2, rfl, ho2, ⟨t2', ws2, et2, qt2, pt2⟩⟩, hfit, k⟩ := h
    cases et
    cases et2
    refine ⟨_, pss_cons (ps_expr (pe_c CK hr (by decide) rfl (pa_cons (pv 0) pa_nil)))
      (pss_cons (ps_set (i := 3) scWithin.nd rfl (Or.inl rfl) (pe_clm0 CE hr (by decide) rfl))
      (pss_cons (ps_for PassesOwn.never rfl (pi_tup (pe_fld (pv 1) rfl)) (pg_n 4 scWithin.nd)
        (pss_cons (ps_set (i := 5) scWithin.nd rfl (Or.inl rfl) (pe_clm0 CN hr (by decide) rfl))
        (pss_cons (ps_for PassesOwn.never rfl (pi_tup (pe_fld (pv 2) rfl)) (pg_n 6 scWithin.nd)
          (pss_one (ps_set (i := 5) scWithin.nd rfl (Or.inl rfl) (pe_op (op_own CO hr (by decide) hsf rfl) (pv 5) (pe_c CH hr (by decide) rfl (pa_cons (pv 0) (pa_cons (pv 4) (pa_cons (pv 6) pa_nil))))))))
        (pss_one (ps_set (i := 3) scWithin.nd rfl (Or.inl rfl) (pe_op (op_own CA hr (by decide) hsf rfl) (pv 3) (pv 5)))))))
      (pss_one (ps_ret (pv 3))))), ?_⟩
    refine ⟨_, rfl, kd, rfl, ?_⟩
    refine ⟨rfl, fun r0 H0 s0 h0 => ?_⟩
    refine ⟨_, rfl, o, CP, dx, _, _, rfl, s0 _ _ ho, W.cl, W.nW, walks_lk t, t, rfl, ⟨_, Same.sT s0 qt⟩, ?_⟩
    refine for_it (walk_tup (xs := ws)) (fun i σ H1 => ∃ r y4 y5 y6, σ = [some (.str (kS kd)), some (.ref o), some (.ref o2), some r, y4, y5, y6] ∧ Same H H1 ∧ Fo K CF H1 (wIn kd (us.take i) vs) r)
      ⟨r0, none, none, none, rfl, s0, h0⟩ (fun i σ H1 _ ⟨_, _, _, _, _, s1, _⟩ => Same.sT s1 qt) ?_ ?_
    · rintro i v σ _ H1 hi ⟨r, y4, y5, y6, rfl, s1, hr1⟩ ⟨rfl, hv⟩
      obtain ⟨u, hu, hw⟩ := Paired.getR pt hv
      have hum := List.mem_of_getElem? hu
      have et : us.take (i + 1) = us.take i ++ [u] := by rw [List.take_succ, hu]; rfl
      refine ⟨rfl, fun c0 H2 s2 h2 => ?_⟩
      have t2' := Same.trans s1 s2
      refine ⟨_, rfl, o2, CP, dx2, _, _, rfl, t2' _ _ ho2, W.cl, W.nW, walks_lk t2, t2, rfl, ⟨_, Same.sT t2' qt2⟩, ?_⟩
      refine for_it (walk_tup (xs := ws2)) (fun j σ H3 => ∃ c y6, σ = [some (.str (kS kd)), some (.ref o), some (.ref o2), some r, some v, some c, y6] ∧ Same H2 H3 ∧ Fo K CF H3 (fun a b => (vs.take j).any fun e => wS kd u e a b) c)
        ⟨c0, y6, rfl, Same.refl H2, h2⟩ (fun j σ H3 _ ⟨_, _, _, s3, _⟩ => Same.sT (Same.trans t2' s3) qt2) ?_ ?_
      · rintro j v2 σ _ H3 hj ⟨c, y6, rfl, s3, hc⟩ ⟨rfl, hv2⟩
        obtain ⟨e, he, hwe⟩ := Paired.getR pt2 hv2
        have hem := List.mem_of_getElem? he
        have et2 : vs.take (j + 1) = vs.take j ++ [e] := by rw [List.take_succ, he]; rfl
        have t3 := Same.trans t2' s3
        have f1 := hfit.1 u hum
        have f2 := hfit.2.1 e hem
        have f3 := hfit.2.2 u hum e hem
        refine ⟨_, rfl, _, rfl, _, rfl, _, rfl, kd, v, v2, u, e, rfl, Mo.wk _ _ _ _ (Le.of t3) hw, Mo.wk _ _ _ _ (Le.of t3) hwe, f1.1, f2.1, by omega, f3.1, f3.2, fun z H4 s4 h4 => ?_⟩
        refine own_of (Mo.fo _ _ _ _ (Le.of s4) hc) h4 fun z2 H5 s5 h5 => ⟨z2, _, rfl, Same.trans s3 (Same.trans s4 s5), ?_⟩
        rw [et2]
        have e5 : (fun a b => (vs.take j ++ [e]).any fun e => wS kd u e a b) = fun a b => ((vs.take j).any fun e => wS kd u e a b) || wS kd u e a b := by
          funext a b
          rw [List.any_append]
          simp
        rw [e5]
        exact h5
      · rintro σ H3 ⟨c, y6, rfl, s3, hc⟩
        rw [← pt2.length, List.take_length] at hc
        refine ⟨_, rfl, _, rfl, own_of (Mo.fo _ _ _ _ (Le.of (Same.trans s2 s3)) hr1) hc fun z H4 s4 h4 => ⟨z, _, _, _, rfl, Same.trans t2' (Same.trans s3 s4), ?_⟩⟩
        rw [et]
        have e5 : wIn kd (us.take i ++ [u]) vs = fun a b => wIn kd (us.take i) vs a b && vs.any fun e => wS kd u e a b := by
          funext a b
          unfold wIn
          rw [List.all_append]
          simp
        rw [e5]
        exact h4
    · rintro σ H1 ⟨r, y4, y5, y6, rfl, s1, hr1⟩
      rw [← pt.length, List.take_length] at hr1
      exact ⟨_, rfl, k r H1 s1 hr1⟩
/-! ### alike -/
def spAlike0 (K : PySem.W.Frag) (CP CW CF : Addr) : Sp := fun vs H Q _ => ∃ k : K5.Kind, ∃ x t y us ws, vs = [.str (kS k), x, .ref t] ∧ H t = some (.tup [y]) ∧ Pic K CP CW H us x ∧ Pic K CP CW H ws y ∧ Fit2 us ws ∧ Fit2 ws us ∧ ∀ v H', Same H H' → Fo K CF H' (fun a b => (true && wIn k us ws a b) && wIn k ws us a b) v → Q v H'
def spAlike (K : PySem.W.Frag) (CP CW CF : Addr) : Sp := fun vs H Q _ => ∃ k : K5.Kind, ∃ x y us ws, vs = [.str (kS k), x, y] ∧ Pic K CP CW H us x ∧ Pic K CP CW H ws y ∧ Fit2 us ws ∧ Fit2 ws us ∧ ∀ v H', Same H H' → Fo K CF H' (fun a b => (true && wIn k us ws a b) && wIn k ws us a b) v → Q v H'
abbrev nAlike : List Str := ["kind", "first", "others", "result", "other"]
abbrev psAlike : List Str := ["kind", "first"]
theorem scAlike : FnScope nAlike (psAlike ++ [("others" : Str)]) (defScope (top 68)) := ⟨rfl, rfl, rfl, by decide +kernel, rfl, by decide +kernel, by decide +kernel⟩
theorem c_alike (F : Df K mg "alike" (top 68)) (hsf : PySem.W.selfFirst K CF = true) (CK : Cal P w K mg base 1 "known_kind" spKnown) (CI : Cal P w K mg base 8 "within" (spWithin K CP CW CF)) (CE : Clm P w K mg base 5 "Floors" CF "everywhere" (spEv K CF true)) (CA : Met P w K mg base 5 CF "__and__" (spBin K CF fun a b => a && b)) :
    CalR P w K mg base 9 "alike" (spAlike K CP CW CF) := by
  have := F.calS (sp := spAlike0 K CP CW CF) (base := base) (P := P) (w := w) (k := 8) scAlike (fun kV doc pm an cdv ct => StX.bind_star2 (B := fun us => bindArgs (PySem.W.fnOf "alike" "alike" (defArgs (top 68)) (defBody (top 68)) (defScope (top 68)) .none kV doc pm an cdv ct) ⟨us, []⟩) (p1 := "kind") (p2 := "first") (pv := "others") (fun _ _ => rfl) (fun _ _ _ _ => rfl)) (fun cdv A outer f s H vs Q E hr h => ?_)
  · obtain ⟨f, G, hm, kp⟩ := this
    refine ⟨f, G.imp fun vs H Q E h => ?_, hm, kp⟩
    obtain ⟨k, x, y, us, ws, rfl, hx, hy, h1, h2, kk⟩ := h
    refine ⟨[.str (kS k), x], [y], rfl, rfl, (by show 1 ≤ sizeLine; decide), fun p np => ?_⟩
    have sn := Same.new (o := .tup [y]) np
    exact ⟨k, x, p, y, us, ws, rfl, upd_same, Mo.pic _ _ _ _ (Le.of sn) hx, Mo.pic _ _ _ _ (Le.of sn) hy, h1, h2, fun v H' s' hv => kk v H' (Same.trans sn s') hv⟩
  · obtain ⟨kd, x, t, y, us, ws, rfl, ht, hx, hy, hf1, hf2, k⟩ := h
    refine ⟨_, pss_cons (ps_expr (pe_c CK hr (by decide) rfl (pa_cons (pv 0) pa_nil)))
      (pss_cons (ps_set (i := 3) scAlike.nd rfl (Or.inl rfl) (pe_clm0 CE hr (by decide) rfl))
      (pss_cons (ps_for PassesOwn.never rfl (pi_tup (pv 2)) (pg_n 4 scAlike.nd)
        (pss_one (ps_set (i := 3) scAlike.nd rfl (Or.inl rfl) (pe_op (op_own CA hr (by decide) hsf rfl) (pe_op (op_own CA hr (by decide) hsf rfl) (pv 3) (pe_c CI hr (by decide) rfl (pa_cons (pv 0) (pa_cons (pv 1) (pa_cons (pv 4) pa_nil))))) (pe_c CI hr (by decide) rfl (pa_cons (pv 0) (pa_cons (pv 4) (pa_cons (pv 1) pa_nil))))))))
      (pss_one (ps_ret (pv 3))))), ?_⟩
    refine ⟨_, rfl, kd, rfl, ?_⟩
    refine ⟨rfl, fun r0 H0 s0 h0 => ?_⟩
    refine ⟨_, rfl, t, rfl, ⟨_, .of (s0 _ _ ht)⟩, ?_⟩
    refine for_it (walk_tup (xs := [y])) (fun i σ H1 => ∃ r y4, σ = [some (.str (kS kd)), some x, some (.ref t), some r, y4] ∧ Same H H1 ∧ Fo K CF H1 (if i = 0 then fun _ _ => true else fun a b => (true && wIn kd us ws a b) && wIn kd ws us a b) r)
      ⟨r0, none, rfl, s0, by rw [if_pos rfl]; exact h0⟩ (fun i σ H1 _ ⟨_, _, _, s1, _⟩ => .of (s1 _ _ ht)) ?_ ?_
    · rintro i v σ _ H1 hi ⟨r, y4, rfl, s1, hr1⟩ ⟨rfl, hv⟩
      obtain rfl : i = 0 := by simp at hi; exact hi
      obtain rfl : v = y := by simpa using hv.symm
      rw [if_pos rfl] at hr1
      refine ⟨_, rfl, _, rfl, _, rfl, _, rfl, kd, x, v, us, ws, rfl, Mo.pic _ _ _ _ (Le.of s1) hx, Mo.pic _ _ _ _ (Le.of s1) hy, hf1, fun z2 H2 s2 h2 => ?_⟩
      have t2 := Same.trans s1 s2
      refine own_of (Mo.fo _ _ _ _ (Le.of s2) hr1) h2 fun z3 H3 s3 h3 => ?_
      have t3 := Same.trans t2 s3
      refine ⟨_, rfl, _, rfl, _, rfl, kd, v, x, ws, us, rfl, Mo.pic _ _ _ _ (Le.of t3) hy, Mo.pic _ _ _ _ (Le.of t3) hx, hf2, fun z4 H4 s4 h4 => ?_⟩
      refine own_of (Mo.fo _ _ _ _ (Le.of s4) h3) h4 fun z5 H5 s5 h5 => ⟨z5, _, rfl, Same.trans t3 (Same.trans s4 s5), ?_⟩
      rw [if_neg (by omega)]
      exact h5
    · rintro σ H1 ⟨r, y4, rfl, s1, hr1⟩
      rw [if_neg (by simp)] at hr1
      exact ⟨_, rfl, k r H1 s1 hr1⟩
end
end W5
set_option maxHeartbeats 8000000
/-! W5Q3: counts. -/
namespace W5
open PySem L2 K5
/-- the floors on which there are n different among the first m -/
noncomputable def cS (k : K5.Kind) (us : List (List Int)) (m n : Nat) : FS := fun a b => decide (paintN (fun e u => wS k e u a b) [] (us.take m) = n)
theorem Sx.sTd {K : PySem.W.Frag} {d a : Addr} {kvs : List (Key × V)} {H H' : Hp} {xs : List V} (s : Sx d H H') (hd : H d = some (.dK kvs)) (h : SqT K H a xs) : SqT K H' a xs := by
  rcases h with (h | ⟨o, h⟩) | h
  · exact .inl (.inl (s _ _ h (ne_of h hd fun z => by cases z)))
  · exact .inl (.inr ⟨o, s _ _ h (ne_of h hd fun z => by cases z)⟩)
  · exact .inr h
theorem Sx.fo {K : PySem.W.Frag} {C d : Addr} {kvs : List (Key × V)} {H H' : Hp} {S : FS} {v : V} (s : Sx d H H') (hd : H d = some (.dK kvs)) (h : Fo K C H S v) : Fo K C H' S v := by
  obtain ⟨x, dx, r, t, n, m, e, h1, ⟨r', vs, er, qr, pr⟩, a⟩ := h
  exact ⟨x, dx, r, t, n, m, e, s _ _ h1 (ne_of h1 hd fun z => by cases z), ⟨r', vs, er, s.sTd hd qr, pmap pr fun _ _ ⟨b, us, e', q', p'⟩ => ⟨b, us, e', s.sTd hd q', p'⟩⟩, a⟩
/-- a dict of Floors at the numbers below m -/
def DK (K : PySem.W.Frag) (C : Addr) (H : Hp) (kvs : List (Key × V)) (m : Nat) (F : Nat → FS) : Prop := kvs.map (·.1) = (List.range m).map (fun n : Nat => (Sum.inl (n : Int) : Key)) ∧ ∀ n, n < m → ∃ v, valV kvs (Sum.inl (n : Int)) = some v ∧ Fo K C H (F n) v
theorem DK.len {K : PySem.W.Frag} {C : Addr} {H : Hp} {kvs : List (Key × V)} {m : Nat} {F : Nat → FS} (h : DK K C H kvs m F) : kvs.length = m := by
  have := congrArg List.length h.1
  simpa using this
theorem DK.none {K : PySem.W.Frag} {C : Addr} {H : Hp} {kvs : List (Key × V)} {m : Nat} {F : Nat → FS} (h : DK K C H kvs m F) {n : Nat} (hn : m ≤ n) : valV kvs (Sum.inl (n : Int)) = none := by
  cases e : valV kvs (Sum.inl (n : Int)) with
  | none => rfl
  | some v =>
    have := valV_in e
    rw [h.1] at this
    obtain ⟨x, hx, ex⟩ := List.mem_map.mp this
    have := inl_inj ex
    have := List.mem_range.mp hx
    omega
theorem DK.imp {K : PySem.W.Frag} {C : Addr} {H H' : Hp} {kvs : List (Key × V)} {m : Nat} {F G : Nat → FS} (h : DK K C H kvs m F) (f : ∀ n v, n < m → Fo K C H (F n) v → Fo K C H' (G n) v) : DK K C H' kvs m G :=
  ⟨h.1, fun n hn => let ⟨v, e, hv⟩ := h.2 n hn; ⟨v, e, f n v hn hv⟩⟩
theorem keys_old {kvs : List (Key × V)} {k : Key} {v y : V} (e : valV kvs k = some y) : (putK kvs k v).map (·.1) = kvs.map (·.1) := by
  unfold putK
  have ha : (kvs.any fun kv => decide (kv.1 = k)) = true := by rw [valV_any, e]; rfl
  rw [if_pos ha, List.map_map]
  apply List.map_congr_left
  intro a _
  by_cases c : a.1 = k
  · simp [c]
  · simp [c]
theorem DK.old {K : PySem.W.Frag} {C : Addr} {H : Hp} {kvs : List (Key × V)} {m n : Nat} {F : Nat → FS} {S : FS} {v : V} (h : DK K C H kvs m F) (hn : n < m) (hv : Fo K C H S v) : DK K C H (putK kvs (Sum.inl (n : Int)) v) m (fun x => if x = n then S else F x) := by
  obtain ⟨y, hy, _⟩ := h.2 n hn
  refine ⟨by rw [keys_old hy]; exact h.1, fun x hx => ?_⟩
  rw [valV_put]
  by_cases e : x = n
  · subst e
    exact ⟨v, by rw [if_pos rfl], by show Fo K C H (if x = x then S else F x) v; rw [if_pos rfl]; exact hv⟩
  · obtain ⟨z, hz, hz2⟩ := h.2 x hx
    exact ⟨z, by rw [if_neg (fun q => e (inl_inj q))]; exact hz, by show Fo K C H (if x = n then S else F x) z; rw [if_neg e]; exact hz2⟩
theorem DK.new {K : PySem.W.Frag} {C : Addr} {H : Hp} {kvs : List (Key × V)} {m : Nat} {F : Nat → FS} {S : FS} {v : V} (h : DK K C H kvs m F) (hv : Fo K C H S v) : DK K C H (putK kvs (Sum.inl (m : Int)) v) (m + 1) (fun x => if x = m then S else F x) := by
  have hn := h.none (Nat.le_refl m)
  refine ⟨?_, fun x hx => ?_⟩
  · rw [putK_new v hn, List.map_append, h.1, List.range_succ, List.map_append]
    rfl
  · rw [valV_put]
    by_cases e : x = m
    · subst e
      exact ⟨v, by rw [if_pos rfl], by show Fo K C H (if x = x then S else F x) v; rw [if_pos rfl]; exact hv⟩
    · obtain ⟨z, hz, hz2⟩ := h.2 x (by omega)
      exact ⟨z, by rw [if_neg (fun q => e (inl_inj q))]; exact hz, by show Fo K C H (if x = m then S else F x) z; rw [if_neg e]; exact hz2⟩
/-- the part of n that comes from n - 1 -/
def cPart (F : Nat → FS) (seen : FS) : Nat → FS
  | 0 => fun _ _ => false
  | n + 1 => fun a b => false || (F n a b && !seen a b)
def cFull (F : Nat → FS) (seen : FS) (n : Nat) : FS := fun a b => cPart F seen n a b || (F n a b && seen a b)
def cMix (F : Nat → FS) (seen : FS) (n0 n : Nat) : FS := if n < n0 then cFull F seen n else cPart F seen n
section
variable {P : Program} {w : World} {K : PySem.W.Frag} {mg : Str → Option Value} {base : Heap} {CP CW CF aK aP : Addr}
def PrC (K : PySem.W.Frag) (CF : Addr) (F : Nat → FS) : RD Nat := fun H n v => ∃ t f, v = .ref t ∧ SqT K H t [.int n, f] ∧ Fo K CF H (F n) f
theorem Mo.prC {F : Nat → FS} : Mo (PrC K CF F) := fun H H' n v s ⟨t, f, e, h1, h2⟩ => ⟨t, f, e, s.sT h1, Mo.fo _ _ _ _ s h2⟩
def spCounts (K : PySem.W.Frag) (CP CW CF : Addr) : Sp := fun vs H Q _ => ∃ k : K5.Kind, ∃ x us, vs = [x, .str (kS k)] ∧ Pic K CP CW H us x ∧ Fit us ∧ us.length ≤ 50 ∧
  ∀ v ns H', Same H H' → ns.Nodup → (∀ n, n ∈ ns ↔ n ≤ us.length ∧ ∃ a b, cS k us us.length n a b = true) → Ls K (PrC K CF (cS k us us.length)) H' ns v → Q v H'
abbrev nCounts : List Str := ["picture", "kind", "found", "earlier", "seen", "floors", "following", "n"]
theorem scCounts : FnScope nCounts ["picture", "kind"] (defScope (top 66)) := ⟨rfl, rfl, rfl, by decide +kernel, rfl, by decide +kernel, by decide +kernel⟩
theorem paintN_le (S : List Int → List Int → Bool) : ∀ (us seen : List (List Int)), paintN S seen us ≤ us.length
  | [], _ => by simp [paintN]
  | u :: us, seen => by
    have := paintN_le S us (seen ++ [u])
    show (if _ then 0 else 1) + paintN S (seen ++ [u]) us ≤ us.length + 1
    split <;> omega
theorem cS_step (k : K5.Kind) (us : List (List Int)) {i : Nat} {u : List Int} (hu : us[i]? = some u) (n : Nat) : cS k us (i + 1) n = cFull (cS k us i) (fun a b => (us.take i).any fun e => wS k e u a b) n := by
  have et : us.take (i + 1) = us.take i ++ [u] := by rw [List.take_succ, hu]; rfl
  funext a b
  have hs := paintN_snoc (fun e u => wS k e u a b) (us.take i) [] u
  rw [List.nil_append] at hs
  unfold cFull cS
  rw [et, hs]
  cases hany : ((us.take i).any fun e => wS k e u a b) with
  | true =>
    rw [if_pos rfl]
    cases n with
    | zero => simp [cPart, hany]
    | succ n => simp [cPart, hany]
  | false =>
    rw [if_neg Bool.false_ne_true]
    cases n with
    | zero => simp [cPart, hany]
    | succ n => simp [cPart, hany]
theorem c_counts (F : Df K mg "counts" (top 66)) (T : Bn mg) (hsf : PySem.W.selfFirst K CF = true) (CK : Cal P w K mg base 1 "known_kind" spKnown) (CPr : Cal P w K mg base 8 "pairs_of" (spPairs K CP CW CF)) (CE : Clm P w K mg base 5 "Floors" CF "everywhere" (spEv K CF true)) (CN : Clm P w K mg base 5 "Floors" CF "nowhere" (spEv K CF false))
    (CA : Met P w K mg base 5 CF "__and__" (spBin K CF fun a b => a && b)) (CO : Met P w K mg base 5 CF "__or__" (spBin K CF fun a b => a || b)) (CSb : Met P w K mg base 5 CF "__sub__" (spBin K CF fun a b => a && !b)) (CB : Met P w K mg base 1 CF "__bool__" (spFBool K CF)) : Cal P w K mg base 9 "counts" (spCounts K CP CW CF) := by
  refine F.cal scCounts (fun _ _ _ _ _ _ us hl => match us, hl with | [_, _], _ => rfl) (fun vs H Q E h => ?_) (fun cdv A outer f s H vs Q E hr h => ?_)
  · obtain ⟨k, x, us, rfl, _⟩ := h
    rfl
  · obtain ⟨kd, x, us, rfl, hx, hfit, hul, k⟩ := h
    have hu := hu_of hr
    refine ⟨_, pss_cons (ps_expr (pe_c CK hr (by decide) rfl (pa_cons (pv 1) pa_nil)))
      (pss_cons (ps_set (i := 2) scCounts.nd rfl (Or.inr rfl) (pe_disp (pps_cons pe_int (pe_clm0 CE hr (by decide) rfl) pps_nil) (by rfl) (by rfl) (fun z => by cases z) (by decide)))
      (pss_cons (ps_for PassesOwn.never rfl (pi_list (pe_c CPr hr (by decide) rfl (pa_cons (pv 0) (pa_cons (pv 1) pa_nil)))) (pg_n 3 scCounts.nd)
        (pss_cons (ps_set (i := 4) scCounts.nd rfl (Or.inl rfl) (pe_clm0 CN hr (by decide) rfl))
        (pss_cons (ps_for PassesOwn.never rfl (pi_list (pv 3)) (pg_n 5 scCounts.nd)
          (pss_one (ps_set (i := 4) scCounts.nd rfl (Or.inl rfl) (pe_op (op_own CO hr (by decide) hsf rfl) (pv 4) (pv 5)))))
        (pss_cons (ps_set (i := 6) scCounts.nd rfl (Or.inl rfl) pe_dnewK)
        (pss_cons (ps_for PassesOwn.never rfl (pi_list (pe_callTy (call_list_dK rfl) (by rfl) T.blist (by decide +kernel) (pa_cons (pv 2) pa_nil))) (pg_n 7 scCounts.nd)
          (pss_cons (ps_dput hu (pv 6) (pv 7) (pe_op (op_own CO hr (by decide) hsf rfl) (pe_dget2 hu (pv 6) (pv 7) (pe_clm0 CN hr (by decide) rfl) ⟨rfl, rfl, rfl, rfl⟩) (pe_op (op_own CA hr (by decide) hsf rfl) (pe_dget hu (pv 2) (pv 7) (fun _ _ => rfl)) (pv 4))) rfl)
          (pss_one (ps_dput hu (pv 6) (pe_op op_add (pv 7) pe_int) (pe_op (op_own CO hr (by decide) hsf rfl) (pe_dget2 hu (pv 6) (pe_op op_add (pv 7) pe_int) (pe_clm0 CN hr (by decide) rfl) ⟨rfl, rfl, rfl, rfl⟩) (pe_op (op_own CSb hr (by decide) hsf rfl) (pe_dget hu (pv 2) (pv 7) (fun _ _ => rfl)) (pv 4))) rfl))))
        (pss_one (ps_set (i := 2) scCounts.nd rfl (Or.inr rfl) (pv 6))))))))
      (pss_one (ps_ret (pe_lcI [("n", 7)] rfl scCounts.nd (pi_list (pe_callB cr_sorted (by rfl) T.bsorted (by decide +kernel) (pa_cons (pe_callTy (call_list_dK rfl) (by rfl) T.blist (by decide +kernel) (pa_cons (pv 2) pa_nil)) pa_nil))) (blkOk_by (N := nCounts) (sc := defScope (top 66)) (by decide +kernel)) (fun _ _ _ _ _ => pg_n 7 scCounts.nd)))))), ?_⟩
    refine ⟨_, rfl, kd, rfl, ?_⟩
    -- found = {0: everywhere}
    intro df ndf
    refine ⟨rfl, fun ev H1 s1 hev => ?_⟩
    have s1' := Same.new (o := .dK []) ndf
    have hdf1 : H1 df = some (.dK []) := s1 _ _ upd_same
    refine ⟨hdf1, [(Sum.inl (0 : Int), ev)], rfl, (by show 1 ≤ 15; decide), ?_⟩
    have hx1 : Same H (upd H1 df (.dK (mergeK [] [(Sum.inl (0 : Int), ev)]))) := Same.upd (Same.trans s1' s1) ndf
    have hD0 : DK K CF (upd H1 df (.dK (mergeK [] [(Sum.inl (0 : Int), ev)]))) [(Sum.inl (0 : Int), ev)] 1 (cS kd us 0) := by
      refine ⟨rfl, fun n hn => ?_⟩
      obtain rfl : n = 0 := by omega
      refine ⟨ev, rfl, ?_⟩
      have e : cS kd us 0 0 = fun _ _ => true := by funext a b; simp [cS, paintN]
      rw [e]
      exact Sx.fo (Sx.upd (Sx.refl df H1)) hdf1 hev
    have em : mergeK [] [((Sum.inl (0 : Int) : Key), ev)] = [(Sum.inl (0 : Int), ev)] := rfl
    rw [em] at hx1 hD0 ⊢
    generalize hH2 : upd H1 df (.dK [(Sum.inl (0 : Int), ev)]) = H2 at hx1 hD0 ⊢
    have hdf2 : H2 df = some (.dK [(Sum.inl (0 : Int), ev)]) := by rw [← hH2]; exact upd_same
    -- for earlier in pairs_of(picture, kind)
    refine ⟨_, rfl, _, rfl, kd, x, us, rfl, Mo.pic _ _ _ _ (Le.of hx1) hx, hfit, hul, fun vp H3 s3 hvp => ?_⟩
    obtain ⟨pa, ps, rfl, qp, pp⟩ := hvp
    have lp := pp.length
    have lpl : (pairsL kd us).length = us.length := by simp [pairsL]
    refine ⟨pa, rfl, ⟨_, qp⟩, ?_⟩
    refine for_it (walk_list (xs := ps)) (fun i σ H4 => ∃ d y3 y4 y5 y6 y7, σ = [some x, some (.str (kS kd)), some (.ref d), y3, y4, y5, y6, y7] ∧ Same H H4 ∧ SqL K H4 pa ps ∧ Paired (Ls K (Fo K CF) H4) (pairsL kd us) ps ∧ H d = none ∧ ∃ kvs, H4 d = some (.dK kvs) ∧ DK K CF H4 kvs (i + 1) (cS kd us i))
      ⟨df, none, none, none, none, none, rfl, Same.trans hx1 s3, qp, pp, ndf, _, s3 _ _ hdf2, hD0.imp fun n v _ hv => Mo.fo _ _ _ _ (Le.of s3) hv⟩ (fun i σ H4 _ ⟨_, _, _, _, _, _, _, _, q, _⟩ => q) ?_ ?_
    · rintro i v σ _ H4 hi ⟨d, y3, y4, y5, y6, y7, rfl, s4, qp4, pp4, nd, kvs, hd4, hDK⟩ ⟨rfl, hv⟩
      have hiu : i < us.length := by omega
      obtain ⟨u, hu1⟩ : ∃ u, us[i]? = some u := ⟨_, List.getElem?_eq_getElem hiu⟩
      obtain ⟨row, hrow, ra, rs, rfl, qr, pr⟩ := Paired.getR pp4 hv
      have erow : row = (us.take i).map fun e => wS kd e u := by
        have h1 : (pairsL kd us)[i]? = some ((us.take i).map fun e => wS kd e (us.getD i [])) := by simp [pairsL, hiu]
        rw [h1] at hrow
        rw [← Option.some.inj hrow, List.getD_eq_getElem?_getD, hu1]
        rfl
      subst erow
      -- seen
      refine ⟨rfl, fun sn H5 s5 hsn => ?_⟩
      refine ⟨_, rfl, ra, rfl, ⟨_, Same.sL s5 qr⟩, ?_⟩
      refine for_it (walk_list (xs := rs)) (fun j σ H6 => ∃ z y5, σ = [some x, some (.str (kS kd)), some (.ref d), some (.ref ra), some z, y5, y6, y7] ∧ Same H4 H6 ∧ Fo K CF H6 (fun a b => ((us.take i).take j).any fun e => wS kd e u a b) z)
        ⟨sn, y5, rfl, s5, by simpa using hsn⟩ (fun j σ H6 _ ⟨_, _, _, s6, _⟩ => Same.sL s6 qr) ?_ ?_
      · rintro j v2 σ _ H6 hj ⟨z, y5, rfl, s6, hz⟩ ⟨rfl, hv2⟩
        obtain ⟨S2, hS2, hf2⟩ := Paired.getR pr hv2
        rw [List.getElem?_map] at hS2
        cases he : (us.take i)[j]? with
        | none => rw [he] at hS2; cases hS2
        | some e =>
          rw [he] at hS2
          cases hS2
          have et2 : (us.take i).take (j + 1) = (us.take i).take j ++ [e] := by rw [List.take_succ, he]; rfl
          refine ⟨_, rfl, _, rfl, own_of hz (Mo.fo _ _ _ _ (Le.of s6) hf2) fun z2 H7 s7 h7 => ⟨z2, _, rfl, Same.trans s6 s7, ?_⟩⟩
          rw [et2]
          have e5 : (fun a b => ((us.take i).take j ++ [e]).any fun e => wS kd e u a b) = fun a b => (((us.take i).take j).any fun e => wS kd e u a b) || wS kd e u a b := by
            funext a b
            rw [List.any_append]
            simp
          rw [e5]
          exact h7
      · rintro σ H6 ⟨z, y5, rfl, s6, hz⟩
        have lr := pr.length
        rw [List.length_map] at lr
        rw [← lr, List.take_length] at hz
        -- following = {}
        intro fd nfd
        have s7 := Same.new (o := .dK []) nfd
        have t7 := Same.trans s6 s7
        have nfdH : H fd = none := s4.free (s6.free nfd)
        have hd7 := t7 _ _ hd4
        refine ⟨_, rfl, d, kvs, rfl, hd7, fun la nla => ?_⟩
        have s8 := Same.new (o := .lst (kvs.map fun kv => kV kv.1)) nla
        have t8 := Same.trans t7 s8
        have hlk : (kvs.map fun kv => kV kv.1) = (List.range (i + 1)).map (fun n : Nat => V.int (n : Int)) := by
          have := congrArg (List.map kV) hDK.1
          rw [List.map_map, List.map_map] at this
          exact this
        have hfd8 := s8 _ _ (upd_same (H := H6) (a := fd) (o := .dK []))
        have hla8 := upd_same (H := upd H6 fd (.dK [])) (a := la) (o := .lst (kvs.map fun kv => kV kv.1))
        rw [hlk] at s8 t8 hfd8 hla8 ⊢
        generalize upd (upd H6 fd (.dK [])) la (.lst ((List.range (i + 1)).map fun n : Nat => V.int (n : Int))) = H8 at s8 t8 hfd8 hla8 ⊢
        have hdd : d ≠ fd := ne_of_none (s6 _ _ hd4) nfd
        refine ⟨la, rfl, ⟨_, .of hla8⟩, ?_⟩
        have hz8 : Fo K CF H8 (fun a b => (us.take i).any fun e => wS kd e u a b) z := Mo.fo _ _ _ _ (Le.of (Same.trans s7 s8)) hz
        refine for_it (walk_list (xs := (List.range (i + 1)).map fun n : Nat => V.int (n : Int))) (fun n0 σ H9 => ∃ y7, σ = [some x, some (.str (kS kd)), some (.ref d), some (.ref ra), some z, y5, some (.ref fd), y7] ∧ Sx fd H8 H9 ∧ ∃ kv2, H9 fd = some (.dK kv2) ∧ DK K CF H9 kv2 (if n0 = 0 then 0 else n0 + 1) (cMix (cS kd us i) (fun a b => (us.take i).any fun e => wS kd e u a b) n0))
          ⟨y7, rfl, Sx.refl _ _, [], hfd8, rfl, fun n hn => by rw [if_pos rfl] at hn; omega⟩ (fun n0 σ H9 _ ⟨_, _, s9, _⟩ => by
            have hne : la ≠ fd := fun e => by rw [e, hfd8] at hla8; cases hla8
            exact .of (s9 _ _ hla8 hne)) ?_ ?_
        · rintro n0 v3 σ _ H9 hn0 ⟨y7, rfl, s9, kv2, hf9, hDK9⟩ ⟨rfl, hv3⟩
          obtain rfl : v3 = .int (n0 : Int) := by
            rw [List.getElem?_map] at hv3
            have hn0' : n0 < i + 1 := by simpa using hn0
            rw [List.getElem?_range hn0'] at hv3
            exact (Option.some.inj hv3).symm
          have hn0' : n0 < i + 1 := by simpa using hn0
          obtain ⟨vF, hvF, hfF⟩ := hDK.2 n0 hn0'
          have hF9 : Fo K CF H9 (cS kd us i n0) vF := Sx.fo s9 hfd8 (Mo.fo _ _ _ _ (Le.of t8) hfF)
          have hz9 := Sx.fo s9 hfd8 hz8
          have hd9 : H9 d = some (.dK kvs) := s9 _ _ (s8 _ _ hd7) hdd
          generalize hseen : (fun a b => (us.take i).any fun e => wS kd e u a b) = seen at *
          generalize hFi : cS kd us i = Fi at *
          refine ⟨_, rfl, fd, rfl, .inl ⟨kv2, .inl hf9⟩, _, rfl, rfl, fun nw H10 s10 hnw => ?_⟩
          refine ⟨_, DGet.k (k := Sum.inl (n0 : Int)) (s10 _ _ hf9), ?_⟩
          have hxv : Fo K CF H10 (cPart Fi seen n0) ((valV kv2 (Sum.inl (n0 : Int))).getD nw) := by
            by_cases h0 : n0 = 0
            · subst h0
              rw [hDK9.none (by simp)]
              exact hnw
            · obtain ⟨vP, hvP, hfP⟩ := hDK9.2 n0 (by rw [if_neg h0]; omega)
              rw [hvP]
              have e : cMix Fi seen n0 n0 = cPart Fi seen n0 := by unfold cMix; rw [if_neg (Nat.lt_irrefl n0)]
              rw [e] at hfP
              exact Mo.fo _ _ _ _ (Le.of s10) hfP
          refine ⟨_, rfl, _, rfl, d, vF, rfl, by rw [← hvF]; exact DGet.k (k := Sum.inl (n0 : Int)) (s10 _ _ hd9), _, rfl, ?_⟩
          refine own_of (Mo.fo _ _ _ _ (Le.of s10) hF9) (Mo.fo _ _ _ _ (Le.of s10) hz9) fun w1 H11 s11 hw1 => ?_
          refine own_of (Mo.fo _ _ _ _ (Le.of s11) hxv) hw1 fun w2 H12 s12 hw2 => ?_
          have q12 := Same.trans s10 (Same.trans s11 s12)
          have hf12 := q12 _ _ hf9
          have lk2 : kv2.length ≤ 60 := by rw [hDK9.len]; split <;> omega
          refine ⟨_, rfl, _, rfl, fd, _, rfl, DPut.k (k := Sum.inl (n0 : Int)) hf12 (Nat.lt_of_le_of_lt lk2 (by decide)), ?_⟩
          have x13 : Sx fd H12 (upd H12 fd (.dK (putK kv2 (Sum.inl (n0 : Int)) w2))) := Sx.upd (Sx.refl fd H12)
          have hf13 : (upd H12 fd (.dK (putK kv2 (Sum.inl (n0 : Int)) w2))) fd = some (.dK (putK kv2 (Sum.inl (n0 : Int)) w2)) := upd_same
          have hDK13 : DK K CF (upd H12 fd (.dK (putK kv2 (Sum.inl (n0 : Int)) w2))) (putK kv2 (Sum.inl (n0 : Int)) w2) (n0 + 1) (fun m => if m = n0 then cFull Fi seen n0 else cMix Fi seen n0 m) := by
            have hD12 : DK K CF H12 kv2 (if n0 = 0 then 0 else n0 + 1) (cMix Fi seen n0) := hDK9.imp fun n v _ hv => Mo.fo _ _ _ _ (Le.of q12) hv
            have hw2' : Fo K CF H12 (cFull Fi seen n0) w2 := hw2
            by_cases h0 : n0 = 0
            · subst h0
              rw [if_pos rfl] at hD12
              exact (DK.new hD12 hw2').imp fun n v _ hv => Sx.fo x13 hf12 hv
            · rw [if_neg h0] at hD12
              exact (DK.old hD12 (Nat.lt_succ_self n0) hw2').imp fun n v _ hv => Sx.fo x13 hf12 hv
          have x9 : Sx fd H9 (upd H12 fd (.dK (putK kv2 (Sum.inl (n0 : Int)) w2))) := Sx.trans (Sx.of q12) x13
          have hd13 := x9 _ _ hd9 hdd
          have hF13 := Sx.fo x9 hf9 hF9
          have hz13 := Sx.fo x9 hf9 hz9
          generalize upd H12 fd (.dK (putK kv2 (Sum.inl (n0 : Int)) w2)) = H13 at *
          generalize putK kv2 (Sum.inl (n0 : Int)) w2 = kv3 at *
          have en1 : ((n0 : Int) + 1) = ((n0 + 1 : Nat) : Int) := by omega
          refine ⟨_, rfl, fd, rfl, .inl ⟨kv3, .inl hf13⟩, _, rfl, _, _, rfl, rfl, rfl, fun nw2 H14 s14 hnw2 => ?_⟩
          refine ⟨_, DGet.k (k := Sum.inl ((n0 : Int) + 1)) (s14 _ _ hf13), ?_⟩
          have hnone : valV kv3 (Sum.inl ((n0 : Int) + 1)) = none := by rw [en1]; exact hDK13.none (Nat.le_refl _)
          rw [hnone]
          refine ⟨_, rfl, _, rfl, d, vF, rfl, by rw [← hvF]; exact DGet.k (k := Sum.inl (n0 : Int)) (s14 _ _ hd13), _, rfl, ?_⟩
          refine own_of (Mo.fo _ _ _ _ (Le.of s14) hF13) (Mo.fo _ _ _ _ (Le.of s14) hz13) fun w3 H15 s15 hw3 => ?_
          refine own_of (Mo.fo _ _ _ _ (Le.of s15) hnw2) hw3 fun w4 H16 s16 hw4 => ?_
          have q16 := Same.trans s14 (Same.trans s15 s16)
          have hf16 := q16 _ _ hf13
          have lk3 : kv3.length ≤ 60 := by rw [hDK13.len]; omega
          refine ⟨_, rfl, _, rfl, _, _, rfl, rfl, fd, _, rfl, DPut.k (k := Sum.inl ((n0 : Int) + 1)) hf16 (Nat.lt_of_le_of_lt lk3 (by decide)), ?_⟩
          have x17 : Sx fd H16 (upd H16 fd (.dK (putK kv3 (Sum.inl ((n0 : Int) + 1)) w4))) := Sx.upd (Sx.refl fd H16)
          refine ⟨_, rfl, Sx.trans s9 (Sx.trans x9 (Sx.trans (Sx.of q16) x17)), _, upd_same, ?_⟩
          rw [if_neg (by omega), en1]
          rw [en1] at x17
          have hD16 : DK K CF H16 kv3 (n0 + 1) (fun m => if m = n0 then cFull Fi seen n0 else cMix Fi seen n0 m) := hDK13.imp fun n v _ hv => Mo.fo _ _ _ _ (Le.of q16) hv
          have hw4' : Fo K CF H16 (cPart Fi seen (n0 + 1)) w4 := hw4
          refine (DK.new hD16 hw4').imp fun n v hn hv => ?_
          have hv' := Sx.fo x17 hf16 hv
          have e : (if n = n0 + 1 then cPart Fi seen (n0 + 1) else if n = n0 then cFull Fi seen n0 else cMix Fi seen n0 n) = cMix Fi seen (n0 + 1) n := by
            unfold cMix
            by_cases h1 : n = n0 + 1
            · subst h1
              rw [if_pos rfl, if_neg (Nat.lt_irrefl _)]
            · rw [if_neg h1]
              by_cases h2 : n = n0
              · subst h2
                rw [if_pos rfl, if_pos (Nat.lt_succ_self n)]
              · rw [if_neg h2, if_pos (by omega), if_pos (by omega)]
          rw [← e]
          exact hv'
        · rintro σ H9 ⟨y7, rfl, s9, kv2, hf9, hDK9⟩
          rw [List.length_map, List.length_range] at hDK9
          rw [if_neg (by omega)] at hDK9
          refine ⟨_, rfl, ?_⟩
          have hpa8 : SqL K H8 pa ps := Same.sL t8 qp4
          have sxL : ∀ {a : Addr} {xs : List V}, SqL K H8 a xs → SqL K H9 a xs := fun h => by
            rcases h with (h | ⟨o, h⟩) | h
            · exact .inl (.inl (s9 _ _ h (ne_of h hfd8 fun z => by cases z)))
            · exact .inl (.inr ⟨o, s9 _ _ h (ne_of h hfd8 fun z => by cases z)⟩)
            · exact .inr h
          refine ⟨fd, some (.ref ra), some z, y5, some (.ref fd), y7, rfl, fun b o e => s9 b o (t8 b o (s4 b o e)) (ne_of_none e nfdH), sxL hpa8, pmap pp4 fun _ _ ⟨a, ws, e, q, p⟩ => ⟨a, ws, e, sxL (Same.sL t8 q), pmap p fun _ _ r => Sx.fo s9 hfd8 (Mo.fo _ _ _ _ (Le.of t8) r)⟩, nfdH, kv2, hf9, ?_⟩
          refine hDK9.imp fun n v hn hv => ?_
          rw [cS_step kd us hu1]
          unfold cMix at hv
          by_cases h1 : n < i + 1
          · rw [if_pos h1] at hv
            exact hv
          · rw [if_neg h1] at hv
            have e : cFull (cS kd us i) (fun a b => (us.take i).any fun e => wS kd e u a b) n = cPart (cS kd us i) (fun a b => (us.take i).any fun e => wS kd e u a b) n := by
              funext a b
              unfold cFull
              have : cS kd us i n a b = false := by
                unfold cS
                rw [decide_eq_false_iff_not]
                have := paintN_le (fun e u => wS kd e u a b) (us.take i) []
                rw [List.length_take] at this
                omega
              rw [this]
              simp
            rw [e]
            exact hv
    · rintro σ H4 ⟨d, y3, y4, y5, y6, y7, rfl, s4, qp4, pp4, nd, kvs, hd4, hDK⟩
      have hlen : ps.length = us.length := by omega
      rw [hlen] at hDK
      have hlk : (kvs.map fun kv => kV kv.1) = ((List.range (us.length + 1)).map (fun n : Nat => (n : Int))).map V.int := by
        have := congrArg (List.map kV) hDK.1
        rw [List.map_map, List.map_map] at this
        rw [List.map_map]
        exact this
      refine ⟨[some x, some (.str (kS kd)), some (.ref d), y3, y4, y5, y6, none], rfl, _, rfl, d, kvs, rfl, hd4, fun la nla => ?_⟩
      have s5 := Same.new (o := .lst (kvs.map fun kv => kV kv.1)) nla
      refine ⟨la, (List.range (us.length + 1)).map (fun n : Nat => (n : Int)), rfl, .of (by rw [upd_same, hlk]), by simp; omega, fun zs lb hperm _ nlb => ?_⟩
      have s6 := Same.trans s5 (Same.new (o := .lst (zs.map V.int)) nlb)
      obtain ⟨ns, hns, hnp⟩ : ∃ ns : List Nat, zs = ns.map (fun n : Nat => (n : Int)) ∧ ns.Perm (List.range (us.length + 1)) := by
        have hp : Paired (fun (n : Nat) (z : Int) => z = n) (List.range (us.length + 1)) ((List.range (us.length + 1)).map fun n : Nat => (n : Int)) := by
          have : ∀ l : List Nat, Paired (fun (n : Nat) (z : Int) => z = n) l (l.map fun n : Nat => (n : Int)) := fun l => by
            induction l with
            | nil => exact .nil
            | cons a l ih => exact .cons rfl ih
          exact this _
        obtain ⟨ns, h1, h2⟩ := Paired.perm hperm.symm hp
        refine ⟨ns, ?_, h1⟩
        have : ∀ {l : List Nat} {m : List Int}, Paired (fun (n : Nat) (z : Int) => z = n) l m → m = l.map fun n : Nat => (n : Int) := fun h => by
          induction h with
          | nil => rfl
          | cons r _ ih => rw [List.map_cons, ← ih, r]
        exact this h2
      subst hns
      have hnl : ns.length = us.length + 1 := by rw [hnp.length_eq]; simp
      have hlb : SqL K (upd (upd H4 la (.lst (kvs.map fun kv => kV kv.1))) lb (.lst ((ns.map fun n : Nat => (n : Int)).map V.int))) lb ((ns.map fun n : Nat => (n : Int)).map V.int) := .of upd_same
      have hd6 := s6 _ _ hd4
      refine ⟨lb, rfl, ⟨_, hlb⟩, fun D nD => ?_⟩
      have hpn : Paired (fun (n : Nat) (v : V) => v = .int n) ns ((ns.map fun n : Nat => (n : Int)).map V.int) := by
        have : ∀ l : List Nat, Paired (fun (n : Nat) (v : V) => v = .int n) l ((l.map fun n : Nat => (n : Int)).map V.int) := fun l => by
          induction l with
          | nil => exact .nil
          | cons a l ih => exact .cons rfl ih
        exact this _
      refine lc_F1 (walk_list (xs := (ns.map fun n : Nat => (n : Int)).map V.int)) (Rs := fun _ (n : Nat) v => v = .int n) hpn (PrC K CF (cS kd us us.length)) (fun n => @decide (∃ a b, cS kd us us.length n a b = true) (Classical.propDecidable _)) (fun n => n) Mo.prC nD (lsz (m := 100) (by simp; omega)) (fun _ s => Same.sL s hlb) (fun _ => rfl) ?_ ?_ ?_
      · rintro n v H5 hn rfl s7 Qb hQb s' H0' C' cl fp
        have hn' : n < us.length + 1 := List.mem_range.mp (hnp.mem_iff.mp hn)
        obtain ⟨vF, hvF, hfF⟩ := hDK.2 n hn'
        have hf5 := Mo.fo _ _ _ _ (Le.of (Same.trans s6 s7)) hfF
        refine ⟨_, pt_own CB hr (by decide) (pe_dget hu (pv 2) (pv 7) (fun _ _ => rfl)), ?_⟩
        refine ⟨_, rfl, _, rfl, d, vF, rfl, by rw [← hvF]; exact DGet.k (k := Sum.inl (n : Int)) (s7 _ _ hd6), ?_⟩
        obtain ⟨xa, dxa, r, t, n', m', rfl, hxa, _⟩ := id hf5
        refine ⟨xa, dxa, _, rfl, hxa, .ref xa, _, rfl, hf5, fun b H6 s8 hb => ⟨b, rfl, ?_⟩⟩
        have : b = @decide (∃ a b, cS kd us us.length n a b = true) (Classical.propDecidable _) := by
          rw [Bool.eq_iff_iff, hb, @decide_eq_true_iff _ (Classical.propDecidable _)]
        rw [this]
        exact hQb H6 s8
      · rintro n v Hx hn hqn rfl sx Q2 hQ2 s' H0' C' cl fp
        have hn' : n < us.length + 1 := List.mem_range.mp (hnp.mem_iff.mp hn)
        obtain ⟨vF, hvF, hfF⟩ := hDK.2 n hn'
        refine ⟨_, pe_tup (pa_cons (pv 7) (pa_cons (pe_dget hu (pv 2) (pv 7) (fun _ _ => rfl)) pa_nil)), ?_⟩
        refine ⟨_, rfl, _, rfl, _, rfl, d, vF, rfl, by rw [← hvF]; exact DGet.k (k := Sum.inl (n : Int)) (sx _ _ hd6), (by show 2 ≤ sizeLine; decide), fun p np => ?_⟩
        exact hQ2 _ _ (Same.new np) ⟨p, vF, rfl, .of upd_same, Mo.fo _ _ _ _ (Le.of (Same.trans (Same.trans s6 sx) (Same.new np))) hfF⟩
      · intro H5 ys s7 hD hpy
        rw [List.map_id'] at hpy
        refine k _ _ _ (Same.trans s4 (Same.trans s6 s7)) ((hnp.nodup_iff.mpr List.nodup_range).filter _) (fun n => ?_) ⟨D, ys, rfl, .of hD, hpy⟩
        rw [List.mem_filter, hnp.mem_iff, List.mem_range, @decide_eq_true_iff _ (Classical.propDecidable _)]
        constructor
        · rintro ⟨h1, h2⟩
          exact ⟨by omega, h2⟩
        · rintro ⟨h1, h2⟩
          exact ⟨by omega, h2⟩
end
end W5
set_option maxHeartbeats 8000000
/-! W5V1: the law's draws. -/
namespace W5
open PySem L2 K5
section
variable {P : Program} {w : World} {K : PySem.W.Frag} {mg : Str → Option Value} {base : Heap}
def spCell (K : PySem.W.Frag) : Sp := fun vs H Q _ => ∃ a, ∃ ns : List Int, ∃ k : Nat, vs = [.ref a, .int k] ∧ SqL K H a (ns.map V.int) ∧ ∀ c : Int, Q (.int c) H
theorem scCell : FnScope ["_law_script", "_law_k"] ["_law_script", "_law_k"] (defScope (top 78)) := ⟨rfl, rfl, rfl, by decide +kernel, rfl, by decide +kernel, by decide +kernel⟩
theorem c_cell (F : Df K mg "_law_cell" (top 78)) (T : Bn mg) : Cal P w K mg base 1 "_law_cell" (spCell K) := by
  refine F.cal scCell (fun _ _ _ _ _ _ us hl => match us, hl with | [_, _], _ => rfl) (fun vs H Q E h => ?_) (fun cdv A outer f s H vs Q E hr h => ?_)
  · obtain ⟨a, ns, k, rfl, _⟩ := h
    rfl
  · obtain ⟨a, ns, k, rfl, qa, kk⟩ := h
    refine ⟨_, pss_cons (ps_if (pt_cmpR op_lt (pv 1) (pe_callB call_len_seq (by rfl) T.blen PySem.boot_len (pa_cons (pv 0) pa_nil)) (nomark _)) (pss_one (ps_ret (pe_ix ix_list (pv 0) (pv 1) (fun _ _ => rfl)))) pss_nil) (pss_one (ps_ret pe_int)), ?_⟩
    refine ⟨_, rfl, _, rfl, a, _, rfl, .inl qa, _, _, rfl, rfl, _, rfl, ite2 (fun h => ?_) (fun h => ?_)⟩
    · have hk : k < ns.length := by
        have := of_decide_eq_true h
        rw [List.length_map] at this
        omega
      exact ⟨_, rfl, _, rfl, a, _, _, _, rfl, rfl, qa, atI_map (i := k) 0 hk rfl, kk _⟩
    · exact kk 0
def InR (sizes ds : List Int) : Prop := ds.length = sizes.length ∧ ∀ (i : Nat) (d s : Int), ds[i]? = some d → sizes[i]? = some s → 0 ≤ d ∧ d < s
def spDraws (K : PySem.W.Frag) : Sp := fun vs H Q _ => ∃ c : Int, ∃ a, ∃ sizes : List Int, vs = [.int c, .ref a] ∧ SqL K H a (sizes.map V.int) ∧ sizes.length ≤ 10 ∧ (∀ s ∈ sizes, 0 < s ∧ s ≤ 100) ∧
  ∀ (ds : List Int) (b : Addr) (H' : Hp), Same H H' → H b = none → H' b = some (.lst (ds.map V.int)) → InR sizes ds → Q (.ref b) H'
abbrev nDraws : List Str := ["_law_cell_here", "_law_sizes", "_law_drawn", "_law_left", "_law_at", "_law_mixed"]
theorem scDraws : FnScope nDraws ["_law_cell_here", "_law_sizes"] (defScope (top 79)) := ⟨rfl, rfl, rfl, by decide +kernel, rfl, by decide +kernel, by decide +kernel⟩
theorem c_draws (F : Df K mg "_law_draws" (top 79)) (T : Bn mg) : Cal P w K mg base 1 "_law_draws" (spDraws K) := by
  refine F.cal scDraws (fun _ _ _ _ _ _ us hl => match us, hl with | [_, _], _ => rfl) (fun vs H Q E h => ?_) (fun cdv A outer f s H vs Q E hr h => ?_)
  · obtain ⟨c, a, sizes, rfl, _⟩ := h
    rfl
  · obtain ⟨c, a, sizes, rfl, qa, hl, hs, k⟩ := h
    refine ⟨_, pss_cons (ps_set (i := 2) scDraws.nd rfl (Or.inl rfl) (pe_lst pa_nil))
      (pss_cons (ps_set (i := 3) scDraws.nd rfl (Or.inl rfl) (pe_callB call_abs (by rfl) T.babs (by decide +kernel) (pa_cons (pv 0) pa_nil)))
      (pss_cons (ps_for PassesOwn.never rfl (pi_range1 rfl T.brange (pa_cons (pe_callB call_len_seq (by rfl) T.blen PySem.boot_len (pa_cons (pv 1) pa_nil)) pa_nil)) (pg_n 4 scDraws.nd)
        (pss_one (ps_if (pt_cmpR op_ge (pe_callB call_abs (by rfl) T.babs (by decide +kernel) (pa_cons (pv 0) pa_nil)) (pe_op op_pow pe_int pe_int) (nomark _))
          (pss_cons (ps_expr (pe_bm PySem.F.plainAttrs_list PySem.F.slot_list_append PySem.F.type_list_append mt_append (pv 2) (pa_cons (pe_op op_mod (pe_callTy call_int1 (by rfl) T.bint (by decide +kernel) (pa_cons (pv 3) pa_nil)) (pe_ix ix_list (pv 1) (pv 4) (fun _ _ => rfl))) pa_nil)))
          (pss_one (ps_set (i := 3) scDraws.nd rfl (Or.inl rfl) (pe_op op_fdivN (pv 3) (pe_ix ix_list (pv 1) (pv 4) (fun _ _ => rfl))))))
          (pss_cons (ps_set (i := 5) scDraws.nd rfl (Or.inl rfl) (pe_op op_mod (pe_callTy call_int1 (by rfl) T.bint (by decide +kernel) (pa_cons (pe_op op_mul (pe_op op_add (pe_op op_add (pv 3) (pe_op op_mul pe_int (pv 4))) pe_int) pe_int) pa_nil)) pe_int))
          (pss_cons (ps_set (i := 5) scDraws.nd rfl (Or.inl rfl) (pe_op op_mod (pe_callTy call_int1 (by rfl) T.bint (by decide +kernel) (pa_cons (pe_op op_add (pe_op op_add (pe_op op_mul (pe_op op_mul (pv 5) (pv 5)) pe_int) (pe_op op_mul pe_int (pv 4))) (pv 5)) pa_nil)) pe_int))
          (pss_one (ps_expr (pe_bm PySem.F.plainAttrs_list PySem.F.slot_list_append PySem.F.type_list_append mt_append (pv 2) (pa_cons (pe_op op_mod (pe_op op_fdivN (pv 5) pe_int) (pe_ix ix_list (pv 1) (pv 4) (fun _ _ => rfl))) pa_nil)))))))))
      (pss_one (ps_ret (pv 2))))), ?_⟩
    refine ⟨(by show 0 ≤ sizeLine; decide), fun R nR => ?_⟩
    refine ⟨_, rfl, _, rfl, ?_⟩
    have qa1 := Same.sL (Same.new (o := .lst []) nR) qa
    refine ⟨_, rfl, a, _, rfl, .inl qa1, _, rfl, by rw [List.length_map]; omega, by rw [List.length_map]; omega, ?_⟩
    have en : (((sizes.map V.int).length : Nat) : Int).toNat = sizes.length := by rw [List.length_map]; omega
    rw [en]
    refine for_it walk_range (fun i σ H1 => ∃ left : Int, ∃ x y, σ = [some (.int c), some (.ref a), some (.ref R), some (.int left), x, y] ∧ Same H H1 ∧ ∃ ds : List Int, H1 R = some (.lst (ds.map V.int)) ∧ InR (sizes.take i) ds)
      ⟨_, none, none, rfl, Same.new nR, [], upd_same, rfl, fun i d s h => by simp at h⟩ (fun _ _ _ _ _ => trivial) ?_ ?_
    · rintro i x σ _ H1 hi ⟨left, x, y, rfl, s1, ds, hR, hd⟩ ⟨rfl, rfl⟩
      have hsi : sizes[i]? = some sizes[i] := List.getElem?_eq_getElem hi
      have hsb := hs sizes[i] (List.getElem_mem hi)
      have hdl := hd.1
      rw [List.length_take] at hdl
      have hat : atI (sizes.map V.int) (0 + (i : Int)) = some (.int sizes[i]) := atI_of (i := i) (by rw [List.getElem?_map, hsi]; rfl) (by omega)
      have fin : ∀ (d : Int), 0 ≤ d → d < sizes[i] → InR (sizes.take (i + 1)) (ds ++ [d]) := fun d h0 h1 => by
        have et : sizes.take (i + 1) = sizes.take i ++ [sizes[i]] := (List.take_append_getElem hi).symm
        refine ⟨by rw [et, List.length_append, List.length_append, hd.1]; rfl, fun j d' s' e1 e2 => ?_⟩
        rw [et] at e2
        by_cases hj : j < ds.length
        · rw [List.getElem?_append_left hj] at e1
          rw [List.getElem?_append_left (by rw [← hd.1]; exact hj)] at e2
          exact hd.2 j d' s' e1 e2
        · rw [List.getElem?_append_right (by omega)] at e1
          rw [List.getElem?_append_right (by rw [← hd.1]; omega), ← hd.1] at e2
          have : j - ds.length = 0 := by
            have := (List.getElem?_eq_some_iff.mp e1).1
            simp at this
            omega
          rw [this] at e1 e2
          cases e1
          cases e2
          exact ⟨h0, h1⟩
      have hsz : (ds.map V.int).length < sizeLine := Nat.lt_of_le_of_lt (m := 100) (by rw [List.length_map]; omega) (by decide)
      refine ⟨_, rfl, _, rfl, _, _, rfl, rfl, ⟨by decide, by decide, by decide⟩, _, _, rfl, rfl, _, rfl, ite2 (fun hbig => ?_) (fun hbig => ?_)⟩
      · refine ⟨_, rfl, .inl ⟨rfl, _, .of hR⟩, _, rfl, .inl ⟨_, rfl, _, rfl, _, rfl, a, _, _, _, rfl, rfl, Same.sL s1 qa, hat, _, _, rfl, rfl, hsb.1, R, _, _, rfl, rfl, hR, hsz, ?_⟩⟩
        have hR2 := upd_same (H := H1) (a := R) (o := .lst (ds.map V.int ++ [V.int (left % sizes[i])]))
        have s2 : Same H (upd H1 R (.lst (ds.map V.int ++ [V.int (left % sizes[i])]))) := Same.upd s1 nR
        refine ⟨_, rfl, _, rfl, _, rfl, a, _, _, _, rfl, rfl, Same.sL s2 qa, hat, _, _, rfl, rfl, ⟨by omega, by omega⟩, ?_⟩
        refine ⟨_, _, _, rfl, s2, ds ++ [left % sizes[i]], by rw [upd_same, List.map_append]; rfl, fin _ (Int.emod_nonneg _ (by omega)) (Int.emod_lt_of_pos _ hsb.1)⟩
      · refine ⟨_, rfl, _, rfl, _, _, rfl, rfl, .inl (by decide), _, _, rfl, rfl, _, _, rfl, rfl, _, _, rfl, rfl, .inr (by decide), .inl ⟨_, rfl, _, _, rfl, rfl, (by show (0 : Int) < 2147483647; decide), ?_⟩⟩
        have m1a : 0 ≤ ((left + 11 * (0 + (i : Int)) + 3) * 48271) % 2147483647 := Int.emod_nonneg _ (by decide)
        have m1b : ((left + 11 * (0 + (i : Int)) + 3) * 48271) % 2147483647 < 2147483647 := Int.emod_lt_of_pos _ (by decide)
        have mm : CMul (((left + 11 * (0 + (i : Int)) + 3) * 48271) % 2147483647) (((left + 11 * (0 + (i : Int)) + 3) * 48271) % 2147483647) := .inl ⟨Int.lt_of_lt_of_le (by decide) m1a, Int.lt_trans m1b (by decide)⟩
        refine ⟨_, rfl, _, rfl, _, _, rfl, rfl, mm, _, _, rfl, rfl, .inr (by decide), _, rfl, _, _, rfl, rfl, .inl (by decide), _, _, rfl, rfl, _, rfl, _, _, rfl, rfl, .inl ⟨_, rfl, _, _, rfl, rfl, (by show (0 : Int) < 2147483629; decide), ?_⟩⟩
        refine ⟨_, rfl, .inl ⟨rfl, _, .of hR⟩, _, rfl, _, _, rfl, rfl, ⟨by decide, by decide⟩, _, rfl, _, rfl, a, _, _, _, rfl, rfl, Same.sL s1 qa, hat, _, _, rfl, rfl, hsb.1, R, _, _, rfl, rfl, hR, hsz, ?_⟩
        generalize (((left + 11 * (0 + (i : Int)) + 3) * 48271) % 2147483647 * (((left + 11 * (0 + (i : Int)) + 3) * 48271) % 2147483647) * 16807 + 97 * (0 + (i : Int)) + ((left + 11 * (0 + (i : Int)) + 3) * 48271) % 2147483647) % 2147483629 = m2
        have s2 : Same H (upd H1 R (.lst (ds.map V.int ++ [V.int (m2.fdiv 5 % sizes[i])]))) := Same.upd s1 nR
        refine ⟨_, _, _, rfl, s2, ds ++ [m2.fdiv 5 % sizes[i]], by rw [upd_same, List.map_append]; rfl, fin _ (Int.emod_nonneg _ (by omega)) (Int.emod_lt_of_pos _ hsb.1)⟩
    · rintro σ H1 ⟨left, x, y, rfl, s1, ds, hR, hd⟩
      rw [List.take_length] at hd
      exact ⟨_, rfl, k ds R H1 s1 nR hR hd⟩
end
end W5
set_option maxHeartbeats 8000000
/-! W5V2: the law's texts. -/
namespace W5
open PySem L2 K5
section
variable {P : Program} {w : World} {K : PySem.W.Frag} {mg : Str → Option Value} {base : Heap}
/-- one deed's word -/
def dW : Nat → Str
  | 0 => "go"
  | 1 => "turn 1"
  | 2 => "turn -1"
  | _ => "turn 2"
def wds (o : List Nat) : List Str := "paint" :: o.map dW
def Ops (ops : List (List Nat)) : Prop := ∀ o ∈ ops, o.length ≤ 2 ∧ ∀ k ∈ o, k < 4
theorem wds_len {ops : List (List Nat)} (h : Ops ops) : (ops.flatMap wds).length ≤ 3 * ops.length := by
  induction ops with
  | nil => exact Nat.le_refl _
  | cons o ops ih =>
    have h1 := (h o (List.mem_cons_self ..)).1
    have h2 := ih fun x hx => h x (List.mem_cons_of_mem _ hx)
    rw [List.flatMap_cons, List.length_append, List.length_cons]
    have : (wds o).length = o.length + 1 := by simp [wds]
    omega
theorem dW_len : ∀ k : Nat, (dW k).length ≤ 7
  | 0 => by decide +kernel
  | 1 => by decide +kernel
  | 2 => by decide +kernel
  | _ + 3 => by show Str.length "turn 2" ≤ 7; decide +kernel
theorem wds_mem {ops : List (List Nat)} {x : Str} (h : x ∈ ops.flatMap wds) : x.length ≤ 7 := by
  obtain ⟨o, _, hx⟩ := List.mem_flatMap.mp h
  rcases List.mem_cons.mp hx with rfl | hx
  · decide +kernel
  · obtain ⟨k, _, rfl⟩ := List.mem_map.mp hx
    exact dW_len k
theorem sum_le : ∀ (l : List Str), (∀ x ∈ l, x.length ≤ 7) → (l.map (·.length)).sum ≤ 7 * l.length
  | [], _ => Nat.le_refl _
  | x :: l, h => by
    have h1 := h x (List.mem_cons_self ..)
    have h2 := sum_le l fun y hy => h y (List.mem_cons_of_mem _ hy)
    rw [List.map_cons, List.sum_cons, List.length_cons]
    omega
theorem inR3 {ds : List Int} {a b c : Int} (h : InR [a, b, c] ds) : ∃ x y z : Int, ds = [x, y, z] ∧ (0 ≤ x ∧ x < a) ∧ (0 ≤ y ∧ y < b) ∧ 0 ≤ z ∧ z < c := by
  match ds, h with
  | [x, y, z], h => exact ⟨x, y, z, rfl, h.2 0 x a rfl rfl, h.2 1 y b rfl rfl, h.2 2 z c rfl rfl⟩
  | [], h => exact absurd h.1 (by simp)
  | [_], h => exact absurd h.1 (by simp)
  | [_, _], h => exact absurd h.1 (by simp)
  | _ :: _ :: _ :: _ :: _, h => exact absurd h.1 (by simp)
def spText (K : PySem.W.Frag) : Sp := fun vs H Q _ => ∃ a, ∃ ns : List Int, ∃ many : Nat, vs = [.ref a, .int many] ∧ SqL K H a (ns.map V.int) ∧ many ≤ 4 ∧
  ∀ (ops : List (List Nat)) (H' : Hp), Same H H' → ops.length = many → Ops ops → Q (.str (Txt.join " " (ops.flatMap wds))) H'
abbrev nText : List Str := ["_law_script", "_law_many", "_law_words", "_law_at", "_law_drawn", "_law_k"]
theorem scText : FnScope nText ["_law_script", "_law_many"] (defScope (top 81)) := ⟨rfl, rfl, rfl, by decide +kernel, rfl, by decide +kernel, by decide +kernel⟩
theorem c_text (F : Df K mg "_law_text" (top 81)) (T : Bn mg) (CC : Cal P w K mg base 1 "_law_cell" (spCell K)) (CD : Cal P w K mg base 1 "_law_draws" (spDraws K)) : Cal P w K mg base 2 "_law_text" (spText K) := by
  refine F.cal scText (fun _ _ _ _ _ _ us hl => match us, hl with | [_, _], _ => rfl) (fun vs H Q E h => ?_) (fun cdv A outer f s H vs Q E hr h => ?_)
  · obtain ⟨a, ns, many, rfl, _⟩ := h
    rfl
  · obtain ⟨a, ns, many, rfl, qa, hm, k⟩ := h
    refine ⟨_, pss_cons (ps_set (i := 2) scText.nd rfl (Or.inl rfl) (pe_lst pa_nil))
      (pss_cons (ps_for PassesOwn.never rfl (pi_range1 rfl T.brange (pa_cons (pv 1) pa_nil)) (pg_n 3 scText.nd)
        (pss_cons (ps_set (i := 4) scText.nd rfl (Or.inl rfl) (pe_c CD hr (by decide) rfl (pa_cons (pe_c CC hr (by decide) rfl (pa_cons (pv 0) (pa_cons (pe_op op_add pe_int (pv 3)) pa_nil))) (pa_cons (pe_lst (pa_cons pe_int (pa_cons pe_int (pa_cons pe_int pa_nil)))) pa_nil))))
        (pss_cons (ps_expr (pe_bm PySem.F.plainAttrs_list PySem.F.slot_list_append PySem.F.type_list_append mt_append (pv 2) (pa_cons pe_str pa_nil)))
        (pss_one (ps_for PassesOwn.never rfl (pi_range1 rfl T.brange (pa_cons (pe_ix ix_list (pv 4) pe_int (fun _ _ => rfl)) pa_nil)) (pg_n 5 scText.nd)
          (pss_one (ps_expr (pe_bm PySem.F.plainAttrs_list PySem.F.slot_list_append PySem.F.type_list_append mt_append (pv 2) (pa_cons (pe_ix ix_list (pe_lst (pa_cons pe_str (pa_cons pe_str (pa_cons pe_str (pa_cons pe_str pa_nil))))) (pe_ix ix_list (pv 4) (pe_op op_add pe_int (pe_op op_mod (pv 5) pe_int)) (fun _ _ => rfl)) (fun _ _ => rfl)) pa_nil)))))))))
      (pss_one (ps_ret (pe_join pe_str (pv 2))))), ?_⟩
    refine ⟨(by show 0 ≤ sizeLine; decide), fun R nR => ?_⟩
    refine ⟨_, rfl, _, rfl, by omega, by omega, ?_⟩
    have en : ((many : Nat) : Int).toNat = many := by omega
    rw [en]
    refine for_it walk_range (fun i σ H1 => ∃ x y z, σ = [some (.ref a), some (.int many), some (.ref R), x, y, z] ∧ Same H H1 ∧ ∃ ops : List (List Nat), H1 R = some (.lst ((ops.flatMap wds).map V.str)) ∧ ops.length = i ∧ Ops ops)
      ⟨none, none, none, rfl, Same.new nR, [], upd_same, rfl, fun o ho => by cases ho⟩ (fun _ _ _ _ _ => trivial) ?_ ?_
    · rintro i x σ _ H1 hi ⟨x1, x2, x3, rfl, s1, ops, hR, hl, ho⟩ ⟨rfl, rfl⟩
      refine ⟨_, rfl, _, rfl, _, _, rfl, rfl, a, ns, 1 + i, by simp, Same.sL s1 qa, fun c => ?_⟩
      refine ⟨(by show 3 ≤ sizeLine; decide), fun L nL => ?_⟩
      refine ⟨c, L, [3, 4, 4], rfl, .of upd_same, by decide, by decide, fun ds b H2 s2 nb hb hd => ?_⟩
      obtain ⟨d0, d1, d2, rfl, h0, h1, h2⟩ := inR3 hd
      have s3 : Same H1 H2 := Same.trans (Same.new nL) s2
      have hR2 := s3 _ _ hR
      have hlen := wds_len ho
      have hsz : ((ops.flatMap wds).map V.str).length < sizeLine := Nat.lt_of_le_of_lt (m := 100) (by rw [List.length_map]; omega) (by decide)
      refine ⟨_, rfl, .inl ⟨rfl, _, .of hR2⟩, R, _, _, rfl, rfl, hR2, hsz, ?_⟩
      have hdb : ([d0, d1, d2].map V.int).length = 3 := rfl
      obtain ⟨m, rfl⟩ : ∃ m : Nat, d0 = m := ⟨d0.toNat, by omega⟩
      obtain ⟨e1, rfl⟩ : ∃ m : Nat, d1 = m := ⟨d1.toNat, by omega⟩
      obtain ⟨e2, rfl⟩ : ∃ m : Nat, d2 = m := ⟨d2.toNat, by omega⟩
      have bR : b ≠ R := fun e => by
        rw [e, Same.new nL _ _ hR] at nb
        cases nb
      generalize hH4 : upd H2 R (.lst ((ops.flatMap wds).map V.str ++ [V.str "paint"])) = H4
      have s4 : Same H H4 := by rw [← hH4]; exact Same.upd (Same.trans s1 s3) nR
      have hb4 : H4 b = some (.lst [.int m, .int e1, .int e2]) := by rw [← hH4, upd_ne bR]; exact hb
      have hR4 : H4 R = some (.lst ((ops.flatMap wds ++ wds []).map V.str)) := by rw [← hH4, upd_same, List.map_append]; rfl
      refine ⟨_, rfl, b, _, _, _, rfl, rfl, .of hb4, rfl, _, rfl, by omega, by omega, ?_⟩
      have en2 : ((m : Nat) : Int).toNat = m := by omega
      rw [en2]
      refine for_it walk_range (fun j σ H3 => ∃ x y, σ = [some (.ref a), some (.int many), some (.ref R), x, some (.ref b), y] ∧ Same H H3 ∧ H3 b = some (.lst [.int m, .int e1, .int e2]) ∧ ∃ o : List Nat, H3 R = some (.lst ((ops.flatMap wds ++ wds o).map V.str)) ∧ o.length = j ∧ ∀ k ∈ o, k < 4)
        ⟨_, x3, rfl, s4, hb4, [], hR4, rfl, fun o ho => by cases ho⟩ (fun _ _ _ _ _ => trivial) ?_ ?_
      · rintro j x σ _ H3 hj ⟨x1, x2, rfl, s5, hb5, o, hR5, ho1, ho2⟩ ⟨rfl, rfl⟩
        obtain ⟨e, he4, hat⟩ : ∃ e : Nat, e < 4 ∧ atI [V.int m, V.int e1, V.int e2] (1 + (0 + (j : Int)) % 2) = some (.int e) := by
          have : (0 + (j : Int)) % 2 = 0 ∨ (0 + (j : Int)) % 2 = 1 := by omega
          rcases this with h | h
          · exact ⟨e1, by omega, by rw [h]; rfl⟩
          · exact ⟨e2, by omega, by rw [h]; rfl⟩
        have hat2 : atI [V.str "go", V.str "turn 1", V.str "turn -1", V.str "turn 2"] (e : Int) = some (.str (dW e)) := by
          match e, he4 with
          | 0, _ => rfl
          | 1, _ => rfl
          | 2, _ => rfl
          | 3, _ => rfl
        have hwl : (wds o).length = o.length + 1 := by simp [wds]
        have hsz2 : ((ops.flatMap wds ++ wds o).map V.str).length < sizeLine := Nat.lt_of_le_of_lt (m := 100) (by rw [List.length_map, List.length_append]; omega) (by decide)
        refine ⟨_, rfl, .inl ⟨rfl, _, .of hR5⟩, (by show 4 ≤ sizeLine; decide), fun L2 nL2 => ?_⟩
        have s6 : Same H3 (upd H3 L2 (.lst [V.str "go", V.str "turn 1", V.str "turn -1", V.str "turn 2"])) := Same.new nL2
        refine ⟨_, rfl, _, rfl, _, _, rfl, rfl, (by show (0 : Int) < 2; decide), _, _, rfl, rfl, b, _, _, _, rfl, rfl, .of (s6 _ _ hb5), hat, L2, _, _, _, rfl, rfl, .of upd_same, hat2, R, _, _, rfl, rfl, s6 _ _ hR5, hsz2, ?_⟩
        refine ⟨_, _, rfl, Same.upd (Same.trans s5 s6) nR, by rw [upd_ne bR]; exact s6 _ _ hb5, o ++ [e], ?_, by rw [List.length_append, ho1]; rfl, fun k hk => ?_⟩
        · rw [upd_same]
          simp [wds]
        · rcases List.mem_append.mp hk with h | h
          · exact ho2 k h
          · rw [List.mem_singleton.mp h]
            exact he4
      · rintro σ H3 ⟨x1, x2, rfl, s5, hb5, o, hR5, ho1, ho2⟩
        refine ⟨_, _, _, rfl, s5, ops ++ [o], by rw [hR5, List.flatMap_append]; simp, by rw [List.length_append, hl]; rfl, fun o' ho' => ?_⟩
        rcases List.mem_append.mp ho' with h | h
        · exact ho o' h
        · rw [List.mem_singleton.mp h]
          exact ⟨by omega, ho2⟩
    · rintro σ H1 ⟨x1, x2, x3, rfl, s1, ops, hR, hl, ho⟩
      have hlen := wds_len ho
      have hsum := sum_le (ops.flatMap wds) fun x hx => wds_mem hx
      refine ⟨⟨_, rfl⟩, _, rfl, " ", R, ops.flatMap wds, rfl, rfl, .inl (.of hR), ?_, k ops H1 s1 hl ho⟩
      have : Str.length " " = 1 := by decide +kernel
      rw [this]
      omega
end
end W5
set_option maxHeartbeats 8000000
/-! W5V3: the law's programs. -/
namespace W5
open PySem L2 K5
section
variable {P : Program} {w : World} {K : PySem.W.Frag} {mg : Str → Option Value} {base : Heap}
def tPA : Nat → Str
  | 0 => "repeat 1 [ paint turn 1 go ]"
  | 1 => "repeat 2 [ paint turn 1 go ]"
  | 2 => "repeat 3 [ paint turn 1 go ]"
  | _ => "repeat 4 [ paint turn 1 go ]"
def tPB : Nat → Str
  | 0 => "let side [ paint turn 1 go ]  repeat 1 [ side ]\npaint"
  | 1 => "let side [ paint turn 1 go ]  repeat 2 [ side ]\npaint"
  | 2 => "let side [ paint turn 1 go ]  repeat 3 [ side ]\npaint"
  | _ => "let side [ paint turn 1 go ]  repeat 4 [ side ]\npaint"
def dS : Nat → Str
  | 0 => "1"
  | 1 => "2"
  | 2 => "3"
  | _ => "4"
theorem toS : ∀ {e : Nat}, e < 4 → Str.ofString (toString (1 + (e : Int))) = dS e
  | 0, _ => by rfl
  | 1, _ => by rfl
  | 2, _ => by rfl
  | 3, _ => by rfl
theorem dS_len : ∀ e : Nat, (dS e).length = 1
  | 0 => by decide +kernel
  | 1 => by decide +kernel
  | 2 => by decide +kernel
  | _ + 3 => by show Str.length "4" = 1; decide +kernel
theorem tPA_eq : ∀ {e : Nat}, e < 4 → ("repeat " : Str) ++ dS e ++ (" [ paint turn 1 go ]" : Str) = tPA e
  | 0, _ => by decide +kernel
  | 1, _ => by decide +kernel
  | 2, _ => by decide +kernel
  | 3, _ => by decide +kernel
theorem tPB_eq : ∀ {e : Nat}, e < 4 → ("let side [ paint turn 1 go ]  repeat " : Str) ++ dS e ++ (" [ side ]\npaint" : Str) = tPB e
  | 0, _ => by decide +kernel
  | 1, _ => by decide +kernel
  | 2, _ => by decide +kernel
  | 3, _ => by decide +kernel
/-- the text of a program, d the first draw -/
def Prg (d : Int) (t : Str) : Prop := (d = 0 ∧ ∃ n, n < 4 ∧ t = tPA n) ∨ (d = 1 ∧ ∃ n, n < 4 ∧ t = tPB n) ∨ (2 ≤ d ∧ ∃ ops, 1 ≤ ops.length ∧ ops.length ≤ 4 ∧ Ops ops ∧ t = Txt.join " " (ops.flatMap wds))
def spProg (K : PySem.W.Frag) : Sp := fun vs H Q _ => ∃ a b, ∃ ns : List Int, ∃ d0 d1 : Int, vs = [.ref a, .ref b] ∧ SqL K H a (ns.map V.int) ∧ SqL K H b [.int d0, .int d1] ∧ (0 ≤ d0 ∧ d0 < 4) ∧ (0 ≤ d1 ∧ d1 < 4) ∧
  ∀ (t : Str) (H' : Hp), Same H H' → Prg d0 t → Q (.str t) H'
theorem log_ok : ∀ {e : Nat}, e < 4 → (1 + (e : Int)).natAbs.log2 < 1920
  | 0, _ => by decide
  | 1, _ => by decide
  | 2, _ => by decide
  | 3, _ => by decide
theorem scProg : FnScope ["_law_script", "_law_drawn"] ["_law_script", "_law_drawn"] (defScope (top 82)) := ⟨rfl, rfl, rfl, by decide +kernel, rfl, by decide +kernel, by decide +kernel⟩
theorem c_program (F : Df K mg "_law_program" (top 82)) (T : Bn mg) (CT : Cal P w K mg base 2 "_law_text" (spText K)) : Cal P w K mg base 3 "_law_program" (spProg K) := by
  refine F.cal scProg (fun _ _ _ _ _ _ us hl => match us, hl with | [_, _], _ => rfl) (fun vs H Q E h => ?_) (fun cdv A outer f s H vs Q E hr h => ?_)
  · obtain ⟨a, b, ns, d0, d1, rfl, _⟩ := h
    rfl
  · obtain ⟨a, b, ns, d0, d1, rfl, qa, qb, h0, h1, k⟩ := h
    refine ⟨_, pss_cons (ps_if (pt_cmpR op_eq (pe_ix ix_list (pv 1) pe_int (fun _ _ => rfl)) pe_int (nomark _)) (pss_one (ps_ret (pe_op op_add_str (pe_op op_add_str pe_str (pe_callTy call_str_int (by rfl) T.bstr PySem.Pv.boot_str (pa_cons (pe_op op_add pe_int (pe_ix ix_list (pv 1) pe_int (fun _ _ => rfl))) pa_nil))) pe_str))) pss_nil)
      (pss_cons (ps_if (pt_cmpR op_eq (pe_ix ix_list (pv 1) pe_int (fun _ _ => rfl)) pe_int (nomark _)) (pss_one (ps_ret (pe_op op_add_str (pe_op op_add_str pe_str (pe_callTy call_str_int (by rfl) T.bstr PySem.Pv.boot_str (pa_cons (pe_op op_add pe_int (pe_ix ix_list (pv 1) pe_int (fun _ _ => rfl))) pa_nil))) pe_str))) pss_nil)
      (pss_one (ps_ret (pe_c CT hr (by decide) rfl (pa_cons (pv 0) (pa_cons (pe_op op_add pe_int (pe_ix ix_list (pv 1) pe_int (fun _ _ => rfl))) pa_nil)))))), ?_⟩
    obtain ⟨e1, rfl⟩ : ∃ m : Nat, d1 = m := ⟨d1.toNat, by omega⟩
    have he : e1 < 4 := by omega
    refine ⟨_, rfl, b, _, _, _, rfl, rfl, qb, rfl, rfl, _, rfl, ite2 (fun hd => ?_) (fun hd => ?_)⟩
    · have hd0 : d0 = 0 := by injection of_decide_eq_true hd
      refine ⟨_, rfl, b, _, _, _, rfl, rfl, qb, rfl, _, _, rfl, rfl, _, rfl, ?_, _, _, rfl, rfl, ?_, _, _, rfl, rfl, ?_, k _ _ (fun _ _ h => h) (.inl ⟨hd0, e1, he, ?_⟩)⟩
      · exact log_ok he
      · rw [toS he, dS_len]; exact Nat.le_trans (m := 100) (by decide +kernel) (by decide)
      · rw [toS he, Str.length_append, dS_len]; exact Nat.le_trans (m := 100) (by decide +kernel) (by decide)
      · rw [toS he]; exact tPA_eq he
    · refine ⟨_, rfl, b, _, _, _, rfl, rfl, qb, rfl, rfl, _, rfl, ite2 (fun hd2 => ?_) (fun hd2 => ?_)⟩
      · have hd0 : d0 = 1 := by injection of_decide_eq_true hd2
        refine ⟨_, rfl, b, _, _, _, rfl, rfl, qb, rfl, _, _, rfl, rfl, _, rfl, ?_, _, _, rfl, rfl, ?_, _, _, rfl, rfl, ?_, k _ _ (fun _ _ h => h) (.inr (.inl ⟨hd0, e1, he, ?_⟩))⟩
        · exact log_ok he
        · rw [toS he, dS_len]; exact Nat.le_trans (m := 100) (by decide +kernel) (by decide)
        · rw [toS he, Str.length_append, dS_len]; exact Nat.le_trans (m := 100) (by decide +kernel) (by decide)
        · rw [toS he]; exact tPB_eq he
      · have hd0 : d0 ≠ 0 := fun e => hd (by rw [e]; rfl)
        have hd1 : d0 ≠ 1 := fun e => hd2 (by rw [e]; rfl)
        refine ⟨_, rfl, _, rfl, b, _, _, _, rfl, rfl, qb, rfl, _, _, rfl, rfl, a, ns, 1 + e1, by simp, qa, by omega, fun ops H1 s1 hl ho => ?_⟩
        exact k _ _ s1 (.inr (.inr ⟨by omega, ops, by omega, by omega, ho, rfl⟩))
end
end W5
/-! W5T1: words of the texts. -/
namespace W5
open PySem L2
theorem words_tPA : ∀ {e : Nat}, e < 4 → Txt.words (tPA e) = (["repeat", dS e, "[", "paint", "turn", "1", "go", "]"] : List Str)
  | 0, _ => by decide +kernel
  | 1, _ => by decide +kernel
  | 2, _ => by decide +kernel
  | 3, _ => by decide +kernel
theorem words_tPB : ∀ {e : Nat}, e < 4 → Txt.words (tPB e) = (["let", "side", "[", "paint", "turn", "1", "go", "]", "repeat", dS e, "[", "side", "]", "paint"] : List Str)
  | 0, _ => by decide +kernel
  | 1, _ => by decide +kernel
  | 2, _ => by decide +kernel
  | 3, _ => by decide +kernel
end W5
/-! W5T2: words of a joined text. -/
namespace W5
open PySem L2
/-- the words of a deed -/
def dT : Nat → List Str
  | 0 => ["go"]
  | 1 => ["turn", "1"]
  | 2 => ["turn", "-1"]
  | _ => ["turn", "2"]
def toks (o : List Nat) : List Str := "paint" :: o.flatMap dT
theorem joinL_cons {S p : List Nat} {r : List (List Nat)} (h : r ≠ []) : TL.joinL S (p :: r) = p ++ (S ++ TL.joinL S r) := by
  cases r with
  | nil => exact absurd rfl h
  | cons q r => rfl
theorem joinL_app {S : List Nat} : ∀ {a b : List (List Nat)}, a ≠ [] → b ≠ [] → TL.joinL S (a ++ b) = TL.joinL S a ++ (S ++ TL.joinL S b)
  | [], _, h, _ => absurd rfl h
  | [p], b, _, hb => joinL_cons hb
  | p :: q :: r, b, _, hb => by
    show p ++ (S ++ TL.joinL S ((q :: r) ++ b)) = (p ++ (S ++ TL.joinL S (q :: r))) ++ _
    rw [joinL_app (by simp) hb]
    simp [List.append_assoc]
theorem joinL_flat {α : Type} {S : List Nat} {f : α → List (List Nat)} {g : α → List Nat} : ∀ {l : List α}, (∀ x ∈ l, f x ≠ [] ∧ TL.joinL S (f x) = g x) → TL.joinL S (l.flatMap f) = TL.joinL S (l.map g)
  | [], _ => rfl
  | [p], h => by
    rw [List.flatMap_cons, List.flatMap_nil, List.append_nil]
    exact (h p (List.mem_singleton.mpr rfl)).2
  | p :: q :: r, h => by
    have hp := h p (List.mem_cons_self ..)
    have hq := h q (by simp)
    have ih := joinL_flat (l := q :: r) fun x hx => h x (List.mem_cons_of_mem _ hx)
    rw [List.flatMap_cons, joinL_app hp.1 (by rw [List.flatMap_cons]; simp [hq.1]), ih, hp.2]
    rfl
def flat (ops : List (List Nat)) : List (Option Nat) := ops.flatMap fun o => none :: o.map some
def gW : Option Nat → Str
  | none => "paint"
  | some k => dW k
def gT : Option Nat → List Str
  | none => ["paint"]
  | some k => dT k
theorem flat_wds : ∀ ops : List (List Nat), ops.flatMap wds = (flat ops).map gW
  | [] => rfl
  | o :: ops => by
    rw [List.flatMap_cons, flat_wds ops]
    simp [flat, wds, gW]
theorem flat_toks : ∀ ops : List (List Nat), ops.flatMap toks = (flat ops).flatMap gT
  | [] => rfl
  | o :: ops => by
    rw [List.flatMap_cons, flat_toks ops]
    simp [flat, toks, gT, List.flatMap_map, List.flatMap_append]
theorem gT_ok : ∀ x : Option Nat, (gT x).map TL.tl ≠ [] ∧ TL.joinL [32] ((gT x).map TL.tl) = TL.tl (gW x) ∧ ∀ p ∈ (gT x).map TL.tl, p ≠ [] ∧ ∀ c ∈ p, Unicode.isSpace c = false
  | none => by decide +kernel
  | some 0 => by decide +kernel
  | some 1 => by decide +kernel
  | some 2 => by decide +kernel
  | some (_ + 3) => by
    show (["turn", "2"] : List Str).map TL.tl ≠ [] ∧ TL.joinL [32] ((["turn", "2"] : List Str).map TL.tl) = TL.tl "turn 2" ∧ ∀ p ∈ (["turn", "2"] : List Str).map TL.tl, p ≠ [] ∧ ∀ c ∈ p, Unicode.isSpace c = false
    decide +kernel
theorem words_ops {ops : List (List Nat)} (h : 1 ≤ ops.length) : Txt.words (Txt.join " " (ops.flatMap wds)) = ops.flatMap toks := by
  refine TL.map_tl_inj ?_
  rw [TL.words_tl, TL.join_eq, TL.tl_join, flat_wds, flat_toks, List.map_map]
  have e32 : TL.tl " " = [32] := by decide +kernel
  have ne : (flat ops).flatMap (fun x => (gT x).map TL.tl) ≠ [] := by
    match ops, h with
    | o :: ops, _ => simp [flat, gT]
  rw [e32, ← joinL_flat (f := fun x => (gT x).map TL.tl) (g := TL.tl ∘ gW) (fun x _ => ⟨(gT_ok x).1, (gT_ok x).2.1⟩), TL.wfold_join _ [] ne (fun p hp => ?_)]
  · rw [List.nil_append, List.map_flatMap]
  · obtain ⟨x, _, hx⟩ := List.mem_flatMap.mp hp
    exact (gT_ok x).2.2 p hx
end W5
set_option maxHeartbeats 8000000
/-! W5R1: is_number, is_name. -/
namespace W5
open PySem L2 K5
section
variable {P : Program} {w : World} {K : PySem.W.Frag} {mg : Str → Option Value} {base : Heap}
def spIsNum : Sp := fun vs H Q _ => ∃ e most : Nat, vs = [.str (dS e), .int most] ∧ 1 ≤ most ∧ Q (.bl true) H
theorem dS_dig : ∀ e : Nat, Txt.isdigit (dS e) = true
  | 0 => by decide +kernel
  | 1 => by decide +kernel
  | 2 => by decide +kernel
  | _ + 3 => by show Txt.isdigit "4" = true; decide +kernel
theorem dS_zero : ∀ e : Nat, dS e ≠ "0"
  | 0 => by decide +kernel
  | 1 => by decide +kernel
  | 2 => by decide +kernel
  | _ + 3 => by show ("4" : Str) ≠ "0"; decide +kernel
theorem dS_first : ∀ e : Nat, ∃ c, atI (dS e).cps.toList 0 = some c ∧ (⟨#[c]⟩ : Str) ≠ "0"
  | 0 => ⟨49, by decide +kernel, by decide +kernel⟩
  | 1 => ⟨50, by decide +kernel, by decide +kernel⟩
  | 2 => ⟨51, by decide +kernel, by decide +kernel⟩
  | _ + 3 => ⟨52, by show atI (Str.cps "4").toList 0 = some 52; decide +kernel, by decide +kernel⟩
theorem scNum : FnScope ["word", "most"] ["word", "most"] (defScope (top 44)) := ⟨rfl, rfl, rfl, by decide +kernel, rfl, by decide +kernel, by decide +kernel⟩
theorem c_isNum (F : Df K mg "is_number" (top 44)) (T : Bn mg) : Cal P w K mg base 1 "is_number" spIsNum := by
  refine F.cal scNum (fun _ _ _ _ _ _ us hl => match us, hl with | [_, _], _ => rfl) (fun vs H Q E h => ?_) (fun cdv A outer f s H vs Q E hr h => ?_)
  · obtain ⟨e, most, rfl, _⟩ := h
    rfl
  · obtain ⟨e, most, rfl, hm, k⟩ := h
    refine ⟨_, pss_cons (ps_if (PW.pt (pw_or (pt_not (pt_val (pe_m0 PySem.F.slot_str_isdigit PySem.F.type_str_isdigit mt_isdigit (pv 0)))) (pw_or1 (pt_cmpR op_gt (pe_callB call_len_str (by rfl) T.blen PySem.boot_len (pa_cons (pv 0) pa_nil)) (pv 1) (nomark _))))) pss_never pss_nil) (pss_one (ps_ret (pe_or (pe_cmpR op_eq (pv 0) pe_str (nomark _)) (pe_one (pe_cmpR op_ne (pe_ix ix_str (pv 0) pe_int (fun _ _ => rfl)) pe_str (nomark _)))))), ?_⟩
    obtain ⟨c, hc, hn⟩ := dS_first e
    have hl := dS_len e
    refine ⟨_, rfl, ⟨_, rfl⟩, _, rfl, rfl, trivial, _, rfl, ?_⟩
    rw [dS_dig]
    refine iteF (A := False) ?_
    refine ⟨_, rfl, _, rfl, by rw [hl]; decide, _, rfl, _, _, rfl, rfl, _, rfl, ?_⟩
    rw [hl]
    refine iteDF (by omega) ?_
    refine ⟨_, rfl, rfl, _, rfl, iteDF (fun q => dS_zero e (by injection q)) ?_⟩
    exact ⟨_, rfl, _, _, c, rfl, rfl, by rw [hl]; decide, hc, rfl, by rw [decide_eq_false (fun q => hn (by injection q))]; exact k⟩
def spIsName : Sp := fun vs H Q _ => vs = [.str "side"] ∧ Q (.bl true) H
theorem scName : FnScope ["word"] ["word"] (defScope (top 45)) := ⟨rfl, rfl, rfl, by decide +kernel, rfl, by decide +kernel, by decide +kernel⟩
def wordsV : List V := [.str "go", .str "turn", .str "paint", .str "repeat", .str "back", .str "let"]
/-- what the programs' module holds -/
structure PM (K : PySem.W.Frag) (mg : Str → Option Value) (aW : Addr) : Prop where
  mW : mg "WORDS" = some (.ref aW)
  tW : ∀ H, SqT K H aW wordsV
  mO : ∃ t, mg "MOST_OPEN" = some (.int 5 t)
  mG : ∃ t, mg "MOST_GOES_DONE" = some (.int 60 t)
  mR : ∃ t, mg "MOST_OTHERS_DONE" = some (.int 400 t)
theorem wordsV_flat : wordsV.all flatV = true := by decide +kernel
theorem c_isName {aW : Addr} (F : Df K mg "is_name" (top 45)) (T : Bn mg) (M : PM K mg aW) : Cal P w K mg base 1 "is_name" spIsName := by
  refine F.cal scName (fun _ _ _ _ _ _ us hl => match us, hl with | [_], _ => rfl) (fun vs H Q E h => ?_) (fun cdv A outer f s H vs Q E hr h => ?_)
  · obtain ⟨rfl, _⟩ := h
    rfl
  · obtain ⟨rfl, k⟩ := h
    refine ⟨_, pss_cons (ps_if (PW.pt (pw_or (pt_not (pt_val (pe_m0 PySem.F.slot_str_isalpha PySem.F.type_str_isalpha mt_isalpha (pv 0)))) (pw_or (pt_not (pt_val (pe_m0 PySem.F.slot_str_islower PySem.F.type_str_islower mt_islower (pv 0)))) (pw_or1 (pt_cmpR op_gt (pe_callB call_len_str (by rfl) T.blen PySem.boot_len (pa_cons (pv 0) pa_nil)) pe_int (nomark _)))))) pss_never pss_nil) (pss_one (ps_ret (pe_cmpR op_notIn_seq (pv 0) (pe_glob rfl M.mW (rvr aW)) (by rfl)))), ?_⟩
    have hl : Str.length "side" = 4 := by decide +kernel
    refine ⟨_, rfl, ⟨_, rfl⟩, _, rfl, rfl, trivial, _, rfl, ?_⟩
    rw [show Txt.isalpha "side" = true by decide +kernel]
    refine iteF (A := False) ?_
    refine ⟨_, rfl, ⟨_, rfl⟩, _, rfl, rfl, trivial, _, rfl, ?_⟩
    rw [show Txt.islower "side" = true by decide +kernel]
    refine iteF (A := False) ?_
    refine ⟨_, rfl, _, rfl, by rw [hl]; decide, _, _, rfl, rfl, _, rfl, ?_⟩
    rw [hl]
    refine iteDF (by omega) ?_
    refine ⟨_, rfl, aW, wordsV, rfl, .inr (M.tW _), rfl, wordsV_flat, ?_⟩
    rw [show inV (.str "side") wordsV = false by decide +kernel]
    exact k
end
end W5
set_option maxHeartbeats 8000000
/-! W5R2: the class Block. -/
namespace W5
open PySem L2 K5
/-- everything but the addresses of S as it was -/
def Sk (S : List Addr) (H H' : Hp) : Prop := ∀ a o, H a = some o → a ∉ S → H' a = some o
theorem Sk.refl (S : List Addr) (H : Hp) : Sk S H H := fun _ _ h _ => h
theorem Sk.trans {S : List Addr} {H H1 H2 : Hp} (a : Sk S H H1) (b : Sk S H1 H2) : Sk S H H2 := fun c o h n => b c o (a c o h n) n
theorem Sk.of {S : List Addr} {H H' : Hp} (s : Same H H') : Sk S H H' := fun a o h _ => s a o h
theorem Sk.up {S : List Addr} {H H' : Hp} {a : Addr} {o : HO} (s : Sk S H H') (h : a ∈ S) : Sk S H (upd H' a o) := fun b u e n => by
  rw [upd_ne (fun q : b = a => n (by rw [q]; exact h))]
  exact s b u e n
theorem Sk.mono {S S' : List Addr} {H H' : Hp} (s : Sk S H H') (h : ∀ a ∈ S, a ∈ S') : Sk S' H H' := fun a o e n => s a o e fun q => n (h a q)
theorem Sk.new {S : List Addr} {H H' : Hp} {a : Addr} {o : HO} (s : Sk S H H') (h : H a = none) : Sk S H (upd H' a o) := fun b u e n => by
  rw [upd_ne (ne_of_none e h)]
  exact s b u e n
/-- a thing of another kind than those at S -/
theorem Sk.sL {K : PySem.W.Frag} {S : List Addr} {H H' : Hp} {a : Addr} {xs : List V} (s : Sk S H H') (hS : ∀ b ∈ S, ∀ o, H b = some o → (∀ xs, o ≠ .lst xs) ∧ ∀ o' xs, o ≠ .frz o' (.lst xs)) (hn : ∀ b ∈ S, H b ≠ none) (h : SqL K H a xs) : SqL K H' a xs := by
  rcases h with (h | ⟨o, h⟩) | h
  · exact .inl (.inl (s _ _ h fun q => (hS _ q _ h).1 xs rfl))
  · exact .inl (.inr ⟨o, s _ _ h fun q => (hS _ q _ h).2 _ _ rfl⟩)
  · exact .inr h
theorem putF_ne {f g : Str} {v x : V} {r : List (Str × V)} (h : ¬ g = f) : putF f v ((g, x) :: r) = (g, x) :: putF f v r := if_neg h
theorem putF_nil {f : Str} {v : V} : putF f v [] = [(f, v)] := rfl
theorem putF_eq {f : Str} {v x : V} {r : List (Str × V)} : putF f v ((f, x) :: r) = (f, v) :: r := if_pos rfl
theorem look_ne {f g : Str} {x : V} {r : List (Str × V)} (h : ¬ f = g) : ((g, x) :: r).lookup f = r.lookup f := by
  have hb : (f == g) = false := beq_eq_false_iff_ne.mpr h
  simp only [List.lookup, hb]
theorem look_eq {f : Str} {x : V} {r : List (Str × V)} : ((f, x) :: r).lookup f = some x := by
  have hb : (f == f) = true := beq_iff_eq.mpr rfl
  simp only [List.lookup, hb]
/-! ### a Block's fields -/
def bF (L : Addr) (g o : Int) (p : Bool) : List (Str × V) := [("parts", .ref L), ("going", .int g), ("others", .int o), ("paints", .bl p)]
section
variable {L : Addr} {g o z : Int} {p b : Bool}
theorem bF_P : (bF L g o p).lookup ("parts" : Str) = some (.ref L) := look_eq
theorem bF_G : (bF L g o p).lookup ("going" : Str) = some (.int g) := (look_ne (by decide +kernel)).trans look_eq
theorem bF_O : (bF L g o p).lookup ("others" : Str) = some (.int o) := (look_ne (by decide +kernel)).trans ((look_ne (by decide +kernel)).trans look_eq)
theorem bF_N : (bF L g o p).lookup ("paints" : Str) = some (.bl p) := (look_ne (by decide +kernel)).trans ((look_ne (by decide +kernel)).trans ((look_ne (by decide +kernel)).trans look_eq))
theorem bF_no {m : Str} (h1 : ¬ m = "parts") (h2 : ¬ m = "going") (h3 : ¬ m = "others") (h4 : ¬ m = "paints") : (bF L g o p).lookup m = none := (look_ne h1).trans ((look_ne h2).trans ((look_ne h3).trans (look_ne h4)))
theorem bF_pG : putF "going" (.int z) (bF L g o p) = bF L z o p := by
  unfold bF
  rw [putF_ne (by decide +kernel), putF_eq]
theorem bF_pO : putF "others" (.int z) (bF L g o p) = bF L g z p := by
  unfold bF
  rw [putF_ne (by decide +kernel), putF_ne (by decide +kernel), putF_eq]
theorem bF_pN : putF "paints" (.bl b) (bF L g o p) = bF L g o b := by
  unfold bF
  rw [putF_ne (by decide +kernel), putF_ne (by decide +kernel), putF_ne (by decide +kernel), putF_eq]
theorem bF_new : putF "paints" (.bl p) (putF "others" (.int o) (putF "going" (.int g) (putF "parts" (.ref L) []))) = bF L g o p := by
  repeat (first | rw [putF_nil] | rw [putF_ne (by decide +kernel)])
  rfl
end
structure BC (K : PySem.W.Frag) (CB : Addr) : Prop where
  cl : Cls K CB
  nP : NoAttr K CB "parts"
  nG : NoAttr K CB "going"
  nO : NoAttr K CB "others"
  nN : NoAttr K CB "paints"
section
variable {P : Program} {w : World} {K : PySem.W.Frag} {mg : Str → Option Value} {base : Heap} {CB : Addr}
def spBI (CB : Addr) : Sp := fun vs H Q _ => ∃ x dx, vs = [.ref x] ∧ H x = some (.ins CB dx []) ∧ ∀ H' L, Sx x H H' → H L = none → H' x = some (.ins CB dx (bF L 0 0 false)) → H' L = some (.lst []) → Q .non H'
theorem scBI : FnScope ["self"] ["self"] (defScope (inClass (top 46) 0)) := ⟨rfl, rfl, rfl, by decide +kernel, rfl, by decide +kernel, by decide +kernel⟩
theorem c_BI (D : DfI K mg "Block" CB "Block.__init__" (inClass (top 46) 0)) (B : BC K CB) : Mak P w K mg base 1 "Block" CB (spBI CB) := by
  refine D.mak scBI (fun _ _ _ _ _ _ us hl => match us, hl with | [_], _ => rfl) (fun vs H Q E h => ?_) (fun cdv A outer f s H vs Q E hr h => ?_)
  · obtain ⟨x, dx, rfl, _⟩ := h
    rfl
  · obtain ⟨x, dx, rfl, hx, k⟩ := h
    refine ⟨_, pss_cons (ps_fld (pv 0) (pe_lst pa_nil) rfl) (pss_cons (ps_fld (pv 0) pe_int rfl) (pss_cons (ps_fld (pv 0) pe_int rfl) (pss_one (ps_fld (pv 0) pe_bl rfl)))), ?_⟩
    refine ⟨(by show 0 ≤ sizeLine; decide), fun L nL => ?_⟩
    have s1 : Same H (upd H L (.lst [])) := Same.new nL
    have xL : L ≠ x := fun e => by rw [e, hx] at nL; cases nL
    refine ⟨_, rfl, x, CB, dx, _, rfl, s1 _ _ hx, B.cl, B.nP, (by show 0 < 1000; decide), ?_⟩
    refine ⟨_, rfl, x, CB, dx, _, rfl, upd_same, B.cl, B.nG, (by show 1 < 1000; decide), ?_⟩
    rw [upd_upd]
    refine ⟨_, rfl, x, CB, dx, _, rfl, upd_same, B.cl, B.nO, (by show 2 < 1000; decide), ?_⟩
    rw [upd_upd]
    refine ⟨_, rfl, x, CB, dx, _, rfl, upd_same, B.cl, B.nN, (by show 3 < 1000; decide), ?_⟩
    rw [upd_upd, bF_new]
    exact k _ L (Sx.upd (Sx.of s1)) nL upd_same (by rw [upd_ne xL]; exact upd_same)
/-- Block() in a reading -/
theorem mkB_of {H : Hp} {Q : VK} (k : ∀ x dx L H2, Same H H2 → H x = none → H L = none → L ≠ x → H2 x = some (.ins CB dx (bF L 0 0 false)) → H2 L = some (.lst []) → Q (.ref x) H2) :
    ∀ x dx, H x = none → H dx = none → dx ≠ x → spBI CB (.ref x :: ([] ++ [])) (upd (upd H dx (.own x)) x (.ins CB dx [])) (fun v H2 => v = .non ∧ Q (.ref x) H2) E0 := by
  intro x dx nx nd ne
  have s0 : Same H (upd (upd H dx (.own x)) x (.ins CB dx [])) := Same.upd (Same.new nd) nx
  refine ⟨x, dx, rfl, upd_same, fun H' L kp nL hx hL => ⟨rfl, ?_⟩⟩
  have xL : L ≠ x := fun e => by rw [e, upd_same] at nL; cases nL
  have dL : L ≠ dx := fun e => by rw [e, upd_ne ne, upd_same] at nL; cases nL
  rw [upd_ne xL, upd_ne dL] at nL
  exact k x dx L H' (fun b o e => kp b o (s0 b o e) (ne_of_none e nx)) nx nL xL hx hL
/-- a block at b, its parts at L -/
def Blk (CB : Addr) (H : Hp) (b L : Addr) (vs : List V) (g o : Int) (p : Bool) : Prop := (∃ db, H b = some (.ins CB db (bF L g o p))) ∧ H L = some (.lst vs)
def spDeed (CB : Addr) : Sp := fun vs H Q _ => ∃ b L x k ws g o p, vs = [.ref b, .str x, .int k] ∧ Blk CB H b L ws g o p ∧ ws.length ≤ 1000 ∧
  ∀ H' t, Sk [b, L] H H' → H t = none → H' t = some (.tup [.str x, .int k]) → Blk CB H' b L (ws ++ [.ref t]) (if x = "go" then g + 1 else g) (if x = "go" then o else o + 1) (if x = "paint" then true else p) → Q .non H'
theorem scDeed : FnScope ["self", "word", "k"] ["self", "word", "k"] (defScope (inClass (top 46) 1)) := ⟨rfl, rfl, rfl, by decide +kernel, rfl, by decide +kernel, by decide +kernel⟩
theorem c_deed (D : DfM K CB "put_deed" "Block.put_deed" (inClass (top 46) 1)) (B : BC K CB) : Met P w K mg base 1 CB "put_deed" (spDeed CB) := by
  refine D.met scDeed (fun _ _ _ _ _ _ us hl => match us, hl with | [_, _, _], _ => rfl) (fun vs H Q E h => ?_) (fun cdv A outer f s H vs Q E hr h => ?_)
  · obtain ⟨b, L, x, k, ws, g, o, p, rfl, _⟩ := h
    rfl
  · obtain ⟨b, L, x, n, ws, g, o, p, rfl, ⟨⟨db, hb⟩, hL⟩, hl, k⟩ := h
    refine ⟨_, pss_cons (ps_expr (pe_bm PySem.F.plainAttrs_list PySem.F.slot_list_append PySem.F.type_list_append mt_append (pe_fld (pv 0) rfl) (pa_cons (pe_tup (pa_cons (pv 1) (pa_cons (pv 2) pa_nil))) pa_nil)))
      (pss_cons (ps_if (pt_cmpR op_eq (pv 1) pe_str (nomark _)) (pss_one (ps_fldaug (pv 0) pe_int in_add)) (pss_one (ps_fldaug (pv 0) pe_int in_add)))
      (pss_one (ps_if (pt_cmpR op_eq (pv 1) pe_str (nomark _)) (pss_one (ps_fld (pv 0) pe_bl rfl)) pss_nil))), ?_⟩
    have bL : b ≠ L := ne_of hb hL fun z => by cases z
    refine ⟨_, rfl, b, CB, db, _, _, rfl, hb, B.cl, B.nP, bF_P, .inl ⟨rfl, _, .of hL⟩, _, rfl, _, rfl, (by show 2 ≤ sizeLine; decide), fun t nt => ?_⟩
    have s1 : Same H (upd H t (.tup [.str x, .int n])) := Same.new nt
    have tL : t ≠ L := fun e => by rw [e, hL] at nt; cases nt
    have tb : t ≠ b := fun e => by rw [e, hb] at nt; cases nt
    refine ⟨L, _, _, rfl, rfl, s1 _ _ hL, Nat.lt_of_le_of_lt hl (by decide), ?_⟩
    generalize hH2 : upd (upd H t (.tup [.str x, .int n])) L (.lst (ws ++ [.ref t])) = H2
    have s2 : Sk [b, L] H H2 := by rw [← hH2]; exact Sk.up (Sk.of s1) (by simp)
    have hb2 : H2 b = some (.ins CB db (bF L g o p)) := by rw [← hH2, upd_ne bL]; exact s1 _ _ hb
    have hL2 : H2 L = some (.lst (ws ++ [.ref t])) := by rw [← hH2]; exact upd_same
    have ht2 : H2 t = some (.tup [.str x, .int n]) := by rw [← hH2, upd_ne tL]; exact upd_same
    have fin : ∀ (H3 : Hp) (g3 o3 : Int), Sk [b, L] H H3 → H3 b = some (.ins CB db (bF L g3 o3 p)) → H3 L = some (.lst (ws ++ [.ref t])) → H3 t = some (.tup [.str x, .int n]) → g3 = (if x = "go" then g + 1 else g) → o3 = (if x = "go" then o else o + 1) →
        ∀ (c : Bool) (Y N : Prop), c = decide (V.str x = V.str "paint") → (Q .non (upd H3 b (.ins CB db (bF L g3 o3 true))) → Y) → (Q .non H3 → N) → if c = true then Y else N := by
      intro H3 g3 o3 s3 hb3 hL3 ht3 e1 e2 c Y N hc hY hN
      rw [e1, e2] at hY hb3
      subst hc
      by_cases hp : x = "paint"
      · refine iteDT (by rw [hp]) (hY ?_)
        refine k _ t (Sk.up s3 (by simp)) nt (by rw [upd_ne tb]; exact ht3) ⟨⟨db, ?_⟩, by rw [upd_ne (Ne.symm bL)]; exact hL3⟩
        rw [if_pos hp]
        exact upd_same
      · refine iteDF (fun e => hp (by injection e)) (hN ?_)
        refine k _ t s3 nt ht3 ⟨⟨db, ?_⟩, hL3⟩
        rw [if_neg hp]
        exact hb3
    refine ⟨_, rfl, rfl, _, rfl, ?_⟩
    by_cases hg : x = "go"
    · refine iteDT (by rw [hg]) ?_
      refine ⟨_, rfl, b, CB, db, _, _, rfl, hb2, B.cl, B.nG, bF_G, _, _, rfl, rfl, db, _, hb2, (by show 4 < 1000; decide), ?_⟩
      rw [bF_pG]
      refine ⟨_, rfl, rfl, _, rfl, ?_⟩
      refine fin (upd H2 b (.ins CB db (bF L (g + 1) o p))) (g + 1) o (Sk.up s2 (by simp)) upd_same (by rw [upd_ne (Ne.symm bL)]; exact hL2) (by rw [upd_ne tb]; exact ht2) (by rw [if_pos hg]) (by rw [if_pos hg]) _ _ _ rfl (fun q => ?_) (fun q => q)
      refine ⟨_, rfl, b, CB, db, _, rfl, upd_same, B.cl, B.nN, (by show 4 < 1000; decide), ?_⟩
      rw [bF_pN]
      exact q
    · refine iteDF (fun e => hg (by injection e)) ?_
      refine ⟨_, rfl, b, CB, db, _, _, rfl, hb2, B.cl, B.nO, bF_O, _, _, rfl, rfl, db, _, hb2, (by show 4 < 1000; decide), ?_⟩
      rw [bF_pO]
      refine ⟨_, rfl, rfl, _, rfl, ?_⟩
      refine fin (upd H2 b (.ins CB db (bF L g (o + 1) p))) g (o + 1) (Sk.up s2 (by simp)) upd_same (by rw [upd_ne (Ne.symm bL)]; exact hL2) (by rw [upd_ne tb]; exact ht2) (by rw [if_neg hg]) (by rw [if_neg hg]) _ _ _ rfl (fun q => ?_) (fun q => q)
      refine ⟨_, rfl, b, CB, db, _, rfl, upd_same, B.cl, B.nN, (by show 4 < 1000; decide), ?_⟩
      rw [bF_pN]
      exact q
def spBlock (CB : Addr) : Sp := fun vs H Q _ => ∃ b L c Lc cs ws g o p gc oc pc, ∃ n : Nat, vs = [.ref b, .int n, .bl false, .ref c] ∧ Blk CB H b L ws g o p ∧ Blk CB H c Lc cs gc oc pc ∧ c ≠ b ∧ n ≤ 100 ∧ ws.length ≤ 1000 ∧
  ∀ H' t, Sk [b, L] H H' → H t = none → H' t = some (.tup [.int n, .bl false, .ref c]) → Blk CB H' b L (ws ++ [.ref t]) (g + n * gc) (o + n * oc) (p || pc) → Q .non H'
theorem scBlock : FnScope ["self", "times", "backward", "block"] ["self", "times", "backward", "block"] (defScope (inClass (top 46) 2)) := ⟨rfl, rfl, rfl, by decide +kernel, rfl, by decide +kernel, by decide +kernel⟩
theorem c_block (D : DfM K CB "put_block" "Block.put_block" (inClass (top 46) 2)) (B : BC K CB) : Met P w K mg base 1 CB "put_block" (spBlock CB) := by
  refine D.met scBlock (fun _ _ _ _ _ _ us hl => match us, hl with | [_, _, _, _], _ => rfl) (fun vs H Q E h => ?_) (fun cdv A outer f s H vs Q E hr h => ?_)
  · obtain ⟨b, L, c, Lc, cs, ws, g, o, p, gc, oc, pc, n, rfl, _⟩ := h
    rfl
  · obtain ⟨b, L, c, Lc, cs, ws, g, o, p, gc, oc, pc, n, rfl, ⟨⟨db, hb⟩, hL⟩, ⟨⟨dc, hc⟩, hLc⟩, hne, hn, hl, k⟩ := h
    refine ⟨_, pss_cons (ps_expr (pe_bm PySem.F.plainAttrs_list PySem.F.slot_list_append PySem.F.type_list_append mt_append (pe_fld (pv 0) rfl) (pa_cons (pe_tup (pa_cons (pv 1) (pa_cons (pv 2) (pa_cons (pv 3) pa_nil)))) pa_nil)))
      (pss_cons (ps_fldaug (pv 0) (pe_op op_mul (pv 1) (pe_fld (pv 3) rfl)) in_add)
      (pss_cons (ps_fldaug (pv 0) (pe_op op_mul (pv 1) (pe_fld (pv 3) rfl)) in_add)
      (pss_one (ps_if (pt_val (pe_fld (pv 3) rfl)) (pss_one (ps_fld (pv 0) pe_bl rfl)) pss_nil)))), ?_⟩
    have bL : b ≠ L := ne_of hb hL fun z => by cases z
    have cL : c ≠ L := ne_of hc hL fun z => by cases z
    refine ⟨_, rfl, b, CB, db, _, _, rfl, hb, B.cl, B.nP, bF_P, .inl ⟨rfl, _, .of hL⟩, _, rfl, _, rfl, _, rfl, (by show 3 ≤ sizeLine; decide), fun t nt => ?_⟩
    have s1 : Same H (upd H t (.tup [.int n, .bl false, .ref c])) := Same.new nt
    have tL : t ≠ L := fun e => by rw [e, hL] at nt; cases nt
    have tb : t ≠ b := fun e => by rw [e, hb] at nt; cases nt
    refine ⟨L, _, _, rfl, rfl, s1 _ _ hL, Nat.lt_of_le_of_lt hl (by decide), ?_⟩
    generalize hH2 : upd (upd H t (.tup [.int n, .bl false, .ref c])) L (.lst (ws ++ [.ref t])) = H2
    have s2 : Sk [b, L] H H2 := by rw [← hH2]; exact Sk.up (Sk.of s1) (by simp)
    have hb2 : H2 b = some (.ins CB db (bF L g o p)) := by rw [← hH2, upd_ne bL]; exact s1 _ _ hb
    have hc2 : H2 c = some (.ins CB dc (bF Lc gc oc pc)) := by rw [← hH2, upd_ne cL]; exact s1 _ _ hc
    have hL2 : H2 L = some (.lst (ws ++ [.ref t])) := by rw [← hH2]; exact upd_same
    have ht2 : H2 t = some (.tup [.int n, .bl false, .ref c]) := by rw [← hH2, upd_ne tL]; exact upd_same
    have hm : CMul (n : Int) gc := .inl ⟨by omega, by omega⟩
    have hm2 : CMul (n : Int) oc := .inl ⟨by omega, by omega⟩
    refine ⟨_, rfl, b, CB, db, _, _, rfl, hb2, B.cl, B.nG, bF_G, _, rfl, _, rfl, c, CB, dc, _, _, rfl, hc2, B.cl, B.nG, bF_G, _, _, rfl, rfl, hm, _, _, rfl, rfl, db, _, hb2, (by show 4 < 1000; decide), ?_⟩
    rw [bF_pG]
    refine ⟨_, rfl, b, CB, db, _, _, rfl, upd_same, B.cl, B.nO, bF_O, _, rfl, _, rfl, c, CB, dc, _, _, rfl, by rw [upd_ne hne]; exact hc2, B.cl, B.nO, bF_O, _, _, rfl, rfl, hm2, _, _, rfl, rfl, db, _, upd_same, (by show 4 < 1000; decide), ?_⟩
    rw [bF_pO, upd_upd]
    refine ⟨_, rfl, c, CB, dc, _, _, rfl, by rw [upd_ne hne]; exact hc2, B.cl, B.nN, bF_N, _, rfl, ?_⟩
    cases pc with
    | true =>
      refine iteT (B := True) ?_
      refine ⟨_, rfl, b, CB, db, _, rfl, upd_same, B.cl, B.nN, (by show 4 < 1000; decide), ?_⟩
      rw [bF_pN, upd_upd]
      exact k _ t (Sk.up s2 (by simp)) nt (by rw [upd_ne tb]; exact ht2) ⟨⟨db, by rw [upd_same, Bool.or_true]⟩, by rw [upd_ne (Ne.symm bL)]; exact hL2⟩
    | false =>
      refine iteF (A := True) ?_
      exact k _ t (Sk.up s2 (by simp)) nt (by rw [upd_ne tb]; exact ht2) ⟨⟨db, by rw [upd_same, Bool.or_false]⟩, by rw [upd_ne (Ne.symm bL)]; exact hL2⟩
end
end W5
set_option maxHeartbeats 8000000
/-! W5R3: Reader.__init__, next_word, number. -/
namespace W5
open PySem L2 K5
/-! ### a Reader's fields -/
def rF (W : Addr) (i : Int) (M : Addr) : List (Str × V) := [("words", .ref W), ("at", .int i), ("meanings", .ref M)]
section
variable {W M : Addr} {i z : Int}
theorem rF_W : (rF W i M).lookup ("words" : Str) = some (.ref W) := look_eq
theorem rF_A : (rF W i M).lookup ("at" : Str) = some (.int i) := (look_ne (by decide +kernel)).trans look_eq
theorem rF_M : (rF W i M).lookup ("meanings" : Str) = some (.ref M) := (look_ne (by decide +kernel)).trans ((look_ne (by decide +kernel)).trans look_eq)
theorem rF_no {m : Str} (h1 : ¬ m = "words") (h2 : ¬ m = "at") (h3 : ¬ m = "meanings") : (rF W i M).lookup m = none := (look_ne h1).trans ((look_ne h2).trans (look_ne h3))
theorem rF_pA : putF "at" (.int z) (rF W i M) = rF W z M := by
  unfold rF
  rw [putF_ne (by decide +kernel), putF_eq]
theorem rF_new : putF "meanings" (.ref M) (putF "at" (.int i) (putF "words" (.ref W) [])) = rF W i M := by
  repeat (first | rw [putF_nil] | rw [putF_ne (by decide +kernel)])
  rfl
end
structure RC (K : PySem.W.Frag) (CR : Addr) : Prop where
  cl : Cls K CR
  nW : NoAttr K CR "words"
  nA : NoAttr K CR "at"
  nM : NoAttr K CR "meanings"
/-- a reader at r, at its word i -/
def Rdr (K : PySem.W.Frag) (CR : Addr) (H : Hp) (r W M : Addr) (ws : List Str) (i : Nat) : Prop := (∃ dr, H r = some (.ins CR dr (rF W i M))) ∧ H W = some (.lst (ws.map V.str))
theorem Sx.rdr {K : PySem.W.Frag} {CR r W M : Addr} {ws : List Str} {i j : Nat} {H H' : Hp} (s : Sx r H H') (h : Rdr K CR H r W M ws i) (h' : ∃ dr, H' r = some (.ins CR dr (rF W j M))) : Rdr K CR H' r W M ws j := by
  obtain ⟨⟨dr, hr⟩, hW⟩ := h
  exact ⟨h', s _ _ hW (ne_of hW hr fun z => by cases z)⟩
section
variable {P : Program} {w : World} {K : PySem.W.Frag} {mg : Str → Option Value} {base : Heap} {CR : Addr}
def spRI (CR : Addr) : Sp := fun vs H Q _ => ∃ x dx t, vs = [.ref x, .str t] ∧ H x = some (.ins CR dx []) ∧ t.length + 2 ≤ 1000 ∧
  ∀ H' W M, Sx x H H' → H W = none → H M = none → W ≠ x → M ≠ x → M ≠ W → H' x = some (.ins CR dx (rF W 0 M)) → H' W = some (.lst ((Txt.words t).map V.str)) → H' M = some (.dK []) → Q .non H'
theorem scRI : FnScope ["self", "text"] ["self", "text"] (defScope (inClass (top 47) 0)) := ⟨rfl, rfl, rfl, by decide +kernel, rfl, by decide +kernel, by decide +kernel⟩
theorem c_RI (D : DfI K mg "Reader" CR "Reader.__init__" (inClass (top 47) 0)) (B : RC K CR) : Mak P w K mg base 1 "Reader" CR (spRI CR) := by
  refine D.mak scRI (fun _ _ _ _ _ _ us hl => match us, hl with | [_, _], _ => rfl) (fun vs H Q E h => ?_) (fun cdv A outer f s H vs Q E hr h => ?_)
  · obtain ⟨x, dx, t, rfl, _⟩ := h
    rfl
  · obtain ⟨x, dx, t, rfl, hx, ht, k⟩ := h
    refine ⟨_, pss_cons (ps_fld (pv 0) (pe_words (pv 1)) rfl) (pss_cons (ps_fld (pv 0) pe_int rfl) (pss_one (ps_fld (pv 0) pe_dnewK rfl))), ?_⟩
    refine ⟨_, rfl, ⟨_, rfl⟩, _, rfl, rfl, Nat.le_trans ht (by decide), fun W nW => ?_⟩
    have s1 : Same H (upd H W (.lst ((Txt.words t).map V.str))) := Same.new nW
    have xW : W ≠ x := fun e => by rw [e, hx] at nW; cases nW
    refine ⟨_, rfl, x, CR, dx, _, rfl, s1 _ _ hx, B.cl, B.nW, (by show 0 < 1000; decide), ?_⟩
    refine ⟨_, rfl, x, CR, dx, _, rfl, upd_same, B.cl, B.nA, (by show 1 < 1000; decide), ?_⟩
    rw [upd_upd]
    intro M nM
    have s2 : Sx x H (upd (upd H W (.lst ((Txt.words t).map V.str))) x (.ins CR dx (putF "at" (.int 0) (putF "words" (.ref W) [])))) := Sx.upd (Sx.of s1)
    have xM : M ≠ x := fun e => by rw [e, upd_same] at nM; cases nM
    have WM : M ≠ W := fun e => by rw [e, upd_ne xW, upd_same] at nM; cases nM
    have nM' : H M = none := by
      rw [upd_ne xM, upd_ne WM] at nM
      exact nM
    refine ⟨_, rfl, x, CR, dx, _, rfl, by rw [upd_ne (Ne.symm xM)]; exact upd_same, B.cl, B.nM, (by show 2 < 1000; decide), ?_⟩
    rw [rF_new]
    refine k _ W M (fun b o e n => ?_) nW nM' xW xM WM upd_same ?_ ?_
    · rw [upd_ne n, upd_ne (ne_of_none e nM')]
      exact s2 _ _ e n
    · rw [upd_ne xW, upd_ne (Ne.symm WM), upd_ne xW]
      exact upd_same
    · rw [upd_ne xM]
      exact upd_same
def spNext (K : PySem.W.Frag) (CR : Addr) : Sp := fun vs H Q _ => ∃ r W M ws i x, vs = [.ref r] ∧ Rdr K CR H r W M ws i ∧ ws[i]? = some x ∧ ws.length ≤ 1000 ∧ Q (.str x) H
theorem scNext : FnScope ["self"] ["self"] (defScope (inClass (top 47) 1)) := ⟨rfl, rfl, rfl, by decide +kernel, rfl, by decide +kernel, by decide +kernel⟩
theorem c_next (D : DfM K CR "next_word" "Reader.next_word" (inClass (top 47) 1)) (T : Bn mg) (B : RC K CR) : Met P w K mg base 1 CR "next_word" (spNext K CR) := by
  refine D.met scNext (fun _ _ _ _ _ _ us hl => match us, hl with | [_], _ => rfl) (fun vs H Q E h => ?_) (fun cdv A outer f s H vs Q E hr h => ?_)
  · obtain ⟨r, W, M, ws, i, x, rfl, _⟩ := h
    rfl
  · obtain ⟨r, W, M, ws, i, x, rfl, ⟨⟨dr, hr1⟩, hW⟩, hi, hl, k⟩ := h
    refine ⟨_, pss_cons (ps_if (pt_cmpR op_eq (pe_fld (pv 0) rfl) (pe_callB call_len_seq (by rfl) T.blen PySem.boot_len (pa_cons (pe_fld (pv 0) rfl) pa_nil)) (nomark _)) pss_never pss_nil) (pss_one (ps_ret (pe_ix ix_list (pe_fld (pv 0) rfl) (pe_fld (pv 0) rfl) (fun _ _ => rfl)))), ?_⟩
    have hlt : i < ws.length := (List.getElem?_eq_some_iff.mp hi).1
    refine ⟨_, rfl, r, CR, dr, _, _, rfl, hr1, B.cl, B.nA, rF_A, _, rfl, r, CR, dr, _, _, rfl, hr1, B.cl, B.nW, rF_W, W, _, rfl, .inl (.of hW), rfl, _, rfl, ?_⟩
    refine iteDF (fun e => ?_) ?_
    · have e2 : (i : Int) = (ws.map V.str).length := by injection e
      rw [List.length_map] at e2
      omega
    · exact ⟨_, rfl, r, CR, dr, _, _, rfl, hr1, B.cl, B.nW, rF_W, _, rfl, r, CR, dr, _, _, rfl, hr1, B.cl, B.nA, rF_A, W, _, _, _, rfl, rfl, .of hW, atI_nat (by rw [List.getElem?_map, hi]; rfl), k⟩
/-- the number that a word is -/
def NumW (sg : Bool) (x : Str) (n : Int) : Prop := (∃ e : Nat, e < 4 ∧ x = dS e ∧ n = e + 1) ∨ (sg = true ∧ x = "-1" ∧ n = -1)
def spNumb (K : PySem.W.Frag) (CR : Addr) : Sp := fun vs H Q _ => ∃ r W M ws i x n sg, ∃ most : Nat, vs = [.ref r, .int most, .bl sg] ∧ Rdr K CR H r W M ws i ∧ ws[i]? = some x ∧ ws.length ≤ 1000 ∧ NumW sg x n ∧ 1 ≤ most ∧
  ∀ H', Sx r H H' → Rdr K CR H' r W M ws (i + 1) → Q (.int n) H'
abbrev nNumb : List Str := ["self", "most", "signed", "word", "digits"]
theorem scNumb : FnScope nNumb ["self", "most", "signed"] (defScope (inClass (top 47) 2)) := ⟨rfl, rfl, rfl, by decide +kernel, rfl, by decide +kernel, by decide +kernel⟩
theorem dS_minus : ∀ e : Nat, ∃ c, atI (dS e).cps.toList 0 = some c ∧ (⟨#[c]⟩ : Str) ≠ "-"
  | 0 => ⟨49, by decide +kernel, by decide +kernel⟩
  | 1 => ⟨50, by decide +kernel, by decide +kernel⟩
  | 2 => ⟨51, by decide +kernel, by decide +kernel⟩
  | _ + 3 => ⟨52, by show atI (Str.cps "4").toList 0 = some 52; decide +kernel, by decide +kernel⟩
theorem dS_m0 : ∀ e : Nat, dS e ≠ "-0"
  | 0 => by decide +kernel
  | 1 => by decide +kernel
  | 2 => by decide +kernel
  | _ + 3 => by show ("4" : Str) ≠ "-0"; decide +kernel
theorem dS_int : ∀ {e : Nat}, e < 4 → PySem.intText? (dS e) = some ((e : Int) + 1)
  | 0, _ => by decide +kernel
  | 1, _ => by decide +kernel
  | 2, _ => by decide +kernel
  | 3, _ => by decide +kernel
theorem c_number (D : DfM K CR "number" "Reader.number" (inClass (top 47) 2)) (T : Bn mg) (B : RC K CR) (CI : Cal P w K mg base 1 "is_number" spIsNum) (CX : Met P w K mg base 1 CR "next_word" (spNext K CR)) : Met P w K mg base 2 CR "number" (spNumb K CR) := by
  refine D.met scNumb (fun _ _ _ _ _ _ us hl => match us, hl with | [_, _, _], _ => rfl) (fun vs H Q E h => ?_) (fun cdv A outer f s H vs Q E hr h => ?_)
  · obtain ⟨r, W, M, ws, i, x, n, sg, most, rfl, _⟩ := h
    rfl
  · obtain ⟨r, W, M, ws, i, x, n, sg, most, rfl, hR, hi, hl, hn, hm, k⟩ := h
    obtain ⟨⟨dr, hr1⟩, hW⟩ := id hR
    refine ⟨_, pss_cons (ps_set (i := 3) scNumb.nd rfl (Or.inl rfl) (pe_mt0 CX hr (by decide) (pv 0)))
      (pss_cons (ps_set (i := 4) scNumb.nd rfl (Or.inl rfl) (pv 3))
      (pss_cons (ps_if (PW.pt (pw_and (pt_val (pv 2)) (pw_and1 (pt_cmpR op_eq (pe_ix ix_str (pv 3) pe_int (fun _ _ => rfl)) pe_str (nomark _))))) (pss_one (ps_set (i := 4) scNumb.nd rfl (Or.inl rfl) (pe_slice sl_str (pv 3) (po_some pe_int) po_none))) pss_nil)
      (pss_cons (ps_if (PW.pt (pw_or (pt_not (pt_val (pe_c CI hr (by decide) rfl (pa_cons (pv 4) (pa_cons (pv 1) pa_nil))))) (pw_or1 (pt_cmpR op_eq (pv 3) pe_str (nomark _))))) pss_never pss_nil)
      (pss_cons (ps_fldaug (pv 0) pe_int in_add)
      (pss_one (ps_ret (pe_callTy call_int_str (by rfl) T.bint (by decide +kernel) (pa_cons (pv 3) pa_nil)))))))), ?_⟩
    refine ⟨_, rfl, r, dr, _, rfl, hr1, rF_no (by decide +kernel) (by decide +kernel) (by decide +kernel), r, W, M, ws, i, x, rfl, hR, hi, hl, ?_⟩
    refine ⟨_, rfl, ?_⟩
    have s1 : Sx r H (upd H r (.ins CR dr (rF W ((i + 1 : Nat) : Int) M))) := Sx.upd (Sx.refl r H)
    have fin := k _ s1 (s1.rdr hR ⟨dr, upd_same⟩)
    rcases hn with ⟨e, he, rfl, rfl⟩ | ⟨rfl, rfl, rfl⟩
    · have hlen := dS_len e
      obtain ⟨c, hc, hcn⟩ := dS_minus e
      cases sg with
      | true =>
        refine ⟨_, rfl, _, rfl, iteT (B := True) ?_⟩
        refine ⟨_, rfl, _, _, c, rfl, rfl, by rw [hlen]; decide, hc, rfl, _, rfl, iteDF (fun q => hcn (by injection q)) ?_⟩
        refine iteF (A := True) ?_
        refine ⟨_, rfl, _, rfl, e, most, rfl, hm, _, rfl, iteF (A := False) ?_⟩
        refine ⟨_, rfl, rfl, _, rfl, iteDF (fun q => dS_m0 e (by injection q)) ?_⟩
        refine iteF (A := False) ?_
        refine ⟨_, rfl, r, CR, dr, _, _, rfl, hr1, B.cl, B.nA, rF_A, _, _, rfl, rfl, dr, _, hr1, (by show 3 < 1000; decide), ?_⟩
        rw [rF_pA]
        exact ⟨_, rfl, dS e, _, rfl, dS_int he, by rw [hlen]; decide, fin⟩
      | false =>
        refine ⟨_, rfl, _, rfl, iteF (A := True) ?_⟩
        refine iteF (A := True) ?_
        refine ⟨_, rfl, _, rfl, e, most, rfl, hm, _, rfl, iteF (A := False) ?_⟩
        refine ⟨_, rfl, rfl, _, rfl, iteDF (fun q => dS_m0 e (by injection q)) ?_⟩
        refine iteF (A := False) ?_
        refine ⟨_, rfl, r, CR, dr, _, _, rfl, hr1, B.cl, B.nA, rF_A, _, _, rfl, rfl, dr, _, hr1, (by show 3 < 1000; decide), ?_⟩
        rw [rF_pA]
        exact ⟨_, rfl, dS e, _, rfl, dS_int he, by rw [hlen]; decide, fin⟩
    · have hlen : Str.length "-1" = 2 := by decide +kernel
      refine ⟨_, rfl, _, rfl, iteT (B := True) ?_⟩
      refine ⟨_, rfl, _, _, 45, rfl, rfl, by rw [hlen]; decide, by decide +kernel, rfl, _, rfl, iteDT (by decide +kernel) ?_⟩
      refine iteT (B := True) ?_
      refine ⟨_, rfl, _, rfl, "-1", rfl, by rw [hlen]; decide, ?_⟩
      rw [show cutS "-1" (some 1) none = dS 0 by decide +kernel]
      refine ⟨_, rfl, _, rfl, 0, most, rfl, hm, _, rfl, iteF (A := False) ?_⟩
      refine ⟨_, rfl, rfl, _, rfl, iteDF (by decide +kernel) ?_⟩
      refine iteF (A := False) ?_
      refine ⟨_, rfl, r, CR, dr, _, _, rfl, hr1, B.cl, B.nA, rF_A, _, _, rfl, rfl, dr, _, hr1, (by show 3 < 1000; decide), ?_⟩
      rw [rF_pA]
      exact ⟨_, rfl, "-1", _, rfl, by decide +kernel, by rw [hlen]; decide, fin⟩
end
end W5
set_option maxHeartbeats 8000000
/-! W5R4: Reader.item, by what the deeper calls promise. -/
namespace W5
open PySem L2 K5
section
variable {P : Program} {w : World} {K : PySem.W.Frag} {mg : Str → Option Value} {base : Heap} {CR CB : Addr}
def itA (K : PySem.W.Frag) (CR CB : Addr) (r b W M : Addr) (ws : List Str) (i : Nat) (x : Str) (kvs : List (Key × V)) (H : Hp) (Q : VK) : Prop :=
  ∃ sb L bs g o p Ls ss gs os ps, valV kvs (Sum.inr x) = some (.ref sb) ∧ Blk CB H b L bs g o p ∧ W ∉ [b, L] ∧ bs.length ≤ 1000 ∧ Blk CB H sb Ls ss gs os ps ∧ sb ≠ b ∧ sb ≠ r ∧
    ∀ H' t, Sk [r, b, L] H H' → Rdr K CR H' r W M ws (i + 1) → H t = none → H' t = some (.tup [.int 1, .bl false, .ref sb]) → Blk CB H' b L (bs ++ [.ref t]) (g + gs) (o + os) (p || ps) → Q .non H'
def itB (K : PySem.W.Frag) (CR CB : Addr) (r b W M : Addr) (ws : List Str) (i : Nat) (x : Str) (H : Hp) (Q : VK) : Prop :=
  ∃ L bs g o p, ∃ k : Int, ∃ len : Nat, Blk CB H b L bs g o p ∧ W ∉ [b, L] ∧ bs.length ≤ 1000 ∧ (((x = "go" ∨ x = "paint") ∧ k = 0 ∧ len = 1) ∨ (x = "turn" ∧ len = 2 ∧ ∃ y, ws[i + 1]? = some y ∧ NumW true y k)) ∧
    ∀ H' t, Sk [r, b, L] H H' → Rdr K CR H' r W M ws (i + len) → H t = none → H' t = some (.tup [.str x, .int k]) → Blk CB H' b L (bs ++ [.ref t]) (if x = "go" then g + 1 else g) (if x = "go" then o else o + 1) (if x = "paint" then true else p) → Q .non H'
def itC (K : PySem.W.Frag) (CR CB : Addr) (spB : Sp) (r b W M : Addr) (ws : List Str) (i : Nat) (d : Int) (x : Str) (H : Hp) (Q : VK) : Prop :=
  x = "repeat" ∧ (∃ L bs g o p, Blk CB H b L bs g o p) ∧ ∃ e : Nat, e < 4 ∧ ws[i + 1]? = some (dS e) ∧ ∀ H1, Sx r H H1 → Rdr K CR H1 r W M ws (i + 2) → ∀ Q' : VK, (∀ v H2, (∃ c Lc cs gc oc pc L bs g o p,
    v = .ref c ∧ Blk CB H2 c Lc cs gc oc pc ∧ Blk CB H2 b L bs g o p ∧ c ≠ b ∧ bs.length ≤ 1000 ∧
    ∀ H' t, Sk [b, L] H2 H' → H2 t = none → H' t = some (.tup [.int ((e : Int) + 1), .bl false, .ref c]) → Blk CB H' b L (bs ++ [.ref t]) (g + ((e : Int) + 1) * gc) (o + ((e : Int) + 1) * oc) (p || pc) → Q .non H') → Q' v H2) → spB [.ref r, .int d, .bl false] H1 Q' E0
def itD (K : PySem.W.Frag) (CR : Addr) (spD : Sp) (r W M : Addr) (ws : List Str) (i : Nat) (d : Int) (x : Str) (H : Hp) (Q : VK) : Prop :=
  x = "let" ∧ d = 0 ∧ ∀ H1, Sx r H H1 → Rdr K CR H1 r W M ws (i + 1) → spD [.ref r] H1 (fun _ H2 => Q .non H2) E0
def spItem (K : PySem.W.Frag) (CR CB : Addr) (spB spD : Sp) : Sp := fun vs H Q _ => ∃ r b W M ws i x kvs, ∃ d : Int, vs = [.ref r, .ref b, .int d, .bl false] ∧ Rdr K CR H r W M ws i ∧ ws[i]? = some x ∧ ws.length ≤ 1000 ∧ H M = some (.dK kvs) ∧ b ≠ r ∧
  (itA K CR CB r b W M ws i x kvs H Q ∨ (valV kvs (Sum.inr x) = none ∧ (itB K CR CB r b W M ws i x H Q ∨ itC K CR CB spB r b W M ws i d x H Q ∨ itD K CR spD r W M ws i d x H Q)))
abbrev nItem : List Str := ["self", "block", "depth", "in_back", "word", "meaning", "times"]
theorem scItem : FnScope nItem ["self", "block", "depth", "in_back"] (defScope (inClass (top 47) 4)) := ⟨rfl, rfl, rfl, by decide +kernel, rfl, by decide +kernel, by decide +kernel⟩
theorem rNo {W M : Addr} {i : Int} : (rF W i M).lookup ("next_word" : Str) = none ∧ (rF W i M).lookup ("number" : Str) = none ∧ (rF W i M).lookup ("bracketed" : Str) = none ∧ (rF W i M).lookup ("item" : Str) = none ∧ (rF W i M).lookup ("definition" : Str) = none ∧ (rF W i M).lookup ("whole" : Str) = none :=
  ⟨rF_no (by decide +kernel) (by decide +kernel) (by decide +kernel), rF_no (by decide +kernel) (by decide +kernel) (by decide +kernel), rF_no (by decide +kernel) (by decide +kernel) (by decide +kernel), rF_no (by decide +kernel) (by decide +kernel) (by decide +kernel), rF_no (by decide +kernel) (by decide +kernel) (by decide +kernel), rF_no (by decide +kernel) (by decide +kernel) (by decide +kernel)⟩
theorem bNo {L : Addr} {g o : Int} {p : Bool} : (bF L g o p).lookup ("put_deed" : Str) = none ∧ (bF L g o p).lookup ("put_block" : Str) = none :=
  ⟨bF_no (by decide +kernel) (by decide +kernel) (by decide +kernel) (by decide +kernel), bF_no (by decide +kernel) (by decide +kernel) (by decide +kernel) (by decide +kernel)⟩
theorem Sx.blk {r b L : Addr} {bs : List V} {g o : Int} {p : Bool} {CR dr : Addr} {fs : List (Str × V)} {H H' : Hp} (s : Sx r H H') (hr : H r = some (.ins CR dr fs)) (hb : b ≠ r) (h : Blk CB H b L bs g o p) : Blk CB H' b L bs g o p := by
  obtain ⟨⟨db, h1⟩, h2⟩ := h
  exact ⟨⟨db, s _ _ h1 hb⟩, s _ _ h2 (ne_of h2 hr fun z => by cases z)⟩
theorem Sk.rdr {S : List Addr} {r W M : Addr} {ws : List Str} {i : Nat} {H H' : Hp} (s : Sk S H H') (h : Rdr K CR H r W M ws i) (hr : r ∉ S) (hW : W ∉ S) : Rdr K CR H' r W M ws i := by
  obtain ⟨⟨dr, h1⟩, h2⟩ := h
  exact ⟨⟨dr, s _ _ h1 hr⟩, s _ _ h2 hW⟩
theorem Sx.sk {r : Addr} {S : List Addr} {H H' : Hp} (s : Sx r H H') (h : r ∈ S) : Sk S H H' := fun a o e n => s a o e fun q => n (by rw [q]; exact h)
theorem goOrPaint {x : Str} (h : x = "go" ∨ x = "paint") : inV (.str x) [V.str "go", V.str "paint"] = true := by
  rcases h with rfl | rfl <;> decide +kernel
theorem c_item {k kb kd : Nat} {spB spD : Sp} (D : DfM K CR "item" "Reader.item" (inClass (top 47) 4)) (T : Bn mg) (B : RC K CR) (BB : BC K CB) (CX : Met P w K mg base 1 CR "next_word" (spNext K CR)) (CN : Met P w K mg base 2 CR "number" (spNumb K CR))
    (CE : Met P w K mg base 1 CB "put_deed" (spDeed CB)) (CK : Met P w K mg base 1 CB "put_block" (spBlock CB)) (CBr : Met P w K mg base kb CR "bracketed" spB) (CDf : Met P w K mg base kd CR "definition" spD) (hk : 2 ≤ k) (hkb : kb ≤ k) (hkd : kd ≤ k) : Met P w K mg base (k + 1) CR "item" (spItem K CR CB spB spD) := by
  refine D.met scItem (fun _ _ _ _ _ _ us hl => match us, hl with | [_, _, _, _], _ => rfl) (fun vs H Q E h => ?_) (fun cdv A outer f s H vs Q E hr h => ?_)
  · obtain ⟨r, b, W, M, ws, i, x, kvs, d, rfl, _⟩ := h
    rfl
  · obtain ⟨r, b, W, M, ws, i, x, kvs, d, rfl, hR, hi, hl, hM, hbr, hcase⟩ := h
    obtain ⟨⟨dr, hr1⟩, hW⟩ := id hR
    have hu := hu_of hr
    refine ⟨_, pss_cons (ps_set (i := 4) scItem.nd rfl (Or.inl rfl) (pe_mt0 CX hr (by omega) (pv 0)))
      (pss_one (ps_if (pt_cmp (pc_din hu (pv 4) (pe_fld (pv 0) rfl)))
        (pss_cons (ps_set (i := 5) scItem.nd rfl (Or.inl rfl) (pe_dget hu (pe_fld (pv 0) rfl) (pv 4) (fun _ _ => rfl)))
        (pss_cons (ps_if (PW.pt (pw_and (pt_val (pe_fld (pv 5) rfl)) (pw_and1 (pt_val (pv 3))))) pss_never pss_nil)
        (pss_cons (ps_fldaug (pv 0) pe_int in_add)
        (pss_one (ps_expr (pe_mt CK hr (by omega) (pv 1) (pa_cons pe_int (pa_cons pe_bl (pa_cons (pv 5) pa_nil)))))))))
        (pss_one (ps_if (pt_cmpR op_in_seq (pv 4) (pe_tup (pa_cons pe_str (pa_cons pe_str pa_nil))) (by rfl))
          (pss_cons (ps_if (PW.pt (pw_and (pt_cmpR op_eq (pv 4) pe_str (nomark _)) (pw_and1 (pt_val (pv 3))))) pss_never pss_nil)
          (pss_cons (ps_fldaug (pv 0) pe_int in_add)
          (pss_one (ps_expr (pe_mt CE hr (by omega) (pv 1) (pa_cons (pv 4) (pa_cons pe_int pa_nil)))))))
          (pss_one (ps_if (pt_cmpR op_eq (pv 4) pe_str (nomark _))
            (pss_cons (ps_fldaug (pv 0) pe_int in_add)
            (pss_one (ps_expr (pe_mt CE hr (by omega) (pv 1) (pa_cons pe_str (pa_cons (pe_mt CN hr (by omega) (pv 0) (pa_cons pe_int (pa_cons pe_bl pa_nil))) pa_nil))))))
            (pss_one (ps_if (pt_cmpR op_eq (pv 4) pe_str (nomark _))
              (pss_cons (ps_fldaug (pv 0) pe_int in_add)
              (pss_cons (ps_set (i := 6) scItem.nd rfl (Or.inl rfl) (pe_mt CN hr (by omega) (pv 0) (pa_cons pe_int (pa_cons pe_bl pa_nil))))
              (pss_one (ps_expr (pe_mt CK hr (by omega) (pv 1) (pa_cons (pv 6) (pa_cons pe_bl (pa_cons (pe_mt CBr hr (by omega) (pv 0) (pa_cons (pv 2) (pa_cons (pv 3) pa_nil))) pa_nil))))))))
              (pss_one (ps_if (pt_cmpR op_eq (pv 4) pe_str (nomark _)) pss_never
                (pss_one (ps_if (PW.pt (pw_and (pt_cmpR op_eq (pv 4) pe_str (nomark _)) (pw_and1 (pt_cmpR op_eq (pv 2) pe_int (nomark _)))))
                  (pss_cons (ps_fldaug (pv 0) pe_int in_add)
                  (pss_one (ps_expr (pe_mt0 CDf hr (by omega) (pv 0))))) pss_never)))))))))))), ?_⟩
    refine ⟨_, rfl, r, dr, _, rfl, hr1, rNo.1, r, W, M, ws, i, x, rfl, hR, hi, hl, ?_⟩
    refine ⟨_, rfl, _, rfl, r, CR, dr, _, _, rfl, hr1, B.cl, B.nM, rF_M, M, _, rfl, DGet.k (k := Sum.inr x) hM, _, rfl, ?_⟩
    have up1 : ∀ (H0 : Hp) (j : Nat), Same H H0 → Sx r H (upd H0 r (.ins CR dr (rF W (j : Int) M))) ∧ Rdr K CR (upd H0 r (.ins CR dr (rF W (j : Int) M))) r W M ws j := fun H0 j s0 => by
      have s1 : Sx r H (upd H0 r (.ins CR dr (rF W (j : Int) M))) := Sx.upd (Sx.of s0)
      exact ⟨s1, s1.rdr hR ⟨dr, upd_same⟩⟩
    rcases hcase with ⟨sb, L, bs, g, o, p, Ls, ss, gs, os, ps, hv, hB, hWb, hbl, hS, hsb, hsr, kk⟩ | ⟨hv, hcase⟩
    · rw [hv]
      refine iteT (B := True) ?_
      obtain ⟨⟨ds, hs1⟩, hs2⟩ := id hS
      obtain ⟨⟨db, hb1⟩, hb2⟩ := id hB
      have dg : DGet H M (.str x) (some (.ref sb)) := by
        rw [← hv]
        exact DGet.k (k := Sum.inr x) hM
      refine ⟨_, rfl, r, CR, dr, _, _, rfl, hr1, B.cl, B.nM, rF_M, _, rfl, M, _, rfl, dg, ?_⟩
      refine ⟨_, rfl, sb, CB, ds, _, _, rfl, hs1, BB.cl, BB.nN, bF_N, _, rfl, ?_⟩
      obtain ⟨s1, R1⟩ := up1 H (i + 1) (Same.refl H)
      have bL : b ≠ L := ne_of hb1 hb2 fun z => by cases z
      have rL : r ≠ L := ne_of hr1 hb2 fun z => by cases z
      have key : ∀ (Q' : VK), (∀ H2, Q .non H2 → Q' .non H2) → spBlock CB [.ref b, .int 1, .bl false, .ref sb] (upd H r (.ins CR dr (rF W ((i + 1 : Nat) : Int) M))) Q' E0 := by
        intro Q' hQ
        refine ⟨b, L, sb, Ls, ss, bs, g, o, p, gs, os, ps, 1, rfl, s1.blk hr1 hbr hB, s1.blk hr1 hsr hS, hsb, by omega, hbl, fun H' t k1 nt ht hB' => hQ _ ?_⟩
        have tr : t ≠ r := fun e => by rw [e, upd_same] at nt; cases nt
        have nt' : H t = none := by
          rw [upd_ne tr] at nt
          exact nt
        have hb3 : Blk CB H' b L (bs ++ [.ref t]) (g + gs) (o + os) (p || ps) := by
          have e1 : g + ((1 : Nat) : Int) * gs = g + gs := by omega
          have e2 : o + ((1 : Nat) : Int) * os = o + os := by omega
          rw [e1, e2] at hB'
          exact hB'
        exact kk H' t (Sk.trans (s1.sk (by simp)) (k1.mono (by simp))) (k1.rdr R1 (by simp [Ne.symm hbr, rL]) hWb) nt' ht hb3
      cases ps with
      | true =>
        refine iteT (B := True) ?_
        refine ⟨_, rfl, _, rfl, iteF (A := True) ?_⟩
        refine ⟨_, rfl, r, CR, dr, _, _, rfl, hr1, B.cl, B.nA, rF_A, _, _, rfl, rfl, dr, _, hr1, (by show 3 < 1000; decide), ?_⟩
        rw [rF_pA]
        exact ⟨_, rfl, b, db, _, rfl, s1 _ _ hb1 hbr, bNo.2, _, rfl, key _ fun _ q => q⟩
      | false =>
        refine iteF (A := True) ?_
        refine iteF (A := True) ?_
        refine ⟨_, rfl, r, CR, dr, _, _, rfl, hr1, B.cl, B.nA, rF_A, _, _, rfl, rfl, dr, _, hr1, (by show 3 < 1000; decide), ?_⟩
        rw [rF_pA]
        exact ⟨_, rfl, b, db, _, rfl, s1 _ _ hb1 hbr, bNo.2, _, rfl, key _ fun _ q => q⟩
    · rw [hv]
      refine iteF (A := True) ?_
      refine ⟨_, rfl, (by show 2 ≤ sizeLine; decide), fun t nt => ?_⟩
      refine ⟨t, _, rfl, .inr (.of upd_same), rfl, rfl, _, rfl, ?_⟩
      have s0 : Same H (upd H t (.tup [.str "go", .str "paint"])) := Same.new nt
      generalize hH0 : upd H t (.tup [V.str "go", V.str "paint"]) = H0 at s0
      have hr0 := s0 _ _ hr1
      rcases hcase with ⟨L, bs, g, o, p, n, len, hB, hWb, hbl, hx, kk⟩ | ⟨rfl, ⟨L, bs, g, o, p, hB⟩, e, he, hy, kk⟩ | ⟨rfl, rfl, kk⟩
      · obtain ⟨⟨db, hb1⟩, hb2⟩ := id hB
        have bL : b ≠ L := ne_of hb1 hb2 fun z => by cases z
        have rL : r ≠ L := ne_of hr1 hb2 fun z => by cases z
        have key : ∀ (H1 : Hp) (j : Nat) (Q' : VK), (∀ H2, Q .non H2 → Q' .non H2) → Sx r H H1 → Rdr K CR H1 r W M ws j → j = i + len → spDeed CB [.ref b, .str x, .int n] H1 Q' E0 := by
          intro H1 j Q' hQ s1 R1 ej
          subst ej
          refine ⟨b, L, x, n, bs, g, o, p, rfl, s1.blk hr1 hbr hB, hbl, fun H' u k1 nu hu' hB' => hQ _ ?_⟩
          have nu' : H u = none := by
            cases e : H u with
            | none => rfl
            | some z =>
              by_cases q : u = r
              · obtain ⟨⟨dr', h9⟩, _⟩ := R1
                rw [q, h9] at nu
                cases nu
              · rw [s1 _ _ e q] at nu
                cases nu
          exact kk H' u (Sk.trans (s1.sk (by simp)) (k1.mono (by simp))) (k1.rdr R1 (by simp [Ne.symm hbr, rL]) hWb) nu' hu' hB'
        rcases hx with ⟨hx, rfl, rfl⟩ | ⟨rfl, rfl, y, hy, hn⟩
        · rw [goOrPaint hx]
          refine iteT (B := True) ?_
          obtain ⟨s1, R1⟩ := up1 H0 (i + 1) s0
          refine ⟨_, rfl, rfl, _, rfl, ?_⟩
          by_cases hp : x = "paint"
          · refine iteDT (by rw [hp]) ?_
            refine ⟨_, rfl, _, rfl, iteF (A := True) ?_⟩
            refine ⟨_, rfl, r, CR, dr, _, _, rfl, hr0, B.cl, B.nA, rF_A, _, _, rfl, rfl, dr, _, hr0, (by show 3 < 1000; decide), ?_⟩
            rw [rF_pA]
            exact ⟨_, rfl, b, db, _, rfl, s1 _ _ hb1 hbr, bNo.1, _, rfl, key _ _ _ (fun _ q => q) s1 R1 rfl⟩
          · refine iteDF (fun q => hp (by injection q)) ?_
            refine iteF (A := True) ?_
            refine ⟨_, rfl, r, CR, dr, _, _, rfl, hr0, B.cl, B.nA, rF_A, _, _, rfl, rfl, dr, _, hr0, (by show 3 < 1000; decide), ?_⟩
            rw [rF_pA]
            exact ⟨_, rfl, b, db, _, rfl, s1 _ _ hb1 hbr, bNo.1, _, rfl, key _ _ _ (fun _ q => q) s1 R1 rfl⟩
        · rw [show inV (.str "turn") [V.str "go", V.str "paint"] = false by decide +kernel]
          refine iteF (A := True) ?_
          obtain ⟨s1, R1⟩ := up1 H0 (i + 1) s0
          refine ⟨_, rfl, rfl, _, rfl, iteDT rfl ?_⟩
          refine ⟨_, rfl, r, CR, dr, _, _, rfl, hr0, B.cl, B.nA, rF_A, _, _, rfl, rfl, dr, _, hr0, (by show 3 < 1000; decide), ?_⟩
          rw [rF_pA]
          refine ⟨_, rfl, b, db, _, rfl, s1 _ _ hb1 hbr, bNo.1, _, rfl, r, dr, _, rfl, upd_same, rNo.2.1, r, W, M, ws, i + 1, y, n, true, 4, rfl, R1, hy, hl, hn, by decide, fun H2 s2 R2 => ?_⟩
          exact key _ _ _ (fun _ q => q) (Sx.trans s1 s2) R2 rfl
      · rw [show inV (.str "repeat") [V.str "go", V.str "paint"] = false by decide +kernel]
        refine iteF (A := True) ?_
        obtain ⟨⟨db, hb1⟩, hb2⟩ := id hB
        obtain ⟨s1, R1⟩ := up1 H0 (i + 1) s0
        refine ⟨_, rfl, rfl, _, rfl, iteDF (by decide +kernel) ?_⟩
        refine ⟨_, rfl, rfl, _, rfl, iteDT rfl ?_⟩
        refine ⟨_, rfl, r, CR, dr, _, _, rfl, hr0, B.cl, B.nA, rF_A, _, _, rfl, rfl, dr, _, hr0, (by show 3 < 1000; decide), ?_⟩
        rw [rF_pA]
        refine ⟨_, rfl, r, dr, _, rfl, upd_same, rNo.2.1, r, W, M, ws, i + 1, dS e, e + 1, false, 2, rfl, R1, hy, hl, .inl ⟨e, he, rfl, rfl⟩, by decide, fun H2 s2 R2 => ?_⟩
        have s3 := Sx.trans s1 s2
        obtain ⟨⟨dr2, hr2⟩, hW2⟩ := id R2
        refine ⟨_, rfl, b, db, _, rfl, s3 _ _ hb1 hbr, bNo.2, _, rfl, _, rfl, r, dr2, _, rfl, hr2, rNo.2.2.1, _, rfl, _, rfl, ?_⟩
        refine kk H2 s3 R2 _ fun v H3 ⟨c, Lc, cs, gc, oc, pc, L, bs, g, o, p, ev, hc, hb3, hcb, hbl, kq⟩ => ?_
        subst ev
        exact ⟨b, L, c, Lc, cs, bs, g, o, p, gc, oc, pc, e + 1, rfl, hb3, hc, hcb, by omega, hbl, kq⟩
      · rw [show inV (.str "let") [V.str "go", V.str "paint"] = false by decide +kernel]
        refine iteF (A := True) ?_
        obtain ⟨s1, R1⟩ := up1 H0 (i + 1) s0
        refine ⟨_, rfl, rfl, _, rfl, iteDF (by decide +kernel) ?_⟩
        refine ⟨_, rfl, rfl, _, rfl, iteDF (by decide +kernel) ?_⟩
        refine ⟨_, rfl, rfl, _, rfl, iteDF (by decide +kernel) ?_⟩
        refine ⟨_, rfl, rfl, _, rfl, iteDT rfl ?_⟩
        refine ⟨_, rfl, rfl, _, rfl, iteDT rfl ?_⟩
        refine ⟨_, rfl, r, CR, dr, _, _, rfl, hr0, B.cl, B.nA, rF_A, _, _, rfl, rfl, dr, _, hr0, (by show 3 < 1000; decide), ?_⟩
        rw [rF_pA]
        exact ⟨_, rfl, r, dr, _, rfl, upd_same, rNo.2.2.2.2.1, kk _ s1 R1⟩
end
end W5
set_option maxHeartbeats 8000000
/-! W5R5: what a block stands for; Reader.bracketed. -/
namespace W5
open PySem L2 K5
/-- the heap without S -/
noncomputable def wo (S : List Addr) (H : Hp) : Hp := fun a => @ite _ (a ∈ S) (Classical.propDecidable _) none (H a)
theorem wo_in {S : List Addr} {H : Hp} {a : Addr} (h : a ∈ S) : wo S H a = none := by unfold wo; rw [if_pos h]
theorem wo_out {S : List Addr} {H : Hp} {a : Addr} (h : a ∉ S) : wo S H a = H a := by unfold wo; rw [if_neg h]
theorem wo_some {S : List Addr} {H : Hp} {a : Addr} {o : HO} : wo S H a = some o ↔ a ∉ S ∧ H a = some o := by
  by_cases h : a ∈ S
  · rw [wo_in h]
    exact ⟨fun q => (nomatch q), fun q => absurd h q.1⟩
  · rw [wo_out h]
    exact ⟨fun q => ⟨h, q⟩, fun q => q.2⟩
theorem wo_sk {S : List Addr} {H H' : Hp} (s : Sk S H H') : Same (wo S H) (wo S H') := fun a o e => by
  rw [wo_some] at e ⊢
  exact ⟨e.1, s a o e.2 e.1⟩
theorem wo_le (S : List Addr) (H : Hp) : Same (wo S H) H := fun a o e => (wo_some.mp e).2
theorem wo_sub {S S' : List Addr} {H : Hp} (h : ∀ a ∈ S, a ∈ S' ∨ H a = none) : Same (wo S' H) (wo S H) := fun a o e => by
  rw [wo_some] at e ⊢
  refine ⟨fun q => ?_, e.2⟩
  rcases h a q with h | h
  · exact e.1 h
  · rw [h] at e
    exact nomatch e.2
/-- what of H is not at S stands in H', away from S' -/
theorem wo_up {S S' : List Addr} {H H' : Hp} (s : ∀ a o, H a = some o → a ∉ S → a ∉ S' ∧ H' a = some o) : Same (wo S H) (wo S' H') := fun a o e => by
  rw [wo_some] at e ⊢
  exact s a o e.2 e.1
abbrev Dd := Str × Int
def PbD (H : Hp) (e : Dd) (v : V) : Prop := ∃ t, v = .ref t ∧ H t = some (.tup [.str e.1, .int e.2])
/-- block b is done as es -/
def Ex (CB : Addr) : Nat → Hp → Addr → List Dd → Prop
  | 0, _, _, _ => False
  | n + 1, H, b, es => ∃ L vs, ∃ ess : List (List Dd), ∃ g o : Nat, ∃ p, Blk CB H b L vs g o p ∧ g + o = es.length ∧ es = ess.flatten ∧
    Paired (fun x v => (∃ e, x = [e] ∧ PbD H e v) ∨ ∃ t c, ∃ k : Nat, ∃ xs, v = .ref t ∧ H t = some (.tup [.int k, .bl false, .ref c]) ∧ Ex CB n H c xs ∧ x = (List.replicate k xs).flatten) ess vs
def Pb (CB : Addr) (n : Nat) (H : Hp) (x : List Dd) (v : V) : Prop := (∃ e, x = [e] ∧ PbD H e v) ∨ ∃ t c, ∃ k : Nat, ∃ xs, v = .ref t ∧ H t = some (.tup [.int k, .bl false, .ref c]) ∧ Ex CB n H c xs ∧ x = (List.replicate k xs).flatten
theorem Ex.mk {CB : Addr} {n : Nat} {H : Hp} {b L : Addr} {vs : List V} {es : List Dd} {ess : List (List Dd)} {g o : Nat} {p : Bool} (h1 : Blk CB H b L vs g o p) (h2 : g + o = es.length) (h3 : es = ess.flatten) (h4 : Paired (Pb CB n H) ess vs) : Ex CB (n + 1) H b es := ⟨L, vs, ess, g, o, p, h1, h2, h3, h4⟩
theorem Ex.get {CB : Addr} {n : Nat} {H : Hp} {b : Addr} {es : List Dd} (h : Ex CB (n + 1) H b es) : ∃ L vs, ∃ ess : List (List Dd), ∃ g o : Nat, ∃ p, Blk CB H b L vs g o p ∧ g + o = es.length ∧ es = ess.flatten ∧ Paired (Pb CB n H) ess vs := h
theorem Ex.mono {CB : Addr} : ∀ {n : Nat} {H H' : Hp} {b : Addr} {es : List Dd}, Same H H' → Ex CB n H b es → Ex CB n H' b es
  | 0, _, _, _, _, _, h => h
  | n + 1, H, H', b, es, s, h => by
    obtain ⟨L, vs, ess, g, o, p, ⟨⟨db, h1⟩, h2⟩, h3, h4, h5⟩ := Ex.get h
    refine Ex.mk ⟨⟨db, s _ _ h1⟩, s _ _ h2⟩ h3 h4 (pmap h5 fun x v r => ?_)
    rcases r with ⟨e, e1, t, e2, h⟩ | ⟨t, c, k, xs, e1, h, hx, e2⟩
    · exact .inl ⟨e, e1, t, e2, s _ _ h⟩
    · exact .inr ⟨t, c, k, xs, e1, s _ _ h, Ex.mono s hx, e2⟩
theorem Ex.up {CB : Addr} : ∀ {n : Nat} {H : Hp} {b : Addr} {es : List Dd}, Ex CB n H b es → Ex CB (n + 1) H b es
  | 0, _, _, _, h => h.elim
  | n + 1, H, b, es, h => by
    obtain ⟨L, vs, ess, g, o, p, h1, h3, h4, h5⟩ := Ex.get h
    refine Ex.mk h1 h3 h4 (pmap h5 fun x v r => ?_)
    rcases r with h | ⟨t, c, k, xs, e1, h, hx, e2⟩
    · exact .inl h
    · exact .inr ⟨t, c, k, xs, e1, h, Ex.up hx, e2⟩
theorem Pb.mono {CB : Addr} {n : Nat} {H H' : Hp} {x : List Dd} {v : V} (s : Same H H') (h : Pb CB n H x v) : Pb CB n H' x v := by
  rcases h with ⟨e, e1, t, e2, h⟩ | ⟨t, c, k, xs, e1, h, hx, e2⟩
  · exact .inl ⟨e, e1, t, e2, s _ _ h⟩
  · exact .inr ⟨t, c, k, xs, e1, s _ _ h, hx.mono s, e2⟩
/-! ### the items between brackets -/
/-- a deed: none paints -/
def gD : Option Nat → Dd
  | none => ("paint", 0)
  | some 0 => ("go", 0)
  | some 1 => ("turn", 1)
  | some 2 => ("turn", -1)
  | some _ => ("turn", 2)
/-- an item's words: none is the name -/
def itT : Option (Option Nat) → List Str
  | none => ["side"]
  | some x => gT x
def itE (ses : List Dd) : Option (Option Nat) → List Dd
  | none => ses
  | some x => [gD x]
def mn : Option Addr → List (Key × V)
  | none => []
  | some a => [(Sum.inr "side", .ref a)]
theorem mn_side {a : Option Addr} : valV (mn a) (Sum.inr "side") = a.map V.ref := by
  cases a with
  | none => rfl
  | some a => rw [mn, valV_pos rfl]; rfl
theorem mn_no {a : Option Addr} {x : Str} (h : x ≠ "side") : valV (mn a) (Sum.inr x) = none := by
  cases a with
  | none => rfl
  | some a =>
    rw [mn, valV_neg (fun q => h (Sum.inr.inj q).symm)]
    rfl
end W5
set_option maxHeartbeats 8000000
/-! W5R6: an item between brackets. -/
namespace W5
open PySem L2 K5
/-- the words at place i -/
def Tk (ws : List Str) (i : Nat) (ts : List Str) : Prop := ∃ pre rest, ws = pre ++ (ts ++ rest) ∧ i = pre.length
theorem Tk.head {ws : List Str} {i : Nat} {x : Str} {ts : List Str} (h : Tk ws i (x :: ts)) : ws[i]? = some x := by
  obtain ⟨pre, rest, rfl, rfl⟩ := h
  simp
theorem Tk.app {ws : List Str} {i : Nat} {a b : List Str} (h : Tk ws i (a ++ b)) : Tk ws i a ∧ Tk ws (i + a.length) b := by
  obtain ⟨pre, rest, rfl, rfl⟩ := h
  exact ⟨⟨pre, b ++ rest, by simp, rfl⟩, ⟨pre ++ a, rest, by simp, by simp⟩⟩
theorem Tk.tail {ws : List Str} {i : Nat} {x : Str} {ts : List Str} (h : Tk ws i (x :: ts)) : Tk ws (i + 1) ts := (Tk.app (a := [x]) h).2
theorem Tk.len {ws : List Str} {i : Nat} {ts : List Str} (h : Tk ws i ts) : i + ts.length ≤ ws.length := by
  obtain ⟨pre, rest, rfl, rfl⟩ := h
  simp
/-- all of S stand -/
def Fz (S : List Addr) (H : Hp) : Prop := ∀ a ∈ S, H a ≠ none
theorem Fz.sk {S S' : List Addr} {H H' : Hp} (f : Fz S H) (s : Sk S' H H') (g : Fz S' H') : Fz S H' := fun a h => by
  by_cases q : a ∈ S'
  · exact g a q
  · cases e : H a with
    | none => exact absurd e (f a h)
    | some o =>
      rw [s a o e q]
      exact fun z => nomatch z
theorem Fz.out {S : List Addr} {H : Hp} {t : Addr} (f : Fz S H) (h : H t = none) : t ∉ S := fun q => f t q h
section
variable {P : Program} {w : World} {K : PySem.W.Frag} {mg : Str → Option Value} {base : Heap} {CR CB : Addr}
theorem Met.imp {k : Nat} {C : Addr} {m : Str} {sp sp' : Sp} (c : Met P w K mg base k C m sp) (h : ∀ vs H Q E, sp' vs H Q E → sp vs H Q E) : Met P w K mg base k C m sp' := by
  obtain ⟨f, fd, ps, c1, c2, F, b⟩ := c
  exact ⟨f, fd, ps, c1, c2, F.imp h, b⟩
def spIt1 (K : PySem.W.Frag) (CR CB : Addr) (n : Nat) : Sp := fun vs H Q _ => ∃ r b W M ws i, ∃ d : Int, ∃ sb ses L bs, ∃ g o : Nat, ∃ p x, ∃ S : List Addr, vs = [.ref r, .ref b, .int d, .bl false] ∧ Rdr K CR H r W M ws i ∧ ws.length ≤ 1000 ∧ H M = some (.dK (mn sb)) ∧
  Blk CB H b L bs g o p ∧ b ≠ r ∧ L ≠ W ∧ bs.length ≤ 1000 ∧ Tk ws i (itT x) ∧ Fz S H ∧ (∀ a ∈ [r, b, L], a ∈ S) ∧ (x = none → ∃ a, sb = some a ∧ Ex CB n (wo S H) a ses) ∧
  ∀ H' v, ∀ g' o' : Nat, ∀ p', Sk [r, b, L] H H' → Rdr K CR H' r W M ws (i + (itT x).length) → Blk CB H' b L (bs ++ [v]) g' o' p' → g' + o' = g + o + (itE ses x).length → Pb CB n (wo S H') (itE ses x) v → Q .non H'
theorem gT_head (x : Option Nat) : (∃ k, k = 0 ∧ (x = none ∧ gT x = (["paint"] : List Str) ∨ x = some k ∧ gT x = (["go"] : List Str))) ∨ ∃ y n, gT x = (["turn", y] : List Str) ∧ gD x = (("turn", n) : Dd) ∧ NumW true y n := by
  match x with
  | none => exact .inl ⟨0, rfl, .inl ⟨rfl, rfl⟩⟩
  | some 0 => exact .inl ⟨0, rfl, .inr ⟨rfl, rfl⟩⟩
  | some 1 => exact .inr ⟨"1", 1, rfl, rfl, .inl ⟨0, by omega, rfl, rfl⟩⟩
  | some 2 => exact .inr ⟨"-1", -1, rfl, rfl, .inr ⟨rfl, rfl, rfl⟩⟩
  | some (_ + 3) => exact .inr ⟨"2", 2, rfl, rfl, .inl ⟨1, by omega, rfl, rfl⟩⟩
theorem it1_of {n : Nat} {spB spD : Sp} {vs : List V} {H : Hp} {Q : VK} {E : XK} (h : spIt1 K CR CB n vs H Q E) : spItem K CR CB spB spD vs H Q E := by
  obtain ⟨r, b, W, M, ws, i, d, sb, ses, L, bs, g, o, p, x, S, rfl, hR, hl, hM, hB, hbr, hLW, hbl, hT, hF, hS, hx, kk⟩ := h
  obtain ⟨⟨dr, hr1⟩, hW⟩ := id hR
  obtain ⟨⟨db, hb1⟩, hb2⟩ := id hB
  have hWn : W ∉ [b, L] := by
    have : W ≠ b := ne_of hW hb1 fun z => by cases z
    simp [this, Ne.symm hLW]
  have deed : ∀ (y : Str) (k : Int) (len : Nat), (((y = "go" ∨ y = "paint") ∧ k = 0 ∧ len = 1) ∨ (y = "turn" ∧ len = 2 ∧ ∃ z, ws[i + 1]? = some z ∧ NumW true z k)) → itE ses x = [(y, k)] → (itT x).length = len → itB K CR CB r b W M ws i y H Q := by
    intro y k len hy hE hlen
    refine ⟨L, bs, g, o, p, k, len, hB, hWn, hbl, hy, fun H' t s R' nt ht B' => ?_⟩
    rw [← hlen] at R'
    have fin : ∀ g' o' : Nat, Blk CB H' b L (bs ++ [.ref t]) g' o' (if y = "paint" then true else p) → g' + o' = g + o + 1 → Q .non H' := fun g' o' hB' e => by
      refine kk H' (.ref t) g' o' _ s R' hB' (by rw [hE]; exact e) ?_
      rw [hE]
      exact .inl ⟨(y, k), rfl, t, rfl, wo_some.mpr ⟨hF.out nt, ht⟩⟩
    by_cases hg : y = "go"
    · rw [if_pos hg, if_pos hg] at B'
      exact fin (g + 1) o B' (by omega)
    · rw [if_neg hg, if_neg hg] at B'
      exact fin g (o + 1) B' (by omega)
  cases x with
  | none =>
    obtain ⟨a, rfl, hX⟩ := hx rfl
    refine ⟨r, b, W, M, ws, i, "side", _, d, rfl, hR, hT.head, hl, hM, hbr, .inl ?_⟩
    match n, hX with
    | n + 1, hX =>
      obtain ⟨La, va, ess, ga, oa, pa, ⟨⟨da, ha1⟩, ha2⟩, h3, h4, h5⟩ := Ex.get hX
      rw [wo_some] at ha1 ha2
      refine ⟨a, L, bs, g, o, p, La, va, ga, oa, pa, mn_side, hB, hWn, hbl, ⟨⟨da, ha1.2⟩, ha2.2⟩, fun q => ha1.1 (hS a (by simp [q])), fun q => ha1.1 (hS a (by simp [q])), fun H' t s R' nt ht B' => ?_⟩
      refine kk H' (.ref t) (g + ga) (o + oa) _ s R' B' (by show _ = g + o + ses.length; omega) (.inr ⟨t, a, 1, ses, rfl, wo_some.mpr ⟨hF.out nt, ht⟩, hX.mono (wo_sk (s.mono hS)), ?_⟩)
      show ses = _
      simp
  | some x =>
    rcases gT_head x with ⟨k, rfl, ⟨rfl, e⟩ | ⟨rfl, e⟩⟩ | ⟨y, k, e1, e2, hn⟩
    · refine ⟨r, b, W, M, ws, i, "paint", _, d, rfl, hR, hT.head, hl, hM, hbr, .inr ⟨mn_no (by decide +kernel), .inl (deed "paint" 0 1 (.inl ⟨.inr rfl, rfl, rfl⟩) rfl rfl)⟩⟩
    · refine ⟨r, b, W, M, ws, i, "go", _, d, rfl, hR, hT.head, hl, hM, hbr, .inr ⟨mn_no (by decide +kernel), .inl (deed "go" 0 1 (.inl ⟨.inl rfl, rfl, rfl⟩) rfl rfl)⟩⟩
    · have e3 : itT (some x) = (["turn", y] : List Str) := e1
      have hT2 := hT
      rw [e3] at hT2
      refine ⟨r, b, W, M, ws, i, "turn", _, d, rfl, hR, hT2.head, hl, hM, hbr, .inr ⟨mn_no (by decide +kernel), .inl (deed "turn" k 2 (.inr ⟨rfl, rfl, y, hT2.tail.head, hn⟩) (by show [gD x] = _; rw [e2]) (by rw [e3]; rfl))⟩⟩
end
end W5
set_option maxHeartbeats 8000000
/-! W5R7: Reader.bracketed. -/
namespace W5
open PySem L2 K5
theorem none_back {H H1 : Hp} {r c : Addr} (s : Sx r H H1) (hr : ∃ o, H1 r = some o) (h : H1 c = none) : H c = none := by
  cases e : H c with
  | none => rfl
  | some o =>
    by_cases q : c = r
    · obtain ⟨o', h'⟩ := hr
      rw [q, h'] at h
      cases h
    · rw [s _ _ e q] at h
      cases h
theorem itT_first (x : Option (Option Nat)) : ∃ y ts, itT x = y :: ts ∧ y ≠ "]" := by
  match x with
  | none => exact ⟨"side", [], rfl, by decide +kernel⟩
  | some none => exact ⟨"paint", [], rfl, by decide +kernel⟩
  | some (some 0) => exact ⟨"go", [], rfl, by decide +kernel⟩
  | some (some 1) => exact ⟨"turn", ["1"], rfl, by decide +kernel⟩
  | some (some 2) => exact ⟨"turn", ["-1"], rfl, by decide +kernel⟩
  | some (some (_ + 3)) => exact ⟨"turn", ["2"], rfl, by decide +kernel⟩
section
theorem mkB_in {CB c dc : Addr} {H : Hp} {R : Hp → Prop} (nc : H c = none) (nd : H dc = none) (ne : dc ≠ c) (k : ∀ L H2, Same H H2 → H L = none → L ≠ c → H2 c = some (.ins CB dc (bF L 0 0 false)) → H2 L = some (.lst []) → R H2) :
    spBI CB (.ref c :: ([] ++ [])) (upd (upd H dc (.own c)) c (.ins CB dc [])) (fun v H2 => v = .non ∧ R H2) E0 := by
  have s0 : Same H (upd (upd H dc (.own c)) c (.ins CB dc [])) := Same.upd (Same.new nd) nc
  refine ⟨c, dc, rfl, upd_same, fun H' L kp nL hx hL => ⟨rfl, ?_⟩⟩
  have xL : L ≠ c := fun e => by rw [e, upd_same] at nL; cases nL
  have dL : L ≠ dc := fun e => by rw [e, upd_ne ne, upd_same] at nL; cases nL
  rw [upd_ne xL, upd_ne dL] at nL
  exact k L H' (fun b o e => kp b o (s0 b o e) (ne_of_none e nc)) nL xL hx hL
end
section
variable {P : Program} {w : World} {K : PySem.W.Frag} {mg : Str → Option Value} {base : Heap} {CR CB aW : Addr}
def spBrk (K : PySem.W.Frag) (CR CB : Addr) (n : Nat) : Sp := fun vs H Q _ => ∃ r W M ws i, ∃ d : Int, ∃ sb ses, ∃ its : List (Option (Option Nat)), ∃ S : List Addr, vs = [.ref r, .int d, .bl false] ∧ d ≠ 5 ∧ Rdr K CR H r W M ws i ∧ ws.length ≤ 1000 ∧ H M = some (.dK (mn sb)) ∧
  Tk ws i ("[" :: (its.flatMap itT ++ (["]"] : List Str))) ∧ Fz S H ∧ r ∈ S ∧ (none ∈ its → ∃ a, sb = some a ∧ Ex CB n (wo S H) a ses) ∧
  ∀ H' c, Sx r H H' → H c = none → Rdr K CR H' r W M ws (i + (its.flatMap itT).length + 2) → Ex CB (n + 1) (wo S H') c (its.flatMap (itE ses)) → Q (.ref c) H'
def brkI (K : PySem.W.Frag) (CR CB : Addr) (n : Nat) (r W M c L : Addr) (ws : List Str) (i : Nat) (d : Int) (ses : List Dd) (its : List (Option (Option Nat))) (S : List Addr) (H : Hp) : Nat → L2.St → Hp → Prop := fun m σ H3 =>
  ∃ us rs vs at', ∃ g o : Nat, ∃ p, its = us ++ rs ∧ m = rs.length ∧ σ = [some (.ref r), some (.int d), some (.bl false), some (.ref c)] ∧ Tk ws at' (rs.flatMap itT ++ (["]"] : List Str)) ∧ at' + (rs.flatMap itT).length = i + 1 + (its.flatMap itT).length ∧
      Sx r H H3 ∧ Rdr K CR H3 r W M ws at' ∧ Blk CB H3 c L vs g o p ∧ g + o = (us.flatMap (itE ses)).length ∧ Paired (Pb CB n (wo (c :: L :: S) H3)) (us.map (itE ses)) vs
theorem itT_len : ∀ us : List (Option (Option Nat)), us.length ≤ (us.flatMap itT).length
  | [] => Nat.le_refl _
  | x :: us => by
    obtain ⟨y, ts, e, _⟩ := itT_first x
    have := itT_len us
    rw [List.flatMap_cons, List.length_append, e, List.length_cons, List.length_cons]
    omega
theorem Paired.flat {α β γ : Type} {F : γ → β → Prop} {f : α → γ} : ∀ {xs : List α} {ys : List β}, Paired (fun a b => F (f a) b) xs ys → Paired F (xs.map f) ys
  | _, _, .nil => .nil
  | _, _, .cons r t => .cons r (Paired.flat t)
abbrev nBrk : List Str := ["self", "depth", "in_back", "block"]
theorem scBrk : FnScope nBrk ["self", "depth", "in_back"] (defScope (inClass (top 47) 3)) := ⟨rfl, rfl, rfl, by decide +kernel, rfl, by decide +kernel, by decide +kernel⟩
theorem c_brk {n : Nat} (D : DfM K CR "bracketed" "Reader.bracketed" (inClass (top 47) 3)) (B : RC K CR) (PMM : PM K mg aW) (CX : Met P w K mg base 1 CR "next_word" (spNext K CR)) (CM : Mak P w K mg base 1 "Block" CB (spBI CB)) (CI : Met P w K mg base 3 CR "item" (spIt1 K CR CB n)) : Met P w K mg base 4 CR "bracketed" (spBrk K CR CB n) := by
  refine D.met scBrk (fun _ _ _ _ _ _ us hl => match us, hl with | [_, _, _], _ => rfl) (fun vs H Q E h => ?_) (fun cdv A outer f s H vs Q E hr h => ?_)
  · obtain ⟨r, W, M, ws, i, d, sb, ses, its, S, rfl, _⟩ := h
    rfl
  · obtain ⟨r, W, M, ws, i, d, sb, ses, its, S, rfl, hd, hR, hl, hM, hT, hF, hrS, hside, k⟩ := h
    obtain ⟨⟨dr, hr1⟩, hW⟩ := id hR
    obtain ⟨tO, mO⟩ := PMM.mO
    refine ⟨_, pss_cons (ps_if (PW.pt (pw_or (pt_cmpR op_ne (pe_mt0 CX hr (by decide) (pv 0)) pe_str (nomark _)) (pw_or1 (pt_cmpR op_eq (pv 1) (pe_glob (v := .int 5) rfl mO ⟨_, rfl⟩) (nomark _))))) pss_never pss_nil)
      (pss_cons (ps_fldaug (pv 0) pe_int in_add)
      (pss_cons (ps_set (i := 3) scBrk.nd rfl (Or.inl rfl) (pe_mk0 CM hr (by decide) rfl))
      (pss_cons (ps_while PassesOwn.never (pt_cmpR op_ne (pe_mt0 CX hr (by decide) (pv 0)) pe_str (nomark _)) (pss_one (ps_expr (pe_mt CI hr (by decide) (pv 0) (pa_cons (pv 3) (pa_cons (pe_op op_add (pv 1) pe_int) (pa_cons (pv 2) pa_nil)))))))
      (pss_cons (ps_fldaug (pv 0) pe_int in_add)
      (pss_one (ps_ret (pv 3))))))), ?_⟩
    refine ⟨_, rfl, r, dr, _, rfl, hr1, rNo.1, r, W, M, ws, i, "[", rfl, hR, hT.head, hl, rfl, _, rfl, ?_⟩
    rw [decide_eq_true rfl]
    refine iteF (A := False) ?_
    refine ⟨_, rfl, rfl, _, rfl, iteDF (fun q => hd (by injection q)) ?_⟩
    refine iteF (A := False) ?_
    refine ⟨_, rfl, r, CR, dr, _, _, rfl, hr1, B.cl, B.nA, rF_A, _, _, rfl, rfl, dr, _, hr1, (by show 3 < 1000; decide), ?_⟩
    rw [rF_pA]
    have s1 : Sx r H (upd H r (.ins CR dr (rF W ((i : Int) + 1) M))) := Sx.upd (Sx.refl r H)
    have R1 : Rdr K CR (upd H r (.ins CR dr (rF W ((i : Int) + 1) M))) r W M ws (i + 1) := s1.rdr hR ⟨dr, upd_same⟩
    have hr9 : (upd H r (.ins CR dr (rF W ((i : Int) + 1) M))) r = some (.ins CR dr (rF W ((i : Int) + 1) M)) := upd_same
    generalize upd H r (.ins CR dr (rF W ((i : Int) + 1) M)) = H1 at s1 R1 hr9 ⊢
    intro c dc nc nd ne
    refine mkB_in nc nd ne fun L H2 s2 nL hLc hc hL => ?_
    have nc0 := none_back s1 ⟨_, hr9⟩ nc
    have nL0 := none_back s1 ⟨_, hr9⟩ nL
    have hcr : c ≠ r := fun e => by rw [e, hr1] at nc0; cases nc0
    have hLr : L ≠ r := fun e => by rw [e, hr1] at nL0; cases nL0
    have hLW : L ≠ W := fun e => by rw [e, hW] at nL0; cases nL0
    have Mr : M ≠ r := ne_of hM hr1 fun z => by cases z
    have t2 : Sx r H H2 := Sx.trans s1 (Sx.of s2)
    have R2 : Rdr K CR H2 r W M ws (i + 1) := (Sx.of (p := r) s2).rdr R1 ⟨dr, s2 _ _ hr9⟩
    have hcS := hF.out nc0
    have hLS := hF.out nL0
    refine ⟨brkI K CR CB n r W M c L ws i d ses its S H, ⟨_, [], its, [], i + 1, 0, 0, false, rfl, rfl, rfl, hT.tail, rfl, t2, R2, ⟨⟨dc, hc⟩, hL⟩, rfl, .nil⟩, ?_⟩
    rintro m σ H3 ⟨us, rs, vs, at', g, o, p, rfl, rfl, rfl, hT3, hat, s3, R3, hB3, hg3, hP3⟩
    obtain ⟨⟨dr3, hr3⟩, hW3⟩ := id R3
    obtain ⟨⟨dc3, hc3⟩, hL3⟩ := id hB3
    cases rs with
    | nil =>
      have hT4 : Tk ws at' ["]"] := hT3
      refine ⟨_, rfl, r, dr3, _, rfl, hr3, rNo.1, r, W, M, ws, at', "]", rfl, R3, hT4.head, hl, rfl, _, rfl, ?_⟩
      rw [decide_eq_true rfl]
      refine iteF (A := True) ?_
      refine ⟨_, rfl, r, CR, dr3, _, _, rfl, hr3, B.cl, B.nA, rF_A, _, _, rfl, rfl, dr3, _, hr3, (by show 3 < 1000; decide), ?_⟩
      rw [rF_pA]
      refine ⟨_, rfl, ?_⟩
      have s4 : Sx r H3 (upd H3 r (.ins CR dr3 (rF W ((at' + 1 : Nat) : Int) M))) := Sx.upd (Sx.refl r H3)
      have R4 : Rdr K CR (upd H3 r (.ins CR dr3 (rF W ((at' + 1 : Nat) : Int) M))) r W M ws (at' + 1) := s4.rdr R3 ⟨dr3, upd_same⟩
      rw [List.append_nil] at hat k
      have e1 : at' + 1 = i + (us.flatMap itT).length + 2 := by
        simp only [List.flatMap_nil, List.length_nil, Nat.add_zero] at hat
        omega
      refine k _ c (Sx.trans s3 s4) nc0 (by rw [← e1]; exact R4) (Ex.mk (g := g) (o := o) (p := p) (ess := us.map (itE ses)) (vs := vs) (L := L) ⟨⟨dc3, wo_some.mpr ⟨hcS, ?_⟩⟩, wo_some.mpr ⟨hLS, ?_⟩⟩ ?_ ?_ ?_)
      · rw [upd_ne hcr]; exact hc3
      · rw [upd_ne hLr]; exact hL3
      · exact hg3
      · rw [List.flatMap_def]
      · refine pmap hP3 fun _ _ r' => r'.mono (wo_up fun a o' e q => ⟨fun z => q (List.mem_cons_of_mem _ (List.mem_cons_of_mem _ z)), ?_⟩)
        rw [upd_ne (fun z : a = r => q (by rw [z]; exact List.mem_cons_of_mem _ (List.mem_cons_of_mem _ hrS)))]
        exact e
    | cons x rs =>
      obtain ⟨y, ts, ey, hy⟩ := itT_first x
      have hT4 : Tk ws at' (itT x ++ (rs.flatMap itT ++ (["]"] : List Str))) := by
        rw [List.flatMap_cons, List.append_assoc] at hT3
        exact hT3
      have hd0 : ws[at']? = some y := by
        have := hT4.app.1
        rw [ey] at this
        exact this.head
      refine ⟨_, rfl, r, dr3, _, rfl, hr3, rNo.1, r, W, M, ws, at', y, rfl, R3, hd0, hl, rfl, _, rfl, ?_⟩
      rw [decide_eq_false (fun q => hy (by injection q))]
      refine iteT (B := True) ?_
      have hlen := hP3.length
      rw [List.length_map] at hlen
      have hul := itT_len us
      have hT5 := hT4.len
      have hM3 : H3 M = some (.dK (mn sb)) := s3 _ _ hM Mr
      have hatl : at' + ((x :: rs).flatMap itT).length = i + 1 + ((us ++ x :: rs).flatMap itT).length := hat
      rw [List.flatMap_append, List.length_append] at hatl
      have hF3 : Fz (c :: L :: S) H3 := fun a h => by
        rcases List.mem_cons.mp h with rfl | h
        · rw [hc3]; exact fun z => nomatch z
        · rcases List.mem_cons.mp h with rfl | h
          · rw [hL3]; exact fun z => nomatch z
          · by_cases q : a = r
            · rw [q, hr3]; exact fun z => nomatch z
            · cases e : H a with
              | none => exact absurd e (hF a h)
              | some o => rw [s3 _ _ e q]; exact fun z => nomatch z
      refine ⟨brkI K CR CB n r W M c L ws i d ses (us ++ x :: rs) S H rs.length, fun σ' H' h => ⟨_, Nat.lt_succ_self _, h⟩, ?_⟩
      refine ⟨_, rfl, r, dr3, _, rfl, hr3, rNo.2.2.2.1, _, rfl, _, rfl, _, _, rfl, rfl, _, rfl, ?_⟩
      refine ⟨r, c, W, M, ws, at', d + 1, sb, ses, L, vs, g, o, p, x, c :: L :: S, rfl, R3, hl, hM3, hB3, hcr, hLW, by omega, hT4.app.1, hF3, ?_, ?_, fun H4 v g' o' p' s4 R4 B4 e4 P4 => ?_⟩
      · intro a ha
        simp only [List.mem_cons, List.not_mem_nil, or_false] at ha ⊢
        rcases ha with rfl | rfl | rfl
        · exact .inr (.inr hrS)
        · exact .inl rfl
        · exact .inr (.inl rfl)
      · intro ex
        obtain ⟨a, ha, hX⟩ := hside (by rw [ex]; simp)
        refine ⟨a, ha, hX.mono (wo_up fun b o' e q => ⟨fun z => ?_, s3 _ _ e fun z => q (by rw [z]; exact hrS)⟩)⟩
        rcases List.mem_cons.mp z with rfl | z
        · rw [nc0] at e; cases e
        · rcases List.mem_cons.mp z with rfl | z
          · rw [nL0] at e; cases e
          · exact q z
      · refine ⟨us ++ [x], rs, vs ++ [v], at' + (itT x).length, g', o', p', by simp, rfl, rfl, hT4.app.2, ?_, ?_, R4, B4, ?_, ?_⟩
        · rw [List.flatMap_cons, List.length_append] at hat
          omega
        · intro a o' e q
          refine s4 _ _ (s3 _ _ e q) fun z => ?_
          simp only [List.mem_cons, List.not_mem_nil, or_false] at z
          rcases z with rfl | rfl | rfl
          · exact q rfl
          · rw [nc0] at e; cases e
          · rw [nL0] at e; cases e
        · rw [List.flatMap_append, List.length_append, ← hg3, e4]
          simp
        · rw [List.map_append]
          refine Paired.append (pmap hP3 fun _ _ r' => r'.mono (wo_sk (s4.mono fun a ha => ?_))) (.cons P4 .nil)
          simp only [List.mem_cons, List.not_mem_nil, or_false] at ha ⊢
          rcases ha with rfl | rfl | rfl
          · exact .inr (.inr hrS)
          · exact .inl rfl
          · exact .inr (.inl rfl)
end
end W5
set_option maxHeartbeats 8000000
/-! W5R8: Reader.definition, the outer items. -/
namespace W5
open PySem L2 K5
abbrev Its := List (Option (Option Nat))
abbrev T5 := Option (Option Nat) ⊕ (Nat × Its)
def brT (its : Its) : List Str := "[" :: (its.flatMap itT ++ (["]"] : List Str))
def tpT : T5 → List Str
  | .inl x => itT x
  | .inr (e, its) => "repeat" :: dS e :: brT its
def tpE (ses : List Dd) : T5 → List Dd
  | .inl x => itE ses x
  | .inr (e, its) => (List.replicate (e + 1) (its.flatMap (itE ses))).flatten
def tpOk : T5 → Prop
  | .inl _ => True
  | .inr (e, _) => e < 4
def tpSide : T5 → Prop
  | .inl x => x = none
  | .inr (_, its) => none ∈ its
theorem brT_len (its : Its) : (brT its).length = (its.flatMap itT).length + 2 := by simp [brT]
theorem Fz.sx {S : List Addr} {r : Addr} {H H' : Hp} (f : Fz S H) (s : Sx r H H') (h : H' r ≠ none) : Fz S H' := f.sk (s.sk (S := [r]) (by simp)) fun a ha => by rw [List.mem_singleton.mp ha]; exact h
theorem some_ne {o : Option HO} {x : HO} (h : o = some x) : o ≠ none := by rw [h]; exact fun z => nomatch z
section
variable {P : Program} {w : World} {K : PySem.W.Frag} {mg : Str → Option Value} {base : Heap} {CR CB aW : Addr}
def spDef (K : PySem.W.Frag) (CR CB : Addr) : Sp := fun vs H Q _ => ∃ r W M ws i, ∃ its : Its, ∃ S : List Addr, vs = [.ref r] ∧ Rdr K CR H r W M ws i ∧ ws.length ≤ 1000 ∧ H M = some (.dK []) ∧ Tk ws i ("side" :: brT its) ∧ none ∉ its ∧ Fz S H ∧ r ∈ S ∧ M ∈ S ∧
  ∀ H' c, Sk [r, M] H H' → H c = none → Rdr K CR H' r W M ws (i + (its.flatMap itT).length + 3) → H' M = some (.dK (mn (some c))) → Ex CB 1 (wo S H') c (its.flatMap (itE [])) → Q .non H'
abbrev nDef : List Str := ["self", "name", "block"]
theorem scDef : FnScope nDef ["self"] (defScope (inClass (top 47) 5)) := ⟨rfl, rfl, rfl, by decide +kernel, rfl, by decide +kernel, by decide +kernel⟩
theorem c_def (D : DfM K CR "definition" "Reader.definition" (inClass (top 47) 5)) (B : RC K CR) (CX : Met P w K mg base 1 CR "next_word" (spNext K CR)) (CN : Cal P w K mg base 1 "is_name" spIsName) (CBr : Met P w K mg base 4 CR "bracketed" (spBrk K CR CB 0)) : Met P w K mg base 5 CR "definition" (spDef K CR CB) := by
  refine D.met scDef (fun _ _ _ _ _ _ us hl => match us, hl with | [_], _ => rfl) (fun vs H Q E h => ?_) (fun cdv A outer f s H vs Q E hr h => ?_)
  · obtain ⟨r, W, M, ws, i, its, S, rfl, _⟩ := h
    rfl
  · obtain ⟨r, W, M, ws, i, its, S, rfl, hR, hl, hM, hT, hno, hF, hrS, hMS, k⟩ := h
    obtain ⟨⟨dr, hr1⟩, hW⟩ := id hR
    have hu := hu_of hr
    refine ⟨_, pss_cons (ps_set (i := 1) scDef.nd rfl (Or.inl rfl) (pe_mt0 CX hr (by decide) (pv 0)))
      (pss_cons (ps_if (PW.pt (pw_or (pt_not (pt_val (pe_c CN hr (by decide) rfl (pa_cons (pv 1) pa_nil)))) (pw_or1 (pt_cmp (pc_din hu (pv 1) (pe_fld (pv 0) rfl)))))) pss_never pss_nil)
      (pss_cons (ps_fldaug (pv 0) pe_int in_add)
      (pss_cons (ps_set (i := 2) scDef.nd rfl (Or.inl rfl) (pe_mt CBr hr (by decide) (pv 0) (pa_cons pe_int (pa_cons pe_bl pa_nil))))
      (pss_one (ps_dput hu (pe_fld (pv 0) rfl) (pv 1) (pv 2) rfl))))), ?_⟩
    refine ⟨_, rfl, r, dr, _, rfl, hr1, rNo.1, r, W, M, ws, i, "side", rfl, hR, hT.head, hl, ?_⟩
    refine ⟨_, rfl, rfl, _, rfl, iteF (A := False) ?_⟩
    refine ⟨_, rfl, _, rfl, r, CR, dr, _, _, rfl, hr1, B.cl, B.nM, rF_M, M, _, rfl, DGet.k (k := Sum.inr "side") hM, _, rfl, iteF (A := False) ?_⟩
    refine ⟨_, rfl, r, CR, dr, _, _, rfl, hr1, B.cl, B.nA, rF_A, _, _, rfl, rfl, dr, _, hr1, (by show 3 < 1000; decide), ?_⟩
    rw [rF_pA]
    have s1 : Sx r H (upd H r (.ins CR dr (rF W ((i : Int) + 1) M))) := Sx.upd (Sx.refl r H)
    have R1 : Rdr K CR (upd H r (.ins CR dr (rF W ((i : Int) + 1) M))) r W M ws (i + 1) := s1.rdr hR ⟨dr, upd_same⟩
    have hr9 : (upd H r (.ins CR dr (rF W ((i : Int) + 1) M))) r = some (.ins CR dr (rF W ((i : Int) + 1) M)) := upd_same
    generalize upd H r (.ins CR dr (rF W ((i : Int) + 1) M)) = H1 at s1 R1 hr9 ⊢
    have Mr : M ≠ r := ne_of hM hr1 fun z => by cases z
    have hM1 := s1 _ _ hM Mr
    refine ⟨_, rfl, r, dr, _, rfl, hr9, rNo.2.2.1, r, W, M, ws, i + 1, 0, none, [], its, S, rfl, by decide, R1, hl, hM1, hT.tail, hF.sx s1 (some_ne hr9), hrS, fun q => absurd q hno, fun H2 c s2 nc R2 X2 => ?_⟩
    obtain ⟨⟨dr2, hr2⟩, hW2⟩ := id R2
    have hM2 := s2 _ _ hM1 Mr
    refine ⟨_, rfl, _, rfl, r, CR, dr2, _, _, rfl, hr2, B.cl, B.nM, rF_M, _, rfl, M, _, rfl, DPut.k (k := Sum.inr "side") hM2 (by decide), ?_⟩
    have t2 := Sx.trans s1 s2
    refine k _ c (Sk.up (t2.sk (by simp)) (by simp)) (none_back s1 ⟨_, hr9⟩ nc) ⟨⟨dr2, ?_⟩, ?_⟩ upd_same (X2.mono (wo_up fun a o e q => ⟨q, ?_⟩))
    · rw [upd_ne (Ne.symm Mr)]
      rw [show i + 1 + (its.flatMap itT).length + 2 = i + (its.flatMap itT).length + 3 by omega] at hr2
      exact hr2
    · rw [upd_ne (fun e => by rw [e, hM2] at hW2; cases hW2)]
      exact hW2
    · rw [upd_ne (fun e : a = M => q (by rw [e]; exact hMS))]
      exact e
/-! ### the outer items -/
def spIt2 (K : PySem.W.Frag) (CR CB : Addr) : Sp := fun vs H Q _ => ∃ r b W M ws i sb ses L bs, ∃ g o : Nat, ∃ p x, ∃ S : List Addr, vs = [.ref r, .ref b, .int 0, .bl false] ∧ Rdr K CR H r W M ws i ∧ ws.length ≤ 1000 ∧ H M = some (.dK (mn sb)) ∧
  Blk CB H b L bs g o p ∧ b ≠ r ∧ L ≠ W ∧ bs.length ≤ 1000 ∧ Tk ws i (tpT x) ∧ tpOk x ∧ Fz S H ∧ (∀ a ∈ [r, b, L], a ∈ S) ∧ (tpSide x → ∃ a, sb = some a ∧ Ex CB 1 (wo S H) a ses) ∧
  ∀ H' v, ∀ g' o' : Nat, ∀ p', Sk [r, b, L] H H' → Rdr K CR H' r W M ws (i + (tpT x).length) → Blk CB H' b L (bs ++ [v]) g' o' p' → g' + o' = g + o + (tpE ses x).length → Pb CB 2 (wo S H') (tpE ses x) v → Q .non H'
def spItL (K : PySem.W.Frag) (CR CB : Addr) : Sp := fun vs H Q _ => ∃ r b W M ws i, ∃ its : Its, ∃ S : List Addr, vs = [.ref r, .ref b, .int 0, .bl false] ∧ Rdr K CR H r W M ws i ∧ ws.length ≤ 1000 ∧ H M = some (.dK []) ∧ b ≠ r ∧ Tk ws i ("let" :: "side" :: brT its) ∧ none ∉ its ∧ Fz S H ∧ r ∈ S ∧ M ∈ S ∧
  ∀ H' c, Sk [r, M] H H' → H c = none → Rdr K CR H' r W M ws (i + (its.flatMap itT).length + 4) → H' M = some (.dK (mn (some c))) → Ex CB 1 (wo S H') c (its.flatMap (itE [])) → Q .non H'
theorem it2_of {vs : List V} {H : Hp} {Q : VK} {E : XK} (h : spIt2 K CR CB vs H Q E ∨ spItL K CR CB vs H Q E) : spItem K CR CB (spBrk K CR CB 1) (spDef K CR CB) vs H Q E := by
  rcases h with ⟨r, b, W, M, ws, i, sb, ses, L, bs, g, o, p, x, S, rfl, hR, hl, hM, hB, hbr, hLW, hbl, hT, hok, hF, hS, hx, kk⟩ | ⟨r, b, W, M, ws, i, its, S, rfl, hR, hl, hM, hbr, hT, hno, hF, hrS, hMS, kk⟩
  · cases x with
    | inl x =>
      refine it1_of (n := 2) (E := E) ⟨r, b, W, M, ws, i, 0, sb, ses, L, bs, g, o, p, x, S, rfl, hR, hl, hM, hB, hbr, hLW, hbl, hT, hF, hS, fun e => ?_, kk⟩
      obtain ⟨a, h1, h2⟩ := hx e
      exact ⟨a, h1, h2.up⟩
    | inr x =>
      obtain ⟨e, its⟩ := x
      have he : e < 4 := hok
      have hT1 : Tk ws i ("repeat" :: dS e :: brT its) := hT
      obtain ⟨⟨dr, hr1⟩, hW⟩ := id hR
      obtain ⟨⟨db, hb1⟩, hb2⟩ := id hB
      have Mr : M ≠ r := ne_of hM hr1 fun z => by cases z
      have Lr : L ≠ r := ne_of hb2 hr1 fun z => by cases z
      have hrS := hS r (by simp)
      refine ⟨r, b, W, M, ws, i, "repeat", _, 0, rfl, hR, hT1.head, hl, hM, hbr, .inr ⟨mn_no (by decide +kernel), .inr (.inl ⟨rfl, ⟨L, bs, g, o, p, hB⟩, e, he, hT1.tail.head, fun H1 s1 R1 Q' hQ => ?_⟩)⟩⟩
      have hr9 : H1 r ≠ none := by
        obtain ⟨⟨d9, h9⟩, _⟩ := R1
        exact some_ne h9
      have hF1 := hF.sx s1 hr9
      refine ⟨r, W, M, ws, i + 2, 0, sb, ses, its, S, rfl, by decide, R1, hl, s1 _ _ hM Mr, hT1.tail.tail, hF1, hrS, fun q => ?_, fun H2 c s2 nc R2 X2 => hQ _ _ ?_⟩
      · obtain ⟨a, h1, h2⟩ := hx q
        exact ⟨a, h1, h2.mono (wo_up fun a o e q => ⟨q, s1 _ _ e fun z => q (by rw [z]; exact hrS)⟩)⟩
      · obtain ⟨Lc, cs, ess, gc, oc, pc, ⟨⟨dc, hc1⟩, hc2⟩, h3, h4, h5⟩ := Ex.get X2
        rw [wo_some] at hc1 hc2
        have hB2 : Blk CB H2 b L bs g o p := ⟨⟨db, s2 _ _ (s1 _ _ hb1 hbr) hbr⟩, s2 _ _ (s1 _ _ hb2 Lr) Lr⟩
        have rb : r ∉ [b, L] := by simp [Ne.symm hbr, Ne.symm Lr]
        have Wb : W ∉ [b, L] := by
          have : W ≠ b := ne_of hW hb1 fun z => by cases z
          simp [this, Ne.symm hLW]
        refine ⟨c, Lc, cs, gc, oc, pc, L, bs, g, o, p, rfl, ⟨⟨dc, hc1.2⟩, hc2.2⟩, hB2, fun z => hc1.1 (hS c (by simp [z])), hbl, fun H' t s3 nt ht B3 => ?_⟩
        have t3 : Sk [r, b, L] H H' := Sk.trans ((Sx.trans s1 s2).sk (by simp)) (s3.mono (by simp))
        have tS : t ∉ S := fun q => by
          have := hF1.sx s2 (by obtain ⟨⟨d9, h9⟩, _⟩ := R2; exact some_ne h9)
          exact this t q nt
        have cast1 : ((e : Int) + 1) = ((e + 1 : Nat) : Int) := rfl
        refine kk H' (.ref t) (g + (e + 1) * gc) (o + (e + 1) * oc) (p || pc) t3 ?_ ?_ ?_ (.inr ⟨t, c, e + 1, its.flatMap (itE ses), rfl, wo_some.mpr ⟨tS, ht⟩, X2.mono (wo_sk (s3.mono fun a ha => hS a (List.mem_cons_of_mem _ ha))), rfl⟩)
        · have := s3.rdr R2 rb Wb
          rw [show i + 2 + (its.flatMap itT).length + 2 = i + (tpT (.inr (e, its))).length by
            show _ = i + (("repeat" : Str) :: dS e :: brT its).length
            rw [List.length_cons, List.length_cons, brT_len]
            omega] at this
          exact this
        · have e1 : ((g + (e + 1) * gc : Nat) : Int) = (g : Int) + ((e : Int) + 1) * gc := by push_cast; rfl
          have e2 : ((o + (e + 1) * oc : Nat) : Int) = (o : Int) + ((e : Int) + 1) * oc := by push_cast; rfl
          rw [e1, e2]
          exact B3
        · show _ = g + o + ((List.replicate (e + 1) (its.flatMap (itE ses))).flatten).length
          rw [List.length_flatten, List.map_replicate, List.sum_replicate_nat, ← h3, Nat.mul_add]
          omega
  · obtain ⟨⟨dr, hr1⟩, hW⟩ := id hR
    have Mr : M ≠ r := ne_of hM hr1 fun z => by cases z
    refine ⟨r, b, W, M, ws, i, "let", _, 0, rfl, hR, hT.head, hl, hM, hbr, .inr ⟨rfl, .inr (.inr ⟨rfl, rfl, fun H1 s1 R1 => ?_⟩)⟩⟩
    have hr9 : H1 r ≠ none := by
      obtain ⟨⟨d9, h9⟩, _⟩ := R1
      exact some_ne h9
    refine ⟨r, W, M, ws, i + 1, its, S, rfl, R1, hl, s1 _ _ hM Mr, hT.tail, hno, hF.sx s1 hr9, hrS, hMS, fun H' c s2 nc R2 hM2 X2 => ?_⟩
    refine kk H' c (Sk.trans (s1.sk (by simp)) s2) ?_ ?_ hM2 X2
    · refine none_back s1 ?_ nc
      obtain ⟨⟨d9, h9⟩, _⟩ := R1
      exact ⟨_, h9⟩
    · rw [show i + (its.flatMap itT).length + 4 = i + 1 + (its.flatMap itT).length + 3 by omega]
      exact R2
end
end W5
set_option maxHeartbeats 8000000
/-! W5R9: Reader.whole. -/
namespace W5
open PySem L2 K5
def dfT : Option Its → List Str
  | none => []
  | some its => "let" :: "side" :: brT its
def dfE : Option Its → List Dd
  | none => []
  | some its => its.flatMap (itE [])
theorem tpT_first (x : T5) : ∃ y ts, tpT x = y :: ts := by
  cases x with
  | inl x =>
    obtain ⟨y, ts, e, _⟩ := itT_first x
    exact ⟨y, ts, e⟩
  | inr x => exact ⟨_, _, rfl⟩
section
variable {P : Program} {w : World} {K : PySem.W.Frag} {mg : Str → Option Value} {base : Heap} {CR CB aW : Addr}
def spWhole (K : PySem.W.Frag) (CR CB : Addr) : Sp := fun vs H Q _ => ∃ r W M, ∃ df : Option Its, ∃ xs : List T5, vs = [.ref r] ∧ Rdr K CR H r W M (dfT df ++ xs.flatMap tpT) 0 ∧ (dfT df ++ xs.flatMap tpT).length ≤ 900 ∧ H M = some (.dK []) ∧
  (∀ its, df = some its → none ∉ its) ∧ (∀ x ∈ xs, tpOk x ∧ (tpSide x → df ≠ none)) ∧
  ∀ H' c, Sk [r, M] H H' → Ex CB 3 H' c (xs.flatMap (tpE (dfE df))) → Q (.ref c) H'
def whI (K : PySem.W.Frag) (CR CB : Addr) (r W M c L : Addr) (ws : List Str) (df : Option Its) (xs : List T5) (H : Hp) : Nat → L2.St → Hp → Prop := fun m σ H3 =>
  σ = [some (.ref r), some (.ref c)] ∧ ((∃ its, df = some its ∧ m = xs.length + 1 ∧ Same H H3 ∧ Rdr K CR H3 r W M ws 0 ∧ Blk CB H3 c L [] 0 0 false ∧ H3 M = some (.dK [])) ∨
    ∃ us rs vs at', ∃ g o : Nat, ∃ p sb, xs = us ++ rs ∧ m = rs.length ∧ Tk ws at' (rs.flatMap tpT) ∧ at' + (rs.flatMap tpT).length = ws.length ∧ vs.length ≤ at' ∧ Sk [r, M] H H3 ∧ Rdr K CR H3 r W M ws at' ∧ Blk CB H3 c L vs g o p ∧
      g + o = (us.flatMap (tpE (dfE df))).length ∧ Paired (Pb CB 2 (wo [r, c, L] H3)) (us.map (tpE (dfE df))) vs ∧ H3 M = some (.dK (mn sb)) ∧ (df ≠ none → ∃ a, sb = some a ∧ Ex CB 1 (wo [r, c, L] H3) a (dfE df)))
abbrev nWhole : List Str := ["self", "block"]
theorem scWhole : FnScope nWhole ["self"] (defScope (inClass (top 47) 6)) := ⟨rfl, rfl, rfl, by decide +kernel, rfl, by decide +kernel, by decide +kernel⟩
theorem c_whole (D : DfM K CR "whole" "Reader.whole" (inClass (top 47) 6)) (T : Bn mg) (B : RC K CR) (CM : Mak P w K mg base 1 "Block" CB (spBI CB)) (CI : Met P w K mg base 6 CR "item" (fun vs H Q E => spIt2 K CR CB vs H Q E ∨ spItL K CR CB vs H Q E)) : Met P w K mg base 7 CR "whole" (spWhole K CR CB) := by
  refine D.met scWhole (fun _ _ _ _ _ _ us hl => match us, hl with | [_], _ => rfl) (fun vs H Q E h => ?_) (fun cdv A outer f s H vs Q E hr h => ?_)
  · obtain ⟨r, W, M, df, xs, rfl, _⟩ := h
    rfl
  · obtain ⟨r, W, M, df, xs, rfl, hR, hl, hM, hdf, hxs, k⟩ := h
    obtain ⟨⟨dr, hr1⟩, hW⟩ := id hR
    refine ⟨_, pss_cons (ps_set (i := 1) scWhole.nd rfl (Or.inl rfl) (pe_mk0 CM hr (by decide) rfl))
      (pss_cons (ps_while PassesOwn.never (pt_cmpR op_lt (pe_fld (pv 0) rfl) (pe_callB call_len_seq (by rfl) T.blen PySem.boot_len (pa_cons (pe_fld (pv 0) rfl) pa_nil)) (nomark _)) (pss_one (ps_expr (pe_mt CI hr (by decide) (pv 0) (pa_cons (pv 1) (pa_cons pe_int (pa_cons pe_bl pa_nil)))))))
      (pss_one (ps_ret (pv 1)))), ?_⟩
    intro c dc nc nd ne
    refine mkB_in nc nd ne fun L H2 s2 nL hLc hc hL => ?_
    have hcr : c ≠ r := fun e => by rw [e, hr1] at nc; cases nc
    have hLr : L ≠ r := fun e => by rw [e, hr1] at nL; cases nL
    have hLW : L ≠ W := fun e => by rw [e, hW] at nL; cases nL
    have hcM : c ≠ M := fun e => by rw [e, hM] at nc; cases nc
    have hLM : L ≠ M := fun e => by rw [e, hM] at nL; cases nL
    have Mr : M ≠ r := ne_of hM hr1 fun z => by cases z
    have R2 : Rdr K CR H2 r W M (dfT df ++ xs.flatMap tpT) 0 := (Sx.of (p := r) s2).rdr hR ⟨dr, s2 _ _ hr1⟩
    obtain ⟨ws, hws⟩ : ∃ ws, ws = dfT df ++ xs.flatMap tpT := ⟨_, rfl⟩
    rw [← hws] at hR hl R2
    refine ⟨whI K CR CB r W M c L ws df xs H, ?_, ?_⟩
    · cases df with
      | none => exact ⟨xs.length, rfl, .inr ⟨[], xs, [], 0, 0, 0, false, none, rfl, rfl, ⟨[], [], by rw [hws]; simp [dfT], rfl⟩, by rw [hws]; simp [dfT], Nat.le_refl _, Sk.of s2, R2, ⟨⟨dc, hc⟩, hL⟩, rfl, .nil, s2 _ _ hM, fun q => absurd rfl q⟩⟩
      | some its => exact ⟨xs.length + 1, rfl, .inl ⟨its, rfl, rfl, s2, R2, ⟨⟨dc, hc⟩, hL⟩, s2 _ _ hM⟩⟩
    · rintro m σ H3 ⟨rfl, hcase⟩
      have test : ∀ (at' : Nat), Rdr K CR H3 r W M ws at' → ∃ dr3, H3 r = some (.ins CR dr3 (rF W at' M)) ∧ H3 W = some (.lst (ws.map V.str)) := fun at' ⟨⟨d, h1⟩, h2⟩ => ⟨d, h1, h2⟩
      rcases hcase with ⟨its, rfl, rfl, s3, R3, hB3, hM3⟩ | ⟨us, rs, vs, at', g, o, p, sb, rfl, rfl, hT3, hat, hvl, s3, R3, hB3, hg3, hP3, hM3, hS3⟩
      · obtain ⟨dr3, hr3, hW3⟩ := test _ R3
        refine ⟨_, rfl, r, CR, dr3, _, _, rfl, hr3, B.cl, B.nA, rF_A, _, rfl, r, CR, dr3, _, _, rfl, hr3, B.cl, B.nW, rF_W, W, _, rfl, .inl (.of hW3), _, _, rfl, rfl, _, rfl, ?_⟩
        have hwl : 0 < ws.length := by rw [hws]; simp [dfT]
        refine iteDT (by rw [List.length_map]; omega) ?_
        refine ⟨whI K CR CB r W M c L ws (some its) xs H xs.length, fun σ' H' h => ⟨_, Nat.lt_succ_self _, h⟩, ?_⟩
        refine ⟨_, rfl, r, dr3, _, rfl, hr3, rNo.2.2.2.1, _, rfl, .inr ?_⟩
        obtain ⟨⟨dc3, hc3⟩, hL3⟩ := id hB3
        have hT0 : Tk ws 0 ((("let" : Str) :: ("side" : Str) :: brT its) ++ xs.flatMap tpT) := ⟨[], [], by rw [hws]; simp [dfT], rfl⟩
        refine ⟨r, c, W, M, ws, 0, its, [r, M, c, L], rfl, R3, by omega, hM3, hcr, hT0.app.1, hdf its rfl, fun a ha => ?_, by simp, by simp, fun H4 a s4 na R4 hM4 X4 => ?_⟩
        · simp only [List.mem_cons, List.not_mem_nil, or_false] at ha
          rcases ha with rfl | rfl | rfl | rfl
          · exact some_ne hr3
          · exact some_ne hM3
          · exact some_ne hc3
          · exact some_ne hL3
        · have hlen : ws.length = (its.flatMap itT).length + 4 + (xs.flatMap tpT).length := by
            rw [hws, List.length_append]
            show (dfT (some its)).length + _ = _
            simp only [dfT, List.length_cons, brT_len]
          refine ⟨rfl, .inr ⟨[], xs, [], 0 + (its.flatMap itT).length + 4, 0, 0, false, some a, rfl, rfl, ?_, by omega, by simp, fun b o' e q => s4 _ _ (s3 _ _ e) q, R4, ⟨⟨dc3, s4 _ _ hc3 (by simp [hcr, hcM])⟩, s4 _ _ hL3 (by simp [hLr, hLM])⟩, rfl, .nil, hM4, fun _ => ⟨a, rfl, X4.mono (wo_sub fun b hb => .inl ?_)⟩⟩⟩
          · have := hT0.app.2
            simp only [List.length_cons, brT_len] at this
            rw [show 0 + (its.flatMap itT).length + 4 = 0 + ((its.flatMap itT).length + 2 + 1 + 1) by omega]
            exact this
          · simp only [List.mem_cons, List.not_mem_nil, or_false] at hb ⊢
            rcases hb with rfl | rfl | rfl
            · exact .inl rfl
            · exact .inr (.inr (.inl rfl))
            · exact .inr (.inr (.inr rfl))
      · obtain ⟨dr3, hr3, hW3⟩ := test _ R3
        obtain ⟨⟨dc3, hc3⟩, hL3⟩ := id hB3
        refine ⟨_, rfl, r, CR, dr3, _, _, rfl, hr3, B.cl, B.nA, rF_A, _, rfl, r, CR, dr3, _, _, rfl, hr3, B.cl, B.nW, rF_W, W, _, rfl, .inl (.of hW3), _, _, rfl, rfl, _, rfl, ?_⟩
        cases rs with
        | nil =>
          simp only [List.flatMap_nil, List.length_nil, Nat.add_zero] at hat
          refine iteDF (by rw [List.length_map]; omega) ?_
          refine ⟨_, rfl, k H3 c s3 ?_⟩
          rw [List.append_nil, List.flatMap_def]
          refine Ex.mk (g := g) (o := o) (p := p) (L := L) (vs := vs) hB3 (by rw [hg3, List.flatMap_def]) rfl (pmap hP3 fun _ _ q => q.mono (wo_le _ _))
        | cons x rs =>
          obtain ⟨y, ts, ey⟩ := tpT_first x
          rw [List.flatMap_cons] at hT3 hat
          rw [List.length_append] at hat
          have hx1 : 0 < (tpT x).length := by rw [ey]; simp
          refine iteDT (by rw [List.length_map]; omega) ?_
          refine ⟨whI K CR CB r W M c L ws df (us ++ x :: rs) H rs.length, fun σ' H' h => ⟨_, Nat.lt_succ_self _, h⟩, ?_⟩
          refine ⟨_, rfl, r, dr3, _, rfl, hr3, rNo.2.2.2.1, _, rfl, .inl ?_⟩
          obtain ⟨ok1, ok2⟩ := hxs x (by simp)
          refine ⟨r, c, W, M, ws, at', sb, dfE df, L, vs, g, o, p, x, [r, c, L], rfl, R3, by omega, hM3, hB3, hcr, hLW, by omega, hT3.app.1, ok1, fun a ha => ?_, fun a ha => ha, fun q => hS3 (ok2 q), fun H4 v g' o' p' s4 R4 B4 e4 P4 => ?_⟩
          · simp only [List.mem_cons, List.not_mem_nil, or_false] at ha
            rcases ha with rfl | rfl | rfl
            · exact some_ne hr3
            · exact some_ne hc3
            · exact some_ne hL3
          · refine ⟨rfl, .inr ⟨us ++ [x], rs, vs ++ [v], at' + (tpT x).length, g', o', p', sb, by simp, rfl, hT3.app.2, by omega, by rw [List.length_append, List.length_singleton]; omega, fun a o' e q => ?_, R4, B4, ?_, ?_, s4 _ _ hM3 (by simp [Mr, Ne.symm hcM, Ne.symm hLM]), fun q => ?_⟩⟩
            · refine s4 _ _ (s3 _ _ e q) fun z => ?_
              simp only [List.mem_cons, List.not_mem_nil, or_false] at z
              rcases z with rfl | rfl | rfl
              · exact q (by simp)
              · rw [nc] at e; cases e
              · rw [nL] at e; cases e
            · rw [List.flatMap_append, List.length_append, ← hg3, e4]
              simp
            · rw [List.map_append]
              exact Paired.append (pmap hP3 fun _ _ r' => r'.mono (wo_sk s4)) (.cons P4 .nil)
            · obtain ⟨a, h1, h2⟩ := hS3 q
              exact ⟨a, h1, h2.mono (wo_sk s4)⟩
end
end W5
set_option maxHeartbeats 8000000
/-! W5RA: done, deeds. -/
namespace W5
open PySem L2 K5
theorem Mo.pbd : ∀ {H H' : Hp} {e : Dd} {v : V}, Same H H' → PbD H e v → PbD H' e v := fun s ⟨t, e, h⟩ => ⟨t, e, s _ _ h⟩
theorem Paired.repF {α β : Type} {F : α → β → Prop} {xs : List α} {ys : List β} (h : Paired F xs ys) : ∀ k : Nat, Paired F (List.replicate k xs).flatten (List.replicate k ys).flatten
  | 0 => .nil
  | k + 1 => by
    rw [List.replicate_succ, List.replicate_succ, List.flatten_cons, List.flatten_cons]
    exact Paired.append h (Paired.repF h k)
section
variable {P : Program} {w : World} {K : PySem.W.Frag} {mg : Str → Option Value} {base : Heap} {CR CB aW : Addr}
def spDone (CB : Addr) (n : Nat) : Sp := fun vs H Q _ => ∃ b es, vs = [.ref b, .bl false] ∧ Ex CB n H b es ∧ es.length ≤ 200 ∧
  ∀ H' R us, Same H H' → H R = none → H' R = some (.lst us) → Paired (PbD H') es us → Q (.ref R) H'
abbrev nDone : List Str := ["block", "backward", "result", "parts", "part", "word", "k", "times", "turned_back", "inner"]
theorem scDone : FnScope nDone ["block", "backward"] (defScope (top 48)) := ⟨rfl, rfl, rfl, by decide +kernel, rfl, by decide +kernel, by decide +kernel⟩
theorem c_done (F : Df K mg "done" (top 48)) (T : Bn mg) (BB : BC K CB) : ∀ n, Cal P w K mg base (n + 1) "done" (spDone CB n)
  | 0 => F.cal scDone (fun _ _ _ _ _ _ us hl => match us, hl with | [_, _], _ => rfl) (fun vs H Q E h => by obtain ⟨b, es, rfl, _⟩ := h; rfl) (fun cdv A outer f s H vs Q E hr h => by obtain ⟨b, es, rfl, h, _⟩ := h; exact h.elim)
  | n + 1 => by
    have CD := c_done F T BB n
    refine F.cal scDone (fun _ _ _ _ _ _ us hl => match us, hl with | [_, _], _ => rfl) (fun vs H Q E h => ?_) (fun cdv A outer f s H vs Q E hr h => ?_)
    · obtain ⟨b, es, rfl, _⟩ := h
      rfl
    · obtain ⟨b, es, rfl, hX, hel, k⟩ := h
      obtain ⟨L, vs, ess, g, o, p, ⟨⟨db, hb⟩, hL⟩, hgo, rfl, hP⟩ := Ex.get hX
      refine ⟨_, pss_cons (ps_set (i := 2) scDone.nd rfl (Or.inl rfl) (pe_lst pa_nil))
        (pss_cons (ps_set (i := 3) scDone.nd rfl (Or.inl rfl) (pe_fld (pv 0) rfl))
        (pss_cons (ps_if (pt_val (pv 1)) pss_never pss_nil)
        (pss_cons (ps_for PassesOwn.never rfl (pi_list (pv 3)) (pg_n 4 scDone.nd)
          (pss_one (ps_if (pt_cmpR op_eq (pe_callB call_len_seq (by rfl) T.blen PySem.boot_len (pa_cons (pv 4) pa_nil)) pe_int (nomark _))
            (pss_cons (ps_asg (pv 4) (pg_tup rfl (pgs_cons (pg_n 5 scDone.nd) (pgs_cons (pg_n 6 scDone.nd) pgs_nil))))
            (pss_cons (ps_if (pt_val (pv 1)) pss_never pss_nil)
            (pss_one (ps_expr (pe_bm PySem.F.plainAttrs_list PySem.F.slot_list_append PySem.F.type_list_append mt_append (pv 2) (pa_cons (pe_tup (pa_cons (pv 5) (pa_cons (pv 6) pa_nil))) pa_nil))))))
            (pss_cons (ps_asg (pv 4) (pg_tup rfl (pgs_cons (pg_n 7 scDone.nd) (pgs_cons (pg_n 8 scDone.nd) (pgs_cons (pg_n 9 scDone.nd) pgs_nil)))))
            (pss_one (ps_if (PW.pt (pw_and (pt_cmpR op_gt (pe_op op_add (pe_fld (pv 9) rfl) (pe_fld (pv 9) rfl)) pe_int (nomark _)) (pw_and1 (pt_cmpR op_gt (pv 7) pe_int (nomark _)))))
              (pss_one (ps_expr (pe_bm PySem.F.plainAttrs_list PySem.F.slot_list_extend PySem.F.type_list_extend mt_extend (pv 2) (pa_cons (pe_op op_rep (pe_c CD hr (by omega) rfl (pa_cons (pv 9) (pa_cons (pe_cmpR op_ne (pv 1) (pv 8) (nomark _)) pa_nil))) (pv 7)) pa_nil))))
              pss_nil))))))
        (pss_one (ps_ret (pv 2)))))), ?_⟩
      refine ⟨(by show 0 ≤ sizeLine; decide), fun R nR => ?_⟩
      have s0 : Same H (upd H R (.lst [])) := Same.new nR
      refine ⟨_, rfl, b, CB, db, _, _, rfl, s0 _ _ hb, BB.cl, BB.nP, bF_P, ?_⟩
      refine ⟨_, rfl, _, rfl, iteF (A := False) ?_⟩
      refine ⟨_, rfl, L, rfl, ⟨_, .of (s0 _ _ hL)⟩, ?_⟩
      have hl := hP.length
      refine for_it (walk_list (xs := vs)) (fun i σ H1 => ∃ x4 x5 x6 x7 x8 x9, σ = [some (.ref b), some (.bl false), some (.ref R), some (.ref L), x4, x5, x6, x7, x8, x9] ∧ Same H H1 ∧ ∃ us, H1 R = some (.lst us) ∧ Paired (PbD H1) ((ess.take i).flatten) us)
        ⟨none, none, none, none, none, none, rfl, s0, [], upd_same, .nil⟩ (fun i σ H1 _ ⟨_, _, _, _, _, _, _, s1, _⟩ => .of (s1 _ _ hL)) ?_ ?_
      · rintro i v σ _ H1 hi ⟨x4, x5, x6, x7, x8, x9, rfl, s1, us, hR, hU⟩ ⟨rfl, hv⟩
        obtain ⟨x, hx, hPb⟩ := Paired.getR hP hv
        have et : ess.take (i + 1) = ess.take i ++ [x] := by rw [List.take_succ, hx]; rfl
        have etl : ((ess.take i).flatten).length + x.length ≤ ess.flatten.length := by
          have h9 : ess = ess.take i ++ x :: ess.drop (i + 1) := by
            conv => lhs; rw [← List.take_append_drop i ess]
            rw [List.drop_eq_getElem_cons (List.getElem?_eq_some_iff.mp hx).1]
            rw [(List.getElem?_eq_some_iff.mp hx).2]
          conv => rhs; rw [h9]
          rw [List.flatten_append, List.flatten_cons, List.length_append, List.length_append]
          omega
        have hul := hU.length
        rw [et, List.flatten_append, List.flatten_singleton]
        rcases hPb with ⟨e, rfl, t, rfl, ht⟩ | ⟨t, c, kk, xs, rfl, ht, hc, rfl⟩
        · refine ⟨_, rfl, t, _, rfl, .inr (.of (s1 _ _ ht)), rfl, _, rfl, iteDT rfl ?_⟩
          refine ⟨_, rfl, t, _, rfl, .of (s1 _ _ ht), rfl, _, _, rfl, _, _, rfl, rfl, ?_⟩
          refine ⟨_, rfl, _, rfl, iteF (A := False) ?_⟩
          refine ⟨_, rfl, .inl ⟨rfl, _, .of hR⟩, _, rfl, _, rfl, (by show 2 ≤ sizeLine; decide), fun u nu => ?_⟩
          have s2 : Same H1 (upd H1 u (.tup [.str e.1, .int e.2])) := Same.new nu
          refine ⟨R, _, _, rfl, rfl, s2 _ _ hR, Nat.lt_of_le_of_lt (m := 200) (by omega) (by decide), ?_⟩
          have uR : u ≠ R := fun q => by rw [q, hR] at nu; cases nu
          have s3 : ∀ a o, H1 a = some o → a ≠ R → (upd (upd H1 u (.tup [.str e.1, .int e.2])) R (.lst (us ++ [.ref u]))) a = some o := fun a o h q => by rw [upd_ne q]; exact s2 _ _ h
          refine ⟨_, _, _, _, _, _, rfl, Same.upd (Same.trans s1 s2) nR, us ++ [.ref u], upd_same, Paired.append (pmap hU fun a v ⟨q, e1, e2⟩ => ⟨q, e1, s3 _ _ e2 (ne_of e2 hR fun z => by cases z)⟩) (.cons ⟨u, rfl, ?_⟩ .nil)⟩
          rw [upd_ne uR]
          exact upd_same
        · refine ⟨_, rfl, t, _, rfl, .inr (.of (s1 _ _ ht)), rfl, _, rfl, iteDF (by simp) ?_⟩
          refine ⟨_, rfl, t, _, rfl, .of (s1 _ _ ht), rfl, _, _, rfl, _, _, rfl, _, _, rfl, rfl, ?_⟩
          match n, hc, CD with
          | m + 1, hc, CD =>
            obtain ⟨Lc, cs, ess', gc, oc, pc, ⟨⟨dc, hc1⟩, hc2⟩, hgc, hes, hPc⟩ := Ex.get hc
            refine ⟨_, rfl, c, CB, dc, _, _, rfl, s1 _ _ hc1, BB.cl, BB.nG, bF_G, _, rfl, c, CB, dc, _, _, rfl, s1 _ _ hc1, BB.cl, BB.nO, bF_O, _, _, rfl, rfl, _, _, rfl, rfl, _, rfl, ?_⟩
            by_cases hz : 0 < xs.length ∧ 0 < kk
            · refine iteDT (by omega) ?_
              refine ⟨_, rfl, _, _, rfl, rfl, _, rfl, iteDT (by omega) ?_⟩
              have hxl : xs.length ≤ kk * xs.length := Nat.le_mul_of_pos_left _ hz.2
              have hkl : kk ≤ kk * xs.length := Nat.le_mul_of_pos_right _ hz.1
              have hrl : ((List.replicate kk xs).flatten).length = kk * xs.length := by rw [List.length_flatten, List.map_replicate, List.sum_replicate_nat]
              refine ⟨_, rfl, .inl ⟨rfl, _, .of hR⟩, _, rfl, _, rfl, _, rfl, rfl, c, xs, rfl, hc.mono s1, by omega, fun H2 R2 us2 s2 nR2 hR2 hU2 => ?_⟩
              have hul2 := hU2.length
              refine ⟨_, rfl, R2, kk, us2, rfl, rfl, hR2, by omega, by omega, ?_, fun q nq => ?_⟩
              · rw [Int.toNat_natCast, ← hul2, Nat.mul_comm]
                exact Nat.le_trans (m := 200) (by omega) (by decide)
              · rw [Int.toNat_natCast]
                have s3 : Same H2 (upd H2 q (.lst (List.replicate kk us2).flatten)) := Same.new nq
                have hrl2 : ((List.replicate kk us2).flatten).length = kk * us2.length := by rw [List.length_flatten, List.map_replicate, List.sum_replicate_nat]
                refine ⟨R, q, _, _, rfl, rfl, s3 _ _ (s2 _ _ hR), upd_same, ?_, ?_⟩
                · rw [hrl2, ← hul2]
                  exact Nat.le_trans (m := 200) (by omega) (by decide)
                · have t3 : Same H (upd H2 q (.lst (List.replicate kk us2).flatten)) := Same.trans s1 (Same.trans s2 s3)
                  have hR3 : (upd H2 q (.lst (List.replicate kk us2).flatten)) R = some (.lst us) := s3 _ _ (s2 _ _ hR)
                  have mv : ∀ {e : Dd} {v : V}, PbD H2 e v → PbD (upd (upd H2 q (.lst (List.replicate kk us2).flatten)) R (.lst (us ++ (List.replicate kk us2).flatten))) e v := fun ⟨y, e1, e2⟩ => by
                    refine ⟨y, e1, ?_⟩
                    rw [upd_ne (ne_of (s3 _ _ e2) hR3 fun z => by cases z)]
                    exact s3 _ _ e2
                  exact ⟨_, _, _, _, _, _, rfl, Same.upd t3 nR, _, upd_same, Paired.append (pmap hU fun _ _ r => mv (Mo.pbd s2 r)) (pmap (Paired.repF hU2 kk) fun _ _ r => mv r)⟩
            · have hnil : (List.replicate kk xs).flatten = [] := by
                rw [← List.length_eq_zero_iff, List.length_flatten, List.map_replicate, List.sum_replicate_nat]
                rcases Nat.eq_zero_or_pos kk with h0 | h0
                · rw [h0, Nat.zero_mul]
                · have : xs.length = 0 := by omega
                  rw [this, Nat.mul_zero]
              rw [hnil, List.append_nil]
              by_cases h0 : 0 < xs.length
              · refine iteDT (by omega) ?_
                refine ⟨_, rfl, _, _, rfl, rfl, _, rfl, iteDF (by omega) ?_⟩
                exact ⟨_, _, _, _, _, _, rfl, s1, us, hR, hU⟩
              · refine iteDF (by omega) ?_
                refine iteF (A := True) ?_
                exact ⟨_, _, _, _, _, _, rfl, s1, us, hR, hU⟩
      · rintro σ H1 ⟨x4, x5, x6, x7, x8, x9, rfl, s1, us, hR, hU⟩
        rw [← hl, List.take_length] at hU
        exact ⟨_, rfl, k H1 R us s1 nR hR hU⟩
end
end W5
set_option maxHeartbeats 8000000
/-! W5RB: deeds, Picture.read. -/
namespace W5
open PySem L2 K5
/-- what a text is read as -/
def Reads (t : Str) (es : List Dd) : Prop := ∃ (df : Option Its) (xs : List T5), Txt.words t = dfT df ++ xs.flatMap tpT ∧ (∀ its, df = some its → none ∉ its) ∧ (∀ x ∈ xs, tpOk x ∧ (tpSide x → df ≠ none)) ∧ es = xs.flatMap (tpE (dfE df)) ∧ (Txt.words t).length ≤ 900 ∧ t.length ≤ 900 ∧ es.length ≤ 60
def bump (ts : List Int) (k : Int) : List Int := ts.set (ts.length - 1) (ts.getD (ts.length - 1) 0 + k)
theorem bump_len (ts : List Int) (k : Int) : (bump ts k).length = ts.length := by simp [bump]
def rdF (s : List Int × List (List Int)) (d : Dd) : List Int × List (List Int) := if d.1 = "go" then (s.1 ++ [0], s.2) else if d.1 = "turn" then (bump s.1 d.2, s.2) else (s.1, s.2 ++ [s.1])
def rdS (ds : List Dd) : List Int × List (List Int) := ds.foldl rdF ([0], [])
theorem rdS_len : ∀ (ds : List Dd) (s : List Int × List (List Int)), s.1.length ≤ (ds.foldl rdF s).1.length ∧ (ds.foldl rdF s).1.length ≤ s.1.length + ds.length ∧ (ds.foldl rdF s).2.length ≤ s.2.length + ds.length
  | [], s => by simp
  | d :: ds, s => by
    obtain ⟨h1, h2, h3⟩ := rdS_len ds (rdF s d)
    have : s.1.length ≤ (rdF s d).1.length ∧ (rdF s d).1.length ≤ s.1.length + 1 ∧ (rdF s d).2.length ≤ s.2.length + 1 := by
      unfold rdF
      split
      · simp
      · split
        · simp [bump_len]
        · simp
    rw [List.foldl_cons, List.length_cons]
    omega
section
variable {P : Program} {w : World} {K : PySem.W.Frag} {mg : Str → Option Value} {base : Heap} {CR CB CP CW aW : Addr}
theorem mkR_in {r dx : Addr} {H : Hp} {t : Str} {R : Hp → Prop} (ht : t.length + 2 ≤ 1000) (nr : H r = none) (nd : H dx = none) (ne : dx ≠ r) (k : ∀ W M H2, Same H H2 → H M = none → M ≠ r → (∀ ws, Txt.words t = ws → Rdr K CR H2 r W M ws 0) → H2 M = some (.dK []) → R H2) :
    spRI CR (.ref r :: ([.str t] ++ [])) (upd (upd H dx (.own r)) r (.ins CR dx [])) (fun v H2 => v = .non ∧ R H2) E0 := by
  have s0 : Same H (upd (upd H dx (.own r)) r (.ins CR dx [])) := Same.upd (Same.new nd) nr
  refine ⟨r, dx, t, rfl, upd_same, ht, fun H' W M kp nW nM hWr hMr hMW hx hW hM => ⟨rfl, ?_⟩⟩
  have dM : M ≠ dx := fun e => by rw [e, upd_ne ne, upd_same] at nM; cases nM
  rw [upd_ne hMr, upd_ne dM] at nM
  exact k W M H' (fun b o e => kp b o (s0 b o e) (ne_of_none e nr)) nM hMr (fun ws e => ⟨⟨dx, hx⟩, by rw [← e]; exact hW⟩) hM
def spDeeds : Sp := fun vs H Q _ => ∃ t es, vs = [.str t] ∧ Reads t es ∧ ∀ H' R us, Same H H' → H R = none → H' R = some (.lst us) → Paired (PbD H') es us → Q (.ref R) H'
theorem scDeeds : FnScope ["text", "block"] ["text"] (defScope (top 49)) := ⟨rfl, rfl, rfl, by decide +kernel, rfl, by decide +kernel, by decide +kernel⟩
theorem c_deeds (F : Df K mg "deeds" (top 49)) (BB : BC K CB) (PMM : PM K mg aW) (CRd : Mak P w K mg base 1 "Reader" CR (spRI CR)) (CWh : Met P w K mg base 7 CR "whole" (spWhole K CR CB)) (CDn : Cal P w K mg base 4 "done" (spDone CB 3)) : Cal P w K mg base 8 "deeds" spDeeds := by
  refine F.cal scDeeds (fun _ _ _ _ _ _ us hl => match us, hl with | [_], _ => rfl) (fun vs H Q E h => ?_) (fun cdv A outer f s H vs Q E hr h => ?_)
  · obtain ⟨t, es, rfl, _⟩ := h
    rfl
  · obtain ⟨t, es, rfl, ⟨df, xs, hwd, hdf, hxs, rfl, hwl, htl, hel⟩, k⟩ := h
    obtain ⟨tG, mG⟩ := PMM.mG
    obtain ⟨tR, mR⟩ := PMM.mR
    refine ⟨_, pss_cons (ps_set (i := 1) scDeeds.nd rfl (Or.inl rfl) (pe_mt0 CWh hr (by decide) (pe_mk CRd hr (by decide) rfl (pa_cons (pv 0) pa_nil))))
      (pss_cons (ps_if (PW.pt (pw_or (pt_cmpR op_gt (pe_fld (pv 1) rfl) (pe_glob (v := .int 60) rfl mG ⟨_, rfl⟩) (nomark _)) (pw_or1 (pt_cmpR op_gt (pe_fld (pv 1) rfl) (pe_glob (v := .int 400) rfl mR ⟨_, rfl⟩) (nomark _))))) pss_never pss_nil)
      (pss_one (ps_ret (pe_c CDn hr (by decide) rfl (pa_cons (pv 1) (pa_cons pe_bl pa_nil)))))), ?_⟩
    refine ⟨_, rfl, ?_⟩
    intro r dx nr nd ne
    refine mkR_in (K := K) (by omega) nr nd ne fun W M H2 s2 nM hMr hR hM => ?_
    have R2 := hR _ hwd
    obtain ⟨⟨dr, hr2⟩, hW2⟩ := id R2
    refine ⟨r, dr, _, rfl, hr2, rNo.2.2.2.2.2, r, W, M, df, xs, rfl, R2, by rw [← hwd]; exact hwl, hM, hdf, hxs, fun H3 c s3 X3 => ?_⟩
    have t3 : Same H H3 := fun a o e => s3 _ _ (s2 _ _ e) fun q => by
      simp only [List.mem_cons, List.not_mem_nil, or_false] at q
      rcases q with rfl | rfl
      · rw [nr] at e; cases e
      · rw [nM] at e; cases e
    obtain ⟨Lc, cs, ess, gc, oc, pc, ⟨⟨dc, hc1⟩, hc2⟩, hgc, hes, hPc⟩ := Ex.get X3
    refine ⟨_, rfl, c, CB, dc, _, _, rfl, hc1, BB.cl, BB.nG, bF_G, _, _, rfl, rfl, _, rfl, iteDF (by omega) ?_⟩
    refine ⟨_, rfl, c, CB, dc, _, _, rfl, hc1, BB.cl, BB.nO, bF_O, _, _, rfl, rfl, _, rfl, iteDF (by omega) ?_⟩
    refine ⟨_, rfl, c, _, rfl, X3, by omega, fun H4 R us s4 nR hR4 hU4 => k H4 R us (Same.trans t3 s4) ?_ hR4 hU4⟩
    cases e : H R with
    | none => rfl
    | some o => rw [t3 _ _ e] at nR; cases nR
theorem mkW_in {H : Hp} {a x dx : Addr} {ws : List Int} {R : Hp → Prop} (hq : SqL K H a (ws.map V.int) ∨ SqT K H a (ws.map V.int)) (hl : ws.length ≤ 1000) (nx : H x = none) (nd : H dx = none) (ne : dx ≠ x) (k : ∀ H2, Same H H2 → Wk K CW H2 ws (.ref x) → R H2) :
    spWI K CW (.ref x :: ([.ref a] ++ [])) (upd (upd H dx (.own x)) x (.ins CW dx [])) (fun v H2 => v = .non ∧ R H2) E0 := by
  have s0 : Same H (upd (upd H dx (.own x)) x (.ins CW dx [])) := Same.upd (Same.new nd) nx
  refine ⟨x, a, dx, ws, rfl, upd_same, hq.elim (fun h => .inl (Same.sL s0 h)) (fun h => .inr (Same.sT s0 h)), hl, fun H' t kp hx ht => ⟨rfl, k H' (fun b o e => ?_) ⟨x, dx, t, rfl, hx, ht⟩⟩⟩
  exact kp b o (s0 b o e) (ne_of_none e nx)
/-! ### Picture.read -/
def spRead (K : PySem.W.Frag) (CP CW : Addr) : Sp := fun vs H Q _ => ∃ t es, vs = [.ref CP, .str t] ∧ Reads t es ∧ ∀ v H', Same H H' → Pic K CP CW H' (rdS es).2 v → Q v H'
abbrev nRead : List Str := ["cls", "text", "walks", "turns", "word", "k"]
theorem scRead : FnScope nRead ["cls", "text"] (defScope (inClass (top 62) 1)) := ⟨rfl, rfl, rfl, by decide +kernel, rfl, by decide +kernel, by decide +kernel⟩
theorem c_read (D : DfC K mg "Picture" CP "read" "Picture.read" (inClass (top 62) 1)) (CD : Cal P w K mg base 8 "deeds" spDeeds) (CWk : Mak P w K mg base 1 "Walk" CW (spWI K CW)) (CPi : Mak P w K mg base 1 "Picture" CP (spPI K CP CW)) : Clm P w K mg base 9 "Picture" CP "read" (spRead K CP CW) := by
  refine D.clm scRead (fun _ _ _ _ _ _ us hl => match us, hl with | [_, _], _ => rfl) (fun vs H Q E h => ?_) (fun cdv A outer f s H vs Q E hr h => ?_)
  · obtain ⟨t, es, rfl, _⟩ := h
    rfl
  · obtain ⟨t, es, rfl, hRd, k⟩ := h
    have hel : es.length ≤ 60 := by
      obtain ⟨_, _, _, _, _, _, _, _, h⟩ := hRd
      exact h
    refine ⟨_, pss_cons (ps_set (i := 2) scRead.nd rfl (Or.inl rfl) (pe_lst pa_nil))
      (pss_cons (ps_set (i := 3) scRead.nd rfl (Or.inl rfl) (pe_lst (pa_cons pe_int pa_nil)))
      (pss_cons (ps_for PassesOwn.never rfl (pi_list (pe_c CD hr (by decide) rfl (pa_cons (pv 1) pa_nil))) (pg_2K rfl (pg_n 4 scRead.nd) (pg_n 5 scRead.nd))
        (pss_one (ps_if (pt_cmpR op_eq (pv 4) pe_str (nomark _))
          (pss_one (ps_expr (pe_bm PySem.F.plainAttrs_list PySem.F.slot_list_append PySem.F.type_list_append mt_append (pv 3) (pa_cons pe_int pa_nil))))
          (pss_one (ps_if (pt_cmpR op_eq (pv 4) pe_str (nomark _))
            (pss_one (ps_laug (pv 3) (pe_un un_neg pe_int) (pv 5) ip_add))
            (pss_one (ps_expr (pe_bm PySem.F.plainAttrs_list PySem.F.slot_list_append PySem.F.type_list_append mt_append (pv 2) (pa_cons (pe_mk CWk hr (by decide) rfl (pa_cons (pv 3) pa_nil)) pa_nil)))))))))
      (pss_one (ps_ret (pe_mkL (i := 0) CPi hr (by decide) rfl (Or.inl rfl) (pa_cons (pv 2) pa_nil)))))), ?_⟩
    refine ⟨(by show 0 ≤ sizeLine; decide), fun U nU => ?_⟩
    refine ⟨(by show 1 ≤ sizeLine; decide), fun T nT => ?_⟩
    have sU : Same H (upd H U (.lst [])) := Same.new nU
    have hTU : T ≠ U := fun e => by rw [e, upd_same] at nT; cases nT
    have nT0 : H T = none := by rw [upd_ne hTU] at nT; exact nT
    have s1 : Same H (upd (upd H U (.lst [])) T (.lst [.int 0])) := Same.upd sU nT0
    have hU1 : (upd (upd H U (.lst [])) T (.lst [.int 0])) U = some (.lst []) := by rw [upd_ne (Ne.symm hTU)]; exact upd_same
    refine ⟨_, rfl, t, es, rfl, hRd, fun H2 R rs s2 nR hR2 hPR => ?_⟩
    have hRU : R ≠ U := fun e => by rw [e, hU1] at nR; cases nR
    have hRT : R ≠ T := fun e => by rw [e, upd_same] at nR; cases nR
    have t2 : Same H H2 := Same.trans s1 s2
    have hlen := hPR.length
    refine ⟨R, rfl, ⟨_, .of hR2⟩, ?_⟩
    refine for_it (walk_list (xs := rs)) (fun i σ H3 => ∃ x y, σ = [some (.ref CP), some (.str t), some (.ref U), some (.ref T), x, y] ∧ Same H H3 ∧ H3 R = some (.lst rs) ∧ Paired (PbD H3) es rs ∧ ∃ ts ws, H3 T = some (.lst (ts.map V.int)) ∧ ts = ((es.take i).foldl rdF ([0], [])).1 ∧ H3 U = some (.lst ws) ∧ Paired (Wk K CW H3) ((es.take i).foldl rdF ([0], [])).2 ws)
      ⟨none, none, rfl, t2, hR2, hPR, [0], [], s2 _ _ upd_same, rfl, s2 _ _ hU1, .nil⟩ (fun i σ H3 _ ⟨_, _, _, _, h, _⟩ => .of h) ?_ ?_
    · rintro i v σ H3 _ hi ⟨x, y, rfl, s3, hR3, hP3, ts, ws, hT3, hts, hU3, hW3⟩ ⟨rfl, hv⟩
      obtain ⟨e, he, tp, rfl, htp⟩ := Paired.getR hP3 hv
      have et : es.take (i + 1) = es.take i ++ [e] := by rw [List.take_succ, he]; rfl
      have hb := rdS_len (es.take i) ([0], [])
      have htk : (es.take i).length ≤ 60 := by rw [List.length_take]; omega
      simp only [List.length_nil, List.length_cons] at hb
      rw [← hts] at hb
      have hwl := hW3.length
      rw [et, List.foldl_append]
      generalize hst : (es.take i).foldl rdF ([0], []) = st at hts hb hwl hW3 ⊢
      obtain ⟨ts', us⟩ := st
      simp only at hts hb hwl hW3
      have hts2 := hts.symm
      clear hts
      subst hts2
      have hTne : T ≠ U := hTU
      refine ⟨tp, _, rfl, .of htp, rfl, _, _, rfl, _, _, rfl, rfl, ?_⟩
      have keep : ∀ (H4 : Hp) (a : Addr) (o : HO), (a = T ∨ a = U) → Same H H4 → H4 R = some (.lst rs) → Paired (PbD H4) es rs → (∃ z, H4 a = some (.lst z)) → Same H (upd H4 a o) ∧ (upd H4 a o) R = some (.lst rs) ∧ Paired (PbD (upd H4 a o)) es rs := by
        intro H4 a o ha s4 hR4 hP4 ⟨z, hz⟩
        refine ⟨Same.upd s4 (by rcases ha with rfl | rfl <;> assumption), ?_, pmap hP4 fun e v ⟨q, e1, e2⟩ => ⟨q, e1, ?_⟩⟩
        · rw [upd_ne (by rcases ha with rfl | rfl <;> assumption)]; exact hR4
        · rw [upd_ne (ne_of e2 hz fun z => by cases z)]; exact e2
      have keepW : ∀ (H4 : Hp) (a : Addr) (o : HO) (l : List (List Int)) (zs : List V), (∃ z, H4 a = some (.lst z)) → Paired (Wk K CW H4) l zs → Paired (Wk K CW (upd H4 a o)) l zs := by
        intro H4 a o l zs ⟨z, hz⟩ hp
        refine pmap hp fun u v ⟨q, dq, tq, e1, e2, e3⟩ => ⟨q, dq, tq, e1, ?_, ?_⟩
        · rw [upd_ne (ne_of e2 hz fun z => by cases z)]; exact e2
        · rcases e3 with (h | ⟨o, h⟩) | h
          · exact .inl (.inl (by rw [upd_ne (ne_of h hz fun z => by cases z)]; exact h))
          · exact .inl (.inr ⟨o, by rw [upd_ne (ne_of h hz fun z => by cases z)]; exact h⟩)
          · exact .inr h
      refine ⟨_, rfl, rfl, _, rfl, ?_⟩
      by_cases hg : e.1 = "go"
      · refine iteDT (by rw [hg]) ?_
        refine ⟨_, rfl, .inl ⟨rfl, _, .of hT3⟩, T, _, _, rfl, rfl, hT3, Nat.lt_of_le_of_lt (m := 200) (by rw [List.length_map]; omega) (by decide), ?_⟩
        obtain ⟨k1, k2, k3⟩ := keep _ T (.lst (ts'.map V.int ++ [.int 0])) (.inl rfl) s3 hR3 hP3 ⟨_, hT3⟩
        have e9 : [e].foldl rdF (ts', us) = (ts' ++ [0], us) := by show rdF (ts', us) e = _; unfold rdF; rw [if_pos hg]
        refine ⟨_, _, rfl, k1, k2, k3, ts' ++ [0], ws, by rw [upd_same, List.map_append]; rfl, by rw [e9], by rw [upd_ne (Ne.symm hTU)]; exact hU3, ?_⟩
        rw [e9]
        exact keepW _ _ _ _ _ ⟨_, hT3⟩ hW3
      · refine iteDF (fun q => hg (by injection q)) ?_
        refine ⟨_, rfl, rfl, _, rfl, ?_⟩
        by_cases ht : e.1 = "turn"
        · refine iteDT (by rw [ht]) ?_
          have hp1 : 1 ≤ ts'.length := hb.1
          have e2 : atI (ts'.map V.int) (-1) = some (.int (ts'.getD (ts'.length - 1) 0)) := by
            refine atI_neg (i := ts'.length - 1) ?_ (by rw [List.length_map]; omega)
            rw [List.getElem?_map, List.getElem?_eq_getElem (by omega), List.getD_eq_getElem?_getD, List.getElem?_eq_getElem (by omega)]
            rfl
          have e3 : ixN (ts'.map V.int).length (-1) = some (ts'.length - 1) := by
            unfold ixN
            rw [List.length_map, if_neg (by omega), if_pos (by omega)]
            congr 1
            omega
          refine ⟨_, rfl, _, rfl, T, _, _, _, rfl, rfl, .of hT3, e2, _, rfl, _, _, rfl, rfl, T, _, _, _, rfl, rfl, hT3, e3, ?_⟩
          obtain ⟨k1, k2, k3⟩ := keep _ T (.lst ((ts'.map V.int).set (ts'.length - 1) (.int (ts'.getD (ts'.length - 1) 0 + e.2)))) (.inl rfl) s3 hR3 hP3 ⟨_, hT3⟩
          have e9 : [e].foldl rdF (ts', us) = (bump ts' e.2, us) := by show rdF (ts', us) e = _; unfold rdF; rw [if_neg hg, if_pos ht]
          refine ⟨_, _, rfl, k1, k2, k3, bump ts' e.2, ws, by rw [upd_same, bump, List.map_set], by rw [e9], by rw [upd_ne (Ne.symm hTU)]; exact hU3, ?_⟩
          rw [e9]
          exact keepW _ _ _ _ _ ⟨_, hT3⟩ hW3
        · refine iteDF (fun q => ht (by injection q)) ?_
          refine ⟨_, rfl, .inl ⟨rfl, _, .of hU3⟩, _, rfl, ?_⟩
          intro wx wd nwx nwd newd
          refine mkW_in (ws := ts') (.inl (.of hT3)) (by omega) nwx nwd newd fun H4 s4 hz => ?_
          refine ⟨U, _, _, rfl, rfl, s4 _ _ hU3, Nat.lt_of_le_of_lt (m := 200) (by omega) (by decide), ?_⟩
          obtain ⟨k1, k2, k3⟩ := keep H4 U (.lst (ws ++ [.ref wx])) (.inr rfl) (Same.trans s3 s4) (s4 _ _ hR3) (pmap hP3 fun _ _ r => Mo.pbd s4 r) ⟨_, s4 _ _ hU3⟩
          have e9 : [e].foldl rdF (ts', us) = (ts', us ++ [ts']) := by show rdF (ts', us) e = _; unfold rdF; rw [if_neg hg, if_neg ht]
          refine ⟨_, _, rfl, k1, k2, k3, ts', ws ++ [.ref wx], by rw [upd_ne hTU]; exact s4 _ _ hT3, by rw [e9], upd_same, ?_⟩
          rw [e9]
          exact keepW _ _ _ _ _ ⟨_, s4 _ _ hU3⟩ (Paired.append (pmap hW3 fun _ _ r => Mo.wk _ _ _ _ (Le.of s4) r) (.cons hz .nil))
    · rintro σ H3 ⟨x, y, rfl, s3, hR3, hP3, ts, ws, hT3, hts, hU3, hW3⟩
      rw [← hlen, List.take_length] at hW3
      refine ⟨rfl, _, rfl, ?_⟩
      exact mkP_of ⟨U, ws, rfl, .of hU3, hW3⟩ fun v H4 s4 hv => k v H4 (Same.trans s3 s4) hv
end
end W5
set_option maxHeartbeats 8000000
/-! W5U1: how the law's texts are read; how often they say paint. -/
namespace W5
open PySem L2 K5
theorem joinL_all {S p : List Nat} : ∀ {r : List (List Nat)}, TL.joinL S (p :: r) = p ++ r.flatMap fun q => S ++ q
  | [] => by simp [TL.joinL]
  | q :: r => by
    show p ++ (S ++ TL.joinL S (q :: r)) = _
    rw [joinL_all (p := q), List.flatMap_cons, List.append_assoc]
theorem spl_free {s : Nat} {S : List Nat} : ∀ {p acc L : List Nat}, s ∉ p → TL.spl (s :: S) 0 acc (p ++ L) = TL.spl (s :: S) 0 (acc ++ p) L
  | [], acc, L, _ => by rw [List.append_nil]; rfl
  | c :: p, acc, L, h => by
    rw [List.cons_append, TL.spl_miss (TL.pre_of_head _ _ fun z => h (by rw [z]; simp)), spl_free fun z => h (List.mem_cons_of_mem _ z), List.append_assoc]
    rfl
def spc (x : Option Nat) : List Nat := 32 :: TL.tl (gW x)
theorem gW_some : ∀ k : Nat, 112 ∉ spc (some k)
  | 0 => by decide +kernel
  | 1 => by decide +kernel
  | 2 => by decide +kernel
  | _ + 3 => by show 112 ∉ 32 :: TL.tl "turn 2"; decide +kernel
theorem tl_paint : TL.tl "paint" = 112 :: [97, 105, 110, 116] := by decide +kernel
theorem spl_flat : ∀ (ys : List (Option Nat)) (acc : List Nat), (TL.spl (112 :: [97, 105, 110, 116]) 0 acc (ys.flatMap spc)).length = 1 + (ys.filter Option.isNone).length
  | [], acc => by
    show (TL.spl _ 0 acc []).length = _
    rw [TL.spl_nil]
    rfl
  | none :: ys, acc => by
    have e : (none :: ys).flatMap spc = [32] ++ ((112 :: [97, 105, 110, 116]) ++ ys.flatMap spc) := by
      rw [List.flatMap_cons]
      show (32 :: TL.tl "paint") ++ _ = _
      rw [tl_paint]
      rfl
    rw [e, TL.spl_part1 (by decide), List.length_cons, spl_flat ys []]
    simp
    omega
  | some k :: ys, acc => by
    rw [List.flatMap_cons, spl_free (gW_some k), spl_flat ys]
    simp
theorem spc_len : ∀ x : Option Nat, (spc x).length ≤ 8
  | none => by decide +kernel
  | some 0 => by decide +kernel
  | some 1 => by decide +kernel
  | some 2 => by decide +kernel
  | some (_ + 3) => by show (32 :: TL.tl "turn 2").length ≤ 8; decide +kernel
theorem flat_none : ∀ ops : List (List Nat), ((flat ops).filter Option.isNone).length = ops.length
  | [] => rfl
  | o :: ops => by
    have h := flat_none ops
    have e : flat (o :: ops) = none :: (o.map some ++ flat ops) := by simp [flat]
    have e2 : (o.map some).filter Option.isNone = [] := by
      rw [List.filter_eq_nil_iff]
      intro a ha
      obtain ⟨b, _, rfl⟩ := List.mem_map.mp ha
      simp
    rw [e, List.filter_cons_of_pos rfl, List.length_cons, List.filter_append, e2, List.nil_append, h, List.length_cons]
theorem flat_len : ∀ {ops : List (List Nat)}, (∀ o ∈ ops, o.length ≤ 2) → (flat ops).length ≤ 3 * ops.length
  | [], _ => Nat.le_refl _
  | o :: ops, h => by
    have e : flat (o :: ops) = none :: (o.map some ++ flat ops) := by simp [flat]
    have h1 := h o (by simp)
    have h2 := flat_len fun x hx => h x (List.mem_cons_of_mem _ hx)
    rw [e, List.length_cons, List.length_append, List.length_map, List.length_cons]
    omega
/-- the joined text, sign by sign -/
theorem text_tl {o : List Nat} {ops : List (List Nat)} : TL.tl (Txt.join " " ((o :: ops).flatMap wds)) = TL.tl "paint" ++ (o.map some ++ flat ops).flatMap spc := by
  have e32 : TL.tl " " = [32] := by decide +kernel
  have e : flat (o :: ops) = none :: (o.map some ++ flat ops) := by simp [flat]
  rw [TL.join_eq, TL.tl_join, flat_wds, e, List.map_cons, List.map_cons, joinL_all, e32, List.map_map]
  congr 1
  rw [List.flatMap_map]
  rfl
theorem flatMap_le {α β : Type} {f : α → List β} {c : Nat} (h : ∀ x, (f x).length ≤ c) : ∀ l : List α, (l.flatMap f).length ≤ c * l.length
  | [] => Nat.zero_le _
  | x :: l => by
    have := flatMap_le h l
    have := h x
    rw [List.flatMap_cons, List.length_append, List.length_cons, Nat.mul_add]
    omega
theorem text_len {ops : List (List Nat)} (h : Ops ops) (h1 : 1 ≤ ops.length) (h4 : ops.length ≤ 4) : 5 ≤ (Txt.join " " (ops.flatMap wds)).length ∧ (Txt.join " " (ops.flatMap wds)).length ≤ 900 := by
  match ops, h, h1, h4 with
  | o :: ops, h, _, h4 =>
    rw [TL.len_tl, text_tl, List.length_append, tl_paint]
    have h2 := flatMap_le spc_len (o.map some ++ flat ops)
    have h3 := flat_len fun x hx => (h x (List.mem_cons_of_mem _ hx)).1
    have h5 := (h o (by simp)).1
    rw [List.length_append, List.length_map] at h2
    rw [List.length_cons] at h4
    simp only [List.length_cons, List.length_nil]
    omega
theorem kind_one (x : Str) : ¬ Builtin.Str.strKind x < Builtin.Str.strKind "paint" := by
  have : Builtin.Str.strKind "paint" = 1 := by decide +kernel
  rw [this]
  unfold Builtin.Str.strKind
  split
  · omega
  · split <;> omega
theorem count_split {x : Str} (h : 5 ≤ x.length) : Txt.count x "paint" + 1 = ((Txt.split x "paint").length : Int) := by
  have hl : Str.length "paint" = 5 := by decide +kernel
  unfold Txt.split Txt.count
  have hc : (decide (x.length < Str.length "paint") || decide (Builtin.Str.strKind x < Builtin.Str.strKind "paint")) = false := by
    rw [hl, decide_eq_false (by omega), decide_eq_false (kind_one x)]
    rfl
  rw [if_neg (by rw [hc]; exact Bool.false_ne_true)]
  split
  · rename_i h2
    rw [List.isEmpty_iff.mp h2]
    rfl
  · rw [PyProof.Rows.len_partsBetween]
    push_cast
    rfl
theorem count_ops {ops : List (List Nat)} (h : Ops ops) (h1 : 1 ≤ ops.length) (h4 : ops.length ≤ 4) : Txt.count (Txt.join " " (ops.flatMap wds)) "paint" = ops.length := by
  have hl := (text_len h h1 h4).1
  have hc := count_split hl
  have e : (Txt.split (Txt.join " " (ops.flatMap wds)) "paint").length = 1 + ops.length := by
    rw [← List.length_map (f := TL.tl), TL.split_spl _ _ (by rw [tl_paint]; simp) (kind_one _)]
    match ops, h1 with
    | o :: ops, _ =>
      rw [text_tl, tl_paint]
      have e0 : (112 :: [97, 105, 110, 116]) ++ (o.map some ++ flat ops).flatMap spc = [] ++ ((112 :: [97, 105, 110, 116]) ++ (o.map some ++ flat ops).flatMap spc) := rfl
      rw [e0, TL.spl_part1 (by simp), List.length_cons, spl_flat]
      have := flat_none (o :: ops)
      have e9 : flat (o :: ops) = none :: (o.map some ++ flat ops) := by simp [flat]
      rw [e9, List.filter_cons_of_pos rfl, List.length_cons] at this
      omega
  rw [e] at hc
  omega
/-! ### what the programs are read as -/
theorem gD_flat (ops : List (List Nat)) : ((flat ops).map fun x => (Sum.inl (some x) : T5)).flatMap tpT = ops.flatMap toks := by
  rw [flat_toks, List.flatMap_map]
  rfl
theorem gD_es (ops : List (List Nat)) (ses : List Dd) : ((flat ops).map fun x => (Sum.inl (some x) : T5)).flatMap (tpE ses) = (flat ops).map gD := by
  rw [List.flatMap_map]
  induction flat ops with
  | nil => rfl
  | cons x l ih => rw [List.flatMap_cons, ih]; rfl
theorem dT_len : ∀ k : Nat, (dT k).length ≤ 2
  | 0 => by decide
  | 1 => by decide
  | 2 => by decide
  | _ + 3 => by show [("turn" : Str), "2"].length ≤ 2; decide
theorem reads_ops {ops : List (List Nat)} (h : Ops ops) (h1 : 1 ≤ ops.length) (h4 : ops.length ≤ 4) : Reads (Txt.join " " (ops.flatMap wds)) ((flat ops).map gD) := by
  have hw := words_ops h1
  have hfl := flat_len fun o ho => (h o ho).1
  refine ⟨none, (flat ops).map fun x => (Sum.inl (some x) : T5), by rw [hw, gD_flat]; rfl, (fun _ q => nomatch q), fun x hx => ?_, (gD_es ops _).symm, ?_, (text_len h h1 h4).2, ?_⟩
  · obtain ⟨y, _, rfl⟩ := List.mem_map.mp hx
    exact ⟨trivial, fun q => nomatch q⟩
  · rw [hw, flat_toks]
    have : ∀ x : Option Nat, (gT x).length ≤ 2 := fun x => by
      cases x with
      | none => show [("paint" : Str)].length ≤ 2; decide
      | some k => exact dT_len k
    have := flatMap_le this (flat ops)
    omega
  · rw [List.length_map]
    omega
def itsP : Its := [some none, some (some 1), some (some 0)]
def opsA (e : Nat) : List (List Nat) := List.replicate (e + 1) [1, 0]
theorem reads_A : ∀ {e : Nat}, e < 4 → Reads (tPA e) ((flat (opsA e)).map gD) := by
  intro e he
  have hw := words_tPA he
  refine ⟨none, [.inr (e, itsP)], by rw [hw]; rfl, (fun _ q => nomatch q), fun x hx => ?_, ?_, ?_, ?_, ?_⟩
  · rw [List.mem_singleton.mp hx]
    exact ⟨he, fun q => absurd q (by show none ∉ itsP; decide)⟩
  · match e, he with
    | 0, _ => rfl
    | 1, _ => rfl
    | 2, _ => rfl
    | 3, _ => rfl
  · rw [hw]; simp
  · match e, he with
    | 0, _ => decide +kernel
    | 1, _ => decide +kernel
    | 2, _ => decide +kernel
    | 3, _ => decide +kernel
  · match e, he with
    | 0, _ => decide +kernel
    | 1, _ => decide +kernel
    | 2, _ => decide +kernel
    | 3, _ => decide +kernel
def opsB (e : Nat) : List (List Nat) := opsA e ++ [[]]
theorem reads_B : ∀ {e : Nat}, e < 4 → Reads (tPB e) ((flat (opsB e)).map gD) := by
  intro e he
  have hw := words_tPB he
  refine ⟨some itsP, [.inr (e, [none]), .inl (some none)], by rw [hw]; rfl, fun its q => ?_, fun x hx => ?_, ?_, ?_, ?_, ?_⟩
  · cases q
    decide
  · rcases List.mem_cons.mp hx with rfl | hx
    · exact ⟨he, fun _ => by simp⟩
    · rw [List.mem_singleton.mp hx]
      exact ⟨trivial, fun _ => by simp⟩
  · match e, he with
    | 0, _ => rfl
    | 1, _ => rfl
    | 2, _ => rfl
    | 3, _ => rfl
  · rw [hw]; simp
  · match e, he with
    | 0, _ => decide +kernel
    | 1, _ => decide +kernel
    | 2, _ => decide +kernel
    | 3, _ => decide +kernel
  · match e, he with
    | 0, _ => decide +kernel
    | 1, _ => decide +kernel
    | 2, _ => decide +kernel
    | 3, _ => decide +kernel
end W5
set_option maxHeartbeats 8000000
/-! W5U2: the walks of a program. -/
namespace W5
open PySem L2 K5
def dd (ts : List Int) : Nat → List Int
  | 0 => ts ++ [0]
  | 1 => bump ts 1
  | 2 => bump ts (-1)
  | _ => bump ts 2
def cst : Nat → Nat
  | 0 => 0
  | 1 => 1
  | 2 => 1
  | _ => 2
def cost (l : List Nat) : Nat := (l.map cst).sum
def walksOf : List Int → List (List Nat) → List (List Int)
  | _, [] => []
  | ts, o :: ops => ts :: walksOf (o.foldl dd ts) ops
theorem rdF_some (s : List Int × List (List Int)) : ∀ k : Nat, rdF s (gD (some k)) = (dd s.1 k, s.2)
  | 0 => by show rdF s ("go", 0) = _; unfold rdF; rw [if_pos rfl]; rfl
  | 1 => by show rdF s ("turn", 1) = _; unfold rdF; rw [if_neg (by decide +kernel), if_pos rfl]; rfl
  | 2 => by show rdF s ("turn", -1) = _; unfold rdF; rw [if_neg (by decide +kernel), if_pos rfl]; rfl
  | _ + 3 => by show rdF s ("turn", 2) = _; unfold rdF; rw [if_neg (by decide +kernel), if_pos rfl]; rfl
theorem rdF_none (s : List Int × List (List Int)) : rdF s (gD none) = (s.1, s.2 ++ [s.1]) := by
  show rdF s ("paint", 0) = _
  unfold rdF
  rw [if_neg (by decide +kernel), if_neg (by decide +kernel)]
theorem fold_o : ∀ (o : List Nat) (ts : List Int) (us : List (List Int)), ((o.map some).map gD).foldl rdF (ts, us) = (o.foldl dd ts, us)
  | [], _, _ => rfl
  | k :: o, ts, us => by
    rw [List.map_cons, List.map_cons, List.foldl_cons, rdF_some]
    exact fold_o o _ _
theorem fold_ops : ∀ (ops : List (List Nat)) (ts : List Int) (us : List (List Int)), (((flat ops).map gD).foldl rdF (ts, us)).2 = us ++ walksOf ts ops
  | [], ts, us => by simp [flat, walksOf]
  | o :: ops, ts, us => by
    have e : flat (o :: ops) = none :: (o.map some ++ flat ops) := by simp [flat]
    rw [e, List.map_cons, List.foldl_cons, rdF_none, List.map_append, List.foldl_append, fold_o, fold_ops ops]
    simp [walksOf]
theorem rdS_ops (ops : List (List Nat)) : (rdS ((flat ops).map gD)).2 = walksOf [0] ops := by
  unfold rdS
  rw [fold_ops]
  rfl
theorem walksOf_len : ∀ (ops : List (List Nat)) (ts : List Int), (walksOf ts ops).length = ops.length
  | [], _ => rfl
  | o :: ops, ts => by rw [walksOf, List.length_cons, walksOf_len ops, List.length_cons]
theorem bump_snoc (l : List Int) (x k : Int) : bump (l ++ [x]) k = l ++ [x + k] := by
  unfold bump
  rw [List.length_append, List.length_singleton, Nat.add_sub_cancel, List.getD_eq_getElem?_getD, List.getElem?_append_right (Nat.le_refl _), Nat.sub_self]
  rw [List.set_append_right _ _ (Nat.le_refl _), Nat.sub_self]
  rfl
theorem bump_ne {ts : List Int} (h : ts ≠ []) (k : Int) : bump ts k ≠ [] := by
  intro e
  have := bump_len ts k
  rw [e] at this
  exact h (List.length_eq_zero_iff.mp this.symm)
theorem dd_ne {ts : List Int} (h : ts ≠ []) : ∀ k : Nat, dd ts k ≠ []
  | 0 => by show ts ++ [0] ≠ []; simp
  | 1 => bump_ne h 1
  | 2 => bump_ne h (-1)
  | _ + 3 => bump_ne h 2
theorem fold_ne : ∀ (o : List Nat) {ts : List Int}, ts ≠ [] → o.foldl dd ts ≠ []
  | [], _, h => h
  | k :: o, _, h => fold_ne o (dd_ne h k)
theorem bump_cat {u v : List Int} (hu : u ≠ []) (hv : v ≠ []) (k : Int) : bump (cat u v) k = cat u (bump v k) := by
  obtain ⟨u', x, rfl⟩ := snoc_of hu
  obtain ⟨v', y, rfl⟩ := snoc_of hv
  rw [bump_snoc]
  cases v' with
  | nil =>
    show bump (cat (u' ++ [x]) [y]) k = cat (u' ++ [x]) [y + k]
    rw [cat_eq, cat_eq, bump_snoc, Int.add_assoc]
  | cons z v' =>
    show bump (cat (u' ++ [x]) (z :: (v' ++ [y]))) k = cat (u' ++ [x]) (z :: (v' ++ [y + k]))
    rw [cat_eq, cat_eq, ← List.cons_append, ← List.append_assoc, bump_snoc]
    simp
theorem go_cat {u v : List Int} (hu : u ≠ []) (hv : v ≠ []) : cat u v ++ [0] = cat u (v ++ [0]) := by
  obtain ⟨u', x, rfl⟩ := snoc_of hu
  obtain ⟨z, v', rfl⟩ := List.exists_cons_of_ne_nil hv
  rw [List.cons_append, cat_eq, cat_eq]
  simp
theorem dd_cat {u v : List Int} (hu : u ≠ []) (hv : v ≠ []) : ∀ k : Nat, dd (cat u v) k = cat u (dd v k)
  | 0 => go_cat hu hv
  | 1 => bump_cat hu hv 1
  | 2 => bump_cat hu hv (-1)
  | _ + 3 => bump_cat hu hv 2
theorem fold_cat {u : List Int} (hu : u ≠ []) : ∀ (m : List Nat) {v : List Int}, v ≠ [] → m.foldl dd (cat u v) = cat u (m.foldl dd v)
  | [], _, _ => rfl
  | k :: m, v, hv => by
    rw [List.foldl_cons, List.foldl_cons, dd_cat hu hv, fold_cat hu m (dd_ne hv k)]
theorem cat_zero {u : List Int} (hu : u ≠ []) : cat u [0] = u := by
  obtain ⟨u', x, rfl⟩ := snoc_of hu
  rw [cat_eq, Int.add_zero]
theorem fold_from {u : List Int} (hu : u ≠ []) (m : List Nat) : m.foldl dd u = cat u (m.foldl dd [0]) := by
  have h := fold_cat hu m (v := [0]) (by simp)
  rw [cat_zero hu] at h
  exact h
theorem bump_size {ts : List Int} (h : ts ≠ []) (k : Int) : wsize (bump ts k) ≤ wsize ts + k.natAbs := by
  obtain ⟨u', x, rfl⟩ := snoc_of h
  rw [bump_snoc, wsize_append, wsize_append]
  simp only [wsize]
  omega
theorem dd_bound {ts : List Int} (h : ts ≠ []) : ∀ k : Nat, (dd ts k).length ≤ ts.length + 1 ∧ wsize (dd ts k) ≤ wsize ts + cst k
  | 0 => by
    show (ts ++ [0]).length ≤ _ ∧ wsize (ts ++ [0]) ≤ _
    rw [wsize_append]
    simp [wsize]
  | 1 => ⟨by show (bump ts 1).length ≤ _; rw [bump_len]; omega, bump_size h 1⟩
  | 2 => ⟨by show (bump ts (-1)).length ≤ _; rw [bump_len]; omega, bump_size h (-1)⟩
  | _ + 3 => ⟨by show (bump ts 2).length ≤ _; rw [bump_len]; omega, bump_size h 2⟩
theorem cost_cons (k : Nat) (m : List Nat) : cost (k :: m) = cst k + cost m := rfl
theorem cost_app (l m : List Nat) : cost (l ++ m) = cost l + cost m := by
  unfold cost
  rw [List.map_append, List.sum_append]
theorem fold_bound : ∀ (m : List Nat) {ts : List Int}, ts ≠ [] → (m.foldl dd ts).length ≤ ts.length + m.length ∧ wsize (m.foldl dd ts) ≤ wsize ts + cost m
  | [], ts, _ => ⟨Nat.le_refl _, Nat.le_refl _⟩
  | k :: m, ts, h => by
    obtain ⟨h1, h2⟩ := dd_bound h k
    obtain ⟨h3, h4⟩ := fold_bound m (dd_ne h k)
    rw [List.foldl_cons, List.length_cons, cost_cons]
    omega
theorem walks_from : ∀ (ops : List (List Nat)) (ts v : List Int), v ∈ walksOf ts ops → ∃ m : List Nat, v = m.foldl dd ts ∧ m.length ≤ ops.dropLast.flatten.length ∧ cost m ≤ cost ops.dropLast.flatten
  | [], _, _, h => by cases h
  | [o], ts, v, h => by
    rw [List.mem_singleton.mp h]
    exact ⟨[], rfl, Nat.zero_le _, Nat.zero_le _⟩
  | o :: o' :: ops, ts, v, h => by
    rcases List.mem_cons.mp h with rfl | h
    · exact ⟨[], rfl, Nat.zero_le _, Nat.zero_le _⟩
    · obtain ⟨m, rfl, h1, h2⟩ := walks_from (o' :: ops) _ v h
      refine ⟨o ++ m, by rw [List.foldl_append], ?_, ?_⟩
      · rw [List.dropLast_cons₂, List.flatten_cons, List.length_append, List.length_append]
        omega
      · rw [List.dropLast_cons₂, List.flatten_cons, cost_app, cost_app]
        omega
theorem walks_two : ∀ (ops : List (List Nat)) (ts u v : List Int), u ∈ walksOf ts ops → v ∈ walksOf ts ops → ∃ m : List Nat, (v = m.foldl dd u ∨ u = m.foldl dd v) ∧ m.length ≤ ops.dropLast.flatten.length ∧ cost m ≤ cost ops.dropLast.flatten
  | [], _, _, _, h, _ => by cases h
  | o :: ops, ts, u, v, hu, hv => by
    rcases List.mem_cons.mp hu with rfl | hu'
    · obtain ⟨m, h, h1, h2⟩ := walks_from (o :: ops) _ v hv
      exact ⟨m, .inl h, h1, h2⟩
    · rcases List.mem_cons.mp hv with rfl | hv'
      · obtain ⟨m, h, h1, h2⟩ := walks_from (o :: ops) _ u hu
        exact ⟨m, .inr h, h1, h2⟩
      · obtain ⟨m, h, h1, h2⟩ := walks_two ops _ u v hu' hv'
        cases ops with
        | nil => cases hu'
        | cons o' ops =>
          refine ⟨m, h, ?_, ?_⟩
          · rw [List.dropLast_cons₂, List.flatten_cons, List.length_append]
            omega
          · rw [List.dropLast_cons₂, List.flatten_cons, cost_app]
            omega
theorem walks_ne : ∀ (ops : List (List Nat)) {ts : List Int}, ts ≠ [] → ∀ u ∈ walksOf ts ops, u ≠ []
  | [], _, _, u, hu => by cases hu
  | o :: ops, ts, h, u, hu => by
    rcases List.mem_cons.mp hu with rfl | hu
    · exact h
    · exact walks_ne ops (fold_ne o h) u hu
/-- programs that the law can build -/
structure Gd (ops : List (List Nat)) : Prop where
  l1 : 1 ≤ ops.length
  l5 : ops.length ≤ 5
  ml : ops.dropLast.flatten.length ≤ 8
  mc : cost ops.dropLast.flatten ≤ 12
theorem Gd.fit {ops : List (List Nat)} (g : Gd ops) : Fit (walksOf [0] ops) := by
  have hml := g.ml
  have hmc := g.mc
  have hne : ∀ u ∈ walksOf [0] ops, u ≠ [] := walks_ne ops (by simp)
  refine ⟨fun u hu => ⟨hne u hu, ?_⟩, fun u hu v hv => ?_⟩
  · obtain ⟨m, rfl, h1, _⟩ := walks_from ops _ u hu
    have := (fold_bound m (ts := [0]) (by simp)).1
    simp only [List.length_singleton] at this
    omega
  · obtain ⟨m, h, h1, h2⟩ := walks_two ops _ u v hu hv
    obtain ⟨b1, b2⟩ := fold_bound m (ts := [0]) (by simp)
    have w0 : wsize [0] = 0 := rfl
    rw [w0] at b2
    simp only [List.length_singleton] at b1
    have s0 : m.foldl dd [0] ≠ [] := fold_ne m (by simp)
    rcases h with rfl | rfl
    · rw [fold_from (hne u hu)]
      have := joined_bound (hne u hu) s0
      omega
    · rw [fold_from (hne v hv)]
      have := joined_bound' (hne v hv) s0
      omega
theorem cst_le : ∀ k : Nat, cst k ≤ 2
  | 0 => by decide
  | 1 => by decide
  | 2 => by decide
  | _ + 3 => Nat.le_refl _
theorem cost_le : ∀ l : List Nat, cost l ≤ 2 * l.length
  | [] => Nat.le_refl _
  | k :: l => by
    have := cost_le l
    have := cst_le k
    rw [cost_cons, List.length_cons]
    omega
theorem flatten_le : ∀ {ops : List (List Nat)}, (∀ o ∈ ops, o.length ≤ 2) → ops.flatten.length ≤ 2 * ops.length
  | [], _ => Nat.le_refl _
  | o :: ops, h => by
    have h1 := h o (by simp)
    have h2 := flatten_le fun x hx => h x (List.mem_cons_of_mem _ hx)
    rw [List.flatten_cons, List.length_append, List.length_cons]
    omega
theorem gd_ops {ops : List (List Nat)} (h : Ops ops) (h1 : 1 ≤ ops.length) (h4 : ops.length ≤ 4) : Gd ops := by
  have hf := flatten_le (ops := ops.dropLast) fun o ho => (h o (List.dropLast_subset ops ho)).1
  rw [List.length_dropLast] at hf
  have hc := cost_le ops.dropLast.flatten
  exact ⟨h1, by omega, by omega, by omega⟩
theorem gd_A : ∀ {e : Nat}, e < 4 → Gd (opsA e)
  | 0, _ => ⟨by decide, by decide, by decide, by decide⟩
  | 1, _ => ⟨by decide, by decide, by decide, by decide⟩
  | 2, _ => ⟨by decide, by decide, by decide, by decide⟩
  | 3, _ => ⟨by decide, by decide, by decide, by decide⟩
theorem gd_B : ∀ {e : Nat}, e < 4 → Gd (opsB e)
  | 0, _ => ⟨by decide, by decide, by decide, by decide⟩
  | 1, _ => ⟨by decide, by decide, by decide, by decide⟩
  | 2, _ => ⟨by decide, by decide, by decide, by decide⟩
  | 3, _ => ⟨by decide, by decide, by decide, by decide⟩
/-- every text of the law is read as walks that can be compared -/
theorem prg_reads {d : Int} {t : Str} (h : Prg d t) : ∃ ops, Gd ops ∧ Reads t ((flat ops).map gD) ∧ (2 ≤ d → Txt.count t "paint" = ops.length) := by
  rcases h with ⟨rfl, e, he, rfl⟩ | ⟨rfl, e, he, rfl⟩ | ⟨_, ops, h1, h4, ho, rfl⟩
  · exact ⟨opsA e, gd_A he, reads_A he, fun q => absurd q (by decide)⟩
  · exact ⟨opsB e, gd_B he, reads_B he, fun q => absurd q (by decide)⟩
  · exact ⟨ops, gd_ops ho h1 h4, reads_ops ho h1 h4, fun _ => count_ops ho h1 h4⟩
end W5
set_option maxHeartbeats 8000000
/-! W5U3: the plain law: the counts agree. -/
namespace W5
open PySem L2 K5
abbrev Wl := List Int
section
variable {S : Wl → Wl → Bool} {Pw : Wl → Prop}
theorem keepD_cons (kept us : List Wl) (u : Wl) : keepD S kept (u :: us) = keepD S (if kept.any fun e => S e u then kept else kept ++ [u]) us := rfl
theorem keep_gen (rf : ∀ u, Pw u → S u u = true) (tr : ∀ u v w, Pw u → Pw v → Pw w → S u v = true → S v w = true → S u w = true) :
    ∀ (us kept seen : List Wl), (∀ u ∈ us, Pw u) → (∀ e ∈ seen, Pw e) → (∀ c ∈ kept, c ∈ seen) → (∀ e ∈ seen, ∃ c ∈ kept, S c e = true) →
      (keepD S kept us).length = kept.length + paintN S seen us ∧ (∀ e, e ∈ seen ∨ e ∈ us → ∃ c ∈ keepD S kept us, S c e = true) ∧ ∀ c ∈ keepD S kept us, c ∈ seen ∨ c ∈ us
  | [], kept, seen, _, _, hk, hc => ⟨rfl, fun e he => he.elim (hc e) fun h => (by cases h), fun c h => .inl (hk c h)⟩
  | u :: us, kept, seen, hu, hs, hk, hc => by
    have pu := hu u (by simp)
    have hany : (kept.any fun e => S e u) = (seen.any fun e => S e u) := by
      rw [Bool.eq_iff_iff, List.any_eq_true, List.any_eq_true]
      constructor
      · rintro ⟨c, h1, h2⟩
        exact ⟨c, hk c h1, h2⟩
      · rintro ⟨e, h1, h2⟩
        obtain ⟨c, h3, h4⟩ := hc e h1
        exact ⟨c, h3, tr c e u (hs c (hk c h3)) (hs e h1) pu h4 h2⟩
    have hus : ∀ u ∈ us, Pw u := fun x hx => hu x (List.mem_cons_of_mem _ hx)
    have hs2 : ∀ e ∈ seen ++ [u], Pw e := fun e he => (List.mem_append.mp he).elim (hs e) fun h => by rw [List.mem_singleton.mp h]; exact pu
    rw [keepD_cons]
    show _ ∧ _ ∧ _
    by_cases ha : (seen.any fun e => S e u) = true
    · rw [hany, if_pos ha]
      have h2 := keep_gen rf tr us kept (seen ++ [u]) hus hs2 (fun c h => by simp [hk c h]) fun e he => by
        rcases List.mem_append.mp he with h | h
        · exact hc e h
        · rw [List.mem_singleton.mp h]
          rw [← hany, List.any_eq_true] at ha
          exact ha
      refine ⟨?_, fun e he => h2.2.1 e ?_, fun c h => ?_⟩
      · rw [h2.1]
        show _ = kept.length + ((if (seen.any fun e => S e u) = true then 0 else 1) + paintN S (seen ++ [u]) us)
        rw [if_pos ha, Nat.zero_add]
      · rcases he with h | h
        · exact .inl (by simp [h])
        · rcases List.mem_cons.mp h with rfl | h
          · exact .inl (by simp)
          · exact .inr h
      · rcases h2.2.2 c h with h | h
        · rcases List.mem_append.mp h with h | h
          · exact .inl h
          · exact .inr (by rw [List.mem_singleton.mp h]; simp)
        · exact .inr (List.mem_cons_of_mem _ h)
    · rw [hany, if_neg ha]
      have h2 := keep_gen rf tr us (kept ++ [u]) (seen ++ [u]) hus hs2 (fun c h => by
        rcases List.mem_append.mp h with h | h
        · simp [hk c h]
        · simp [List.mem_singleton.mp h]) fun e he => by
        rcases List.mem_append.mp he with h | h
        · obtain ⟨c, h3, h4⟩ := hc e h
          exact ⟨c, by simp [h3], h4⟩
        · rw [List.mem_singleton.mp h]
          exact ⟨u, by simp, rf u pu⟩
      refine ⟨?_, fun e he => h2.2.1 e ?_, fun c h => ?_⟩
      · rw [h2.1]
        show _ = kept.length + ((if (seen.any fun e => S e u) = true then 0 else 1) + paintN S (seen ++ [u]) us)
        rw [if_neg ha, List.length_append, List.length_singleton, Nat.add_assoc]
      · rcases he with h | h
        · exact .inl (by simp [h])
        · rcases List.mem_cons.mp h with rfl | h
          · exact .inl (by simp)
          · exact .inr h
      · rcases h2.2.2 c h with h | h
        · rcases List.mem_append.mp h with h | h
          · exact .inl h
          · exact .inr (by rw [List.mem_singleton.mp h]; simp)
        · exact .inr (List.mem_cons_of_mem _ h)
theorem keep_done (kept : List Wl) : ∀ us : List Wl, (∀ u ∈ us, ∃ c ∈ kept, S c u = true) → keepD S kept us = kept
  | [], _ => rfl
  | u :: us, h => by
    rw [keepD_cons, if_pos (List.any_eq_true.mpr (h u (by simp))), keep_done kept us fun x hx => h x (List.mem_cons_of_mem _ hx)]
theorem keepD_app (kept us vs : List Wl) : keepD S kept (us ++ vs) = keepD S (keepD S kept us) vs := by
  unfold keepD
  rw [List.foldl_append]
theorem paintN_app : ∀ (us seen vs : List Wl), paintN S seen (us ++ vs) = paintN S seen us + paintN S (seen ++ us) vs
  | [], seen, vs => by simp [paintN]
  | u :: us, seen, vs => by
    show _ + paintN S (seen ++ [u]) (us ++ vs) = (_ + paintN S (seen ++ [u]) us) + _
    rw [paintN_app us, List.append_assoc]
    simp only [List.singleton_append]
    omega
theorem paintN_map {S' : Wl → Wl → Bool} {f : Wl → Wl} (h : ∀ u v, Pw u → Pw v → S' (f u) (f v) = S u v) : ∀ (us seen : List Wl), (∀ u ∈ us, Pw u) → (∀ u ∈ seen, Pw u) → paintN S' (seen.map f) (us.map f) = paintN S seen us
  | [], _, _, _ => rfl
  | u :: us, seen, hu, hs => by
    have pu := hu u (by simp)
    have ih := paintN_map h us (seen ++ [u]) (fun x hx => hu x (List.mem_cons_of_mem _ hx)) fun x hx => (List.mem_append.mp hx).elim (hs x) fun q => by rw [List.mem_singleton.mp q]; exact pu
    have ha : ((seen.map f).any fun e => S' e (f u)) = seen.any fun e => S e u := by
      rw [List.any_map]
      clear ih
      induction seen with
      | nil => rfl
      | cons a l il =>
        rw [List.any_cons, List.any_cons, il fun x hx => hs x (List.mem_cons_of_mem _ hx)]
        congr 1
        exact h a u (hs a (by simp)) pu
    show (if ((seen.map f).any fun e => S' e (f u)) = true then 0 else 1) + paintN S' (seen.map f ++ [f u]) (us.map f) = (if (seen.any fun e => S e u) = true then 0 else 1) + paintN S (seen ++ [u]) us
    rw [ha]
    congr 1
    rw [List.map_append] at ih
    exact ih
end
section
variable {p q : Nat} {k : K5.Kind} {us : List Wl}
theorem sB_iff {u v : Wl} : sB p q k u v = true ↔ Same5 p q k u v := by
  unfold sB
  exact @decide_eq_true_iff _ (Classical.propDecidable _)
theorem sB_refl {u : Wl} (h : u ≠ []) : sB p q k u u = true := sB_iff.mpr (Same5.refl h)
theorem sB_trans (hp : 2 ≤ p) (hq : 2 ≤ q) (u v w : Wl) (hu : u ≠ []) (hv : v ≠ []) (hw : w ≠ []) (h : sB p q k u v = true) (g : sB p q k v w = true) : sB p q k u w = true := sB_iff.mpr (Same5.trans hp hq hu hv hw (sB_iff.mp h) (sB_iff.mp g))
/-- by painted and by the one floor -/
theorem diff_paint (hp : 2 ≤ p) (hq : 2 ≤ q) (hu : ∀ u ∈ us, u ≠ []) : (keepD (sB p q k) [] us).length = paintN (sB p q k) [] us := by
  have h := (keep_gen (S := sB p q k) (Pw := fun u => u ≠ []) (fun u h => sB_refl h) (sB_trans hp hq) us [] [] hu (fun _ h => (by cases h)) (fun _ h => h) fun _ h => by cases h).1
  rw [h, List.length_nil, Nat.zero_add]
/-- the first walk once more -/
theorem paint_double (hu : ∀ u ∈ us, u ≠ []) : paintN (sB p q k) [] (us ++ us.take 1) = paintN (sB p q k) [] us := by
  rw [paintN_app, List.nil_append]
  match us, hu with
  | [], _ => rfl
  | u :: us, hu =>
    have : paintN (sB p q k) (u :: us) [u] = 0 := by
      show (if ((u :: us).any fun e => sB p q k e u) = true then 0 else 1) + 0 = 0
      rw [List.any_cons, sB_refl (hu u (by simp)), Bool.true_or, if_pos rfl]
    show _ + paintN (sB p q k) (u :: us) [u] = _
    rw [this, Nat.add_zero]
/-- the same walks with a room in front -/
theorem diff_around (hp : 3 ≤ p) (hq : 2 ≤ q) (hu : ∀ u ∈ us, u ≠ []) : (keepD (sB p q k) [] (us.map (cat (around p)) ++ us)).length = paintN (sB p q k) [] us := by
  have ha : ∀ v ∈ us.map (cat (around p)), v ≠ [] := fun v hv => by
    obtain ⟨u, _, rfl⟩ := List.mem_map.mp hv
    exact cat_ne (around_ne p)
  obtain ⟨h1, h2, h3⟩ := keep_gen (S := sB p q k) (Pw := fun u => u ≠ []) (fun u h => sB_refl h) (sB_trans (by omega) hq) (us.map (cat (around p))) [] [] ha (fun _ h => (by cases h)) (fun _ h => h) fun _ h => by cases h
  rw [keepD_app, keep_done]
  · rw [h1, List.length_nil, Nat.zero_add]
    have := paintN_map (S := sB p q k) (S' := sB p q k) (f := cat (around p)) (Pw := fun u => u ≠ []) (fun u v pu pv => by rw [Bool.eq_iff_iff, sB_iff, sB_iff]; exact Same5.front (around_ne p) pu pv) us [] hu fun _ h => by cases h
    exact this
  · intro u hu'
    obtain ⟨c, h4, h5⟩ := h2 _ (.inr (List.mem_map.mpr ⟨u, hu', rfl⟩))
    have hc : c ≠ [] := (h3 c h4).elim (fun h => (by cases h)) (ha c)
    exact ⟨c, h4, sB_trans (by omega) hq c _ u hc (cat_ne (around_ne p)) (hu u hu') h5 (sB_iff.mpr ((Same5.around (by omega) hq (hu u hu') (hu u hu')).mpr (Same5.refl (hu u hu'))))⟩
theorem paintN_congr {S S' : Wl → Wl → Bool} : ∀ (us seen : List Wl), (∀ e, e ∈ seen ∨ e ∈ us → ∀ u ∈ us, S e u = S' e u) → paintN S seen us = paintN S' seen us
  | [], _, _ => rfl
  | u :: us, seen, h => by
    have ih := paintN_congr us (seen ++ [u]) fun e he x hx => h e (by
      rcases he with he | he
      · rcases List.mem_append.mp he with he | he
        · exact .inl he
        · exact .inr (by rw [List.mem_singleton.mp he]; simp)
      · exact .inr (List.mem_cons_of_mem _ he)) x (List.mem_cons_of_mem _ hx)
    have ha : (seen.any fun e => S e u) = seen.any fun e => S' e u := by
      rw [Bool.eq_iff_iff, List.any_eq_true, List.any_eq_true]
      constructor
      · rintro ⟨e, h1, h2⟩
        exact ⟨e, h1, by rw [← h e (.inl h1) u (by simp)]; exact h2⟩
      · rintro ⟨e, h1, h2⟩
        exact ⟨e, h1, by rw [h e (.inl h1) u (by simp)]; exact h2⟩
    show (if (seen.any fun e => S e u) = true then 0 else 1) + _ = (if (seen.any fun e => S' e u) = true then 0 else 1) + _
    rw [ha, ih]
/-- by the set of counts that has the floor -/
theorem cS_told (hf : Fit us) {a b : Nat} (ha : a + 3 ≤ 60) (hb : b + 3 ≤ 60) (n : Nat) : cS k us us.length n a b = decide (paintN (sB (a + 3) (b + 3) k) [] us = n) := by
  unfold cS
  rw [List.take_length]
  congr 2
  refine paintN_congr us [] fun e he u hu => ?_
  have he' : e ∈ us := he.elim (fun h => (by cases h)) id
  rw [Bool.eq_iff_iff, sB_iff]
  obtain ⟨h1, h2⟩ := hf.2 e he' u hu
  exact wS_iff (hf.1 e he').1 h1 h2 ha hb
theorem counts_told (hf : Fit us) {a b : Nat} (ha : a + 3 ≤ 60) (hb : b + 3 ≤ 60) {ns : List Nat} (nd : ns.Nodup) (hm : ∀ n, n ∈ ns ↔ n ≤ us.length ∧ ∃ a b, cS k us us.length n a b = true) :
    ns.filter (fun n => cS k us us.length n a b) = [paintN (sB (a + 3) (b + 3) k) [] us] := by
  have hin : paintN (sB (a + 3) (b + 3) k) [] us ∈ ns := (hm _).mpr ⟨paintN_le _ _ _, a, b, by rw [cS_told hf ha hb]; exact decide_eq_true rfl⟩
  have e : (fun n => cS k us us.length n a b) = fun n => decide (n = paintN (sB (a + 3) (b + 3) k) [] us) := by
    funext n
    rw [cS_told hf ha hb]
    exact decide_eq_decide.mpr ⟨Eq.symm, Eq.symm⟩
  rw [e]
  generalize paintN (sB (a + 3) (b + 3) k) [] us = m at hin
  clear e hm
  induction ns with
  | nil => cases hin
  | cons x l ih =>
    obtain ⟨h1, h2⟩ := List.nodup_cons.mp nd
    by_cases hx : x = m
    · subst hx
      rw [List.filter_cons_of_pos (by simp)]
      have : l.filter (fun n => decide (n = x)) = [] := by
        rw [List.filter_eq_nil_iff]
        intro y hy hyx
        exact h1 (by rw [← of_decide_eq_true hyx]; exact hy)
      rw [this]
    · rw [List.filter_cons_of_neg (by simpa using hx)]
      exact ih h2 ((List.mem_cons.mp hin).resolve_left fun e => hx e.symm)
/-- alike on all floors -/
theorem alike_all (hu : ∀ u ∈ us, u ≠ []) (a b : Nat) : ((true && wIn k us (us ++ us.take 1) a b) && wIn k (us ++ us.take 1) us a b) = true := by
  have h1 : wIn k us (us ++ us.take 1) a b = true := by
    unfold wIn
    rw [List.all_eq_true]
    intro u h
    rw [List.any_eq_true]
    exact ⟨u, by simp [h], wS_self (hu u h) a b⟩
  have h2 : wIn k (us ++ us.take 1) us a b = true := by
    unfold wIn
    rw [List.all_eq_true]
    intro u h
    have h' : u ∈ us := (List.mem_append.mp h).elim id fun h => List.mem_of_mem_take h
    rw [List.any_eq_true]
    exact ⟨u, h', wS_self (hu u h') a b⟩
  rw [h1, h2]
  rfl
theorem fit_double (hf : Fit us) : Fit (us ++ us.take 1) := by
  have sub : ∀ u ∈ us ++ us.take 1, u ∈ us := fun u h => (List.mem_append.mp h).elim id fun h => List.mem_of_mem_take h
  exact ⟨fun u h => hf.1 u (sub u h), fun u h v h' => hf.2 u (sub u h) v (sub v h')⟩
theorem fit2_double (hf : Fit us) : Fit2 us (us ++ us.take 1) ∧ Fit2 (us ++ us.take 1) us := by
  have sub : ∀ u ∈ us ++ us.take 1, u ∈ us := fun u h => (List.mem_append.mp h).elim id fun h => List.mem_of_mem_take h
  exact ⟨⟨hf.1, fun u h => hf.1 u (sub u h), fun u h v h' => hf.2 u h v (sub v h')⟩, ⟨fun u h => hf.1 u (sub u h), hf.1, fun u h v h' => hf.2 u (sub u h) v h'⟩⟩
end
end W5
set_option maxHeartbeats 8000000
/-! W5L1: a method by a family of promises; the law's own def. -/
namespace W5
open PySem L2 K5
def MetR (P : Program) (w : World) (K : PySem.W.Frag) (mg : Str → Option Value) (base : Heap) (k : Nat) (C : Addr) (m : Str) (sp : Sp) : Prop := ∃ f, Cls K C ∧ Meth K C m f ∧ FnR P w K mg base CX0 k f sp
section
variable {P : Program} {w : World} {K : PySem.W.Frag} {mg : Str → Option Value} {base : Heap}
theorem Met.any {ι : Type} {k : Nat} {C : Addr} {m : Str} {sp : ι → Sp} (i0 : ι) (h : ∀ i, Met P w K mg base k C m (sp i)) : MetR P w K mg base k C m (fun vs H Q E => ∃ i, sp i vs H Q E) := by
  obtain ⟨f0, fd0, ps0, c0, m0, F0, b0⟩ := h i0
  refine ⟨f0, c0, m0, fun A outer s H us vs Q E hr e0 r hs => ?_⟩
  obtain ⟨i, hs⟩ := hs
  obtain ⟨f, fd, ps, c, m, F, b⟩ := h i
  have e : f = f0 := by
    have h1 := m.at_
    rw [m0.at_] at h1
    injection h1 with h1
    injection h1 with h1
    injection h1 with h1
    exact h1.symm
  subst e
  exact (F.raw b .nil) A outer s H us vs Q E hr e0 r (show sp i (vs ++ []) H Q E by rw [List.append_nil]; exact hs)
theorem pe_mtR {X : Cx} {k j : Nat} {C : Addr} {m : Str} {sp : Sp} {o e : Expr} {es : List Expr} {ta : TE} {t : TA} {apos pos : Pos} {pl : Sem Bool} (c : MetR X.prog X.w X.K X.mg X.base k C m sp) (hr : Room j X.A) (hk : k ≤ j) (he : PE X o ta) (ha : PA X (e :: es) t)
    (hst : starEach (e :: es) X.env = (false, eval e X.env) :: starEach es X.env := by rfl) (hpl : (backTo pos (starEach es X.env)).any (·.1) = false := by rfl)
    (ht : eval (.Call (.Attribute o m apos) (e :: es) [] pos) X.env = (do
      let ov ← eval o X.env
      standAt apos.atName
      let (f, first) ← holding [ov] (getMethod ov m pl)
      callWith pos f first (backTo pos (starEach (e :: es) X.env)) (backToKw pos (keywordEach [] X.env))) := by rfl) :
    PE X (.Call (.Attribute o m apos) (e :: es) [] pos) (tMethR C m sp E0 ta t) := by
  obtain ⟨f, hc, hm, F⟩ := c
  exact pe_methR (pl := pl) he hc hm F (hr.mono hk) pass0 ha hst hpl ht
abbrev PQ := { x : Nat × Nat // 3 ≤ x.1 ∧ x.1 ≤ 60 ∧ 3 ≤ x.2 ∧ x.2 ≤ 60 }
def spDiffA (K : PySem.W.Frag) (C CW : Addr) : Sp := fun vs H Q E => ∃ i : PQ, spDiff K C CW i.1.1 i.1.2 vs H Q E
end
end W5
set_option maxHeartbeats 8000000
/-! W5L2: the law's own def. -/
namespace W5
open PySem L2 K5
section
variable {P : Program} {w : World} {K : PySem.W.Frag} {mg : Str → Option Value} {base : Heap} {CP CW CF CL : Addr}
def spLaw (K : PySem.W.Frag) : Sp := fun vs H Q _ => ∃ a, ∃ ns : List Int, vs = [.ref a] ∧ SqL K H a (ns.map V.int) ∧ ∀ H', Q (.bl true) H'
abbrev nLaw : List Str := ["_law_script", "_law_head", "_law_text_here", "_law_kind", "_law_side", "_law_order", "_law_picture", "_law_floor", "_law_told", "_law_double", "_law_around", "_law_changed_to", "_law_many", "_law_part", "_law_walk"]
theorem scLaw : FnScope nLaw ["_law_script"] (defScope (top 83)) := ⟨rfl, rfl, rfl, by decide +kernel, rfl, by decide +kernel, by decide +kernel⟩
def kindN : Nat → K5.Kind
  | 0 => .corner
  | 1 => .arrow
  | 2 => .room
  | _ => .edge
theorem inR5 {ds : List Int} {a b c d e : Int} (h : InR [a, b, c, d, e] ds) : ∃ x y z u v : Int, ds = [x, y, z, u, v] ∧ (0 ≤ x ∧ x < a) ∧ (0 ≤ y ∧ y < b) ∧ (0 ≤ z ∧ z < c) ∧ (0 ≤ u ∧ u < d) ∧ 0 ≤ v ∧ v < e := by
  match ds, h with
  | [x, y, z, u, v], h => exact ⟨x, y, z, u, v, rfl, h.2 0 x a rfl rfl, h.2 1 y b rfl rfl, h.2 2 z c rfl rfl, h.2 3 u d rfl rfl, h.2 4 v e rfl rfl⟩
  | [], h => exact absurd h.1 (by simp)
  | [_], h => exact absurd h.1 (by simp)
  | [_, _], h => exact absurd h.1 (by simp)
  | [_, _, _], h => exact absurd h.1 (by simp)
  | [_, _, _, _], h => exact absurd h.1 (by simp)
  | _ :: _ :: _ :: _ :: _ :: _ :: _, h => exact absurd h.1 (by simp)
theorem mkFl_in {H : Hp} {R : Hp → Prop} {p q : Nat} {x dx : Addr} (hp : 3 ≤ p) (hp' : p ≤ 9) (hq : 3 ≤ q) (hq' : q ≤ 9) (nx : H x = none) (nd : H dx = none) (ne : dx ≠ x) (k : ∀ H2, Same H H2 → Flo K CL p q H2 (.ref x) → R H2) :
    spFlI K CL (.ref x :: ([.int p, .int q] ++ [])) (upd (upd H dx (.own x)) x (.ins CL dx [])) (fun v H2 => v = .non ∧ R H2) E0 := by
  have s0 : Same H (upd (upd H dx (.own x)) x (.ins CL dx [])) := Same.upd (Same.new nd) nx
  refine ⟨x, dx, p, q, rfl, upd_same, hp, hp', hq, hq', fun H' d a kp hx h1 h2 => ⟨rfl, k _ (fun b o e => kp b o (s0 b o e) (ne_of_none e nx)) ⟨x, dx, d, a, rfl, hx, h1, h2⟩⟩⟩
theorem mkP_in {H : Hp} {R : Hp → Prop} {a dx : Addr} {x : V} {us : List (List Int)} (hx : Ls K (Wk K CW) H us x) (na : H a = none) (nd : H dx = none) (ne : dx ≠ a) (k : ∀ H2, Same H H2 → Pic K CP CW H2 us (.ref a) → R H2) :
    spPI K CP CW (.ref a :: ([x] ++ [])) (upd (upd H dx (.own a)) a (.ins CP dx [])) (fun v H2 => v = .non ∧ R H2) E0 := by
  have s0 : Same H (upd (upd H dx (.own a)) a (.ins CP dx [])) := Same.upd (Same.new nd) na
  refine ⟨a, x, dx, us, rfl, upd_same, Mo.ls Mo.wk _ _ _ _ (Le.of s0) hx, fun H' t kp h1 h2 => ⟨rfl, k _ (fun b o e => kp b o (s0 b o e) (ne_of_none e na)) ⟨a, dx, t, rfl, h1, h2⟩⟩⟩
theorem Gd.short {ops : List (List Nat)} (g : Gd ops) : ∀ u ∈ walksOf [0] ops, u.length ≤ 20 := fun u hu => by
  obtain ⟨m, rfl, h1, _⟩ := walks_from ops _ u hu
  have := (fold_bound m (ts := [0]) (by simp)).1
  have := g.ml
  simp only [List.length_singleton] at *
  omega
theorem fnOf {x : Str} {st : Stmt} {N ps : List Str} {k : Nat} {sp : Sp} {f : Addr} {fd : FuncData} (F : FunD K x x (defArgs st) (defBody st) (defScope st) [] [] f fd) (S : FnScope N ps (defScope st))
    (len : ∀ vs H Q E, sp vs H Q E → vs.length = ps.length)
    (hbody : ∀ (cdv : Value) (A : Around) (outer : List Env) (f : Addr) (s : Shared) (H : Hp) (vs : List V) (Q : VK) (E : XK), Room k (A.deeper (PyProof.Rows.envOfC x (defScope st) s.heap.objs.size f cdv)) → sp vs H Q E →
      ∃ t, PSs (cxOf CX0 P w K mg base N x (defScope st) f cdv A outer s H E).nox (defBody st) t ∧ t { nx := fun _ H' => Q .non H', rt := Q } (start N vs) H) : FnOk P w K mg base CX0 (k + 1) f fd ps sp := by
  refine F.ok S len fun cdv A outer s H vs Q E hr h => ?_
  obtain ⟨t, h1, h2⟩ := hbody cdv A outer f s H vs Q E hr h
  exact ⟨t, h1.nox, h2⟩
theorem c_law {fL : Addr} {fdL : FuncData} (F : FunD K "law" "law" (defArgs (top 83)) (defBody (top 83)) (defScope (top 83)) [] [] fL fdL) (T : Bn mg) (WP : PC K CP) (WL : LC K mg CL) (WW : WC K CW) (hsf : PySem.W.selfFirst K CW = true)
    (CC : Cal P w K mg base 1 "_law_cell" (spCell K)) (CD : Cal P w K mg base 1 "_law_draws" (spDraws K)) (CPg : Cal P w K mg base 3 "_law_program" (spProg K))
    (CRd : Clm P w K mg base 9 "Picture" CP "read" (spRead K CP CW)) (CFl : Mak P w K mg base 2 "Floor" CL (spFlI K CL)) (CPt : CalK P w K mg base 8 "painted" 2 ["p", "q"] (spPainted K CP CW))
    (CDf : MetR P w K mg base 6 CL "different" (spDiffA K CL CW)) (CCt : Cal P w K mg base 9 "counts" (spCounts K CP CW CF)) (CHs : Met P w K mg base 1 CF "__contains__" (spHas K CF))
    (CPi : Mak P w K mg base 1 "Picture" CP (spPI K CP CW)) (CAl : CalR P w K mg base 9 "alike" (spAlike K CP CW CF)) (CEv : Clm P w K mg base 5 "Floors" CF "everywhere" (spEv K CF true)) (CEq : Met P w K mg base 1 CF "__eq__" (spFEq K CF))
    (CWk : Mak P w K mg base 1 "Walk" CW (spWI K CW)) (CAd : Met P w K mg base 3 CW "__add__" (spAdd K CW)) : FnOk P w K mg base CX0 10 fL fdL ["_law_script"] (spLaw K) := by
  refine fnOf F scLaw (fun vs H Q E h => ?_) (fun cdv A outer f s H vs Q E hr h => ?_)
  · obtain ⟨a, ns, rfl, _⟩ := h
    rfl
  · obtain ⟨sa, ns, rfl, qa, k⟩ := h
    have hu := hu_of hr
    refine ⟨_, pss_cons (ps_set (i := 1) scLaw.nd rfl (Or.inl rfl) (pe_c CD hr (by decide) rfl (pa_cons (pe_c CC hr (by decide) rfl (pa_cons (pv 0) (pa_cons pe_int pa_nil))) (pa_cons (pe_lst (pa_cons pe_int (pa_cons pe_int (pa_cons pe_int (pa_cons pe_int (pa_cons pe_int pa_nil)))))) pa_nil))))
      (pss_cons (ps_set (i := 2) scLaw.nd rfl (Or.inl rfl) (pe_c CPg hr (by decide) rfl (pa_cons (pv 0) (pa_cons (pe_slice sl_list (pv 1) po_none (po_some pe_int)) pa_nil))))
      (pss_cons (ps_set (i := 3) scLaw.nd rfl (Or.inl rfl) (pe_ix ix_list (pe_lst (pa_cons pe_str (pa_cons pe_str (pa_cons pe_str (pa_cons pe_str pa_nil))))) (pe_ix ix_list (pv 1) pe_int (fun _ _ => rfl)) (fun _ _ => rfl)))
      (pss_cons (ps_set (i := 4) scLaw.nd rfl (Or.inr rfl) (pe_op op_add pe_int (pe_ix ix_list (pv 1) pe_int (fun _ _ => rfl))))
      (pss_cons (ps_set (i := 5) scLaw.nd rfl (Or.inr rfl) (pe_op op_add pe_int (pe_ix ix_list (pv 1) pe_int (fun _ _ => rfl))))
      (pss_cons (ps_set (i := 6) scLaw.nd rfl (Or.inl rfl) (pe_clm CRd hr (by decide) rfl (pa_cons (pv 2) pa_nil)))
      (pss_cons (ps_set (i := 7) scLaw.nd rfl (Or.inl rfl) (pe_mk CFl hr (by decide) rfl (pa_cons (pv 4) (pa_cons (pv 5) pa_nil))))
      (pss_cons (ps_set (i := 8) scLaw.nd rfl (Or.inl rfl) (pe_ck CPt hr (by decide) rfl (pa_cons (pv 6) (pa_cons (pv 3) pa_nil)) (pk_cons (pv 4) (pk_cons (pv 5) pk_nil))))
      (pss_cons (ps_if (pt_cmpR op_ne (pe_mtR CDf hr (by decide) (pv 7) (pa_cons (pv 3) (pa_cons (pe_callTy call_list_of (by rfl) T.blist (by decide +kernel) (pa_cons (pe_fld (pv 6) rfl) pa_nil)) pa_nil))) (pv 8) (nomark _)) pss_never pss_nil)
      (pss_cons (ps_if (pt_cmpR (op_neD hr.units) (pe_lcI [("_law_many", 12), ("_law_part", 13)] rfl scLaw.nd (pi_list (pe_c CCt hr (by decide) rfl (pa_cons (pv 6) (pa_cons (pv 3) pa_nil)))) (blkOk_by (N := nLaw) (sc := defScope (top 83)) (by decide +kernel)) (fun _ _ _ _ _ => pg_2K rfl (pg_n 12 scLaw.nd) (pg_n 13 scLaw.nd))) (pe_lst (pa_cons (pv 8) pa_nil)) (nomark _)) pss_never pss_nil)
      (pss_cons (ps_set (i := 9) scLaw.nd rfl (Or.inl rfl) (pe_mk CPi hr (by decide) rfl (pa_cons (pe_op op_cat (pe_callTy call_list_of (by rfl) T.blist (by decide +kernel) (pa_cons (pe_fld (pv 6) rfl) pa_nil)) (pe_slice sl_list (pe_callTy call_list_of (by rfl) T.blist (by decide +kernel) (pa_cons (pe_fld (pv 6) rfl) pa_nil)) po_none (po_some pe_int))) pa_nil)))
      (pss_cons (ps_if (PW.pt (pw_or (pt_not (pt_cmpR (op_own_eq CEq hr (by decide)) (pe_cR CAl hr (by decide) rfl (pa_cons (pv 3) (pa_cons (pv 6) (pa_cons (pv 9) pa_nil)))) (pe_clm0 CEv hr (by decide) rfl) (nomark _))) (pw_or1 (pt_cmpR op_ne (pe_ck CPt hr (by decide) rfl (pa_cons (pv 9) (pa_cons (pv 3) pa_nil)) (pk_cons (pv 4) (pk_cons (pv 5) pk_nil))) (pv 8) (nomark _))))) pss_never pss_nil)
      (pss_cons (ps_set (i := 10) scLaw.nd rfl (Or.inr rfl) (pe_mk CWk hr (by decide) rfl (pa_cons (pe_op op_cat (pe_op op_rep (pe_lst (pa_cons pe_int pa_nil)) (pv 4)) (pe_lst (pa_cons pe_int pa_nil))) pa_nil)))
      (pss_cons (ps_lcA (i := 11) [("_law_walk", 14)] rfl scLaw.nd rfl rfl (sw_true rfl rfl rfl (by decide +kernel)) (pi_tup (pe_fld (pv 6) rfl)) (blkOk_by (N := nLaw) (sc := defScope (top 83)) (by decide +kernel)) (fun _ _ _ _ _ => pg_n 14 scLaw.nd))
      (pss_cons (ps_if (pt_cmpR op_ne (pe_mtR CDf hr (by decide) (pv 7) (pa_cons (pv 3) (pa_cons (pe_op op_cat (pv 11) (pe_callTy call_list_of (by rfl) T.blist (by decide +kernel) (pa_cons (pe_fld (pv 6) rfl) pa_nil))) pa_nil))) (pv 8) (nomark _)) pss_never pss_nil)
      (pss_one (ps_ret (pe_or (pe_cmpR op_eq (pe_callB call_len_seq (by rfl) T.blen PySem.boot_len (pa_cons (pe_fld (pv 6) rfl) pa_nil)) (pe_m1 PySem.F.slot_str_count PySem.F.type_str_count mt_count (pv 2) pe_str) (nomark _)) (pe_one (pe_cmpR op_lt (pe_ix ix_list (pv 1) pe_int (fun _ _ => rfl)) pe_int (nomark _)))))))))))))))))))), ?_⟩
    refine ⟨_, rfl, sa, ns, 0, rfl, qa, fun c => ?_⟩
    refine ⟨(by show 5 ≤ sizeLine; decide), fun L nL => ?_⟩
    refine ⟨c, L, [4, 4, 4, 5, 5], rfl, .of upd_same, by decide, by decide, fun ds b H1 s1 nb hb hd => ?_⟩
    obtain ⟨d0, d1, d2, d3, d4, rfl, h0, h1, h2, h3, h4⟩ := inR5 hd
    have t1 : Same H H1 := Same.trans (Same.new nL) s1
    have hb1 : H1 b = some (.lst [.int d0, .int d1, .int d2, .int d3, .int d4]) := hb
    refine ⟨_, rfl, _, rfl, _, rfl, b, _, rfl, .of hb1, fun b2 nb2 => ?_⟩
    have t2 : Same H (upd H1 b2 (.lst [.int d0, .int d1])) := Same.trans t1 (Same.new nb2)
    refine ⟨sa, b2, ns, d0, d1, rfl, Same.sL t2 qa, .of upd_same, h0, h1, fun tx H2 s2 hP => ?_⟩
    have t3 := Same.trans t2 s2
    have hb2 : H2 b = some (.lst [.int d0, .int d1, .int d2, .int d3, .int d4]) := s2 _ _ (Same.new nb2 _ _ hb1)
    obtain ⟨n2, rfl⟩ : ∃ m : Nat, d2 = m := ⟨d2.toNat, by omega⟩
    obtain ⟨n3, rfl⟩ : ∃ m : Nat, d3 = m := ⟨d3.toNat, by omega⟩
    obtain ⟨n4, rfl⟩ : ∃ m : Nat, d4 = m := ⟨d4.toNat, by omega⟩
    refine ⟨(by show 4 ≤ sizeLine; decide), fun L2 nL2 => ?_⟩
    have s3 : Same H2 (upd H2 L2 (.lst [V.str "corner", V.str "arrow", V.str "room", V.str "edge"])) := Same.new nL2
    have hat : atI [V.str "corner", V.str "arrow", V.str "room", V.str "edge"] (n2 : Int) = some (.str (kS (kindN n2))) := by
      match n2, h2 with
      | 0, _ => rfl
      | 1, _ => rfl
      | 2, _ => rfl
      | 3, _ => rfl
      | n + 4, h => omega
    refine ⟨_, rfl, b, _, _, _, rfl, rfl, .of (s3 _ _ hb2), rfl, L2, _, _, _, rfl, rfl, .of upd_same, hat, ?_⟩
    have t4 := Same.trans t3 s3
    have hb3 := s3 _ _ hb2
    generalize upd H2 L2 (.lst [V.str "corner", V.str "arrow", V.str "room", V.str "edge"]) = H3 at t4 hb3
    refine ⟨_, rfl, b, _, _, _, rfl, rfl, .of hb3, rfl, _, _, rfl, rfl, ?_⟩
    refine ⟨_, rfl, b, _, _, _, rfl, rfl, .of hb3, rfl, _, _, rfl, rfl, ?_⟩
    have ep : (3 + (n3 : Int)) = ((3 + n3 : Nat) : Int) := by omega
    have eq : (3 + (n4 : Int)) = ((3 + n4 : Nat) : Int) := by omega
    dsimp only
    rw [ep, eq]
    obtain ⟨p, hp⟩ : ∃ p, p = 3 + n3 := ⟨_, rfl⟩
    obtain ⟨q, hq⟩ : ∃ q, q = 3 + n4 := ⟨_, rfl⟩
    rw [← hp, ← hq]
    have hp3 : 3 ≤ p := by omega
    have hp7 : p ≤ 7 := by omega
    have hq3 : 3 ≤ q := by omega
    have hq7 : q ≤ 7 := by omega
    generalize kindN n2 = kd
    obtain ⟨ops, hgd, hrd, hct⟩ := prg_reads hP
    refine ⟨_, rfl, tx, _, rfl, hrd, fun vP H4 s4 hPic => ?_⟩
    rw [rdS_ops] at hPic
    have hfit := hgd.fit
    have hlen := walksOf_len ops [0]
    have hne := walks_ne ops (ts := [0]) (by simp)
    have hsh := hgd.short
    have l1 := hgd.l1
    have l5 := hgd.l5
    rw [← hlen] at hct
    generalize walksOf [0] ops = us at *
    have t5 := Same.trans t4 s4
    have hb4 := s4 _ _ hb3
    obtain ⟨o, dxo, t, rfl, ho, ⟨t', ws, et, qt, pt⟩⟩ := id hPic
    cases et
    have lw := pt.length
    refine ⟨_, rfl, _, rfl, ?_⟩
    intro fx fdx nfx nfd nfe
    refine mkFl_in hp3 (by omega) hq3 (by omega) nfx nfd nfe fun H5 s5 hFl => ?_
    have t6 := Same.trans t5 s5
    replace ho := s5 _ _ ho
    replace qt := Same.sT s5 qt
    replace hb4 := s5 _ _ hb4
    replace hPic := Mo.pic _ _ _ _ (Le.of s5) hPic
    replace pt : Paired (Wk K CW H5) us ws := pmap pt fun _ _ r => Mo.wk _ _ _ _ (Le.of s5) r
    refine ⟨_, rfl, _, rfl, _, rfl, _, rfl, rfl, rfl, kd, .ref o, us, p, q, rfl, hPic, hfit, by omega, hp3, by omega, hq3, by omega, fun H6 s6 => ?_⟩
    have t7 : Same H5 H6 := s6
    obtain ⟨fx', fdx', fd', fa', efx, hfx, hfd, hfa⟩ := id hFl
    cases efx
    refine ⟨_, rfl, fx, fdx', _, rfl, s6 _ _ hfx, fno, _, rfl, _, rfl, o, CP, dxo, _, _, rfl, t7 _ _ ho, WP.cl, WP.nW, walks_lk t, t, _, rfl, .inr (Same.sT t7 qt), fun l1' nl1 => ?_⟩
    have sl1 : Same H6 (upd H6 l1' (.lst ws)) := Same.new nl1
    have t8 := Same.trans t7 sl1
    refine ⟨⟨(p, q), hp3, by show p ≤ 60; omega, hq3, by show q ≤ 60; omega⟩, kd, .ref fx, .ref l1', us, rfl, hFl.le (Le.of (Same.trans s6 sl1)), ⟨l1', ws, rfl, .of upd_same, pmap pt fun _ _ r => Mo.wk _ _ _ _ (Le.of t8) r⟩, by omega, fun u hu' => ⟨hne u hu', by have := hsh u hu'; omega⟩, fun H7 s7 => ?_⟩
    have t9 := Same.trans t8 s7
    refine ⟨_, rfl, rfl, _, rfl, ?_⟩
    have told1 : V.int ((keepD (sB p q kd) [] us).length : Int) = V.int (paintN (sB p q kd) [] us : Int) := by rw [diff_paint (by omega) (by omega) hne]
    rw [decide_eq_true told1]
    refine iteF (A := False) ?_
    refine ⟨[some (.ref sa), some (.ref b), some (.str tx), some (.str (kS kd)), some (.int p), some (.int q), some (.ref o), some (.ref fx), some (.int (paintN (sB p q kd) [] us)), none, none, none, none, none, none], rfl, _, rfl, _, rfl, kd, .ref o, us, rfl, Mo.pic _ _ _ _ (Le.of t9) hPic, hfit, by omega, fun vc nc H8 s8 ndc hmc hLs => ?_⟩
    obtain ⟨ca, cs, rfl, qc, pc⟩ := hLs
    have t10 := Same.trans t9 s8
    have lc := pc.length
    refine ⟨ca, rfl, ⟨_, qc⟩, fun D nD => ?_⟩
    refine lc_F2 (walk_list (xs := cs)) (Rs := PrC K CF (cS kd us us.length)) pc Iv (fun n => cS kd us us.length n (p - 3) (q - 3)) (fun n : Nat => (n : Int)) Mo.i nD ?_ (fun _ s => Same.sL s qc) (fun _ _ => rfl) ?_ ?_
    · have := nodup_lt (us.length + 1) nc ndc fun n hn => by
        have := ((hmc n).mp hn).1
        omega
      exact lsz (m := 1000) (by omega)
    · rintro n v hn ⟨ct, cf, rfl, hct2, hfo⟩
      refine ⟨ct, _, _, rfl, hct2, fun H9 s9 Qb hQb s' H0' C' cl fp => ?_, fun _ Hx sx Q2 hQ2 s' H0' C' cl fp => ?_⟩
      · refine ⟨_, pt_cmpR (op_own_in CHs hr (by decide)) (pe_tup (pa_cons (pv 4) (pa_cons (pv 5) pa_nil))) (pv 13) (by rfl), ?_⟩
        refine ⟨_, rfl, _, rfl, (by show 2 ≤ sizeLine; decide), fun pt2 npt2 => ?_⟩
        have sx := Same.trans s9 (Same.new (o := .tup [.int p, .int q]) npt2)
        have hfo2 := Mo.fo _ _ _ _ (Le.of sx) hfo
        obtain ⟨xa, dxa, ra, ta, na', ma', rfl, hxa, _⟩ := id hfo2
        exact ⟨_, rfl, xa, dxa, _, rfl, hxa, .ref xa, _, pt2, p, q, rfl, hfo2, .of upd_same, hp3, hq3, _, rfl, _, rfl, hQb _ (Same.new npt2)⟩
      · exact ⟨_, pv 12, _, rfl, hQ2 _ _ (Same.refl _) rfl⟩
    · intro H9 ys s9 hD hpy
      have hys := Paired.intV hpy
      have hct3 := counts_told (k := kd) hfit (a := p - 3) (b := q - 3) (by omega) (by omega) ndc hmc
      rw [show p - 3 + 3 = p by omega, show q - 3 + 3 = q by omega] at hct3
      rw [hct3] at hys
      subst hys
      have t11 := Same.trans t10 s9
      refine ⟨_, rfl, (by show 1 ≤ sizeLine; decide), fun m nm => ?_⟩
      have sm : Same H9 (upd H9 m (.lst [.int (paintN (sB p q kd) [] us)])) := Same.new nm
      refine ⟨.list [.int (paintN (sB p q kd) [] us)], .list [.int (paintN (sB p q kd) [] us)], .lst (.of (sm _ _ hD)) (.cons (.int _) .nil), .lst (.of upd_same) (.cons (.int _) .nil), rfl, rfl, _, rfl, ?_⟩
      rw [SeqAt.eqv_refl _ rfl]
      refine iteF (A := False) ?_
      have t12 := Same.trans t11 sm
      generalize upd H9 m (.lst [V.int (paintN (sB p q kd) [] us)]) = H12 at t12
      -- the picture with its first walk once more
      refine ⟨_, rfl, o, CP, dxo, _, _, rfl, t12 _ _ ho, WP.cl, WP.nW, walks_lk t, t, _, rfl, .inr (Same.sT t12 qt), fun la nla => ?_⟩
      have sa1 : Same H12 (upd H12 la (.lst ws)) := Same.new nla
      have t13 := Same.trans t12 sa1
      refine ⟨_, rfl, o, CP, dxo, _, _, rfl, t13 _ _ ho, WP.cl, WP.nW, walks_lk t, t, _, rfl, .inr (Same.sT t13 qt), fun lb nlb => ?_⟩
      have sb1 : Same (upd H12 la (.lst ws)) (upd (upd H12 la (.lst ws)) lb (.lst ws)) := Same.new nlb
      refine ⟨_, rfl, lb, _, rfl, .of upd_same, fun lc' nlc => ?_⟩
      have sc1 : Same (upd (upd H12 la (.lst ws)) lb (.lst ws)) (upd (upd (upd H12 la (.lst ws)) lb (.lst ws)) lc' (.lst (cutV ws none (some 1)))) := Same.new nlc
      refine ⟨la, lc', ws, cutV ws none (some 1), rfl, rfl, sc1 _ _ (sb1 _ _ upd_same), upd_same, ?_, fun ld nld => ?_⟩
      · rw [show (some (1 : Int)) = some ((1 : Nat) : Int) from rfl, cutV_take, List.length_take]
        exact lsz (m := 1000) (by omega)
      rw [show (some (1 : Int)) = some ((1 : Nat) : Int) from rfl, cutV_take] at nld ⊢
      rw [show (some (1 : Int)) = some ((1 : Nat) : Int) from rfl, cutV_take] at sc1
      have sd1 := Same.new (o := .lst (ws ++ ws.take 1)) nld
      have t14 := Same.trans t13 (Same.trans sb1 (Same.trans sc1 sd1))
      have hld : (upd (upd (upd (upd H12 la (.lst ws)) lb (.lst ws)) lc' (.lst (ws.take 1))) ld (.lst (ws ++ ws.take 1))) ld = some (.lst (ws ++ ws.take 1)) := upd_same
      generalize upd (upd (upd (upd H12 la (.lst ws)) lb (.lst ws)) lc' (.lst (ws.take 1))) ld (.lst (ws ++ ws.take 1)) = H13 at t14 hld ⊢
      have pt13 : Paired (Wk K CW H13) us ws := pmap pt fun _ _ r => Mo.wk _ _ _ _ (Le.of t14) r
      intro px pdx npx npd npe
      refine mkP_in (CP := CP) (us := us ++ us.take 1) ⟨ld, _, rfl, .of hld, Paired.append pt13 (taken pt13 (Le.refl _) 1)⟩ npx npd npe fun H14 s14 hDb => ?_
      have t15 := Same.trans t14 s14
      have hf2 := fit2_double hfit
      refine ⟨_, rfl, _, rfl, _, rfl, kd, .ref o, .ref px, us, us ++ us.take 1, rfl, Mo.pic _ _ _ _ (Le.of t15) hPic, hDb, hf2.1, hf2.2, fun va H15 s15 hva => ?_⟩
      refine ⟨rfl, fun ve H16 s16 hve => ?_⟩
      have hva2 := Mo.fo _ _ _ _ (Le.of s16) hva
      obtain ⟨ax, adx, ar, at5, an, am, rfl, hax, _⟩ := id hva2
      obtain ⟨ex, edx, er, et5, en, em, rfl, hex, _⟩ := id hve
      refine ⟨ax, ex, adx, edx, _, _, rfl, rfl, hax, hex, .ref ax, .ref ex, _, _, rfl, hva2, hve, fun be hbe => ?_⟩
      have hbe2 : be = true := hbe (fun i j => alike_all hne i j) fun _ _ => rfl
      subst hbe2
      refine ⟨true, rfl, true, rfl, iteF (A := False) ?_⟩
      have t16 := Same.trans t15 (Same.trans s15 s16)
      refine ⟨_, rfl, _, rfl, _, rfl, _, rfl, rfl, rfl, kd, .ref px, us ++ us.take 1, p, q, rfl, Mo.pic _ _ _ _ (Le.of (Same.trans s15 s16)) hDb, fit_double hfit, by rw [List.length_append, List.length_take]; omega, hp3, by omega, hq3, by omega, fun H17 s17 => ?_⟩
      refine ⟨_, rfl, rfl, _, rfl, ?_⟩
      rw [paint_double hne, decide_eq_true rfl]
      refine iteF (A := False) ?_
      have t17 := Same.trans t16 s17
      -- the same walks with a room in front
      refine ⟨(by show 1 ≤ sizeLine; decide), fun le nle => ?_⟩
      refine ⟨_, rfl, le, p, _, rfl, rfl, upd_same, by omega, by omega, ?_, fun lf nlf => ?_⟩
      · rw [Int.toNat_natCast]
        exact Nat.le_trans (m := 100) (by show 1 * p ≤ 100; omega) (by decide)
      rw [Int.toNat_natCast, List.flatten_replicate_singleton] at *
      refine ⟨(by show 1 ≤ sizeLine; decide), fun lg nlg => ?_⟩
      have se := Same.new (o := .lst [V.int 1]) nle
      have sf := Same.new (o := .lst (List.replicate p (V.int 1))) nlf
      have sg := Same.new (o := .lst [V.int 0]) nlg
      refine ⟨lf, lg, List.replicate p (V.int 1), [V.int 0], rfl, rfl, sg _ _ upd_same, upd_same, ?_, fun lh nlh => ?_⟩
      · rw [List.length_replicate]
        exact Nat.le_trans (m := 100) (by show p + 1 ≤ 100; omega) (by decide)
      have sh := Same.new (o := .lst (List.replicate p (V.int 1) ++ [V.int 0])) nlh
      have t18 := Same.trans t17 (Same.trans se (Same.trans sf (Same.trans sg sh)))
      have hlh : (upd (upd (upd (upd H17 le (.lst [V.int 1])) lf (.lst (List.replicate p (V.int 1)))) lg (.lst [V.int 0])) lh (.lst (List.replicate p (V.int 1) ++ [V.int 0]))) lh = some (.lst ((around p).map V.int)) := by
        rw [upd_same]
        unfold around
        rw [List.map_append, List.map_replicate]
        rfl
      generalize upd (upd (upd (upd H17 le (.lst [V.int 1])) lf (.lst (List.replicate p (V.int 1)))) lg (.lst [V.int 0])) lh (.lst (List.replicate p (V.int 1) ++ [V.int 0])) = H18 at t18 hlh ⊢
      have lar : (around p).length = p + 1 := by unfold around; rw [List.length_append, List.length_replicate]; rfl
      intro wx wdx nwx nwd nwe
      refine mkW_in (CW := CW) (ws := around p) (.inl (.of hlh)) (by omega) nwx nwd nwe fun H19 s19 hAr => ?_
      have t19 := Same.trans t18 s19
      refine ⟨[some (.ref sa), some (.ref b), some (.str tx), some (.str (kS kd)), some (.int p), some (.int q), some (.ref o), some (.ref fx), some (.int (paintN (sB p q kd) [] us)), some (.ref px), some (.ref wx), none, none, none, none], rfl, _, rfl, o, CP, dxo, _, _, rfl, t19 _ _ ho, WP.cl, WP.nW, walks_lk t, t, rfl, ⟨_, Same.sT t19 qt⟩, fun D2 nD2 => ?_⟩
      have pt19 : Paired (Wk K CW H19) us ws := pmap pt fun _ _ r => Mo.wk _ _ _ _ (Le.of t19) r
      refine lc_L (walk_tup (xs := ws)) (Rs := Wk K CW) pt19 (Wk K CW) (fun u => cat (around p) u) Mo.wk nD2 (lsz (m := 1000) (by omega)) (fun _ s => Same.sT s (Same.sT t19 qt)) (fun _ => rfl) ?_ ?_
      · rintro u v Hx hu' hwk sx Q2 hQ2 s' H0' C' cl fp
        refine ⟨_, pe_op (op_own CAd hr (by decide) hsf rfl) (pv 10) (pv 14), ?_⟩
        have hAr2 := Mo.wk _ _ _ _ (Le.of sx) hAr
        have hwk2 := Mo.wk _ _ _ _ (Le.of sx) hwk
        obtain ⟨wa, wd, wt, ewa, hwa, hwt⟩ := id hAr2
        obtain ⟨va2, vd, vt, rfl, hva3, hvt⟩ := id hwk2
        cases ewa
        have := hsh u hu'
        exact ⟨_, rfl, _, rfl, wx, va2, wd, vd, _, _, rfl, rfl, hwa, hva3, .ref wx, .ref va2, around p, u, rfl, hAr2, hwk2, around_ne p, hne u hu', by omega, fun z H20 s20 hz => ⟨by obtain ⟨c, _, _, ec, _⟩ := hz; exact ⟨c, ec⟩, hQ2 z H20 s20 hz⟩⟩
      · intro H20 ys s20 hD2 hpy2
        have t20 := Same.trans t19 s20
        have lys := hpy2.length
        rw [List.length_map] at lys
        refine ⟨_, rfl, fx, fdx', _, rfl, t20 _ _ hfx, fno, _, rfl, _, rfl, _, rfl, o, CP, dxo, _, _, rfl, t20 _ _ ho, WP.cl, WP.nW, walks_lk t, t, _, rfl, .inr (Same.sT t20 qt), fun li nli => ?_⟩
        have si := Same.new (o := .lst ws) nli
        refine ⟨D2, li, ys, ws, rfl, rfl, si _ _ hD2, upd_same, lsz (m := 1000) (by omega), fun lj nlj => ?_⟩
        have sj := Same.new (o := .lst (ys ++ ws)) nlj
        have t21 := Same.trans t20 (Same.trans si sj)
        refine ⟨⟨(p, q), hp3, by show p ≤ 60; omega, hq3, by show q ≤ 60; omega⟩, kd, .ref fx, .ref lj, us.map (cat (around p)) ++ us, rfl, hFl.le (Le.of t21), ⟨lj, ys ++ ws, rfl, .of upd_same, Paired.append (pmap hpy2 fun _ _ r => Mo.wk _ _ _ _ (Le.of (Same.trans si sj)) r) (pmap pt fun _ _ r => Mo.wk _ _ _ _ (Le.of t21) r)⟩, by rw [List.length_append, List.length_map]; omega, fun u hu' => ?_, fun H21 s21 => ?_⟩
        · rcases List.mem_append.mp hu' with h | h
          · obtain ⟨u0, h0', rfl⟩ := List.mem_map.mp h
            have := hsh u0 h0'
            refine ⟨cat_ne (around_ne p), ?_⟩
            rw [cat_len (around_ne p) (hne u0 h0')]
            omega
          · have := hsh u h
            exact ⟨hne u h, by omega⟩
        · have t22 := Same.trans t21 s21
          refine ⟨_, rfl, rfl, _, rfl, ?_⟩
          have told2 : V.int ((keepD (sB p q kd) [] (us.map (cat (around p)) ++ us)).length : Int) = V.int (paintN (sB p q kd) [] us : Int) := by rw [diff_around hp3 (show 2 ≤ q by omega) hne]
          rw [decide_eq_true told2]
          refine iteF (A := False) ?_
          refine ⟨_, rfl, o, CP, dxo, _, _, rfl, t22 _ _ ho, WP.cl, WP.nW, walks_lk t, t, _, rfl, .inr (Same.sT t22 qt), _, rfl, ⟨_, rfl⟩, _, _, rfl, rfl, rfl, _, rfl, ?_⟩
          by_cases hd0 : 2 ≤ d0
          · rw [decide_eq_true (by rw [hct hd0, lw])]
            exact iteT (B := True) (k _)
          · refine ite2 (fun _ => k _) (fun _ => ?_)
            refine ⟨_, rfl, b, _, _, _, rfl, rfl, .of (t22 _ _ hb4), rfl, _, _, rfl, rfl, ?_⟩
            show Q (.bl (decide (d0 < 2))) H21
            rw [decide_eq_true (by omega)]
            exact k _
end
end W5
set_option maxHeartbeats 8000000
/-! W5K2: the facts as structures; all promises put together. Printed by gen_K2.py. -/
namespace W5
open PySem PySem.Spec PyProof.Rows L2 K5
open He (ga ma)
section
variable {K : PySem.W.Frag} {h : Heap} {mg : Str → Option Value} {w : World}
theorem dfOf (X : K.In h) (G : h.Ns mainGlobals mg) (c : He5.SaysA faL fnL K) {x : Str} {n i j : Nat} (h1 : fnL[i]? = some (dF x n)) (h2 : faL[j]? = some (.glo x)) : Df K mg x (top n) := by
  obtain ⟨fd, F⟩ := c.def_ i h1
  exact ⟨_, fd, F, He.glo_ok X G (c.fact j h2)⟩
theorem diOf (X : K.In h) (G : h.Ns mainGlobals mg) (c : He5.SaysA faL fnL K) {x q : Str} {st : Stmt} {i j k : Nat} (h1 : fnL[i]? = some (dM x "__init__" q st)) (h2 : faL[j]? = some (.mkr x)) (h3 : faL[k]? = some (.glo x)) : DfI K mg x (ga K x) q st := by
  obtain ⟨fd, F⟩ := c.def_ i h1
  exact ⟨_, fd, F, He.mkr_ok (c.fact j h2), He.glo_ok X G (c.fact k h3)⟩
theorem dmOf (c : He5.SaysA faL fnL K) {x m q : Str} {st : Stmt} {i j k : Nat} (h1 : fnL[i]? = some (dM x m q st)) (h2 : faL[j]? = some (.cls x)) (h3 : faL[k]? = some (.meth x m)) : DfM K (ga K x) m q st := by
  obtain ⟨fd, F⟩ := c.def_ i h1
  exact ⟨_, fd, F, He.cls_ok (c.fact j h2), He.meth_ok (c.fact k h3)⟩
theorem redB_ok {C : Addr} (h : redB K C = true) : ClX.CRead K C (.type "type") := by
  obtain ⟨h1, h2⟩ := He.ba h
  exact ⟨h1, He.eqO_ok h2⟩
theorem dcOf (X : K.In h) (G : h.Ns mainGlobals mg) (c : He5.SaysA faL fnL K) {x m q : Str} {st : Stmt} {i k : Nat} (h1 : fnL[i]? = some (dC x m q st)) (h3 : faL[k]? = some (.glo x)) (h4 : redB K (ga K x) = true) (h5 : clmB K (ga K x) m = true) : DfC K mg x (ga K x) m q st := by
  obtain ⟨fd, F⟩ := c.def_ i h1
  obtain ⟨h6, h7⟩ := He.ba h5
  exact ⟨_, _, _, fd, F, redB_ok h4, He5.cmet_of h6 h7, He.glo_ok X G (c.fact k h3)⟩
theorem tupA_ok {a : Addr} {vs : List V} (h : tupA K a vs = true) (H : Hp) : SqT K H a vs := by
  unfold tupA at h
  split at h
  · rename_i q
    rw [Bool.and_eq_true, Bool.and_eq_true] at h
    exact .inr ⟨_, _, _, q, congrArg Value.type (of_decide_eq_true h.1), rfl, of_decide_eq_true h.2.1, He.relAll_ok h.2.2⟩
  · cases h
theorem insB_ok {C : Addr} (k : Cls K C) (h : insB K C = true) : C8.InsC K C := by
  obtain ⟨h1, h⟩ := He.ba h
  obtain ⟨h2, h⟩ := He.ba h
  obtain ⟨h3, h⟩ := He.ba h
  obtain ⟨h4, h5⟩ := He.ba h
  exact ⟨k, He.eqO_ok h1, He.eqO_ok h2, of_decide_eq_true h3, of_decide_eq_true h4, of_decide_eq_true h5⟩
theorem parB_ok {k : Str} {ns : List V} (h : parB K k ns = true) : ∃ t, PySem.W.nsIn K (ga K "PARTS") k = some (some (.ref t)) ∧ ∀ H, SqT K H t ns := by
  obtain ⟨h1, h2⟩ := He.ba h
  exact ⟨_, He.eqO_ok h1, fun H => tupA_ok h2 H⟩
theorem exAt (h : (exS K).all id = true) (i : Nat) {b : Bool} (e : (exS K)[i]? = some b := by rfl) : b = true := List.all_eq_true.mp h b (List.mem_of_getElem? e)
theorem bnOf (X : K.In h) (G : h.Ns mainGlobals mg) (c : He5.SaysA faL fnL K) : Bn mg :=
  ⟨He.free_ok X G (c.fact 56 (f := .free "abs") rfl), He.free_ok X G (c.fact 57 (f := .free "any") rfl), He.free_ok X G (c.fact 58 (f := .free "all") rfl), He.free_ok X G (c.fact 59 (f := .free "dict") rfl), He.free_ok X G (c.fact 60 (f := .free "enumerate") rfl), He.free_ok X G (c.fact 61 (f := .free "int") rfl), He.free_ok X G (c.fact 62 (f := .free "isinstance") rfl), He.free_ok X G (c.fact 63 (f := .free "len") rfl), He.free_ok X G (c.fact 64 (f := .free "list") rfl), He.free_ok X G (c.fact 65 (f := .free "max") rfl), He.free_ok X G (c.fact 66 (f := .free "min") rfl), He.free_ok X G (c.fact 67 (f := .free "range") rfl), He.free_ok X G (c.fact 68 (f := .free "reversed") rfl), He.free_ok X G (c.fact 69 (f := .free "sorted") rfl), He.free_ok X G (c.fact 70 (f := .free "str") rfl), He.free_ok X G (c.fact 71 (f := .free "sum") rfl), He.free_ok X G (c.fact 72 (f := .free "tuple") rfl), He.free_ok X G (c.fact 73 (f := .free "zip") rfl)⟩
theorem xyOf (X : K.In h) (G : h.Ns mainGlobals mg) (c : He5.SaysA faL fnL K) (e : (exS K).all id = true) : XY K mg (ga K "X") (ga K "Y") :=
  ⟨He.glo_ok X G (c.fact 51 (f := .glo "X") rfl), He.glo_ok X G (c.fact 52 (f := .glo "Y") rfl), fun H => ⟨_, _, rfl, tupA_ok (exAt e 5) H, .cons ⟨_, rfl, tupA_ok (exAt e 6) H⟩ .nil⟩, fun H => ⟨_, _, rfl, tupA_ok (exAt e 7) H, .cons ⟨_, rfl, tupA_ok (exAt e 8) H⟩ .nil⟩⟩
theorem smOf (X : K.In h) (G : h.Ns mainGlobals mg) (c : He5.SaysA faL fnL K) (e : (exS K).all id = true) (d : ∃ es n, KDict K w (ga K "PARTS") es n) : SM K w mg (ga K "KINDS") (ga K "PARTS") :=
  ⟨He.glo_ok X G (c.fact 54 (f := .glo "KINDS") rfl), fun H => tupA_ok (exAt e 4) H, He.glo_ok X G (c.fact 55 (f := .glo "PARTS") rfl), d, fun k => match k with
    | .arrow => parB_ok (exAt e 9)
    | .corner => parB_ok (exAt e 10)
    | .edge => parB_ok (exAt e 11)
    | .room => parB_ok (exAt e 12), He.int_ok X G (c.fact 78 (f := .int "MOST_GOES" 8) rfl), He.int_ok X G (c.fact 79 (f := .int "MOST_SIZE" 12) rfl)⟩
theorem pmOf (X : K.In h) (G : h.Ns mainGlobals mg) (c : He5.SaysA faL fnL K) (e : (exS K).all id = true) : PM K mg (ga K "WORDS") :=
  ⟨He.glo_ok X G (c.fact 53 (f := .glo "WORDS") rfl), fun H => tupA_ok (exAt e 3) H, He.int_ok X G (c.fact 75 (f := .int "MOST_OPEN" 5) rfl), He.int_ok X G (c.fact 76 (f := .int "MOST_GOES_DONE" 60) rfl), He.int_ok X G (c.fact 77 (f := .int "MOST_OTHERS_DONE" 400) rfl)⟩
theorem wcOf (c : He5.SaysA faL fnL K) : WC K (ga K "Walk") := ⟨He.cls_ok (c.fact 91 (f := .cls "Walk") rfl), He.noat_ok (c.fact 93 (f := .noat "Walk" "turns") rfl), He.noat_ok (c.fact 94 (f := .noat "Walk" "goes") rfl), He.noat_ok (c.fact 95 (f := .noat "Walk" "size") rfl)⟩
theorem bcOf (c : He5.SaysA faL fnL K) : BC K (ga K "Block") := ⟨He.cls_ok (c.fact 99 (f := .cls "Block") rfl), He.noat_ok (c.fact 101 (f := .noat "Block" "parts") rfl), He.noat_ok (c.fact 102 (f := .noat "Block" "going") rfl), He.noat_ok (c.fact 103 (f := .noat "Block" "others") rfl), He.noat_ok (c.fact 104 (f := .noat "Block" "paints") rfl)⟩
theorem rcOf (c : He5.SaysA faL fnL K) : RC K (ga K "Reader") := ⟨He.cls_ok (c.fact 107 (f := .cls "Reader") rfl), He.noat_ok (c.fact 109 (f := .noat "Reader" "words") rfl), He.noat_ok (c.fact 110 (f := .noat "Reader" "at") rfl), He.noat_ok (c.fact 111 (f := .noat "Reader" "meanings") rfl)⟩
theorem pcOf (c : He5.SaysA faL fnL K) : PC K (ga K "Picture") := ⟨He.cls_ok (c.fact 118 (f := .cls "Picture") rfl), He.noat_ok (c.fact 120 (f := .noat "Picture" "walks") rfl)⟩
theorem lcOf (X : K.In h) (G : h.Ns mainGlobals mg) (c : He5.SaysA faL fnL K) : LC K mg (ga K "Floor") := ⟨He.cls_ok (c.fact 121 (f := .cls "Floor") rfl), He.noat_ok (c.fact 123 (f := .noat "Floor" "p") rfl), He.noat_ok (c.fact 124 (f := .noat "Floor" "q") rfl), He.noat_ok (c.fact 125 (f := .noat "Floor" "down") rfl), He.noat_ok (c.fact 126 (f := .noat "Floor" "along") rfl), He.int_ok X G (c.fact 80 (f := .int "LEAST_SIDES" 3) rfl), He.int_ok X G (c.fact 81 (f := .int "MOST_SIDES" 9) rfl)⟩
theorem fcOf (X : K.In h) (G : h.Ns mainGlobals mg) (c : He5.SaysA faL fnL K) (e : (exS K).all id = true) : FC K mg (ga K "Floors") := ⟨He.cls_ok (c.fact 82 (f := .cls "Floors") rfl), He.noat_ok (c.fact 84 (f := .noat "Floors" "rows") rfl), insB_ok (He.cls_ok (c.fact 82 (f := .cls "Floors") rfl)) (exAt e 2), He.glo_ok X G (c.fact 45 (f := .glo "Floors") rfl), He.int_ok X G (c.fact 74 (f := .int "FIRST" 3) rfl)⟩
/-- where each def stands -/
structure Defs (K : PySem.W.Frag) (mg : Str → Option Value) : Prop where
  f_columns_of : Df K mg "columns_of" (top 10)
  f_without_copies : Df K mg "without_copies" (top 11)
  f_least_table : Df K mg "least_table" (top 12)
  f_grown : Df K mg "grown" (top 13)
  f_alongside : Df K mg "alongside" (top 14)
  f_collected : Df K mg "collected" (top 17)
  f_plus : Df K mg "plus" (top 18)
  f_minus : Df K mg "minus" (top 19)
  f_times : Df K mg "times" (top 20)
  f_step : Df K mg "step" (top 21)
  f_rows_of : Df K mg "rows_of" (top 22)
  f_terms_of : Df K mg "terms_of" (top 23)
  f_swapped : Df K mg "swapped" (top 24)
  f_divided_in_x : Df K mg "divided_in_x" (top 25)
  f_divided : Df K mg "divided" (top 26)
  f_one : Df K mg "one" (top 30)
  f_negated : Df K mg "negated" (top 31)
  f_turned_left : Df K mg "turned_left" (top 32)
  f_turned_right : Df K mg "turned_right" (top 33)
  f_turned : Df K mg "turned" (top 34)
  f_gone : Df K mg "gone" (top 35)
  f_number_of : Df K mg "number_of" (top 38)
  f_is_number : Df K mg "is_number" (top 44)
  f_is_name : Df K mg "is_name" (top 45)
  f_done : Df K mg "done" (top 48)
  f_deeds : Df K mg "deeds" (top 49)
  f_joined : Df K mg "joined" (top 55)
  f_needed : Df K mg "needed" (top 56)
  f_parts_of : Df K mg "parts_of" (top 57)
  f_where : Df K mg "where" (top 58)
  f_checked_floor : Df K mg "checked_floor" (top 59)
  f_same : Df K mg "same" (top 60)
  f_known_kind : Df K mg "known_kind" (top 63)
  f_painted : Df K mg "painted" (top 64)
  f_pairs_of : Df K mg "pairs_of" (top 65)
  f_counts : Df K mg "counts" (top 66)
  f_within : Df K mg "within" (top 67)
  f_alike : Df K mg "alike" (top 68)
  f_joined_rows : Df K mg "joined_rows" (top 74)
  f_vanish : Df K mg "vanish" (top 76)
  f_law_cell : Df K mg "_law_cell" (top 78)
  f_law_draws : Df K mg "_law_draws" (top 79)
  f_law_text : Df K mg "_law_text" (top 81)
  f_law_program : Df K mg "_law_program" (top 82)
  m_Floors_init : DfI K mg "Floors" (ga K "Floors") "Floors.__init__" (inClass (top 15) 0)
  m_Floors_contains : DfM K (ga K "Floors") "__contains__" "Floors.__contains__" (inClass (top 15) 4)
  m_Floors_eq : DfM K (ga K "Floors") "__eq__" "Floors.__eq__" (inClass (top 15) 5)
  m_Floors_bool : DfM K (ga K "Floors") "__bool__" "Floors.__bool__" (inClass (top 15) 6)
  m_Floors_and : DfM K (ga K "Floors") "__and__" "Floors.__and__" (inClass (top 15) 7)
  m_Floors_or : DfM K (ga K "Floors") "__or__" "Floors.__or__" (inClass (top 15) 8)
  m_Floors_sub : DfM K (ga K "Floors") "__sub__" "Floors.__sub__" (inClass (top 15) 9)
  m_Floors_everywhere : DfC K mg "Floors" (ga K "Floors") "everywhere" "Floors.everywhere" (inClass (top 15) 1)
  m_Floors_nowhere : DfC K mg "Floors" (ga K "Floors") "nowhere" "Floors.nowhere" (inClass (top 15) 2)
  m_Walk_init : DfI K mg "Walk" (ga K "Walk") "Walk.__init__" (inClass (top 37) 0)
  m_Walk_add : DfM K (ga K "Walk") "__add__" "Walk.__add__" (inClass (top 37) 5)
  m_Walk_neg : DfM K (ga K "Walk") "__neg__" "Walk.__neg__" (inClass (top 37) 6)
  m_Walk_reduced : DfM K (ga K "Walk") "reduced" "Walk.reduced" (inClass (top 37) 9)
  m_Block_init : DfI K mg "Block" (ga K "Block") "Block.__init__" (inClass (top 46) 0)
  m_Block_put_deed : DfM K (ga K "Block") "put_deed" "Block.put_deed" (inClass (top 46) 1)
  m_Block_put_block : DfM K (ga K "Block") "put_block" "Block.put_block" (inClass (top 46) 2)
  m_Reader_init : DfI K mg "Reader" (ga K "Reader") "Reader.__init__" (inClass (top 47) 0)
  m_Reader_next_word : DfM K (ga K "Reader") "next_word" "Reader.next_word" (inClass (top 47) 1)
  m_Reader_number : DfM K (ga K "Reader") "number" "Reader.number" (inClass (top 47) 2)
  m_Reader_bracketed : DfM K (ga K "Reader") "bracketed" "Reader.bracketed" (inClass (top 47) 3)
  m_Reader_item : DfM K (ga K "Reader") "item" "Reader.item" (inClass (top 47) 4)
  m_Reader_definition : DfM K (ga K "Reader") "definition" "Reader.definition" (inClass (top 47) 5)
  m_Reader_whole : DfM K (ga K "Reader") "whole" "Reader.whole" (inClass (top 47) 6)
  m_Picture_init : DfI K mg "Picture" (ga K "Picture") "Picture.__init__" (inClass (top 62) 0)
  m_Picture_read : DfC K mg "Picture" (ga K "Picture") "read" "Picture.read" (inClass (top 62) 1)
  m_Floor_init : DfI K mg "Floor" (ga K "Floor") "Floor.__init__" (inClass (top 73) 0)
  m_Floor_blank : DfM K (ga K "Floor") "blank" "Floor.blank" (inClass (top 73) 3)
  m_Floor_start : DfM K (ga K "Floor") "start" "Floor.start" (inClass (top 73) 4)
  m_Floor_times_x : DfM K (ga K "Floor") "times_x" "Floor.times_x" (inClass (top 73) 5)
  m_Floor_times_y : DfM K (ga K "Floor") "times_y" "Floor.times_y" (inClass (top 73) 6)
  m_Floor_left : DfM K (ga K "Floor") "left" "Floor.left" (inClass (top 73) 7)
  m_Floor_right : DfM K (ga K "Floor") "right" "Floor.right" (inClass (top 73) 8)
  m_Floor_across : DfM K (ga K "Floor") "across" "Floor.across" (inClass (top 73) 9)
  m_Floor_turned : DfM K (ga K "Floor") "turned" "Floor.turned" (inClass (top 73) 10)
  m_Floor_walked : DfM K (ga K "Floor") "walked" "Floor.walked" (inClass (top 73) 11)
  m_Floor_same : DfM K (ga K "Floor") "same" "Floor.same" (inClass (top 73) 13)
  m_Floor_different : DfM K (ga K "Floor") "different" "Floor.different" (inClass (top 73) 16)
theorem defsOf (X : K.In h) (G : h.Ns mainGlobals mg) (c : He5.SaysA faL fnL K) (e : (exS K).all id = true) : Defs K mg where
  f_columns_of := dfOf X G c (x := "columns_of") (n := 10) (i := 0) (j := 0) rfl rfl
  f_without_copies := dfOf X G c (x := "without_copies") (n := 11) (i := 1) (j := 1) rfl rfl
  f_least_table := dfOf X G c (x := "least_table") (n := 12) (i := 2) (j := 2) rfl rfl
  f_grown := dfOf X G c (x := "grown") (n := 13) (i := 3) (j := 3) rfl rfl
  f_alongside := dfOf X G c (x := "alongside") (n := 14) (i := 4) (j := 4) rfl rfl
  f_collected := dfOf X G c (x := "collected") (n := 17) (i := 5) (j := 5) rfl rfl
  f_plus := dfOf X G c (x := "plus") (n := 18) (i := 6) (j := 6) rfl rfl
  f_minus := dfOf X G c (x := "minus") (n := 19) (i := 7) (j := 7) rfl rfl
  f_times := dfOf X G c (x := "times") (n := 20) (i := 8) (j := 8) rfl rfl
  f_step := dfOf X G c (x := "step") (n := 21) (i := 9) (j := 9) rfl rfl
  f_rows_of := dfOf X G c (x := "rows_of") (n := 22) (i := 10) (j := 10) rfl rfl
  f_terms_of := dfOf X G c (x := "terms_of") (n := 23) (i := 11) (j := 11) rfl rfl
  f_swapped := dfOf X G c (x := "swapped") (n := 24) (i := 12) (j := 12) rfl rfl
  f_divided_in_x := dfOf X G c (x := "divided_in_x") (n := 25) (i := 13) (j := 13) rfl rfl
  f_divided := dfOf X G c (x := "divided") (n := 26) (i := 14) (j := 14) rfl rfl
  f_one := dfOf X G c (x := "one") (n := 30) (i := 15) (j := 15) rfl rfl
  f_negated := dfOf X G c (x := "negated") (n := 31) (i := 16) (j := 16) rfl rfl
  f_turned_left := dfOf X G c (x := "turned_left") (n := 32) (i := 17) (j := 17) rfl rfl
  f_turned_right := dfOf X G c (x := "turned_right") (n := 33) (i := 18) (j := 18) rfl rfl
  f_turned := dfOf X G c (x := "turned") (n := 34) (i := 19) (j := 19) rfl rfl
  f_gone := dfOf X G c (x := "gone") (n := 35) (i := 20) (j := 20) rfl rfl
  f_number_of := dfOf X G c (x := "number_of") (n := 38) (i := 21) (j := 21) rfl rfl
  f_is_number := dfOf X G c (x := "is_number") (n := 44) (i := 22) (j := 22) rfl rfl
  f_is_name := dfOf X G c (x := "is_name") (n := 45) (i := 23) (j := 23) rfl rfl
  f_done := dfOf X G c (x := "done") (n := 48) (i := 24) (j := 24) rfl rfl
  f_deeds := dfOf X G c (x := "deeds") (n := 49) (i := 25) (j := 25) rfl rfl
  f_joined := dfOf X G c (x := "joined") (n := 55) (i := 26) (j := 26) rfl rfl
  f_needed := dfOf X G c (x := "needed") (n := 56) (i := 27) (j := 27) rfl rfl
  f_parts_of := dfOf X G c (x := "parts_of") (n := 57) (i := 28) (j := 28) rfl rfl
  f_where := dfOf X G c (x := "where") (n := 58) (i := 29) (j := 29) rfl rfl
  f_checked_floor := dfOf X G c (x := "checked_floor") (n := 59) (i := 30) (j := 30) rfl rfl
  f_same := dfOf X G c (x := "same") (n := 60) (i := 31) (j := 31) rfl rfl
  f_known_kind := dfOf X G c (x := "known_kind") (n := 63) (i := 32) (j := 32) rfl rfl
  f_painted := dfOf X G c (x := "painted") (n := 64) (i := 33) (j := 33) rfl rfl
  f_pairs_of := dfOf X G c (x := "pairs_of") (n := 65) (i := 34) (j := 34) rfl rfl
  f_counts := dfOf X G c (x := "counts") (n := 66) (i := 35) (j := 35) rfl rfl
  f_within := dfOf X G c (x := "within") (n := 67) (i := 36) (j := 36) rfl rfl
  f_alike := dfOf X G c (x := "alike") (n := 68) (i := 37) (j := 37) rfl rfl
  f_joined_rows := dfOf X G c (x := "joined_rows") (n := 74) (i := 38) (j := 38) rfl rfl
  f_vanish := dfOf X G c (x := "vanish") (n := 76) (i := 39) (j := 39) rfl rfl
  f_law_cell := dfOf X G c (x := "_law_cell") (n := 78) (i := 40) (j := 40) rfl rfl
  f_law_draws := dfOf X G c (x := "_law_draws") (n := 79) (i := 41) (j := 41) rfl rfl
  f_law_text := dfOf X G c (x := "_law_text") (n := 81) (i := 42) (j := 42) rfl rfl
  f_law_program := dfOf X G c (x := "_law_program") (n := 82) (i := 43) (j := 43) rfl rfl
  m_Floors_init := diOf X G c (x := "Floors") (q := "Floors.__init__") (st := (inClass (top 15) 0)) (i := 45) (j := 83) (k := 45) rfl rfl rfl
  m_Floors_contains := dmOf c (x := "Floors") (m := "__contains__") (q := "Floors.__contains__") (st := (inClass (top 15) 4)) (i := 46) (j := 82) (k := 85) rfl rfl rfl
  m_Floors_eq := dmOf c (x := "Floors") (m := "__eq__") (q := "Floors.__eq__") (st := (inClass (top 15) 5)) (i := 47) (j := 82) (k := 86) rfl rfl rfl
  m_Floors_bool := dmOf c (x := "Floors") (m := "__bool__") (q := "Floors.__bool__") (st := (inClass (top 15) 6)) (i := 48) (j := 82) (k := 87) rfl rfl rfl
  m_Floors_and := dmOf c (x := "Floors") (m := "__and__") (q := "Floors.__and__") (st := (inClass (top 15) 7)) (i := 49) (j := 82) (k := 88) rfl rfl rfl
  m_Floors_or := dmOf c (x := "Floors") (m := "__or__") (q := "Floors.__or__") (st := (inClass (top 15) 8)) (i := 50) (j := 82) (k := 89) rfl rfl rfl
  m_Floors_sub := dmOf c (x := "Floors") (m := "__sub__") (q := "Floors.__sub__") (st := (inClass (top 15) 9)) (i := 51) (j := 82) (k := 90) rfl rfl rfl
  m_Floors_everywhere := dcOf X G c (x := "Floors") (m := "everywhere") (q := "Floors.everywhere") (st := (inClass (top 15) 1)) (i := 52) (k := 45) rfl rfl (exAt e 13) (exAt e 15)
  m_Floors_nowhere := dcOf X G c (x := "Floors") (m := "nowhere") (q := "Floors.nowhere") (st := (inClass (top 15) 2)) (i := 53) (k := 45) rfl rfl (exAt e 13) (exAt e 16)
  m_Walk_init := diOf X G c (x := "Walk") (q := "Walk.__init__") (st := (inClass (top 37) 0)) (i := 54) (j := 92) (k := 46) rfl rfl rfl
  m_Walk_add := dmOf c (x := "Walk") (m := "__add__") (q := "Walk.__add__") (st := (inClass (top 37) 5)) (i := 55) (j := 91) (k := 96) rfl rfl rfl
  m_Walk_neg := dmOf c (x := "Walk") (m := "__neg__") (q := "Walk.__neg__") (st := (inClass (top 37) 6)) (i := 56) (j := 91) (k := 97) rfl rfl rfl
  m_Walk_reduced := dmOf c (x := "Walk") (m := "reduced") (q := "Walk.reduced") (st := (inClass (top 37) 9)) (i := 57) (j := 91) (k := 98) rfl rfl rfl
  m_Block_init := diOf X G c (x := "Block") (q := "Block.__init__") (st := (inClass (top 46) 0)) (i := 58) (j := 100) (k := 47) rfl rfl rfl
  m_Block_put_deed := dmOf c (x := "Block") (m := "put_deed") (q := "Block.put_deed") (st := (inClass (top 46) 1)) (i := 59) (j := 99) (k := 105) rfl rfl rfl
  m_Block_put_block := dmOf c (x := "Block") (m := "put_block") (q := "Block.put_block") (st := (inClass (top 46) 2)) (i := 60) (j := 99) (k := 106) rfl rfl rfl
  m_Reader_init := diOf X G c (x := "Reader") (q := "Reader.__init__") (st := (inClass (top 47) 0)) (i := 61) (j := 108) (k := 48) rfl rfl rfl
  m_Reader_next_word := dmOf c (x := "Reader") (m := "next_word") (q := "Reader.next_word") (st := (inClass (top 47) 1)) (i := 62) (j := 107) (k := 112) rfl rfl rfl
  m_Reader_number := dmOf c (x := "Reader") (m := "number") (q := "Reader.number") (st := (inClass (top 47) 2)) (i := 63) (j := 107) (k := 113) rfl rfl rfl
  m_Reader_bracketed := dmOf c (x := "Reader") (m := "bracketed") (q := "Reader.bracketed") (st := (inClass (top 47) 3)) (i := 64) (j := 107) (k := 114) rfl rfl rfl
  m_Reader_item := dmOf c (x := "Reader") (m := "item") (q := "Reader.item") (st := (inClass (top 47) 4)) (i := 65) (j := 107) (k := 115) rfl rfl rfl
  m_Reader_definition := dmOf c (x := "Reader") (m := "definition") (q := "Reader.definition") (st := (inClass (top 47) 5)) (i := 66) (j := 107) (k := 116) rfl rfl rfl
  m_Reader_whole := dmOf c (x := "Reader") (m := "whole") (q := "Reader.whole") (st := (inClass (top 47) 6)) (i := 67) (j := 107) (k := 117) rfl rfl rfl
  m_Picture_init := diOf X G c (x := "Picture") (q := "Picture.__init__") (st := (inClass (top 62) 0)) (i := 68) (j := 119) (k := 49) rfl rfl rfl
  m_Picture_read := dcOf X G c (x := "Picture") (m := "read") (q := "Picture.read") (st := (inClass (top 62) 1)) (i := 69) (k := 49) rfl rfl (exAt e 14) (exAt e 17)
  m_Floor_init := diOf X G c (x := "Floor") (q := "Floor.__init__") (st := (inClass (top 73) 0)) (i := 70) (j := 122) (k := 50) rfl rfl rfl
  m_Floor_blank := dmOf c (x := "Floor") (m := "blank") (q := "Floor.blank") (st := (inClass (top 73) 3)) (i := 71) (j := 121) (k := 127) rfl rfl rfl
  m_Floor_start := dmOf c (x := "Floor") (m := "start") (q := "Floor.start") (st := (inClass (top 73) 4)) (i := 72) (j := 121) (k := 128) rfl rfl rfl
  m_Floor_times_x := dmOf c (x := "Floor") (m := "times_x") (q := "Floor.times_x") (st := (inClass (top 73) 5)) (i := 73) (j := 121) (k := 129) rfl rfl rfl
  m_Floor_times_y := dmOf c (x := "Floor") (m := "times_y") (q := "Floor.times_y") (st := (inClass (top 73) 6)) (i := 74) (j := 121) (k := 130) rfl rfl rfl
  m_Floor_left := dmOf c (x := "Floor") (m := "left") (q := "Floor.left") (st := (inClass (top 73) 7)) (i := 75) (j := 121) (k := 131) rfl rfl rfl
  m_Floor_right := dmOf c (x := "Floor") (m := "right") (q := "Floor.right") (st := (inClass (top 73) 8)) (i := 76) (j := 121) (k := 132) rfl rfl rfl
  m_Floor_across := dmOf c (x := "Floor") (m := "across") (q := "Floor.across") (st := (inClass (top 73) 9)) (i := 77) (j := 121) (k := 133) rfl rfl rfl
  m_Floor_turned := dmOf c (x := "Floor") (m := "turned") (q := "Floor.turned") (st := (inClass (top 73) 10)) (i := 78) (j := 121) (k := 134) rfl rfl rfl
  m_Floor_walked := dmOf c (x := "Floor") (m := "walked") (q := "Floor.walked") (st := (inClass (top 73) 11)) (i := 79) (j := 121) (k := 135) rfl rfl rfl
  m_Floor_same := dmOf c (x := "Floor") (m := "same") (q := "Floor.same") (st := (inClass (top 73) 13)) (i := 80) (j := 121) (k := 136) rfl rfl rfl
  m_Floor_different := dmOf c (x := "Floor") (m := "different") (q := "Floor.different") (st := (inClass (top 73) 16)) (i := 81) (j := 121) (k := 137) rfl rfl rfl
end
section
variable {P : Program} {w : World} {K : PySem.W.Frag} {mg : Str → Option Value} {base : Heap} {aX aY aK aP aW : Addr}
/-- every def keeps its promise: the law too -/
theorem whole {fL : Addr} {fdL : FuncData} (F : FunD K "law" "law" (defArgs (top 83)) (defBody (top 83)) (defScope (top 83)) [] [] fL fdL) (D : Defs K mg) (T : Bn mg) (Z : XY K mg aX aY) (M : SM K w mg aK aP) (Q : PM K mg aW)
    (W : WC K (ga K "Walk")) (B : BC K (ga K "Block")) (R : RC K (ga K "Reader")) (O : PC K (ga K "Picture")) (L : LC K mg (ga K "Floor")) (S : FC K mg (ga K "Floors")) (hW : PySem.W.selfFirst K (ga K "Walk") = true) (hF : PySem.W.selfFirst K (ga K "Floors") = true) :
    FnOk P w K mg base CX0 10 fL fdL ["_law_script"] (spLaw K) := by
  have C1 := c_collected (P := P) (w := w) (base := base) D.f_collected T
  have Cpl := c_plus D.f_plus T C1
  have Cmi := c_minus D.f_minus T C1
  have Cti := c_times D.f_times T C1
  have Cst := c_step (P := P) (w := w) (base := base) D.f_step T
  have Cro := c_rows (P := P) (w := w) (base := base) D.f_rows_of T
  have Cte := c_terms D.f_terms_of T C1
  have Csw := c_swapped D.f_swapped T C1
  have Cne := c_negated D.f_negated T C1
  have Cdx := c_divX D.f_divided_in_x T C1 Cro Cst Cte
  have Cdi := c_div D.f_divided Cdx Csw
  have Con := c_one (P := P) (w := w) (base := base) D.f_one
  have Cle := c_left D.f_turned_left Z Cmi Cpl Cti Cne
  have Cri := c_right D.f_turned_right Z Cmi Cpl Cti Cne
  have Ctu := c_turned D.f_turned T C1 Cle Cri
  have Cgo := c_gone D.f_gone C1 Cne
  have CWk := c_WI (P := P) (w := w) (base := base) D.m_Walk_init T W
  have CAd := c_Add D.m_Walk_add W CWk
  have CNg := c_Neg D.m_Walk_neg T W CWk
  have CRe := c_Red D.m_Walk_reduced T W CWk
  have Cno := c_numOf D.f_number_of T W Con Cgo Ctu
  have Cnd := c_needed (P := P) (base := base) D.f_needed M
  have Cjo := c_joined D.f_joined hW CAd CNg CRe
  have Cpa := c_parts D.f_parts_of M W Cnd Cjo Cno
  have Cch := c_checked D.f_checked_floor Cnd
  have Csa := c_same D.f_same T Cch Cpa Cdi
  have Cco := c_cols (P := P) (w := w) (base := base) D.f_columns_of T
  have Cwc := c_wc (P := P) (w := w) (base := base) D.f_without_copies T
  have Clt := c_least D.f_least_table T Cco Cwc
  have Cgr := c_grown (P := P) (w := w) (base := base) D.f_grown T
  have Cal := c_along D.f_alongside T Cgr
  have CFI := c_FI D.m_Floors_init T S Clt
  have CEv := c_ev D.m_Floors_everywhere CFI
  have CNw := c_no D.m_Floors_nowhere CFI
  have CHs := c_has (P := P) (w := w) (base := base) D.m_Floors_contains T S
  have CAn := c_And D.m_Floors_and T S Cal CFI
  have COr := c_Or D.m_Floors_or T S Cal CFI
  have CSb := c_Sub D.m_Floors_sub T S Cal CFI
  have CEq := c_FEq (P := P) (w := w) (base := base) D.m_Floors_eq T S
  have CBo := c_FBool (P := P) (w := w) (base := base) D.m_Floors_bool T S
  have Cwh := c_where D.f_where T W Cpa Cjo Csw Cdx CFI
  have CFl := c_FlI D.m_Floor_init L Cst
  have CDf : MetR P w K mg base 6 (ga K "Floor") "different" (spDiffA K (ga K "Floor") (ga K "Walk")) := by
    refine Met.any (ι := PQ) (sp := fun i => spDiff K (ga K "Floor") (ga K "Walk") i.1.1 i.1.2) ⟨(3, 3), by decide⟩ fun i => ?_
    obtain ⟨⟨p, q⟩, hp, hp', hq, hq'⟩ := i
    have hp : 3 ≤ p := hp
    have hp' : p ≤ 60 := hp'
    have hq : 3 ≤ q := hq
    have hq' : q ≤ 60 := hq'
    have CJ := c_JR (P := P) (w := w) (base := base) (p := p) (q := q) (by omega) (by omega) D.f_joined_rows T
    have CV := c_van (P := P) (w := w) (base := base) (p := p) (q := q) (by omega) (by omega) D.f_vanish T
    have CB := c_blank (P := P) (w := w) (base := base) hp hq hp' hq' D.m_Floor_blank T L
    have CS := c_start hp hq hp' hq' D.m_Floor_start T L CB
    have CX := c_TX (P := P) (w := w) (base := base) hp hq hp' hq' D.m_Floor_times_x T L
    have CY := c_TY (P := P) (w := w) (base := base) hp hq hp' hq' D.m_Floor_times_y T L
    have CL := c_Left D.m_Floor_left CB CX CY CJ
    have CR := c_Right D.m_Floor_right CB CX CY CJ
    have CA := c_Across D.m_Floor_across CB CJ
    have CT := c_FTurned hp hq hp' hq' D.m_Floor_turned T L CL CR
    have CK := c_Walked hp hq D.m_Floor_walked W CT CA
    have CM := c_FSame hp hq D.m_Floor_same M hW CAd CNg CS CK CV
    exact c_Diff D.m_Floor_different T M CM
  have CPi := c_PI (P := P) (w := w) (base := base) (CW := ga K "Walk") D.m_Picture_init T O
  have CKn := c_known (P := P) (base := base) D.f_known_kind M
  have CPt := c_painted D.f_painted T O CKn Csa
  have CPr := c_pairs D.f_pairs_of T O Cwh
  have CWi := c_within D.f_within O hF CKn Cwh CEv CNw CAn COr
  have CAl := c_alike D.f_alike hF CKn CWi CEv CAn
  have CCt := c_counts D.f_counts T hF CKn CPr CEv CNw CAn COr CSb CBo
  have Cin := c_isNum (P := P) (w := w) (base := base) D.f_is_number T
  have Cnm := c_isName (P := P) (w := w) (base := base) D.f_is_name T Q
  have CBI := c_BI (P := P) (w := w) (base := base) D.m_Block_init B
  have Cde := c_deed (mg := mg) (P := P) (w := w) (base := base) D.m_Block_put_deed B
  have Cbl := c_block (mg := mg) (P := P) (w := w) (base := base) D.m_Block_put_block B
  have CRI := c_RI (P := P) (w := w) (base := base) D.m_Reader_init R
  have Cnx := c_next (P := P) (w := w) (base := base) D.m_Reader_next_word T R
  have Cnu := c_number D.m_Reader_number T R Cin Cnx
  have CB0 : Met P w K mg base 1 (ga K "Reader") "bracketed" (fun _ _ _ _ => False) := D.m_Reader_bracketed.met scBrk (fun _ _ _ _ _ _ us hl => match us, hl with | [_, _, _], _ => rfl) (fun _ _ _ _ h => h.elim) (fun _ _ _ _ _ _ _ _ _ _ h => h.elim)
  have CD0 : Met P w K mg base 1 (ga K "Reader") "definition" (fun _ _ _ _ => False) := D.m_Reader_definition.met scDef (fun _ _ _ _ _ _ us hl => match us, hl with | [_], _ => rfl) (fun _ _ _ _ h => h.elim) (fun _ _ _ _ _ _ _ _ _ _ h => h.elim)
  have CI1 := c_item (k := 2) D.m_Reader_item T R B Cnx Cnu Cde Cbl CB0 CD0 (by decide) (by decide) (by decide)
  have Cb0 := c_brk (n := 0) D.m_Reader_bracketed R Q Cnx CBI (CI1.imp fun _ _ _ _ h => it1_of h)
  have Cb1 := c_brk (n := 1) D.m_Reader_bracketed R Q Cnx CBI (CI1.imp fun _ _ _ _ h => it1_of h)
  have Cdf := c_def D.m_Reader_definition R Cnx Cnm Cb0
  have CI2 := c_item (k := 5) D.m_Reader_item T R B Cnx Cnu Cde Cbl Cb1 Cdf (by decide) (by decide) (by decide)
  have CWo := c_whole D.m_Reader_whole T R CBI (CI2.imp fun _ _ _ _ h => it2_of h)
  have CDn := c_done (P := P) (w := w) (base := base) D.f_done T B 3
  have CDs := c_deeds D.f_deeds B Q CRI CWo CDn
  have CRd := c_read D.m_Picture_read CDs CWk CPi
  have Cce := c_cell (P := P) (w := w) (base := base) D.f_law_cell T
  have Cdr := c_draws (P := P) (w := w) (base := base) D.f_law_draws T
  have Ctx := c_text D.f_law_text T Cce Cdr
  have Cpg := c_program D.f_law_program T Ctx
  exact c_law F T O L W hW Cce Cdr Cpg CRd CFl CPt CDf CCt CHs CPi CAl CEv CEq CWk CAd
end
theorem facts {P : Program} {w : World} {K : PySem.W.Frag} {h : Heap} {mg : Str → Option Value} {f : Addr} (X : K.In h) (G : h.Ns mainGlobals mg) (hfa : mg ("law" : Str) = some (.ref f)) (z : obsZ K = valZ w) :
    ∃ fd : FuncData, (∀ (s : Shared) (v : Value), BindsTo s fd ⟨[v], []⟩ [("_law_script", v)]) ∧ ∀ base : Heap, FnOk P w K mg base CX0 10 f fd ["_law_script"] (spLaw K) := by
  have c : He5.SaysA faL fnL K := congrArg (fun z : AlZ => z.1) z
  have e : (exS K).all id = true := congrArg (fun z : AlZ => z.2.1) z
  have t : tsL.map (fun t => He.dicW K (t.1 K)) = tsL.map fun t => some (He.keysIn w.params t.2) := congrArg (fun z : AlZ => z.2.2) z
  have d : ∃ es n, KDict K w (ga K "PARTS") es n := He.dicW_ok (List.cons.inj t).1
  obtain ⟨fd, F⟩ := c.def_ 44 (d := dF "law" 83) rfl
  have e9 := hfa.symm.trans (He.glo_ok X G (c.fact 44 (f := .glo "law") rfl))
  cases e9
  have b := FunD.bindsA (ps := ["_law_script"]) F fun _ _ _ _ _ _ us hl => match us, hl with | [_], _ => rfl
  exact ⟨fd, fun s v => b s [v] rfl, fun base => whole F (defsOf X G c e) (bnOf X G c) (xyOf X G c e) (smOf X G c e d) (pmOf X G c e) (wcOf c) (bcOf c) (rcOf c) (pcOf c) (lcOf X G c) (fcOf X G c e) (exAt e 0) (exAt e 1)⟩
end W5
open PySem PySem.W PySem.Calls PyProof.Rows
set_option maxRecDepth 100000 in
set_option maxHeartbeats 0 in
theorem PySem.Challenge.cw_whichfloor_k05_whole_pictures_of_program_holds : PySem.Challenge.rw_whichfloor_k05_whole_pictures_of_program.Holds := by
  w_on; o_law
  refine HandSHeadRun.head_any (r := HeadT.R) (q := HeadT.qv) (H := W5.hookZ) (ob := HeadT.obZ) (M := 20000) (loose := HeadT.names) (d := HandSHeadRun.topDef HeadT.R.prog 83) (kwd := []) HeadT.obZ_eq
    (by kernel_rfl) (fun s => by kernel_rfl) HeadT.run (by kernel_rfl) (by kernel_rfl) (by kernel_rfl) (by rfl) (by first | assumption | decide +kernel) (by decide +kernel) ⟨rfl, rfl, rfl, rfl, rfl, by decide +kernel⟩ ?hw ?hc
  case hw => w_witness2
  case hc =>
    refine L2.walk_ofE (l := PySem.Challenge.rw_whichfloor_k05_whole_pictures_of_program) (n := 63) (k := 10) (x := "_law_script") (CX := L2.CX0) rfl (by decide) (by kernel_rfl) ⟨rfl, by decide, by decide⟩ ?F (fun _ _ _ _ z => z)
    intro w mg fa h Y G hmg0
    obtain ⟨K, KX, c⟩ := Y
    have hmg : mg ("law" : PySem.Str) = some (.ref fa) := by
      have e : (HandSHeadRun.topDef HeadT.R.prog 83).name = ("law" : PySem.Str) := by kernel_rfl
      rw [← e]
      exact hmg0
    obtain ⟨fd, hb, hF⟩ := W5.facts (P := (PySem.Challenge.rw_whichfloor_k05_whole_pictures_of_program).prog) (w := w) KX G hmg c
    exact ⟨K, fd, W5.spLaw K, KX, hb, fun H a ns hl _ hS => ⟨a, ns, rfl, hS, fun _ => rfl⟩, fun base _ _ => hF base⟩
