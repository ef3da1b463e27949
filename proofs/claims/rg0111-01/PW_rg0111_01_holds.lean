import PyProof.Rows.All
import Wide.All
import OpenK.AllK
import Wide.FinOn
import PyProof.DictKinds
import PyProof.EqLayable
import PyProof.DictStraight
import PyProof.DictRoads
import KE.KEqDict
import PyProof.SliceMore
import PyProof.SliceStr2
import PyProof.ListOps
import KE.KDictSum
import KE.LcSums
import OpenK.KRaise
import PyProof.Rows.SortStr
import PyProof.Rows.MinMaxN
import PyProof.TupleOfSeq
import PyProof.AttrMissHeap
import KE.KDictOf
import PyProof.ZipIter
import PyProof.Draws
import PyProof.TupleIter
import PyProof.WalksMore
import PyProof.Rows.SetFrom
import PyProof.MeetsIn
import PyProof.AutoSeq1
import PyProof.MeetsSeq
import PyProof.EnumMake
import PyProof.RangeFor
import PyProof.ForAny
import PyProof.EnumFor
import PyProof.CompUse
import PyProof.RulesAssignMore
import PyProof.Rows.TupIter
import PyProof.CompFree
import PyProof.CompMap
import PyProof.Rows.Nodes
import Lean
import PySem.Challenge.RW_rg0111_01
set_option linter.all false
set_option bootstrap.genMatcherCode false
set_option Elab.async false
set_option maxRecDepth 100000
section
open PySem PySem.W PyProof.Rows PySem.Calls
set_option maxHeartbeats 0
namespace Mine.Internal
/-- the text without its rows that name the file -/
noncomputable def q39 : Program := { PySem.Challenge.pw_rg0111_01 with main := { PySem.Challenge.pw_rg0111_01.main with body := [1, 2, 4, 5, 6, 8, 9, 10, 11, 12, 13, 14, 15, 17, 18, 19, 20, 21, 22, 23].filterMap fun i => PySem.Challenge.pw_rg0111_01.main.body[i]? } }
/-- the names of the top, and the tuple of names -/
noncomputable def kK (P : Params) : Frag :=
  [(3, { cls := Value.type "dict", data := Data.dict #[
    ⟨PyData.keyHash P (Str.ofString "__name__"), Value.str (Str.ofString "__name__") 165, Value.str (Str.ofString "law_rg0111_01") 321⟩,
    ⟨PyData.keyHash P (Str.ofString "__doc__"), Value.str (Str.ofString "__doc__") 166, Value.none⟩,
    ⟨PyData.keyHash P (Str.ofString "__package__"), Value.str (Str.ofString "__package__") 167, Value.none⟩,
    ⟨PyData.keyHash P (Str.ofString "__loader__"), Value.str (Str.ofString "__loader__") 168, Value.builtin "__main__.__loader__#opaque"⟩,
    ⟨PyData.keyHash P (Str.ofString "__spec__"), Value.str (Str.ofString "__spec__") 169, Value.none⟩,
    ⟨PyData.keyHash P (Str.ofString "__annotations__"), Value.str (Str.ofString "__annotations__") 170, Value.ref 6⟩,
    ⟨PyData.keyHash P (Str.ofString "__builtins__"), Value.str (Str.ofString "__builtins__") 171, Value.ref 4⟩,
    ⟨PyData.keyHash P (Str.ofString "__file__"), Value.str (Str.ofString "__file__") 173, Value.str (Str.ofString "/claim/cut.py") 172⟩,
    ⟨PyData.keyHash P (Str.ofString "__cached__"), Value.str (Str.ofString "__cached__") 174, Value.none⟩,
    ⟨PyData.keyHash P (Str.ofString "HeapError"), Value.str (Str.ofString "HeapError") 226, Value.ref 40⟩,
    ⟨PyData.keyHash P (Str.ofString "LimitFault"), Value.str (Str.ofString "LimitFault") 242, Value.ref 53⟩,
    ⟨PyData.keyHash P (Str.ofString "is_variable"), Value.str (Str.ofString "is_variable") 251, Value.ref 62⟩,
    ⟨PyData.keyHash P (Str.ofString "variables"), Value.str (Str.ofString "variables") 257, Value.ref 67⟩,
    ⟨PyData.keyHash P (Str.ofString "parts"), Value.str (Str.ofString "parts") 263, Value.ref 72⟩,
    ⟨PyData.keyHash P (Str.ofString "MOST_SIZE"), Value.str (Str.ofString "MOST_SIZE") 267, Value.int 10000 266⟩,
    ⟨PyData.keyHash P (Str.ofString "MOST_LEVELS"), Value.str (Str.ofString "MOST_LEVELS") 269, Value.int 200 268⟩,
    ⟨PyData.keyHash P (Str.ofString "filled"), Value.str (Str.ofString "filled") 275, Value.ref 77⟩,
    ⟨PyData.keyHash P (Str.ofString "followed"), Value.str (Str.ofString "followed") 283, Value.ref 84⟩,
    ⟨PyData.keyHash P (Str.ofString "is_within"), Value.str (Str.ofString "is_within") 295, Value.ref 91⟩,
    ⟨PyData.keyHash P (Str.ofString "begun"), Value.str (Str.ofString "begun") 308, Value.ref 98⟩,
    ⟨PyData.keyHash P (Str.ofString "in_turn"), Value.str (Str.ofString "in_turn") 314, Value.ref 103⟩,
    ⟨PyData.keyHash P (Str.ofString "worked_out"), Value.str (Str.ofString "worked_out") 320, Value.ref 108⟩,
    ⟨PyData.keyHash P (Str.ofString "_law_names"), Value.str (Str.ofString "_law_names") 329, Value.ref 109⟩,
    ⟨PyData.keyHash P (Str.ofString "_law_peg"), Value.str (Str.ofString "_law_peg") 338, Value.ref 116⟩,
    ⟨PyData.keyHash P (Str.ofString "_law_put"), Value.str (Str.ofString "_law_put") 349, Value.ref 123⟩,
    ⟨PyData.keyHash P (Str.ofString "_law_leaves"), Value.str (Str.ofString "_law_leaves") 355, Value.ref 128⟩,
    ⟨PyData.keyHash P (Str.ofString "_law_whole"), Value.str (Str.ofString "_law_whole") 361, Value.ref 133⟩,
    ⟨PyData.keyHash P (Str.ofString "_law_is_right"), Value.str (Str.ofString "_law_is_right") 367, Value.ref 138⟩,
    ⟨PyData.keyHash P (Str.ofString "law"), Value.str (Str.ofString "law") 373, Value.ref 143⟩] 29 }),
   (109, { cls := Value.type "tuple", data := Data.seq #[Value.str (Str.ofString "?m") 323, Value.str (Str.ofString "?c") 324, Value.str (Str.ofString "?x") 325, Value.str (Str.ofString "?b") 326, Value.str (Str.ofString "?t") 327, Value.str (Str.ofString "?k") 328] })]
theorem kA : ∀ P, [3, 109] = (kK P).map (·.1) := fun _ => by kernel_rfl
noncomputable def kX (s : Shared) : Bool := xlAt q39 [] s && recOk (RowW.records PySem.Challenge.rw_rg0111_01.row.toRowW) s
theorem left0 : LeftO PySem.Challenge.rw_rg0111_01.row.prog q39 [] kX (Hook.obs (kHook kK [3, 109] kA)) (Hook.val (kHook kK [3, 109] kA)) 2094 := by
  intro w
  kernel_rfl
theorem said0 : PySem.Challenge.rw_rg0111_01.wellSaid = true := by kernel_rfl
theorem ok0 : (chainsOk q39 && opensWell PySem.Challenge.rw_rg0111_01.row.prog && (frees PySem.Challenge.rw_rg0111_01.row.toRowW && PySem.Challenge.rw_rg0111_01.row.within.isEmpty)) = true := by kernel_rfl
end Mine.Internal
end

section
namespace Mine.Internal
/-- linear terms -/
inductive LnT where
  | v (i : Nat)
  | n (k : Nat)
  | a (x y : LnT)
  | m (k : Nat) (x : LnT)
  | w (x : LnT) (k : Nat)
/-- hypotheses lhs ≤ rhs, each as often as it is used -/
inductive LnH where
  | e
  | c (k : Nat) (x y : LnT) (r : LnH)
namespace LnT
noncomputable def nth : List Nat → Nat → Nat
  | [], _ => 0
  | x :: r, i => Nat.rec x (fun j _ => nth r j) i
noncomputable def den (c : List Nat) (t : LnT) : Nat := LnT.rec (nth c) (fun k => k) (fun _ _ p q => p + q) (fun k _ p => k * p) (fun _ k p => p * k) t
/-- the coefficients, that of 1 ahead -/
noncomputable def unit (i : Nat) : List Nat := Nat.rec [1] (fun _ p => 0 :: p) i
noncomputable def add : List Nat → List Nat → List Nat
  | [], y => y
  | x :: r, y => match y with
    | [] => x :: r
    | z :: s => Nat.add x z :: add r s
noncomputable def mul (k : Nat) : List Nat → List Nat
  | [] => []
  | x :: r => Nat.mul k x :: mul k r
noncomputable def co (t : LnT) : List Nat := LnT.rec (fun i => 0 :: unit i) (fun k => [k]) (fun _ _ p q => add p q) (fun k _ p => mul k p) (fun _ k p => mul k p) t
noncomputable def le : List Nat → List Nat → Bool
  | [], _ => true
  | x :: r, y => match y with
    | [] => Nat.beq x 0 && le r []
    | z :: s => Nat.ble x z && le r s
noncomputable def dot : List Nat → List Nat → Nat
  | [], _ => 0
  | x :: r, y => match y with
    | [] => 0
    | z :: s => x * z + dot r s
theorem dot_add : ∀ (a b c : List Nat), dot (add a b) c = dot a c + dot b c
  | [], b, c => (Nat.zero_add _).symm
  | x :: r, [], c => rfl
  | x :: r, z :: s, [] => rfl
  | x :: r, z :: s, y :: c => by
    show (x + z) * y + dot (add r s) c = (x * y + dot r c) + (z * y + dot s c)
    rw [dot_add r s c, Nat.add_mul, Nat.add_add_add_comm]
theorem dot_mul (k : Nat) : ∀ (a c : List Nat), dot (mul k a) c = k * dot a c
  | [], c => rfl
  | x :: r, [] => rfl
  | x :: r, y :: c => by
    show (k * x) * y + dot (mul k r) c = k * (x * y + dot r c)
    rw [dot_mul k r c, Nat.mul_add, Nat.mul_assoc]
theorem dot_unit : ∀ (i : Nat) (c : List Nat), dot (unit i) c = nth c i
  | 0, [] => rfl
  | 0, x :: c => by show 1 * x + 0 = x; rw [Nat.one_mul]; rfl
  | i + 1, [] => rfl
  | i + 1, x :: c => by show 0 * x + dot (unit i) c = nth c i; rw [dot_unit i c, Nat.zero_mul, Nat.zero_add]
theorem dot_le : ∀ (a b c : List Nat), le a b = true → dot a c ≤ dot b c
  | [], b, c, _ => Nat.zero_le _
  | x :: r, [], [], _ => Nat.le_refl _
  | x :: r, [], y :: c, h => by
    have h := Bool.and_eq_true_iff.mp h
    have hx : x = 0 := Nat.eq_of_beq_eq_true h.1
    have := dot_le r [] c h.2
    show x * y + dot r c ≤ 0
    rw [hx, Nat.zero_mul, Nat.zero_add]; cases c <;> exact this
  | x :: r, z :: s, [], _ => Nat.le_refl _
  | x :: r, z :: s, y :: c, h => by
    have h := Bool.and_eq_true_iff.mp h
    exact Nat.add_le_add (Nat.mul_le_mul_right y (Nat.le_of_ble_eq_true h.1)) (dot_le r s c h.2)
theorem den_eq (c : List Nat) (t : LnT) : den c t = dot (co t) (1 :: c) := by
  induction t with
  | v i => show nth c i = 0 * 1 + dot (unit i) c; rw [dot_unit, Nat.zero_mul, Nat.zero_add]
  | n k => show k = k * 1 + 0; rw [Nat.mul_one]; rfl
  | a x y p q => show den c x + den c y = dot (add (co x) (co y)) (1 :: c); rw [dot_add, p, q]
  | m k x p => show k * den c x = dot (mul k (co x)) (1 :: c); rw [dot_mul, p]
  | w x k p => show den c x * k = dot (mul k (co x)) (1 :: c); rw [dot_mul, p, Nat.mul_comm]
end LnT
namespace LnH
noncomputable def sL (h : LnH) : List Nat := LnH.rec [] (fun k x _ _ p => LnT.add (LnT.mul k (LnT.co x)) p) h
noncomputable def sR (h : LnH) : List Nat := LnH.rec [] (fun k _ y _ p => LnT.add (LnT.mul k (LnT.co y)) p) h
noncomputable def imp (c : List Nat) (h : LnH) (p : Prop) : Prop := LnH.rec p (fun _ x y _ q => LnT.den c x ≤ LnT.den c y → q) h
theorem imp_of {c : List Nat} {p : Prop} : ∀ (h : LnH), (LnT.dot (sL h) (1 :: c) ≤ LnT.dot (sR h) (1 :: c) → p) → imp c h p
  | .e, f => f (Nat.le_refl _)
  | .c k x y r, f => fun e => imp_of r fun g => f (by
    show LnT.dot (LnT.add (LnT.mul k (LnT.co x)) (sL r)) (1 :: c) ≤ LnT.dot (LnT.add (LnT.mul k (LnT.co y)) (sR r)) (1 :: c)
    rw [LnT.dot_add, LnT.dot_add, LnT.dot_mul, LnT.dot_mul]
    rw [LnT.den_eq, LnT.den_eq] at e
    exact Nat.add_le_add (Nat.mul_le_mul_left k e) g)
end LnH
theorem lin (c : List Nat) (h : LnH) (l r : LnT) (e : LnT.le (LnT.add (LnT.co l) h.sR) (LnT.add (LnT.co r) h.sL) = true) : h.imp c (l.den c ≤ r.den c) :=
  LnH.imp_of h fun g => by
    have := LnT.dot_le _ _ (1 :: c) e
    rw [LnT.dot_add, LnT.dot_add] at this
    rw [LnT.den_eq, LnT.den_eq]
    exact Nat.le_of_add_le_add_right (Nat.le_trans this (Nat.add_le_add_left g _))
/-- no such numbers -/
theorem lin0 (c : List Nat) (h : LnH) (e : LnT.le (LnT.add [1] h.sR) h.sL = true) : h.imp c False :=
  LnH.imp_of h fun g => by
    have := LnT.dot_le _ _ (1 :: c) e
    rw [LnT.dot_add] at this
    exact Nat.not_succ_le_self _ (Nat.le_trans (Nat.le_of_eq (Nat.add_comm _ 1)) (Nat.le_trans (show 1 + _ ≤ _ from this) g))
theorem ln_sub_a (a b : Nat) : a ≤ (a - b) + b := by omega
theorem ln_sub_b {a b : Nat} (h : b ≤ a) : (a - b) + b ≤ a := by omega
end Mine.Internal
end

section
namespace Mine.Internal
theorem om1 {x0 x1 x2 x3 : Nat} : x2 ≤ x3 → x3 ≤ x1 → x0 = x2 → x0 ≤ x1 := fun h0 h1 h2 => (lin [x2, x3, x1, x0] (.c 1 (.v 0) (.v 1) (.c 1 (.v 1) (.v 2) (.c 1 (.v 3) (.v 0) .e))) (.v 3) (.v 2) rfl h0 h1 (Nat.le_of_eq h2))
theorem om3 {x0 : Nat} : x0 ≤ 2 → x0 ≤ 100000 := fun h0 => (lin [x0] (.c 1 (.v 0) (.n 2) .e) (.v 0) (.n 100000) rfl h0)
theorem om4 {x0 x1 : Nat} : x0 + 1 ≤ x1 + 1 → x0 ≤ x1 := fun h0 => (lin [x0, x1] (.c 1 (.a (.v 0) (.n 1)) (.a (.v 1) (.n 1)) .e) (.v 0) (.v 1) rfl h0)
theorem om5 {x0 x1 : Nat} : x0 < x1 → x0 + 1 ≤ x1 := fun h0 => (lin [x0, x1] (.c 1 (.a (.v 0) (.n 1)) (.v 1) .e) (.a (.v 0) (.n 1)) (.v 1) rfl h0)
theorem om7 {x0 : Nat} : x0 + 1 ≠ x0 := fun n => (lin0 [x0] (.c 1 (.a (.v 0) (.n 1)) (.v 0) .e) rfl (Nat.le_of_eq n))
theorem om8 {x0 : Nat} : 0 ≤ (x0 : Int) := by omega
theorem om9 {x0 : Nat} : x0 ≤ 1000 → (x0 : Int) ≤ 1000 := by omega
theorem om10 {x0 x1 x2 x3 : Nat} : x2 ≤ x3 → x0 = x2 → x3 ≤ x1 → x0 ≤ x1 := fun h0 h1 h2 => (lin [x2, x3, x0, x1] (.c 1 (.v 0) (.v 1) (.c 1 (.v 2) (.v 0) (.c 1 (.v 1) (.v 3) .e))) (.v 2) (.v 3) rfl h0 (Nat.le_of_eq h1) h2)
theorem om11 {x0 : Nat} : x0 ≤ 6 → x0 < 100000 := fun h0 => (lin [x0] (.c 1 (.v 0) (.n 6) .e) (.a (.v 0) (.n 1)) (.n 100000) rfl h0)
theorem om12 {x0 : Nat} : x0 + 1 ≠ x0 + 2 := fun n => (lin0 [x0] (.c 1 (.a (.v 0) (.n 2)) (.a (.v 0) (.n 1)) .e) rfl (Nat.le_of_eq (n).symm))
theorem om13 {x0 x1 : Nat} : x0 ≤ x1 → x0 ≤ x1 + 1 := fun h0 => (lin [x0, x1] (.c 1 (.v 0) (.v 1) .e) (.v 0) (.a (.v 1) (.n 1)) rfl h0)
theorem om14 {x0 : Nat} : 1 ≤ 2 * (x0 : Int) + 1 := by omega
theorem om15 {x0 x1 : Nat} : x1 ≤ 6 → x0 < x1 → x0 ≤ 1000 := fun h0 h1 => (lin [x1, x0] (.c 1 (.v 0) (.n 6) (.c 1 (.a (.v 1) (.n 1)) (.v 0) .e)) (.v 1) (.n 1000) rfl h0 h1)
theorem om16 {x0 : Nat} : x0 ≤ 6 → x0 ≤ 100000 := fun h0 => (lin [x0] (.c 1 (.v 0) (.n 6) .e) (.v 0) (.n 100000) rfl h0)
theorem om17 {x0 : Nat} : x0 ≤ 6 → x0 ≤ 1000 := fun h0 => (lin [x0] (.c 1 (.v 0) (.n 6) .e) (.v 0) (.n 1000) rfl h0)
theorem om18 {x0 x1 : Nat} : ¬x1 < x0 → x0 ≤ x1 := fun h0 => (lin [x0, x1] (.c 1 (.v 0) (.v 1) .e) (.v 0) (.v 1) rfl (Nat.le_of_not_lt h0))
theorem om19 {x0 : Nat} : x0 ≤ 2 → x0 ≤ 99999 := fun h0 => (lin [x0] (.c 1 (.v 0) (.n 2) .e) (.v 0) (.n 99999) rfl h0)
theorem om20 {x0 x1 : Nat} : x1 + 1 ≤ x0 → x0 = x0 - 1 + 1 := fun h0 => (Nat.le_antisymm (lin [x1, x0, x0 - 1] (.c 1 (.v 1) (.a (.v 2) (.n 1)) .e) (.v 1) (.a (.v 2) (.n 1)) rfl (ln_sub_a x0 1)) (lin [x1, x0, x0 - 1] (.c 1 (.a (.v 2) (.n 1)) (.v 1) .e) (.a (.v 2) (.n 1)) (.v 1) rfl (ln_sub_b (lin [x1, x0, x0 - 1] (.c 1 (.a (.v 0) (.n 1)) (.v 1) .e) (.n 1) (.v 1) rfl h0))))
theorem om21 {x0 x1 : Nat} : x0 = x1 → x0 ≤ x1 := fun h0 => (lin [x0, x1] (.c 1 (.v 0) (.v 1) .e) (.v 0) (.v 1) rfl (Nat.le_of_eq h0))
theorem om22 {x0 x1 x2 : Nat} : x0 < x1 + (x2 + 1) → x0 < x1 + 1 + x2 := fun h0 => (lin [x0, x1, x2] (.c 1 (.a (.v 0) (.n 1)) (.a (.v 1) (.a (.v 2) (.n 1))) .e) (.a (.v 0) (.n 1)) (.a (.a (.v 1) (.n 1)) (.v 2)) rfl h0)
theorem om23 {x0 : Nat} : x0 + 2 ≠ x0 + 1 := fun n => (lin0 [x0] (.c 1 (.a (.v 0) (.n 2)) (.a (.v 0) (.n 1)) .e) rfl (Nat.le_of_eq n))
theorem om24 {x0 : Nat} : x0 + 2 ≠ x0 := fun n => (lin0 [x0] (.c 1 (.a (.v 0) (.n 2)) (.v 0) .e) rfl (Nat.le_of_eq n))
theorem om25 {x0 x1 x2 : Nat} : x2 < x1 + 1 → x0 < x2 → x0 < x1 := fun h0 h1 => (lin [x2, x1, x0] (.c 1 (.a (.v 0) (.n 1)) (.a (.v 1) (.n 1)) (.c 1 (.a (.v 2) (.n 1)) (.v 0) .e)) (.a (.v 2) (.n 1)) (.v 1) rfl h0 h1)
theorem om26 {x0 : Nat} : x0 ≤ x0 + 1 := (lin [x0] .e (.v 0) (.a (.v 0) (.n 1)) rfl)
theorem om27 {x0 : Nat} : x0 ≤ 1000 → x0 ≤ 100000 := fun h0 => (lin [x0] (.c 1 (.v 0) (.n 1000) .e) (.v 0) (.n 100000) rfl h0)
theorem om28 {x0 : Nat} : x0 + 1 + 1 ≤ x0 + 3 := (lin [x0] .e (.a (.a (.v 0) (.n 1)) (.n 1)) (.a (.v 0) (.n 3)) rfl)
theorem om29 {x0 x1 x2 : Nat} : 4 * x1 + x2 + 1 ≤ x0 → x0 = x0 - 1 + 1 := fun h0 => (Nat.le_antisymm (lin [x1, x2, x0, x0 - 1] (.c 1 (.v 2) (.a (.v 3) (.n 1)) .e) (.v 2) (.a (.v 3) (.n 1)) rfl (ln_sub_a x0 1)) (lin [x1, x2, x0, x0 - 1] (.c 1 (.a (.v 3) (.n 1)) (.v 2) .e) (.a (.v 3) (.n 1)) (.v 2) rfl (ln_sub_b (lin [x1, x2, x0, x0 - 1] (.c 1 (.a (.a (.m 4 (.v 0)) (.v 1)) (.n 1)) (.v 2) .e) (.n 1) (.v 2) rfl h0))))
theorem om30 {x0 : Nat} : x0 ≤ 1 → x0 ≤ 2 := fun h0 => (lin [x0] (.c 1 (.v 0) (.n 1) .e) (.v 0) (.n 2) rfl h0)
theorem om31 {x0 : Nat} : x0 ≤ 6 → x0 < 90000 := fun h0 => (lin [x0] (.c 1 (.v 0) (.n 6) .e) (.a (.v 0) (.n 1)) (.n 90000) rfl h0)
theorem om32 {x0 x1 : Nat} : x1 < x0 → ¬x0 = x1 := fun h0 => fun n => (lin0 [x1, x0] (.c 1 (.a (.v 0) (.n 1)) (.v 1) (.c 1 (.v 1) (.v 0) .e)) rfl h0 (Nat.le_of_eq n))
theorem om33 {x0 : Nat} : 0 < x0 → 0 < (x0 : Int) := by omega
theorem om34 {x0 : Nat} : x0 ≤ 1000 → x0 < 10000000 := fun h0 => (lin [x0] (.c 1 (.v 0) (.n 1000) .e) (.a (.v 0) (.n 1)) (.n 10000000) rfl h0)
theorem om35 {x0 : Nat} : x0 ≤ 2 → x0 < 90000 := fun h0 => (lin [x0] (.c 1 (.v 0) (.n 2) .e) (.a (.v 0) (.n 1)) (.n 90000) rfl h0)
theorem om37 {x0 x1 x2 : Nat} : x0 + (x1 + 1) < x2 → x0 + 1 + x1 < x2 := fun h0 => (lin [x0, x1, x2] (.c 1 (.a (.a (.v 0) (.a (.v 1) (.n 1))) (.n 1)) (.v 2) .e) (.a (.a (.a (.v 0) (.n 1)) (.v 1)) (.n 1)) (.v 2) rfl h0)
theorem om38 {x0 x1 x2 x3 x4 x5 : Nat} : x3 + x4 ≤ x5 → x0 = x3 → x1 = x4 → x5 ≤ x2 → x0 + x1 ≤ x2 := fun h0 h1 h2 h3 => (lin [x3, x4, x5, x0, x1, x2] (.c 1 (.a (.v 0) (.v 1)) (.v 2) (.c 1 (.v 3) (.v 0) (.c 1 (.v 4) (.v 1) (.c 1 (.v 2) (.v 5) .e)))) (.a (.v 3) (.v 4)) (.v 5) rfl h0 (Nat.le_of_eq h1) (Nat.le_of_eq h2) h3)
theorem om39 {x0 x1 x2 : Nat} {x3 x4 : Prop} : x3 ∧ x0 ≤ x2 → x4 ∧ x1 ≤ x2 → max x0 x1 ≤ x2 := fun h0 h1 => (Nat.max_le.mpr ⟨(lin [x0, x2, x1, max x0 x1] (.c 1 (.v 0) (.v 1) .e) (.v 0) (.v 1) rfl (h0).2), (lin [x0, x2, x1, max x0 x1] (.c 1 (.v 2) (.v 1) .e) (.v 2) (.v 1) rfl (h1).2)⟩)
theorem om40 {x0 x1 x2 : Nat} : x0 + 8 * x2 + 400 < x1 → x0 + 1 + 100 < x1 := fun h0 => (lin [x0, x2, x1] (.c 1 (.a (.a (.a (.v 0) (.m 8 (.v 1))) (.n 400)) (.n 1)) (.v 2) .e) (.a (.a (.a (.v 0) (.n 1)) (.n 100)) (.n 1)) (.v 2) rfl h0)
theorem om41 {x0 : Int} : x0.natAbs < 2 ^ 40 → x0 < 2 ^ 63 := by omega
theorem om42 {x0 : Int} {x1 : Nat} : x0 < 0 → max (x0 + (x1 : Int)) 0 = (((x1 - (-x0).toNat) : Nat) : Int) := by omega
theorem om43 {x0 : Int} {x1 : Nat} : ¬x0 < 0 → min x0 (x1 : Int) = (((min x0.toNat x1) : Nat) : Int) := by omega
theorem om44 {x0 : Int} : 0 ≤ x0 → ¬x0 < 0 := by omega
theorem om45 {x0 x1 x2 x3 : Nat} : x2 < x3 → x0 = x2 → x3 ≤ x1 → x0 ≤ x1 := fun h0 h1 h2 => (lin [x2, x3, x0, x1] (.c 1 (.a (.v 0) (.n 1)) (.v 1) (.c 1 (.v 2) (.v 0) (.c 1 (.v 1) (.v 3) .e))) (.v 2) (.v 3) rfl h0 (Nat.le_of_eq h1) h2)
theorem om46 {x0 : Nat} : x0 < 64 → x0 ≤ 16777216 := fun h0 => (lin [x0] (.c 1 (.a (.v 0) (.n 1)) (.n 64) .e) (.v 0) (.n 16777216) rfl h0)
theorem om47 {x0 x1 : Nat} : x1 < 64 → x0 = x1 → x0 < 64 := fun h0 h1 => (lin [x1, x0] (.c 1 (.a (.v 0) (.n 1)) (.n 64) (.c 1 (.v 1) (.v 0) .e)) (.a (.v 1) (.n 1)) (.n 64) rfl h0 (Nat.le_of_eq h1))
theorem om48 {x0 x1 : Nat} : x0 < x1 → x0 ≤ x1 := fun h0 => (lin [x0, x1] (.c 1 (.a (.v 0) (.n 1)) (.v 1) .e) (.v 0) (.v 1) rfl h0)
theorem om49 {x0 x1 : Nat} : x1 = x0 + 5 → x0 < x1 := fun h0 => (lin [x1, x0] (.c 1 (.a (.v 1) (.n 5)) (.v 0) .e) (.a (.v 1) (.n 1)) (.v 0) rfl (Nat.le_of_eq (h0).symm))
theorem om50 {x0 x1 : Nat} : x1 = x0 + 5 → x0 + 1 < x1 := fun h0 => (lin [x1, x0] (.c 1 (.a (.v 1) (.n 5)) (.v 0) .e) (.a (.a (.v 1) (.n 1)) (.n 1)) (.v 0) rfl (Nat.le_of_eq (h0).symm))
theorem om51 {x0 x1 : Nat} : x1 = x0 + 5 → x0 + 4 < x1 := fun h0 => (lin [x1, x0] (.c 1 (.a (.v 1) (.n 5)) (.v 0) .e) (.a (.a (.v 1) (.n 4)) (.n 1)) (.v 0) rfl (Nat.le_of_eq (h0).symm))
theorem om52 {x0 x1 : Nat} : x1 = x0 + 5 → x0 + 3 < x1 := fun h0 => (lin [x1, x0] (.c 1 (.a (.v 1) (.n 5)) (.v 0) .e) (.a (.a (.v 1) (.n 3)) (.n 1)) (.v 0) rfl (Nat.le_of_eq (h0).symm))
theorem om53 {x0 : Nat} : x0 ≤ x0 + 3 := (lin [x0] .e (.v 0) (.a (.v 0) (.n 3)) rfl)
theorem om54 {x0 x1 x2 x3 : Nat} : x2 = x3 → x0 = x2 → x1 = x3 → x0 = x1 := fun h0 h1 h2 => (Nat.le_antisymm (lin [x2, x3, x0, x1] (.c 1 (.v 0) (.v 1) (.c 1 (.v 2) (.v 0) (.c 1 (.v 1) (.v 3) .e))) (.v 2) (.v 3) rfl (Nat.le_of_eq h0) (Nat.le_of_eq h1) (Nat.le_of_eq (h2).symm)) (lin [x2, x3, x0, x1] (.c 1 (.v 1) (.v 0) (.c 1 (.v 0) (.v 2) (.c 1 (.v 3) (.v 1) .e))) (.v 3) (.v 2) rfl (Nat.le_of_eq (h0).symm) (Nat.le_of_eq (h1).symm) (Nat.le_of_eq h2)))
theorem om55 {x0 x1 : Nat} : x0 = x1 + 1 → x0 - 1 = x1 := fun h0 => (Nat.le_antisymm (lin [x0, x1, x0 - 1] (.c 1 (.v 0) (.a (.v 1) (.n 1)) (.c 1 (.a (.v 2) (.n 1)) (.v 0) .e)) (.v 2) (.v 1) rfl (Nat.le_of_eq h0) (ln_sub_b (lin [x0, x1, x0 - 1] (.c 1 (.a (.v 1) (.n 1)) (.v 0) .e) (.n 1) (.v 0) rfl (Nat.le_of_eq (h0).symm)))) (lin [x0, x1, x0 - 1] (.c 1 (.a (.v 1) (.n 1)) (.v 0) (.c 1 (.v 0) (.a (.v 2) (.n 1)) .e)) (.v 1) (.v 2) rfl (Nat.le_of_eq (h0).symm) (ln_sub_a x0 1)))
theorem om56 {x0 : Nat} : x0 ≤ 1 → ¬x0 > 1 := fun h0 => fun n => (lin0 [x0] (.c 1 (.v 0) (.n 1) (.c 1 (.a (.n 1) (.n 1)) (.v 0) .e)) rfl h0 n)
theorem om57 {x0 x1 : Nat} : x1 = x0 → x0 = x1 := fun h0 => (Nat.le_antisymm (lin [x1, x0] (.c 1 (.v 1) (.v 0) .e) (.v 1) (.v 0) rfl (Nat.le_of_eq (h0).symm)) (lin [x1, x0] (.c 1 (.v 0) (.v 1) .e) (.v 0) (.v 1) rfl (Nat.le_of_eq h0)))
theorem om58 {x0 : Nat} : (x0 : Int) + 1 = (((x0 + 1) : Nat) : Int) := by omega
theorem om59 {x0 x1 x2 : Nat} : x2 ≤ x1 → x0 = x2 → x0 ≤ x1 := fun h0 h1 => (lin [x2, x1, x0] (.c 1 (.v 0) (.v 1) (.c 1 (.v 2) (.v 0) .e)) (.v 2) (.v 1) rfl h0 (Nat.le_of_eq h1))
theorem om60 {x0 x1 x2 : Nat} : x0 = x2 → x2 ≤ x1 → x0 ≤ x1 := fun h0 h1 => (lin [x0, x2, x1] (.c 1 (.v 0) (.v 1) (.c 1 (.v 1) (.v 2) .e)) (.v 0) (.v 2) rfl (Nat.le_of_eq h0) h1)
theorem om61 {x0 x1 : Nat} : x0 ≤ x1 → x1 ≤ x0 → x0 = x1 := fun h0 h1 => (Nat.le_antisymm (lin [x0, x1] (.c 1 (.v 0) (.v 1) .e) (.v 0) (.v 1) rfl h0) (lin [x0, x1] (.c 1 (.v 1) (.v 0) .e) (.v 1) (.v 0) rfl h1))
theorem om62 {x0 x1 : Nat} : x1 ≤ 6 → min x0 x1 ≤ 6 := fun h0 => (lin [x1, min x0 x1, x0] (.c 1 (.v 0) (.n 6) (.c 1 (.v 1) (.v 0) .e)) (.v 1) (.n 6) rfl h0 (Nat.min_le_right x0 x1))
theorem om63 {x0 x1 x2 x3 : Nat} : x2 ≤ 2 ∧ x0 ≤ 2 ∧ x3 ≤ 3 → x0 ≤ x1 + 4 := fun h0 => (lin [x2, x0, x3, x1] (.c 1 (.v 1) (.n 2) .e) (.v 1) (.a (.v 3) (.n 4)) rfl ((h0).2).1)
theorem om64 {x0 x1 x2 : Nat} : x1 ≤ 2 ∧ x2 ≤ 2 ∧ x0 ≤ 3 → x0 ≤ 1000 := fun h0 => (lin [x1, x2, x0] (.c 1 (.v 2) (.n 3) .e) (.v 2) (.n 1000) rfl ((h0).2).2)
theorem om65 {x0 : Nat} : 0 < 3 ^ x0 → 1 ≤ (((3 ^ x0) : Nat) : Int) := by omega
theorem om66 {x0 : Nat} : x0 ≠ x0 + 1 := fun n => (lin0 [x0] (.c 1 (.a (.v 0) (.n 1)) (.v 0) .e) rfl (Nat.le_of_eq (n).symm))
theorem om67 {x0 : Nat} : x0 ≠ x0 + 2 := fun n => (lin0 [x0] (.c 1 (.a (.v 0) (.n 2)) (.v 0) .e) rfl (Nat.le_of_eq (n).symm))
theorem om68 {x0 : Nat} : x0 ≤ 6 → x0 < 0 + 100000 := fun h0 => (lin [x0] (.c 1 (.v 0) (.n 6) .e) (.a (.v 0) (.n 1)) (.n 100000) rfl h0)
theorem om69 {x0 x1 x2 : Nat} : max x0 x2 < x1 → x0 < x1 := fun h0 => (lin [max x0 x2, x1, x0, x2] (.c 1 (.a (.v 0) (.n 1)) (.v 1) (.c 1 (.v 2) (.v 0) .e)) (.a (.v 2) (.n 1)) (.v 1) rfl h0 (Nat.le_max_left x0 x2))
theorem om70 {x0 x1 x2 : Nat} : max x2 x0 < x1 → x0 < x1 := fun h0 => (lin [max x2 x0, x1, x0, x2] (.c 1 (.a (.v 0) (.n 1)) (.v 1) (.c 1 (.v 2) (.v 0) .e)) (.a (.v 2) (.n 1)) (.v 1) rfl h0 (Nat.le_max_right x2 x0))
theorem om71 {x0 : Nat} : x0 ≤ 6 → x0 < 64 := fun h0 => (lin [x0] (.c 1 (.v 0) (.n 6) .e) (.a (.v 0) (.n 1)) (.n 64) rfl h0)
theorem om72 {x0 x1 x2 : Nat} : x0 < x2 → x2 < x1 → x0 < x1 := fun h0 h1 => (lin [x0, x2, x1] (.c 1 (.a (.v 0) (.n 1)) (.v 1) (.c 1 (.a (.v 1) (.n 1)) (.v 2) .e)) (.a (.v 0) (.n 1)) (.v 2) rfl h0 h1)
theorem om73 {x0 x1 : Nat} : x1 ≤ 6 → x0 + 1 = x1 → x0 ≤ 900 := fun h0 h1 => (lin [x1, x0] (.c 1 (.v 0) (.n 6) (.c 1 (.a (.v 1) (.n 1)) (.v 0) .e)) (.v 1) (.n 900) rfl h0 (Nat.le_of_eq h1))
theorem om74 {x0 : Nat} : x0 ≤ x0 + 2 := (lin [x0] .e (.v 0) (.a (.v 0) (.n 2)) rfl)
theorem om75 {x0 x1 : Nat} : x1 ≤ 6 → x0 + 1 = x1 → x0 + 1 ≤ 1000 := fun h0 h1 => (lin [x1, x0] (.c 1 (.v 0) (.n 6) (.c 1 (.a (.v 1) (.n 1)) (.v 0) .e)) (.a (.v 1) (.n 1)) (.n 1000) rfl h0 (Nat.le_of_eq h1))
theorem om76 {x0 x1 : Nat} : x1 ≤ 6 → x0 + 1 = x1 → x0 + 1 + 1 ≤ 100000 := fun h0 h1 => (lin [x1, x0] (.c 1 (.v 0) (.n 6) (.c 1 (.a (.v 1) (.n 1)) (.v 0) .e)) (.a (.a (.v 1) (.n 1)) (.n 1)) (.n 100000) rfl h0 (Nat.le_of_eq h1))
theorem om77 {x0 x1 : Nat} : x1 ≤ 6 → x0 + 1 = x1 → x0 + 1 ≤ 900 := fun h0 h1 => (lin [x1, x0] (.c 1 (.v 0) (.n 6) (.c 1 (.a (.v 1) (.n 1)) (.v 0) .e)) (.a (.v 1) (.n 1)) (.n 900) rfl h0 (Nat.le_of_eq h1))
theorem om78 {x0 x1 x2 x3 : Nat} : x3 ≤ 2 ∧ x0 ≤ 2 ∧ x2 ≤ 3 → x0 ≤ x1 + 2 ∧ x2 < 64 := fun h0 => ⟨(lin [x3, x0, x2, x1] (.c 1 (.v 1) (.n 2) .e) (.v 1) (.a (.v 3) (.n 2)) rfl ((h0).2).1), (lin [x3, x0, x2, x1] (.c 1 (.v 2) (.n 3) .e) (.a (.v 2) (.n 1)) (.n 64) rfl ((h0).2).2)⟩
theorem om79 {x0 x1 : Nat} : x0 = x1 + 3 → 0 < x0 := fun h0 => (lin [x0, x1] (.c 1 (.a (.v 1) (.n 3)) (.v 0) .e) (.a (.n 0) (.n 1)) (.v 0) rfl (Nat.le_of_eq (h0).symm))
theorem om80 {x0 x1 : Nat} : x1 ≤ 6 → x0 = x1 + 3 → x0 ≤ 1000 := fun h0 h1 => (lin [x1, x0] (.c 1 (.v 0) (.n 6) (.c 1 (.v 1) (.a (.v 0) (.n 3)) .e)) (.v 1) (.n 1000) rfl h0 (Nat.le_of_eq h1))
theorem om81 {x0 : Nat} : x0 + 1 ≤ 2 → x0 ≤ 2 := fun h0 => (lin [x0] (.c 1 (.a (.v 0) (.n 1)) (.n 2) .e) (.v 0) (.n 2) rfl h0)
theorem om82 {x0 x1 : Nat} : max x0 x1 + 1 ≤ 2 → x0 ≤ 2 := fun h0 => (lin [max x0 x1, x0, x1] (.c 1 (.a (.v 0) (.n 1)) (.n 2) (.c 1 (.v 1) (.v 0) .e)) (.v 1) (.n 2) rfl h0 (Nat.le_max_left x0 x1))
theorem om83 {x0 x1 : Nat} : max x1 x0 + 1 ≤ 2 → x0 ≤ 2 := fun h0 => (lin [max x1 x0, x0, x1] (.c 1 (.a (.v 0) (.n 1)) (.n 2) (.c 1 (.v 1) (.v 0) .e)) (.v 1) (.n 2) rfl h0 (Nat.le_max_right x1 x0))
theorem om84 {x0 x1 x2 : Nat} : x0 < min x2 x1 → x0 < x1 := fun h0 => (lin [x0, min x2 x1, x1, x2] (.c 1 (.a (.v 0) (.n 1)) (.v 1) (.c 1 (.v 1) (.v 2) .e)) (.a (.v 0) (.n 1)) (.v 2) rfl h0 (Nat.min_le_right x2 x1))
theorem om85 {x0 : Nat} : x0 < 90000 → x0 < 0 + 100000 := fun h0 => (lin [x0] (.c 1 (.a (.v 0) (.n 1)) (.n 90000) .e) (.a (.v 0) (.n 1)) (.n 100000) rfl h0)
theorem om86 {x0 x1 : Nat} : x0 = x1 → x1 ≤ 6 → x0 < 90000 := fun h0 h1 => (lin [x0, x1] (.c 1 (.v 0) (.v 1) (.c 1 (.v 1) (.n 6) .e)) (.a (.v 0) (.n 1)) (.n 90000) rfl (Nat.le_of_eq h0) h1)
theorem om87 {x0 x1 : Nat} : x0 = x1 → x1 ≤ 6 → x0 ≤ 100000 := fun h0 h1 => (lin [x0, x1] (.c 1 (.v 0) (.v 1) (.c 1 (.v 1) (.n 6) .e)) (.v 0) (.n 100000) rfl (Nat.le_of_eq h0) h1)
theorem om88 {x0 x1 : Nat} : x0 = x1 → x1 ≤ 6 → 1 + x0 ≤ 100000 := fun h0 h1 => (lin [x0, x1] (.c 1 (.v 0) (.v 1) (.c 1 (.v 1) (.n 6) .e)) (.a (.n 1) (.v 0)) (.n 100000) rfl (Nat.le_of_eq h0) h1)
theorem om89 {x0 : Nat} : x0 < 6 → x0 ≤ 1000 := fun h0 => (lin [x0] (.c 1 (.a (.v 0) (.n 1)) (.n 6) .e) (.v 0) (.n 1000) rfl h0)
theorem om90 {x0 : Nat} : x0 + 1 ≤ 1000 → x0 ≤ 1000 := fun h0 => (lin [x0] (.c 1 (.a (.v 0) (.n 1)) (.n 1000) .e) (.v 0) (.n 1000) rfl h0)
theorem om91 {x0 x1 : Nat} : x0 + x1 + 1 ≤ 1000 → x0 ≤ 1000 := fun h0 => (lin [x0, x1] (.c 1 (.a (.a (.v 0) (.v 1)) (.n 1)) (.n 1000) .e) (.v 0) (.n 1000) rfl h0)
theorem om92 {x0 x1 : Nat} : x1 + x0 + 1 ≤ 1000 → x0 ≤ 1000 := fun h0 => (lin [x1, x0] (.c 1 (.a (.a (.v 0) (.v 1)) (.n 1)) (.n 1000) .e) (.v 1) (.n 1000) rfl h0)
theorem om93 {x0 x1 x2 x3 : Nat} : x0 ≤ x2 → x1 ≤ x3 → x0 + x1 ≤ x2 + x3 + 1 := fun h0 h1 => (lin [x0, x2, x1, x3] (.c 1 (.v 0) (.v 1) (.c 1 (.v 2) (.v 3) .e)) (.a (.v 0) (.v 2)) (.a (.a (.v 1) (.v 3)) (.n 1)) rfl h0 h1)
theorem om94 {x0 : Nat} : x0 ≤ 2 → 1 + x0 ≤ 100000 := fun h0 => (lin [x0] (.c 1 (.v 0) (.n 2) .e) (.a (.n 1) (.v 0)) (.n 100000) rfl h0)
theorem om95 {x0 x1 : Nat} : x1 ≤ 0 → ¬x0 < x1 := fun h0 => fun n => (lin0 [x1, x0] (.c 1 (.v 0) (.n 0) (.c 1 (.a (.v 1) (.n 1)) (.v 0) .e)) rfl h0 n)
theorem om96 {x0 x1 x2 : Nat} : x2 ≤ x1 + 1 → x0 < x2 → x0 ≤ x1 := fun h0 h1 => (lin [x2, x1, x0] (.c 1 (.v 0) (.a (.v 1) (.n 1)) (.c 1 (.a (.v 2) (.n 1)) (.v 0) .e)) (.v 2) (.v 1) rfl h0 h1)
theorem om97 {x0 x1 : Nat} : x0 + x1 ≤ 1000 → x0 < 100000 := fun h0 => (lin [x0, x1] (.c 1 (.a (.v 0) (.v 1)) (.n 1000) .e) (.a (.v 0) (.n 1)) (.n 100000) rfl h0)
theorem om98 {x0 x1 x2 : Nat} : x0 + x2 ≤ 1000 → x1 < x2 → x0 + 1 + x1 ≤ 1000 := fun h0 h1 => (lin [x0, x2, x1] (.c 1 (.a (.v 0) (.v 1)) (.n 1000) (.c 1 (.a (.v 2) (.n 1)) (.v 1) .e)) (.a (.a (.v 0) (.n 1)) (.v 2)) (.n 1000) rfl h0 h1)
theorem om99 {x0 : Nat} : x0 ≤ 99999 → x0 + 1 ≤ 100000 := fun h0 => (lin [x0] (.c 1 (.v 0) (.n 99999) .e) (.a (.v 0) (.n 1)) (.n 100000) rfl h0)
theorem om100 {x0 : Nat} : x0 ≤ 2000 → x0 - 1 ≤ 2000 := fun h0 => (lin [x0, x0 - 1] (.c 1 (.v 0) (.n 2000) (.c 1 (.v 1) (.v 0) .e)) (.v 1) (.n 2000) rfl h0 (Nat.sub_le x0 1))
theorem om101 {x0 x1 : Nat} : x1 ≤ 90000 → x0 < x1 → x0 ≤ 90000 := fun h0 h1 => (lin [x1, x0] (.c 1 (.v 0) (.n 90000) (.c 1 (.a (.v 1) (.n 1)) (.v 0) .e)) (.v 1) (.n 90000) rfl h0 h1)
theorem om102 {x0 : Nat} : ¬x0 + 1 + 1 + 1 = x0 + 1 + 1 := fun n => (lin0 [x0] (.c 1 (.a (.a (.a (.v 0) (.n 1)) (.n 1)) (.n 1)) (.a (.a (.v 0) (.n 1)) (.n 1)) .e) rfl (Nat.le_of_eq n))
theorem om103 {x0 : Nat} : ¬x0 + 1 + 1 + 1 = x0 + 1 := fun n => (lin0 [x0] (.c 1 (.a (.a (.a (.v 0) (.n 1)) (.n 1)) (.n 1)) (.a (.v 0) (.n 1)) .e) rfl (Nat.le_of_eq n))
theorem om104 {x0 : Nat} : ¬x0 + 1 + 1 = x0 + 1 + 1 + 1 := fun n => (lin0 [x0] (.c 1 (.a (.a (.a (.v 0) (.n 1)) (.n 1)) (.n 1)) (.a (.a (.v 0) (.n 1)) (.n 1)) .e) rfl (Nat.le_of_eq (n).symm))
theorem om105 {x0 : Nat} : ¬x0 + 1 + 1 = x0 + 1 := fun n => (lin0 [x0] (.c 1 (.a (.a (.v 0) (.n 1)) (.n 1)) (.a (.v 0) (.n 1)) .e) rfl (Nat.le_of_eq n))
theorem om106 {x0 : Nat} : ¬x0 + 1 = x0 + 1 + 1 + 1 := fun n => (lin0 [x0] (.c 1 (.a (.a (.a (.v 0) (.n 1)) (.n 1)) (.n 1)) (.a (.v 0) (.n 1)) .e) rfl (Nat.le_of_eq (n).symm))
theorem om107 {x0 : Nat} : ¬x0 + 1 = x0 + 1 + 1 := fun n => (lin0 [x0] (.c 1 (.a (.a (.v 0) (.n 1)) (.n 1)) (.a (.v 0) (.n 1)) .e) rfl (Nat.le_of_eq (n).symm))
theorem om109 {x0 : Nat} : min 40 x0 ≤ 40 := (lin [min 40 x0, x0] (.c 1 (.v 0) (.n 40) .e) (.v 0) (.n 40) rfl (Nat.min_le_left 40 x0))
theorem om110 {x0 x1 x2 x3 : Nat} : x2 ≠ x1 ∧ x0 ≠ x1 ∧ x3 + 1 + 1 + 1 ≠ x1 ∧ x3 + 1 + 1 ≠ x1 ∧ x3 + 1 ≠ x1 → x0 ≠ x1 := by omega
theorem om111 {x0 x1 : Nat} : x1 + 1 + 1 + 1 < x0 ∧ x1 + 1 + 1 < x0 ∧ x1 + 1 < x0 → x0 ≠ x1 + 1 ∧ x0 ≠ x1 + 1 + 1 ∧ x0 ≠ x1 + 1 + 1 + 1 := fun h0 => ⟨fun n => (lin0 [x1, x0] (.c 1 (.a (.a (.a (.a (.v 0) (.n 1)) (.n 1)) (.n 1)) (.n 1)) (.v 1) (.c 1 (.v 1) (.a (.v 0) (.n 1)) .e)) rfl (h0).1 (Nat.le_of_eq n)), ⟨fun n => (lin0 [x1, x0] (.c 1 (.a (.a (.a (.a (.v 0) (.n 1)) (.n 1)) (.n 1)) (.n 1)) (.v 1) (.c 1 (.v 1) (.a (.a (.v 0) (.n 1)) (.n 1)) .e)) rfl (h0).1 (Nat.le_of_eq n)), fun n => (lin0 [x1, x0] (.c 1 (.a (.a (.a (.a (.v 0) (.n 1)) (.n 1)) (.n 1)) (.n 1)) (.v 1) (.c 1 (.v 1) (.a (.a (.a (.v 0) (.n 1)) (.n 1)) (.n 1)) .e)) rfl (h0).1 (Nat.le_of_eq n))⟩⟩
theorem om112 {x0 x1 x2 x3 : Nat} : x2 ≠ x0 ∧ x3 ≠ x0 ∧ x1 + 1 + 1 + 1 ≠ x0 ∧ x1 + 1 + 1 ≠ x0 ∧ x1 + 1 ≠ x0 → x0 ≠ x1 + 1 ∧ x0 ≠ x1 + 1 + 1 ∧ x0 ≠ x1 + 1 + 1 + 1 := by omega
theorem om113 {x0 x1 x2 : Nat} : x0 ≤ x1 → x0 ≤ x1 + x2 := fun h0 => (lin [x0, x1, x2] (.c 1 (.v 0) (.v 1) .e) (.v 0) (.a (.v 1) (.v 2)) rfl h0)
theorem om114 {x0 x1 x2 : Nat} : x0 ≤ x2 → x0 ≤ x1 + x2 := fun h0 => (lin [x0, x2, x1] (.c 1 (.v 0) (.v 1) .e) (.v 0) (.a (.v 2) (.v 1)) rfl h0)
theorem om115 {x0 x1 : Nat} : x0 ≥ x1 → x0 < x1 + 1 → x0 = x1 := fun h0 h1 => (Nat.le_antisymm (lin [x1, x0] (.c 1 (.a (.v 1) (.n 1)) (.a (.v 0) (.n 1)) .e) (.v 1) (.v 0) rfl h1) (lin [x1, x0] (.c 1 (.v 0) (.v 1) .e) (.v 0) (.v 1) rfl h0))
theorem om116 {x0 x1 x2 : Nat} : x0 + 8 * (x1 + 1) + 400 < x2 → x0 + 3 + 8 * x1 + 400 < x2 := fun h0 => (lin [x0, x1, x2] (.c 1 (.a (.a (.a (.v 0) (.m 8 (.a (.v 1) (.n 1)))) (.n 400)) (.n 1)) (.v 2) .e) (.a (.a (.a (.a (.v 0) (.n 3)) (.m 8 (.v 1))) (.n 400)) (.n 1)) (.v 2) rfl h0)
theorem om117 {x0 : Int} : 0 < x0 → x0 ≠ 0 := by omega
theorem om118 {x0 : Int} : 0 < x0 → 0 ≤ x0 := by omega
theorem om119 {x0 x1 : Nat} {x2 : Prop} : x2 ∧ x0 ≤ x1 → x0 + 1 ≤ x1 + 1 := fun h0 => (lin [x0, x1] (.c 1 (.v 0) (.v 1) .e) (.a (.v 0) (.n 1)) (.a (.v 1) (.n 1)) rfl (h0).2)
theorem om120 {x0 x1 x2 x3 x4 : Nat} {x5 : Prop} : x0 + 64 < x3 → x4 ≤ 60 → x5 ∧ x1 ≤ x4 → x0 + min x1 x2 < x3 := fun h0 h1 h2 => (lin [x0, x3, x4, x1, min x1 x2, x2] (.c 1 (.a (.a (.v 0) (.n 64)) (.n 1)) (.v 1) (.c 1 (.v 2) (.n 60) (.c 1 (.v 3) (.v 2) (.c 1 (.v 4) (.v 3) .e)))) (.a (.a (.v 0) (.v 4)) (.n 1)) (.v 1) rfl h0 h1 (h2).2 (Nat.min_le_left x1 x2))
theorem om121 {x0 x1 x2 : Nat} : x0 + (x2 + 1) < x1 → x0 < x1 := fun h0 => (lin [x0, x2, x1] (.c 1 (.a (.a (.v 0) (.a (.v 1) (.n 1))) (.n 1)) (.v 2) .e) (.a (.v 0) (.n 1)) (.v 2) rfl h0)
theorem om122 {x0 x1 x2 : Nat} : x0 + 100 < x2 → x1 = 6 → x0 + x1 < x2 := fun h0 h1 => (lin [x0, x2, x1] (.c 1 (.a (.a (.v 0) (.n 100)) (.n 1)) (.v 1) (.c 1 (.v 2) (.n 6) .e)) (.a (.a (.v 0) (.v 2)) (.n 1)) (.v 1) rfl h0 (Nat.le_of_eq h1))
theorem om123 {x0 x1 : Nat} : x0 + 100 < x1 → x0 + 64 < x1 := fun h0 => (lin [x0, x1] (.c 1 (.a (.a (.v 0) (.n 100)) (.n 1)) (.v 1) .e) (.a (.a (.v 0) (.n 64)) (.n 1)) (.v 1) rfl h0)
theorem om124 {x0 x1 x2 : Nat} : x0 + 8 * x2 + 400 < x1 → x0 < x1 := fun h0 => (lin [x0, x2, x1] (.c 1 (.a (.a (.a (.v 0) (.m 8 (.v 1))) (.n 400)) (.n 1)) (.v 2) .e) (.a (.v 0) (.n 1)) (.v 2) rfl h0)
theorem om125 {x0 x1 x2 : Nat} : x0 + 8 * x2 + 400 < x1 → x0 + 1 + 64 < x1 := fun h0 => (lin [x0, x2, x1] (.c 1 (.a (.a (.a (.v 0) (.m 8 (.v 1))) (.n 400)) (.n 1)) (.v 2) .e) (.a (.a (.a (.v 0) (.n 1)) (.n 64)) (.n 1)) (.v 2) rfl h0)
theorem om126 {x0 x1 x2 x3 x4 : Nat} {x5 : Prop} {x6 : Nat} : x0 + 8 * x4 + 400 < x3 → x5 ∧ x1 ≤ x6 → x6 = 60 → x0 + min x1 x2 < x3 := fun h0 h1 h2 => (lin [x0, x4, x3, x1, x6, min x1 x2, x2] (.c 1 (.a (.a (.a (.v 0) (.m 8 (.v 1))) (.n 400)) (.n 1)) (.v 2) (.c 1 (.v 3) (.v 4) (.c 1 (.v 4) (.n 60) (.c 1 (.v 5) (.v 3) .e)))) (.a (.a (.v 0) (.v 5)) (.n 1)) (.v 2) rfl h0 (h1).2 (Nat.le_of_eq h2) (Nat.min_le_left x1 x2))
theorem om127 {x0 x1 x2 x3 x4 : Nat} {x5 : Prop} {x6 x7 : Nat} : x0 + 8 * x4 + 400 < x3 → x5 ∧ x6 ≤ x7 → x7 = 60 → x1 = x6 + 1 → x0 + min x1 x2 < x3 := fun h0 h1 h2 h3 => (lin [x0, x4, x3, x6, x7, x1, min x1 x2, x2] (.c 1 (.a (.a (.a (.v 0) (.m 8 (.v 1))) (.n 400)) (.n 1)) (.v 2) (.c 1 (.v 3) (.v 4) (.c 1 (.v 4) (.n 60) (.c 1 (.v 5) (.a (.v 3) (.n 1)) (.c 1 (.v 6) (.v 5) .e))))) (.a (.a (.v 0) (.v 6)) (.n 1)) (.v 2) rfl h0 (h1).2 (Nat.le_of_eq h2) (Nat.le_of_eq h3) (Nat.min_le_left x1 x2))
theorem om128 {x0 : Int} : 0 ≤ x0 → -2 ^ 63 ≤ x0 := by omega
theorem om129 {x0 : Int} {x1 : Nat} : x0.toNat < x1 → x0 < (x1 : Int) := by omega
theorem om132 {x0 x1 : Nat} : ((x0 : Int) - (x1 : Int) - 1 + 1).toNat = x0 - x1 := by omega
theorem om133 {x0 x1 : Nat} : ¬(x1 : Int) < (x0 : Int) → Int.toNat 0 = x0 - x1 := by omega
theorem om134 {x0 x1 : Nat} : ((x0 : Int) + (x1 : Int) * 1).toNat = x0 + x1 := by omega
theorem om135 {x0 x1 x2 x3 : Nat} : x2 ≤ x3 → min (x0 - x1) (x2 - x1) ≤ x3 := fun h0 => (lin [x2, x3, min (x0 - x1) (x2 - x1), x0 - x1, x2 - x1, x0, x1] (.c 1 (.v 0) (.v 1) (.c 1 (.v 2) (.v 4) (.c 1 (.v 4) (.v 0) .e))) (.v 2) (.v 1) rfl h0 (Nat.min_le_right (x0 - x1) (x2 - x1)) (Nat.sub_le x2 x1))
theorem om136 {x0 : Nat} : (x0 : Int) = 0 → x0 = 0 := by omega
theorem om137 {x0 : Nat} : max 0 (min 0 (x0 : Int)) = 0 := by omega
theorem om138 {x0 : Nat} : min 1 x0 ≤ 1 := (lin [min 1 x0, x0] (.c 1 (.v 0) (.n 1) .e) (.v 0) (.n 1) rfl (Nat.min_le_left 1 x0))
theorem om140 {x0 : Nat} : x0 > 0 → (x0 : Int) - 1 > -1 := by omega
theorem om141 {x0 : Nat} : (x0 : Int) - 1 - -1 - -1 - 1 = (x0 : Int) := by omega
theorem om142 {x0 x1 : Nat} : ((x0 : Int) - 1 + -1 * (x1 : Int)).toNat = x0 - 1 - x1 := by omega
theorem om143 {x0 x1 x2 x3 : Nat} : x2 ≤ x1 → x0 = x3 → x3 < x2 → x0 ≤ x1 := fun h0 h1 h2 => (lin [x2, x1, x0, x3] (.c 1 (.v 0) (.v 1) (.c 1 (.v 2) (.v 3) (.c 1 (.a (.v 3) (.n 1)) (.v 0) .e))) (.v 2) (.v 1) rfl h0 (Nat.le_of_eq h1) h2)
theorem om144 {x0 x1 x2 : Nat} : x1 ≤ x2 → x0 = x1 → x2 = 100000 → (x0 : Int) < 9223372036854775808 := by omega
theorem om145 {x0 x1 : Nat} : x1 < 64 → x0 = x1 → x0 ≤ 16777216 := fun h0 h1 => (lin [x1, x0] (.c 1 (.a (.v 0) (.n 1)) (.n 64) (.c 1 (.v 1) (.v 0) .e)) (.v 1) (.n 16777216) rfl h0 (Nat.le_of_eq h1))
theorem om146 {x0 x1 x2 : Int} : x0 < x2 → x2 ≤ x1 → x0 ≤ x1 := by omega
theorem om147 {x0 x1 x2 : Int} : x2 ≤ x1 → ¬x2 < x0 → x0 ≤ x1 := by omega
theorem om148 {x0 x1 : Nat} : x1 + 1 = x0 → 0 < x0 := fun h0 => (lin [x1, x0] (.c 1 (.a (.v 0) (.n 1)) (.v 1) .e) (.a (.n 0) (.n 1)) (.v 1) rfl (Nat.le_of_eq h0))
theorem om149 {x0 x1 : Nat} : 0 < x1 → x0 ≤ x1 - 1 → x0 < x1 := fun h0 h1 => (lin [x1, x0, x1 - 1] (.c 1 (.v 1) (.v 2) (.c 1 (.a (.v 2) (.n 1)) (.v 0) .e)) (.a (.v 1) (.n 1)) (.v 0) rfl h1 (ln_sub_b (lin [x1, x0, x1 - 1] (.c 1 (.a (.n 0) (.n 1)) (.v 0) .e) (.n 1) (.v 0) rfl h0)))
theorem om150 {x0 x1 : Nat} : x0 < x1 → x0 ≤ x1 - 1 := fun h0 => (lin [x0, x1, x1 - 1] (.c 1 (.a (.v 0) (.n 1)) (.v 1) (.c 1 (.v 1) (.a (.v 2) (.n 1)) .e)) (.v 0) (.v 2) rfl h0 (ln_sub_a x1 1))
theorem om151 {x0 x1 x2 : Nat} : x0 + (x2 + 1) ≤ x1 → x0 ≤ x1 := fun h0 => (lin [x0, x2, x1] (.c 1 (.a (.v 0) (.a (.v 1) (.n 1))) (.v 2) .e) (.v 0) (.v 2) rfl h0)
theorem om152 {x0 x1 x2 x3 : Nat} : x3 + (x1 + 1) ≤ x2 → x0 ≤ x3 + 1 → x0 + x1 ≤ x2 := fun h0 h1 => (lin [x3, x1, x2, x0] (.c 1 (.a (.v 0) (.a (.v 1) (.n 1))) (.v 2) (.c 1 (.v 3) (.a (.v 0) (.n 1)) .e)) (.a (.v 3) (.v 1)) (.v 2) rfl h0 h1)
theorem om153 {x0 x1 : Nat} : x1 = x0 → x0 ≤ x1 := fun h0 => (lin [x1, x0] (.c 1 (.v 1) (.v 0) .e) (.v 1) (.v 0) rfl (Nat.le_of_eq (h0).symm))
theorem om154 {x0 x1 x2 : Nat} : x0 + (x2 + 1) = x1 → x0 < x1 := fun h0 => (lin [x0, x2, x1] (.c 1 (.a (.v 0) (.a (.v 1) (.n 1))) (.v 2) .e) (.a (.v 0) (.n 1)) (.v 2) rfl (Nat.le_of_eq h0))
theorem om155 {x0 x1 x2 x3 : Nat} : x2 = x1 → x0 + (x3 + 1) = x2 → x0 < x1 := fun h0 h1 => (lin [x2, x1, x0, x3] (.c 1 (.v 0) (.v 1) (.c 1 (.a (.v 2) (.a (.v 3) (.n 1))) (.v 0) .e)) (.a (.v 2) (.n 1)) (.v 1) rfl (Nat.le_of_eq h0) (Nat.le_of_eq h1))
theorem om156 {x0 x1 x2 x3 : Nat} : x0 + x2 ≤ x3 → x0 + min x1 x2 ≤ x3 ∧ x0 + min x1 x2 + 1 ≤ x3 + 1 := fun h0 => ⟨(lin [x0, x2, x3, min x1 x2, x1] (.c 1 (.a (.v 0) (.v 1)) (.v 2) (.c 1 (.v 3) (.v 1) .e)) (.a (.v 0) (.v 3)) (.v 2) rfl h0 (Nat.min_le_right x1 x2)), (lin [x0, x2, x3, min x1 x2, x1] (.c 1 (.a (.v 0) (.v 1)) (.v 2) (.c 1 (.v 3) (.v 1) .e)) (.a (.a (.v 0) (.v 3)) (.n 1)) (.a (.v 2) (.n 1)) rfl h0 (Nat.min_le_right x1 x2))⟩
theorem om157 {x0 x1 x2 : Nat} : x0 + x1 ≤ x2 → x0 + (x1 + 1) ≤ x2 + 1 := fun h0 => (lin [x0, x1, x2] (.c 1 (.a (.v 0) (.v 1)) (.v 2) .e) (.a (.v 0) (.a (.v 1) (.n 1))) (.a (.v 2) (.n 1)) rfl h0)
theorem om158 {x0 x1 x2 : Nat} : x0 + (x1 + 1) = x2 → x0 + 1 + x1 = x2 := fun h0 => (Nat.le_antisymm (lin [x0, x1, x2] (.c 1 (.a (.v 0) (.a (.v 1) (.n 1))) (.v 2) .e) (.a (.a (.v 0) (.n 1)) (.v 1)) (.v 2) rfl (Nat.le_of_eq h0)) (lin [x0, x1, x2] (.c 1 (.v 2) (.a (.v 0) (.a (.v 1) (.n 1))) .e) (.v 2) (.a (.a (.v 0) (.n 1)) (.v 1)) rfl (Nat.le_of_eq (h0).symm)))
theorem om159 {x0 x1 : Nat} : x0 < x1 → x0 ≤ x1 + 1 := fun h0 => (lin [x0, x1] (.c 1 (.a (.v 0) (.n 1)) (.v 1) .e) (.v 0) (.a (.v 1) (.n 1)) rfl h0)
theorem om160 {x0 x1 x2 x3 x4 : Nat} : x2 = x3 ∧ x2 = x4 → x3 = x0 → x4 = x1 → x0 = x1 := fun h0 h1 h2 => (Nat.le_antisymm (lin [x2, x3, x4, x0, x1] (.c 1 (.v 1) (.v 0) (.c 1 (.v 0) (.v 2) (.c 1 (.v 3) (.v 1) (.c 1 (.v 2) (.v 4) .e)))) (.v 3) (.v 4) rfl (Nat.le_of_eq ((h0).1).symm) (Nat.le_of_eq (h0).2) (Nat.le_of_eq (h1).symm) (Nat.le_of_eq h2)) (lin [x2, x3, x4, x0, x1] (.c 1 (.v 0) (.v 1) (.c 1 (.v 2) (.v 0) (.c 1 (.v 1) (.v 3) (.c 1 (.v 4) (.v 2) .e)))) (.v 4) (.v 3) rfl (Nat.le_of_eq (h0).1) (Nat.le_of_eq ((h0).2).symm) (Nat.le_of_eq h1) (Nat.le_of_eq (h2).symm)))
theorem om161 {x0 x1 x2 x3 : Nat} : x2 ≤ x3 → x0 = x2 → x3 = 100000 → x1 = 2 ^ 24 → x0 ≤ x1 := fun h0 h1 h2 h3 => (lin [x2, x3, x0, x1] (.c 1 (.v 0) (.v 1) (.c 1 (.v 2) (.v 0) (.c 1 (.v 1) (.n 100000) (.c 1 (.n 16777216) (.v 3) .e)))) (.v 2) (.v 3) rfl h0 (Nat.le_of_eq h1) (Nat.le_of_eq h2) (Nat.le_of_eq (h3).symm))
theorem om162 {x0 : Nat} : x0 = 2 ^ 24 → 0 < x0 := fun h0 => (lin [x0] (.c 1 (.n 16777216) (.v 0) .e) (.a (.n 0) (.n 1)) (.v 0) rfl (Nat.le_of_eq (h0).symm))
theorem om163 {x0 x1 x2 x3 x4 x5 : Nat} : x3 + x4 ≤ x5 → x0 = x3 → x1 = x4 → x5 = 100000 → x2 = 2 ^ 24 → x0 + x1 ≤ x2 := fun h0 h1 h2 h3 h4 => (lin [x3, x4, x5, x0, x1, x2] (.c 1 (.a (.v 0) (.v 1)) (.v 2) (.c 1 (.v 3) (.v 0) (.c 1 (.v 4) (.v 1) (.c 1 (.v 2) (.n 100000) (.c 1 (.n 16777216) (.v 5) .e))))) (.a (.v 3) (.v 4)) (.v 5) rfl h0 (Nat.le_of_eq h1) (Nat.le_of_eq h2) (Nat.le_of_eq h3) (Nat.le_of_eq (h4).symm))
theorem om164 {x0 x1 x2 x3 x4 : Nat} : x2 + x3 ≤ x4 → x0 = x2 → x4 = 100000 → x1 = 2 ^ 24 → x0 < x1 := fun h0 h1 h2 h3 => (lin [x2, x3, x4, x0, x1] (.c 1 (.a (.v 0) (.v 1)) (.v 2) (.c 1 (.v 3) (.v 0) (.c 1 (.v 2) (.n 100000) (.c 1 (.n 16777216) (.v 4) .e)))) (.a (.v 3) (.n 1)) (.v 4) rfl h0 (Nat.le_of_eq h1) (Nat.le_of_eq h2) (Nat.le_of_eq (h3).symm))
theorem om165 {x0 x1 x2 : Nat} : x2 + 1 < x1 → x0 = x2 → x0 < x1 := fun h0 h1 => (lin [x2, x1, x0] (.c 1 (.a (.a (.v 0) (.n 1)) (.n 1)) (.v 1) (.c 1 (.v 2) (.v 0) .e)) (.a (.v 2) (.n 1)) (.v 1) rfl h0 (Nat.le_of_eq h1))
theorem om166 {x0 x1 x2 : Nat} : x2 = x1 → x2 = x0 → x0 + 1 = x1 + 1 := fun h0 h1 => (Nat.le_antisymm (lin [x2, x1, x0] (.c 1 (.v 0) (.v 1) (.c 1 (.v 2) (.v 0) .e)) (.a (.v 2) (.n 1)) (.a (.v 1) (.n 1)) rfl (Nat.le_of_eq h0) (Nat.le_of_eq (h1).symm)) (lin [x2, x1, x0] (.c 1 (.v 1) (.v 0) (.c 1 (.v 0) (.v 2) .e)) (.a (.v 1) (.n 1)) (.a (.v 2) (.n 1)) rfl (Nat.le_of_eq (h0).symm) (Nat.le_of_eq h1)))
theorem om167 {x0 x1 x2 : Nat} : x0 ≤ x1 + x2 → x0 ≤ x1 + (x2 + 1) := fun h0 => (lin [x0, x1, x2] (.c 1 (.v 0) (.a (.v 1) (.v 2)) .e) (.v 0) (.a (.v 1) (.a (.v 2) (.n 1))) rfl h0)
theorem om168 {x0 x1 x2 : Nat} : x0 ≤ x1 + 1 + x2 → x0 ≤ x1 + (x2 + 1) := fun h0 => (lin [x0, x1, x2] (.c 1 (.v 0) (.a (.a (.v 1) (.n 1)) (.v 2)) .e) (.v 0) (.a (.v 1) (.a (.v 2) (.n 1))) rfl h0)
theorem om169 {x0 x1 x2 : Nat} : x0 + (x2 + 1) + 1 < x1 → x0 + 1 < x1 := fun h0 => (lin [x0, x2, x1] (.c 1 (.a (.a (.a (.v 0) (.a (.v 1) (.n 1))) (.n 1)) (.n 1)) (.v 2) .e) (.a (.a (.v 0) (.n 1)) (.n 1)) (.v 2) rfl h0)
theorem om170 {x0 x1 x2 : Nat} : x0 + (x1 + 1) + 1 < x2 → x0 + x1 + 1 < x2 := fun h0 => (lin [x0, x1, x2] (.c 1 (.a (.a (.a (.v 0) (.a (.v 1) (.n 1))) (.n 1)) (.n 1)) (.v 2) .e) (.a (.a (.a (.v 0) (.v 1)) (.n 1)) (.n 1)) (.v 2) rfl h0)
theorem om171 {x0 x1 x2 : Nat} : x0 + (x1 + 1) + 1 < x2 → x0 + 1 + x1 + 1 < x2 := fun h0 => (lin [x0, x1, x2] (.c 1 (.a (.a (.a (.v 0) (.a (.v 1) (.n 1))) (.n 1)) (.n 1)) (.v 2) .e) (.a (.a (.a (.a (.v 0) (.n 1)) (.v 1)) (.n 1)) (.n 1)) (.v 2) rfl h0)
theorem om172 {x0 x1 : Nat} : x0 = x1 + 1 → 0 < x0 := fun h0 => (lin [x0, x1] (.c 1 (.a (.v 1) (.n 1)) (.v 0) .e) (.a (.n 0) (.n 1)) (.v 0) rfl (Nat.le_of_eq (h0).symm))
theorem om173 {x0 x1 x2 : Nat} : x0 < x1 → x1 = x2 → x2 ≤ 1 → x0 = 0 := fun h0 h1 h2 => (Nat.le_antisymm (lin [x0, x1, x2] (.c 1 (.a (.v 0) (.n 1)) (.v 1) (.c 1 (.v 1) (.v 2) (.c 1 (.v 2) (.n 1) .e))) (.v 0) (.n 0) rfl h0 (Nat.le_of_eq h1) h2) (lin [x0, x1, x2] .e (.n 0) (.v 0) rfl))
theorem om174 {x0 x1 : Nat} : x1 = x0 → x0 ≤ 1 → 0 < x1 → x0 = 1 := fun h0 h1 h2 => (Nat.le_antisymm (lin [x1, x0] (.c 1 (.v 1) (.n 1) .e) (.v 1) (.n 1) rfl h1) (lin [x1, x0] (.c 1 (.v 0) (.v 1) (.c 1 (.a (.n 0) (.n 1)) (.v 0) .e)) (.n 1) (.v 1) rfl (Nat.le_of_eq h0) h2))
theorem om175 {x0 x1 x2 : Nat} : x1 = x2 → x0 = x2 → 0 < x1 → 0 < x0 := fun h0 h1 h2 => (lin [x1, x2, x0] (.c 1 (.v 0) (.v 1) (.c 1 (.v 1) (.v 2) (.c 1 (.a (.n 0) (.n 1)) (.v 0) .e))) (.a (.n 0) (.n 1)) (.v 2) rfl (Nat.le_of_eq h0) (Nat.le_of_eq (h1).symm) h2)
theorem om176 {x0 x1 x2 : Nat} : x1 = x2 → x2 ≤ 1 → x0 = x2 → 0 < x1 → x0 = 1 := fun h0 h1 h2 h3 => (Nat.le_antisymm (lin [x1, x2, x0] (.c 1 (.v 1) (.n 1) (.c 1 (.v 2) (.v 1) .e)) (.v 2) (.n 1) rfl h1 (Nat.le_of_eq h2)) (lin [x1, x2, x0] (.c 1 (.v 0) (.v 1) (.c 1 (.v 1) (.v 2) (.c 1 (.a (.n 0) (.n 1)) (.v 0) .e))) (.n 1) (.v 2) rfl (Nat.le_of_eq h0) (Nat.le_of_eq (h2).symm) h3))
theorem om177 {x0 x1 x2 : Nat} : x1 ≤ 1 → x2 = x1 → x0 < x2 → x0 = 0 := fun h0 h1 h2 => (Nat.le_antisymm (lin [x1, x2, x0] (.c 1 (.v 0) (.n 1) (.c 1 (.v 1) (.v 0) (.c 1 (.a (.v 2) (.n 1)) (.v 1) .e))) (.v 2) (.n 0) rfl h0 (Nat.le_of_eq h1) h2) (lin [x1, x2, x0] .e (.n 0) (.v 2) rfl))
theorem om178 {x0 x1 x2 x3 : Nat} : x0 < x2 → x2 = x3 → x1 = x3 → x0 < x1 := fun h0 h1 h2 => (lin [x0, x2, x3, x1] (.c 1 (.a (.v 0) (.n 1)) (.v 1) (.c 1 (.v 1) (.v 2) (.c 1 (.v 2) (.v 3) .e))) (.a (.v 0) (.n 1)) (.v 3) rfl h0 (Nat.le_of_eq h1) (Nat.le_of_eq (h2).symm))
theorem om179 {x0 x1 : Nat} : x1 ≤ 100 → x0 = x1 → x0 ≤ 16777216 := fun h0 h1 => (lin [x1, x0] (.c 1 (.v 0) (.n 100) (.c 1 (.v 1) (.v 0) .e)) (.v 1) (.n 16777216) rfl h0 (Nat.le_of_eq h1))
theorem om180 {x0 x1 x2 : Nat} : x1 = x2 → x0 < x2 → x0 < x1 := fun h0 h1 => (lin [x1, x2, x0] (.c 1 (.v 1) (.v 0) (.c 1 (.a (.v 2) (.n 1)) (.v 1) .e)) (.a (.v 2) (.n 1)) (.v 0) rfl (Nat.le_of_eq (h0).symm) h1)
theorem om181 {x0 x1 : Nat} : x1 ≤ 1 → x0 = x1 → x0 = 0 ∨ x0 = 1 := by omega
theorem om182 {x0 x1 x2 : Nat} : x1 ≤ 100 → x0 = x2 → x2 = x1 → x0 ≤ 16777216 := fun h0 h1 h2 => (lin [x1, x0, x2] (.c 1 (.v 0) (.n 100) (.c 1 (.v 1) (.v 2) (.c 1 (.v 2) (.v 0) .e))) (.v 1) (.n 16777216) rfl h0 (Nat.le_of_eq h1) (Nat.le_of_eq h2))
theorem om183 {x0 x1 : Nat} : x1 < 64 → x0 ≤ x1 → x0 < 64 := fun h0 h1 => (lin [x1, x0] (.c 1 (.a (.v 0) (.n 1)) (.n 64) (.c 1 (.v 1) (.v 0) .e)) (.a (.v 1) (.n 1)) (.n 64) rfl h0 h1)
theorem om184 {x0 x1 : Nat} : x1 < 64 → x0 ≤ x1 → x0 ≤ 100 := fun h0 h1 => (lin [x1, x0] (.c 1 (.a (.v 0) (.n 1)) (.n 64) (.c 1 (.v 1) (.v 0) .e)) (.v 1) (.n 100) rfl h0 h1)
theorem om185 {x0 x1 x2 x3 : Nat} : x2 = 100000 → x1 = 16777216 → x3 < x2 → x0 = x3 → x0 ≤ x1 := fun h0 h1 h2 h3 => (lin [x2, x1, x3, x0] (.c 1 (.v 0) (.n 100000) (.c 1 (.n 16777216) (.v 1) (.c 1 (.a (.v 2) (.n 1)) (.v 0) (.c 1 (.v 3) (.v 2) .e)))) (.v 3) (.v 1) rfl (Nat.le_of_eq h0) (Nat.le_of_eq (h1).symm) h2 (Nat.le_of_eq h3))
theorem om186 {x0 x1 x2 x3 x4 : Nat} {x5 : Prop} : x2 = 100000 → x0 = x3 → x1 = x4 → x5 ∧ x3 + x4 ≤ x2 → x0 + x1 ≤ 100000 := fun h0 h1 h2 h3 => (lin [x2, x0, x3, x1, x4] (.c 1 (.v 0) (.n 100000) (.c 1 (.v 1) (.v 2) (.c 1 (.v 3) (.v 4) (.c 1 (.a (.v 2) (.v 4)) (.v 0) .e)))) (.a (.v 1) (.v 3)) (.n 100000) rfl (Nat.le_of_eq h0) (Nat.le_of_eq h1) (Nat.le_of_eq h2) (h3).2)
theorem om187 {x0 x1 x2 : Nat} : x1 = 16777216 → x0 + x2 ≤ 100000 → x0 ≤ x1 := fun h0 h1 => (lin [x1, x0, x2] (.c 1 (.n 16777216) (.v 0) (.c 1 (.a (.v 1) (.v 2)) (.n 100000) .e)) (.v 1) (.v 0) rfl (Nat.le_of_eq (h0).symm) h1)
theorem om188 {x0 x1 x2 : Nat} : x2 = 16777216 → x0 + x1 ≤ 100000 → x0 + x1 ≤ x2 + 1 := fun h0 h1 => (lin [x2, x0, x1] (.c 1 (.n 16777216) (.v 0) (.c 1 (.a (.v 1) (.v 2)) (.n 100000) .e)) (.a (.v 1) (.v 2)) (.a (.v 0) (.n 1)) rfl (Nat.le_of_eq (h0).symm) h1)
theorem om189 {x0 x1 x2 x3 : Nat} : x2 = 100000 → x1 = 16777216 → x0 = x3 → x3 + 1 ≤ x2 → x0 + 1 ≤ x1 := fun h0 h1 h2 h3 => (lin [x2, x1, x0, x3] (.c 1 (.v 0) (.n 100000) (.c 1 (.n 16777216) (.v 1) (.c 1 (.v 2) (.v 3) (.c 1 (.a (.v 3) (.n 1)) (.v 0) .e)))) (.a (.v 2) (.n 1)) (.v 1) rfl (Nat.le_of_eq h0) (Nat.le_of_eq (h1).symm) (Nat.le_of_eq h2) h3)
theorem om190 {x0 x1 : Nat} : x1 < x0 → 0 < (((x0 - x1) : Nat) : Int) := by omega
theorem om191 {x0 x1 : Nat} : x1 < x0 → (((x0 - x1) : Nat) : Int) - 1 = (((x0 - (x1 + 1)) : Nat) : Int) := by omega
theorem om192 {x0 x1 : Nat} : ¬x1 < x0 → (((x0 - x1) : Nat) : Int) ≤ 0 := by omega
theorem om193 {x0 : Int} : 0 ≤ x0 → x0 ≤ 1000 → ((-9223372036854775808 ≤ x0 ∧ x0 < 9223372036854775808) ∧ -9223372036854775808 ≤ max x0 0 ∧ max x0 0 < 9223372036854775808) ∧ (max x0 0 = 0 ∨ -9223372036854775808 ≤ x0 ∧ x0 < 9223372036854775808) := by omega
theorem om194 {x0 : Nat} : x0 ≤ 20 → x0 < 30 := fun h0 => (lin [x0] (.c 1 (.v 0) (.n 20) .e) (.a (.v 0) (.n 1)) (.n 30) rfl h0)
theorem om195 {x0 x1 : Nat} : x0 < 64 → x1 = 4096 → x0 + 1 < x1 := fun h0 h1 => (lin [x0, x1] (.c 1 (.a (.v 0) (.n 1)) (.n 64) (.c 1 (.n 4096) (.v 1) .e)) (.a (.a (.v 0) (.n 1)) (.n 1)) (.v 1) rfl h0 (Nat.le_of_eq (h1).symm))
theorem om196 {x0 x1 x2 : Nat} : x0 ≤ 1 → x1 ≤ x2 → x0 + x1 ≤ x2 + 1 := fun h0 h1 => (lin [x0, x1, x2] (.c 1 (.v 0) (.n 1) (.c 1 (.v 1) (.v 2) .e)) (.a (.v 0) (.v 1)) (.a (.v 2) (.n 1)) rfl h0 h1)
theorem om197 {x0 x1 : Nat} : x1 + x0 < 90000 → x0 < 0 + 100000 := fun h0 => (lin [x1, x0] (.c 1 (.a (.a (.v 0) (.v 1)) (.n 1)) (.n 90000) .e) (.a (.v 1) (.n 1)) (.n 100000) rfl h0)
theorem om198 {x0 x1 x2 x3 : Nat} : x0 + x2 < 90000 → x1 ≤ min x3 x2 → x0 + x1 < 100000 := fun h0 h1 => (lin [x0, x2, x1, min x3 x2, x3] (.c 1 (.a (.a (.v 0) (.v 1)) (.n 1)) (.n 90000) (.c 1 (.v 2) (.v 3) (.c 1 (.v 3) (.v 1) .e))) (.a (.a (.v 0) (.v 2)) (.n 1)) (.n 100000) rfl h0 h1 (Nat.min_le_right x3 x2))
theorem om199 {x0 x1 : Nat} : x0 ≤ x1 - 1 → 0 < x1 → x0 + 1 ≤ x1 := fun h0 h1 => (lin [x0, x1 - 1, x1] (.c 1 (.v 0) (.v 1) (.c 1 (.a (.v 1) (.n 1)) (.v 2) .e)) (.a (.v 0) (.n 1)) (.v 2) rfl h0 (ln_sub_b (lin [x0, x1 - 1, x1] (.c 1 (.a (.n 0) (.n 1)) (.v 2) .e) (.n 1) (.v 2) rfl h1)))
theorem om200 {x0 x1 x2 x3 : Int} : 0 ≤ x0 ∧ x0 ≤ x3 → 0 ≤ x1 ∧ x1 ≤ x2 → 0 ≤ x0 + x1 ∧ x0 + x1 ≤ x2 + x3 := by omega
theorem om201 {x0 x1 x2 : Nat} : x0 ≤ x1 → x0 ≤ max x1 x2 := fun h0 => (lin [x0, x1, max x1 x2, x2] (.c 1 (.v 0) (.v 1) (.c 1 (.v 1) (.v 2) .e)) (.v 0) (.v 2) rfl h0 (Nat.le_max_left x1 x2))
theorem om202 {x0 x1 x2 : Nat} : x0 ≤ x2 → x0 ≤ max x1 x2 := fun h0 => (lin [x0, x2, max x1 x2, x1] (.c 1 (.v 0) (.v 1) (.c 1 (.v 1) (.v 2) .e)) (.v 0) (.v 2) rfl h0 (Nat.le_max_right x1 x2))
theorem om203 {x0 x1 : Nat} : x1 ≤ 6 → x0 < x1 → x0 ≤ 5 := fun h0 h1 => (lin [x1, x0] (.c 1 (.v 0) (.n 6) (.c 1 (.a (.v 1) (.n 1)) (.v 0) .e)) (.v 1) (.n 5) rfl h0 h1)
theorem om204 {x0 x1 x2 : Nat} : x1 ≤ 2 ∧ x2 ≤ 2 ∧ x0 ≤ 3 → x0 < 90000 := fun h0 => (lin [x1, x2, x0] (.c 1 (.v 2) (.n 3) .e) (.a (.v 2) (.n 1)) (.n 90000) rfl ((h0).2).2)
theorem om205 {x0 x1 x2 : Nat} : x1 ≤ 2 ∧ x2 ≤ 2 ∧ x0 ≤ 3 → x0 ≤ 3 := fun h0 => (lin [x1, x2, x0] (.c 1 (.v 2) (.n 3) .e) (.v 2) (.n 3) rfl ((h0).2).2)
theorem om206 {x0 : Nat} : x0 ≤ 3 → (x0 : Int) ≤ 3 := by omega
theorem om207 {x0 : Nat} : 0 < 3 ^ x0 → 0 ≤ (((3 ^ x0) : Nat) : Int) := by omega
theorem om208 {x0 : Nat} : x0 ≤ 3 → x0 < 1000 := fun h0 => (lin [x0] (.c 1 (.v 0) (.n 3) .e) (.a (.v 0) (.n 1)) (.n 1000) rfl h0)
theorem om209 {x0 : Int} {x1 : Nat} : 3 ^ x1 ≤ 3 ^ 5 → 0 ≤ x0 ∧ x0 ≤ (((3 ^ x1) : Nat) : Int) → x0.natAbs < 2 ^ 40 := by omega
theorem om210 {x0 x1 x2 : Nat} : x2 ≤ x1 → x0 + 2 < x2 → x0 + 1 ≠ x1 := fun h0 h1 => fun n => (lin0 [x2, x1, x0] (.c 1 (.v 0) (.v 1) (.c 1 (.a (.a (.v 2) (.n 2)) (.n 1)) (.v 0) (.c 1 (.v 1) (.a (.v 2) (.n 1)) .e))) rfl h0 h1 (Nat.le_of_eq (n).symm))
theorem om211 {x0 x1 : Nat} : x0 + 3 ≤ x1 → x0 + 1 ≠ x1 := fun h0 => fun n => (lin0 [x0, x1] (.c 1 (.a (.v 0) (.n 3)) (.v 1) (.c 1 (.v 1) (.a (.v 0) (.n 1)) .e)) rfl h0 (Nat.le_of_eq (n).symm))
theorem om212 {x0 x1 x2 x3 x4 : Nat} : x1 ≤ 2 ∧ x2 ≤ 2 ∧ x3 ≤ 3 → x4 ≤ x3 → x0 = x4 → x0 ≤ 100000 := fun h0 h1 h2 => (lin [x1, x2, x3, x4, x0] (.c 1 (.v 2) (.n 3) (.c 1 (.v 3) (.v 2) (.c 1 (.v 4) (.v 3) .e))) (.v 4) (.n 100000) rfl ((h0).2).2 h1 (Nat.le_of_eq h2))
theorem om213 {x0 x1 x2 x3 x4 : Nat} : x1 ≤ 2 ∧ x2 ≤ 2 ∧ x3 ≤ 3 → x4 ≤ x3 → x0 = x4 → x0 < 10000000 := fun h0 h1 h2 => (lin [x1, x2, x3, x4, x0] (.c 1 (.v 2) (.n 3) (.c 1 (.v 3) (.v 2) (.c 1 (.v 4) (.v 3) .e))) (.a (.v 4) (.n 1)) (.n 10000000) rfl ((h0).2).2 h1 (Nat.le_of_eq h2))
theorem om214 {x0 : Int} {x1 x2 : Nat} : x1 ≤ 6 → x2 < x1 → 0 ≤ x0 ∧ x0 ≤ 2 * (x2 : Int) + 1 → x0.natAbs < 2 ^ 40 := by omega
theorem om215 {x0 : Nat} {x1 : Int} {x2 x3 x4 x5 : Nat} : x3 ≤ 2 ∧ x4 ≤ 2 ∧ x5 ≤ 3 → x0 ≤ x4 → 0 ≤ x1 ∧ x1 ≤ 2 * (x2 : Int) + 1 → 0 ≤ (x0 : Int) + x1 ∧ (x0 : Int) + x1 ≤ 2 * (((x2 + 1) : Nat) : Int) + 1 := by omega
theorem om216 {x0 x1 : Nat} : x0 ≤ x1 → x0 ≤ x1 + 2 := fun h0 => (lin [x0, x1] (.c 1 (.v 0) (.v 1) .e) (.v 0) (.a (.v 1) (.n 2)) rfl h0)
theorem om217 {x0 x1 : Nat} : x0 + 3 ≤ x1 → x0 + 2 ≠ x1 := fun h0 => fun n => (lin0 [x0, x1] (.c 1 (.a (.v 0) (.n 3)) (.v 1) (.c 1 (.v 1) (.a (.v 0) (.n 2)) .e)) rfl h0 (Nat.le_of_eq (n).symm))
theorem om218 {x0 : Int} {x1 : Nat} {x2 : Int} : 3 ^ x1 ≤ 3 ^ 5 → 0 ≤ x0 ∧ x0 ≤ x2 → x2 ≤ 3 * (((3 ^ x1) : Nat) : Int) → ¬10000 < x0 := by omega
theorem om219 {x0 : Int} {x1 x2 : Nat} : x1 ≤ 6 → x2 < x1 → 0 ≤ x0 ∧ x0 ≤ 2 * (((x2 + 1) : Nat) : Int) + 1 → ¬200 < x0 := by omega
theorem om220 {x0 x1 x2 x3 : Nat} : x2 ≤ 2 ∧ x0 ≤ 2 ∧ x3 ≤ 3 → x0 ≤ x1 + 3 := fun h0 => (lin [x2, x0, x3, x1] (.c 1 (.v 1) (.n 2) .e) (.v 1) (.a (.v 3) (.n 3)) rfl ((h0).2).1)
theorem om221 {x0 : Int} {x1 : Nat} : 0 ≤ x0 ∧ x0 ≤ (((3 ^ x1) : Nat) : Int) → 0 ≤ x0 ∧ x0 ≤ (((3 ^ (x1 + 1)) : Nat) : Int) := by omega
theorem om222 {x0 : Int} {x1 : Nat} {x2 : Int} : 0 ≤ x0 ∧ x0 ≤ x2 → x2 ≤ 3 * (((3 ^ x1) : Nat) : Int) → x0 ≤ (((3 ^ (x1 + 1)) : Nat) : Int) := by omega
theorem om223 {x0 : Int} {x1 : Nat} : 0 ≤ x0 ∧ x0 ≤ 2 * (x1 : Int) + 1 → 0 ≤ x0 ∧ x0 ≤ 2 * (((x1 + 1) : Nat) : Int) + 1 := by omega
theorem om224 {x0 x1 : Nat} : x0 + 3 ≤ x1 → x0 ≠ x1 := fun h0 => fun n => (lin0 [x0, x1] (.c 1 (.a (.v 0) (.n 3)) (.v 1) (.c 1 (.v 1) (.v 0) .e)) rfl h0 (Nat.le_of_eq (n).symm))
theorem om225 {x0 x1 x2 x3 : Nat} : x1 ≤ 2 ∧ x2 ≤ 2 ∧ x3 ≤ 3 → x0 ≤ x3 → x0 < 90000 := fun h0 h1 => (lin [x1, x2, x3, x0] (.c 1 (.v 2) (.n 3) (.c 1 (.v 3) (.v 2) .e)) (.a (.v 3) (.n 1)) (.n 90000) rfl ((h0).2).2 h1)
theorem om226 {x0 : Nat} : ¬x0 < 0 := fun n => (lin0 [x0] (.c 1 (.a (.v 0) (.n 1)) (.n 0) .e) rfl n)
theorem om227 {x0 : Nat} : x0 ≤ 900 → x0 + 1 ≤ 1000 := fun h0 => (lin [x0] (.c 1 (.v 0) (.n 900) .e) (.a (.v 0) (.n 1)) (.n 1000) rfl h0)
theorem om228 {x0 : Nat} : x0 ≤ 900 → x0 ≤ 99999 := fun h0 => (lin [x0] (.c 1 (.v 0) (.n 900) .e) (.v 0) (.n 99999) rfl h0)
theorem om229 {x0 x1 x2 : Nat} : x1 ≤ 2 ∧ x0 ≤ 2 ∧ x2 ≤ 3 → x0 < 4 := fun h0 => (lin [x1, x0, x2] (.c 1 (.v 1) (.n 2) .e) (.a (.v 1) (.n 1)) (.n 4) rfl ((h0).2).1)
theorem om230 {x0 : Nat} : x0 ≤ 6 → 0 + x0 ≤ 100000 := fun h0 => (lin [x0] (.c 1 (.v 0) (.n 6) .e) (.a (.n 0) (.v 0)) (.n 100000) rfl h0)
theorem om231 {x0 : Nat} : x0 ≤ 6 → 1 ≤ 10 - x0 := fun h0 => (lin [x0, 10 - x0] (.c 1 (.v 0) (.n 6) (.c 1 (.n 10) (.a (.v 1) (.v 0)) .e)) (.n 1) (.v 1) rfl h0 (ln_sub_a 10 x0))
theorem om232 {x0 x1 x2 : Nat} : x1 ≤ 6 → x0 = x1 - (x2 + 1) → x0 ≤ 6 := fun h0 h1 => (lin [x1, x0, x1 - (x2 + 1), x2] (.c 1 (.v 0) (.n 6) (.c 1 (.v 1) (.v 2) (.c 1 (.v 2) (.v 0) .e))) (.v 1) (.n 6) rfl h0 (Nat.le_of_eq h1) (Nat.sub_le x1 (x2 + 1)))
theorem om233 {x0 x1 x2 : Nat} : x1 ≤ 2 ∧ x0 ≤ 2 ∧ x2 ≤ 3 → x0 < 5 := fun h0 => (lin [x1, x0, x2] (.c 1 (.v 1) (.n 2) .e) (.a (.v 1) (.n 1)) (.n 5) rfl ((h0).2).1)
theorem om234 {x0 x1 : Nat} : x0 ≤ 10 - (x1 + 1) → x0 < 100000 := fun h0 => (lin [x0, 10 - (x1 + 1), x1] (.c 1 (.v 0) (.v 1) (.c 1 (.v 1) (.n 10) .e)) (.a (.v 0) (.n 1)) (.n 100000) rfl h0 (Nat.sub_le 10 (x1 + 1)))
theorem om235 {x0 x1 : Nat} : x1 ≤ 6 → min x0 x1 + 1 ≤ 100000 := fun h0 => (lin [x1, min x0 x1, x0] (.c 1 (.v 0) (.n 6) (.c 1 (.v 1) (.v 0) .e)) (.a (.v 1) (.n 1)) (.n 100000) rfl h0 (Nat.min_le_right x0 x1))
theorem om236 {x0 x1 x2 : Nat} : x1 ≤ 2 ∧ x0 ≤ 2 ∧ x2 ≤ 3 → x0 < 60 := fun h0 => (lin [x1, x0, x2] (.c 1 (.v 1) (.n 2) .e) (.a (.v 1) (.n 1)) (.n 60) rfl ((h0).2).1)
theorem om237 {x0 x1 x2 : Nat} : x2 ≤ 6 → x1 < x2 → x0 ≤ 10 - (x1 + 1) → x0 + 1 ≤ 10 - x1 := fun h0 h1 h2 => (lin [x2, x1, x0, 10 - (x1 + 1), 10 - x1] (.c 1 (.v 2) (.v 3) (.c 1 (.a (.v 3) (.a (.v 1) (.n 1))) (.n 10) (.c 1 (.n 10) (.a (.v 4) (.v 1)) .e))) (.a (.v 2) (.n 1)) (.v 4) rfl h2 (ln_sub_b (lin [x2, x1, x0, 10 - (x1 + 1), 10 - x1] (.c 1 (.v 0) (.n 6) (.c 1 (.a (.v 1) (.n 1)) (.v 0) .e)) (.a (.v 1) (.n 1)) (.n 10) rfl h0 h1)) (ln_sub_a 10 x1))
theorem om238 {x0 : Nat} : x0 ≤ 6 → x0 + 1 < 100000 := fun h0 => (lin [x0] (.c 1 (.v 0) (.n 6) .e) (.a (.a (.v 0) (.n 1)) (.n 1)) (.n 100000) rfl h0)
theorem om239 {x0 x1 : Nat} : x1 ≤ 6 → min x0 x1 ≤ 100000 := fun h0 => (lin [x1, min x0 x1, x0] (.c 1 (.v 0) (.n 6) (.c 1 (.v 1) (.v 0) .e)) (.v 1) (.n 100000) rfl h0 (Nat.min_le_right x0 x1))
theorem om240 {x0 x1 : Nat} : x0 + 1 ≤ x1 → 0 < (((min (x0 + 1) x1) : Nat) : Int) := by omega
theorem om241 {x0 x1 : Nat} : x0 + 1 ≤ x1 → x0 ≤ x1 := fun h0 => (lin [x0, x1] (.c 1 (.a (.v 0) (.n 1)) (.v 1) .e) (.v 0) (.v 1) rfl h0)
theorem om242 {x0 x1 : Nat} : x1 ≤ 1000 → x0 < x1 → x0 < 10000000 := fun h0 h1 => (lin [x1, x0] (.c 1 (.v 0) (.n 1000) (.c 1 (.a (.v 1) (.n 1)) (.v 0) .e)) (.a (.v 1) (.n 1)) (.n 10000000) rfl h0 h1)
theorem om243 {x0 : Nat} : x0 ≤ 900 → x0 < 1000 := fun h0 => (lin [x0] (.c 1 (.v 0) (.n 900) .e) (.a (.v 0) (.n 1)) (.n 1000) rfl h0)
theorem om244 {x0 : Nat} : x0 ≤ 6 → x0 + 3 ≤ 100000 := fun h0 => (lin [x0] (.c 1 (.v 0) (.n 6) .e) (.a (.v 0) (.n 3)) (.n 100000) rfl h0)
theorem om245 {x0 x1 : Nat} : x0 < x1 → x0 ≠ x1 + 1 := fun h0 => fun n => (lin0 [x0, x1] (.c 1 (.a (.v 0) (.n 1)) (.v 1) (.c 1 (.a (.v 1) (.n 1)) (.v 0) .e)) rfl h0 (Nat.le_of_eq (n).symm))
theorem om246 {x0 : Nat} : x0 ≤ 900 → x0 + 1 < 1000 := fun h0 => (lin [x0] (.c 1 (.v 0) (.n 900) .e) (.a (.a (.v 0) (.n 1)) (.n 1)) (.n 1000) rfl h0)
theorem om247 {x0 : Nat} : x0 ≤ 900 → x0 + 1 + 1 < 1000 := fun h0 => (lin [x0] (.c 1 (.v 0) (.n 900) .e) (.a (.a (.a (.v 0) (.n 1)) (.n 1)) (.n 1)) (.n 1000) rfl h0)
theorem om248 {x0 : Nat} : x0 + 1 + 1 + 1 ≤ x0 + 3 := (lin [x0] .e (.a (.a (.a (.v 0) (.n 1)) (.n 1)) (.n 1)) (.a (.v 0) (.n 3)) rfl)
theorem om249 {x0 : Nat} : ¬x0 + 1 ≤ 0 := fun n => (lin0 [x0] (.c 1 (.a (.v 0) (.n 1)) (.n 0) .e) rfl n)
theorem om250 {x0 x1 : Nat} : x1 < x0 → x0 = x0 - 1 + 1 := fun h0 => (Nat.le_antisymm (lin [x1, x0, x0 - 1] (.c 1 (.v 1) (.a (.v 2) (.n 1)) .e) (.v 1) (.a (.v 2) (.n 1)) rfl (ln_sub_a x0 1)) (lin [x1, x0, x0 - 1] (.c 1 (.a (.v 2) (.n 1)) (.v 1) .e) (.a (.v 2) (.n 1)) (.v 1) rfl (ln_sub_b (lin [x1, x0, x0 - 1] (.c 1 (.a (.v 0) (.n 1)) (.v 1) .e) (.n 1) (.v 1) rfl h0))))
theorem om251 {x0 x1 x2 : Nat} {x3 : Prop} : x0 < x2 + 1 → x3 ∧ x1 ≤ 2 → 4 * x0 + x1 + 1 ≤ 4 * (x2 + 1) := fun h0 h1 => (lin [x0, x2, x1] (.c 4 (.a (.v 0) (.n 1)) (.a (.v 1) (.n 1)) (.c 1 (.v 2) (.n 2) .e)) (.a (.a (.m 4 (.v 0)) (.v 2)) (.n 1)) (.m 4 (.a (.v 1) (.n 1))) rfl h0 (h1).2)
theorem om252 {x0 x1 x2 x3 : Nat} {x4 : Prop} {x5 : Nat} {x6 x7 : Prop} : x3 < x1 + 1 → x4 ∧ x5 ≤ 2 → x6 ∧ x0 ≤ 2 * x3 + x5 ∧ x7 → x0 ≤ 2 * (x1 + 1) + x2 := fun h0 h1 h2 => (lin [x3, x1, x5, x0, x2] (.c 2 (.a (.v 0) (.n 1)) (.a (.v 1) (.n 1)) (.c 1 (.v 2) (.n 2) (.c 1 (.v 3) (.a (.m 2 (.v 0)) (.v 2)) .e))) (.v 3) (.a (.m 2 (.a (.v 1) (.n 1))) (.v 4)) rfl h0 (h1).2 ((h2).2).1)
theorem om253 {x0 x1 : Nat} : 4 * x0 + (x1 + 1) + 1 = 4 * x0 + x1 + 1 + 1 := (Nat.le_antisymm (lin [x0, x1] .e (.a (.a (.m 4 (.v 0)) (.a (.v 1) (.n 1))) (.n 1)) (.a (.a (.a (.m 4 (.v 0)) (.v 1)) (.n 1)) (.n 1)) rfl) (lin [x0, x1] .e (.a (.a (.a (.m 4 (.v 0)) (.v 1)) (.n 1)) (.n 1)) (.a (.a (.m 4 (.v 0)) (.a (.v 1) (.n 1))) (.n 1)) rfl))
theorem om254 {x0 x1 x2 : Nat} {x3 x4 : Prop} : x3 ∧ x0 ≤ 2 * x1 + x2 ∧ x4 → x0 + 1 ≤ 2 * x1 + (x2 + 1) := fun h0 => (lin [x0, x1, x2] (.c 1 (.v 0) (.a (.m 2 (.v 1)) (.v 2)) .e) (.a (.v 0) (.n 1)) (.a (.m 2 (.v 1)) (.a (.v 2) (.n 1))) rfl ((h0).2).1)
theorem om255 {x0 x1 x2 : Nat} : 4 * x0 + (max x1 x2 + 1) + 1 = 4 * x0 + max x1 x2 + 1 + 1 := (Nat.le_antisymm (lin [x0, max x1 x2, x1, x2] .e (.a (.a (.m 4 (.v 0)) (.a (.v 1) (.n 1))) (.n 1)) (.a (.a (.a (.m 4 (.v 0)) (.v 1)) (.n 1)) (.n 1)) rfl) (lin [x0, max x1 x2, x1, x2] .e (.a (.a (.a (.m 4 (.v 0)) (.v 1)) (.n 1)) (.n 1)) (.a (.a (.m 4 (.v 0)) (.a (.v 1) (.n 1))) (.n 1)) rfl))
theorem om256 {x0 x1 x2 : Nat} : 4 * x0 + x1 + 1 ≤ 4 * x0 + max x1 x2 + 1 := (lin [x0, x1, max x1 x2, x2] (.c 1 (.v 1) (.v 2) .e) (.a (.a (.m 4 (.v 0)) (.v 1)) (.n 1)) (.a (.a (.m 4 (.v 0)) (.v 2)) (.n 1)) rfl (Nat.le_max_left x1 x2))
theorem om257 {x0 x1 x2 : Nat} : 4 * x0 + x1 + 1 ≤ 4 * x0 + max x2 x1 + 1 := (lin [x0, x1, max x2 x1, x2] (.c 1 (.v 1) (.v 2) .e) (.a (.a (.m 4 (.v 0)) (.v 1)) (.n 1)) (.a (.a (.m 4 (.v 0)) (.v 2)) (.n 1)) rfl (Nat.le_max_right x2 x1))
theorem om258 {x0 x1 x2 x3 x4 : Nat} {x5 x6 x7 x8 : Prop} : x5 ∧ x0 ≤ 2 * x2 + x3 ∧ x6 → x7 ∧ x1 ≤ 2 * x2 + x4 ∧ x8 → max x0 x1 + 1 ≤ 2 * x2 + (max x3 x4 + 1) := by omega
theorem om259 {x0 : Nat} : x0 < x0 + 1 := (lin [x0] .e (.a (.v 0) (.n 1)) (.a (.v 0) (.n 1)) rfl)
theorem om260 {x0 x1 : Nat} : x0 < x0 + x1 + 1 := (lin [x0, x1] .e (.a (.v 0) (.n 1)) (.a (.a (.v 0) (.v 1)) (.n 1)) rfl)
theorem om261 {x0 x1 : Nat} : x0 < x1 + x0 + 1 := (lin [x0, x1] .e (.a (.v 0) (.n 1)) (.a (.a (.v 1) (.v 0)) (.n 1)) rfl)
theorem om262 {x0 : Nat} : x0 ≤ 6 → x0 < 7 := fun h0 => (lin [x0] (.c 1 (.v 0) (.n 6) .e) (.a (.v 0) (.n 1)) (.n 7) rfl h0)
theorem om263 {x0 : Nat} : x0 ≤ 2 * 7 + 0 → x0 < 60 := fun h0 => (lin [x0] (.c 1 (.v 0) (.n 14) .e) (.a (.v 0) (.n 1)) (.n 60) rfl h0)
theorem om264 {x0 : Nat} : ¬x0 ≤ 40 → 40 ≤ x0 := fun h0 => (lin [x0] (.c 1 (.a (.n 40) (.n 1)) (.v 0) .e) (.n 40) (.v 0) rfl (Nat.lt_of_not_le h0))
theorem om265 {x0 x1 x2 : Nat} : 4 * x0 + (x1 + 1) + 1 ≤ x2 + 1 → 4 * x0 + x1 + 1 ≤ x2 := fun h0 => (lin [x0, x1, x2] (.c 1 (.a (.a (.m 4 (.v 0)) (.a (.v 1) (.n 1))) (.n 1)) (.a (.v 2) (.n 1)) .e) (.a (.a (.m 4 (.v 0)) (.v 1)) (.n 1)) (.v 2) rfl h0)
theorem om266 {x0 x1 x2 x3 : Nat} : 4 * x0 + (max x1 x3 + 1) + 1 ≤ x2 + 1 → 4 * x0 + x1 + 1 ≤ x2 := fun h0 => (lin [x0, max x1 x3, x2, x1, x3] (.c 1 (.a (.a (.m 4 (.v 0)) (.a (.v 1) (.n 1))) (.n 1)) (.a (.v 2) (.n 1)) (.c 1 (.v 3) (.v 1) .e)) (.a (.a (.m 4 (.v 0)) (.v 3)) (.n 1)) (.v 2) rfl h0 (Nat.le_max_left x1 x3))
theorem om267 {x0 x1 x2 x3 : Nat} : 4 * x0 + (max x3 x1 + 1) + 1 ≤ x2 + 1 → 4 * x0 + x1 + 1 ≤ x2 := fun h0 => (lin [x0, max x3 x1, x2, x1, x3] (.c 1 (.a (.a (.m 4 (.v 0)) (.a (.v 1) (.n 1))) (.n 1)) (.a (.v 2) (.n 1)) (.c 1 (.v 3) (.v 1) .e)) (.a (.a (.m 4 (.v 0)) (.v 3)) (.n 1)) (.v 2) rfl h0 (Nat.le_max_right x3 x1))
theorem om268 {x0 x1 : Nat} {x2 : Prop} : x2 ∧ x1 ≤ 2 → x0 ≤ 6 → 4 * x0 + x1 + 1 ≤ 39 := fun h0 h1 => (lin [x1, x0] (.c 1 (.v 0) (.n 2) (.c 4 (.v 1) (.n 6) .e)) (.a (.a (.m 4 (.v 1)) (.v 0)) (.n 1)) (.n 39) rfl (h0).2 h1)
theorem om269 {x0 x1 x2 : Nat} : x0 < min x1 x2 → x0 + 1 < x1 + 1 := fun h0 => (lin [x0, min x1 x2, x1, x2] (.c 1 (.a (.v 0) (.n 1)) (.v 1) (.c 1 (.v 1) (.v 2) .e)) (.a (.a (.v 0) (.n 1)) (.n 1)) (.a (.v 2) (.n 1)) rfl h0 (Nat.min_le_left x1 x2))
theorem om270 {x0 x1 : Nat} : x0 ≤ 1 → x1 ≤ 1 → x0 + x1 ≤ 2 := fun h0 h1 => (lin [x0, x1] (.c 1 (.v 0) (.n 1) (.c 1 (.v 1) (.n 1) .e)) (.a (.v 0) (.v 1)) (.n 2) rfl h0 h1)
theorem om271 {x0 x1 x2 : Nat} : x0 < min x1 x2 → x0 < x1 := fun h0 => (lin [x0, min x1 x2, x1, x2] (.c 1 (.a (.v 0) (.n 1)) (.v 1) (.c 1 (.v 1) (.v 2) .e)) (.a (.v 0) (.n 1)) (.v 2) rfl h0 (Nat.min_le_left x1 x2))
theorem om272 {x0 x1 : Nat} : x0 < x1 → x1 ≤ 6 → x0 + 1 ≤ 6 := fun h0 h1 => (lin [x0, x1] (.c 1 (.a (.v 0) (.n 1)) (.v 1) (.c 1 (.v 1) (.n 6) .e)) (.a (.v 0) (.n 1)) (.n 6) rfl h0 h1)
theorem om274 {x0 x1 x2 : Nat} : x1 < 90000 → x0 = x2 → x2 < x1 → x0 < 100000 := fun h0 h1 h2 => (lin [x1, x0, x2] (.c 1 (.a (.v 0) (.n 1)) (.n 90000) (.c 1 (.v 1) (.v 2) (.c 1 (.a (.v 2) (.n 1)) (.v 0) .e))) (.a (.v 1) (.n 1)) (.n 100000) rfl h0 (Nat.le_of_eq h1) h2)
theorem om275 {x0 x1 : Nat} : x0 = x1 → x1 ≤ 6 → x0 ≤ 1000 := fun h0 h1 => (lin [x0, x1] (.c 1 (.v 0) (.v 1) (.c 1 (.v 1) (.n 6) .e)) (.v 0) (.n 1000) rfl (Nat.le_of_eq h0) h1)
theorem om276 {x0 : Nat} : 40 ≤ x0 + 50 := (lin [x0] .e (.n 40) (.a (.v 0) (.n 50)) rfl)
theorem om277 {x0 x1 : Nat} : x0 = x1 → x1 ≤ 6 → x0 ≤ 6 := fun h0 h1 => (lin [x0, x1] (.c 1 (.v 0) (.v 1) (.c 1 (.v 1) (.n 6) .e)) (.v 0) (.n 6) rfl (Nat.le_of_eq h0) h1)
theorem om278 {x0 x1 x2 : Nat} : x1 ≤ 6 → x2 < x1 → x0 ≤ 3 + 3 * x2 → x0 ≤ 900 := fun h0 h1 h2 => (lin [x1, x2, x0] (.c 3 (.v 0) (.n 6) (.c 3 (.a (.v 1) (.n 1)) (.v 0) (.c 1 (.v 2) (.a (.n 3) (.m 3 (.v 1))) .e))) (.v 2) (.n 900) rfl h0 h1 h2)
theorem om279 {x0 x1 x2 : Nat} : x2 ≤ 3 + 3 * x1 → x0 ≤ x2 + 3 → x0 ≤ 3 + 3 * (x1 + 1) := fun h0 h1 => (lin [x2, x1, x0] (.c 1 (.v 0) (.a (.n 3) (.m 3 (.v 1))) (.c 1 (.v 2) (.a (.v 0) (.n 3)) .e)) (.v 2) (.a (.n 3) (.m 3 (.a (.v 1) (.n 1)))) rfl h0 h1)
theorem om280 {x0 x1 : Nat} : ¬x0 < x1 → x0 < x1 + 1 → x0 = x1 := fun h0 h1 => (Nat.le_antisymm (lin [x1, x0] (.c 1 (.a (.v 1) (.n 1)) (.a (.v 0) (.n 1)) .e) (.v 1) (.v 0) rfl h1) (lin [x1, x0] (.c 1 (.v 0) (.v 1) .e) (.v 0) (.v 1) rfl (Nat.le_of_not_lt h0)))
theorem om281 {x0 x1 : Nat} : x1 < x0 → x0 ≠ x1 := fun h0 => fun n => (lin0 [x1, x0] (.c 1 (.a (.v 0) (.n 1)) (.v 1) (.c 1 (.v 1) (.v 0) .e)) rfl h0 (Nat.le_of_eq n))
theorem om282 {x0 x1 : Nat} : x1 = x0 → min x0 x1 = x0 := by omega
theorem om283 {x0 x1 : Nat} : x0 ≤ 6 → x0 - x1 + min x1 x0 ≤ 100000 := by omega
theorem om284 {x0 : Nat} : x0 < 6 → x0 < 10000000 := fun h0 => (lin [x0] (.c 1 (.a (.v 0) (.n 1)) (.n 6) .e) (.a (.v 0) (.n 1)) (.n 10000000) rfl h0)
theorem om285 {x0 : Nat} : 1 + (x0 : Int) = (((x0 + 1) : Nat) : Int) := by omega
theorem om286 {x0 : Nat} : x0 < 6 → 1 ≤ x0 + 1 ∧ x0 + 1 ≤ 6 := fun h0 => ⟨(lin [x0] .e (.n 1) (.a (.v 0) (.n 1)) rfl), (lin [x0] (.c 1 (.a (.v 0) (.n 1)) (.n 6) .e) (.a (.v 0) (.n 1)) (.n 6) rfl h0)⟩
theorem om287 {x0 : Nat} : 6 - x0 + min x0 6 ≤ 100000 := (lin [6 - x0, min x0 6, x0] (.c 1 (.v 0) (.n 6) (.c 1 (.v 1) (.n 6) .e)) (.a (.v 0) (.v 1)) (.n 100000) rfl (Nat.sub_le 6 x0) (Nat.min_le_right x0 6))
theorem om288 {x0 : Nat} : 1 ≤ x0 ∧ x0 ≤ 6 → x0 ≤ 1000 := fun h0 => (lin [x0] (.c 1 (.v 0) (.n 6) .e) (.v 0) (.n 1000) rfl (h0).2)
theorem om289 {x0 x1 : Nat} : 1 ≤ x0 ∧ x0 ≤ 6 → x1 = 6 → min x0 x1 = x0 := by omega
theorem om290 {x0 x1 : Nat} : 1 ≤ x1 ∧ x1 ≤ 6 → x0 = x1 → x0 ≤ 6 := fun h0 h1 => (lin [x1, x0] (.c 1 (.v 0) (.n 6) (.c 1 (.v 1) (.v 0) .e)) (.v 1) (.n 6) rfl (h0).2 (Nat.le_of_eq h1))
theorem om291 {x0 x1 : Nat} : 1 ≤ x1 ∧ x1 ≤ 6 → x0 = x1 → 0 < x0 := fun h0 h1 => (lin [x1, x0] (.c 1 (.n 1) (.v 0) (.c 1 (.v 0) (.v 1) .e)) (.a (.n 0) (.n 1)) (.v 1) rfl (h0).1 (Nat.le_of_eq (h1).symm))
theorem om292 {x0 : Nat} : x0 ≤ 1000 → x0 + 1 ≤ 100000 := fun h0 => (lin [x0] (.c 1 (.v 0) (.n 1000) .e) (.a (.v 0) (.n 1)) (.n 100000) rfl h0)
theorem om293 {x0 : Nat} : (((x0 + 1 + 1) : Nat) : Int) ≠ 1 := by omega
theorem om294 {x0 : Nat} : x0 ≤ 1000 → x0 < 90000 := fun h0 => (lin [x0] (.c 1 (.v 0) (.n 1000) .e) (.a (.v 0) (.n 1)) (.n 90000) rfl h0)
theorem om295 {x0 x1 : Nat} : x1 ≤ 1000 → x0 ≤ x1 → 1 + x0 ≤ 100000 := fun h0 h1 => (lin [x1, x0] (.c 1 (.v 0) (.n 1000) (.c 1 (.v 1) (.v 0) .e)) (.a (.n 1) (.v 1)) (.n 100000) rfl h0 h1)
theorem om296 {x0 x1 : Nat} : x1 ≤ 1000 → x0 ≤ 1000 → x0 + x1 ≤ 100000 := fun h0 h1 => (lin [x1, x0] (.c 1 (.v 0) (.n 1000) (.c 1 (.v 1) (.n 1000) .e)) (.a (.v 1) (.v 0)) (.n 100000) rfl h0 h1)
theorem om297 {x0 x1 x2 : Nat} : max x1 x2 + 1 ≤ x0 → x0 = x0 - 1 + 1 := fun h0 => (Nat.le_antisymm (lin [max x1 x2, x0, x0 - 1, x1, x2] (.c 1 (.v 1) (.a (.v 2) (.n 1)) .e) (.v 1) (.a (.v 2) (.n 1)) rfl (ln_sub_a x0 1)) (lin [max x1 x2, x0, x0 - 1, x1, x2] (.c 1 (.a (.v 2) (.n 1)) (.v 1) .e) (.a (.v 2) (.n 1)) (.v 1) rfl (ln_sub_b (lin [max x1 x2, x0, x0 - 1, x1, x2] (.c 1 (.a (.v 0) (.n 1)) (.v 1) .e) (.n 1) (.v 1) rfl h0))))
theorem om298 {x0 x1 x2 : Nat} : max x0 x2 + 1 ≤ x1 + 1 → x0 ≤ x1 := fun h0 => (lin [max x0 x2, x1, x0, x2] (.c 1 (.a (.v 0) (.n 1)) (.a (.v 1) (.n 1)) (.c 1 (.v 2) (.v 0) .e)) (.v 2) (.v 1) rfl h0 (Nat.le_max_left x0 x2))
theorem om299 {x0 x1 : Nat} : x0 + x1 + 1 ≤ 1000 → x0 ≤ 999 := fun h0 => (lin [x0, x1] (.c 1 (.a (.a (.v 0) (.v 1)) (.n 1)) (.n 1000) .e) (.v 0) (.n 999) rfl h0)
theorem om300 {x0 x1 x2 : Nat} : max x2 x0 + 1 ≤ x1 + 1 → x0 ≤ x1 := fun h0 => (lin [max x2 x0, x1, x0, x2] (.c 1 (.a (.v 0) (.n 1)) (.a (.v 1) (.n 1)) (.c 1 (.v 2) (.v 0) .e)) (.v 2) (.v 1) rfl h0 (Nat.le_max_right x2 x0))
theorem om301 {x0 x1 x2 : Nat} : x2 + 1 = x1 → x0 ≤ x2 → x0 < x1 := fun h0 h1 => (lin [x2, x1, x0] (.c 1 (.a (.v 0) (.n 1)) (.v 1) (.c 1 (.v 2) (.v 0) .e)) (.a (.v 2) (.n 1)) (.v 1) rfl (Nat.le_of_eq h0) h1)
theorem om302 {x0 x1 x2 x3 : Nat} : x2 + 1 = x1 → x3 ≤ x2 → x0 ≤ x3 → x0 + 1 ≤ x1 := fun h0 h1 h2 => (lin [x2, x1, x3, x0] (.c 1 (.a (.v 0) (.n 1)) (.v 1) (.c 1 (.v 2) (.v 0) (.c 1 (.v 3) (.v 2) .e))) (.a (.v 3) (.n 1)) (.v 1) rfl (Nat.le_of_eq h0) h1 h2)
theorem om303 {x0 : Nat} : x0 < 64 → x0 < 90000 := fun h0 => (lin [x0] (.c 1 (.a (.v 0) (.n 1)) (.n 64) .e) (.a (.v 0) (.n 1)) (.n 90000) rfl h0)
theorem om304 {x0 : Nat} : x0 < 64 → x0 ≤ 1000 := fun h0 => (lin [x0] (.c 1 (.a (.v 0) (.n 1)) (.n 64) .e) (.v 0) (.n 1000) rfl h0)
theorem om305 {x0 : Nat} : 0 < x0 → (x0 : Int) ≠ 0 := by omega
theorem om306 {x0 : Int} {x1 : Nat} : 0 ≤ x0 → x0 < (x1 : Int) → x0.toNat < x1 := by omega
theorem om307 {x0 : Int} : 0 ≤ x0 → x0 = (x0.toNat : Int) := by omega
theorem om308 {x0 x1 : Nat} : x0 = x1 → x1 ≤ 40 → x0 ≤ 100000 := fun h0 h1 => (lin [x0, x1] (.c 1 (.v 0) (.v 1) (.c 1 (.v 1) (.n 40) .e)) (.v 0) (.n 100000) rfl (Nat.le_of_eq h0) h1)
theorem om309 {x0 : Int} : 0 ≤ x0 ∧ x0 < 1000003 → x0.natAbs < 2 ^ 40 := by omega
theorem om310 {x0 : Nat} : x0 ≤ 1000 → 2 * x0 < 10000000 := fun h0 => (lin [x0] (.c 2 (.v 0) (.n 1000) .e) (.a (.m 2 (.v 0)) (.n 1)) (.n 10000000) rfl h0)
theorem om311 {x0 : Nat} : x0 ≤ 2 * 1000 * 1000 → x0 < 10000000 := fun h0 => (lin [x0] (.c 1 (.v 0) (.n 2000000) .e) (.a (.v 0) (.n 1)) (.n 10000000) rfl h0)
theorem om312 {x0 : Nat} : x0 ≤ 1000 → 9 * x0 < 10000000 := fun h0 => (lin [x0] (.c 9 (.v 0) (.n 1000) .e) (.a (.m 9 (.v 0)) (.n 1)) (.n 10000000) rfl h0)
theorem om313 {x0 x1 : Nat} : x1 ≤ 1000 → x0 ≤ 2 * 1000 * 1000 → x0 + 9 * x1 < 10000000 := fun h0 h1 => (lin [x1, x0] (.c 9 (.v 0) (.n 1000) (.c 1 (.v 1) (.n 2000000) .e)) (.a (.a (.v 1) (.m 9 (.v 0))) (.n 1)) (.n 10000000) rfl h0 h1)
theorem om314 {x0 : Nat} : x0 ≤ 100000 → 4 * x0 < 10000000 := fun h0 => (lin [x0] (.c 4 (.v 0) (.n 100000) .e) (.a (.m 4 (.v 0)) (.n 1)) (.n 10000000) rfl h0)
theorem om315 {x0 x1 x2 : Nat} : x1 ≤ 1000 → x2 ≤ 100000 → x0 ≤ 2 * 1000 * 1000 → x0 + 9 * x1 + 4 * x2 < 10000000 := fun h0 h1 h2 => (lin [x1, x2, x0] (.c 9 (.v 0) (.n 1000) (.c 4 (.v 1) (.n 100000) (.c 1 (.v 2) (.n 2000000) .e))) (.a (.a (.a (.v 2) (.m 9 (.v 0))) (.m 4 (.v 1))) (.n 1)) (.n 10000000) rfl h0 h1 h2)
theorem om316 {x0 x1 x2 : Nat} : x1 ≤ 1000 → x2 ≤ 100000 → x0 ≤ 2 * 1000 * 1000 → x0 + 9 * x1 + 4 * x2 + 5 < 10000000 := fun h0 h1 h2 => (lin [x1, x2, x0] (.c 9 (.v 0) (.n 1000) (.c 4 (.v 1) (.n 100000) (.c 1 (.v 2) (.n 2000000) .e))) (.a (.a (.a (.a (.v 2) (.m 9 (.v 0))) (.m 4 (.v 1))) (.n 5)) (.n 1)) (.n 10000000) rfl h0 h1 h2)
theorem om317 {x0 x1 x2 : Nat} : (x0 + 9 * x1 + 4 * x2 + 5) % 59 < 10000000 := by omega
theorem om318 {x0 : Nat} : x0 ≤ 100000 → x0 < 10000000 := fun h0 => (lin [x0] (.c 1 (.v 0) (.n 100000) .e) (.a (.v 0) (.n 1)) (.n 10000000) rfl h0)
theorem om319 {x0 x1 : Nat} : x0 < max x0 x1 + 1 := (lin [x0, max x0 x1, x1] (.c 1 (.v 0) (.v 1) .e) (.a (.v 0) (.n 1)) (.a (.v 1) (.n 1)) rfl (Nat.le_max_left x0 x1))
theorem om320 {x0 x1 : Nat} : x0 < max x1 x0 + 1 := (lin [x0, max x1 x0, x1] (.c 1 (.v 0) (.v 1) .e) (.a (.v 0) (.n 1)) (.a (.v 1) (.n 1)) rfl (Nat.le_max_right x1 x0))
theorem om321 {x0 x1 x2 x3 : Nat} : x0 + x1 + x3 = x2 → x0 + x1 ≤ x2 := fun h0 => (lin [x0, x1, x3, x2] (.c 1 (.a (.a (.v 0) (.v 1)) (.v 2)) (.v 3) .e) (.a (.v 0) (.v 1)) (.v 3) rfl (Nat.le_of_eq h0))
theorem om322 {x0 x1 x2 : Nat} : x2 < 80000 → x0 + x1 ≤ x2 → x0 + x1 < 90000 := fun h0 h1 => (lin [x2, x0, x1] (.c 1 (.a (.v 0) (.n 1)) (.n 80000) (.c 1 (.a (.v 1) (.v 2)) (.v 0) .e)) (.a (.a (.v 1) (.v 2)) (.n 1)) (.n 90000) rfl h0 h1)
theorem om323 {x0 x1 : Nat} : x0 ≤ x0 + x1 + 1 := (lin [x0, x1] .e (.v 0) (.a (.a (.v 0) (.v 1)) (.n 1)) rfl)
theorem om324 {x0 x1 : Nat} : x0 ≤ x1 + x0 + 1 := (lin [x0, x1] .e (.v 0) (.a (.a (.v 1) (.v 0)) (.n 1)) rfl)
theorem om325 {x0 : Nat} : x0 ≠ 0 → (((x0 + 1) : Nat) : Int) ≠ 1 := by omega
theorem om326 {x0 x1 : Nat} : x1 ≤ 1000 → x0 ≤ x1 → x0 < 80000 := fun h0 h1 => (lin [x1, x0] (.c 1 (.v 0) (.n 1000) (.c 1 (.v 1) (.v 0) .e)) (.a (.v 1) (.n 1)) (.n 80000) rfl h0 h1)
theorem om327 {x0 x1 x2 : Nat} : x1 < x2 → x2 ≤ x0 → x0 ≠ x1 := fun h0 h1 => fun n => (lin0 [x1, x2, x0] (.c 1 (.a (.v 0) (.n 1)) (.v 1) (.c 1 (.v 1) (.v 2) (.c 1 (.v 2) (.v 0) .e))) rfl h0 h1 (Nat.le_of_eq n))
theorem om328 {x0 x1 : Nat} : x1 ≤ 1000 → x0 ≤ x1 → x0 ≤ 1000 := fun h0 h1 => (lin [x1, x0] (.c 1 (.v 0) (.n 1000) (.c 1 (.v 1) (.v 0) .e)) (.v 1) (.n 1000) rfl h0 h1)
theorem om329 {x0 x1 : Nat} : x0 ≤ x1 → x0 + 1 ≤ x1 + 1 := fun h0 => (lin [x0, x1] (.c 1 (.v 0) (.v 1) .e) (.a (.v 0) (.n 1)) (.a (.v 1) (.n 1)) rfl h0)
theorem om330 {x0 x1 x2 x3 : Nat} : x0 ≤ x2 → x1 ≤ x3 → x0 + x1 < x2 + (x3 + 1) := fun h0 h1 => (lin [x0, x2, x1, x3] (.c 1 (.v 0) (.v 1) (.c 1 (.v 2) (.v 3) .e)) (.a (.a (.v 0) (.v 2)) (.n 1)) (.a (.v 1) (.a (.v 3) (.n 1))) rfl h0 h1)
theorem om331 {x0 x1 x2 x3 : Nat} : x1 < 64 → x2 ≤ x3 → x3 ≤ x1 → x0 = x2 → x0 ≤ 1000 := fun h0 h1 h2 h3 => (lin [x1, x2, x3, x0] (.c 1 (.a (.v 0) (.n 1)) (.n 64) (.c 1 (.v 1) (.v 2) (.c 1 (.v 2) (.v 0) (.c 1 (.v 3) (.v 1) .e)))) (.v 3) (.n 1000) rfl h0 h1 h2 (Nat.le_of_eq h3))
theorem om332 {x0 x1 : Nat} : x1 < x0 → x0 + 1 ≠ x1 := fun h0 => fun n => (lin0 [x1, x0] (.c 1 (.a (.v 0) (.n 1)) (.v 1) (.c 1 (.a (.v 1) (.n 1)) (.v 0) .e)) rfl h0 (Nat.le_of_eq n))
theorem om333 {x0 x1 : Nat} : x0 + 2 ≤ x1 → x0 + 1 ≠ x1 := fun h0 => fun n => (lin0 [x0, x1] (.c 1 (.a (.v 0) (.n 2)) (.v 1) (.c 1 (.v 1) (.a (.v 0) (.n 1)) .e)) rfl h0 (Nat.le_of_eq (n).symm))
theorem om334 {x0 x1 x2 : Nat} : x1 ≤ 2000 → x0 + x2 ≤ x1 → x0 < 100000 := fun h0 h1 => (lin [x1, x0, x2] (.c 1 (.v 0) (.n 2000) (.c 1 (.a (.v 1) (.v 2)) (.v 0) .e)) (.a (.v 1) (.n 1)) (.n 100000) rfl h0 h1)
theorem om335 {x0 x1 x2 x3 : Nat} : x0 + x3 ≤ x2 → x1 < x3 → x0 + 1 + x1 ≤ x2 := fun h0 h1 => (lin [x0, x3, x2, x1] (.c 1 (.a (.v 0) (.v 1)) (.v 2) (.c 1 (.a (.v 3) (.n 1)) (.v 1) .e)) (.a (.a (.v 0) (.n 1)) (.v 3)) (.v 2) rfl h0 h1)
theorem om336 {x0 x1 : Nat} : x0 + 2 ≤ x1 → x0 ≠ x1 := fun h0 => fun n => (lin0 [x0, x1] (.c 1 (.a (.v 0) (.n 2)) (.v 1) (.c 1 (.v 1) (.v 0) .e)) rfl h0 (Nat.le_of_eq (n).symm))
theorem om337 {x0 : Nat} : x0 ≤ 1000 → 0 + x0 ≤ 1000 := fun h0 => (lin [x0] (.c 1 (.v 0) (.n 1000) .e) (.a (.n 0) (.v 0)) (.n 1000) rfl h0)
theorem om338 {x0 : Nat} : x0 ≤ 1000 → 1 + x0 < 100000 := fun h0 => (lin [x0] (.c 1 (.v 0) (.n 1000) .e) (.a (.a (.n 1) (.v 0)) (.n 1)) (.n 100000) rfl h0)
theorem om339 {x0 : Nat} : x0 ≤ 1000 → 1 + x0 ≤ 2000 := fun h0 => (lin [x0] (.c 1 (.v 0) (.n 1000) .e) (.a (.n 1) (.v 0)) (.n 2000) rfl h0)
theorem om340 {x0 x1 x2 : Nat} : x1 ≤ 2000 → x0 + x2 ≤ x1 → x0 ≤ 100000 := fun h0 h1 => (lin [x1, x0, x2] (.c 1 (.v 0) (.n 2000) (.c 1 (.a (.v 1) (.v 2)) (.v 0) .e)) (.v 1) (.n 100000) rfl h0 h1)
theorem om341 {x0 x1 x2 : Nat} : x0 + 1 + x1 ≤ x2 → x0 + x1 ≤ x2 - 1 := fun h0 => (lin [x0, x1, x2, x2 - 1] (.c 1 (.a (.a (.v 0) (.n 1)) (.v 1)) (.v 2) (.c 1 (.v 2) (.a (.v 3) (.n 1)) .e)) (.a (.v 0) (.v 1)) (.v 3) rfl h0 (ln_sub_a x2 1))
theorem om342 {x0 : Nat} : x0 ≤ 1000 → x0 < 0 + 100000 := fun h0 => (lin [x0] (.c 1 (.v 0) (.n 1000) .e) (.a (.v 0) (.n 1)) (.n 100000) rfl h0)
theorem om343 {x0 x1 x2 : Nat} : x2 ≤ x1 → x0 + 1 < x2 → x0 + 2 ≤ x1 := fun h0 h1 => (lin [x2, x1, x0] (.c 1 (.v 0) (.v 1) (.c 1 (.a (.a (.v 2) (.n 1)) (.n 1)) (.v 0) .e)) (.a (.v 2) (.n 2)) (.v 1) rfl h0 h1)
theorem om344 {x0 x1 x2 : Nat} : x1 + 1 + x2 ≤ x0 → x0 - 1 < x0 := fun h0 => (lin [x1, x2, x0, x0 - 1] (.c 1 (.a (.v 3) (.n 1)) (.v 2) .e) (.a (.v 3) (.n 1)) (.v 2) rfl (ln_sub_b (lin [x1, x2, x0, x0 - 1] (.c 1 (.a (.a (.v 0) (.n 1)) (.v 1)) (.v 2) .e) (.n 1) (.v 2) rfl h0)))
theorem om345 {x0 : Nat} : 0 < 3 ^ x0 → 1 ≤ 2 * 3 ^ x0 := fun h0 => (lin [3 ^ x0] (.c 1 (.a (.n 0) (.n 1)) (.v 0) .e) (.n 1) (.m 2 (.v 0)) rfl h0)
theorem om346 {x0 x1 x2 : Nat} : x0 ≤ x2 → 1 ≤ x1 → x0 + 1 ≤ x1 + x2 := fun h0 h1 => (lin [x0, x2, x1] (.c 1 (.v 0) (.v 1) (.c 1 (.n 1) (.v 2) .e)) (.a (.v 0) (.n 1)) (.a (.v 2) (.v 1)) rfl h0 h1)
theorem om347 {x0 : Nat} : 0 < 3 ^ x0 → 1 < 2 * 3 ^ x0 := fun h0 => (lin [3 ^ x0] (.c 2 (.a (.n 0) (.n 1)) (.v 0) .e) (.a (.n 1) (.n 1)) (.m 2 (.v 0)) rfl h0)
theorem om348 {x0 x1 : Nat} : 3 ^ x0 * 3 ≤ 3 ^ x1 → 0 < 3 ^ x0 → 1 + 2 * 3 ^ x0 < 2 * 3 ^ x1 := fun h0 h1 => (lin [3 ^ x0, 3 ^ x1] (.c 2 (.w (.v 0) 3) (.v 1) (.c 2 (.a (.n 0) (.n 1)) (.v 0) .e)) (.a (.a (.n 1) (.m 2 (.v 0))) (.n 1)) (.m 2 (.v 1)) rfl h0 h1)
theorem om349 {x0 x1 x2 : Nat} : 3 ^ x0 * 3 ≤ 3 ^ x2 → 3 ^ x1 * 3 ≤ 3 ^ x2 → 0 < 3 ^ x0 → 1 + (2 * 3 ^ x0 + 2 * 3 ^ x1) < 2 * 3 ^ x2 := by omega
theorem om350 {x0 x1 x2 x3 : Nat} : x1 ≤ x2 * 1458 → 3 ^ x3 ≤ 3 ^ 6 → x0 = 2 * 3 ^ x3 → x0 + x1 ≤ (x2 + 1) * 1458 := fun h0 h1 h2 => (lin [x1, x2, 3 ^ x3, x0] (.c 1 (.v 0) (.w (.v 1) 1458) (.c 2 (.v 2) (.n 729) (.c 1 (.v 3) (.m 2 (.v 2)) .e))) (.a (.v 3) (.v 0)) (.w (.a (.v 1) (.n 1)) 1458) rfl h0 h1 (Nat.le_of_eq h2))
theorem om351 {x0 x1 x2 x3 : Nat} : x1 + x2 ≤ x0 → x2 = x3 → 1 ≤ x3 → x0 - 1 < x0 := fun h0 h1 h2 => (lin [x1, x2, x0, x3, x0 - 1] (.c 1 (.a (.v 4) (.n 1)) (.v 2) .e) (.a (.v 4) (.n 1)) (.v 2) rfl (ln_sub_b (lin [x1, x2, x0, x3, x0 - 1] (.c 1 (.a (.v 0) (.v 1)) (.v 2) (.c 1 (.v 3) (.v 1) (.c 1 (.n 1) (.v 3) .e))) (.n 1) (.v 2) rfl h0 (Nat.le_of_eq (h1).symm) h2)))
theorem om352 {x0 x1 x2 x3 : Nat} : x0 + x2 ≤ x1 → x2 = x3 → 1 ≤ x3 → x0 ≤ x1 - 1 := fun h0 h1 h2 => (lin [x0, x2, x1, x3, x1 - 1] (.c 1 (.a (.v 0) (.v 1)) (.v 2) (.c 1 (.v 3) (.v 1) (.c 1 (.n 1) (.v 3) (.c 1 (.v 2) (.a (.v 4) (.n 1)) .e)))) (.v 0) (.v 4) rfl h0 (Nat.le_of_eq (h1).symm) h2 (ln_sub_a x1 1))
theorem om353 {x0 x1 x2 : Nat} : x1 + x2 ≤ x0 → x2 = 1 → x0 - 1 < x0 := fun h0 h1 => (lin [x1, x2, x0, x0 - 1] (.c 1 (.a (.v 3) (.n 1)) (.v 2) .e) (.a (.v 3) (.n 1)) (.v 2) rfl (ln_sub_b (lin [x1, x2, x0, x0 - 1] (.c 1 (.a (.v 0) (.v 1)) (.v 2) (.c 1 (.n 1) (.v 1) .e)) (.n 1) (.v 2) rfl h0 (Nat.le_of_eq (h1).symm))))
theorem om354 {x0 x1 x2 : Nat} : x0 + x2 ≤ x1 → x2 = 1 → x0 ≤ x1 - 1 := fun h0 h1 => (lin [x0, x2, x1, x1 - 1] (.c 1 (.a (.v 0) (.v 1)) (.v 2) (.c 1 (.n 1) (.v 1) (.c 1 (.v 2) (.a (.v 3) (.n 1)) .e))) (.v 0) (.v 3) rfl h0 (Nat.le_of_eq (h1).symm) (ln_sub_a x1 1))
theorem om355 {x0 x1 x2 x3 : Nat} : x1 ≤ 90000 → x2 + x3 ≤ x1 → x0 ≤ x2 → x0 < 100000 := fun h0 h1 h2 => (lin [x1, x2, x3, x0] (.c 1 (.v 0) (.n 90000) (.c 1 (.a (.v 1) (.v 2)) (.v 0) (.c 1 (.v 3) (.v 1) .e))) (.a (.v 3) (.n 1)) (.n 100000) rfl h0 h1 h2)
theorem om356 {x0 x1 x2 x3 x4 : Nat} : x1 ≤ 2 ∧ x2 ≤ 2 ∧ x3 ≤ 3 → x4 ≤ x1 → x0 = x4 → x0 ≤ 2 := fun h0 h1 h2 => (lin [x1, x2, x3, x4, x0] (.c 1 (.v 0) (.n 2) (.c 1 (.v 3) (.v 0) (.c 1 (.v 4) (.v 3) .e))) (.v 4) (.n 2) rfl (h0).1 h1 (Nat.le_of_eq h2))
theorem om357 {x0 x1 x2 x3 : Nat} : x2 ≤ 2 ∧ x0 ≤ 2 ∧ x3 ≤ 3 → x0 ≤ x1 + 2 := fun h0 => (lin [x2, x0, x3, x1] (.c 1 (.v 1) (.n 2) .e) (.v 1) (.a (.v 3) (.n 2)) rfl ((h0).2).1)
theorem om358 {x0 x1 x2 : Nat} : x1 ≤ 2 ∧ x2 ≤ 2 ∧ x0 ≤ 3 → x0 < 64 := fun h0 => (lin [x1, x2, x0] (.c 1 (.v 2) (.n 3) .e) (.a (.v 2) (.n 1)) (.n 64) rfl ((h0).2).2)
theorem om359 {x0 x1 x2 x3 x4 : Nat} : x2 ≤ 90000 → x3 + x4 ≤ x2 → x0 ≤ x3 → x1 ≤ 2 → x0 + 1 + x1 ≤ 100000 := fun h0 h1 h2 h3 => (lin [x2, x3, x4, x0, x1] (.c 1 (.v 0) (.n 90000) (.c 1 (.a (.v 1) (.v 2)) (.v 0) (.c 1 (.v 3) (.v 1) (.c 1 (.v 4) (.n 2) .e)))) (.a (.a (.v 3) (.n 1)) (.v 4)) (.n 100000) rfl h0 h1 h2 h3)
theorem om360 {x0 x1 x2 x3 x4 : Nat} : x1 + x2 ≤ x0 → x2 = x3 → x4 < x3 → x0 - 1 < x0 := fun h0 h1 h2 => (lin [x1, x2, x0, x3, x4, x0 - 1] (.c 1 (.a (.v 5) (.n 1)) (.v 2) .e) (.a (.v 5) (.n 1)) (.v 2) rfl (ln_sub_b (lin [x1, x2, x0, x3, x4, x0 - 1] (.c 1 (.a (.v 0) (.v 1)) (.v 2) (.c 1 (.v 3) (.v 1) (.c 1 (.a (.v 4) (.n 1)) (.v 3) .e))) (.n 1) (.v 2) rfl h0 (Nat.le_of_eq (h1).symm) h2)))
theorem om361 {x0 x1 x2 x3 x4 : Nat} : x0 + x3 ≤ x2 → x3 = x4 → x1 < x4 → x0 + x1 ≤ x2 - 1 := fun h0 h1 h2 => (lin [x0, x3, x2, x4, x1, x2 - 1] (.c 1 (.a (.v 0) (.v 1)) (.v 2) (.c 1 (.v 3) (.v 1) (.c 1 (.a (.v 4) (.n 1)) (.v 3) (.c 1 (.v 2) (.a (.v 5) (.n 1)) .e)))) (.a (.v 0) (.v 4)) (.v 5) rfl h0 (Nat.le_of_eq (h1).symm) h2 (ln_sub_a x2 1))
theorem om362 {x0 x1 : Nat} : x1 ≤ 6 → x0 ≤ x1 → 0 + x0 ≤ 1000 := fun h0 h1 => (lin [x1, x0] (.c 1 (.v 0) (.n 6) (.c 1 (.v 1) (.v 0) .e)) (.a (.n 0) (.v 1)) (.n 1000) rfl h0 h1)
theorem om363 {x0 x1 : Nat} : x1 ≤ 6 → x0 ≤ x1 * 1458 → x0 < 100000 := fun h0 h1 => (lin [x1, x0] (.c 1458 (.v 0) (.n 6) (.c 1 (.v 1) (.w (.v 0) 1458) .e)) (.a (.v 1) (.n 1)) (.n 100000) rfl h0 h1)
theorem om364 {x0 x1 : Nat} : x1 ≤ 6 → x0 ≤ x1 * 1458 → x0 ≤ 90000 := fun h0 h1 => (lin [x1, x0] (.c 1458 (.v 0) (.n 6) (.c 1 (.v 1) (.w (.v 0) 1458) .e)) (.v 1) (.n 90000) rfl h0 h1)
theorem om365 {x0 x1 x2 : Nat} : x1 ≤ 90000 → x2 ≤ x1 → x0 ≤ x2 → x0 ≤ 100000 := fun h0 h1 h2 => (lin [x1, x2, x0] (.c 1 (.v 0) (.n 90000) (.c 1 (.v 1) (.v 0) (.c 1 (.v 2) (.v 1) .e))) (.v 2) (.n 100000) rfl h0 h1 h2)
theorem om366 {x0 x1 : Nat} : x0 + x1 ≤ 1000 → x0 ≤ 100000 := fun h0 => (lin [x0, x1] (.c 1 (.a (.v 0) (.v 1)) (.n 1000) .e) (.v 0) (.n 100000) rfl h0)
end Mine.Internal
end

section
open PySem
namespace Mine.Internal

/-- pure values -/
inductive PV where
  | none
  | bool (b : Bool)
  | int (i : Int)
  | str (s : Str)
  | tup (vs : List PV)
  | ref (n : Nat)
  | fn (a : Addr)
  | bi (id : String)
  | ty (n : String)

/-- pure objects of the store -/
inductive PO where
  | lst (vs : List PV)
  | dct (es : List (Str × PV))
  | dtp (es : List (PV × PV))

noncomputable abbrev St := List PO
noncomputable def PM (α : Type) : Type := St → Option (α × St)
namespace PM
noncomputable def ret {α} (a : α) : PM α := fun s => some (a, s)
noncomputable def bnd {α β} (x : PM α) (f : α → PM β) : PM β := fun s => match x s with
  | none => none
  | some (a, s') => f a s'
noncomputable def fail {α} : PM α := fun _ => none
noncomputable def lift {α} : Option α → PM α
  | some a => ret a
  | none => fail
noncomputable def alloc (o : PO) : PM PV := fun s => some (.ref s.length, s ++ [o])
noncomputable def getL (n : Nat) : PM (List PV) := fun s => match s[n]? with
  | some (.lst vs) => some (vs, s)
  | _ => none
noncomputable def getD (n : Nat) : PM (List (Str × PV)) := fun s => match s[n]? with
  | some (.dct es) => some (es, s)
  | _ => none
noncomputable def getO (n : Nat) : PM PO := fun s => match s[n]? with
  | some o => some (o, s)
  | _ => none
noncomputable def put (n : Nat) (o : PO) : PM Unit := fun s => if n < s.length then some ((), s.set n o) else none
end PM

noncomputable abbrev Fm := Str → Option PV
noncomputable def Fm.upd (m : Fm) (x : Str) (v : PV) : Fm := fun y => if y = x then some v else m y

/-- data: strs, and tuples of data, of a known depth -/
noncomputable def PV.isD : Nat → PV → Bool
  | _, .str s => PyData.strOk s
  | n + 1, .tup vs => vs.all (PV.isD n)
  | _, _ => false
noncomputable def eqbL (f : PV → PV → Bool) : List PV → List PV → Bool
  | [], [] => true
  | a :: r, b :: t => f a b && eqbL f r t
  | _, _ => false
noncomputable def eqb : Nat → PV → PV → Bool
  | _, .str a, .str b => a == b
  | n + 1, .tup a, .tup b => eqbL (eqb n) a b
  | _, _, _ => false
/-- the depth to which tuples are compared; the depth of a tuple that is a key -/
noncomputable def cmpDepth : Nat := 60
noncomputable def keyDepth : Nat := 6

structure Ctx where
  call : Addr → List PV → PM PV
  glob : Str → Option PV
  wf : Nat

noncomputable def lineLen : Nat := 100000

noncomputable def getN (C : Ctx) (sc : Scope) (m : Fm) (x : Str) : Option PV :=
  if x == ("__debug__" : Str) then none else
  match sc.names.lookup x with
  | some .local => m x
  | some .cell => m x
  | some .free => if x == ("__classdict__" : Str) then none else m x
  | some .globalImplicit => C.glob x
  | _ => none

noncomputable def stN (sc : Scope) (x : Str) : Bool := match sc.names.lookup x with
  | some .local => true
  | some .cell => true
  | _ => false

noncomputable def tkI {α : Type} (v : PV) (k : Int → PM α) : PM α := match v with | .int i => k i | _ => .fail
noncomputable def tkS {α : Type} (v : PV) (k : Str → PM α) : PM α := match v with | .str i => k i | _ => .fail
noncomputable def tkT {α : Type} (v : PV) (k : List PV → PM α) : PM α := match v with | .tup i => k i | _ => .fail
noncomputable def tkR {α : Type} (v : PV) (k : Nat → PM α) : PM α := match v with | .ref i => k i | _ => .fail
noncomputable def tk0 {α : Type} (l : List PV) (k : PM α) : PM α := match l with | [] => k | _ => .fail
noncomputable def tk1 {α : Type} (l : List PV) (k : PV → PM α) : PM α := match l with | v :: r => tk0 r (k v) | _ => .fail
noncomputable def tk2 {α : Type} (l : List PV) (k : PV → PV → PM α) : PM α := match l with | v :: r => tk1 r (k v) | _ => .fail

noncomputable def pconst : Const → Option PV
  | .none => some .none
  | .bool b => some (.bool b)
  | .int i => some (.int i)
  | .str s => some (.str s)
  | _ => none

noncomputable def strOf? : PV → Option Str
  | .str s => some s
  | _ => none
noncomputable def intOf? : PV → Option Int
  | .int i => some i
  | _ => none
noncomputable def strsOf? : List PV → Option (List Str)
  | [] => some []
  | .str s :: r => (strsOf? r).map (s :: ·)
  | _ => none
noncomputable def intsOf? : List PV → Option (List Int)
  | [] => some []
  | .int i :: r => (intsOf? r).map (i :: ·)
  | _ => none

noncomputable def smallInt (i : Int) : Bool := i.natAbs < 2 ^ 40

noncomputable def dfind (x : Str) (es : List (Str × PV)) : Option PV := (es.find? fun e => decide (e.1 = x)).map (·.2)
noncomputable def dput (x : Str) (v : PV) (es : List (Str × PV)) : List (Str × PV) :=
  if es.any (fun e => decide (e.1 = x)) then es.map (fun e => if e.1 = x then (e.1, v) else e) else es ++ [(x, v)]
noncomputable def strKeys (es : List (Str × PV)) : List Str := es.map (·.1)

noncomputable def pbin (op : Operator) (a b : PV) : PM PV :=
  match op with
  | .Add => match a with
    | .int x => tkI b fun y => if smallInt x && smallInt y then .ret (.int (x + y)) else .fail
    | .tup xs => tkT b fun ys => if xs.length + ys.length ≤ lineLen then .ret (.tup (xs ++ ys)) else .fail
    | .ref i => tkR b fun j => PM.bnd (PM.getL i) fun xs => PM.bnd (PM.getL j) fun ys => if xs.length + ys.length ≤ lineLen then .alloc (.lst (xs ++ ys)) else .fail
    | _ => .fail
  | .Mult => tkI a fun x => tkI b fun y => if smallInt x && smallInt y then .ret (.int (x * y)) else .fail
  | .Mod => tkI a fun x => tkI b fun y => if smallInt x && smallInt y && decide (0 < y) then .ret (.int (x % y)) else .fail
  | _ => .fail

noncomputable def eqD (xs ys : List (Str × PV)) : Bool := xs.all fun e => match dfind e.1 ys with
  | some u => eqb cmpDepth e.2 u
  | none => false

noncomputable def pEq (a b : PV) : PM PV := match a with
  | .int x => tkI b fun y => .ret (.bool (x == y))
  | .str x => tkS b fun y => .ret (.bool (x == y))
  | .ref i => tkR b fun j => PM.bnd (PM.getD i) fun xs => PM.bnd (PM.getD j) fun ys =>
    if xs.all (fun e => PV.isD cmpDepth e.2) && ys.all (fun e => PV.isD cmpDepth e.2) then .ret (.bool (xs.length == ys.length && eqD xs ys)) else .fail
  | _ => .fail
noncomputable def pNe (a b : PV) : PM PV := match a with
  | .int x => tkI b fun y => .ret (.bool (x != y))
  | .str x => tkS b fun y => .ret (.bool (x != y))
  | .tup x => tkT b fun y => if PV.isD cmpDepth (.tup x) && PV.isD cmpDepth (.tup y) then .ret (.bool (!(eqb cmpDepth (.tup x) (.tup y)))) else .fail
  | .ref i => tkR b fun j => PM.bnd (PM.getL i) fun xs => PM.bnd (PM.getL j) fun ys =>
    if xs.all (PV.isD cmpDepth) && ys.all (PV.isD cmpDepth) then .ret (.bool (!(eqbL (eqb cmpDepth) xs ys))) else .fail
  | _ => .fail
noncomputable def pIn (a b : PV) : PM PV := match a with
  | .str x => tkR b fun j => PM.bnd (PM.getD j) fun es => .ret (.bool (dfind x es).isSome)
  | .tup x => tkR b fun j => if PV.isD keyDepth (.tup x) then PM.bnd (PM.getO j) fun o => match o with
      | .dct [] => .ret (.bool false)
      | .dtp es => .ret (.bool (es.any fun e => eqb keyDepth e.1 (.tup x)))
      | _ => .fail
    else .fail
  | _ => .fail
noncomputable def pNotIn (a b : PV) : PM PV := tkS a fun x => tkR b fun j => PM.bnd (PM.getO j) fun o => match o with
  | .dct es => .ret (.bool (!(dfind x es).isSome))
  | .lst vs => PM.bnd (PM.lift (strsOf? vs)) fun ss => .ret (.bool (!(ss.contains x)))
  | _ => .fail
noncomputable def pIsNot (a b : PV) : PM PV := match b with
  | .none => match a with
    | .none => .ret (.bool false)
    | .ref _ => .ret (.bool true)
    | _ => .fail
  | _ => .fail
noncomputable def pcmp (op : CmpOp) (a b : PV) : PM PV :=
  match op with
  | .Eq => pEq a b
  | .NotEq => pNe a b
  | .Lt => tkI a fun x => tkI b fun y => .ret (.bool (decide (x < y)))
  | .Gt => tkI a fun x => tkI b fun y => .ret (.bool (decide (y < x)))
  | .In => pIn a b
  | .NotIn => pNotIn a b
  | .IsNot => pIsNot a b
  | _ => .fail

noncomputable def pitem (a b : PV) : PM PV :=
  match a with
  | .tup vs => tkI b fun i => if 0 ≤ i && smallInt i then PM.lift vs[i.toNat]? else .fail
  | .ref n => match b with
    | .int i => PM.bnd (PM.getL n) fun vs => if 0 ≤ i && smallInt i then PM.lift vs[i.toNat]? else .fail
    | .str x => PM.bnd (PM.getD n) fun es => PM.lift (dfind x es)
    | _ => .fail
  | _ => .fail

noncomputable def headStr (s : Str) : Str := ⟨s.cps.extract 0 1⟩

/-- the slices that the text has -/
noncomputable def psliceTo (o : PV) (k : Int) : PM PV :=
  match o with
  | .str s => if k == 1 then .ret (.str (headStr s)) else .fail
  | .tup vs => if 0 ≤ k && k ≤ 1000 && vs.length ≤ lineLen then .ret (.tup (vs.take k.toNat)) else .fail
  | .ref n => PM.bnd (PM.getL n) fun vs => if 0 ≤ k && k ≤ 1000 && vs.length ≤ lineLen then .alloc (.lst (vs.take k.toNat)) else .fail
  | _ => .fail
noncomputable def psliceFrom (o : PV) (k : Int) : PM PV :=
  match o with
  | .tup vs => if 0 ≤ k && k ≤ 1000 && vs.length ≤ lineLen then .ret (.tup (vs.drop k.toNat)) else .fail
  | .ref n => PM.bnd (PM.getL n) fun vs => if 0 ≤ k && k ≤ 1000 && vs.length ≤ lineLen then .alloc (.lst (vs.drop k.toNat)) else .fail
  | _ => .fail
noncomputable def psliceRev (o : PV) : PM PV := tkR o fun n => PM.bnd (PM.getL n) fun vs => if vs.length ≤ lineLen then .alloc (.lst vs.reverse) else .fail

noncomputable def sle (a b : Str) : Bool := !(decide (b.cps.toList < a.cps.toList))
noncomputable def psort (l : List Str) : List Str := l.mergeSort sle

/-- the key strs of what `sorted` and `list` are asked of -/
noncomputable def keysOf? : PO → Option (List Str)
  | .lst vs => strsOf? vs
  | .dct es => some (strKeys es)
  | _ => none

noncomputable def maxL : Int → List Int → Int
  | m, [] => m
  | m, x :: r => maxL (if m < x then x else m) r

/-- a pair that dict takes -/
noncomputable def pairOf? (v : PV) : Option (Str × PV) := match v with
  | .tup vs => match vs with
    | a :: r => match a with
      | .str x => match r with
        | b :: r2 => if r2.isEmpty then some (x, b) else none
        | _ => none
      | _ => none
    | _ => none
  | _ => none
noncomputable def pairsOf? : List PV → Option (List (Str × PV))
  | [] => some []
  | v :: r => match pairOf? v with
    | some p => (pairsOf? r).map (p :: ·)
    | none => none

noncomputable def pLen (v : PV) : PM PV := match v with
  | .tup vs => if vs.length ≤ lineLen then .ret (.int vs.length) else .fail
  | .ref n => PM.bnd (PM.getL n) fun vs => if vs.length ≤ lineLen then .ret (.int vs.length) else .fail
  | _ => .fail
noncomputable def pSorted (n : Nat) : PM PV := PM.bnd (PM.getO n) fun o => PM.bnd (PM.lift (keysOf? o)) fun ss => if ss.length < 64 then .alloc (.lst ((psort ss).map .str)) else .fail
noncomputable def pSum (n : Nat) : PM PV := PM.bnd (PM.getL n) fun vs => PM.bnd (PM.lift (intsOf? vs)) fun is => if is.length < 1000 && is.all smallInt then .ret (.int is.sum) else .fail
noncomputable def pMax (n : Nat) : PM PV := PM.bnd (PM.getL n) fun vs => PM.bnd (PM.lift (intsOf? vs)) fun is => match is with
  | i :: is => .ret (.int (maxL i is))
  | [] => .fail
noncomputable def keysD? : PO → Option (List Str)
  | .dct es => some (strKeys es)
  | _ => none
noncomputable def pList (v : PV) : PM PV := match v with
  | .tup vs => if vs.length ≤ lineLen then .alloc (.lst vs) else .fail
  | .ref n => PM.bnd (PM.getO n) fun o => PM.bnd (PM.lift (keysD? o)) fun ss => if ss.length ≤ lineLen then .alloc (.lst (ss.map .str)) else .fail
  | _ => .fail
noncomputable def pTuple (n : Nat) : PM PV := PM.bnd (PM.getL n) fun vs => if vs.length ≤ lineLen then .ret (.tup vs) else .fail
noncomputable def pDict (n : Nat) : PM PV := PM.bnd (PM.getL n) fun vs => PM.bnd (PM.lift (pairsOf? vs)) fun ps => if ps.length ≤ lineLen then .alloc (.dct (ps.foldl (fun es p => dput p.1 p.2 es) [])) else .fail
noncomputable def pBi (id : String) (v : PV) : PM PV :=
  if id == "len" then pLen v else if id == "sorted" then tkR v pSorted else if id == "sum" then tkR v pSum else if id == "max" then tkR v pMax else .fail
noncomputable def pTy (id : String) (v : PV) : PM PV :=
  if id == "list" then pList v else if id == "tuple" then tkR v pTuple else if id == "dict" then tkR v pDict else .fail
noncomputable def papply (C : Ctx) (f : PV) (args : List PV) : PM PV :=
  match f with
  | .fn a => C.call a args
  | .bi id => tk1 args (pBi id)
  | .ty id => tk1 args (pTy id)
  | _ => .fail

noncomputable def mAppend (n : Nat) (v : PV) : PM PV := PM.bnd (PM.getL n) fun vs => if vs.length < lineLen then PM.bnd (PM.put n (.lst (vs ++ [v]))) fun _ => .ret .none else .fail
noncomputable def mExtend (n : Nat) (v : PV) : PM PV := tkR v fun k => PM.bnd (PM.getL n) fun vs => PM.bnd (PM.getL k) fun us =>
  if n != k && vs.length + us.length ≤ lineLen then PM.bnd (PM.put n (.lst (vs ++ us))) fun _ => .ret .none else .fail
noncomputable def mPop (n : Nat) : PM PV := PM.bnd (PM.getL n) fun vs => match vs.getLast? with
  | some v => if vs.length ≤ lineLen then PM.bnd (PM.put n (.lst vs.dropLast)) fun _ => .ret v else .fail
  | none => .fail
noncomputable def mGet (n : Nat) (a d : PV) : PM PV := tkS a fun x => PM.bnd (PM.getD n) fun es => .ret ((dfind x es).getD d)
noncomputable def pmeth (o : PV) (name : Str) (args : List PV) : PM PV := tkR o fun n =>
  if name == ("append" : Str) then tk1 args (mAppend n)
  else if name == ("extend" : Str) then tk1 args (mExtend n)
  else if name == ("pop" : Str) then tk0 args (mPop n)
  else if name == ("get" : Str) then tk2 args (mGet n)
  else .fail

/-- a method is looked up before its arguments are told -/
noncomputable def pmethPre (o : PV) (name : Str) : PM Unit := tkR o fun n => PM.bnd (PM.getO n) fun ob => match ob with
  | .lst _ => if name == ("append" : Str) || name == ("extend" : Str) || name == ("pop" : Str) then .ret () else .fail
  | .dct _ => if name == ("get" : Str) then .ret () else .fail
  | _ => .fail

noncomputable def psetitem (o i v : PV) : PM Unit := tkR o fun n =>
  match i with
  | .str x => PM.bnd (PM.getD n) fun es => if es.length < lineLen then PM.put n (.dct (dput x v es)) else .fail
  | .tup k => if PV.isD keyDepth (.tup k) then PM.bnd (PM.getO n) fun o => match o with
      | .dct [] => PM.put n (.dtp [(.tup k, v)])
      | .dtp es => if es.length < lineLen && !(es.any fun e => eqb keyDepth e.1 (.tup k)) then PM.put n (.dtp (es ++ [(.tup k, v)])) else .fail
      | _ => .fail
    else .fail
  | _ => .fail

/-- what a loop goes over -/
inductive Src where
  | vals (vs : List PV)
  | live (n : Nat)
  | enumV (vs : List PV)
  | enumL (n : Nat)
  | rng (k : Nat)

noncomputable def pat (src : Src) (i : Nat) : PM (Option PV) :=
  match src with
  | .vals vs => .ret vs[i]?
  | .live n => PM.bnd (PM.getL n) fun vs => .ret vs[i]?
  | .enumV vs => .ret (vs[i]?.map fun v => .tup [.int i, v])
  | .enumL n => PM.bnd (PM.getL n) fun vs => .ret (vs[i]?.map fun v => .tup [.int i, v])
  | .rng k => .ret (if i < k then some (.int i) else none)

noncomputable def isTupE : Expr → Bool
  | .Tuple .. => true
  | _ => false
/-- an enumerate's pairs are let go by a tuple of names -/
noncomputable def srcOk (s : Src) (t : Expr) : Bool := match s with
  | .enumV _ => isTupE t
  | .enumL _ => isTupE t
  | _ => true
noncomputable def srcOf (v : PV) : PM Src :=
  match v with
  | .tup vs => if vs.length ≤ lineLen then .ret (.vals vs) else .fail
  | .ref n => PM.bnd (PM.getL n) fun _ => .ret (.live n)
  | _ => .fail
noncomputable def enumOf (v : PV) : PM Src :=
  match v with
  | .tup vs => if vs.length ≤ lineLen then .ret (.enumV vs) else .fail
  | .ref n => PM.bnd (PM.getL n) fun _ => .ret (.enumL n)
  | _ => .fail

noncomputable def evs (f : Expr → PM PV) : List Expr → PM (List PV)
  | [] => .ret []
  | e :: r => PM.bnd (f e) fun v => PM.bnd (evs f r) fun vs => .ret (v :: vs)

noncomputable def nameOf? : Expr → Option Str
  | .Name x _ => some x
  | _ => none
noncomputable def nameList : List Expr → Option (List Str)
  | [] => some []
  | e :: r => match nameOf? e with
    | some x => (nameList r).map (x :: ·)
    | none => none
/-- a target: a name, or names in a tuple -/
noncomputable def tnames : Expr → Option (Bool × List Str)
  | .Name x _ => some (false, [x])
  | .Tuple es _ _ => (nameList es).map fun xs => (true, xs)
  | _ => none
noncomputable def bindAll (m : Fm) : List Str → List PV → Fm
  | x :: xs, v :: vs => bindAll (m.upd x v) xs vs
  | _, _ => m
noncomputable def nodupS : List Str → Bool
  | [] => true
  | x :: r => !(r.contains x) && nodupS r
noncomputable def passT (sc : Scope) (xs : List Str) (v : PV) (m : Fm) : Option Fm := match v with
  | .tup vs => if xs.length = vs.length && nodupS xs && xs.all (stN sc) && decide (xs.length < 10) then some (bindAll m xs vs) else none
  | _ => none
noncomputable def passN (sc : Scope) (xs : List Str) (v : PV) (m : Fm) : Option Fm := match xs with
  | x :: _ => if stN sc x then some (m.upd x v) else none
  | [] => none
noncomputable def passign (sc : Scope) (t : Expr) (v : PV) (m : Fm) : Option Fm :=
  match tnames t with
  | some q => if q.1 then passT sc q.2 v m else passN sc q.2 v m
  | none => none

/-- the frame that a comprehension begins with -/
noncomputable def compFm (sc : Scope) (m : Fm) : Fm := fun x => match sc.names.lookup x with
  | some .free => m x
  | _ => none
/-- a comprehension's table of names: what is free in it is a cell or free outside -/
noncomputable def compOk (outer sc : Scope) : Bool :=
  sc.kind == .function && sc.names.all fun x => match x.2 with
    | .local => sc.names.lookup x.1 == some .local
    | .free => sc.names.lookup x.1 == some .free && (outer.names.lookup x.1 == some .cell || outer.names.lookup x.1 == some .free)
    | .globalImplicit => true
    | _ => false

noncomputable def isBi (C : Ctx) (sc : Scope) (m : Fm) (x : Str) (p : PV → Bool) : Bool := match getN C sc m x with
  | some v => p v
  | none => false
noncomputable def PV.isTy (n : String) : PV → Bool
  | .ty k => k == n
  | _ => false
noncomputable def PV.isBu (n : String) : PV → Bool
  | .bi k => k == n
  | _ => false

noncomputable def isSetE : Expr → Bool
  | .Set .. => true
  | _ => false
noncomputable def isStar : Expr → Bool
  | .Starred .. => true
  | _ => false
noncomputable def isComp : Expr → Bool
  | .ListComp .. => true
  | .SetComp .. => true
  | .DictComp .. => true
  | _ => false
noncomputable def isSlice : Expr → Bool
  | .Slice .. => true
  | _ => false
noncomputable def plainT : Expr → Bool
  | .BoolOp .. => false
  | .IfExp .. => false
  | .UnaryOp .. => false
  | .Compare .. => false
  | _ => true
noncomputable def constTup : Expr → Bool
  | .Tuple vs _ _ => vs.all (constantsAlone 8)
  | _ => false

inductive PFlow where
  | next | brk | cont
  | ret (v : PV)

noncomputable def ctests (f : Expr → PM Bool) : List Expr → PM Bool
  | [] => .ret true
  | e :: r => PM.bnd (f e) fun b => if b then ctests f r else .ret false

/-- the turns of a comprehension -/
noncomputable def cloop (assign : PV → Fm → Option Fm) (turn : Fm → PM Fm) (src : Src) : Nat → Nat → Fm → PM Fm
  | 0, _, _ => .fail
  | fuel + 1, i, m => PM.bnd (pat src i) fun r => match r with
    | none => .ret m
    | some v => PM.bnd (PM.lift (assign v m)) fun m' => PM.bnd (turn m') fun m'' => cloop assign turn src fuel (i + 1) m''

/-- how a loop goes on behind a turn -/
noncomputable def loopK (k : Fm → PM (PFlow × Fm)) (p : PFlow × Fm) : PM (PFlow × Fm) := match p.1 with
  | .next => k p.2
  | .cont => k p.2
  | .brk => .ret (.next, p.2)
  | .ret v => .ret (.ret v, p.2)
/-- the turns of a while -/
noncomputable def wloop (test : Fm → PM Bool) (body : Fm → PM (PFlow × Fm)) : Nat → Fm → PM (PFlow × Fm)
  | 0, _ => .fail
  | fuel + 1, m => PM.bnd (test m) fun b => if b then PM.bnd (body m) (loopK (wloop test body fuel)) else .ret (.next, m)

/-- the turns of a for -/
noncomputable def floop (assign : PV → Fm → Option Fm) (body : Fm → PM (PFlow × Fm)) (src : Src) : Nat → Nat → Fm → PM (PFlow × Fm)
  | 0, _, _ => .fail
  | fuel + 1, i, m => PM.bnd (pat src i) fun r => match r with
    | none => .ret (.next, m)
    | some v => PM.bnd (PM.lift (assign v m)) fun m' => PM.bnd (body m') (loopK (floop assign body src fuel (i + 1)))

noncomputable def pbo (op : BoolOp) (v : PV) (x : PM PV) : PM PV := match v with
  | .bool b => match op with
    | .And => if b then x else .ret (.bool false)
    | .Or => if b then .ret (.bool true) else x
  | _ => .fail
noncomputable def tbo (op : BoolOp) (c : Bool) (x : PM Bool) : PM Bool := match op with
  | .And => if c then x else .ret false
  | .Or => if c then .ret true else x
noncomputable def asB (v : PV) : PM Bool := match v with | .bool b => .ret b | _ => .fail
noncomputable def mkL (vs : List PV) : PM PV := if vs.length ≤ lineLen then .alloc (.lst vs) else .fail
noncomputable def mkT (vs : List PV) : PM PV := if vs.length ≤ lineLen then .ret (.tup vs) else .fail
noncomputable def sliceToK (o k : PV) : PM PV := tkI k (psliceTo o)
noncomputable def sliceFromK (o k : PV) : PM PV := tkI k (psliceFrom o)
noncomputable def rngK (v : PV) : PM Src := tkI v fun k => if 0 ≤ k && k ≤ 1000 then .ret (.rng k.toNat) else .fail
noncomputable def exprK (m : Fm) (v : PV) : PM (PFlow × Fm) := match v with | .none => .ret (.next, m) | _ => .fail
noncomputable def extZipK (ov xv yv : PV) : PM PV := tkR ov fun k => tkT xv fun xs => tkT yv fun ys => PM.bnd (PM.getL k) fun vs =>
  if vs.length + xs.length ≤ lineLen && xs.length == ys.length then PM.bnd (PM.put k (.lst (vs ++ List.zipWith (fun a b => .tup [a, b]) xs ys))) fun _ => .ret .none else .fail
noncomputable def lzipK (av bv : PV) : PM PV := tkR av fun i => tkR bv fun j => PM.bnd (PM.getL i) fun xs => PM.bnd (PM.getL j) fun ys =>
  if xs.length ≤ lineLen && xs.length == ys.length then .alloc (.lst (List.zipWith (fun a b => .tup [a, b]) xs ys)) else .fail
noncomputable def ssetK (v : PV) : PM PV := tkR v fun k => PM.bnd (PM.getL k) fun vs => PM.bnd (PM.lift (strsOf? vs)) fun ss =>
  if ss.length < 64 then .alloc (.lst ((psort ss.eraseDups).map .str)) else .fail

/-! what an expression of the text looks like -/
set_option genSizeOfSpec false
set_option genInjectivity false
inductive VwE : Expr → Type
  | const (c k p) : VwE (.Constant c k p)
  | name (x p) : VwE (.Name x p)
  | bop (op a b p) : VwE (.BoolOp op [a, b] p)
  | bin (l op r p) : VwE (.BinOp l op r p)
  | ifx (t a b p) : VwE (.IfExp t a b p)
  | dict0 (p) : VwE (.Dict [] [] p)
  | list (es p) : VwE (.List es p)
  | tup (es k p) : VwE (.Tuple es k p)
  | comp (elt g rest csc p) : VwE (.ListComp elt (g :: rest) csc p)
  | cmp (l op r p) : VwE (.Compare l [op] [r] p)
  | extz (oz op name apos z pz x y pc pos) : VwE (.Call (.Attribute (.Name oz op) name apos) [.Call (.Name z pz) [x, y] [] pc] [] pos)
  | meth (oz op name apos args pos) : VwE (.Call (.Attribute (.Name oz op) name apos) args [] pos)
  | call1 (y py z pz e pc pos) : VwE (.Call (.Name y py) [.Call (.Name z pz) [e] [] pc] [] pos)
  | call2 (y py z pz a b pc pos) : VwE (.Call (.Name y py) [.Call (.Name z pz) [a, b] [] pc] [] pos)
  | call (y py args pos) : VwE (.Call (.Name y py) args [] pos)
  | slTo (o u ps pos) : VwE (.Subscript o (.Slice none (some u) none ps) pos)
  | slFrom (o l ps pos) : VwE (.Subscript o (.Slice (some l) none none ps) pos)
  | slRev (o k kk pc pu ps pos) : VwE (.Subscript o (.Slice none none (some (.UnaryOp .USub (.Constant (.int k) kk pc) pu)) ps) pos)
  | sub (o i pos) : VwE (.Subscript o i pos)
  | bad (e) : VwE e
noncomputable def viewE (e : Expr) : VwE e := match e with
  | .Constant c k p => .const c k p
  | .Name x p => .name x p
  | .BoolOp op [a, b] p => .bop op a b p
  | .BinOp l op r p => .bin l op r p
  | .IfExp t a b p => .ifx t a b p
  | .Dict [] [] p => .dict0 p
  | .List es p => .list es p
  | .Tuple es k p => .tup es k p
  | .ListComp elt (g :: rest) csc p => .comp elt g rest csc p
  | .Compare l [op] [r] p => .cmp l op r p
  | .Call (.Attribute (.Name oz op) name apos) [.Call (.Name z pz) [x, y] [] pc] [] pos => .extz oz op name apos z pz x y pc pos
  | .Call (.Attribute (.Name oz op) name apos) args [] pos => .meth oz op name apos args pos
  | .Call (.Name y py) [.Call (.Name z pz) [e] [] pc] [] pos => .call1 y py z pz e pc pos
  | .Call (.Name y py) [.Call (.Name z pz) [a, b] [] pc] [] pos => .call2 y py z pz a b pc pos
  | .Call (.Name y py) args [] pos => .call y py args pos
  | .Subscript o (.Slice none (some u) none ps) pos => .slTo o u ps pos
  | .Subscript o (.Slice (some l) none none ps) pos => .slFrom o l ps pos
  | .Subscript o (.Slice none none (some (.UnaryOp .USub (.Constant (.int k) kk pc) pu)) ps) pos => .slRev o k kk pc pu ps pos
  | .Subscript o i pos => .sub o i pos
  | e => .bad e
inductive VwT : Expr → Type
  | not (x p) : VwT (.UnaryOp .Not x p)
  | bop (op a b p) : VwT (.BoolOp op [a, b] p)
  | cmp (l op r p) : VwT (.Compare l [op] [r] p)
  | oth (e) : VwT e
noncomputable def viewT (e : Expr) : VwT e := match e with
  | .UnaryOp .Not x p => .not x p
  | .BoolOp op [a, b] p => .bop op a b p
  | .Compare l [op] [r] p => .cmp l op r p
  | e => .oth e
inductive VwS : Expr → Type
  | call (f pf a pc) : VwS (.Call (.Name f pf) [a] [] pc)
  | oth (e) : VwS e
noncomputable def viewS (e : Expr) : VwS e := match e with
  | .Call (.Name f pf) [a] [] pc => .call f pf a pc
  | e => .oth e
inductive VwX : Stmt → Type
  | expr (o name apos args kws cp p) : VwX (.Expr (.Call (.Attribute o name apos) args kws cp) p)
  | cont (p) : VwX (.Continue p)
  | ret (e p) : VwX (.Return (some e) p)
  | asub (o i ps e p) : VwX (.Assign [.Subscript o i ps] e p)
  | asgn (t e p) : VwX (.Assign [t] e p)
  | ite (t a b p) : VwX (.If t a b p)
  | whl (t b p) : VwX (.While t b [] p)
  | for (t it b p) : VwX (.For t it b [] p)
  | bad (s) : VwX s
noncomputable def viewX (s : Stmt) : VwX s := match s with
  | .Expr (.Call (.Attribute o name apos) args kws cp) p => .expr o name apos args kws cp p
  | .Continue p => .cont p
  | .Return (some e) p => .ret e p
  | .Assign [.Subscript o i ps] e p => .asub o i ps e p
  | .Assign [t] e p => .asgn t e p
  | .If t a b p => .ite t a b p
  | .While t b [] p => .whl t b p
  | .For t it b [] p => .for t it b p
  | s => .bad s

/-- the four readings of an expression, to a depth -/
structure RC where
  ev : Scope → Expr → Fm → PM PV
  src : Scope → Expr → Fm → PM Src
  tr : Scope → Expr → Fm → PM Bool
  comp : Scope → Expr → Nat → Expr → List Expr → List Comprehension → Src → Fm → PM Fm

noncomputable def methF (r : RC) (sc : Scope) (m : Fm) (oz : Str) (op : Pos) (name : Str) (args : List Expr) : PM PV :=
  PM.bnd (r.ev sc (.Name oz op) m) fun ov => PM.bnd (pmethPre ov name) fun _ => PM.bnd (evs (fun e => r.ev sc e m) args) fun vs => pmeth ov name vs
noncomputable def methOk (name : Str) (apos pos : Pos) (args : List Expr) : Bool := !(apos.endLine == pos.line) || args.any isStar || decide (20 < args.length)
noncomputable def callF (C : Ctx) (r : RC) (sc : Scope) (m : Fm) (y : Str) (py : Pos) (args : List Expr) : PM PV :=
  PM.bnd (r.ev sc (.Name y py) m) fun fv => PM.bnd (evs (fun e => r.ev sc e m) args) fun vs => papply C fv vs
noncomputable def evF (C : Ctx) (r : RC) (sc : Scope) (m : Fm) {e : Expr} (w : VwE e) : PM PV := match w with
  | .const c _ _ => PM.lift (pconst c)
  | .name x _ => PM.lift (getN C sc m x)
  | .bop op a b _ => PM.bnd (r.ev sc a m) fun v => pbo op v (r.ev sc b m)
  | .bin l op rr _ => PM.bnd (r.ev sc l m) fun a => PM.bnd (r.ev sc rr m) fun b => pbin op a b
  | .ifx t a b _ => PM.bnd (r.tr sc t m) fun c => if c then r.ev sc a m else r.ev sc b m
  | .dict0 _ => .alloc (.dct [])
  | .list es _ => if es.any isStar then .fail else PM.bnd (evs (fun e => r.ev sc e m) es) mkL
  | .tup es _ _ => if es.any isStar then .fail else PM.bnd (evs (fun e => r.ev sc e m) es) mkT
  | .comp elt g rest csc _ => if compOk sc csc && !isSetE g.iter && decide (g.is_async = 0) then
      PM.bnd (r.src sc g.iter m) fun s => PM.bnd (PM.alloc (.lst [])) fun acc => tkR acc fun a =>
        if !(srcOk s g.target) then .fail else PM.bnd (r.comp csc elt a g.target g.ifs rest s (compFm csc m)) fun _ => .ret acc
      else .fail
  | .cmp l op rr _ => if isSetE rr then .fail else PM.bnd (r.ev sc l m) fun a => PM.bnd (r.ev sc rr m) fun b => pcmp op a b
  | .extz oz op name apos z pz x y pc pos => if methOk name apos pos [.Call (.Name z pz) [x, y] [] pc] then .fail else
      if isStar x || isStar y then .fail else
      if isBi C sc m z (PV.isTy "zip") && name == ("extend" : Str) then
        PM.bnd (r.ev sc (.Name oz op) m) fun ov => PM.bnd (pmethPre ov name) fun _ => PM.bnd (r.ev sc x m) fun xv => PM.bnd (r.ev sc y m) fun yv => extZipK ov xv yv
      else methF r sc m oz op name [.Call (.Name z pz) [x, y] [] pc]
  | .meth oz op name apos args pos => if methOk name apos pos args then .fail else methF r sc m oz op name args
  | .call1 y py z pz e pc _ => if isStar e then .fail else
      if isBi C sc m y (PV.isBu "sorted") && isBi C sc m z (PV.isTy "set") then PM.bnd (r.ev sc e m) ssetK
      else callF C r sc m y py [.Call (.Name z pz) [e] [] pc]
  | .call2 y py z pz a b pc _ => if isStar a || isStar b then .fail else
      if isBi C sc m y (PV.isTy "list") && isBi C sc m z (PV.isTy "zip") then PM.bnd (r.ev sc a m) fun av => PM.bnd (r.ev sc b m) fun bv => lzipK av bv
      else callF C r sc m y py [.Call (.Name z pz) [a, b] [] pc]
  | .call y py args _ => if args.any isStar || decide (20 < args.length) || args.isEmpty then .fail else callF C r sc m y py args
  | .slTo o u _ _ => PM.bnd (r.ev sc o m) fun ov => PM.bnd (r.ev sc u m) fun k => sliceToK ov k
  | .slFrom o l _ _ => PM.bnd (r.ev sc o m) fun ov => PM.bnd (r.ev sc l m) fun k => sliceFromK ov k
  | .slRev o k _ _ _ _ _ => if k = 1 then PM.bnd (r.ev sc o m) fun ov => psliceRev ov else .fail
  | .sub o i _ => if isSlice i then .fail else PM.bnd (r.ev sc o m) fun ov => PM.bnd (r.ev sc i m) fun iv => pitem ov iv
  | .bad _ => .fail
noncomputable def srcF (C : Ctx) (r : RC) (sc : Scope) (m : Fm) {e : Expr} (w : VwS e) : PM Src := match w with
  | .call f pf a pc => if isStar a then .fail else
      if isBi C sc m f (PV.isTy "enumerate") then PM.bnd (r.ev sc a m) enumOf
      else if isBi C sc m f (PV.isTy "range") then PM.bnd (r.ev sc a m) rngK
      else PM.bnd (r.ev sc (.Call (.Name f pf) [a] [] pc) m) srcOf
  | .oth e => PM.bnd (r.ev sc e m) srcOf
noncomputable def trF (r : RC) (sc : Scope) (m : Fm) {e : Expr} (w : VwT e) : PM Bool := match w with
  | .not x _ => PM.bnd (r.tr sc x m) fun b => .ret (!b)
  | .bop op a b _ => PM.bnd (r.tr sc a m) fun c => tbo op c (r.tr sc b m)
  | .cmp l op rr p => PM.bnd (r.ev sc (.Compare l [op] [rr] p) m) asB
  | .oth e => if plainT e then PM.bnd (r.ev sc e m) asB else .fail
noncomputable def compF (C : Ctx) (r : RC) (csc : Scope) (elt : Expr) (a : Nat) (ifs : List Expr) (rest : List Comprehension) (m' : Fm) : PM Fm :=
  PM.bnd (ctests (fun c => r.tr csc c m') ifs) fun ok => if ok then match rest with
      | [] => PM.bnd (r.ev csc elt m') fun v => PM.bnd (PM.getL a) fun vs => if vs.length < lineLen then PM.bnd (PM.put a (.lst (vs ++ [v]))) fun _ => .ret m' else .fail
      | g :: rest2 => if isSetE g.iter || !(decide (g.is_async = 0)) then .fail else PM.bnd (r.src csc g.iter m') fun src2 =>
        if !(srcOk src2 g.target) then .fail else r.comp csc elt a g.target g.ifs rest2 src2 m'
    else .ret m'
noncomputable def recs (C : Ctx) : Nat → RC
  | 0 => ⟨fun _ _ _ => .fail, fun _ _ _ => .fail, fun _ _ _ => .fail, fun _ _ _ _ _ _ _ _ => .fail⟩
  | n + 1 => ⟨fun sc e m => evF C (recs C n) sc m (viewE e), fun sc e m => srcF C (recs C n) sc m (viewS e), fun sc e m => trF (recs C n) sc m (viewT e),
      fun csc elt a t ifs rest src m => cloop (passign csc t) (compF C (recs C n) csc elt a ifs rest) src C.wf 0 m⟩
noncomputable def pev (C : Ctx) (n : Nat) : Scope → Expr → Fm → PM PV := (recs C n).ev
noncomputable def psrc (C : Ctx) (n : Nat) : Scope → Expr → Fm → PM Src := (recs C n).src
noncomputable def ptrue (C : Ctx) (n : Nat) : Scope → Expr → Fm → PM Bool := (recs C n).tr
/-- the turns of the clause (t, ifs) of a comprehension that fills a; the clauses behind it -/
noncomputable def pcomp (C : Ctx) (n : Nat) : Scope → Expr → Nat → Expr → List Expr → List Comprehension → Src → Fm → PM Fm := (recs C n).comp

noncomputable def exF (C : Ctx) (r : RC) (sc : Scope) (bl : List Stmt → Fm → PM (PFlow × Fm)) (m : Fm) {s : Stmt} (w : VwX s) : PM (PFlow × Fm) := match w with
  | .expr o name apos args kws cp _ => PM.bnd (r.ev sc (.Call (.Attribute o name apos) args kws cp) m) (exprK m)
  | .cont _ => .ret (.cont, m)
  | .ret e _ => PM.bnd (r.ev sc e m) fun v => .ret (.ret v, m)
  | .asub o i _ e _ => if isSlice i || isComp e then .fail else
      PM.bnd (r.ev sc e m) fun v => PM.bnd (r.ev sc o m) fun ov => PM.bnd (r.ev sc i m) fun iv => PM.bnd (psetitem ov iv v) fun _ => .ret (.next, m)
  | .asgn t e _ => if (isComp e && (tnames t).any (·.1)) || constTup e then .fail else
      PM.bnd (r.ev sc e m) fun v => PM.bnd (PM.lift (passign sc t v m)) fun m' => .ret (.next, m')
  | .ite t a b _ => PM.bnd (r.tr sc t m) fun c => if c then bl a m else bl b m
  | .whl t b _ => wloop (fun m => r.tr sc t m) (fun m => bl b m) C.wf m
  | .for t it b _ => if isSetE it then .fail else PM.bnd (r.src sc it m) fun src => if !(srcOk src t) then .fail else floop (passign sc t) (fun m => bl b m) src C.wf 0 m
  | .bad _ => .fail
noncomputable def seqK (k : Fm → PM (PFlow × Fm)) (p : PFlow × Fm) : PM (PFlow × Fm) := match p.1 with
  | .next => k p.2
  | _ => .ret p
noncomputable def exs (C : Ctx) : Nat → (Scope → Stmt → Fm → PM (PFlow × Fm)) × (Scope → List Stmt → Fm → PM (PFlow × Fm))
  | 0 => (fun _ _ _ => .fail, fun _ _ _ => .fail)
  | n + 1 => (fun sc st m => exF C (recs C n) sc ((exs C n).2 sc) m (viewX st), fun sc sts m => match sts with
    | [] => .ret (.next, m)
    | st :: r => PM.bnd ((exs C n).1 sc st m) (seqK ((exs C n).2 sc r)))
noncomputable def pex (C : Ctx) (n : Nat) : Scope → Stmt → Fm → PM (PFlow × Fm) := (exs C n).1
noncomputable def pexs (C : Ctx) (n : Nat) : Scope → List Stmt → Fm → PM (PFlow × Fm) := (exs C n).2

/-- what is known of a def of the text -/
structure Fdef where
  params : List Str
  body : List Stmt
  scope : Scope
noncomputable def endK (p : PFlow × Fm) : PM PV := match p.1 with
  | .ret v => .ret v
  | .next => .ret .none
  | _ => .fail
noncomputable def callN (F : Addr → Option Fdef) (glob : Str → Option PV) (wf : Nat) : Nat → Addr → List PV → PM PV
  | 0, _, _ => .fail
  | k + 1, a, args => match F a with
    | none => .fail
    | some d => if d.params.length = args.length then PM.bnd (pexs ⟨callN F glob wf k, glob, wf⟩ 60 d.scope d.body (bindAll (fun _ => none) d.params args)) endK else .fail

end Mine.Internal
end

section
open PySem PySem.W PyProof.Rows PySem.Spec PySem.Calls
namespace Mine.Internal

noncomputable abbrev tupO (vs : List Value) (n : Nat) : Obj := { cls := .type "tuple", data := .seq vs.toArray n }
noncomputable abbrev lstO (vs : List Value) (n : Nat) : Obj := { cls := .type "list", data := .seq vs.toArray n }
noncomputable abbrev dctO (hs : List DictEntry) (n : Nat) : Obj := { cls := .type "dict", data := .dict hs.toArray n }

mutual
inductive VR (h : Heap) (ads : List Addr) : Value → PV → Prop
  | none : VR h ads Value.none PV.none
  | bool (b : Bool) : VR h ads (Value.bool b) (PV.bool b)
  | int (i : Int) (t : Tok) : VR h ads (Value.int i t) (PV.int i)
  | str (x : Str) (t : Tok) : VR h ads (Value.str x t) (PV.str x)
  | tup {a : Addr} {us : List Value} {n : Nat} {vs : List PV} : h.get? a = some (tupO us n) → VRs h ads us vs → VR h ads (Value.ref a) (PV.tup vs)
  | ref {a : Addr} {n : Nat} : ads[n]? = some a → VR h ads (Value.ref a) (PV.ref n)
  | fn (a : Addr) : VR h ads (Value.ref a) (PV.fn a)
  | bi (id : String) : VR h ads (Value.builtin id) (PV.bi id)
  | ty (n : String) : VR h ads (Value.type n) (PV.ty n)
inductive VRs (h : Heap) (ads : List Addr) : List Value → List PV → Prop
  | nil : VRs h ads [] []
  | cons {u : Value} {v : PV} {us : List Value} {vs : List PV} : VR h ads u v → VRs h ads us vs → VRs h ads (u :: us) (v :: vs)
end

noncomputable def TupKeep (h h' : Heap) : Prop := ∀ b us n, h.get? b = some (tupO us n) → h'.get? b = some (tupO us n)

mutual
theorem VR.mono {h h' : Heap} {ads ads' : List Addr} (hk : TupKeep h h') (hp : ∃ more, ads' = ads ++ more) : ∀ {u : Value} {v : PV}, VR h ads u v → VR h' ads' u v
  | _, _, .none => .none
  | _, _, .bool b => .bool b
  | _, _, .int i t => .int i t
  | _, _, .str x t => .str x t
  | _, _, .tup h1 h2 => .tup (hk _ _ _ h1) (VRs.mono hk hp h2)
  | _, _, .ref h1 => by
    obtain ⟨more, rfl⟩ := hp
    refine .ref ?_
    rw [List.getElem?_append_left (List.getElem?_eq_some_iff.mp h1).1]; exact h1
  | _, _, .fn a => .fn a
  | _, _, .bi id => .bi id
  | _, _, .ty n => .ty n
theorem VRs.mono {h h' : Heap} {ads ads' : List Addr} (hk : TupKeep h h') (hp : ∃ more, ads' = ads ++ more) : ∀ {us : List Value} {vs : List PV}, VRs h ads us vs → VRs h' ads' us vs
  | _, _, .nil => .nil
  | _, _, .cons h1 h2 => .cons (VR.mono hk hp h1) (VRs.mono hk hp h2)
end

section
variable {h : Heap} {ads : List Addr} {us ws : List Value} {vs zs : List PV} {u : Value} {v : PV}
theorem VRs.length (x : VRs h ads us vs) : us.length = vs.length := by
  induction us generalizing vs with
  | nil => cases x; rfl
  | cons u r ih => cases x with | cons a b => rw [List.length_cons, List.length_cons, ih b]
theorem VRs.append (x : VRs h ads us vs) (y : VRs h ads ws zs) : VRs h ads (us ++ ws) (vs ++ zs) := by
  induction us generalizing vs with
  | nil => cases x; exact y
  | cons u r ih => cases x with | cons a b => exact .cons a (ih b)
theorem VRs.one (x : VR h ads u v) : VRs h ads [u] [v] := .cons x .nil
theorem VRs.get (x : VRs h ads us vs) {i : Nat} (e : vs[i]? = some v) : ∃ u, us[i]? = some u ∧ VR h ads u v := by
  induction us generalizing vs i with
  | nil => cases x; cases e
  | cons u r ih =>
    cases x with
    | cons a b =>
      cases i with
      | zero => cases e; exact ⟨_, rfl, a⟩
      | succ i => exact ih b e
theorem VRs.take (x : VRs h ads us vs) (k : Nat) : VRs h ads (us.take k) (vs.take k) := by
  induction us generalizing vs k with
  | nil => cases x; simp; exact .nil
  | cons u r ih =>
    cases x with
    | cons a b =>
      cases k with
      | zero => exact .nil
      | succ k => exact .cons a (ih b k)
theorem VRs.drop (x : VRs h ads us vs) (k : Nat) : VRs h ads (us.drop k) (vs.drop k) := by
  induction us generalizing vs k with
  | nil => cases x; simp; exact .nil
  | cons u r ih =>
    cases x with
    | cons a b =>
      cases k with
      | zero => exact .cons a b
      | succ k => exact ih b k
theorem VRs.reverse (x : VRs h ads us vs) : VRs h ads us.reverse vs.reverse := by
  induction us generalizing vs with
  | nil => cases x; exact .nil
  | cons u r ih => cases x with | cons a b => rw [List.reverse_cons, List.reverse_cons]; exact (ih b).append (.one a)
theorem VRs.splitLast (x : VRs h ads us (zs ++ [v])) : ∃ us' u, us = us' ++ [u] ∧ VRs h ads us' zs ∧ VR h ads u v := by
  induction zs generalizing us with
  | nil => cases x with | cons a b => cases b; exact ⟨[], _, rfl, .nil, a⟩
  | cons z r ih =>
    cases x with
    | cons a b =>
      obtain ⟨us', u, rfl, h1, h2⟩ := ih b
      exact ⟨_ :: us', u, rfl, .cons a h1, h2⟩
theorem VR.str_inv {x : Str} (h1 : VR h ads u (.str x)) : ∃ t, u = .str x t := by cases h1; exact ⟨_, rfl⟩
theorem VR.int_inv {i : Int} (h1 : VR h ads u (.int i)) : ∃ t, u = .int i t := by cases h1; exact ⟨_, rfl⟩
theorem VR.bool_inv {b : Bool} (h1 : VR h ads u (.bool b)) : u = .bool b := by cases h1; rfl
theorem VR.none_inv (h1 : VR h ads u .none) : u = .none := by cases h1; rfl
theorem VR.tup_inv (h1 : VR h ads u (.tup vs)) : ∃ a us n, u = .ref a ∧ h.get? a = some (tupO us n) ∧ VRs h ads us vs := by cases h1 with | tup a b => exact ⟨_, _, _, rfl, a, b⟩
theorem VR.ref_inv {n : Nat} (h1 : VR h ads u (.ref n)) : ∃ a, u = .ref a ∧ ads[n]? = some a := by cases h1 with | ref a => exact ⟨_, rfl, a⟩
theorem VR.strE {x : Str} {P : Value → Prop} (h1 : VR h ads u (.str x)) (k : ∀ t, P (.str x t)) : P u := by cases h1; exact k _
theorem VR.intE {i : Int} {P : Value → Prop} (h1 : VR h ads u (.int i)) (k : ∀ t, P (.int i t)) : P u := by cases h1; exact k _
theorem VR.tupE {P : Value → Prop} (h1 : VR h ads u (.tup vs)) (k : ∀ a us n, h.get? a = some (tupO us n) → VRs h ads us vs → P (.ref a)) : P u := by cases h1 with | tup a b => exact k _ _ _ a b
theorem VR.refE {n : Nat} {P : Value → Prop} (h1 : VR h ads u (.ref n)) (k : ∀ a, ads[n]? = some a → P (.ref a)) : P u := by cases h1 with | ref a => exact k _ a
theorem VRs.oneE {v : PV} {P : List Value → Prop} (x : VRs h ads us [v]) (k : ∀ u, VR h ads u v → P [u]) : P us := by
  cases x with | cons a b => cases b; exact k _ a
theorem VRs.strs {ss : List Str} (e : strsOf? vs = some ss) (x : VRs h ads us vs) : StrsAre us ss ∧ vs = ss.map .str := by
  induction us generalizing vs ss with
  | nil => cases x; cases e; exact ⟨.nil, rfl⟩
  | cons u r ih =>
    cases x with
    | @cons _ v _ vs a b =>
      cases v <;> simp only [strsOf?, Option.map_eq_some_iff, reduceCtorEq] at e
      obtain ⟨ss', e', rfl⟩ := e
      obtain ⟨t, rfl⟩ := a.str_inv
      obtain ⟨i1, i2⟩ := ih e' b
      exact ⟨.cons _ _ i1, by rw [i2]; rfl⟩
theorem VRs.ofStrs {ss : List Str} (x : StrsAre us ss) : VRs h ads us (ss.map .str) := by
  induction us generalizing ss with
  | nil => cases x; exact .nil
  | cons u r ih => cases x with | cons a b c => exact .cons (.str _ _) (ih c)
end

/-- the world of the claim, and the heap that stood before the law's call -/
structure Bs where
  prog : Program
  w : World
  h0 : Heap
  L0 : Addr
  above : h0.objs.size ≤ L0
  sys : sysModules < h0.objs.size

/-- the entries of a dict that is keyed by strs -/
inductive KV (h : Heap) (ads : List Addr) : List (Str × Value) → List (Str × PV) → Prop
  | nil : KV h ads [] []
  | cons {x : Str} {u : Value} {v : PV} {us vs} : VR h ads u v → KV h ads us vs → KV h ads ((x, u) :: us) ((x, v) :: vs)
theorem KV.mono {h h' : Heap} {ads ads' : List Addr} (hk : TupKeep h h') (hp : ∃ more, ads' = ads ++ more) {us vs} (x : KV h ads us vs) : KV h' ads' us vs := by
  induction x with
  | nil => exact .nil
  | cons a _ ih => exact .cons (a.mono hk hp) ih
theorem KV.keys {h : Heap} {ads : List Addr} {us vs} (x : KV h ads us vs) : us.map (·.1) = vs.map (·.1) := by
  induction x with
  | nil => rfl
  | cons _ _ ih => simp only [List.map_cons, ih]
theorem KV.length {h : Heap} {ads : List Addr} {us vs} (x : KV h ads us vs) : us.length = vs.length := by
  have := congrArg List.length x.keys; simpa using this
theorem KV.append {h : Heap} {ads : List Addr} {us vs us' vs'} (x : KV h ads us vs) (y : KV h ads us' vs') : KV h ads (us ++ us') (vs ++ vs') := by
  induction x with
  | nil => exact y
  | cons a _ ih => exact .cons a ih

/-- data at an address: a tuple of strs and tuples of a known depth -/
noncomputable def dataAt (h : Heap) (k : PV) (a : Addr) : Prop := PV.isD keyDepth k = true ∧ VR h [] (.ref a) k
/-- the entries of a dict that is keyed by tuples -/
inductive TV (h : Heap) (ads : List Addr) : List (PV × Addr × Value) → List (PV × PV) → Prop
  | nil : TV h ads [] []
  | cons {k : PV} {a : Addr} {u : Value} {v : PV} {us vs} : VR h ads u v → TV h ads us vs → TV h ads ((k, a, u) :: us) ((k, v) :: vs)
theorem TV.mono {h h' : Heap} {ads ads' : List Addr} (hk : TupKeep h h') (hp : ∃ more, ads' = ads ++ more) {us vs} (x : TV h ads us vs) : TV h' ads' us vs := by
  induction x with
  | nil => exact .nil
  | cons a _ ih => exact .cons (a.mono hk hp) ih
theorem TV.length {h : Heap} {ads : List Addr} {us vs} (x : TV h ads us vs) : us.length = vs.length := by
  induction x with
  | nil => rfl
  | cons _ _ ih => simp only [List.length_cons, ih]
theorem TV.append {h : Heap} {ads : List Addr} {us vs us' vs'} (x : TV h ads us vs) (y : TV h ads us' vs') : TV h ads (us ++ us') (vs ++ vs') := by
  induction x with
  | nil => exact y
  | cons a _ ih => exact .cons a ih

/-- the hash of data -/
noncomputable def phash (w : World) : Nat → PV → Int
  | _, .str x => hashStr w x
  | n + 1, .tup vs => reduceHash (Builtin.Tuple.tupleHashOf (vs.map (phash w n)))
  | _, _ => 0
noncomputable def TEnt (w : World) (x : PV × Addr × Value) : DictEntry := ⟨phash w keyDepth x.1, .ref x.2.1, x.2.2⟩

noncomputable def OR (B : Bs) (h : Heap) (ads : List Addr) (a : Addr) : PO → Prop
  | .lst vs => ∃ us n, h.get? a = some (lstO us n) ∧ VRs h ads us vs
  | .dct es => ∃ kvs, h.DictOf (strKind B.prog B.w) a kvs ∧ KV h ads kvs es
  | .dtp es => ∃ xs ep, h.get? a = some (dctO (xs.map (TEnt B.w)) ep) ∧ (∀ x ∈ xs, dataAt h x.1 x.2.1) ∧ (xs.map (·.1)).Nodup ∧ TV h ads xs es

theorem OR.alive {B : Bs} {h : Heap} {ads : List Addr} {a : Addr} {o : PO} (x : OR B h ads a o) : ∃ ob, h.get? a = some ob ∧ ob.cls ≠ .type "tuple" ∧ ∀ us n, ob ≠ tupO us n := by
  cases o with
  | lst vs =>
    obtain ⟨us, n, e, _⟩ := x
    have d : Value.type "list" ≠ Value.type "tuple" := by decide
    exact ⟨_, e, d, fun _ _ q => d (congrArg Obj.cls q)⟩
  | dct es =>
    obtain ⟨us, ⟨o, _, _, e, hx, _⟩, _⟩ := x
    have d : Value.type "dict" ≠ Value.type "tuple" := by decide
    exact ⟨_, e, (by rw [hx.1]; exact d), fun _ _ q => d (by rw [← hx.1]; exact congrArg Obj.cls q)⟩
  | dtp es =>
    obtain ⟨xs, ep, e, _⟩ := x
    have d : Value.type "dict" ≠ Value.type "tuple" := by decide
    exact ⟨_, e, d, fun _ _ q => d (congrArg Obj.cls q)⟩
theorem OR.mono {B : Bs} {h h' : Heap} {ads ads' : List Addr} {a : Addr} {o : PO} (x : OR B h ads a o) (hk : TupKeep h h') (hp : ∃ more, ads' = ads ++ more) (e : h'.get? a = h.get? a) : OR B h' ads' a o := by
  cases o with
  | lst vs => obtain ⟨us, n, e1, r⟩ := x; exact ⟨us, n, e.trans e1, r.mono hk hp⟩
  | dct es => obtain ⟨us, ⟨o, hs, ep, e1, r1⟩, r⟩ := x; exact ⟨us, ⟨o, hs, ep, e.trans e1, r1⟩, r.mono hk hp⟩
  | dtp es =>
    obtain ⟨xs, ep, e1, r1, r2, r3⟩ := x
    exact ⟨xs, ep, e.trans e1, fun x hx => ⟨(r1 x hx).1, (r1 x hx).2.mono hk ⟨[], rfl⟩⟩, r2, r3.mono hk hp⟩

/-- the store's relation to the heap; h₀: what stood before the law's call -/
structure SR (B : Bs) (ads : List Addr) (S : St) (h : Heap) : Prop where
  base : ∀ b o, B.h0.get? b = some o → h.get? b = some o
  len : ads.length = S.length
  nodup : ads.Nodup
  fresh : ∀ a ∈ ads, B.h0.get? a = none ∧ a ≠ sysModules
  live : ∃ o, h.get? B.L0 = some o
  objs : ∀ (n : Nat) (o : PO), S[n]? = some o → ∃ a, ads[n]? = some a ∧ OR B h ads a o

theorem SR.big {B : Bs} {ads : List Addr} {S : St} {h : Heap} (R : SR B ads S h) : B.h0.objs.size < h.objs.size := let ⟨_, e⟩ := R.live; Nat.lt_of_le_of_lt B.above (Heap.lt_size e)
theorem SR.old {B : Bs} {ads : List Addr} {S : St} {h : Heap} (R : SR B ads S h) {a : Addr} (ha : a ∈ ads) : B.h0.get? a = none := (R.fresh a ha).1
theorem SR.notSys {B : Bs} {ads : List Addr} {S : St} {h : Heap} (R : SR B ads S h) {a : Addr} (ha : a ∈ ads) : (a == sysModules) = false := by
  exact beq_eq_false_iff_ne.mpr (R.fresh a ha).2
theorem SR.at {B : Bs} {ads : List Addr} {S : St} {h : Heap} (R : SR B ads S h) {n : Nat} {a : Addr} (e : ads[n]? = some a) : ∃ o, S[n]? = some o ∧ OR B h ads a o := by
  have hl : n < S.length := by rw [← R.len]; exact (List.getElem?_eq_some_iff.mp e).1
  obtain ⟨a', e', r⟩ := R.objs n S[n] (by simp [hl])
  rw [e] at e'; cases e'
  exact ⟨_, by simp [hl], r⟩
theorem SR.alive {B : Bs} {ads : List Addr} {S : St} {h : Heap} (R : SR B ads S h) {a : Addr} (e : a ∈ ads) : ∃ ob, h.get? a = some ob ∧ ob.cls ≠ .type "tuple" ∧ ∀ us n, ob ≠ tupO us n := by
  obtain ⟨n, hn⟩ := List.mem_iff_getElem?.mp e
  obtain ⟨o, _, r⟩ := R.at hn
  exact r.alive
theorem SR.obj {B : Bs} {ads : List Addr} {S : St} {h : Heap} (R : SR B ads S h) {n : Nat} {a : Addr} {o : PO} (e : ads[n]? = some a) (eo : S[n]? = some o) : OR B h ads a o := by
  obtain ⟨o', e', r⟩ := R.at e
  rw [eo] at e'; cases e'; exact r

/-- what a step may do to the heap: own: the addresses that the frame may change -/
structure Ext (own : Addr → Prop) (ads : List Addr) (h : Heap) (ads' : List Addr) (h' : Heap) : Prop where
  pre : ∃ more, ads' = ads ++ more
  news : ∀ a ∈ ads', a ∈ ads ∨ h.get? a = none ∨ own a
  keep : ∀ b o, h.get? b = some o → b ∉ ads → ¬ own b → h'.get? b = some o
  alive : ∀ b o, h.get? b = some o → ¬ own b → ∃ o', h'.get? b = some o'
  tup : TupKeep h h'

theorem SR.objL {B : Bs} {ads : List Addr} {S : St} {h : Heap} {P : Prop} (R : SR B ads S h) {n : Nat} {a : Addr} {vs : List PV} (e : ads[n]? = some a) (eo : S[n]? = some (.lst vs)) (k : ∀ us n, h.get? a = some (lstO us n) → VRs h ads us vs → P) : P :=
  let ⟨us, n, h1, h2⟩ := R.obj e eo; k us n h1 h2
theorem SR.objD {B : Bs} {ads : List Addr} {S : St} {h : Heap} {P : Prop} (R : SR B ads S h) {n : Nat} {a : Addr} {es : List (Str × PV)} (e : ads[n]? = some a) (eo : S[n]? = some (.dct es)) (k : ∀ kvs, h.DictOf (strKind B.prog B.w) a kvs → KV h ads kvs es → P) : P :=
  let ⟨us, h1, h2⟩ := R.obj e eo; k us h1 h2
theorem Ext.refl (own : Addr → Prop) (ads : List Addr) (h : Heap) : Ext own ads h ads h :=
  ⟨⟨[], (List.append_nil _).symm⟩, fun _ h => .inl h, fun _ _ e _ _ => e, fun _ _ e _ => ⟨_, e⟩, fun _ _ _ e => e⟩
/-- behind new addresses that the second step may change -/
theorem Ext.fresh {own own' : Addr → Prop} {ads ads' ads'' : List Addr} {h h' h'' : Heap} (x : Ext own ads h ads' h') (y : Ext own' ads' h' ads'' h'') (hf : ∀ b, own' b → own b ∨ h.get? b = none) : Ext own ads h ads'' h'' where
  pre := by obtain ⟨m1, rfl⟩ := x.pre; obtain ⟨m2, rfl⟩ := y.pre; exact ⟨m1 ++ m2, List.append_assoc ..⟩
  news a ha := by
    rcases y.news a ha with q | q | q
    · exact x.news a q
    · by_cases ho : own a
      · exact .inr (.inr ho)
      · right; left
        cases e : h.get? a with
        | none => rfl
        | some o => obtain ⟨o', e'⟩ := x.alive a o e ho; rw [q] at e'; cases e'
    · rcases hf a q with q | q
      · exact .inr (.inr q)
      · exact .inr (.inl q)
  keep b o e n1 n2 := by
    refine y.keep b o (x.keep b o e n1 n2) (fun q => ?_) (fun q => ?_)
    · rcases x.news b q with q | q | q
      · exact n1 q
      · rw [e] at q; cases q
      · exact n2 q
    · rcases hf b q with q | q
      · exact n2 q
      · rw [e] at q; cases q
  alive b o e n := by
    obtain ⟨o', e'⟩ := x.alive b o e n
    refine y.alive b o' e' fun q => ?_
    rcases hf b q with q | q
    · exact n q
    · rw [e] at q; cases q
  tup b us n e := y.tup b us n (x.tup b us n e)
theorem Ext.trans {own : Addr → Prop} {ads ads' ads'' : List Addr} {h h' h'' : Heap} (x : Ext own ads h ads' h') (y : Ext own ads' h' ads'' h'') : Ext own ads h ads'' h'' := x.fresh y fun _ q => .inl q
theorem Ext.weaken {own own' : Addr → Prop} {ads ads' : List Addr} {h h' : Heap} (x : Ext own ads h ads' h') (hw : ∀ b, own b → own' b) : Ext own' ads h ads' h' :=
  { x with
    news := fun a ha => by rcases x.news a ha with q | q | q; exact .inl q; exact .inr (.inl q); exact .inr (.inr (hw _ q))
    keep := fun b o e n1 n2 => x.keep b o e n1 fun q => n2 (hw b q)
    alive := fun b o e n => x.alive b o e fun q => n (hw b q) }
theorem Ext.vr {own : Addr → Prop} {ads ads' : List Addr} {h h' : Heap} (x : Ext own ads h ads' h') {u : Value} {v : PV} (r : VR h ads u v) : VR h' ads' u v := r.mono x.tup x.pre
theorem Ext.vrs {own : Addr → Prop} {ads ads' : List Addr} {h h' : Heap} (x : Ext own ads h ads' h') {us : List Value} {vs : List PV} (r : VRs h ads us vs) : VRs h' ads' us vs := r.mono x.tup x.pre

noncomputable def none' : Addr → Prop := fun _ => False

structure Same (s s' : Shared) : Prop where
  gens : s'.gens = s.gens
  os : s'.os = s.os
theorem Same.refl (s : Shared) : Same s s := ⟨rfl, rfl⟩
theorem Same.trans {s s' s'' : Shared} (x : Same s s') (y : Same s' s'') : Same s s'' := ⟨y.gens.trans x.gens, y.os.trans x.os⟩

/-- what holds behind a step -/
structure Nx (B : Bs) (own : Addr → Prop) (s : Shared) (ads : List Addr) (s' : Shared) (ads' : List Addr) (S' : St) : Prop where
  same : Same s s'
  sr : SR B ads' S' s'.heap
  ext : Ext own ads s.heap ads' s'.heap
theorem Nx.trans {B : Bs} {own : Addr → Prop} {s s' s'' : Shared} {ads ads' ads'' : List Addr} {S' S'' : St} (x : Nx B own s ads s' ads' S') (y : Nx B own s' ads' s'' ads'' S'') : Nx B own s ads s'' ads'' S'' :=
  ⟨x.same.trans y.same, y.sr, x.ext.trans y.ext⟩
theorem Nx.fresh {B : Bs} {own own' : Addr → Prop} {s s' s'' : Shared} {ads ads' ads'' : List Addr} {S' S'' : St} (x : Nx B own s ads s' ads' S') (y : Nx B own' s' ads' s'' ads'' S'') (hf : ∀ b, own' b → own b ∨ s.heap.get? b = none) : Nx B own s ads s'' ads'' S'' :=
  ⟨x.same.trans y.same, y.sr, x.ext.fresh y.ext hf⟩
theorem Nx.refl {B : Bs} {own : Addr → Prop} {s : Shared} {ads : List Addr} {S : St} (R : SR B ads S s.heap) : Nx B own s ads s ads S := ⟨.refl s, R, .refl own ads _⟩
theorem Nx.tok {B : Bs} {own : Addr → Prop} {s : Shared} {ads : List Addr} {S : St} (R : SR B ads S s.heap) (t : Nat) : Nx B own s ads { s with toks := t } ads S := ⟨⟨rfl, rfl⟩, R, .refl own ads _⟩
theorem Nx.weaken {B : Bs} {own own' : Addr → Prop} {s s' : Shared} {ads ads' : List Addr} {S' : St} (x : Nx B own s ads s' ads' S') (hw : ∀ b, own b → own' b) : Nx B own' s ads s' ads' S' :=
  ⟨x.same, x.sr, x.ext.weaken hw⟩

/-- a heap that keeps all that stood (new objects may stand beside), toks turn -/
theorem Nx.keep {B : Bs} {own : Addr → Prop} {s s' : Shared} {ads : List Addr} {S : St} (R : SR B ads S s.heap) (hs : Same s s') (hk : ∀ b o, s.heap.get? b = some o → s'.heap.get? b = some o) : Nx B own s ads s' ads S where
  same := hs
  sr := ⟨fun b o e => hk b o (R.base b o e), R.len, R.nodup, R.fresh, (let ⟨o, e⟩ := R.live; ⟨o, hk _ _ e⟩), fun n o e => by
    obtain ⟨a, ea, r⟩ := R.objs n o e
    obtain ⟨ob, eo, _⟩ := r.alive
    exact ⟨a, ea, r.mono (fun b us n e => hk _ _ e) ⟨[], (List.append_nil _).symm⟩ ((hk _ _ eo).trans eo.symm)⟩⟩
  ext := ⟨⟨[], (List.append_nil _).symm⟩, fun _ h => .inl h, fun b o e _ _ => hk b o e, fun b o e _ => ⟨_, hk b o e⟩, fun b us n e => hk _ _ e⟩
theorem Nx.push {B : Bs} {own : Addr → Prop} {s : Shared} {ads : List Addr} {S : St} (R : SR B ads S s.heap) (o : Obj) (t : Nat) : Nx B own s ads { s with heap := s.heap.push o, toks := t } ads S :=
  .keep R ⟨rfl, rfl⟩ fun _ _ e => Heap.get?_push_of_some _ e

/-- a new object of the store -/
theorem Nx.allocF {B : Bs} {own : Addr → Prop} {s s' : Shared} {ads : List Addr} {S : St} {a : Addr} {o : PO} (R : SR B ads S s.heap) (hs : Same s s') (hk : ∀ b o, s.heap.get? b = some o → s'.heap.get? b = some o)
    (hz : ∀ b o, s.heap.get? b = some o → b < a) (ho : OR B s'.heap (ads ++ [a]) a o) : Nx B own s ads s' (ads ++ [a]) (S ++ [o]) := by
  have X := Nx.keep (own := own) R hs hk
  have hn : s.heap.get? a = none := by
    cases e : s.heap.get? a with
    | none => rfl
    | some o => exact absurd (hz a o e) (Nat.lt_irrefl _)
  have pre : ∃ more, ads ++ [a] = ads ++ more := ⟨[a], rfl⟩
  refine ⟨hs, ⟨X.sr.base, by simp [R.len], ?_, ?_, X.sr.live, ?_⟩, ⟨pre, ?_, X.ext.keep, X.ext.alive, X.ext.tup⟩⟩
  · refine List.nodup_append.mpr ⟨R.nodup, by simp, ?_⟩
    intro b hb c hc
    rw [List.mem_singleton.mp hc]
    rintro rfl
    obtain ⟨ob, e, _⟩ := R.alive hb
    rw [hn] at e; cases e
  · intro b hb
    rcases List.mem_append.mp hb with hb | hb
    · exact R.fresh b hb
    · rw [List.mem_singleton.mp hb]
      obtain ⟨oL, eL⟩ := R.live
      have hle := Nat.le_trans B.above (Nat.le_of_lt (hz _ _ eL))
      exact ⟨Heap.get?_none_of_le hle, Nat.ne_of_gt (Nat.lt_of_lt_of_le B.sys hle)⟩
  · intro n o' e
    rcases Nat.lt_or_ge n S.length with hl | hl
    · rw [List.getElem?_append_left hl] at e
      obtain ⟨b, eb, r⟩ := X.sr.objs n o' e
      exact ⟨b, by rw [List.getElem?_append_left (by rw [R.len]; exact hl)]; exact eb, r.mono (fun _ _ _ e => e) pre rfl⟩
    · have : n = S.length := by
        have := (List.getElem?_eq_some_iff.mp e).1
        simp at this; exact om115 hl this
      subst this
      simp at e; subst e
      exact ⟨a, by rw [← R.len]; simp, ho⟩
  · intro b hb
    rcases List.mem_append.mp hb with hb | hb
    · exact .inl hb
    · rw [List.mem_singleton.mp hb]; exact .inr (.inl hn)

theorem Nx.alloc {B : Bs} {own : Addr → Prop} {s s' : Shared} {ads : List Addr} {S : St} {a : Addr} {o : PO} (R : SR B ads S s.heap) (hs : Same s s') (hk : ∀ b o, s.heap.get? b = some o → s'.heap.get? b = some o)
    (hz : s.heap.objs.size ≤ a) (ho : OR B s'.heap (ads ++ [a]) a o) : Nx B own s ads s' (ads ++ [a]) (S ++ [o]) :=
  Nx.allocF R hs hk (fun b o e => Nat.lt_of_lt_of_le (Heap.lt_size e) hz) ho

/-- an object of the store is changed -/
theorem Nx.set {B : Bs} {own : Addr → Prop} {s s' : Shared} {ads : List Addr} {S : St} {a : Addr} {n : Nat} {o : PO} (R : SR B ads S s.heap) (hs : Same s s') (ha : ads[n]? = some a)
    (hk : ∀ b o, b ≠ a → s.heap.get? b = some o → s'.heap.get? b = some o) (ho : OR B s'.heap ads a o) : Nx B own s ads s' ads (S.set n o) := by
  have hma : a ∈ ads := List.mem_of_getElem? ha
  have tk : TupKeep s.heap s'.heap := fun b us k e => hk b _ (fun q => by
    obtain ⟨ob, e', _, h3⟩ := R.alive hma
    rw [q, e'] at e
    exact h3 _ _ (Option.some.inj e)) e
  have pre : ∃ more, ads = ads ++ more := ⟨[], (List.append_nil _).symm⟩
  have hnl : n < S.length := by rw [← R.len]; exact (List.getElem?_eq_some_iff.mp ha).1
  refine ⟨hs, ⟨?_, by simp [R.len], R.nodup, R.fresh, ?_, ?_⟩, ⟨pre, fun _ h => .inl h, ?_, ?_, tk⟩⟩
  · intro b o e
    refine hk b o (fun q => ?_) (R.base b o e)
    rw [q, R.old hma] at e; cases e
  · obtain ⟨o', e⟩ := R.live
    by_cases q : B.L0 = a
    · rw [q]; obtain ⟨ob, e', _⟩ := ho.alive; exact ⟨ob, e'⟩
    · exact ⟨o', hk _ _ q e⟩
  · intro k o' e
    by_cases hkn : k = n
    · subst hkn
      simp [hnl] at e; subst e
      exact ⟨a, ha, ho⟩
    · rw [List.getElem?_set_ne (Ne.symm hkn)] at e
      obtain ⟨b, eb, r⟩ := R.objs k o' e
      have hba : b ≠ a := by
        rintro rfl
        obtain ⟨h1, h2⟩ := List.getElem?_eq_some_iff.mp eb
        obtain ⟨h3, h4⟩ := List.getElem?_eq_some_iff.mp ha
        exact hkn ((List.getElem_inj R.nodup).mp (h2.trans h4.symm))
      obtain ⟨ob, eo, _⟩ := r.alive
      exact ⟨b, eb, r.mono tk pre ((hk b ob hba eo).trans eo.symm)⟩
  · intro b o e n1 _
    exact hk b o (fun q => n1 (q ▸ hma)) e
  · intro b o e _
    by_cases q : b = a
    · rw [q]; obtain ⟨ob, e', _⟩ := ho.alive; exact ⟨ob, e'⟩
    · exact ⟨_, hk b o q e⟩

end Mine.Internal
end

section
open PySem PySem.W PyProof.Rows PySem.Spec PySem.Calls
namespace Mine.Internal

structure AOk (d : Nat) (A : Around) : Prop where
  handled : A.handled = none
  depth : A.depth + d < recursionLimit
  units : A.units + 8 * d + 400 < cLine
theorem AOk.deeper {d : Nat} {A : Around} (x : AOk (d + 1) A) (env : Env) : AOk d (A.deeper env) :=
  ⟨x.handled, by have := x.depth; show A.depth + 1 + d < _; exact om37 this, by have := x.units; show A.units + 3 + 8 * d + 400 < _; exact om116 this⟩

/-- the frame's relation to the heap -/
structure FR (B : Bs) (own : Addr → Prop) (env : Env) (sc : Scope) (h : Heap) (ads : List Addr) (m : Fm) : Prop where
  kind : env.scope.kind = .function
  glob : env.globals = mainGlobals
  bins : env.builtins = builtinsNs
  nLocal : ∀ x, sc.names.lookup x = some .local → env.kindOf x = some .local
  nCell : ∀ x, sc.names.lookup x = some .cell → env.kindOf x = some .cell
  nFree : ∀ x, sc.names.lookup x = some .free → env.kindOf x = some .cell ∨ env.kindOf x = some .free
  nGlob : ∀ x, sc.names.lookup x = some .globalImplicit → env.kindOf x = some .globalImplicit
  lAds : env.locals ∉ ads
  lOld : B.h0.get? env.locals = none
  lOwn : own env.locals
  ns : ∃ mm, h.Ns env.locals mm ∧ ∀ x pv, env.kindOf x = some .local → m x = some pv → ∃ v, mm x = some v ∧ VR h ads v pv
  cell : ∀ x, env.kindOf x = some .cell ∨ env.kindOf x = some .free → ∃ c v₀, env.cells.lookup x = some c ∧ h.IsCell c v₀ ∧ c ∉ ads ∧ B.h0.get? c = none ∧ c ≠ env.locals ∧
    (sc.names.lookup x = some .cell → own c) ∧ ∀ pv, m x = some pv → ∃ v, v₀ = some v ∧ VR h ads v pv
  live : ∀ b, own b → ∃ o, h.get? b = some o
  inj : ∀ x y c, env.cells.lookup x = some c → env.cells.lookup y = some c → x = y

section
variable {B : Bs} {own own' : Addr → Prop} {env : Env} {sc : Scope} {h h' : Heap} {ads ads' : List Addr} {m : Fm}

theorem news_off {own : Addr → Prop} {h h' : Heap} {a : Addr} {o : Obj} (x : Ext own ads h ads' h') (ha : h.get? a = some o) (n : a ∉ ads) (no : ¬ own a) : a ∉ ads' := fun q => by
  rcases x.news a q with q | q | q
  · exact n q
  · rw [ha] at q; cases q
  · exact no q

theorem FR.extP {own' : Addr → Prop} (F : FR B own env sc h ads m) (x : Ext own' ads h ads' h') (ho : ∀ b o, own' b → h.get? b = some o → b ≠ env.locals ∧ (∀ y, env.kindOf y = some .cell ∨ env.kindOf y = some .free → env.cells.lookup y ≠ some b) ∧ ¬ own b) : FR B own env sc h' ads' m := by
  obtain ⟨mm, hns, hmm⟩ := F.ns
  obtain ⟨oL, es, ep, hL, hLr⟩ := id hns
  have nL : ¬ own' env.locals := fun q => (ho _ _ q hL).1 rfl
  refine { F with lAds := news_off x hL F.lAds nL, ns := ⟨mm, ⟨oL, es, ep, x.keep _ _ hL F.lAds nL, hLr⟩, fun y pv hk hv => ?_⟩, cell := fun y hy => ?_, live := fun b hb => ?_ }
  · obtain ⟨v, e, r⟩ := hmm y pv hk hv
    exact ⟨v, e, x.vr r⟩
  · obtain ⟨c, v₀, h1, ⟨oc, hoc, hdc⟩, h3, h4, h5, h6, h7⟩ := F.cell y hy
    have nc : ¬ own' c := fun q => (ho _ _ q hoc).2.1 y hy h1
    refine ⟨c, v₀, h1, ⟨oc, x.keep _ _ hoc h3 nc, hdc⟩, news_off x hoc h3 nc, h4, h5, h6, fun pv e => ?_⟩
    obtain ⟨v, e1, r⟩ := h7 pv e
    exact ⟨v, e1, x.vr r⟩
  · obtain ⟨o, e⟩ := F.live b hb
    exact x.alive b o e fun q => (ho _ _ q e).2.2 hb
theorem FR.ext (F : FR B own env sc h ads m) (x : Ext none' ads h ads' h') : FR B own env sc h' ads' m := F.extP x fun _ _ q => q.elim
theorem FR.nx {s s' : Shared} {S' : St} (F : FR B own env sc s.heap ads m) (x : Nx B none' s ads s' ads' S') : FR B own env sc s'.heap ads' m := F.ext x.ext
end

/-- names of the top -/
noncomputable def GlobOk (h₀ : Heap) (mg : Str → Option Value) (glob : Str → Option PV) : Prop :=
  ∀ x pv, glob x = some pv → ∃ v, (mg x = some v ∨ (mg x = none ∧ bootBuiltins x = some v ∧ x ≠ "__name__")) ∧ VR h₀ [] v pv

section
variable {A : Around} {E : Value → Shared → Prop} {s : Shared} {B : Bs} {own : Addr → Prop} {env : Env} {sc : Scope} {ads : List Addr} {S : St} {m : Fm}
  {p : Program} {loose : List Str} {mean : ExcName → Option Value} {mg mb : Str → Option Value} {C : Ctx}

theorem VR.old {h₀ h : Heap} {ads : List Addr} {v : Value} {pv : PV} (r : VR h₀ [] v pv) (k : ∀ b o, h₀.get? b = some o → h.get? b = some o) : VR h ads v pv :=
  r.mono (fun _ _ _ e => k _ _ e) ⟨ads, rfl⟩

theorem snd_name (T : Top p loose mean mg mb B.h0) (G : GlobOk B.h0 mg C.glob) (R : SR B ads S s.heap) (F : FR B own env sc s.heap ads m) {x : Str} {pos : Pos} {pv : PV} {Q : Value → Shared → Prop}
    (e : getN C sc m x = some pv) (h : ∀ u, VR s.heap ads u pv → Q u s) : wpAny (model B.prog B.w) A (eval (.Name x pos) env) Q E s := by
  unfold getN at e
  by_cases hd : (x == ("__debug__" : Str)) = true
  · rw [if_pos hd] at e; cases e
  rw [if_neg hd] at e
  have hd' : (x == ("__debug__" : Str)) = false := by simpa using hd
  have cellCase : env.kindOf x = some .cell ∨ env.kindOf x = some .free → (x == ("__classdict__" : Str)) = false ∨ env.kindOf x = some .cell → m x = some pv → wpAny (model B.prog B.w) A (eval (.Name x pos) env) Q E s := by
    intro hk hcd hm
    obtain ⟨c, v₀, h1, h2, _, _, _, _, h7⟩ := F.cell x hk
    obtain ⟨v, rfl, r⟩ := h7 pv hm
    refine wpAny_Name ?_ hd'
    by_cases hc : env.kindOf x = some .cell
    · exact wpAny_loadName_cell F.kind hc h1 h2 (h v r)
    · exact wpAny_loadName_free F.kind (hk.resolve_left hc) h1 h2 (h v r) (hcd.resolve_right hc)
  split at e
  · rename_i hl
    obtain ⟨mm, hns, hmm⟩ := F.ns
    have hk := F.nLocal x hl
    obtain ⟨v, e1, r⟩ := hmm x pv hk e
    exact wpAny_Name (wpAny_loadName_local F.kind hk hns e1 (h v r)) hd'
  · rename_i hl
    exact cellCase (.inl (F.nCell x hl)) (.inr (F.nCell x hl)) e
  · rename_i hl
    by_cases hcd : (x == ("__classdict__" : Str)) = true
    · rw [if_pos hcd] at e; cases e
    · rw [if_neg hcd] at e
      exact cellCase (F.nFree x hl) (.inl (by simpa using hcd)) e
  · rename_i hl
    obtain ⟨v, hv, r⟩ := G x pv e
    have r' : VR s.heap ads v pv := r.old R.base
    refine Name_function_global F.kind (F.nGlob x hl) ?_ hd'
    rcases hv with hv | ⟨h1, h2, h3⟩
    · exact loadGlobal_global (by rw [F.glob]; exact T.g.keeps R.base) hv (h v r')
    · exact loadGlobal_builtin (by rw [F.glob]; exact T.g.keeps R.base) h1 (by rw [F.bins]; exact T.b.keeps R.base) ((T.builtins x h3).trans h2) (h v r')
  · cases e

/-- a name is stored -/
theorem snd_store (R : SR B ads S s.heap) (F : FR B own env sc s.heap ads m) {x : Str} {u : Value} {pv : PV} (r : VR s.heap ads u pv) {Q : Unit → Shared → Prop}
    (hx : stN sc x = true) (h : ∀ s', Nx B own s ads s' ads S → FR B own env sc s'.heap ads (m.upd x pv) → Q () s') : wpAny (model B.prog B.w) A (storeName env x u) Q E s := by
  have pre : ∃ more, ads = ads ++ more := ⟨[], (List.append_nil _).symm⟩
  have main : ∀ (a : Addr) (oa : Obj) (h' : Heap) (tk : Nat), s.heap.get? a = some oa → (∀ us n, oa ≠ tupO us n) → a ∉ ads → B.h0.get? a = none → own a → Heap.SameBut a s.heap h' → (∃ oa', h'.get? a = some oa') →
      Nx B own s ads { s with heap := h', toks := tk } ads S ∧ ∀ b, own b → ∃ o, h'.get? b = some o := by
    intro a oa h' tk ha hnt hna h0a hown hsb ⟨oa', ha'⟩
    refine ⟨?_, fun b hb => ?_⟩
    rotate_left
    · by_cases q : b = a
      · rw [q]; exact ⟨_, ha'⟩
      · obtain ⟨o, e⟩ := F.live b hb
        exact ⟨o, (hsb.2 b q).trans e⟩
    have tk : TupKeep s.heap h' := fun b us n e => (hsb.2 b (fun q => by rw [q, ha] at e; exact hnt _ _ (Option.some.inj e))).trans e
    have al : ∀ b ∈ ads, b ≠ a := fun b hb q => hna (q ▸ hb)
    refine ⟨⟨rfl, rfl⟩, ⟨fun b o e => ?_, R.len, R.nodup, R.fresh, ?_, fun n o e => ?_⟩, ⟨pre, fun _ h => .inl h, fun b o e n1 n2 => ?_, fun b o e _ => ?_, tk⟩⟩
    · exact (hsb.2 b (fun q => by rw [q, h0a] at e; cases e)).trans (R.base b o e)
    · obtain ⟨o, e⟩ := R.live
      by_cases q : B.L0 = a
      · rw [q]; exact ⟨_, ha'⟩
      · exact ⟨o, (hsb.2 _ q).trans e⟩
    · obtain ⟨b, eb, rb⟩ := R.objs n o e
      obtain ⟨ob, eo, _⟩ := rb.alive
      exact ⟨b, eb, rb.mono tk pre (hsb.2 b (al b (List.mem_of_getElem? eb)))⟩
    · exact (hsb.2 b (fun q => n2 (q ▸ hown))).trans e
    · by_cases q : b = a
      · rw [q]; exact ⟨_, ha'⟩
      · exact ⟨o, (hsb.2 b q).trans e⟩
  obtain ⟨mm, hns, hmm⟩ := F.ns
  unfold stN at hx
  split at hx
  · rename_i hl
    have hk := F.nLocal x hl
    obtain ⟨oL, es, ep, hL, hLd, hLr⟩ := id hns
    refine wpAny_storeName_local hk hns (fun h' hn' hsb => ?_) (by rw [F.kind]; rfl)
    obtain ⟨oL', es', ep', hL', hLr'⟩ := id hn'
    have ⟨N, NL⟩ := main env.locals oL h' (s.toks + 1) hL (fun us n q => by rw [q] at hLd; cases hLd) F.lAds F.lOld F.lOwn hsb ⟨_, hL'⟩
    refine h _ N { F with live := NL, ns := ⟨_, hn', fun y pv' hky hm => ?_⟩, cell := fun y hy => ?_ }
    · unfold Fm.upd at hm
      by_cases q : y = x
      · rw [if_pos q] at hm; cases hm
        exact ⟨u, if_pos q, N.ext.vr r⟩
      · rw [if_neg q] at hm
        obtain ⟨v, e1, r1⟩ := hmm y pv' hky hm
        exact ⟨v, (if_neg q).trans e1, N.ext.vr r1⟩
    · obtain ⟨c, v₀, h1, h2, h3, h4, h5, h6, h7⟩ := F.cell y hy
      refine ⟨c, v₀, h1, h2.sameBut hsb h5, h3, h4, h5, h6, fun pv' hm => ?_⟩
      unfold Fm.upd at hm
      by_cases q : y = x
      · rw [q, hk] at hy; rcases hy with hy | hy <;> cases hy
      · rw [if_neg q] at hm
        obtain ⟨v, e1, r1⟩ := h7 pv' hm
        exact ⟨v, e1, N.ext.vr r1⟩
  · rename_i hl
    have hk := F.nCell x hl
    obtain ⟨c, v₀, h1, h2, h3, h4, h5, h6, h7⟩ := F.cell x (.inl hk)
    refine wpAny_storeName_cell F.kind hk h1 h2 fun h' hc' hsb => ?_
    obtain ⟨oc, hoc, hdc⟩ := id h2
    have ⟨N, NL⟩ := main c oc h' s.toks hoc (fun us n q => by rw [q] at hdc; cases hdc) h3 h4 (h6 hl) hsb (let ⟨o, ho, _⟩ := hc'; ⟨o, ho⟩)
    refine h _ N { F with live := NL, ns := ⟨mm, hns.sameBut hsb (Ne.symm h5), fun y pv' hky hm => ?_⟩, cell := fun y hy => ?_ }
    · unfold Fm.upd at hm
      by_cases q : y = x
      · rw [q, hk] at hky; cases hky
      · rw [if_neg q] at hm
        obtain ⟨v, e1, r1⟩ := hmm y pv' hky hm
        exact ⟨v, e1, N.ext.vr r1⟩
    · by_cases q : y = x
      · subst q
        refine ⟨c, some u, h1, hc', h3, h4, h5, h6, fun pv' hm => ?_⟩
        unfold Fm.upd at hm
        rw [if_pos rfl] at hm; cases hm
        exact ⟨u, rfl, N.ext.vr r⟩
      · obtain ⟨c', v₀', k1, k2, k3, k4, k5, k6, k7⟩ := F.cell y hy
        have hcc : c' ≠ c := fun e => q (F.inj y x c (e ▸ k1) h1)
        refine ⟨c', v₀', k1, k2.sameBut hsb hcc, k3, k4, k5, k6, fun pv' hm => ?_⟩
        unfold Fm.upd at hm
        rw [if_neg q] at hm
        obtain ⟨v, e1, r1⟩ := k7 pv' hm
        exact ⟨v, e1, N.ext.vr r1⟩
  · cases hx
end
end Mine.Internal
end

section
open PySem PySem.W PyProof.Rows PySem.Spec PySem.Calls
namespace Mine.Internal

/-- what is wanted behind a step that hands on a value -/
noncomputable abbrev Post (B : Bs) (s : Shared) (ads : List Addr) (S' : St) (v : PV) (Q : Value → Shared → Prop) : Prop :=
  ∀ u s' ads', Nx B none' s ads s' ads' S' → VR s'.heap ads' u v → Q u s'
noncomputable abbrev PostU (B : Bs) (s : Shared) (ads : List Addr) (S' : St) (Q : Unit → Shared → Prop) : Prop :=
  ∀ s' ads', Nx B none' s ads s' ads' S' → Q () s'

theorem isTup_of {h : Heap} {a : Addr} {us : List Value} {n : Nat} (e : h.get? a = some (tupO us n)) : IsTup h a us.toArray := ⟨_, e, rfl, _, rfl⟩
theorem isTuple_of {h : Heap} {a : Addr} {us : List Value} {n : Nat} (e : h.get? a = some (tupO us n)) : h.IsTuple a us.toArray := ⟨_, e, rfl, _, rfl⟩
theorem isList_of {h : Heap} {a : Addr} {us : List Value} {n : Nat} (e : h.get? a = some (lstO us n)) : h.IsList a us.toArray := ⟨_, e, rfl, _, rfl⟩
theorem lineLen_le : lineLen ≤ sizeLine := by decide +kernel
theorem smallInt_lt {i : Int} (h : smallInt i = true) : i.natAbs < 2 ^ 40 := of_decide_eq_true h

theorem PM.bnd_some {α β} {x : PM α} {f : α → PM β} {S S' : St} {b : β} (e : PM.bnd x f S = some (b, S')) : ∃ a S₁, x S = some (a, S₁) ∧ f a S₁ = some (b, S') := by
  unfold PM.bnd at e
  split at e
  · cases e
  · rename_i a S₁ h; exact ⟨a, S₁, h, e⟩
theorem PM.ret_some {α} {a b : α} {S S' : St} (e : PM.ret a S = some (b, S')) : a = b ∧ S = S' := by cases e; exact ⟨rfl, rfl⟩
theorem PM.fail_some {α} {b : α} {S S' : St} (e : (PM.fail : PM α) S = some (b, S')) : False := nomatch e
theorem PM.lift_some {α} {o : Option α} {b : α} {S S' : St} (e : PM.lift o S = some (b, S')) : o = some b ∧ S = S' := by
  cases o with
  | none => cases e
  | some a => cases e; exact ⟨rfl, rfl⟩
theorem PM.getL_some {n : Nat} {vs : List PV} {S S' : St} (e : PM.getL n S = some (vs, S')) : S[n]? = some (.lst vs) ∧ S = S' := by
  unfold PM.getL at e
  split at e
  · cases e; exact ⟨by assumption, rfl⟩
  · cases e
theorem PM.getD_some {n : Nat} {vs : List (Str × PV)} {S S' : St} (e : PM.getD n S = some (vs, S')) : S[n]? = some (.dct vs) ∧ S = S' := by
  unfold PM.getD at e
  split at e
  · cases e; exact ⟨by assumption, rfl⟩
  · cases e
theorem PM.getO_some {n : Nat} {o : PO} {S S' : St} (e : PM.getO n S = some (o, S')) : S[n]? = some o ∧ S = S' := by
  unfold PM.getO at e
  split at e
  · cases e; exact ⟨by assumption, rfl⟩
  · cases e
theorem PM.put_some {n : Nat} {o : PO} {u : Unit} {S S' : St} (e : PM.put n o S = some (u, S')) : n < S.length ∧ S' = S.set n o := by
  unfold PM.put at e
  split at e
  · cases e; exact ⟨by assumption, rfl⟩
  · cases e
theorem PM.alloc_some {o : PO} {v : PV} {S S' : St} (e : PM.alloc o S = some (v, S')) : v = .ref S.length ∧ S' = S ++ [o] := by cases e; exact ⟨rfl, rfl⟩
theorem PM.ite_some {α} {c : Prop} [Decidable c] {x : PM α} {b : α} {S S' : St} (e : (if c then x else PM.fail) S = some (b, S')) : c ∧ x S = some (b, S') := by
  split at e
  · exact ⟨by assumption, e⟩
  · cases e

theorem nofail {α} {r : α} (h : (none : Option α) = some r) : False := nomatch h
theorem PM.fi_some {α} {c : Prop} [Decidable c] {x : PM α} {b : α} {S S' : St} (e : (if c then PM.fail else x) S = some (b, S')) : ¬ c ∧ x S = some (b, S') := by
  by_cases h : c
  · rw [if_pos h] at e; cases e
  · rw [if_neg h] at e; exact ⟨h, e⟩
theorem PM.or_some {α} {c : Prop} [Decidable c] {x y : PM α} {b : α} {S S' : St} (e : (if c then x else y) S = some (b, S')) : (c ∧ x S = some (b, S')) ∨ (¬ c ∧ y S = some (b, S')) := by
  by_cases h : c
  · rw [if_pos h] at e; exact .inl ⟨h, e⟩
  · rw [if_neg h] at e; exact .inr ⟨h, e⟩
theorem bndE {α β} {x : PM α} {f : α → PM β} {S S' : St} {b : β} {P : Prop} (e : PM.bnd x f S = some (b, S')) (k : ∀ a S₁, x S = some (a, S₁) → f a S₁ = some (b, S') → P) : P := let ⟨a, S₁, e1, e2⟩ := PM.bnd_some e; k a S₁ e1 e2
theorem bndL {β} {n : Nat} {f : List PV → PM β} {S S' : St} {b : β} {P : Prop} (e : PM.bnd (PM.getL n) f S = some (b, S')) (k : ∀ a, S[n]? = some (.lst a) → f a S = some (b, S') → P) : P := by
  obtain ⟨a, S₁, e1, e2⟩ := PM.bnd_some e
  obtain ⟨g, rfl⟩ := PM.getL_some e1
  exact k a g e2
theorem bndD {β} {n : Nat} {f : List (Str × PV) → PM β} {S S' : St} {b : β} {P : Prop} (e : PM.bnd (PM.getD n) f S = some (b, S')) (k : ∀ a, S[n]? = some (.dct a) → f a S = some (b, S') → P) : P := by
  obtain ⟨a, S₁, e1, e2⟩ := PM.bnd_some e
  obtain ⟨g, rfl⟩ := PM.getD_some e1
  exact k a g e2
theorem bndO {β} {n : Nat} {f : PO → PM β} {S S' : St} {b : β} {P : Prop} (e : PM.bnd (PM.getO n) f S = some (b, S')) (k : ∀ a, S[n]? = some a → f a S = some (b, S') → P) : P := by
  obtain ⟨a, S₁, e1, e2⟩ := PM.bnd_some e
  obtain ⟨g, rfl⟩ := PM.getO_some e1
  exact k a g e2
theorem bndF {α β} {o : Option α} {f : α → PM β} {S S' : St} {b : β} {P : Prop} (e : PM.bnd (PM.lift o) f S = some (b, S')) (k : ∀ a, o = some a → f a S = some (b, S') → P) : P := by
  obtain ⟨a, S₁, e1, e2⟩ := PM.bnd_some e
  obtain ⟨g, rfl⟩ := PM.lift_some e1
  exact k a g e2
theorem bndP {β} {n : Nat} {o : PO} {f : Unit → PM β} {S S' : St} {b : β} {P : Prop} (e : PM.bnd (PM.put n o) f S = some (b, S')) (k : n < S.length → f () (S.set n o) = some (b, S') → P) : P := by
  obtain ⟨a, S₁, e1, e2⟩ := PM.bnd_some e
  obtain ⟨g, rfl⟩ := PM.put_some e1
  exact k g e2
theorem bndA {β} {o : PO} {f : PV → PM β} {S S' : St} {b : β} {P : Prop} (e : PM.bnd (PM.alloc o) f S = some (b, S')) (k : f (.ref S.length) (S ++ [o]) = some (b, S') → P) : P := by
  obtain ⟨a, S₁, e1, e2⟩ := PM.bnd_some e
  obtain ⟨rfl, rfl⟩ := PM.alloc_some e1
  exact k e2
theorem iteE {α} {c : Prop} [Decidable c] {x : PM α} {b : α} {S S' : St} {P : Prop} (e : (if c then x else PM.fail) S = some (b, S')) (k : c → x S = some (b, S') → P) : P := let ⟨a, b⟩ := PM.ite_some e; k a b
theorem fiE {α} {c : Prop} [Decidable c] {x : PM α} {b : α} {S S' : St} {P : Prop} (e : (if c then PM.fail else x) S = some (b, S')) (k : ¬ c → x S = some (b, S') → P) : P := let ⟨a, b⟩ := PM.fi_some e; k a b
section
variable {α : Type} {v : PV} {l : List PV} {S S' : St} {r : α}
theorem tkI_some {k : Int → PM α} (e : tkI v k S = some (r, S')) : ∃ i, v = .int i ∧ k i S = some (r, S') := by cases v <;> first | exact ⟨_, rfl, e⟩ | cases e
theorem tkS_some {k : Str → PM α} (e : tkS v k S = some (r, S')) : ∃ i, v = .str i ∧ k i S = some (r, S') := by cases v <;> first | exact ⟨_, rfl, e⟩ | cases e
theorem tkT_some {k : List PV → PM α} (e : tkT v k S = some (r, S')) : ∃ i, v = .tup i ∧ k i S = some (r, S') := by cases v <;> first | exact ⟨_, rfl, e⟩ | cases e
theorem tkR_some {k : Nat → PM α} (e : tkR v k S = some (r, S')) : ∃ i, v = .ref i ∧ k i S = some (r, S') := by cases v <;> first | exact ⟨_, rfl, e⟩ | cases e
theorem tk0_some {k : PM α} (e : tk0 l k S = some (r, S')) : l = [] ∧ k S = some (r, S') := by cases l <;> first | exact ⟨rfl, e⟩ | cases e
theorem tk1_some {k : PV → PM α} (e : tk1 l k S = some (r, S')) : ∃ x, l = [x] ∧ k x S = some (r, S') := by
  cases l with
  | nil => cases e
  | cons x l => obtain ⟨rfl, e⟩ := tk0_some e; exact ⟨_, rfl, e⟩
theorem tk2_some {k : PV → PV → PM α} (e : tk2 l k S = some (r, S')) : ∃ x y, l = [x, y] ∧ k x y S = some (r, S') := by
  cases l with
  | nil => cases e
  | cons x l => obtain ⟨y, rfl, e⟩ := tk1_some e; exact ⟨_, _, rfl, e⟩
theorem asB_some {b : Bool} (e : asB v S = some (b, S')) : v = .bool b ∧ S = S' := by cases v <;> first | (cases e; done) | (cases e; exact ⟨rfl, rfl⟩)
end

section
variable {A : Around} {E : Value → Shared → Prop} {s : Shared} {B : Bs} {ads : List Addr} {S S' : St} {Q : Value → Shared → Prop} {u1 u2 : Value} {a b v : PV}

/-- a new list of the store -/
theorem post_list (R : SR B ads S s.heap) {us : List Value} {vs : List PV} {n : Nat} {s' : Shared} {l : Addr} (hs : Same s s') (hk : ∀ b o, s.heap.get? b = some o → s'.heap.get? b = some o)
    (hn : s.heap.objs.size ≤ l) (hl : s'.heap.get? l = some (lstO us n)) (r : VRs s'.heap ads us vs) (h : Post B s ads (S ++ [.lst vs]) (.ref S.length) Q) : Q (.ref l) s' := by
  refine h _ s' (ads ++ [l]) (Nx.alloc R hs hk hn ⟨us, n, hl, r.mono (fun _ _ _ e => e) ⟨[l], rfl⟩⟩) (.ref ?_)
  rw [← R.len]; simp
theorem post_listF (R : SR B ads S s.heap) {us : List Value} {vs : List PV} {n : Nat} {s' : Shared} {l : Addr} (hs : Same s s') (hk : ∀ b o, s.heap.get? b = some o → s'.heap.get? b = some o)
    (hn : ∀ b o, s.heap.get? b = some o → b < l) (hl : s'.heap.get? l = some (lstO us n)) (r : VRs s'.heap ads us vs) (h : Post B s ads (S ++ [.lst vs]) (.ref S.length) Q) : Q (.ref l) s' := by
  refine h _ s' (ads ++ [l]) (Nx.allocF R hs hk hn ⟨us, n, hl, r.mono (fun _ _ _ e => e) ⟨[l], rfl⟩⟩) (.ref ?_)
  rw [← R.len]; simp
theorem get?_size_none (h : Heap) : h.get? h.objs.size = none := Heap.get?_none_of_le (Nat.le_refl _)

theorem snd_const {c : Const} {k : Nat} {pos : Pos} {env : Env} {pv : PV} (e : pconst c = some pv) (R : SR B ads S s.heap) (h : Post B s ads S pv Q) :
    wpAny (model B.prog B.w) A (eval (.Constant c k pos) env) Q E s := by
  cases c <;> simp only [pconst, reduceCtorEq, Option.some.injEq] at e <;> subst e
  · exact fun _ _ _ => h _ _ _ (.refl R) .none
  · exact fun _ _ _ => h _ _ _ (.refl R) (.bool _)
  · exact fun _ _ _ => h _ _ _ (.tok R _) (.int _ _)
  · exact fun _ _ _ => h _ _ _ (.tok R _) (.str _ _)

theorem snd_bin {op : Operator} (e : pbin op a b S = some (v, S')) (R : SR B ads S s.heap) (r1 : VR s.heap ads u1 a) (r2 : VR s.heap ads u2 b) (h : Post B s ads S' v Q) :
    wpAny (model B.prog B.w) A (binaryOp op u1 u2) Q E s := by
  cases op with
  | Add =>
    cases a with
    | int x =>
      obtain ⟨y, q1, q2⟩ := tkI_some e; clear e; revert q2; subst q1; intro e
      -- int + int
      refine iteE e ?_; clear e; intro _ e
      obtain ⟨q1, q2⟩ := PM.ret_some e; clear e; subst q1 q2
      apply VR.intE (r1); intro t1
      apply VR.intE (r2); intro t2
      exact PyProof.Rows.add_int (h _ _ _ (.tok R _) (.int _ _))
    | tup xs =>
      obtain ⟨ys, q1, q2⟩ := tkT_some e; clear e; revert q2; subst q1; intro e
      -- tuple + tuple
      refine iteE e ?_; clear e; intro hc e
      obtain ⟨q1, q2⟩ := PM.ret_some e; clear e; subst q1 q2
      apply VR.tupE (r1); intro x us n hx rx
      apply VR.tupE (r2); intro y ws k hy ry
      have hl1 := rx.length
      have hl2 := ry.length
      have hsz := lineLen_le
      by_cases h1 : us.toArray.isEmpty = true
      · have e1 : us = [] := by simpa using h1
        refine concat_meets ⟨_, hx, rfl⟩ ⟨_, hy, rfl⟩ noFill_tuple_add seq_tuple_add PySem.F.slot_tuple_add PySem.F.entry_tuple_add (PySem.F.args_tuple_add_2 _ _) (tuple_addW0 x y us.toArray ws.toArray n k none none #[] #[] h1) ⟨hx, hy, ?_⟩
        refine h _ _ _ (.refl R) ?_
        subst e1; cases rx
        exact .tup hy ry
      · by_cases h2 : ws.toArray.isEmpty = true
        · have e2 : ws = [] := by simpa using h2
          refine concat_meets ⟨_, hx, rfl⟩ ⟨_, hy, rfl⟩ noFill_tuple_add seq_tuple_add PySem.F.slot_tuple_add PySem.F.entry_tuple_add (PySem.F.args_tuple_add_2 _ _) (tuple_addW1 x y us.toArray ws.toArray n k none none #[] #[] h1 h2) ⟨hx, hy, ?_⟩
          refine h _ _ _ (.refl R) ?_
          subst e2; cases ry
          rw [List.append_nil]
          exact .tup hx rx
        · refine concat_meets ⟨_, hx, rfl⟩ ⟨_, hy, rfl⟩ noFill_tuple_add seq_tuple_add PySem.F.slot_tuple_add PySem.F.entry_tuple_add (PySem.F.args_tuple_add_2 _ _) (tuple_addW2 x y us.toArray ws.toArray n k none none #[] #[] h1 h2 (by simp; exact om38 hc hl1 hl2 hsz)) ⟨hx, hy, ?_⟩
          have N := Nx.push (own := none') R { cls := Value.type "tuple", data := Data.seq (us.toArray ++ ws.toArray) } s.toks
          refine h _ _ _ N (.tup (us := us ++ ws) (n := 0) ?_ (N.ext.vrs (rx.append ry)))
          have := Heap.get?_push_size s.heap (o := { cls := Value.type "tuple", data := Data.seq (us.toArray ++ ws.toArray) }) rfl
          simpa [tupO] using this
    | ref i =>
      obtain ⟨j, q1, q2⟩ := tkR_some e; clear e; revert q2; subst q1; intro e
      -- list + list
      refine bndL e ?_; clear e; intro xs g1 e
      refine bndL e ?_; clear e; intro ys g2 e
      refine iteE e ?_; clear e; intro hc e
      obtain ⟨q1, q2⟩ := PM.alloc_some e; clear e; subst q1 q2
      apply VR.refE (r1); intro x ax
      apply VR.refE (r2); intro y ay
      refine SR.objL R ax g1 ?_; intro us n hx rx
      refine SR.objL R ay g2 ?_; intro ws k hy ry
      have hl1 := rx.length
      have hl2 := ry.length
      have hsz := lineLen_le
      refine concat_meets ⟨_, hx, rfl⟩ ⟨_, hy, rfl⟩ noFill_list_add seq_list_add PySem.F.slot_list_add PySem.F.entry_list_add (PySem.F.args_list_add_2 _ _) (list_addW x y us.toArray ws.toArray n k none none #[] #[] (by simp; exact om38 hc hl1 hl2 hsz)) ⟨hx, hy, ?_⟩
      refine post_list (us := us ++ ws) (n := 0) (s' := { s with heap := s.heap.push _, toks := s.toks }) R ⟨rfl, rfl⟩ (fun _ _ e => Heap.get?_push_of_some _ e) (Nat.le_refl _) ?_ ((Nx.push (own := none') R _ s.toks).ext.vrs (rx.append ry)) h
      have := Heap.get?_push_size s.heap (o := { cls := Value.type "list", data := Data.seq (us.toArray ++ ws.toArray) }) rfl
      simpa [lstO] using this
    | _ => exact (nofail e).elim
  | Mult =>
    obtain ⟨x, q1, q2⟩ := tkI_some e; clear e; revert q2; subst q1; intro e
    obtain ⟨y, q1, q2⟩ := tkI_some e; clear e; revert q2; subst q1; intro e
    refine iteE e ?_; clear e; intro hc e
    obtain ⟨q1, q2⟩ := PM.ret_some e; clear e; subst q1 q2
    apply VR.intE (r1); intro t1
    apply VR.intE (r2); intro t2
    obtain ⟨h1, h2⟩ := Bool.and_eq_true_iff.mp hc
    have h1 := smallInt_lt h1
    have h2 := smallInt_lt h2
    exact PyProof.Rows.mul_int (h _ _ _ (.tok R _) (.int _ _))
  | Mod =>
    obtain ⟨x, q1, q2⟩ := tkI_some e; clear e; revert q2; subst q1; intro e
    obtain ⟨y, q1, q2⟩ := tkI_some e; clear e; revert q2; subst q1; intro e
    refine iteE e ?_; clear e; intro hc e
    obtain ⟨q1, q2⟩ := PM.ret_some e; clear e; subst q1 q2
    apply VR.intE (r1); intro t1
    apply VR.intE (r2); intro t2
    obtain ⟨_, h2⟩ := Bool.and_eq_true_iff.mp hc
    have h2 := of_decide_eq_true h2
    refine PyProof.Rows.mod_int (by exact om117 h2) ?_
    rw [Int.fmod_eq_emod_of_nonneg _ (by exact om118 h2)]
    exact h _ _ _ (.tok R _) (.int _ _)
  | _ => exact (nofail e).elim
end
end Mine.Internal
end

section
open PySem PySem.W PyProof.Rows PySem.Spec PySem.Calls
namespace Mine.Internal

/-- data as the library's data -/
noncomputable def py : Nat → PV → PyData
  | _, .str x => .str x
  | n + 1, .tup vs => .tuple (vs.map (py n))
  | _, _ => .none

theorem reads_py {h : Heap} {ads : List Addr} : ∀ (n : Nat) {u : Value} {v : PV}, VR h ads u v → PV.isD n v = true → ∃ as, Reads h u (py n v) as := by
  have all : ∀ n, (∀ {u : Value} {v : PV}, VR h ads u v → PV.isD n v = true → ∃ as, Reads h u (py n v) as) →
      ∀ {us : List Value} {vs : List PV}, VRs h ads us vs → vs.all (PV.isD n) = true → ∃ as, ReadsAll h us (vs.map (py n)) as := by
    intro n ih us vs x
    induction us generalizing vs with
    | nil => intro _; cases x; exact ⟨_, .nil⟩
    | cons u r hr =>
      intro ha
      cases x with
      | cons a b =>
        rw [List.all_cons, Bool.and_eq_true] at ha
        obtain ⟨as, q⟩ := ih a ha.1
        obtain ⟨bs, q'⟩ := hr b ha.2
        exact ⟨_, .cons q q'⟩
  intro n
  induction n with
  | zero =>
    intro u v r hd
    cases v <;> simp only [PV.isD, Bool.false_eq_true] at hd
    apply VR.strE (r); intro t
    exact ⟨_, .str _ _⟩
  | succ n ih =>
    intro u v r hd
    cases v <;> simp only [PV.isD, Bool.false_eq_true] at hd
    · apply VR.strE (r); intro t
      exact ⟨_, .str _ _⟩
    · apply VR.tupE (r); intro a us k e rs
      obtain ⟨as, q⟩ := all n ih rs hd
      exact ⟨_, .tuple e rfl rfl (by simpa using q)⟩
theorem readsAll_py {h : Heap} {ads : List Addr} (n : Nat) : ∀ {us : List Value} {vs : List PV}, VRs h ads us vs → vs.all (PV.isD n) = true → ∃ as, ReadsAll h us (vs.map (py n)) as := by
  intro us vs x
  induction us generalizing vs with
  | nil => intro _; cases x; exact ⟨_, .nil⟩
  | cons u r hr =>
    intro ha
    cases x with
    | cons a b =>
      rw [List.all_cons, Bool.and_eq_true] at ha
      obtain ⟨as, q⟩ := reads_py n a ha.1
      obtain ⟨bs, q'⟩ := hr b ha.2
      exact ⟨_, .cons q q'⟩
theorem lay_py : ∀ (n : Nat) (v : PV), PV.isD n v = true → (py n v).canLay0 = true ∧ (py n v).depth ≤ n := by
  have all : ∀ n, (∀ v, PV.isD n v = true → (py n v).canLay0 = true ∧ (py n v).depth ≤ n) → ∀ vs : List PV, vs.all (PV.isD n) = true → PyData.canLayAll0 (vs.map (py n)) = true ∧ PyData.depthAll (vs.map (py n)) ≤ n := by
    intro n ih vs
    induction vs with
    | nil => intro _; simp [PyData.canLayAll0, PyData.depthAll]
    | cons v r hr =>
      intro ha
      rw [List.all_cons, Bool.and_eq_true] at ha
      have h1 := ih v ha.1
      have h2 := hr ha.2
      have a1 := h1.2
      have a2 := h2.2
      simp only [List.map_cons, PyData.canLayAll0, PyData.depthAll, h1.1, h2.1, Bool.and_self, true_and]
      exact om39 h1 h2
  intro n
  induction n with
  | zero =>
    intro v hd
    cases v <;> simp only [PV.isD, Bool.false_eq_true] at hd
    simp [py, PyData.canLay0, PyData.depth, hd]
  | succ n ih =>
    intro v hd
    cases v <;> simp only [PV.isD, Bool.false_eq_true] at hd
    · simp [py, PyData.canLay0, PyData.depth, hd]
    · have q := all n ih _ hd
      have q2 := q.2
      simp only [py, PyData.canLay0, PyData.depth, q.1, true_and]
      exact om119 q
theorem layAll_py (n : Nat) : ∀ vs : List PV, vs.all (PV.isD n) = true → PyData.canLayAll0 (vs.map (py n)) = true ∧ PyData.depthAll (vs.map (py n)) ≤ n := by
  intro vs
  induction vs with
  | nil => intro _; simp [PyData.canLayAll0, PyData.depthAll]
  | cons v r hr =>
    intro ha
    rw [List.all_cons, Bool.and_eq_true] at ha
    have h1 := lay_py n v ha.1
    have h2 := hr ha.2
    have a1 := h1.2
    have a2 := h2.2
    simp only [List.map_cons, PyData.canLayAll0, PyData.depthAll, h1.1, h2.1, Bool.and_self, true_and]
    exact om39 h1 h2
theorem eqv_py : ∀ (n : Nat) (v u : PV), PV.isD n v = true → PV.isD n u = true → PyData.eqv (py n v) (py n u) = eqb n v u := by
  have all : ∀ n, (∀ v u, PV.isD n v = true → PV.isD n u = true → PyData.eqv (py n v) (py n u) = eqb n v u) → ∀ vs us : List PV, vs.all (PV.isD n) = true → us.all (PV.isD n) = true →
      PyData.eqvAll (vs.map (py n)) (us.map (py n)) = eqbL (eqb n) vs us := by
    intro n ih vs
    induction vs with
    | nil => intro us _ _; cases us <;> simp [PyData.eqvAll, eqbL]
    | cons v r hr =>
      intro us h1 h2
      cases us with
      | nil => simp [PyData.eqvAll, eqbL]
      | cons u us =>
        rw [List.all_cons, Bool.and_eq_true] at h1 h2
        simp only [List.map_cons, PyData.eqvAll, eqbL, ih v u h1.1 h2.1, hr us h1.2 h2.2]
  intro n
  induction n with
  | zero =>
    intro v u h1 h2
    cases v <;> simp only [PV.isD, Bool.false_eq_true] at h1
    cases u <;> simp only [PV.isD, Bool.false_eq_true] at h2
    simp [py, PyData.eqv, eqb]
  | succ n ih =>
    intro v u h1 h2
    cases v <;> simp only [PV.isD, Bool.false_eq_true] at h1 <;> cases u <;> simp only [PV.isD, Bool.false_eq_true] at h2 <;> simp only [py, PyData.eqv, eqb]
    exact all n ih _ _ h1 h2
theorem eqvAll_py (n : Nat) : ∀ vs us : List PV, vs.all (PV.isD n) = true → us.all (PV.isD n) = true → PyData.eqvAll (vs.map (py n)) (us.map (py n)) = eqbL (eqb n) vs us := by
  intro vs
  induction vs with
  | nil => intro us _ _; cases us <;> simp [PyData.eqvAll, eqbL]
  | cons v r hr =>
    intro us h1 h2
    cases us with
    | nil => simp [PyData.eqvAll, eqbL]
    | cons u us =>
      rw [List.all_cons, Bool.and_eq_true] at h1 h2
      simp only [List.map_cons, PyData.eqvAll, eqbL, eqv_py n v u h1.1 h2.1, hr us h1.2 h2.2]

section
variable {A : Around} {E : Value → Shared → Prop} {s : Shared} {B : Bs} {ads : List Addr} {S S' : St} {Q : Value → Shared → Prop} {u1 u2 : Value} {a b v : PV} {d : Nat}

theorem eqAt_py {A : Around} {n : Nat} (hu : A.units + 64 < cLine) (hn : n ≤ 60) (r1 : VR s.heap ads u1 a) (r2 : VR s.heap ads u2 b) (h1 : PV.isD n a = true) (h2 : PV.isD n b = true) : SeqAt.EqAt A s u1 u2 (eqb n a b) := by
  intro prog w E Q hq
  obtain ⟨as, q1⟩ := reads_py n r1 h1
  obtain ⟨bs, q2⟩ := reads_py n r2 h2
  have l1 := lay_py n a h1
  have l2 := lay_py n b h2
  rw [← eqv_py n a b h1 h2] at hq
  exact SeqAt.eqAt_reads _ _ A s u1 u2 as bs q1 q2 l1.1 l2.1 (by have := l1.2; have : min (py n a).depth (py n b).depth ≤ (py n a).depth := Nat.min_le_left _ _; exact om120 hu hn l1) prog w E Q hq

theorem KV.valueAt {h : Heap} {us : List (Str × Value)} {vs : List (Str × PV)} (x : KV h ads us vs) (k : Str) :
    (PySem.valueAt us k = none ∧ dfind k vs = none) ∨ ∃ u v, PySem.valueAt us k = some u ∧ dfind k vs = some v ∧ VR h ads u v := by
  induction x with
  | nil => exact .inl ⟨rfl, rfl⟩
  | @cons y u v us vs r _ ih =>
    unfold PySem.valueAt dfind
    simp only [List.find?_cons]
    by_cases q : y = k
    · simp only [q, decide_true, Option.map_some]
      exact .inr ⟨u, v, rfl, rfl, r⟩
    · simp only [q, decide_false]
      exact ih
theorem isKey (x : Str) (t : Tok) : (strKind B.prog B.w).is x (.str x t) = true := by
  show Value.isStrOf x (.str x t) = true
  simp [Value.isStrOf]

theorem keqHits {A : Around} (hu : A.units + 64 < cLine) {us : List (Str × Value)} {vs : List (Str × PV)} {ws : List (Str × Value)} {zs : List (Str × PV)} (x : KV s.heap ads us vs) (y : KV s.heap ads ws zs)
    (h1 : vs.all (fun e => PV.isD cmpDepth e.2) = true) (h2 : zs.all (fun e => PV.isD cmpDepth e.2) = true) : KeqHits A s ws us (eqD vs zs) := by
  induction x with
  | nil => exact .nil
  | @cons k u v us vs r _ ih =>
    rw [List.all_cons, Bool.and_eq_true] at h1
    have ih := ih h1.2
    unfold eqD at ih ⊢
    rw [List.all_cons]
    rcases y.valueAt k with ⟨e1, e2⟩ | ⟨w, z, e1, e2, rz⟩
    · simp only [e2, Bool.false_and]
      exact .miss e1
    · simp only [e2]
      have hz : PV.isD cmpDepth z = true := by
        unfold dfind at e2
        obtain ⟨p, hp, rfl⟩ := Option.map_eq_some_iff.mp e2
        exact (List.all_eq_true.mp h2) p (List.mem_of_find?_eq_some hp)
      exact .hit e1 (eqAt_py hu (by decide) r rz h1.1 hz) ih


theorem VR.funD {h : Heap} {ads ads' : List Addr} : ∀ (n m : Nat) {u : Value} {v v' : PV}, VR h ads u v → VR h ads' u v' → PV.isD n v = true → PV.isD m v' = true → v = v' := by
  have all : ∀ n, (∀ m {u : Value} {v v' : PV}, VR h ads u v → VR h ads' u v' → PV.isD n v = true → PV.isD m v' = true → v = v') →
      ∀ m {us : List Value} {vs vs' : List PV}, VRs h ads us vs → VRs h ads' us vs' → vs.all (PV.isD n) = true → vs'.all (PV.isD m) = true → vs = vs' := by
    intro n ih m us
    induction us with
    | nil => intro vs vs' x y _ _; cases x; cases y; rfl
    | cons u r hr =>
      intro vs vs' x y h1 h2
      cases x with
      | cons a b =>
        cases y with
        | cons a' b' =>
          rw [List.all_cons, Bool.and_eq_true] at h1 h2
          rw [ih m a a' h1.1 h2.1, hr b b' h1.2 h2.2]
  intro n
  induction n with
  | zero =>
    intro m u v v' x y h1 h2
    cases v <;> simp only [PV.isD, Bool.false_eq_true] at h1
    obtain ⟨t, rfl⟩ := x.str_inv
    cases y
    rfl
  | succ n ih =>
    intro m u v v' x y h1 h2
    cases v <;> simp only [PV.isD, Bool.false_eq_true] at h1
    · obtain ⟨t, rfl⟩ := x.str_inv
      cases y
      rfl
    · obtain ⟨a, us, k, rfl, e, rs⟩ := x.tup_inv
      cases v' with
      | tup vs' =>
        cases m with
        | zero => simp [PV.isD] at h2
        | succ m =>
          obtain ⟨a', us', k', e0, e', rs'⟩ := y.tup_inv
          cases e0
          rw [e] at e'
          have h3 := congrArg Obj.data (Option.some.inj e')
          injection h3 with h4 _
          have : us = us' := by simpa using congrArg Array.toList h4
          subst this
          rw [all n ih m rs rs' h1 (by simpa [PV.isD] using h2)]
      | str x' => cases y
      | _ => cases m <;> simp [PV.isD] at h2

theorem eqb_eq : ∀ (n : Nat) (v u : PV), PV.isD n v = true → PV.isD n u = true → (eqb n v u = true ↔ v = u) := by
  have all : ∀ n, (∀ v u, PV.isD n v = true → PV.isD n u = true → (eqb n v u = true ↔ v = u)) → ∀ vs us : List PV, vs.all (PV.isD n) = true → us.all (PV.isD n) = true → (eqbL (eqb n) vs us = true ↔ vs = us) := by
    intro n ih vs
    induction vs with
    | nil => intro us _ _; cases us <;> simp [eqbL]
    | cons v r hr =>
      intro us h1 h2
      cases us with
      | nil => simp [eqbL]
      | cons u us =>
        rw [List.all_cons, Bool.and_eq_true] at h1 h2
        simp only [eqbL, Bool.and_eq_true, ih v u h1.1 h2.1, hr us h1.2 h2.2, List.cons.injEq]
  intro n
  induction n with
  | zero =>
    intro v u h1 h2
    cases v <;> simp only [PV.isD, Bool.false_eq_true] at h1
    cases u <;> simp only [PV.isD, Bool.false_eq_true] at h2
    simp [eqb]
  | succ n ih =>
    intro v u h1 h2
    cases v <;> simp only [PV.isD, Bool.false_eq_true] at h1 <;> cases u <;> simp only [PV.isD, Bool.false_eq_true] at h2 <;> simp only [eqb, beq_iff_eq, PV.str.injEq, PV.tup.injEq, reduceCtorEq, Bool.false_eq_true]
    exact all n ih _ _ h1 h2

noncomputable def pdraws : Nat → PV → Nat
  | n + 1, .tup vs => (vs.map (pdraws n)).sum + 1
  | _, _ => 1

theorem pyHash_py {prog : Program} {w : World} : ∀ (n : Nat) {A : Around} {E : Value → Shared → Prop} {s : Shared} {ads : List Addr} {u : Value} {v : PV} {Q : Int → Shared → Prop}, A.units + n < cLine → VR s.heap ads u v → PV.isD n v = true →
    Q (phash w n v) { s with toks := s.toks + pdraws n v } → wpAny (model prog w) A (pyHash u) Q E s := by
  intro n
  induction n with
  | zero =>
    intro A E s ads u v Q hu r hd h
    cases v <;> simp only [PV.isD, Bool.false_eq_true] at hd
    apply VR.strE (r); intro t
    exact wpAny_pyHash_str h
  | succ n ih =>
    intro A E s ads u v Q hu r hd h
    cases v <;> simp only [PV.isD, Bool.false_eq_true] at hd
    · apply VR.strE (r); intro t
      exact wpAny_pyHash_str h
    · rename_i vs
      apply VR.tupE (r); intro a us k e rs
      have hT : s.TypeIs (.ref a) "tuple" := ⟨_, e, rfl⟩
      unfold pyHash
      refine wpAny_bind (wpAny_cRoomFor_or (.inr (by exact om121 hu)) ?_)
      refine wpAny_bind (wpAny_specialOf hT PySem.F.slot_tuple_hash.lookup ?_)
      show wpAny _ _ (if (some (Value.builtin "tuple.__hash__") == some Value.none) = true then _ else _) Q E s
      rw [if_neg (by decide)]
      refine wpAny_bind (wpAny_specialOf hT PySem.F.slot_tuple_hash.lookup ?_)
      show wpAny _ _ (callSpecialIfBoundUnlessNone? (.ref a) "__hash__" _ >>= _) Q E s
      refine wpAny_bind (wpAny_callSpecialIfBoundUnlessNone?_slot hT PySem.F.slot_tuple_hash (wpAny_call_entry PySem.F.slot_tuple_hash hT PySem.F.entry_tuple_hash ?_ (PySem.F.args_tuple_hash_1 _)))
      show wpAny _ _ (Builtin.Tuple.tupleItemsOf (.ref a) >>= _) _ _ s
      refine wpAny_bind (tupleItemsOf_ (isTup_of e) ?_)
      refine wpAny_bind ?_
      rw [← Array.forIn_toList]
      refine wpAny_forIn_list _
        (fun rest (b : Array Int) s' => ∃ done left, vs = done ++ left ∧ VRs s.heap ads rest left ∧ b.toList = done.map (phash w n) ∧ s' = { s with toks := s.toks + (done.map (pdraws n)).sum })
        _ ?_ ?_ _ _ ⟨[], vs, rfl, rs, rfl, rfl⟩
      · rintro x rest b s' ⟨done, left, hv, hl, hb, rfl⟩
        cases hl with
        | @cons _ v' _ vs' h1 hl' =>
          have hdv : PV.isD n v' = true := (List.all_eq_true.mp hd) v' (by rw [hv]; simp)
          refine wpAny_bind (ih (ads := ads) (s := { s with toks := s.toks + (done.map (pdraws n)).sum }) (by show A.units + 1 + n < cLine; exact om37 hu) h1 hdv ?_)
          have fin : ∃ done' left', vs = done' ++ left' ∧ VRs s.heap ads rest left' ∧ (b.push (phash w n v')).toList = done'.map (phash w n) ∧
              ({ s with toks := s.toks + (done.map (pdraws n)).sum + pdraws n v' } : Shared) = { s with toks := s.toks + (done'.map (pdraws n)).sum } :=
            ⟨done ++ [v'], vs', by simp [hv], hl', by simp [hb], by simp [Nat.add_assoc]⟩
          first
            | exact wpAny_pure fin
            | exact wpAny_bind (wpAny_pure (wpAny_pure fin))
      · rintro b s' ⟨done, left, hv, hl, hb, rfl⟩
        cases hl
        rw [List.append_nil] at hv
        subst hv
        show wpAny _ _ (retInt (Builtin.Tuple.tupleHashOf b.toList)) _ _ _
        rw [hb]
        refine wpAny_ret_mkInt ?_
        show wpAny _ _ (if (decide (-(2 : Int) ^ 63 ≤ Builtin.Tuple.tupleHashOf (vs.map (phash w n))) && decide (Builtin.Tuple.tupleHashOf (vs.map (phash w n)) < 2 ^ 63)) = true then _ else _) Q E _
        simp only [phash, pdraws] at h
        unfold reduceHash at h
        by_cases hr : (decide (-(2 : Int) ^ 63 ≤ Builtin.Tuple.tupleHashOf (vs.map (phash w n))) && decide (Builtin.Tuple.tupleHashOf (vs.map (phash w n)) < 2 ^ 63)) = true
        · rw [if_pos hr]
          rw [if_pos hr] at h
          exact wpAny_pure (by simpa [Nat.add_assoc] using h)
        · rw [if_neg hr]
          rw [if_neg hr] at h
          exact wpAny_bind (wpAny_rule (wpAny_pure (by simpa [Nat.add_assoc] using h)))

theorem quiet_py {prog : Program} {w : World} : ∀ (n k : Nat) {A : Around} {E : Value → Shared → Prop} {s : Shared} {ads : List Addr} {u : Value} {v : PV} {Q : Bool → Shared → Prop}, n ≤ k → VR s.heap ads u v → PV.isD n v = true →
    Q true s → wpAny (model prog w) A (eqIsQuiet k u) Q E s := by
  intro n
  induction n with
  | zero =>
    intro k A E s ads u v Q hu r hd h
    cases v <;> simp only [PV.isD, Bool.false_eq_true] at hd
    apply VR.strE (r); intro t
    rw [eqIsQuiet_byValue k (v := .str _ t) rfl]
    exact wpAny_pure h
  | succ n ih =>
    intro k A E s ads u v Q hk r hd h
    cases v <;> simp only [PV.isD, Bool.false_eq_true] at hd
    · apply VR.strE (r); intro t
      rw [eqIsQuiet_byValue k (v := .str _ t) rfl]
      exact wpAny_pure h
    · rename_i vs
      apply VR.tupE (r); intro a us i e rs
      have hT : s.TypeIs (.ref a) "tuple" := ⟨_, e, rfl⟩
      obtain ⟨k, rfl⟩ : ∃ k', k = k' + 1 := ⟨k - 1, by exact om20 hk⟩
      unfold eqIsQuiet
      refine wpAny_bind (wpAny_specialOf hT PySem.F.slot_tuple_eq.lookup ?_)
      show wpAny _ _ (isInstance (.ref a) (.type "tuple") >>= _) _ _ s
      refine wpAny_bind (wpAny_isInstance hT isSubtype_tuple_tuple ?_)
      simp only [Bool.not_true, Bool.false_eq_true, if_false]
      refine wpAny_bind (wpAny_seqItems e rfl ?_)
      refine wpAny_bind ?_
      show wpAny _ _ (forIn us.toArray _ _) _ _ s
      rw [← Array.forIn_toList]
      refine wpAny_forIn_list _ (fun rest r s' => r.1 = none ∧ s' = s ∧ ∃ left, VRs s.heap ads rest left ∧ left.all (PV.isD n) = true) _ ?_ ?_ _ _ ⟨rfl, rfl, vs, rs, hd⟩
      · rintro v rest r s' ⟨hr, rfl, left, hl, ha⟩
        cases hl with
        | cons h1 hl' =>
          rw [List.all_cons, Bool.and_eq_true] at ha
          refine wpAny_bind (ih k (by exact om4 hk) h1 ha.1 ?_)
          simp only [Bool.not_true, Bool.false_eq_true, if_false]
          exact wpAny_pure ⟨rfl, rfl, _, hl', ha.2⟩
      · rintro ⟨r1, r2⟩ s' ⟨hr, rfl, _⟩
        simp only at hr
        subst hr
        exact wpAny_pure h

open Classical in
/-- tuples of strs and tuples as keys -/
noncomputable def dataKind (prog : Program) (w : World) : HeapKind prog w PV where
  is := dataAt
  hash := phash w keyDepth
  draws := pdraws keyDepth
  room := fun A => A.units + 100 < cLine
  inj := fun hx hy => VR.funD _ _ hx.2 hy.2 hx.1 hy.1
  keeps := fun {h h' k a d o es ep} x ho hd hs => ⟨x.1, x.2.mono (fun b us n e => (hs.2 b (by rintro rfl; rw [ho] at e; cases e; cases hd)).trans e) ⟨[], rfl⟩⟩
  pyHash := fun {A E s k a Q} hu hk h => pyHash_py keyDepth (by have : keyDepth = 6 := rfl; exact om122 hu this) hk.2 hk.1 h
  eqBool := fun {A E s x y a b Q} hu hx hy h => by
    have := eqAt_py (A := A) (s := s) (n := keyDepth) (by exact om123 hu) (by decide) hx.2 hy.2 hx.1 hy.1
    refine this prog w E Q ?_
    have e : eqb keyDepth x y = decide (x = y) := by
      rw [Bool.eq_iff_iff, eqb_eq _ _ _ hx.1 hy.1, decide_eq_true_iff]
    rw [e]; exact h
  quiet := fun {A E s k a Q} hk h => quiet_py keyDepth 8 (by decide) hk.2 hk.1 h

theorem VR.dataOnly {h : Heap} {ads ads' : List Addr} : ∀ {n : Nat} {u : Value} {v : PV}, VR h ads u v → PV.isD n v = true → VR h ads' u v := by
  intro n
  induction n with
  | zero =>
    intro u v r hd
    cases v <;> simp only [PV.isD, Bool.false_eq_true] at hd
    apply VR.strE (r); intro t
    exact .str _ _
  | succ n ih =>
    intro u v r hd
    cases v <;> simp only [PV.isD, Bool.false_eq_true] at hd
    · apply VR.strE (r); intro t
      exact .str _ _
    · apply VR.tupE (r); intro a us k e rs
      refine .tup e ?_
      clear r e
      rename_i vs
      induction us generalizing vs with
      | nil => cases rs; exact .nil
      | cons u r hr =>
        cases rs with
        | cons a b =>
          rw [List.all_cons, Bool.and_eq_true] at hd
          exact .cons (ih a hd.1) (hr _ hd.2 b)
open Classical in
theorem emptyH {h : Heap} {y : Addr} (x : h.DictOf (PySem.strKind B.prog B.w) y []) : h.DictOfH (dataKind B.prog B.w) y [] := by
  obtain ⟨o, es, ep, e1, e2, e3, _, e5, _⟩ := x
  refine ⟨o, es, ep, e1, e2, e3, ?_, fun _ hx => (nomatch hx), List.nodup_nil⟩
  generalize es.toList = l at e5
  cases e5; rfl
open Classical in
theorem dictH {h : Heap} {y : Addr} {xs : List (PV × Addr × Value)} {ep : Nat} (hy : h.get? y = some (dctO (xs.map (TEnt B.w)) ep)) (h1 : ∀ x ∈ xs, dataAt h x.1 x.2.1) (h2 : (xs.map (·.1)).Nodup) : h.DictOfH (dataKind B.prog B.w) y xs :=
  ⟨_, _, _, hy, ⟨rfl, rfl, rfl⟩, rfl, rfl, h1, h2⟩
open Classical in
theorem TV.atKey {h : Heap} {xs : List (PV × Addr × Value)} {es : List (PV × PV)} {k : PV} (h1 : ∀ x ∈ xs, dataAt h x.1 x.2.1) (x : TV h ads xs es) (hd : PV.isD keyDepth k = true) :
    (PySem.atKey xs k).isSome = es.any fun e => eqb keyDepth e.1 k := by
  unfold PySem.atKey
  rw [Option.isSome_map]
  induction x with
  | nil => rfl
  | @cons k' a u v us vs _ _ ih =>
    have ih := ih fun x hx => h1 x (.tail _ hx)
    have hk' := (h1 _ (.head _)).1
    have e : eqb keyDepth k' k = decide (k' = k) := by rw [Bool.eq_iff_iff, eqb_eq _ _ _ hk' hd, decide_eq_true_iff]
    rw [List.any_cons, List.find?_cons]
    simp only [e]
    by_cases q : k' = k
    · simp [q]
    · simp only [q, decide_false, Bool.false_or]
      exact ih

open Classical in
theorem snd_cmp (K : AOk d A) {op : CmpOp} (e : pcmp op a b S = some (v, S')) (R : SR B ads S s.heap) (r1 : VR s.heap ads u1 a) (r2 : VR s.heap ads u2 b) (h : Post B s ads S' v Q) :
    wpAny (model B.prog B.w) A (compareOp op u1 u2) Q E s := by
  have hu := K.units
  cases op with
  | Eq =>
    cases a with
    | int x =>
      obtain ⟨y, q1, q2⟩ := tkI_some e; clear e; revert q2; subst q1; intro e
      obtain ⟨q1, q2⟩ := PM.ret_some e; clear e; subst q1 q2
      obtain ⟨t1, rfl⟩ := r1.int_inv
      obtain ⟨t2, rfl⟩ := r2.int_inv
      exact PyProof.Rows.eq_int (h _ _ _ (.refl R) (.bool _))
    | str x =>
      obtain ⟨y, q1, q2⟩ := tkS_some e; clear e; revert q2; subst q1; intro e
      obtain ⟨q1, q2⟩ := PM.ret_some e; clear e; subst q1 q2
      obtain ⟨t1, rfl⟩ := r1.str_inv
      obtain ⟨t2, rfl⟩ := r2.str_inv
      exact PyProof.Rows.eq_str (h _ _ _ (.refl R) (.bool _))
    | ref i =>
      obtain ⟨j, q1, q2⟩ := tkR_some e; clear e; revert q2; subst q1; intro e
      -- dicts equal
      refine bndD e ?_; clear e; intro xs g1 e
      refine bndD e ?_; clear e; intro ys g2 e
      refine iteE e ?_; clear e; intro hc e
      obtain ⟨q1, q2⟩ := PM.ret_some e; clear e; subst q1 q2
      obtain ⟨h1, h2⟩ := Bool.and_eq_true_iff.mp hc
      obtain ⟨x, rfl, ax⟩ := r1.ref_inv
      obtain ⟨y, rfl, ay⟩ := r2.ref_inv
      obtain ⟨us, hx, rx⟩ := R.obj ax g1
      obtain ⟨ws, hy, ry⟩ := R.obj ay g2
      refine keq_eq (R.notSys (List.mem_of_getElem? ax)) (R.notSys (List.mem_of_getElem? ay)) hx hy (by exact om124 hu) (fun _ => keqHits (by show A.units + 1 + 64 < cLine; exact om125 hu) rx ry h1 h2) ?_
      rw [rx.length, ry.length]
      exact h _ _ _ (.refl R) (.bool _)
    | _ => exact (nofail e).elim
  | NotEq =>
    cases a with
    | int x =>
      obtain ⟨y, q1, q2⟩ := tkI_some e; clear e; revert q2; subst q1; intro e
      obtain ⟨q1, q2⟩ := PM.ret_some e; clear e; subst q1 q2
      obtain ⟨t1, rfl⟩ := r1.int_inv
      obtain ⟨t2, rfl⟩ := r2.int_inv
      exact PyProof.Rows.ne_int (h _ _ _ (.refl R) (.bool _))
    | str x =>
      obtain ⟨y, q1, q2⟩ := tkS_some e; clear e; revert q2; subst q1; intro e
      obtain ⟨q1, q2⟩ := PM.ret_some e; clear e; subst q1 q2
      obtain ⟨t1, rfl⟩ := r1.str_inv
      obtain ⟨t2, rfl⟩ := r2.str_inv
      exact PyProof.Rows.ne_str (h _ _ _ (.refl R) (.bool _))
    | tup x =>
      obtain ⟨y, q1, q2⟩ := tkT_some e; clear e; revert q2; subst q1; intro e
      -- tuples differ
      refine iteE e ?_; clear e; intro hc e
      obtain ⟨q1, q2⟩ := PM.ret_some e; clear e; subst q1 q2
      obtain ⟨h1, h2⟩ := Bool.and_eq_true_iff.mp hc
      obtain ⟨as, q1⟩ := reads_py cmpDepth r1 h1
      obtain ⟨bs, q2⟩ := reads_py cmpDepth r2 h2
      have l1 := lay_py _ _ h1
      have l2 := lay_py _ _ h2
      rw [← eqv_py _ _ _ h1 h2] at h
      refine SeqAt.compareNe_reads q1 q2 l1.1 l2.1 ?_ (h _ _ _ (.refl R) (.bool _))
      have := l1.2
      have h60 : cmpDepth = 60 := rfl
      exact om126 hu l1 h60
    | ref i =>
      obtain ⟨j, q1, q2⟩ := tkR_some e; clear e; revert q2; subst q1; intro e
      -- lists differ
      refine bndL e ?_; clear e; intro xs g1 e
      refine bndL e ?_; clear e; intro ys g2 e
      refine iteE e ?_; clear e; intro hc e
      obtain ⟨q1, q2⟩ := PM.ret_some e; clear e; subst q1 q2
      obtain ⟨h1, h2⟩ := Bool.and_eq_true_iff.mp hc
      obtain ⟨x, rfl, ax⟩ := r1.ref_inv
      obtain ⟨y, rfl, ay⟩ := r2.ref_inv
      obtain ⟨us, n, hx, rx⟩ := R.obj ax g1
      obtain ⟨ws, k, hy, ry⟩ := R.obj ay g2
      obtain ⟨as, q1⟩ := readsAll_py cmpDepth rx h1
      obtain ⟨bs, q2⟩ := readsAll_py cmpDepth ry h2
      have l1 := layAll_py _ _ h1
      have l2 := layAll_py _ _ h2
      have c1 : (PyData.list (xs.map (py cmpDepth))).canLay0 = true := by simpa [PyData.canLay0] using l1.1
      have c2 : (PyData.list (ys.map (py cmpDepth))).canLay0 = true := by simpa [PyData.canLay0] using l2.1
      rw [← eqvAll_py _ _ _ h1 h2] at h
      refine SeqAt.compareNe_reads (da := .list (xs.map (py cmpDepth))) (db := .list (ys.map (py cmpDepth))) (.list hx rfl rfl (by simpa using q1)) (.list hy rfl rfl (by simpa using q2)) c1 c2 ?_ ?_
      · have := l1.2
        have h60 : cmpDepth = 60 := rfl
        have h3 : (PyData.list (xs.map (py cmpDepth))).depth = PyData.depthAll (xs.map (py cmpDepth)) + 1 := by simp [PyData.depth]
        have h4 : min (PyData.list (xs.map (py cmpDepth))).depth (PyData.list (ys.map (py cmpDepth))).depth ≤ (PyData.list (xs.map (py cmpDepth))).depth := Nat.min_le_left _ _
        exact om127 hu l1 h60 h3
      · have := h _ _ _ (.refl R) (.bool _)
        simpa [PyData.eqv] using this
    | _ => exact (nofail e).elim
  | Lt =>
    obtain ⟨x, q1, q2⟩ := tkI_some e; clear e; revert q2; subst q1; intro e
    obtain ⟨y, q1, q2⟩ := tkI_some e; clear e; revert q2; subst q1; intro e
    obtain ⟨q1, q2⟩ := PM.ret_some e; clear e; subst q1 q2
    obtain ⟨t1, rfl⟩ := r1.int_inv
    obtain ⟨t2, rfl⟩ := r2.int_inv
    exact PyProof.Rows.lt_int (h _ _ _ (.refl R) (.bool _))
  | Gt =>
    obtain ⟨x, q1, q2⟩ := tkI_some e; clear e; revert q2; subst q1; intro e
    obtain ⟨y, q1, q2⟩ := tkI_some e; clear e; revert q2; subst q1; intro e
    obtain ⟨q1, q2⟩ := PM.ret_some e; clear e; subst q1 q2
    obtain ⟨t1, rfl⟩ := r1.int_inv
    obtain ⟨t2, rfl⟩ := r2.int_inv
    exact PyProof.Rows.gt_int (h _ _ _ (.refl R) (.bool _))
  | In =>
    cases a with
    | str x =>
      obtain ⟨j, q1, q2⟩ := tkR_some e; clear e; revert q2; subst q1; intro e
      -- str in dict
      refine bndD e ?_; clear e; intro es g1 e
      obtain ⟨q1, q2⟩ := PM.ret_some e; clear e; subst q1 q2
      obtain ⟨t, rfl⟩ := r1.str_inv
      obtain ⟨y, rfl, ay⟩ := r2.ref_inv
      obtain ⟨us, hy, ry⟩ := R.obj ay g1
      refine wpAny_in_of (isKey _ t) (R.notSys (List.mem_of_getElem? ay)) hy.mapOf ?_
      have : (PySem.valueAt us x).isSome = (dfind x es).isSome := by
        rcases ry.valueAt x with ⟨e1, e2⟩ | ⟨_, _, e1, e2, _⟩ <;> rw [e1, e2] <;> rfl
      rw [this]
      exact h _ _ _ (.tok R _) (.bool _)
    | tup x =>
      obtain ⟨j, q1, q2⟩ := tkR_some e; clear e; revert q2; subst q1; intro e
      -- a tuple in a dict
      refine iteE e ?_; clear e; intro hd e
      refine bndO e ?_; clear e; intro o g1 e
      obtain ⟨c, us, k, rfl, hc, rc⟩ := r1.tup_inv
      obtain ⟨y, rfl, ay⟩ := r2.ref_inv
      have hk : (dataKind B.prog B.w).is s.heap (.tup x) c := ⟨hd, r1.dataOnly hd⟩
      have room : (dataKind B.prog B.w).room A.in1 := by show A.units + 1 + 100 < cLine; exact om40 hu
      cases o with
      | dct es =>
        cases es with
        | nil =>
          obtain ⟨q1, q2⟩ := PM.ret_some e; clear e; subst q1 q2
          obtain ⟨kvs, hy, ry⟩ := R.obj ay g1
          cases ry
          refine wpAny_in_heap room hk (R.notSys (List.mem_of_getElem? ay)) (emptyH hy) ?_
          exact h _ _ _ (.tok R _) (.bool _)
        | cons _ _ => exact (nofail e).elim
      | dtp es =>
        obtain ⟨q1, q2⟩ := PM.ret_some e; clear e; subst q1 q2
        obtain ⟨xs, ep, hy, h1, h2, ry⟩ := R.obj ay g1
        refine wpAny_in_heap room hk (R.notSys (List.mem_of_getElem? ay)) (dictH hy h1 h2) ?_
        rw [TV.atKey h1 ry hd]
        exact h _ _ _ (.tok R _) (.bool _)
      | lst _ => exact (nofail e).elim
    | _ => exact (nofail e).elim
  | NotIn =>
    obtain ⟨x, q1, q2⟩ := tkS_some e; clear e; revert q2; subst q1; intro e
    obtain ⟨j, q1, q2⟩ := tkR_some e; clear e; revert q2; subst q1; intro e
    -- str not in
    refine bndO e ?_; clear e; intro o g1 e
    obtain ⟨t, rfl⟩ := r1.str_inv
    obtain ⟨y, rfl, ay⟩ := r2.ref_inv
    cases o with
    | dct es =>
      obtain ⟨q1, q2⟩ := PM.ret_some e; clear e; subst q1 q2
      obtain ⟨us, hy, ry⟩ := R.obj ay g1
      refine wpAny_notIn_of (isKey _ t) (R.notSys (List.mem_of_getElem? ay)) hy.mapOf ?_
      have : (PySem.valueAt us x).isSome = (dfind x es).isSome := by
        rcases ry.valueAt x with ⟨e1, e2⟩ | ⟨_, _, e1, e2, _⟩ <;> rw [e1, e2] <;> rfl
      rw [this]
      exact h _ _ _ (.tok R _) (.bool _)
    | lst vs =>
      refine bndF e ?_; clear e; intro ss e3 e
      obtain ⟨q1, q2⟩ := PM.ret_some e; clear e; subst q1 q2
      obtain ⟨us, n, hy, ry⟩ := R.obj ay g1
      obtain ⟨hss, _⟩ := ry.strs e3
      have key : ∀ {us : List Value} {ss : List Str}, StrsAre us ss → (us.toArray.any fun v => v.isStr x) = ss.contains x := by
        intro us ss hs
        induction hs with
        | nil => simp
        | cons y t _ ih =>
          simp only [List.any_toArray, List.any_cons, Value.isStr, List.contains_cons] at ih ⊢
          rw [ih, Bool.beq_comm]
      refine SeqAt.notIn_listAt (fun v => v.isStr x) (isList_of hy) (fun z hz => ?_) ?_
      · obtain ⟨y, t', rfl⟩ := hss.all z (by simpa using hz)
        have := SeqAt.EqAt.str_str (A := A.in1) (s := s) y t' x t
        exact this
      · rw [key hss]
        exact h _ _ _ (.refl R) (.bool _)
    | dtp es => cases e
  | IsNot =>
    cases b with
    | none =>
      cases a with
      | none =>
        obtain ⟨q1, q2⟩ := PM.ret_some e; clear e; subst q1 q2
        obtain rfl := r1.none_inv
        obtain rfl := r2.none_inv
        exact fun _ _ _ => h _ _ _ (.refl R) (.bool _)
      | ref x =>
        obtain ⟨q1, q2⟩ := PM.ret_some e; clear e; subst q1 q2
        obtain ⟨x, rfl, ax⟩ := r1.ref_inv
        obtain rfl := r2.none_inv
        exact fun _ _ _ => h _ _ _ (.refl R) (.bool _)
      | _ => exact (nofail e).elim
    | _ => exact (nofail e).elim
  | _ => exact (nofail e).elim
end
end Mine.Internal
end

section
open PySem PySem.W PyProof.Rows PySem.Spec PySem.Calls PySem.Builtin.Str
namespace Mine.Internal

section
variable {A : Around} {E : Value → Shared → Prop} {s : Shared} {B : Bs} {ads : List Addr} {S S' : St} {Q : Value → Shared → Prop} {u1 u2 : Value} {a b v : PV} {d : Nat} {value slice : Expr}

theorem snd_item (hs : ∀ o i, subscripted slice false o i = operate [o, i] (getItem o i)) (e : pitem a b S = some (v, S')) (R : SR B ads S s.heap) (r1 : VR s.heap ads u1 a) (r2 : VR s.heap ads u2 b)
    (h : Post B s ads S' v Q) : wpAny (model B.prog B.w) A (subscriptTail value slice u1 u2) Q E s := by
  cases a with
  | tup vs =>
    obtain ⟨i, q1, q2⟩ := tkI_some e; clear e; revert q2; subst q1; intro e
    -- tuple, int
    refine iteE e ?_; clear e; intro hc e
    obtain ⟨e0, rfl⟩ := PM.lift_some e
    obtain ⟨h1, h2⟩ := Bool.and_eq_true_iff.mp hc
    have h1 := of_decide_eq_true h1
    have h2 := smallInt_lt h2
    apply VR.tupE (r1); intro x us n hx rx
    apply VR.intE (r2); intro t
    obtain ⟨u, e1, r⟩ := rx.get e0
    have hlt := (List.getElem?_eq_some_iff.mp e1).1
    refine tail_any (T := "tuple") ⟨_, hx, rfl⟩ PySem.F.slot_tuple_getitem.lookup (PyProof.Rows.getItem_tuple (isTup_of hx) (by exact om128 h1) (by exact om41 h2) (j := (Int.toNat _)) ?_ (by simpa using e1) (h _ _ _ (.refl R) r)) (hs _ _)
    exact PySem.seqIndex_of h1 (by simp; exact om129 hlt)
  | ref n =>
    cases b with
    | int i =>
      -- list, int
      refine bndL e ?_; clear e; intro xs g1 e
      refine iteE e ?_; clear e; intro hc e
      obtain ⟨e0, rfl⟩ := PM.lift_some e
      obtain ⟨h1, h2⟩ := Bool.and_eq_true_iff.mp hc
      have h1 := of_decide_eq_true h1
      have h2 := smallInt_lt h2
      apply VR.intE (r2); intro t
      apply VR.refE (r1); intro x ax
      refine SR.objL R ax g1 ?_; intro us k hx rx
      obtain ⟨u, e1, r⟩ := rx.get e0
      exact tail_any (isList_of hx).typeIs PySem.F.slot_list_getitem.lookup (wpAny_getItem_list (isList_of hx) h1 (by exact om41 h2) (by simpa using e1) (h _ _ _ (.refl R) r)) (hs _ _)
    | str x =>
      -- dict, str
      refine bndD e ?_; clear e; intro es g1 e
      obtain ⟨e0, rfl⟩ := PM.lift_some e
      apply VR.strE (r2); intro t
      apply VR.refE (r1); intro y ay
      refine SR.objD R ay g1 ?_; intro us hy ry
      rcases ry.valueAt x with ⟨q1, q2⟩ | ⟨u, v', q1, q2, r⟩
      · rw [q2] at e0; cases e0
      · rw [q2] at e0; cases e0
        exact tail_any hy.mapOf.typeIs PySem.F.slot_dict_getitem.lookup (wpAny_getItem_of (isKey _ t) hy.mapOf q1 (h _ _ _ (.tok R _) r)) (hs _ _)
    | _ => exact (nofail e).elim
  | _ => exact (nofail e).elim

theorem adjust_plain (lo hi : Option Int) (n : Nat) : Builtin.Slice.sliceAdjust lo hi 1 (n : Int) = (((kms_lo lo n : Nat) : Int), ((kms_hi hi n : Nat) : Int)) := by
  unfold Builtin.Slice.sliceAdjust
  have h1 : ¬ ((1 : Int) < 0) := by decide
  simp only [h1, if_false]
  refine Prod.ext ?_ ?_
  · cases lo with
    | none => simp [kms_lo]
    | some x =>
      by_cases h : x < 0
      · simp only [kms_lo, if_pos h]; exact om42 h
      · simp only [kms_lo, if_neg h]; exact om43 h
  · cases hi with
    | none => simp [kms_hi]
    | some x =>
      by_cases h : x < 0
      · simp only [kms_hi, if_pos h]; exact om42 h
      · simp only [kms_hi, if_neg h]; exact om43 h
theorem places_plain (a b : Nat) : Builtin.Slice.slicePlaces (a : Int) (b : Int) 1 = b - a := by
  unfold Builtin.Slice.slicePlaces
  have h1 : (1 : Int) > 0 := by decide
  simp only [h1, if_true, Int.ediv_one]
  split <;> (first | exact om132 | exact om133 ‹_›)
theorem slicePart_of {vl : Value} {lo : Option Int} {Q : Option Int → Shared → Prop} (p : IsPart vl lo) (h : Q lo s) : wpAny (model B.prog B.w) A (Builtin.Slice.slicePartIndex vl) Q E s := by
  cases p with
  | none => exact slicePart_none h
  | int i t => exact slicePart_int h
theorem sliceApplied_plain {sl : Addr} {vl vu : Value} {lo hi : Option Int} {n : Nat} {Q : Int × Int × Nat → Shared → Prop} (hs : s.heap.IsSliceOf sl vl vu .none) (pl : IsPart vl lo) (pu : IsPart vu hi)
    (h : Q (((kms_lo lo n : Nat) : Int), 1, kms_hi hi n - kms_lo lo n) s) :
    wpAny (model B.prog B.w) A (Builtin.Slice.sliceApplied (.ref sl) (pure (n : Int))) Q E s := by
  obtain ⟨os, hos, hcs, hds⟩ := id hs
  unfold Builtin.Slice.sliceApplied Builtin.Slice.sliceFields
  refine wpAny_bind (wpAny_bind (wpAny_field hos hds (x := vl) rfl (wpAny_bind (wpAny_field hos hds (x := vu) rfl (wpAny_bind (wpAny_field hos hds (x := .none) rfl (wpAny_pure ?_)))))))
  refine wpAny_bind (slicePart_none ?_)
  show wpAny _ _ (if ((1 : Int) == 0) = true then _ else _) _ _ s
  rw [if_neg (by decide)]
  refine wpAny_bind (slicePart_of pl (wpAny_bind (slicePart_of pu (wpAny_bind (wpAny_pure ?_)))))
  show wpAny _ _ (match Builtin.Slice.sliceAdjust lo hi 1 (n : Int) with | (lo, hi) => pure (lo, (1 : Int), Builtin.Slice.slicePlaces lo hi 1)) _ _ s
  rw [adjust_plain]
  show wpAny _ _ (pure (((kms_lo lo n : Nat) : Int), (1 : Int), Builtin.Slice.slicePlaces ((kms_lo lo n : Nat) : Int) ((kms_hi hi n : Nat) : Int) 1)) _ _ s
  rw [places_plain]
  exact wpAny_pure h
theorem pick_plain (xs : Array Value) (a k : Nat) : ((List.range k).filterMap fun (k : Nat) => xs[((a : Int) + (k : Int) * 1).toNat]?).toArray = ((xs.toList.drop a).take k).toArray := by
  have e : (fun (k : Nat) => xs[((a : Int) + (k : Int) * 1).toNat]?) = fun k => xs[a + k]? := by
    funext k
    have : ((a : Int) + (k : Int) * 1).toNat = a + k := by exact om134
    rw [this]
  rw [e]
  have := pick_run xs a k
  rw [List.filterMap_map] at this
  have e2 : ((fun x => xs[x]?) ∘ fun x => a + x) = fun k => xs[a + k]? := rfl
  rw [e2] at this
  rw [this]
theorem getItem_tuple_slice {t sl : Addr} {us : List Value} {n : Nat} {vl vu : Value} {lo hi : Option Int} {Q : Value → Shared → Prop} (ht : s.heap.get? t = some (tupO us n)) (hs : s.heap.IsSliceOf sl vl vu .none) (pl : IsPart vl lo) (pu : IsPart vu hi)
    (h1 : kms_pick us lo hi = us → Q (.ref t) s)
    (h2 : Q (.ref s.heap.objs.size) { s with heap := s.heap.push (tupO (kms_pick us lo hi) 0) })
    (hsz : us.length ≤ sizeLine) : wpAny (model B.prog B.w) A (getItem (.ref t) (.ref sl)) Q E s := by
  have hdrop : sizeOk (.seq (kms_pick us lo hi).toArray) := by
    show (kms_pick us lo hi).toArray.size ≤ sizeLine
    rw [List.size_toArray]
    unfold kms_pick
    rw [List.length_take, List.length_drop]
    exact om135 hsz
  obtain ⟨os, hos, hcs, hds⟩ := id hs
  have hTs : s.TypeIs (.ref sl) "slice" := ⟨os, hos, hcs⟩
  have ht' := isTup_of ht
  unfold getItem
  try with_reducible refine wpAny_holding ?_
  first | refine wpAny_bind (wpAny_pure ?_) | skip
  refine wpAny_bind (wpAny_sequenceKey ht'.typeIs (by decide) ?_)
  refine wpAny_bind (wpAny_callSpecial?_slot (name := Str.ofString "__getitem__") ht'.typeIs PySem.F.slot_tuple_getitem
    (wpAny_call_entry PySem.F.slot_tuple_getitem ht'.typeIs PySem.F.entry_tuple_getitem ?_ (PySem.F.args_tuple_getitem_2 _ _)))
  show wpAny _ _ (Builtin.Tuple.tupleItemsOf (.ref t) >>= _) _ _ s
  refine wpAny_bind (tupleItemsOf_ ht' ?_)
  refine wpAny_bind (wpAny_typeOf hTs ?_)
  rw [if_pos (by decide)]
  refine wpAny_bind (sliceApplied_plain hs pl pu ?_)
  simp only []
  rw [pick_plain]
  have ep : (((us.toArray.toList.drop (kms_lo lo us.toArray.size)).take (kms_hi hi us.toArray.size - kms_lo lo us.toArray.size))).toArray = (kms_pick us lo hi).toArray := by
    unfold kms_pick; simp
  rw [ep]
  split
  · rename_i hc
    simp only [Bool.and_eq_true, beq_iff_eq] at hc
    obtain ⟨⟨c1, _⟩, c2⟩ := hc
    have c1 : kms_lo lo us.toArray.size = 0 := by exact om136 c1
    have e : kms_pick us lo hi = us := by
      unfold kms_pick
      simp only [List.size_toArray] at c1 c2
      rw [c2, c1]
      simp
    have hTt : s.TypeIs (.ref t) "tuple" := ht'.typeIs
    refine wpAny_bind ?_
    unfold Builtin.Tuple.tupleIsExact
    refine wpAny_bind (wpAny_typeOf hTt (wpAny_pure ?_))
    rw [if_pos (by decide)]
    first
      | exact wpAny_bind (wpAny_rule (wpAny_pure ⟨_, rfl, h1 e⟩))
      | exact wpAny_bind (wpAny_rule (wpAny_pure ⟨_, rfl, wpAny_pure (h1 e)⟩))
  · first
    | exact wpAny_bind (m := Builtin.Tuple.tupleExact _) (wpAny_newObj_type (wpAny_pure ⟨_, rfl, wpAny_pure h2⟩) hdrop)
    | exact wpAny_bind (m := Builtin.Tuple.tupleExact _) (wpAny_newObj_type (wpAny_bind (wpAny_pure (wpAny_pure ⟨_, rfl, wpAny_pure h2⟩))) hdrop)
    | exact wpAny_bind (wpAny_bind (m := Builtin.Tuple.tupleExact _) (wpAny_newObj_type (wpAny_pure (wpAny_pure ⟨_, rfl, wpAny_pure h2⟩)) hdrop))
    | exact wpAny_bind (wpAny_bind (m := Builtin.Tuple.tupleExact _) (wpAny_newObj_type (wpAny_pure ⟨_, rfl, wpAny_pure h2⟩) hdrop))

theorem headStr_eq (x : Str) : (if ((1 : Int) == 1 && (strSliceIndices none (some 1) 1 x.length).length == x.length) = true then x else ⟨((strSliceIndices none (some 1) 1 x.length).filterMap (x.cps[·]?)).toArray⟩) = headStr x := by
  have e0 : strSliceIndices none (some 1) 1 x.length = strSliceIndices (some ((0 : Nat) : Int)) (some 1) 1 x.length := by
    have : max (0 : Int) (min 0 (x.length : Int)) = 0 := by exact om137
    simp [strSliceIndices, this]
  have h2 : headStr x = ⟨(x.cps.toList.take 1).toArray⟩ := by
    unfold headStr
    congr 1
    apply Array.ext'
    simp
  rw [h2]
  rcases Nat.lt_or_ge x.length 1 with hl | hl
  · have hx : x.cps = #[] := by
      have : x.cps.size = 0 := by simpa [Str.length] using hl
      exact Array.eq_empty_of_size_eq_zero this
    have h3 : x = ⟨#[]⟩ := by cases x; simp at hx; rw [hx]
    subst h3
    rfl
  · have q := PySem.StrLaws.sliced_plain x (a := 0) (b := 1) (by decide) hl
    have q2 := PySem.StrLaws.strSliceIndices_plain (a := 0) (b := 1) (len := x.length) (by decide) hl
    have q' : (strSliceIndices none (some 1) 1 x.length).filterMap (x.cps[·]?) = x.cps.toList.take 1 := by
      rw [e0]; simpa using q
    have q2' : (strSliceIndices none (some 1) 1 x.length).length = 1 := by
      rw [e0]
      have := congrArg List.length q2
      simpa using this
    rw [q', q2']
    split
    · rename_i hc
      have hc : 1 = x.length := by simpa using hc
      cases x with
      | mk c =>
        congr 1
        apply Array.ext'
        have : c.toList.length = 1 := by simpa [Str.length] using hc.symm
        rw [List.take_of_length_le (by simpa using Nat.le_of_eq this)]
    · rfl

noncomputable abbrev sliceO (vl vu vs : Value) : Obj := { cls := .type "slice", data := .fields #[vl, vu, vs] }
theorem post_tup (R : SR B ads S s.heap) {us : List Value} {vs : List PV} {s' : Shared} {l : Addr} {n : Nat} (hs : Same s s') (hk : ∀ b o, s.heap.get? b = some o → s'.heap.get? b = some o)
    (hl : s'.heap.get? l = some (tupO us n)) (r : VRs s'.heap ads us vs) (h : Post B s ads S (.tup vs) Q) : Q (.ref l) s' :=
  h _ s' ads (Nx.keep R hs hk) (.tup hl r)

theorem kms_to (us : List Value) (k : Int) (h : 0 ≤ k) : kms_pick us none (some k) = us.take k.toNat := by
  unfold kms_pick kms_lo kms_hi
  simp only [if_neg (show ¬ k < 0 by exact om44 h), List.drop_zero, Nat.sub_zero]
  rcases Nat.le_total k.toNat us.length with q | q
  · rw [Nat.min_eq_left q]
  · rw [Nat.min_eq_right q, List.take_of_length_le (Nat.le_refl _), List.take_of_length_le q]
theorem kms_from (us : List Value) (k : Int) (h : 0 ≤ k) : kms_pick us (some k) none = us.drop k.toNat := by
  unfold kms_pick kms_lo kms_hi
  simp only [if_neg (show ¬ k < 0 by exact om44 h)]
  rcases Nat.le_total k.toNat us.length with q | q
  · rw [Nat.min_eq_left q, List.take_of_length_le (by simp)]
  · rw [Nat.min_eq_right q, List.drop_of_length_le (Nat.le_refl _), List.drop_of_length_le q]; simp

theorem list_part (R : SR B ads S s.heap) {x : Addr} {n : Nat} {xs : List PV} {us : List Value} {k : Nat} {vl vu vs : Value} {lo hi st : Option Int} {zs : List PV} {ws : List Value} (hx : s.heap.get? x = some (lstO us k)) (_rx : VRs s.heap ads us xs)
    (pl : IsPart vl lo) (pu : IsPart vu hi) (ps : IsPart vs st) (h0 : st ≠ some 0) (hw : slicePick us.toArray lo hi st = ws.toArray) (rw' : VRs s.heap ads ws zs) (hz : us.length ≤ sizeLine) (h : Post B s ads (S ++ [.lst zs]) (.ref S.length) Q) :
    wpAny (model B.prog B.w) A (getItem (.ref x) (.ref s.heap.objs.size)) Q E { s with heap := s.heap.push (sliceO vl vu vs) } := by
  have hx' : (s.heap.push (sliceO vl vu vs)).get? x = some (lstO us k) := Heap.get?_push_of_some _ hx
  refine wpAny_getItem_list_slice (isList_of hx') (Heap.IsSliceOf.new ..) pl pu ps h0 ?_ (by simpa using hz)
  have X : ∀ b o, s.heap.get? b = some o → ((s.heap.push (sliceO vl vu vs)).push { cls := .type "list", data := .seq (slicePick us.toArray lo hi st) }).get? b = some o := fun b o e => Heap.get?_push_of_some _ (Heap.get?_push_of_some _ e)
  refine post_list (s' := { s with heap := (s.heap.push (sliceO vl vu vs)).push { cls := .type "list", data := .seq (slicePick us.toArray lo hi st) } }) (n := 0) (us := ws) (vs := zs) R ⟨rfl, rfl⟩ X (by simp [Heap.size_push]) ?_ (rw'.mono (fun b us n e => X _ _ e) ⟨[], by simp⟩) h
  rw [hw]
  exact Heap.get?_push_size _ rfl

theorem snd_sliceTo {p : Pos} {ue : Expr} {k : Int} {t : Tok} (e : psliceTo a k S = some (v, S')) (R : SR B ads S s.heap) (r1 : VR s.heap ads u1 a) (h : Post B s ads S' v Q) :
    wpAny (model B.prog B.w) A (subscriptTail value (.Slice none (some ue) none p) u1 (.ref s.heap.objs.size)) Q E { s with heap := s.heap.push (sliceO .none (.int k t) .none) } := by
  have N1 := Nx.push (own := none') R (sliceO .none (.int k t) .none) s.toks
  cases a with
  | str x =>
    refine iteE e ?_; clear e; intro hc e
    obtain ⟨q1, q2⟩ := PM.ret_some e; clear e; subst q1 q2
    have hc : k = 1 := by simpa using hc
    subst hc
    apply VR.strE (r1); intro t1
    have e1 := headStr_eq x
    have hh : Post B s ads S (.str (headStr x)) Q := h
    refine tail_any (typeIs_str _ _ _) PySem.F.slot_str_getitem.lookup (wpAny_getItem_str_slice (l := none) (u := some (1, t)) (st := none) ⟨_, Heap.get?_push_size _ rfl, rfl, rfl⟩ rfl ?_) rfl
    show (if ((1 : Int) == 1 && (strSliceIndices none (some 1) 1 x.length).length == x.length) = true then Made.val (.str x t1) else Made.str ⟨((strSliceIndices none (some 1) 1 x.length).filterMap (x.cps[·]?)).toArray⟩).post Q _
    by_cases hc : ((1 : Int) == 1 && (strSliceIndices none (some 1) 1 x.length).length == x.length) = true
    · rw [if_pos hc] at e1 ⊢
      have := hh (.str x t1) _ _ N1 (by rw [← e1]; exact .str _ _)
      exact this
    · rw [if_neg hc] at e1 ⊢
      rw [e1]
      refine ⟨?_, hh _ _ _ (.trans N1 (.tok N1.sr _)) (.str _ _)⟩
      have : (headStr x).cps.size ≤ 1 := by unfold headStr; simp; exact om138
      exact Nat.le_trans this (by decide +kernel)
  | tup vs =>
    refine iteE e ?_; clear e; intro hc e
    obtain ⟨q1, q2⟩ := PM.ret_some e; clear e; subst q1 q2
    simp only [Bool.and_eq_true, decide_eq_true_eq] at hc
    obtain ⟨⟨h0, h1⟩, h2⟩ := hc
    apply VR.tupE (r1); intro x us n hx rx
    have hsz := lineLen_le
    have hl := rx.length
    have hx' : (s.heap.push (sliceO .none (.int k t) .none)).get? x = some (tupO us n) := Heap.get?_push_of_some _ hx
    refine tail_any (T := "tuple") ⟨_, hx', rfl⟩ PySem.F.slot_tuple_getitem.lookup (getItem_tuple_slice (B := B) hx' (Heap.IsSliceOf.new ..) .none (.int k t) (fun q => ?_) ?_ (by exact om1 h2 hsz hl)) rfl
    · rw [kms_to _ _ h0] at q
      have := rx.take k.toNat
      rw [q] at this
      exact h _ _ _ N1 (.tup hx' (N1.ext.vrs this))
    · rw [kms_to _ _ h0]
      have N2 := N1.trans (Nx.push (own := none') N1.sr (tupO (us.take k.toNat) 0) s.toks)
      exact h _ _ _ N2 (.tup (Heap.get?_push_size _ rfl) (N2.ext.vrs (rx.take _)))
  | ref n =>
    refine bndL e ?_; clear e; intro xs g1 e
    refine iteE e ?_; clear e; intro hc e
    obtain ⟨q1, q2⟩ := PM.alloc_some e; clear e; subst q1 q2
    simp only [Bool.and_eq_true, decide_eq_true_eq] at hc
    obtain ⟨⟨h0, h1⟩, h2⟩ := hc
    apply VR.refE (r1); intro x ax
    refine SR.objL R ax g1 ?_; intro us n' hx rx
    have hsz := lineLen_le
    have hl := rx.length
    have hx' : (s.heap.push (sliceO .none (.int k t) .none)).get? x = some (lstO us n') := Heap.get?_push_of_some _ hx
    refine tail_any (isList_of hx').typeIs PySem.F.slot_list_getitem.lookup (list_part (n := n) R hx rx .none (.int k t) .none (by simp) ?_ (rx.take k.toNat) (by exact om1 h2 hsz hl) h) rfl
    have := slicePick_upto' us.toArray k.toNat
    rw [Int.toNat_of_nonneg h0] at this
    simpa using this
  | _ => exact (nofail e).elim

theorem snd_sliceFrom {p : Pos} {ue : Expr} {k : Int} {t : Tok} (e : psliceFrom a k S = some (v, S')) (R : SR B ads S s.heap) (r1 : VR s.heap ads u1 a) (h : Post B s ads S' v Q) :
    wpAny (model B.prog B.w) A (subscriptTail value (.Slice (some ue) none none p) u1 (.ref s.heap.objs.size)) Q E { s with heap := s.heap.push (sliceO (.int k t) .none .none) } := by
  have N1 := Nx.push (own := none') R (sliceO (.int k t) .none .none) s.toks
  cases a with
  | tup vs =>
    refine iteE e ?_; clear e; intro hc e
    obtain ⟨q1, q2⟩ := PM.ret_some e; clear e; subst q1 q2
    simp only [Bool.and_eq_true, decide_eq_true_eq] at hc
    obtain ⟨⟨h0, h1⟩, h2⟩ := hc
    apply VR.tupE (r1); intro x us n hx rx
    have hsz := lineLen_le
    have hl := rx.length
    have hx' : (s.heap.push (sliceO (.int k t) .none .none)).get? x = some (tupO us n) := Heap.get?_push_of_some _ hx
    refine tail_any (T := "tuple") ⟨_, hx', rfl⟩ PySem.F.slot_tuple_getitem.lookup (getItem_tuple_slice (B := B) hx' (Heap.IsSliceOf.new ..) (.int k t) .none (fun q => ?_) ?_ (by exact om1 h2 hsz hl)) rfl
    · rw [kms_from _ _ h0] at q
      have := rx.drop k.toNat
      rw [q] at this
      exact h _ _ _ N1 (.tup hx' (N1.ext.vrs this))
    · rw [kms_from _ _ h0]
      have N2 := N1.trans (Nx.push (own := none') N1.sr (tupO (us.drop k.toNat) 0) s.toks)
      exact h _ _ _ N2 (.tup (Heap.get?_push_size _ rfl) (N2.ext.vrs (rx.drop _)))
  | ref n =>
    refine bndL e ?_; clear e; intro xs g1 e
    refine iteE e ?_; clear e; intro hc e
    obtain ⟨q1, q2⟩ := PM.alloc_some e; clear e; subst q1 q2
    simp only [Bool.and_eq_true, decide_eq_true_eq] at hc
    obtain ⟨⟨h0, h1⟩, h2⟩ := hc
    apply VR.refE (r1); intro x ax
    refine SR.objL R ax g1 ?_; intro us n' hx rx
    have hsz := lineLen_le
    have hl := rx.length
    have hx' : (s.heap.push (sliceO (.int k t) .none .none)).get? x = some (lstO us n') := Heap.get?_push_of_some _ hx
    refine tail_any (isList_of hx').typeIs PySem.F.slot_list_getitem.lookup (list_part (n := n) R hx rx (.int k t) .none .none (by simp) ?_ (rx.drop k.toNat) (by exact om1 h2 hsz hl) h) rfl
    have := slicePick_from' us.toArray k.toNat
    rw [Int.toNat_of_nonneg h0] at this
    simpa using this
  | _ => exact (nofail e).elim

theorem fm_congr {α β : Type} {f g : α → Option β} : ∀ (l : List α), (∀ x ∈ l, f x = g x) → l.filterMap f = l.filterMap g
  | [], _ => rfl
  | x :: r, h => by
    rw [List.filterMap_cons, List.filterMap_cons, h x (.head _), fm_congr r fun y hy => h y (.tail _ hy)]
theorem slicePick_rev (us : List Value) : slicePick us.toArray none none (some (-1)) = us.reverse.toArray := by
  unfold slicePick
  have e : sliceBounds none none (some (-1)) us.toArray.size = ((us.length : Int) - 1, -1, -1) := by
    simp [sliceBounds]
  rw [e]
  simp only []
  have e2 : sliceRange ((us.length : Int) - 1) (-1) (-1) = (List.range us.length).map fun k => (us.length : Nat) - 1 - k := by
    unfold sliceRange
    have h1 : ¬ ((-1 : Int) > 0) := by decide
    simp only [h1, if_false]
    rcases Nat.eq_zero_or_pos us.length with h | h
    · rw [h]; rfl
    · have h3 : ((us.length : Int) - 1 > -1) := by exact om140 h
      have e3 : ((((us.length : Int) - 1 - -1 - (-1) - 1) / -(-1))).toNat = us.length := by
        have : ((us.length : Int) - 1 - -1 - (-1) - 1) / -(-1) = us.length := by
          rw [Int.neg_neg, Int.ediv_one]; exact om141
        rw [this]; simp
      simp only [h3, if_true]
      rw [e3]
      apply List.map_congr_left
      intro k hk
      have := List.mem_range.mp hk
      exact om142
  rw [e2]
  congr 1
  apply List.ext_getElem?
  intro i
  rw [List.filterMap_map]
  have : (List.filterMap ((fun x => us.toArray[x]?) ∘ fun k => us.length - 1 - k) (List.range us.length)) = (List.range us.length).filterMap fun k => us.reverse[k]? := by
    apply fm_congr
    intro k hk
    have hk := List.mem_range.mp hk
    simp only [Function.comp, List.getElem?_toArray]
    rw [List.getElem?_reverse hk]
  rw [this]
  have q := pick_run us.reverse.toArray 0 us.length
  rw [List.filterMap_map] at q
  have q2 : (List.filterMap ((fun x => us.reverse.toArray[x]?) ∘ fun x => 0 + x) (List.range us.length)) = us.reverse := by
    rw [q, List.drop_zero, List.take_of_length_le (by simp)]
  have q3 : (List.filterMap (fun k => us.reverse[k]?) (List.range us.length)) = us.reverse := by
    have e5 : (List.filterMap ((fun x => us.reverse.toArray[x]?) ∘ fun x => 0 + x) (List.range us.length)) = (List.filterMap (fun k => us.reverse[k]?) (List.range us.length)) := by
      apply fm_congr
      intro k hk
      simp
    rw [← e5, q2]
  rw [q3]

theorem snd_sliceRev {p : Pos} {ue : Expr} {t : Tok} (e : psliceRev a S = some (v, S')) (R : SR B ads S s.heap) (r1 : VR s.heap ads u1 a) (h : Post B s ads S' v Q) :
    wpAny (model B.prog B.w) A (subscriptTail value (.Slice none none (some ue) p) u1 (.ref s.heap.objs.size)) Q E { s with heap := s.heap.push (sliceO .none .none (.int (-1) t)) } := by
  have N1 := Nx.push (own := none') R (sliceO .none .none (.int (-1) t)) s.toks
  obtain ⟨n, q1, q2⟩ := tkR_some e; clear e; revert q2; subst q1; intro e
  refine bndL e ?_; clear e; intro xs g1 e
  refine iteE e ?_; clear e; intro hc e
  obtain ⟨q1, q2⟩ := PM.alloc_some e; clear e; subst q1 q2
  apply VR.refE (r1); intro x ax
  refine SR.objL R ax g1 ?_; intro us n' hx rx
  have hsz := lineLen_le
  have hl := rx.length
  have hx' : (s.heap.push (sliceO .none .none (.int (-1) t))).get? x = some (lstO us n') := Heap.get?_push_of_some _ hx
  exact tail_any (isList_of hx').typeIs PySem.F.slot_list_getitem.lookup (list_part (n := n) R hx rx .none .none (.int _ t) (by simp) (slicePick_rev us) rx.reverse (by exact om1 hc hsz hl) h) rfl

/-! ## stores into dicts -/
theorem KV.stored {h : Heap} {us : List (Str × Value)} {vs : List (Str × PV)} (x : KV h ads us vs) {k : Str} {u : Value} {w : PV} (r : VR h ads u w) : KV h ads (PySem.stored us k u) (dput k w vs) := by
  have hk := x.keys
  have any : us.any (fun e => decide (e.1 = k)) = vs.any (fun e => decide (e.1 = k)) := by
    have e1 : us.any (fun e => decide (e.1 = k)) = (us.map (·.1)).any fun y => decide (y = k) := by rw [List.any_map]; rfl
    have e2 : vs.any (fun e => decide (e.1 = k)) = (vs.map (·.1)).any fun y => decide (y = k) := by rw [List.any_map]; rfl
    rw [e1, e2, hk]
  unfold PySem.stored dput
  rw [any]
  split
  · rename_i hany
    clear any hk hany
    induction x with
    | nil => exact .nil
    | @cons y u' v' us vs r' _ ih =>
      simp only [List.map_cons]
      by_cases q : y = k
      · simp only [q, if_true, beq_self_eq_true]
        exact .cons r ih
      · have q' : (y == k) = false := by simpa using q
        simp only [q, if_false]
        try simp only [q', Bool.false_eq_true, if_false]
        exact .cons r' ih
  · exact x.append (.cons r .nil)

open Classical in
theorem snd_setitem (K : AOk d A) {u3 : Value} {w : PV} {un : Unit} {Q : Unit → Shared → Prop} (e : psetitem a b w S = some (un, S')) (R : SR B ads S s.heap) (r1 : VR s.heap ads u1 a) (r2 : VR s.heap ads u2 b) (r3 : VR s.heap ads u3 w) (h : PostU B s ads S' Q) :
    wpAny (model B.prog B.w) A (setItem u1 u2 u3) Q E s := by
  have hu := K.units
  obtain ⟨n, q1, q2⟩ := tkR_some e; clear e; revert q2; subst q1; intro e
  cases b with
  | str x =>
    refine bndD e ?_; clear e; intro es g1 e
    refine iteE e ?_; clear e; intro hc e
    obtain ⟨_, rfl⟩ := PM.put_some e
    obtain ⟨t, rfl⟩ := r2.str_inv
    obtain ⟨y, rfl, ay⟩ := r1.ref_inv
    obtain ⟨us, hy, ry⟩ := R.obj ay g1
    have hl := ry.length
    have hsz := lineLen_le
    refine wpAny_setItem_pairs (isKey _ t) hy (fun h' hd hsb => ?_) (by exact om45 hc hl hsz)
    have tk : TupKeep s.heap h' := fun b us n e => by
      refine (hsb.2 b (fun q => ?_)).trans e
      obtain ⟨ob, e', _, h3⟩ := R.alive (List.mem_of_getElem? ay)
      rw [q, e'] at e
      exact h3 _ _ (Option.some.inj e)
    exact h _ _ (Nx.set R ⟨rfl, rfl⟩ ay (fun b o hb e => (hsb.2 b hb).trans e) ⟨_, hd, (ry.mono tk ⟨[], by simp⟩).stored (r3.mono tk ⟨[], by simp⟩)⟩)
  | tup k =>
    refine iteE e ?_; clear e; intro hd e
    refine bndO e ?_; clear e; intro o g1 e
    obtain ⟨c, us, k', rfl, hc, rc⟩ := r2.tup_inv
    obtain ⟨y, rfl, ay⟩ := r1.ref_inv
    have hk : (dataKind B.prog B.w).is s.heap (.tup k) c := ⟨hd, r2.dataOnly hd⟩
    have room : (dataKind B.prog B.w).room A.in1 := by show A.units + 1 + 100 < cLine; exact om40 hu
    have hsz := lineLen_le
    have fin : ∀ {xs : List (PV × Addr × Value)} {es : List (PV × PV)} {h' : Heap} {tk' : Nat}, TV s.heap ads xs es → (∀ x ∈ xs, dataAt s.heap x.1 x.2.1) → h'.DictOfH (dataKind B.prog B.w) y (xs ++ [(.tup k, c, u3)]) → Heap.SameBut y s.heap h' →
        PostU B s ads (S.set n (.dtp (es ++ [(.tup k, w)]))) Q → Q () { s with heap := h', toks := tk' } := by
      intro xs es h' tk' ry _ hD hsb hq
      have tk : TupKeep s.heap h' := fun b us n e => by
        refine (hsb.2 b (fun q => ?_)).trans e
        obtain ⟨ob, e', _, h3⟩ := R.alive (List.mem_of_getElem? ay)
        rw [q, e'] at e
        exact h3 _ _ (Option.some.inj e)
      obtain ⟨ob, hs, ep, c1, c2, c3, c4, c5, c6⟩ := hD
      refine hq _ _ (Nx.set R ⟨rfl, rfl⟩ ay (fun b o hb e => (hsb.2 b hb).trans e) ⟨_, ep, ?_, c5, c6, (ry.mono tk ⟨[], by simp⟩).append (.cons (r3.mono tk ⟨[], by simp⟩) .nil)⟩)
      rw [c1]
      obtain ⟨q1, q2, q3⟩ := c2
      cases ob with
      | mk cls dict data slots =>
        simp only at q1 q2 q3 c3
        have : hs = ((xs ++ [(PV.tup k, c, u3)]).map (TEnt B.w)).toArray := by
          apply Array.ext'
          rw [c4]
          rfl
        subst q1 q2 q3 c3
        rw [this]
    cases o with
    | dct es =>
      cases es with
      | nil =>
        obtain ⟨_, rfl⟩ := PM.put_some e
        obtain ⟨kvs, hy, ry⟩ := R.obj ay g1
        cases ry
        exact wpAny_setItem_heap room hk (emptyH hy) (fun h' hd hsb => fin (xs := []) (es := []) .nil (fun _ h => nomatch h) hd hsb h) (by simp)
      | cons _ _ => exact (nofail e).elim
    | dtp es =>
      refine iteE e ?_; clear e; intro hc' e
      obtain ⟨_, rfl⟩ := PM.put_some e
      obtain ⟨xs, ep, hy, h1, h2, ry⟩ := R.obj ay g1
      rw [Bool.and_eq_true] at hc'
      have h3 := ry.length
      have h4 := of_decide_eq_true hc'.1
      refine wpAny_setItem_heap room hk (dictH hy h1 h2) (fun h' hd' hsb => ?_) (by exact om143 hsz h3 h4)
      have : PySem.atKey xs (.tup k) = none := by
        have := TV.atKey h1 ry hd
        have h5 : (es.any fun e => eqb keyDepth e.1 (.tup k)) = false := by simpa using hc'.2
        rw [h5] at this
        simpa using this
      rw [storedH_new this] at hd'
      exact fin ry h1 hd' hsb h
    | lst _ => exact (nofail e).elim
  | _ => exact (nofail e).elim
end
end Mine.Internal
end

section
open PySem PySem.W PyProof.Rows PySem.Spec PySem.Calls PySem.Builtin.Str
namespace Mine.Internal

/-! ## sorted lists of strs are unique -/
theorem eq_of_perm_pairwise {α : Type} {r : α → α → Prop} (anti : ∀ a b, r a b → r b a → a = b) : ∀ {l m : List α}, l.Perm m → l.Pairwise r → m.Pairwise r → l = m
  | [], m, p, _, _ => (List.Perm.nil_eq p)
  | a :: l, m, p, h1, h2 => by
    have ham : a ∈ m := p.mem_iff.mp (.head _)
    cases m with
    | nil => cases ham
    | cons b m =>
      obtain ⟨h3, h4⟩ := List.pairwise_cons.mp h1
      obtain ⟨h5, h6⟩ := List.pairwise_cons.mp h2
      have hb : b ∈ a :: l := p.mem_iff.mpr (.head _)
      have e : a = b := by
        rcases List.mem_cons.mp ham with e | e
        · exact e
        · rcases List.mem_cons.mp hb with e' | e'
          · exact e'.symm
          · exact anti _ _ (h3 _ e') (h5 _ e)
      subst e
      rw [eq_of_perm_pairwise anti (List.Perm.cons_inv p) h4 h6]
theorem sle_total (a b : Str) : (sle a b || sle b a) = true := by
  unfold sle
  by_cases h : b.cps.toList < a.cps.toList
  · have : ¬ a.cps.toList < b.cps.toList := List.not_lt.mpr (List.le_of_lt h)
    simp [h, this]
  · simp [h]
theorem sle_trans (a b c : Str) (h1 : sle a b = true) (h2 : sle b c = true) : sle a c = true := by
  unfold sle at *
  simp only [Bool.not_eq_true', decide_eq_false_iff_not, List.not_lt] at *
  exact List.le_trans h1 h2
theorem sle_anti (a b : Str) (h1 : sle a b = true) (h2 : sle b a = true) : a = b := by
  unfold sle at *
  simp only [Bool.not_eq_true', decide_eq_false_iff_not, List.not_lt] at *
  have := List.le_antisymm h1 h2
  cases a; cases b
  congr 1
  exact Array.ext' this
theorem psort_pairwise (l : List Str) : (psort l).Pairwise fun a b => sle a b = true := by
  have := List.pairwise_mergeSort (le := sle) (fun a b c => sle_trans a b c) (fun a b => sle_total a b) l
  exact this
theorem rising_pairwise : ∀ (l : List Str) (p : Str), risingS p l = true → (p :: l).Pairwise fun a b => sle a b = true
  | [], p, _ => by simp
  | x :: r, p, h => by
    unfold risingS at h
    rw [Bool.and_eq_true] at h
    have ih := rising_pairwise r x h.2
    have hpx : sle p x = true := by unfold sle; rw [← ltCps_eq]; exact h.1
    refine List.pairwise_cons.mpr ⟨fun y hy => ?_, ih⟩
    rcases List.mem_cons.mp hy with rfl | hy
    · exact hpx
    · exact sle_trans _ _ _ hpx ((List.pairwise_cons.mp ih).1 y hy)
theorem psort_unique {ss ss' : List Str} (p : ss'.Perm ss) (h : sortedS ss' = true) : ss' = psort ss := by
  have h2 : ss'.Pairwise fun a b => sle a b = true := by
    cases ss' with
    | nil => exact List.Pairwise.nil
    | cons x r => exact rising_pairwise r x h
  exact eq_of_perm_pairwise (fun a b => sle_anti a b) (p.trans (List.mergeSort_perm ss sle).symm) h2 (psort_pairwise ss)

section
variable {A : Around} {E : Value → Shared → Prop} {s : Shared} {B : Bs} {ads : List Addr} {S S' : St} {Q : Value → Shared → Prop} {u1 u2 : Value} {a b v : PV} {d : Nat}

/-- sorted of anything that is collected as strs -/
theorem sorted_any {x : Value} {ss : List Str} (h64 : ss.length < 64)
    (hc : ∀ (Q' : List Value → Shared → Prop), (∀ vs ss₁ s', Same s s' → (∀ b o, s.heap.get? b = some o → s'.heap.get? b = some o) → StrsAre vs ss₁ → ss₁.Perm ss → Q' vs s') → wpAny (model B.prog B.w) A.in1 (collect x) Q' E s)
    (h : ∀ (us : List Value) (l : Addr) (n : Nat) s', Same s s' → (∀ b o, s.heap.get? b = some o → s'.heap.get? b = some o) → (∀ b o, s.heap.get? b = some o → b < l) → s'.heap.get? l = some (lstO us n) → StrsAre us (psort ss) → Q (.ref l) s') :
    wpAny (model B.prog B.w) A (call (.builtin "sorted") [x]) Q E s := by
  refine Calls.call_function_entry kind_sorted plain_sorted entry_sorted (args_sorted1 _) ?_
  unfold Builtin.«sorted»
  refine wpAny_bind (m := checkCount "sorted" 1 1 _) (wpAny_pure ?_)
  refine wpAny_bind (hc _ fun vs ss₁ s' hs hk hS hperm => ?_)
  have hl : vs.length = ss.length := (StrsAre.length hS).trans hperm.length_eq
  refine wpAny_bind (wpAny_newList ?_ (by rw [hl, sizeLine_eq]; exact om46 h64))
  have hoL : (s'.heap.push (seqObj "list" vs.toArray 0)).get? s'.heap.objs.size = some (seqObj "list" vs.toArray 0) := Heap.get?_push_size _ rfl
  show wpAny _ _ _ _ _ { s' with heap := s'.heap.push (seqObj "list" vs.toArray 0) }
  refine wpAny_bind (wpAny_holding (wpAny_call_entry slot_list_sort ⟨_, hoL, rfl⟩ entry_list_sort (list_sort_treeK strKind_oneLt hoL hS.keysOf (fun v₁ v₂ rest e => keyKind_strs (by rw [← e]; exact hS)) (by exact om47 h64 hl) fun st' hp hs' => ⟨_, rfl, ?_⟩) (args_list_sort _)))
  obtain ⟨ss', h1, h2, h3⟩ := sorted_out_str hS hp hs'
  rw [psort_unique (h2.trans hperm) h3] at h1
  obtain ⟨e, he⟩ := sortedHeap_at (vs := vs) (out := (arrOf st').map (·.2)) hoL
  refine wpAny_pure ⟨_, rfl, h ((arrOf st').map (·.2)).toList s'.heap.objs.size e _ ⟨hs.1, hs.2⟩ (fun b o e => ?_) (fun b o e => Heap.lt_size (hk _ _ e)) (by unfold lstO; rw [Array.toArray_toList]; exact he) h1⟩
  have e1 := hk _ _ e
  have hlt := Heap.lt_size e1
  rw [sortedHeap_old (Nat.ne_of_lt hlt) (by rw [size_push']; exact Nat.lt_succ_of_lt hlt)]
  exact Heap.get?_push_of_some _ e1


theorem VRs.ints {h : Heap} {us : List Value} {vs : List PV} {is : List Int} (e : intsOf? vs = some is) (x : VRs h ads us vs) : IntsAre us is := by
  induction us generalizing vs is with
  | nil => cases x; cases e; exact .nil
  | cons u r ih =>
    cases x with
    | @cons _ v _ vs a b =>
      cases v <;> simp only [intsOf?, Option.map_eq_some_iff, reduceCtorEq] at e
      obtain ⟨is', e', rfl⟩ := e
      apply VR.intE (a); intro t
      exact .cons _ _ (ih e' b)

theorem len_any (R : SR B ads S s.heap) {vs : List PV} {us : List Value} {T : String} {x : Addr} {n : Nat} (hx : s.heap.get? x = some (tupO us n) ∨ s.heap.get? x = some (lstO us n)) (r : VRs s.heap ads us vs) (hl : vs.length ≤ lineLen) (h : Post B s ads S (.int vs.length) Q) :
    wpAny (model B.prog B.w) A (call (.builtin "len") [.ref x]) Q E s := by
  have hsz := lineLen_le
  have hr := r.length
  have hlim : (us.toArray.size : Int) < 2 ^ 63 := by
    have : lineLen = 100000 := rfl
    simp; exact om144 hl hr this
  have e : ((us.toArray.size : Nat) : Int) = vs.length := by simp [hr]
  rcases hx with hx | hx
  · refine PyProof.Rows.len_tuple (isTup_of hx) hlim ?_
    rw [e]
    exact h _ _ _ (.tok R _) (.int _ _)
  · refine PyProof.Rows.len_list (isList_of hx) hlim ?_
    rw [e]
    exact h _ _ _ (.tok R _) (.int _ _)

theorem sorted_list (K : AOk d A) (R : SR B ads S s.heap) {x : Addr} {k n : Nat} {us : List Value} {ss : List Str} (hx : s.heap.get? x = some (lstO us k)) (hS : StrsAre us ss) (h64 : ss.length < 64) (h : Post B s ads (S ++ [.lst ((psort ss).map .str)]) (.ref S.length) Q) :
    wpAny (model B.prog B.w) A (call (.builtin "sorted") [.ref x]) Q E s := by
  have hl := StrsAre.length hS
  refine sorted_any h64 (fun Q' hq => collect_list (isList_of hx) (hq _ _ _ ⟨rfl, rfl⟩ (fun b o e => ?_) hS .rfl) (by rw [sizeLine_eq]; exact om145 h64 hl)) fun us' l n s' hs hk hn hl' hS' => post_listF R hs hk hn hl' (VRs.ofStrs hS') h
  exact (Heap.get?_update_ne _ _ _ _ (Nat.ne_of_lt (Heap.lt_size e))).trans (Heap.get?_push_of_some _ e)

theorem itemsOf_strs {kvs : List (Str × Value)} {acc : Array Value} (h : ItemsOf (fun i v => ∃ k x, kvs[i]? = some (k, x) ∧ (PySem.strKind B.prog B.w).is k v = true) acc kvs.length) : StrsAre acc.toList (kvs.map (·.1)) := by
  obtain ⟨hsz, hP⟩ := h
  have : ∀ (l : List Value) (kvs : List (Str × Value)), l.length = kvs.length → (∀ (j : Nat) v, l[j]? = some v → ∃ k x, kvs[j]? = some (k, x) ∧ (PySem.strKind B.prog B.w).is k v = true) → StrsAre l (kvs.map (·.1)) := by
    intro l
    induction l with
    | nil => intro kvs hl _; cases kvs with | nil => exact .nil | cons a r => simp at hl
    | cons v r ih =>
      intro kvs hl hp
      cases kvs with
      | nil => simp at hl
      | cons p kvs =>
        obtain ⟨k, x, e1, e2⟩ := hp 0 v rfl
        have e1 : p = (k, x) := by simpa using e1
        subst e1
        have hv : ∃ t, v = .str k t := by
          change Value.isStrOf k v = true at e2
          unfold Value.isStrOf at e2
          cases v <;> simp at e2
          rename_i y t
          exact ⟨t, by rw [e2]⟩
        obtain ⟨t, rfl⟩ := hv
        exact .cons k t (ih kvs (by simpa using hl) fun j v hj => hp (j + 1) v (by simpa using hj))
  exact this acc.toList kvs (by rw [Array.length_toList]; exact hsz) fun j v hj => hP j v (by rw [← Array.getElem?_toList]; exact hj)

theorem dictAt_of {h : Heap} {a : Addr} {kvs : List (Str × Value)} (x : h.DictOf (PySem.strKind B.prog B.w) a kvs) : ∃ ep, h.DictAt (PySem.strKind B.prog B.w) a kvs ep := by
  obtain ⟨o, es, ep, r⟩ := x
  exact ⟨ep, o, es, r⟩

theorem sorted_dict (K : AOk d A) (R : SR B ads S s.heap) {x : Addr} {k n : Nat} {kvs : List (Str × Value)} (hm : x ∈ ads) (hx : s.heap.DictOf (PySem.strKind B.prog B.w) x kvs) (h64 : kvs.length < 64) (h : Post B s ads (S ++ [.lst ((psort (kvs.map (·.1))).map .str)]) (.ref S.length) Q) :
    wpAny (model B.prog B.w) A (call (.builtin "sorted") [.ref x]) Q E s := by
  obtain ⟨ep, hx'⟩ := dictAt_of hx
  refine sorted_any (ss := kvs.map (·.1)) (by simpa using h64) (fun Q' hq => kdu_collect (kdl_dict (knd := PySem.strKind B.prog B.w) (kvs := kvs) (ep := ep) (R.notSys hm)) K.handled hx' (by rw [sizeLine_eq]; exact om46 h64) fun h' tk acc hk hacc => hq _ _ _ ⟨rfl, rfl⟩ hk (itemsOf_strs hacc) .rfl) fun us' l n s' hs hk hn hl' hS' => post_listF R hs hk hn hl' (VRs.ofStrs hS') h

theorem list_dict (K : AOk d A) (R : SR B ads S s.heap) {x : Addr} {kvs : List (Str × Value)} (hm : x ∈ ads) (hx : s.heap.DictOf (PySem.strKind B.prog B.w) x kvs) (hsz : kvs.length ≤ sizeLine) (h : Post B s ads (S ++ [.lst ((kvs.map (·.1)).map .str)]) (.ref S.length) Q) :
    wpAny (model B.prog B.w) A (call (.type "list") [.ref x]) Q E s := by
  obtain ⟨ep, hx'⟩ := dictAt_of hx
  refine kdl_call (kdl_dict (knd := PySem.strKind B.prog B.w) (kvs := kvs) (ep := ep) (R.notSys hm)) K.handled hx' hsz fun h' tk acc c hk hD hacc => ?_
  exact post_list (us := acc.toList) (n := c) (s' := { s with heap := h', toks := tk }) R ⟨rfl, rfl⟩ hk (Nat.le_refl _) (by unfold lstO; rw [Array.toArray_toList]; exact hD) (VRs.ofStrs (itemsOf_strs hacc)) h

theorem list_tup (R : SR B ads S s.heap) {x : Addr} {n : Nat} {us : List Value} {vs : List PV} (hx : s.heap.get? x = some (tupO us n)) (r : VRs s.heap ads us vs) (hl : vs.length ≤ lineLen) (h : Post B s ads (S ++ [.lst vs]) (.ref S.length) Q) :
    wpAny (model B.prog B.w) A (call (.type "list") [.ref x]) Q E s := by
  have hsz := lineLen_le
  have hr := r.length
  refine call_list_seq x (.inr rfl) hx rfl rfl (fun h' c' hk hD => ?_) (by simp; exact om1 hl hsz hr)
  exact post_list (us := us) (n := c') (s' := { s with heap := h' }) R ⟨rfl, rfl⟩ hk (Nat.le_refl _) hD (r.mono (fun b us n e => hk _ _ e) ⟨[], by simp⟩) h

theorem tuple_lst (R : SR B ads S s.heap) {x : Addr} {n : Nat} {us : List Value} {vs : List PV} (hx : s.heap.get? x = some (lstO us n)) (r : VRs s.heap ads us vs) (hl : vs.length ≤ lineLen) (h : Post B s ads S (.tup vs) Q) :
    wpAny (model B.prog B.w) A (call (.type "tuple") [.ref x]) Q E s := by
  have hsz := lineLen_le
  have hr := r.length
  refine call_tuple_list (isList_of hx) (fun h' hk => ?_) (by simp; exact om1 hl hsz hr)
  have hk' : ∀ b o, s.heap.get? b = some o → (h'.push (tupO us 0)).get? b = some o := fun b o e => Heap.get?_push_of_some _ (hk b o e)
  exact post_tup (us := us) (n := 0) (s' := { s with heap := h'.push (tupO us 0) }) R ⟨rfl, rfl⟩ hk' (Heap.get?_push_size _ rfl) (r.mono (fun b us n e => hk' _ _ e) ⟨[], by simp⟩) h

theorem sum_lst (K : AOk d A) (R : SR B ads S s.heap) {x : Addr} {n : Nat} {us : List Value} {is : List Int} (hx : s.heap.get? x = some (lstO us n)) (hi : IntsAre us is) (h : Post B s ads S (.int is.sum) Q) :
    wpAny (model B.prog B.w) A (call (.builtin "sum") [.ref x]) Q E s := by
  obtain ⟨xs, hxs⟩ := hi.allInts.items
  have hl' : s.heap.IsList x (intItems xs) := hxs ▸ isList_of hx
  refine sum_intListG K.handled hl' fun h' tk t' hk => ?_
  have e1 : is = xs.toList.map (·.1) := by
    rw [← nums_intItems, ← hxs]
    exact (show numsOf us.toArray.toList = is from hi.numsOf).symm
  have e2 : preSum (numAt xs) xs.size = is.sum := by
    rw [preSum_eq, List.take_of_length_le (by simp), e1]
  rw [e2]
  exact h _ { s with heap := h', toks := tk } ads (Nx.keep R ⟨rfl, rfl⟩ hk) (.int _ _)

theorem maxL_spec : ∀ (l : List Int) (m : Int), (maxL m l = m ∨ maxL m l ∈ l) ∧ m ≤ maxL m l ∧ ∀ a ∈ l, a ≤ maxL m l
  | [], m => ⟨.inl rfl, Int.le_refl _, by simp⟩
  | x :: r, m => by
    unfold maxL
    obtain ⟨h1, h2, h3⟩ := maxL_spec r (if m < x then x else m)
    by_cases h : m < x
    · simp only [if_pos h] at h1 h2 h3 ⊢
      refine ⟨?_, by exact om146 h h2, ?_⟩
      · rcases h1 with h1 | h1
        · exact .inr (by rw [h1]; exact .head _)
        · exact .inr (.tail _ h1)
      · intro a ha
        rcases List.mem_cons.mp ha with rfl | ha
        · exact h2
        · exact h3 a ha
    · simp only [if_neg h] at h1 h2 h3 ⊢
      refine ⟨?_, h2, ?_⟩
      · rcases h1 with h1 | h1
        · exact .inl h1
        · exact .inr (.tail _ h1)
      · intro a ha
        rcases List.mem_cons.mp ha with rfl | ha
        · exact om147 h2 h
        · exact h3 a ha

theorem max_lst (K : AOk d A) (R : SR B ads S s.heap) {x : Addr} {n : Nat} {us : List Value} {i : Int} {is : List Int} (hx : s.heap.get? x = some (lstO us n)) (hi : IntsAre us (i :: is)) (h : Post B s ads S (.int (maxL i is)) Q) :
    wpAny (model B.prog B.w) A (call (.builtin "max") [.ref x]) Q E s := by
  obtain ⟨xs, e⟩ := hi.allInts.items
  have hns : i :: is = xs.toList.map (·.1) := by
    rw [← hi.numsOf, ← nums_intItems, ← e]
  have hsz : 0 < xs.size := by
    have : (i :: is).length = xs.size := by rw [hns]; simp
    simp at this; exact om148 this
  have hl : s.heap.IsList x (intItems xs) := e ▸ isList_of hx
  refine max_intList K.handled hl hsz fun v h' tk hv hk => ?_
  obtain ⟨t, rfl⟩ := intItems_at hv
  obtain ⟨h1, h2⟩ := argBest_gt (numAt xs) (xs.size - 1)
  have hM1 : numAt xs (argBest (fun i j => decide (numAt xs i > numAt xs j)) (xs.size - 1)) ∈ i :: is := by
    rw [hns, numAt_eq]; exact getD_mem (by rw [List.length_map, Array.length_toList]; exact om149 hsz h1)
  have hM2 : ∀ a ∈ i :: is, a ≤ numAt xs (argBest (fun i j => decide (numAt xs i > numAt xs j)) (xs.size - 1)) := by
    intro a ha
    rw [hns] at ha
    obtain ⟨j, hj, rfl⟩ := mem_getD ha
    rw [List.length_map, Array.length_toList] at hj
    rw [← numAt_eq]; exact h2 j (by exact om150 hj)
  have hM : numAt xs (argBest (fun i j => decide (numAt xs i > numAt xs j)) (xs.size - 1)) = maxL i is := by
    obtain ⟨g1, g2, g3⟩ := maxL_spec is i
    refine Int.le_antisymm ?_ (hM2 _ ?_)
    · rcases List.mem_cons.mp hM1 with q | q
      · rw [q]; exact g2
      · exact g3 _ q
    · rcases g1 with q | q
      · rw [q]; exact .head _
      · exact .tail _ q
  rw [hM]
  exact h _ { s with heap := h', toks := tk } ads (Nx.keep R ⟨rfl, rfl⟩ hk) (.int _ _)
end
end Mine.Internal
end

section
open PySem PySem.W PyProof.Rows PySem.Spec PySem.Calls PySem.Builtin.Str
namespace Mine.Internal
section
variable {A : Around} {E : Value → Shared → Prop} {s : Shared} {B : Bs} {ads : List Addr} {S S' : St} {Q : Value → Shared → Prop} {u1 u2 : Value} {a b v : PV} {d : Nat}

theorem noKeys_list {prog : Program} {w : World} {x : Addr} {us : List Value} {n : Nat} {Q : Option Value → Shared → Prop} (hh : A.handled = none) (hx : s.heap.get? x = some (lstO us n))
    (h : ∀ h' tk, (∀ b o, s.heap.get? b = some o → h'.get? b = some o) → Q none { s with heap := h', toks := tk }) :
    wpAny (model prog w) A (getAttr? (.ref x) (Str.ofString "keys")) Q E s := by
  have hmiss : typeLookup (.type "list") (Str.ofString "keys") = pure none := by rw [typeLookup_type, builtinLookup_eq_fast]; kernel_rfl
  have hname : (["__module__", "__name__", "__qualname__", "__doc__", "__annotations__"] : List Str).contains (Str.ofString "keys") = false := by decide +kernel
  obtain ⟨hp, g, dr, tk, os⟩ := s
  have hT : ∀ tk', (⟨hp, g, dr, tk', os⟩ : Shared).TypeIs (.ref x) "list" := fun _ => ⟨_, hx, rfl⟩
  have f1 := sub_AttributeError
  have f3 := PySem.F.slot_list_getattribute.lookup
  have f4 := PySem.F.slot_list_getattribute.bind (.ref x)
  have f5 := am_list_getattr_none
  unfold getAttr? getAttrBy? getAttrBy
  repeat (any_goals (first | assumption | exact hT _ | ((with_reducible show wpAny _ _ (call (Value.builtin "list.__getattribute__") _ _) _ _ _); refine call_meets PySem.F.slot_list_getattribute (hT _) am_entry_list_getattribute (PySem.F.args_list_getattribute_2 _ _) (meets_getattribute_miss_list x _ _ _ _ _ hmiss hname (by rw [sizeLine_eq]; decide +kernel)) ⟨hx, hh, fun h' tk' e hx' => ?_⟩) | wp_step))
  obtain ⟨t', u', he⟩ := hx'.there
  have hc : (⟨h', g, dr, tk', os⟩ : Shared).TypeIs (.ref e) "AttributeError" := ⟨_, he, rfl⟩
  show wpAny _ _ (getattributeRaised _ _ _ _ _ _ _) _ _ _
  unfold getattributeRaised
  repeat (any_goals (first | assumption | wp_step))
  exact h _ _ hx'.keeps

theorem plain_dictloop : plainId "dict.update.loop" = true := by decide +kernel
theorem entry_dictloop : entryFor table "dict.update.loop" = some Builtin.«dict.update.loop» := entryFor_of_tree (by kernel_rfl)

/-- a list of pairs as a dict is made of it -/
inductive PairsAt (h : Heap) : List Value → List (Str × Value) → Prop
  | nil : PairsAt h [] []
  | cons {t : Addr} {n : Nat} {x : Str} {u : Tok} {v : Value} {us kvs} : h.get? t = some (tupO [.str x u, v] n) → PairsAt h us kvs → PairsAt h (.ref t :: us) ((x, v) :: kvs)
theorem PairsAt.keep {h h' : Heap} {us kvs} (x : PairsAt h us kvs) (hk : ∀ b us n, h.get? b = some (tupO us n) → h'.get? b = some (tupO us n)) : PairsAt h' us kvs := by
  induction x with
  | nil => exact .nil
  | cons a _ ih => exact .cons (hk _ _ _ a) ih
theorem PairsAt.length {h : Heap} {us kvs} (x : PairsAt h us kvs) : us.length = kvs.length := by
  induction x with
  | nil => rfl
  | cons a _ ih => simp [ih]

theorem dict_loop (hh : A.handled = none) {I l D : Addr} {us0 : List Value} {n0 : Nat} {R : Result → Shared → Prop} (hIl : I ≠ l) (hID : I ≠ D) (hlD : l ≠ D) :
    ∀ (us : List Value) (kvs acc : List (Str × Value)) (done : List Value) (s : Shared), us0 = done ++ us → PairsAt s.heap us kvs → s.heap.get? l = some (lstO us0 n0) → s.heap.IsListIter I l done.length → s.heap.DictOf (PySem.strKind B.prog B.w) D acc →
    acc.length + kvs.length ≤ sizeLine →
    (∀ h' tk, (∀ b o, b ≠ I → b ≠ D → s.heap.get? b = some o → h'.get? b = some o) → h'.DictOf (PySem.strKind B.prog B.w) D (kvs.foldl (fun a p => stored a p.1 p.2) acc) → R (.ok (.ret .none)) { s with heap := h', toks := tk }) →
    codeAny (model B.prog B.w) A (.builtin "dict.update.loop" ⟨[.ref D, .ref I, rawInt done.length, .none], []⟩) R s := by
  intro us
  induction us with
  | nil =>
    intro kvs acc done s hu hp hl hi hD hsz hR
    cases hp
    have e : us0 = done := by simpa using hu
    refine codeAny_builtin entry_dictloop ?_
    rw [Around.under_plainId plain_dictloop _]
    show wpAny _ A.in1 (pyNext (.ref I) >>= _) _ _ s
    refine wpAny_bind (wpAny_pyNext_list_end (A := A.in1) hh hi (isList_of hl) (by rw [e]; simp) fun h' hb => ?_)
    obtain ⟨oD, es, ep, gD, rD⟩ := hD
    exact wpAny_bind (wpAny_pure (wpAny_pure (hR h' s.toks (fun b o hb1 _ e => hb b o hb1 e) ⟨oD, es, ep, hb _ _ (Ne.symm hID) gD, rD⟩)))
  | cons u us ih =>
    intro kvs acc done s hu hp hl hi hD hsz hR
    cases hp with
    | @cons t n x tk v _ kvs ht hp =>
    have hx : us0.toArray[done.length]? = some (.ref t) := by rw [hu]; simp
    refine codeAny_builtin entry_dictloop ?_
    rw [Around.under_plainId plain_dictloop _]
    show wpAny _ A.in1 (pyNext (.ref I) >>= _) _ _ s
    refine wpAny_bind (wpAny_pyNext_list_item (A := A.in1) hi (isList_of hl) hx fun h1 hi1 hs1 => ?_)
    have htI : t ≠ I := by
      rintro rfl
      obtain ⟨o, ho, hc, _⟩ := hi
      rw [ht] at ho
      have := congrArg Obj.cls (Option.some.inj ho)
      rw [hc] at this
      exact absurd this (by show ¬ (Value.type "tuple" = Value.type "list_iterator"); decide)
    have htD : t ≠ D := by
      rintro rfl
      obtain ⟨o, _, _, ho, hc, _⟩ := hD
      rw [ht] at ho
      have := congrArg Obj.cls (Option.some.inj ho)
      rw [hc.1] at this
      exact absurd this (by show ¬ (Value.type "tuple" = Value.type "dict"); decide)
    have ht1 : h1.get? t = some (tupO [.str x tk, v] n) := (hs1.2 t htI).trans ht
    have hD1 : h1.DictOf (PySem.strKind B.prog B.w) D acc := by
      obtain ⟨oD, es, ep, gD, rD⟩ := hD
      exact ⟨oD, es, ep, (hs1.2 D (Ne.symm hID)).trans gD, rD⟩
    refine wpAny_bind ?_
    refine wpAny_holding ?_
    refine wpAny_bind (wpAny_tryCatch ?_)
    unfold Builtin.Dict.pairItems
    refine wpAny_bind (wpAny_typeOf (T := "tuple") ⟨_, ht1, rfl⟩ ?_)
    rw [if_pos (by decide)]
    refine wpAny_bind (wpAny_seqItems ht1 rfl (wpAny_pure ?_))
    refine wpAny_holding ?_
    refine wpAny_dictSet_pairs (isKey x tk) hD1 (fun h2 hD2 hs2 => ?_) (by simp at hsz; exact om151 hsz)
    refine wpAny_pure ⟨plainId_quiet plain_dictloop _, ?_⟩
    have ih' := ih kvs (stored acc x v) (done ++ [.ref t]) { s with heap := h2, toks := s.toks + 1 } (by rw [hu]; simp) ?_ ?_ ?_ hD2 ?_ ?_
    · have e : rawInt (done ++ [Value.ref t]).length = rawInt ((done.length : Int) + 1) := by simp
      rw [e] at ih'
      exact ih'
    · refine hp.keep fun b us n e => ?_
      have hbI : b ≠ I := by
        rintro rfl
        obtain ⟨o, ho, hc, _⟩ := hi
        rw [e] at ho
        have := congrArg Obj.cls (Option.some.inj ho)
        rw [hc] at this
        exact absurd this (by show ¬ (Value.type "tuple" = Value.type "list_iterator"); decide)
      have hbD : b ≠ D := by
        rintro rfl
        obtain ⟨o, _, _, ho, hc, _⟩ := hD
        rw [e] at ho
        have := congrArg Obj.cls (Option.some.inj ho)
        rw [hc.1] at this
        exact absurd this (by show ¬ (Value.type "tuple" = Value.type "dict"); decide)
      exact (hs2.2 b hbD).trans ((hs1.2 b hbI).trans e)
    · exact (hs2.2 l hlD).trans ((hs1.2 l (Ne.symm hIl)).trans hl)
    · obtain ⟨o, ho, r⟩ := hi1
      refine ⟨o, (hs2.2 I hID).trans ho, ?_⟩
      simpa using r
    · have := stored_length_le acc x v
      simp at hsz; exact om152 hsz this
    · intro h' tk' hk hd
      exact hR h' tk' (fun b o hb1 hb2 e => hk b o hb1 hb2 ((hs2.2 b hb2).trans ((hs1.2 b hb1).trans e))) hd

theorem call_dict_list (hh : A.handled = none) {l : Addr} {us : List Value} {n : Nat} {kvs : List (Str × Value)} (hl : s.heap.get? l = some (lstO us n)) (hp : PairsAt s.heap us kvs) (hsz : kvs.length ≤ sizeLine)
    (h : ∀ h' tk, (∀ b o, s.heap.get? b = some o → h'.get? b = some o) → h'.DictOf (PySem.strKind B.prog B.w) s.heap.objs.size (kvs.foldl (fun a p => stored a p.1 p.2) []) → Q (.ref s.heap.objs.size) { s with heap := h', toks := tk }) :
    wpAny (model B.prog B.w) A (call (.type "dict") [.ref l]) Q E s := by
  refine callType_codes (Q₁ := fun obj s₁ => obj = .ref s.heap.objs.size ∧ s₁ = { s with heap := s.heap.push { cls := .type "dict", data := .dict #[] } }) PySem.F.kt_called_dict (PySem.F.kt_typeCall_dict_1 _) PySem.F.entry_dict_init (kt_code_dict_new _ ⟨rfl, rfl⟩) ?_
  rintro obj s₁ ⟨rfl, rfl⟩
  have hnew : (s.heap.push { cls := .type "dict", data := .dict #[] }).DictOf (PySem.strKind B.prog B.w) s.heap.objs.size [] := Heap.DictOf.new s.heap
  have hk0 : ∀ b o, s.heap.get? b = some o → (s.heap.push { cls := .type "dict", data := .dict #[] }).get? b = some o := fun b o e => Heap.get?_push_of_some _ e
  have hl' := hk0 _ _ hl
  have hlne : l ≠ s.heap.objs.size := Nat.ne_of_lt (Heap.lt_size hl)
  refine ⟨hnew.typeIs, PySem.F.args_dict_init_2 _ _, ?_⟩
  unfold Builtin.«dict.__init__»
  refine wpAny_bind ?_
  unfold Builtin.Dict.selfAndRest
  refine wpAny_bind (wpAny_notOrdered_dict hnew.typeIs ?_)
  show wpAny _ _ (pure (s.heap.objs.size, [Value.ref l])) _ _ _
  refine wpAny_pure ?_
  show wpAny _ _ (Builtin.Dict.updateFrom "dict.__init__" s.heap.objs.size (.ref l) [] .none) _ _ _
  unfold Builtin.Dict.updateFrom
  refine wpAny_bind (wpAny_typeOf (T := "list") ⟨_, hl', rfl⟩ ?_)
  rw [if_pos (by decide)]
  refine wpAny_bind (noKeys_list (A := A.in1.in1) hh hl' fun h' tk hk => ?_)
  simp only [Option.isNone_none, if_true]
  refine wpAny_bind (wpAny_rule ?_)
  have hl2 := hk _ _ hl'
  refine wpAny_bind (wpAny_pyIter_list (isList_of hl2) ?_)
  have hDlt : s.heap.objs.size < h'.objs.size := by
    obtain ⟨o, _, _, ho, _⟩ := hnew
    exact Heap.lt_size (hk _ _ ho)
  have hllt : l < h'.objs.size := Heap.lt_size hl2
  refine wpAny_pure ⟨plainId_quiet plain_dictloop _, ?_⟩
  have key := dict_loop (A := A.in1) (B := B) hh (I := h'.objs.size) (l := l) (D := s.heap.objs.size) (us0 := us) (n0 := n) (R := wants (fun r s₂ => r = .none ∧ Q (.ref s.heap.objs.size) s₂) E)
    (Nat.ne_of_gt hllt) (Nat.ne_of_gt hDlt) hlne us kvs [] []
    { s with heap := h'.push { cls := .type "list_iterator", data := .fields #[.ref l, .int 0 0] }, toks := tk } rfl ?_ (Heap.get?_push_of_some _ hl2) ⟨_, Heap.get?_push_size _ rfl, rfl, rfl⟩ ?_ (by simpa using hsz) ?_
  · exact key
  · exact hp.keep fun b us n e => Heap.get?_push_of_some _ (hk _ _ (hk0 _ _ e))
  · obtain ⟨o, es, ep, ho, r⟩ := hnew
    exact ⟨o, es, ep, Heap.get?_push_of_some _ (hk _ _ ho), r⟩
  · intro h'' tk'' hk2 hD
    refine ⟨rfl, h h'' tk'' (fun b o e => ?_) hD⟩
    have hb := Heap.lt_size e
    exact hk2 b o (by have : b < h'.objs.size := Nat.lt_trans hb hDlt; exact Nat.ne_of_lt this) (Nat.ne_of_lt hb) (Heap.get?_push_of_some _ (hk _ _ (hk0 _ _ e)))

theorem pairOf?_some {v : PV} {p : Str × PV} (e : pairOf? v = some p) : ∃ x w, v = .tup [.str x, w] ∧ p = (x, w) := by
  cases v with
  | tup vs =>
    cases vs with
    | nil => cases e
    | cons a r =>
      cases a with
      | str x =>
        cases r with
        | nil => cases e
        | cons b r =>
          cases r with
          | nil => cases e; exact ⟨_, _, rfl, rfl⟩
          | cons _ _ => cases e
      | _ => cases e
  | _ => cases e
theorem VRs.pairs {h : Heap} {us : List Value} {vs : List PV} {ps : List (Str × PV)} (e : pairsOf? vs = some ps) (x : VRs h ads us vs) : ∃ kvs, PairsAt h us kvs ∧ KV h ads kvs ps := by
  induction us generalizing vs ps with
  | nil => cases x; cases e; exact ⟨[], .nil, .nil⟩
  | cons u r ih =>
    cases x with
    | @cons _ v _ vs a b =>
      have e : (match pairOf? v with | some p => (pairsOf? vs).map (p :: ·) | none => none) = some ps := e
      cases hp : pairOf? v with
      | none => rw [hp] at e; cases e
      | some p =>
        rw [hp] at e
        obtain ⟨ps', e', rfl⟩ := Option.map_eq_some_iff.mp e
        obtain ⟨kvs, h1, h2⟩ := ih e' b
        obtain ⟨y, w, rfl, rfl⟩ := pairOf?_some hp
        obtain ⟨t, ws, n, rfl, ht, rt⟩ := a.tup_inv
        cases rt with
        | cons c1 c2 =>
        cases c2 with
        | cons c3 c4 =>
        cases c4
        obtain ⟨tk, rfl⟩ := c1.str_inv
        exact ⟨_, .cons ht h1, .cons c3 h2⟩

theorem KV.foldStored {h : Heap} {kvs : List (Str × Value)} {ps : List (Str × PV)} (x : KV h ads kvs ps) : ∀ {acc : List (Str × Value)} {pacc : List (Str × PV)}, KV h ads acc pacc →
    KV h ads (kvs.foldl (fun a p => PySem.stored a p.1 p.2) acc) (ps.foldl (fun es p => dput p.1 p.2 es) pacc) := by
  induction x with
  | nil => intro _ _ y; exact y
  | cons a _ ih => intro acc pacc y; exact ih (y.stored a)

theorem dict_lst (K : AOk d A) (R : SR B ads S s.heap) {x : Addr} {n : Nat} {us : List Value} {vs : List PV} {ps : List (Str × PV)} (hx : s.heap.get? x = some (lstO us n)) (r : VRs s.heap ads us vs) (e : pairsOf? vs = some ps) (hl : ps.length ≤ lineLen)
    (h : Post B s ads (S ++ [.dct (ps.foldl (fun es p => dput p.1 p.2 es) [])]) (.ref S.length) Q) : wpAny (model B.prog B.w) A (call (.type "dict") [.ref x]) Q E s := by
  obtain ⟨kvs, h1, h2⟩ := r.pairs e
  have hz := h2.length
  have := lineLen_le
  refine call_dict_list K.handled hx h1 (by exact om10 hl hz this) fun h' tk hk hD => ?_
  refine h _ { s with heap := h', toks := tk } (ads ++ [s.heap.objs.size]) (Nx.alloc R ⟨rfl, rfl⟩ hk (Nat.le_refl _) ⟨_, hD, (KV.foldStored h2 .nil).mono (fun b us n e => hk _ _ e) ⟨_, rfl⟩⟩) (.ref ?_)
  rw [← R.len]; simp
end
end Mine.Internal
end

section
open PySem PySem.W PyProof.Rows PySem.Spec PySem.Calls PySem.Builtin.Str
namespace Mine.Internal
section
variable {A : Around} {E : Value → Shared → Prop} {s : Shared} {B : Bs} {ads : List Addr} {S S' : St} {Q : Value → Shared → Prop} {u1 u2 : Value} {a b v : PV} {d : Nat} {prog : Program} {w : World}

theorem wpAny_loadIfAlive {M : Model} {x : Addr} {Q : Option Obj → Shared → Prop} (h : Q (s.heap.get? x) s) : wpAny M A (loadIfAlive x) Q E s := fun Γ p hΓ => by
  unfold loadIfAlive
  simp only [Sem.wp_loadIfAlive]
  exact h

theorem nextOf_tuple_item {it t : Addr} {i : Nat} {items} {x : Value} {Q : Value → Shared → Prop} (hit : s.heap.IsTupleIter it t i)
    (ht : s.heap.IsTuple t items) (hx : items[i]? = some x)
    (hQ : ∀ h', h'.IsTupleIter it t (i + 1) → Heap.SameBut it s.heap h' → Q x { s with heap := h' }) :
    wpAny (model prog w) A (Builtin.SmallTypes.nextOf (.ref it)) Q E s := by
  obtain ⟨o, ho, hc, hd⟩ := id hit
  obtain ⟨ol, hol, _, nl, hdl⟩ := ht
  unfold Builtin.SmallTypes.nextOf
  refine wpAny_bind (wpAny_callSpecial?_slot (name := Str.ofString "__next__") hit.typeIs PySem.F.slot_tuple_iterator_next
    (wpAny_call_entry PySem.F.slot_tuple_iterator_next hit.typeIs PySem.F.entry_tuple_iterator_next ?_ (PySem.F.args_tuple_iterator_next_1 _)))
  show wpAny _ _ (field (.ref it) 0 >>= _) _ _ s
  refine wpAny_bind (wpAny_field ho hd (x := .ref t) rfl ?_)
  show wpAny _ _ (if (Value.ref t == Value.none) = true then _ else _) _ _ s
  rw [if_neg (show ¬ ((Value.ref t == Value.none) = true) from Bool.false_ne_true)]
  show wpAny _ _ (field (.ref it) 1 >>= _) _ _ s
  refine wpAny_bind (wpAny_field ho hd (x := .int i 0) rfl ?_)
  show wpAny _ _ (seqItems? (.ref t) >>= _) _ _ s
  refine wpAny_bind (wpAny_seqItems hol hdl ?_)
  simp only [Int.toNat_natCast, hx]
  refine wpAny_bind (wpAny_setField ho hd (by simp) (wpAny_pure ⟨x, rfl, wpAny_pure (hQ _ ?_ (Heap.SameBut.update ..))⟩))
  exact ⟨_, Heap.get?_update_self _ ho (Obj.isFreed_of_fields (Obj.data_mapFields hd _)), (Obj.cls_mapFields ..).trans hc, by
    rw [Obj.data_mapFields hd]; simp [rawInt]⟩

theorem nextOf_tuple_end {it t : Addr} {i : Nat} {items} {Q : Value → Shared → Prop} (hh : A.handled = none)
    (hit : s.heap.IsTupleIter it t i) (ht : s.heap.IsTuple t items) (hx : items[i]? = none)
    (hE : ∀ h' e, Heap.ExtBut it s.heap h' → (∃ o, h'.get? e = some o ∧ o.cls = .type "StopIteration") → E (.ref e) { s with heap := h' }) :
    wpAny (model prog w) A (Builtin.SmallTypes.nextOf (.ref it)) Q E s := by
  obtain ⟨o, ho, hc, hd⟩ := id hit
  obtain ⟨ol, hol, _, nl, hdl⟩ := ht
  unfold Builtin.SmallTypes.nextOf
  refine wpAny_bind (wpAny_callSpecial?_slot (name := Str.ofString "__next__") hit.typeIs PySem.F.slot_tuple_iterator_next
    (wpAny_call_entry PySem.F.slot_tuple_iterator_next hit.typeIs PySem.F.entry_tuple_iterator_next ?_ (PySem.F.args_tuple_iterator_next_1 _)))
  show wpAny _ _ (field (.ref it) 0 >>= _) _ _ s
  refine wpAny_bind (wpAny_field ho hd (x := .ref t) rfl ?_)
  show wpAny _ _ (if (Value.ref t == Value.none) = true then _ else _) _ _ s
  rw [if_neg (show ¬ ((Value.ref t == Value.none) = true) from Bool.false_ne_true)]
  show wpAny _ _ (field (.ref it) 1 >>= _) _ _ s
  refine wpAny_bind (wpAny_field ho hd (x := .int i 0) rfl ?_)
  show wpAny _ _ (seqItems? (.ref t) >>= _) _ _ s
  refine wpAny_bind (wpAny_seqItems hol hdl ?_)
  simp only [Int.toNat_natCast, hx]
  refine wpAny_bind (wpAny_rule (wpAny_bind (wpAny_setField ho hd (by simp) ?_)))
  show wpAny _ _ (newExc (.type "StopIteration") [] >>= _) _ _ _
  refine wpAny_bind ?_
  simp only [newExc, newTuple]
  refine wpAny_bind (wpAny_newObj_type ?_ (by size_fits))
  refine wpAny_bind (m := firstArgMember _ _) (wpAny_of_eq (a := Value.none) (by first | rfl | (simp only [firstArgMember]; rfl)) ?_)
  refine wpAny_newObj_type ?_ (by size_fits)
  simp only [raiseNew]
  refine wpAny_bind (wpAny_handled ?_)
  first | rw [show A.in1.handled = none from hh] | rw [hh]
  refine wpAny_bind (wpAny_pure (wpAny_throw ?_))
  exact hE _ _ (((Heap.SameBut.update ..).extBut.push _).push _) ⟨_, Heap.get?_push_size _ rfl, rfl⟩

theorem Draws.tuple (hh : A.handled = none) (it l : Addr) (hne : l ≠ it) (items : Array Value) :
    Draws prog w A it [it, l] items.size (fun i v => items[i]? = some v) (fun i h => h.IsTupleIter it l i ∧ h.IsTuple l items) where
  live := fun _ _ st => let ⟨o, ho, _⟩ := st.1; ⟨o, ho⟩
  frame := fun _ _ _ st hk => ⟨st.1.at fun o e => hk it (by simp) o e, let ⟨o, ho, r⟩ := st.2; ⟨o, hk l (by simp) o ho, r⟩⟩
  item := fun i s Q E hi st hQ => by
    refine nextOf_tuple_item st.1 st.2 (x := items[i]) (by simp [hi]) fun h' hit' hs' => ?_
    exact hQ _ h' s.toks (by simp [hi]) ⟨hit', st.2.extBut hs'.extBut hne⟩ hs'
  done := fun s Q E st hE => nextOf_tuple_end hh st.1 st.2 (by simp) hE

/-! ## zip over two drawers -/
structure ZState (h : Heap) (z TI TO i1 i2 : Addr) : Prop where
  obj : ∃ f0 bb, h.get? z = some { cls := .type "zip", dict := none, data := .fields #[f0, .bool bb, .bool false, .ref TI, .ref TO], slots := #[] } ∧
    (f0 = .none ∨ ∃ T us n, f0 = rawInt (T : Nat) ∧ h.get? T = some (tupO us n))
  ti : IsPair h TI (.ref i1) (.ref i2)
  to' : ∃ a b, IsPair h TO a b
structure ZApart (z TI TO i1 i2 : Addr) (fp1 fp2 : List Addr) : Prop where
  TIz : TI ≠ z
  TOz : TO ≠ z
  i1z : i1 ≠ z
  i2z : i2 ≠ z
  TITO : TI ≠ TO
  TIi1 : TI ≠ i1
  TIi2 : TI ≠ i2
  TOi1 : TO ≠ i1
  TOi2 : TO ≠ i2
  i12 : i1 ≠ i2
  m1 : i1 ∈ fp1
  m2 : i2 ∈ fp2
  f1 : z ∉ fp1 ∧ TO ∉ fp1 ∧ i2 ∉ fp1
  f2 : z ∉ fp2 ∧ TO ∉ fp2 ∧ i1 ∉ fp2

theorem ZState.keep {h h' : Heap} {z TI TO i1 i2 : Addr} (Z : ZState h z TI TO i1 i2) (hk : ∀ b, (b = z ∨ b = TI ∨ b = TO) → ∀ o, h.get? b = some o → h'.get? b = some o) (ht : TupKeep h h') : ZState h' z TI TO i1 i2 := by
  obtain ⟨⟨f0, bb, hz, hf⟩, h1, ⟨a, b, h2⟩⟩ := Z
  refine ⟨⟨f0, bb, hk z (.inl rfl) _ hz, ?_⟩, hk TI (.inr (.inl rfl)) _ h1, ⟨a, b, hk TO (.inr (.inr rfl)) _ h2⟩⟩
  rcases hf with hf | ⟨T, us, n, e, hT⟩
  · exact .inl hf
  · exact .inr ⟨T, us, n, e, ht _ _ _ hT⟩

variable {z TI TO i1 i2 : Addr} {fp1 fp2 : List Addr} {us ws : List Value} {St1 St2 : Nat → Heap → Prop}

theorem zip_item (D1 : Draws prog w A i1 fp1 us.length (fun j v => us[j]? = some v) St1) (D2 : Draws prog w A i2 fp2 ws.length (fun j v => ws[j]? = some v) St2) (P : ZApart z TI TO i1 i2 fp1 fp2)
    {k : Nat} (hk1 : k < us.length) (hk2 : k < ws.length) (Z : ZState s.heap z TI TO i1 i2) (s1 : St1 k s.heap) (s2 : St2 k s.heap) (n1 : ∀ us n, s.heap.get? i1 ≠ some (tupO us n)) (n2 : ∀ us n, s.heap.get? i2 ≠ some (tupO us n))
    (hQ : ∀ x y h' tk T, us[k]? = some x → ws[k]? = some y → s.heap.objs.size ≤ T → h'.get? T = some (tupO [x, y] 0) → ZState h' z TI TO i1 i2 → St1 (k + 1) h' → St2 (k + 1) h' →
      (∀ c o, c ≠ z → c ≠ TO → c ≠ i1 → c ≠ i2 → s.heap.get? c = some o → h'.get? c = some o) → Q (.ref T) { s with heap := h', toks := tk }) :
    wpAny (model prog w) A (Builtin.«zip.__next__» ⟨[.ref z], []⟩) (fun fin s' => ∃ v, fin = .done (.ret v) ∧ Q v s') E s := by
  obtain ⟨⟨f0, bb, hz, hf⟩, hTI, ⟨a, b, hTO⟩⟩ := id Z
  show wpAny _ _ (field (.ref z) 2 >>= _) _ _ _
  refine wpAny_bind (wpAny_field hz rfl (x := .bool false) rfl ?_)
  show wpAny _ _ (field (.ref z) 3 >>= _) _ _ _
  refine wpAny_bind (wpAny_field hz rfl (x := .ref TI) rfl ?_)
  refine wpAny_bind (wpAny_seqItems hTI rfl ?_)
  show wpAny _ _ (Builtin.SmallTypes.ownedTupleIsFree (.ref z) >>= _) _ _ _
  rcases hf with rfl | ⟨T, tus, tn, rfl, hT⟩
  · refine wpAny_bind ?_
    unfold Builtin.SmallTypes.ownedTupleIsFree
    refine wpAny_bind (wpAny_field hz rfl (x := .none) rfl (wpAny_pure ?_))
    simp only [if_true]
    refine wpAny_bind (wpAny_rule ?_)
    refine wpAny_bind (wpAny_field hz rfl (x := .ref TO) rfl ?_)
    refine wpAny_bind (wpAny_setField_rec hz (by simp) fun h₁ hz₁ hs₁ => ?_)
    replace hz₁ : h₁.get? z = some { cls := .type "zip", dict := none, data := .fields #[.ellipsis, .bool bb, .bool false, .ref TI, .ref TO], slots := #[] } := hz₁
    refine wpAny_bind ?_
    simp only [List.zipIdx_cons, List.zipIdx_nil, List.forIn_cons, List.forIn_nil]
    have s1' := D1.frame _ _ h₁ s1 fun b hb o e => hs₁.extBut _ _ (fun q => P.f1.1 (q ▸ hb)) e
    have s2' := D2.frame _ _ h₁ s2 fun b hb o e => hs₁.extBut _ _ (fun q => P.f2.1 (q ▸ hb)) e
    refine wpAny_bind (wpAny_bind (wpAny_onRaise ?_))
    show wpAny _ _ (Builtin.SmallTypes.nextOf (.ref i1) >>= _) _ _ _
    refine wpAny_bind (D1.item k _ _ _ hk1 s1' fun x h₂ tk₂ hx s1₂ hs₂ => wpAny_pure ?_)
    replace hs₂ : Heap.SameBut i1 h₁ h₂ := hs₂
    have s2₂ := D2.frame _ _ h₂ s2' fun b hb o e => hs₂.extBut _ _ (fun q => P.f2.2.2 (q ▸ hb)) e
    have hTO₂ : IsPair h₂ TO a b := hs₂.extBut _ _ P.TOi1 (hs₁.extBut _ _ P.TOz hTO)
    refine wpAny_bind (wpAny_seqItems hTO₂ rfl ?_)
    refine wpAny_bind (wpAny_updateSeq_pair hTO₂ fun h₃ hTO₃ hs₃ => ?_)
    replace hTO₃ : IsPair h₃ TO x b := hTO₃
    replace hs₃ : Heap.SameBut TO h₂ h₃ := hs₃
    have s1₃ := D1.frame _ _ h₃ s1₂ fun b hb o e => hs₃.extBut _ _ (fun q => P.f1.2.1 (q ▸ hb)) e
    have s2₃ := D2.frame _ _ h₃ s2₂ fun b hb o e => hs₃.extBut _ _ (fun q => P.f2.2.1 (q ▸ hb)) e
    refine wpAny_bind (wpAny_letGo (wpAny_pure ?_))
    refine wpAny_bind (wpAny_bind (wpAny_onRaise ?_))
    show wpAny _ _ (Builtin.SmallTypes.nextOf (.ref i2) >>= _) _ _ _
    refine wpAny_bind (D2.item k _ _ _ hk2 s2₃ fun y h₄ tk₄ hy s2₄ hs₄ => wpAny_pure ?_)
    replace hs₄ : Heap.SameBut i2 h₃ h₄ := hs₄
    have s1₄ := D1.frame _ _ h₄ s1₃ fun b hb o e => hs₄.extBut _ _ (fun q => P.f1.2.2 (q ▸ hb)) e
    have hTO₄ : IsPair h₄ TO x b := hs₄.extBut _ _ P.TOi2 hTO₃
    refine wpAny_bind (wpAny_seqItems hTO₄ rfl ?_)
    refine wpAny_bind (wpAny_updateSeq_pair hTO₄ fun h₅ hTO₅ hs₅ => ?_)
    replace hTO₅ : IsPair h₅ TO x y := hTO₅
    replace hs₅ : Heap.SameBut TO h₄ h₅ := hs₅
    have s1₅ := D1.frame _ _ h₅ s1₄ fun b hb o e => hs₅.extBut _ _ (fun q => P.f1.2.1 (q ▸ hb)) e
    have s2₅ := D2.frame _ _ h₅ s2₄ fun b hb o e => hs₅.extBut _ _ (fun q => P.f2.2.1 (q ▸ hb)) e
    refine wpAny_bind (wpAny_letGo (wpAny_pure (wpAny_pure ?_)))
    refine wpAny_bind (wpAny_seqItems hTO₅ rfl ?_)
    refine wpAny_bind (wpAny_newTuple ?_)
    have hsz : h₅.objs.size = s.heap.objs.size := by rw [hs₅.1, hs₄.1, hs₃.1, hs₂.1, hs₁.1]
    have hk₅ : ∀ c o, c ≠ z → c ≠ TO → c ≠ i1 → c ≠ i2 → s.heap.get? c = some o → h₅.get? c = some o := fun c o c1 c2 c3 c4 e =>
      hs₅.extBut _ _ c2 (hs₄.extBut _ _ c4 (hs₃.extBut _ _ c2 (hs₂.extBut _ _ c3 (hs₁.extBut _ _ c1 e))))
    have hz₅ : h₅.get? z = some { cls := .type "zip", dict := none, data := .fields #[.ellipsis, .bool bb, .bool false, .ref TI, .ref TO], slots := #[] } :=
      hs₅.extBut _ _ P.TOz.symm (hs₄.extBut _ _ P.i2z.symm (hs₃.extBut _ _ P.TOz.symm (hs₂.extBut _ _ P.i1z.symm hz₁)))
    have hzlt : z < h₅.objs.size := Heap.lt_size hz₅
    show wpAny _ _ (Builtin.SmallTypes.ownedTupleHandOut (.ref z) (.ref h₅.objs.size) >>= _) _ _ _
    refine wpAny_bind ?_
    unfold Builtin.SmallTypes.ownedTupleHandOut
    have hz₆ : (h₅.push { cls := .type "tuple", data := .seq #[x, y] }).get? z = some { cls := .type "zip", dict := none, data := .fields #[.ellipsis, .bool bb, .bool false, .ref TI, .ref TO], slots := #[] } := Heap.get?_push_of_some _ hz₅
    refine wpAny_bind (wpAny_setField_rec hz₆ (by simp) fun h₇ hz₇ hs₇ => ?_)
    replace hz₇ : h₇.get? z = some { cls := .type "zip", dict := none, data := .fields #[rawInt h₅.objs.size, .bool bb, .bool false, .ref TI, .ref TO], slots := #[] } := hz₇
    replace hs₇ : Heap.SameBut z (h₅.push { cls := .type "tuple", data := .seq #[x, y] }) h₇ := hs₇
    refine wpAny_setField_rec hz₇ (by simp) fun h₈ hz₈ hs₈ => ?_
    replace hz₈ : h₈.get? z = some { cls := .type "zip", dict := none, data := .fields #[rawInt h₅.objs.size, .bool false, .bool false, .ref TI, .ref TO], slots := #[] } := hz₈
    replace hs₈ : Heap.SameBut z h₇ h₈ := hs₈
    have up : ∀ c o, c ≠ z → h₅.get? c = some o → h₈.get? c = some o := fun c o c1 e => hs₈.extBut _ _ c1 (hs₇.extBut _ _ c1 (Heap.get?_push_of_some _ e))
    have hT₈ : h₈.get? h₅.objs.size = some (tupO [x, y] 0) := hs₈.extBut _ _ (Nat.ne_of_gt hzlt) (hs₇.extBut _ _ (Nat.ne_of_gt hzlt) (Heap.get?_push_size _ rfl))
    refine wpAny_pure ⟨_, rfl, ?_⟩
    refine hQ x y h₈ tk₄ h₅.objs.size hx hy (by rw [hsz]; exact Nat.le_refl _) hT₈ ⟨⟨_, _, hz₈, .inr ⟨_, _, _, rfl, hT₈⟩⟩, up _ _ P.TIz (hk₅ _ _ P.TIz P.TITO P.TIi1 P.TIi2 hTI), ⟨x, y, up _ _ P.TOz hTO₅⟩⟩
      (D1.frame _ _ _ s1₅ fun b hb o e => up b o (fun q => P.f1.1 (q ▸ hb)) e) (D2.frame _ _ _ s2₅ fun b hb o e => up b o (fun q => P.f2.1 (q ▸ hb)) e) fun c o c1 c2 c3 c4 e => up c o c1 (hk₅ c o c1 c2 c3 c4 e)
  · refine wpAny_bind (wpAny_mono (Q := fun r s₁ => r = false ∧ ∃ h₁ bb', s₁ = { s with heap := h₁ } ∧ h₁.get? z = some { cls := .type "zip", dict := none, data := .fields #[rawInt T, .bool bb', .bool false, .ref TI, .ref TO], slots := #[] } ∧ Heap.ExtBut z s.heap h₁ ∧ h₁.objs.size = s.heap.objs.size) ?_ ?_ fun _ _ x => x)
    · unfold Builtin.SmallTypes.ownedTupleIsFree
      refine wpAny_bind (wpAny_field hz rfl (x := rawInt T) rfl ?_)
      show wpAny _ _ (loadIfAlive (Int.toNat (T : Nat)) >>= _) _ _ _
      refine wpAny_bind (wpAny_loadIfAlive ?_)
      rw [Int.toNat_natCast, hT]
      simp only [Option.isNone_some, Bool.false_eq_true, if_false]
      refine wpAny_bind (wpAny_field hz rfl (x := .bool bb) rfl ?_)
      cases bb with
      | true =>
        rw [if_neg (by decide)]
        exact wpAny_pure ⟨rfl, s.heap, true, rfl, hz, Heap.ExtBut.refl _ _, rfl⟩
      | false =>
        rw [if_pos (by decide)]
        refine wpAny_bind (wpAny_setField_rec hz (by simp) fun h₁ hz₁ hs₁ => ?_)
        exact wpAny_pure ⟨rfl, h₁, true, rfl, hz₁, hs₁.extBut, hs₁.1⟩
    · rintro r s₁ ⟨rfl, h₁, bb', rfl, hz₁, hs₁, hsz₁⟩
      simp only [Bool.false_eq_true, if_false]
      have s1' := D1.frame _ _ h₁ s1 fun b hb o e => hs₁ _ _ (fun q => P.f1.1 (q ▸ hb)) e
      have s2' := D2.frame _ _ h₁ s2 fun b hb o e => hs₁ _ _ (fun q => P.f2.1 (q ▸ hb)) e
      refine wpAny_bind ?_
      simp only [List.forIn_toArray, List.forIn_cons, List.forIn_nil]
      refine wpAny_bind (wpAny_bind (wpAny_holding ?_))
      show wpAny _ _ (Builtin.SmallTypes.nextOf (.ref i1) >>= _) _ _ _
      refine wpAny_bind (D1.item k _ _ _ hk1 s1' fun x h₂ tk₂ hx s1₂ hs₂ => wpAny_pure ?_)
      replace hs₂ : Heap.SameBut i1 h₁ h₂ := hs₂
      have s2₂ := D2.frame _ _ h₂ s2' fun b hb o e => hs₂.extBut _ _ (fun q => P.f2.2.2 (q ▸ hb)) e
      refine wpAny_pure ?_
      refine wpAny_bind (wpAny_bind (wpAny_holding ?_))
      show wpAny _ _ (Builtin.SmallTypes.nextOf (.ref i2) >>= _) _ _ _
      refine wpAny_bind (D2.item k _ _ _ hk2 s2₂ fun y h₃ tk₃ hy s2₃ hs₃ => wpAny_pure ?_)
      replace hs₃ : Heap.SameBut i2 h₂ h₃ := hs₃
      have s1₃ := D1.frame _ _ h₃ s1₂ fun b hb o e => hs₃.extBut _ _ (fun q => P.f1.2.2 (q ▸ hb)) e
      refine wpAny_pure ?_
      refine wpAny_pure ?_
      simp only []
      refine wpAny_bind (wpAny_newTuple ?_ (by rw [sizeLine_eq]; simp))
      have hsz : h₃.objs.size = s.heap.objs.size := by rw [hs₃.1, hs₂.1, hsz₁]
      have hk₃ : ∀ c o, c ≠ z → c ≠ i1 → c ≠ i2 → s.heap.get? c = some o → h₃.get? c = some o := fun c o c1 c3 c4 e =>
        hs₃.extBut _ _ c4 (hs₂.extBut _ _ c3 (hs₁ _ _ c1 e))
      have hz₃ : h₃.get? z = some { cls := .type "zip", dict := none, data := .fields #[rawInt T, .bool bb', .bool false, .ref TI, .ref TO], slots := #[] } := hs₃.extBut _ _ P.i2z.symm (hs₂.extBut _ _ P.i1z.symm hz₁)
      have hTz : T ≠ z := by
        rintro rfl
        rw [hT] at hz
        have := congrArg Obj.cls (Option.some.inj hz)
        exact absurd this (by show ¬ (Value.type "tuple" = Value.type "zip"); decide)
      have hT₃ : h₃.get? T = some (tupO tus tn) := hk₃ _ _ hTz (fun q => n1 _ _ (q ▸ hT)) (fun q => n2 _ _ (q ▸ hT)) hT
      have up : ∀ c o, h₃.get? c = some o → (h₃.push { cls := .type "tuple", data := .seq #[x, y] }).get? c = some o := fun c o e => Heap.get?_push_of_some _ e
      refine wpAny_pure ⟨_, rfl, ?_⟩
      exact hQ x y (h₃.push { cls := .type "tuple", data := .seq #[x, y] }) tk₃ h₃.objs.size hx hy (by rw [hsz]; exact Nat.le_refl _) (Heap.get?_push_size _ rfl)
        ⟨⟨_, _, up _ _ hz₃, .inr ⟨_, _, _, rfl, up _ _ hT₃⟩⟩, up _ _ (hk₃ _ _ P.TIz P.TIi1 P.TIi2 hTI), ⟨a, b, up _ _ (hk₃ _ _ P.TOz P.TOi1 P.TOi2 hTO)⟩⟩
        (D1.frame _ _ _ s1₃ fun b hb o e => up b o e) (D2.frame _ _ _ s2₃ fun b hb o e => up b o e) fun c o c1 c2 c3 c4 e => up c o (hk₃ c o c1 c3 c4 e)

theorem zip_end (hh : A.handled = none) (D1 : Draws prog w A i1 fp1 us.length (fun j v => us[j]? = some v) St1) (P : ZApart z TI TO i1 i2 fp1 fp2)
    (Z : ZState s.heap z TI TO i1 i2) (s1 : St1 us.length s.heap)
    (hE : ∀ h' e, (∀ c o, c ≠ z → c ≠ TO → c ≠ i1 → c ≠ i2 → s.heap.get? c = some o → h'.get? c = some o) → (∃ o, h'.get? e = some o ∧ o.cls = .type "StopIteration") → E (.ref e) { s with heap := h' }) {Q : Fin → Shared → Prop} :
    wpAny (model prog w) A (Builtin.«zip.__next__» ⟨[.ref z], []⟩) Q E s := by
  obtain ⟨⟨f0, bb, hz, hf⟩, hTI, ⟨a, b, hTO⟩⟩ := id Z
  show wpAny _ _ (field (.ref z) 2 >>= _) _ _ _
  refine wpAny_bind (wpAny_field hz rfl (x := .bool false) rfl ?_)
  show wpAny _ _ (field (.ref z) 3 >>= _) _ _ _
  refine wpAny_bind (wpAny_field hz rfl (x := .ref TI) rfl ?_)
  refine wpAny_bind (wpAny_seqItems hTI rfl ?_)
  show wpAny _ _ (Builtin.SmallTypes.ownedTupleIsFree (.ref z) >>= _) _ _ _
  rcases hf with rfl | ⟨T, tus, tn, rfl, hT⟩
  · refine wpAny_bind ?_
    unfold Builtin.SmallTypes.ownedTupleIsFree
    refine wpAny_bind (wpAny_field hz rfl (x := .none) rfl (wpAny_pure ?_))
    simp only [if_true]
    refine wpAny_bind (wpAny_rule ?_)
    refine wpAny_bind (wpAny_field hz rfl (x := .ref TO) rfl ?_)
    refine wpAny_bind (wpAny_setField_rec hz (by simp) fun h₁ hz₁ hs₁ => ?_)
    replace hz₁ : h₁.get? z = some { cls := .type "zip", dict := none, data := .fields #[.ellipsis, .bool bb, .bool false, .ref TI, .ref TO], slots := #[] } := hz₁
    refine wpAny_bind ?_
    simp only [List.zipIdx_cons, List.zipIdx_nil, List.forIn_cons, List.forIn_nil]
    have s1' := D1.frame _ _ h₁ s1 fun b hb o e => hs₁.extBut _ _ (fun q => P.f1.1 (q ▸ hb)) e
    refine wpAny_bind (wpAny_bind (wpAny_onRaise ?_))
    show wpAny _ _ (Builtin.SmallTypes.nextOf (.ref i1) >>= _) _ _ _
    refine wpAny_bind (D1.done _ _ _ s1' fun h₂ e hs₂ he => ?_)
    obtain ⟨oe, hoe, hce⟩ := he
    have hz₂ := hs₂ _ _ P.i1z.symm hz₁
    have hez : e ≠ z := fun x => by subst x; rw [hz₂] at hoe; cases hoe; simp at hce
    refine wpAny_setField_rec hz₂ (by simp) fun h₃ _ hs₃ => hE h₃ e (fun c o c1 _ c3 _ x => hs₃.extBut _ _ c1 (hs₂ _ _ c3 (hs₁.extBut _ _ c1 x))) ⟨oe, hs₃.extBut _ _ hez hoe, hce⟩
  · refine wpAny_bind (wpAny_mono (Q := fun r s₁ => r = false ∧ ∃ h₁, s₁ = { s with heap := h₁ } ∧ Heap.ExtBut z s.heap h₁) ?_ ?_ fun _ _ x => x)
    · unfold Builtin.SmallTypes.ownedTupleIsFree
      refine wpAny_bind (wpAny_field hz rfl (x := rawInt T) rfl ?_)
      show wpAny _ _ (loadIfAlive (Int.toNat (T : Nat)) >>= _) _ _ _
      refine wpAny_bind (wpAny_loadIfAlive ?_)
      rw [Int.toNat_natCast, hT]
      simp only [Option.isNone_some, Bool.false_eq_true, if_false]
      refine wpAny_bind (wpAny_field hz rfl (x := .bool bb) rfl ?_)
      cases bb with
      | true =>
        rw [if_neg (by decide)]
        exact wpAny_pure ⟨rfl, s.heap, rfl, Heap.ExtBut.refl _ _⟩
      | false =>
        rw [if_pos (by decide)]
        refine wpAny_bind (wpAny_setField_rec hz (by simp) fun h₁ hz₁ hs₁ => ?_)
        exact wpAny_pure ⟨rfl, h₁, rfl, hs₁.extBut⟩
    · rintro r s₁ ⟨rfl, h₁, rfl, hs₁⟩
      simp only [Bool.false_eq_true, if_false]
      have s1' := D1.frame _ _ h₁ s1 fun b hb o e => hs₁ _ _ (fun q => P.f1.1 (q ▸ hb)) e
      refine wpAny_bind ?_
      simp only [List.forIn_toArray, List.forIn_cons, List.forIn_nil]
      refine wpAny_bind (wpAny_bind (wpAny_holding ?_))
      show wpAny _ _ (Builtin.SmallTypes.nextOf (.ref i1) >>= _) _ _ _
      refine wpAny_bind (D1.done _ _ _ s1' fun h₂ e hs₂ he => hE h₂ e (fun c o c1 _ c3 _ x => hs₂ _ _ c3 (hs₁ _ _ c1 x)) he)

theorem pyNext_zip_item (D1 : Draws prog w A.in1 i1 fp1 us.length (fun j v => us[j]? = some v) St1) (D2 : Draws prog w A.in1 i2 fp2 ws.length (fun j v => ws[j]? = some v) St2) (P : ZApart z TI TO i1 i2 fp1 fp2)
    {k : Nat} (hk1 : k < us.length) (hk2 : k < ws.length) (Z : ZState s.heap z TI TO i1 i2) (s1 : St1 k s.heap) (s2 : St2 k s.heap) (n1 : ∀ us n, s.heap.get? i1 ≠ some (tupO us n)) (n2 : ∀ us n, s.heap.get? i2 ≠ some (tupO us n)) {Q : Option Value → Shared → Prop}
    (hQ : ∀ x y h' tk T, us[k]? = some x → ws[k]? = some y → s.heap.objs.size ≤ T → h'.get? T = some (tupO [x, y] 0) → ZState h' z TI TO i1 i2 → St1 (k + 1) h' → St2 (k + 1) h' →
      (∀ c o, c ≠ z → c ≠ TO → c ≠ i1 → c ≠ i2 → s.heap.get? c = some o → h'.get? c = some o) → Q (some (.ref T)) { s with heap := h', toks := tk }) :
    wpAny (model prog w) A (pyNext (.ref z)) Q E s := by
  have hT : s.TypeIs (.ref z) "zip" := by obtain ⟨⟨_, _, hz, _⟩, _⟩ := Z; exact ⟨_, hz, rfl⟩
  unfold pyNext
  exact wpAny_bind (wpAny_attempt (wpAny_callSpecial?_slot (name := Str.ofString "__next__") hT PySem.F.slot_zip_next
    (wpAny_call_entry PySem.F.slot_zip_next hT PySem.F.entry_zip_next
      (zip_item (A := A.in1) D1 D2 P hk1 hk2 Z s1 s2 n1 n2 fun x y h' tk T a1 a2 a3 a4 a5 a6 a7 a8 => wpAny_pure (hQ x y h' tk T a1 a2 a3 a4 a5 a6 a7 a8)) (PySem.F.args_zip_next_1 _))))

theorem pyNext_zip_end (hh : A.handled = none) (D1 : Draws prog w A.in1 i1 fp1 us.length (fun j v => us[j]? = some v) St1) (P : ZApart z TI TO i1 i2 fp1 fp2)
    (Z : ZState s.heap z TI TO i1 i2) (s1 : St1 us.length s.heap) {Q : Option Value → Shared → Prop}
    (hQ : ∀ h', (∀ c o, c ≠ z → c ≠ TO → c ≠ i1 → c ≠ i2 → s.heap.get? c = some o → h'.get? c = some o) → Q none { s with heap := h' }) :
    wpAny (model prog w) A (pyNext (.ref z)) Q E s := by
  have hT : s.TypeIs (.ref z) "zip" := by obtain ⟨⟨_, _, hz, _⟩, _⟩ := Z; exact ⟨_, hz, rfl⟩
  unfold pyNext
  refine wpAny_bind (wpAny_attempt (wpAny_callSpecial?_slot (name := Str.ofString "__next__") hT PySem.F.slot_zip_next
    (wpAny_call_entry PySem.F.slot_zip_next hT PySem.F.entry_zip_next (zip_end (A := A.in1) hh D1 P Z s1 fun h' e hk he => ?_) (PySem.F.args_zip_next_1 _))))
  obtain ⟨o, ho, hc⟩ := he
  refine wpAny_bind (wpAny_isInstance (T := "StopIteration") (b := true) ⟨o, ho, hc⟩ isSubtype_stop ?_)
  exact wpAny_pure (hQ _ hk)

inductive TsAt (h : Heap) (TO : Addr) : List Value → List Value → List Value → Prop
  | nil : TsAt h TO [] [] []
  | snoc {T : Addr} {x y : Value} {ts us ws : List Value} : TsAt h TO ts us ws → TO < T → h.get? T = some (tupO [x, y] 0) → TsAt h TO (ts ++ [.ref T]) (us ++ [x]) (ws ++ [y])
theorem TsAt.keep {h h' : Heap} {TO : Addr} {ts us ws} (x : TsAt h TO ts us ws) (hk : ∀ T us n, TO < T → h.get? T = some (tupO us n) → h'.get? T = some (tupO us n)) : TsAt h' TO ts us ws := by
  induction x with
  | nil => exact .nil
  | snoc _ a b ih => exact .snoc ih a (hk _ _ _ a b)
theorem TsAt.length {h : Heap} {TO : Addr} {ts us ws} (x : TsAt h TO ts us ws) : ts.length = us.length ∧ ts.length = ws.length := by
  induction x with
  | nil => exact ⟨rfl, rfl⟩
  | snoc _ _ _ ih => simp [ih.1, ← ih.2]

theorem ne_of_cls {h : Heap} {x y : Addr} {o p : Obj} (hx : h.get? x = some o) (hy : h.get? y = some p) (hc : o.cls ≠ p.cls) : x ≠ y := by
  rintro rfl
  rw [hx] at hy
  exact hc (congrArg Obj.cls (Option.some.inj hy))

/-- a list is extended by a zip -/
theorem zip_loop (hh : A.handled = none) (D1 : Draws prog w A.in1.in1 i1 fp1 us.length (fun j v => us[j]? = some v) St1) (D2 : Draws prog w A.in1.in1 i2 fp2 ws.length (fun j v => ws[j]? = some v) St2) (P : ZApart z TI TO i1 i2 fp1 fp2)
    (hlen : us.length = ws.length) {L : Addr} (hL1 : L ∉ fp1) (hL2 : L ∉ fp2) {old : List Value} (hz : old.length + us.length ≤ sizeLine) {res : Value} {R : Result → Shared → Prop}
    (it1 : ∀ k h, St1 k h → ∃ o, h.get? i1 = some o ∧ o.cls ≠ .type "tuple" ∧ o.cls ≠ .type "list") (it2 : ∀ k h, St2 k h → ∃ o, h.get? i2 = some o ∧ o.cls ≠ .type "tuple" ∧ o.cls ≠ .type "list") (h0 : Heap) (hR : ∀ s' ts n, Same s s' → (∀ c o, c ≠ L → h0.get? c = some o → s'.heap.get? c = some o) → s'.heap.get? L = some (lstO (old ++ ts) n) → TsAt s'.heap TO ts us ws → R (.ok (.ret res)) s') :
    ∀ (m k : Nat) (h : Heap) (tk : Nat) (ts : List Value) (n : Nat), k + m = us.length → ZState h z TI TO i1 i2 → St1 k h → St2 k h → h.get? L = some (lstO (old ++ ts) n) → TsAt h TO ts (us.take k) (ws.take k) →
    (∀ c o, c ≠ L → h0.get? c = some o → h.get? c = some o ∧ c ≠ z ∧ c ≠ TO ∧ c ≠ i1 ∧ c ≠ i2) →
    codeAny (model prog w) A (.builtin "list.extend.loop" ⟨[.ref L, .ref z, res], []⟩) R { s with heap := h, toks := tk } := by
  intro m
  induction m with
  | zero =>
    intro k h tk ts n hkm Z s1 s2 hL hT hk
    have hkl : k = us.length := by omega
    subst hkl
    obtain ⟨⟨f0, bb, hzo, hf⟩, hTI, ⟨a, b, hTO⟩⟩ := id Z
    obtain ⟨o1, e1, c1, d1⟩ := it1 _ _ s1
    obtain ⟨o2, e2, c2, d2⟩ := it2 _ _ s2
    refine codeAny_builtin PySem.F.entry_extend_loop ?_
    rw [Around.under_plainId PySem.F.plain_extend_loop _]
    show wpAny _ A.in1 (pyNext (.ref z) >>= _) _ _ _
    refine wpAny_bind (pyNext_zip_end (A := A.in1) hh D1 P Z s1 fun h' hk' => ?_)
    have hLz : L ≠ z := ne_of_cls hL hzo (by show ¬ (Value.type "list" = Value.type "zip"); decide)
    have hLTO : L ≠ TO := ne_of_cls hL hTO (by show ¬ (Value.type "list" = Value.type "tuple"); decide)
    have hLi1 : L ≠ i1 := ne_of_cls hL e1 (Ne.symm d1)
    have hLi2 : L ≠ i2 := ne_of_cls hL e2 (Ne.symm d2)
    rw [List.take_of_length_le (Nat.le_refl _), List.take_of_length_le (by exact om153 hlen)] at hT
    refine wpAny_pure (hR _ ts n ⟨rfl, rfl⟩ (fun c o hc e => ?_) (hk' _ _ hLz hLTO hLi1 hLi2 hL) (hT.keep fun T us' n' hlt e => ?_))
    · obtain ⟨g, g1, g2, g3, g4⟩ := hk c o hc e
      exact hk' c o g1 g2 g3 g4 g
    · exact hk' _ _ (ne_of_cls e hzo (by show ¬ (Value.type "tuple" = Value.type "zip"); decide)) (Nat.ne_of_gt hlt) (ne_of_cls e e1 (Ne.symm c1)) (ne_of_cls e e2 (Ne.symm c2)) e
  | succ m ih =>
    intro k h tk ts n hkm Z s1 s2 hL hT hk
    obtain ⟨⟨f0, bb, hzo, hf⟩, hTI, ⟨a, b, hTO⟩⟩ := id Z
    obtain ⟨o1, e1, c1, d1⟩ := it1 _ _ s1
    obtain ⟨o2, e2, c2, d2⟩ := it2 _ _ s2
    refine codeAny_builtin PySem.F.entry_extend_loop ?_
    rw [Around.under_plainId PySem.F.plain_extend_loop _]
    show wpAny _ A.in1 (pyNext (.ref z) >>= _) _ _ _
    have hLz : L ≠ z := ne_of_cls hL hzo (by show ¬ (Value.type "list" = Value.type "zip"); decide)
    have hLTO : L ≠ TO := ne_of_cls hL hTO (by show ¬ (Value.type "list" = Value.type "tuple"); decide)
    have hLi1 : L ≠ i1 := ne_of_cls hL e1 (Ne.symm d1)
    have hLi2 : L ≠ i2 := ne_of_cls hL e2 (Ne.symm d2)
    refine wpAny_bind (pyNext_zip_item (A := A.in1) D1 D2 P (k := k) (by exact om154 hkm) (by exact om155 hlen hkm) Z s1 s2 (fun us' n' e => ?_) (fun us' n' e => ?_) fun x y h' tk' T hx hy hTs hTo Z' s1' s2' hk' => ?_)
    · have q : some o1 = some (tupO us' n') := e1.symm.trans e
      exact c1 (congrArg Obj.cls (Option.some.inj q))
    · have q : some o2 = some (tupO us' n') := e2.symm.trans e
      exact c2 (congrArg Obj.cls (Option.some.inj q))
    have hL' : h'.get? L = some (lstO (old ++ ts) n) := hk' _ _ hLz hLTO hLi1 hLi2 hL
    have htl := hT.length.1
    have hlt : (old ++ ts).length ≤ sizeLine ∧ (old ++ ts).length + 1 ≤ sizeLine + 1 := by
      rw [List.length_append, htl, List.length_take]
      exact om156 hz
    show wpAny _ A.in1 (updateSeq L (·.push (.ref T)) >>= _) _ _ _
    refine wpAny_bind ?_
    have hTOT : TO < T := Nat.lt_of_lt_of_le (Heap.lt_size hTO) hTs
    refine wpAny_updateSeq hL' rfl (wpAny_pure ⟨plainId_quiet PySem.F.plain_extend_loop _, ?_⟩) (by simpa using hlt.1) (by simp; have := hlt.2; simp at this; exact om157 this)
    have hup : ∀ c o, c ≠ L → h'.get? c = some o → (h'.update L (Obj.mapSeq (·.push (.ref T)))).get? c = some o := fun c o hc e => (Heap.get?_update_other _ _ (Ne.symm hc)).trans e
    have hLT : L ≠ T := ne_of_cls hL' hTo (by show ¬ (Value.type "list" = Value.type "tuple"); decide)
    obtain ⟨n', hn'⟩ : ∃ n', (h'.update L (Obj.mapSeq (·.push (.ref T)))).get? L = some (lstO (old ++ (ts ++ [.ref T])) n') := by
      have q := IsL.update (l := L) (items := (old ++ ts).toArray) hL' (fun y => y.push (Value.ref T))
      rw [show (old ++ ts).toArray.push (Value.ref T) = (old ++ (ts ++ [Value.ref T])).toArray by simp] at q
      exact ⟨_, q⟩
    refine ih (k + 1) _ _ (ts ++ [.ref T]) n' (by exact om158 hkm) (Z'.keep (fun b hb o e => hup b o ?_ e) fun b us' n' e => hup b _ ?_ e) ?_ ?_ ?_ ?_ ?_
    · rcases hb with rfl | rfl | rfl
      · exact Ne.symm hLz
      · exact ne_of_cls hTI hL (by show ¬ (Value.type "tuple" = Value.type "list"); decide)
      · exact Ne.symm hLTO
    · exact ne_of_cls e hL' (by show ¬ (Value.type "tuple" = Value.type "list"); decide)
    · exact D1.frame _ _ _ s1' fun b hb o e => hup b o (fun q => hL1 (q ▸ hb)) e
    · exact D2.frame _ _ _ s2' fun b hb o e => hup b o (fun q => hL2 (q ▸ hb)) e
    · exact hn'
    · have e1' : us.take (k + 1) = us.take k ++ [x] := by rw [List.take_add_one, hx]; rfl
      have e2' : ws.take (k + 1) = ws.take k ++ [y] := by rw [List.take_add_one, hy]; rfl
      rw [e1', e2']
      refine .snoc (hT.keep fun T' us' n' hlt' e => hup _ _ ?_ (hk' _ _ (ne_of_cls e hzo (by show ¬ (Value.type "tuple" = Value.type "zip"); decide)) (Nat.ne_of_gt hlt') (ne_of_cls e e1 (Ne.symm c1)) (ne_of_cls e e2 (Ne.symm c2)) e)) hTOT (hup _ _ (Ne.symm hLT) hTo)
      exact ne_of_cls e hL (by show ¬ (Value.type "tuple" = Value.type "list"); decide)
    · intro c o hc e
      obtain ⟨g, g1, g2, g3, g4⟩ := hk c o hc e
      exact ⟨hup c o hc (hk' c o g1 g2 g3 g4 g), g1, g2, g3, g4⟩

theorem zip_no_len : typeLookup (.type "zip") "__len__" = pure none := by rw [typeLookup_type, builtinLookup_eq_fast]; kernel_rfl
theorem zip_no_hint : typeLookup (.type "zip") "__length_hint__" = pure none := by rw [typeLookup_type, builtinLookup_eq_fast]; kernel_rfl

theorem zip_hint {z : Addr} {Q : Bool → Shared → Prop} (hT : s.TypeIs (.ref z) "zip") (h : Q true s) : wpAny (model prog w) A (Builtin.List.listLengthHint (.ref z)) Q E s := by
  unfold Builtin.List.listLengthHint
  refine wpAny_bind (wpAny_specialOf hT zip_no_len ?_)
  show wpAny _ _ (specialOf (Value.ref z) (Str.ofString "__length_hint__") >>= _) _ _ _
  refine wpAny_bind (wpAny_specialOf hT zip_no_hint ?_)
  exact wpAny_pure h

theorem zip_extend (hh : A.handled = none) (D1 : Draws prog w A.in1.in1 i1 fp1 us.length (fun j v => us[j]? = some v) St1) (D2 : Draws prog w A.in1.in1 i2 fp2 ws.length (fun j v => ws[j]? = some v) St2) (P : ZApart z TI TO i1 i2 fp1 fp2)
    (hlen : us.length = ws.length) {L : Addr} (hL1 : L ∉ fp1) (hL2 : L ∉ fp2) {old : List Value} {n : Nat} (hz : old.length + us.length ≤ sizeLine) (hz2 : old.length < sizeLine) {res : Value} {R : Result → Shared → Prop}
    (it1 : ∀ k h, St1 k h → ∃ o, h.get? i1 = some o ∧ o.cls ≠ .type "tuple" ∧ o.cls ≠ .type "list") (it2 : ∀ k h, St2 k h → ∃ o, h.get? i2 = some o ∧ o.cls ≠ .type "tuple" ∧ o.cls ≠ .type "list") (h0 : Heap)
    (hR : ∀ s' ts n, Same s s' → (∀ c o, c ≠ L → h0.get? c = some o → s'.heap.get? c = some o) → s'.heap.get? L = some (lstO (old ++ ts) n) → TsAt s'.heap TO ts us ws → R (.ok (.ret res)) s')
    (hzip : IsZip s.heap z TI TO .none) (hTI : IsPair s.heap TI (.ref i1) (.ref i2)) (hTO : IsPair s.heap TO .none .none) (s1 : St1 0 s.heap) (s2 : St2 0 s.heap) (hL : s.heap.get? L = some (lstO old n))
    (hk : ∀ c o, c ≠ L → h0.get? c = some o → s.heap.get? c = some o ∧ c ≠ z ∧ c ≠ TO ∧ c ≠ i1 ∧ c ≠ i2) :
    wpAny (model prog w) A.in1 (Builtin.List.listExtendWith (.ref L) (.ref z) res)
      (fun fin s' => match fin with | .done f => R (.ok f) s' | .again c' => c'.quiet = true ∧ codeAny (model prog w) A c' R s') (fun e s' => R (.error e) s') s := by
  have hLz : L ≠ z := ne_of_cls hL hzip (by show ¬ (Value.type "list" = Value.type "zip"); decide)
  have hT : s.TypeIs (.ref z) "zip" := ⟨_, hzip, rfl⟩
  have Z : ZState s.heap z TI TO i1 i2 := ⟨⟨_, _, hzip, .inl rfl⟩, hTI, ⟨_, _, hTO⟩⟩
  unfold Builtin.List.listExtendWith
  refine wpAny_bind (wpAny_typeOf (T := "zip") hT ?_)
  have h1 : Builtin.List.listSameRef (.ref L) (.ref z) = false := by simp [Builtin.List.listSameRef, hLz]
  rw [if_neg (by rw [h1]; decide)]
  refine wpAny_bind (wpAny_pyIter_zip hzip ?_)
  refine wpAny_bind (wpAny_holding (zip_hint hT ?_))
  have key := zip_loop (s := s) (A := A) hh D1 D2 P hlen hL1 hL2 hz (res := res) it1 it2 h0 hR us.length 0
  refine wpAny_ite_split (fun _ => ?_) (fun _ => wpAny_pure ⟨plainId_quiet PySem.F.plain_extend_loop _, key s.heap s.toks [] n (by simp) Z s1 s2 (by simpa using hL) .nil hk⟩)
  refine wpAny_bind (wpAny_rule ?_)
  refine wpAny_bind ?_
  show wpAny _ _ (updateSeq L (·.push .none) >>= fun _ => updateSeq L (·.pop)) _ _ _
  refine wpAny_bind (wpAny_updateSeq hL rfl ?_ (by simp; exact om48 hz2) (by simp; exact om48 hz2))
  have hS₂ := IsL.update (l := L) (items := old.toArray) hL (fun y => y.push Value.none)
  refine wpAny_updateSeq (hz := by simp; exact om5 hz2) hS₂ rfl ?_ (by simp; exact om159 hz2)
  have hS₃ := IsL.update hS₂ (fun y => y.pop)
  rw [show (old.toArray.push Value.none).pop = old.toArray by simp] at hS₃
  have oth : ∀ b o, b ≠ L → s.heap.get? b = some o → ((s.heap.update L (Obj.mapSeq (fun y => y.push Value.none))).update L (Obj.mapSeq (fun y => y.pop))).get? b = some o := fun b o hb e =>
    (Heap.get?_update_other _ _ (Ne.symm hb)).trans ((Heap.get?_update_other _ _ (Ne.symm hb)).trans e)
  refine wpAny_pure ⟨plainId_quiet PySem.F.plain_extend_loop _, key _ s.toks [] _ (by simp) (Z.keep (fun b hb o e => oth b o ?_ e) fun b us' n' e => oth b _ ?_ e) ?_ ?_ (by rw [List.append_nil]; exact hS₃) .nil ?_⟩
  · rcases hb with rfl | rfl | rfl
    · exact Ne.symm hLz
    · exact ne_of_cls hTI hL (by show ¬ (Value.type "tuple" = Value.type "list"); decide)
    · exact ne_of_cls hTO hL (by show ¬ (Value.type "tuple" = Value.type "list"); decide)
  · exact ne_of_cls e hL (by show ¬ (Value.type "tuple" = Value.type "list"); decide)
  · exact D1.frame _ _ _ s1 fun b hb o e => oth b o (fun q => hL1 (q ▸ hb)) e
  · exact D2.frame _ _ _ s2 fun b hb o e => oth b o (fun q => hL2 (q ▸ hb)) e
  · intro c o hc e
    obtain ⟨g, g1⟩ := hk c o hc e
    exact ⟨oth c o hc g, g1⟩
end
end Mine.Internal
end

section
open PySem PySem.W PyProof.Rows PySem.Spec PySem.Calls PySem.Builtin.Str
namespace Mine.Internal

theorem meets_zip_newT (l1 l2 : Addr) (xs ys : Array Value) :
    Meets (Builtin.«zip.__new__» ⟨[.type "zip", .ref l1, .ref l2], []⟩) (fun _ R s => s.heap.IsTuple l1 xs ∧ s.heap.IsTuple l2 ys ∧
      R (.ok (.ret (.ref (s.heap.objs.size + 4)))) { s with heap := ((((s.heap.push { cls := .type "tuple_iterator", data := .fields #[.ref l1, .int 0 0] }).push { cls := .type "tuple_iterator", data := .fields #[.ref l2, .int 0 0] }).push { cls := .type "tuple", data := .seq #[.ref s.heap.objs.size, .ref (s.heap.objs.size + 1)] }).push { cls := .type "tuple", data := .seq #[.none, .none] }).push { cls := .type "zip", data := .fields #[.none, .bool false, .bool false, .ref (s.heap.objs.size + 2), .ref (s.heap.objs.size + 3)] } }) :=
  .of_wp fun prog w A R s h => by
    obtain ⟨hp, g, d, tk, os⟩ := s; obtain ⟨hl1, hl2, h⟩ := h
    have hsub := sub_zip
    have hL1 : Heap.IsTuple (Shared.heap ⟨hp, g, d, tk, os⟩) l1 xs := hl1
    have hL2 : Heap.IsTuple (Shared.heap ⟨hp.push { cls := .type "tuple_iterator", data := .fields #[.ref l1, .int 0 0] }, g, d, tk, os⟩) l2 ys := let ⟨o, ho, r⟩ := hl2; ⟨o, Heap.get?_push_of_some _ ho, r⟩
    wp_walk using wpAny_pyIter_tuple hL1, wpAny_pyIter_tuple hL2
    simp only [Heap.size_push] at h ⊢
    exact ⟨_, rfl, h⟩

section
variable {A : Around} {E : Value → Shared → Prop} {s : Shared} {B : Bs} {ads : List Addr} {S S' : St} {Q : Value → Shared → Prop} {u1 u2 : Value} {a b v : PV} {d : Nat} {prog : Program} {w : World}

noncomputable def ZipOf (prog : Program) (w : World) (h0 h : Heap) (z src1 src2 : Addr) (us ws : List Value) : Prop := ∃ TI TO i1 i2 St1 St2,
  (∀ A : Around, A.handled = none → Draws prog w A i1 [i1, src1] us.length (fun j v => us[j]? = some v) St1) ∧ (∀ A : Around, A.handled = none → Draws prog w A i2 [i2, src2] ws.length (fun j v => ws[j]? = some v) St2) ∧
  ZApart z TI TO i1 i2 [i1, src1] [i2, src2] ∧ IsZip h z TI TO .none ∧ IsPair h TI (.ref i1) (.ref i2) ∧ IsPair h TO .none .none ∧ St1 0 h ∧ St2 0 h ∧
  (∀ k h, St1 k h → ∃ o, h.get? i1 = some o ∧ o.cls ≠ .type "tuple" ∧ o.cls ≠ .type "list") ∧ (∀ k h, St2 k h → ∃ o, h.get? i2 = some o ∧ o.cls ≠ .type "tuple" ∧ o.cls ≠ .type "list") ∧
  (∀ c o, h0.get? c = some o → h.get? c = some o ∧ c ≠ z ∧ c ≠ TO ∧ c ≠ i1 ∧ c ≠ i2) ∧ i1 < h.objs.size ∧ i2 < h.objs.size ∧ z < h.objs.size ∧ TO < h.objs.size ∧ h0.objs.size ≤ TO

theorem zip_tuples {x y : Addr} {us ws : List Value} {n k : Nat} (hx : s.heap.get? x = some (tupO us n)) (hy : s.heap.get? y = some (tupO ws k))
    (h : ∀ h' z, ZipOf prog w s.heap h' z x y us ws → Q (.ref z) { s with heap := h' }) : wpAny (model prog w) A (call (.type "zip") [.ref x, .ref y]) Q E s := by
  refine callType_new PySem.F.called_zip (by decide) (PySem.F.typeCall_zip_2 _ _) (PySem.F.newCall_zip_2 _ _) (fun obj => PySem.F.args_object_init_3 obj _ _) PySem.F.entry_zip_new
    (meets_zip_newT x y us.toArray ws.toArray) ⟨isTuple_of hx, isTuple_of hy, ?_⟩
  have hxl := Heap.lt_size hx
  have hyl := Heap.lt_size hy
  generalize hh' : ((((s.heap.push { cls := .type "tuple_iterator", data := .fields #[.ref x, .int 0 0] }).push { cls := .type "tuple_iterator", data := .fields #[.ref y, .int 0 0] }).push { cls := .type "tuple", data := .seq #[.ref s.heap.objs.size, .ref (s.heap.objs.size + 1)] }).push { cls := .type "tuple", data := .seq #[.none, .none] }).push { cls := .type "zip", data := .fields #[.none, .bool false, .bool false, .ref (s.heap.objs.size + 2), .ref (s.heap.objs.size + 3)] } = h'
  have hk : ∀ c o, s.heap.get? c = some o → h'.get? c = some o := fun c o e => by
    rw [← hh']; exact Heap.get?_push_of_some _ (Heap.get?_push_of_some _ (Heap.get?_push_of_some _ (Heap.get?_push_of_some _ (Heap.get?_push_of_some _ e))))
  have gz : IsZip h' (s.heap.objs.size + 4) (s.heap.objs.size + 2) (s.heap.objs.size + 3) .none := by
    rw [← hh', show s.heap.objs.size + 4 = ((((s.heap.push { cls := .type "tuple_iterator", data := .fields #[.ref x, .int 0 0] }).push { cls := .type "tuple_iterator", data := .fields #[.ref y, .int 0 0] }).push { cls := .type "tuple", data := .seq #[.ref s.heap.objs.size, .ref (s.heap.objs.size + 1)] }).push { cls := .type "tuple", data := .seq #[.none, .none] }).objs.size by simp [Heap.size_push]]
    exact Heap.get?_push_size _ rfl
  have gTO : IsPair h' (s.heap.objs.size + 3) .none .none := by
    rw [← hh', show s.heap.objs.size + 3 = (((s.heap.push { cls := .type "tuple_iterator", data := .fields #[.ref x, .int 0 0] }).push { cls := .type "tuple_iterator", data := .fields #[.ref y, .int 0 0] }).push { cls := .type "tuple", data := .seq #[.ref s.heap.objs.size, .ref (s.heap.objs.size + 1)] }).objs.size by simp [Heap.size_push]]
    exact Heap.get?_push_of_some _ (Heap.get?_push_size _ rfl)
  have gTI : IsPair h' (s.heap.objs.size + 2) (.ref s.heap.objs.size) (.ref (s.heap.objs.size + 1)) := by
    rw [← hh', show s.heap.objs.size + 2 = ((s.heap.push { cls := .type "tuple_iterator", data := .fields #[.ref x, .int 0 0] }).push { cls := .type "tuple_iterator", data := .fields #[.ref y, .int 0 0] }).objs.size by simp [Heap.size_push]]
    exact Heap.get?_push_of_some _ (Heap.get?_push_of_some _ (by rw [show (s.heap.objs.size + 1) = (s.heap.push { cls := .type "tuple_iterator", data := .fields #[.ref x, .int 0 0] }).objs.size by simp [Heap.size_push]]; exact Heap.get?_push_size _ rfl))
  have g2 : h'.IsTupleIter (s.heap.objs.size + 1) y 0 := by
    refine ⟨{ cls := .type "tuple_iterator", data := .fields #[.ref y, .int 0 0] }, ?_, rfl, rfl⟩
    rw [← hh', show s.heap.objs.size + 1 = (s.heap.push { cls := .type "tuple_iterator", data := .fields #[.ref x, .int 0 0] }).objs.size by simp [Heap.size_push]]
    exact Heap.get?_push_of_some _ (Heap.get?_push_of_some _ (Heap.get?_push_of_some _ (Heap.get?_push_size _ rfl)))
  have g1 : h'.IsTupleIter s.heap.objs.size x 0 := by
    refine ⟨{ cls := .type "tuple_iterator", data := .fields #[.ref x, .int 0 0] }, ?_, rfl, rfl⟩
    rw [← hh']
    exact Heap.get?_push_of_some _ (Heap.get?_push_of_some _ (Heap.get?_push_of_some _ (Heap.get?_push_of_some _ (Heap.get?_push_size _ rfl))))
  have hsz : h'.objs.size = s.heap.objs.size + 5 := by rw [← hh']; simp [Heap.size_push]
  have tcls : ∀ {i src : Addr} (k : Nat) (h : Heap), h.IsTupleIter i src k → ∃ o, h.get? i = some o ∧ o.cls ≠ .type "tuple" ∧ o.cls ≠ .type "list" := fun k h ⟨o, e1, e2, _⟩ => ⟨o, e1, by rw [e2]; decide, by rw [e2]; decide⟩
  show _ ∧ _
  refine ⟨⟨_, gz, rfl⟩, h _ _ ⟨s.heap.objs.size + 2, s.heap.objs.size + 3, s.heap.objs.size, s.heap.objs.size + 1, (fun i h => h.IsTupleIter s.heap.objs.size x i ∧ h.IsTuple x us.toArray), (fun i h => h.IsTupleIter (s.heap.objs.size + 1) y i ∧ h.IsTuple y ws.toArray), ?_, ?_, ?_, gz, gTI, gTO, ⟨g1, isTuple_of (hk _ _ hx)⟩, ⟨g2, isTuple_of (hk _ _ hy)⟩, fun k h e => tcls k h e.1, fun k h e => tcls k h e.1, ?_, ?_⟩⟩
  · intro A hA
    have := Draws.tuple (prog := prog) (w := w) hA s.heap.objs.size x (Nat.ne_of_lt hxl) us.toArray
    simpa using this
  · intro A hA
    have := Draws.tuple (prog := prog) (w := w) hA (s.heap.objs.size + 1) y (Nat.ne_of_lt (Nat.lt_succ_of_lt hyl)) ws.toArray
    simpa using this
  · have q1 : ∀ j, s.heap.objs.size + j ≠ x := fun j e => absurd hxl (Nat.not_lt.mpr (e ▸ Nat.le_add_right _ _))
    have q2 : ∀ j, s.heap.objs.size + j ≠ y := fun j e => absurd hyl (Nat.not_lt.mpr (e ▸ Nat.le_add_right _ _))
    constructor <;> first | omega | simp [q1, q2] | (simp [q1, q2]; exact q1 0) | (simp [q1, q2]; exact q2 0)
    all_goals exact Nat.ne_of_gt hyl
  · intro c o e
    have hc := Heap.lt_size e
    have q1 : ∀ j, c ≠ s.heap.objs.size + j := fun j e => absurd hc (Nat.not_lt.mpr (e ▸ Nat.le_add_right _ _))
    exact ⟨hk c o e, q1 4, q1 3, q1 0, q1 1⟩
  · exact ⟨show (s.heap.objs.size : Nat) < h'.objs.size by exact om49 hsz, show (s.heap.objs.size + 1 : Nat) < h'.objs.size by exact om50 hsz, show (s.heap.objs.size + 4 : Nat) < h'.objs.size by exact om51 hsz, show (s.heap.objs.size + 3 : Nat) < h'.objs.size by exact om52 hsz, show (s.heap.objs.size : Nat) ≤ s.heap.objs.size + 3 by exact om53⟩

theorem zip_lists {x y : Addr} {us ws : List Value} {n k : Nat} (hx : s.heap.get? x = some (lstO us n)) (hy : s.heap.get? y = some (lstO ws k))
    (h : ∀ h' z, ZipOf prog w s.heap h' z x y us ws → Q (.ref z) { s with heap := h' }) : wpAny (model prog w) A (call (.type "zip") [.ref x, .ref y]) Q E s := by
  have hxl := Heap.lt_size hx
  have hyl := Heap.lt_size hy
  refine call_zip_2 (isList_of hx) (isList_of hy) fun h' gz gTI gTO g1 g2 hsz hk => ?_
  have tcls : ∀ {i src : Addr} (k : Nat) (h : Heap), h.IsListIter i src k → ∃ o, h.get? i = some o ∧ o.cls ≠ .type "tuple" ∧ o.cls ≠ .type "list" := fun k h ⟨o, e1, e2, _⟩ => ⟨o, e1, by rw [e2]; decide, by rw [e2]; decide⟩
  refine h _ _ ⟨s.heap.objs.size + 2, s.heap.objs.size + 3, s.heap.objs.size, s.heap.objs.size + 1, (fun i h => h.IsListIter s.heap.objs.size x i ∧ h.IsList x us.toArray), (fun i h => h.IsListIter (s.heap.objs.size + 1) y i ∧ h.IsList y ws.toArray), ?_, ?_, ?_, gz, gTI, gTO, ⟨g1, isList_of (hk _ _ hx)⟩, ⟨g2, isList_of (hk _ _ hy)⟩, fun k h e => tcls k h e.1, fun k h e => tcls k h e.1, ?_, ?_⟩
  · intro A hA
    have := Draws.list (prog := prog) (w := w) hA s.heap.objs.size x (Nat.ne_of_lt hxl) us.toArray
    simpa using this
  · intro A hA
    have := Draws.list (prog := prog) (w := w) hA (s.heap.objs.size + 1) y (Nat.ne_of_lt (Nat.lt_succ_of_lt hyl)) ws.toArray
    simpa using this
  · have q1 : ∀ j, s.heap.objs.size + j ≠ x := fun j e => absurd hxl (Nat.not_lt.mpr (e ▸ Nat.le_add_right _ _))
    have q2 : ∀ j, s.heap.objs.size + j ≠ y := fun j e => absurd hyl (Nat.not_lt.mpr (e ▸ Nat.le_add_right _ _))
    constructor <;> first | omega | simp [q1, q2] | (simp [q1, q2]; exact q1 0) | (simp [q1, q2]; exact q2 0)
    all_goals exact Nat.ne_of_gt hyl
  · intro c o e
    have hc := Heap.lt_size e
    have q1 : ∀ j, c ≠ s.heap.objs.size + j := fun j e => absurd hc (Nat.not_lt.mpr (e ▸ Nat.le_add_right _ _))
    exact ⟨hk c o e, q1 4, q1 3, q1 0, q1 1⟩
  · exact ⟨show (s.heap.objs.size : Nat) < h'.objs.size by exact om49 hsz, show (s.heap.objs.size + 1 : Nat) < h'.objs.size by exact om50 hsz, show (s.heap.objs.size + 4 : Nat) < h'.objs.size by exact om51 hsz, show (s.heap.objs.size + 3 : Nat) < h'.objs.size by exact om52 hsz, show (s.heap.objs.size : Nat) ≤ s.heap.objs.size + 3 by exact om53⟩

theorem TsAt.pairs {h : Heap} {TO : Addr} {ts us ws : List Value} {vs zs : List PV} (x : TsAt h TO ts us ws) : ∀ {vs zs : List PV}, VRs h ads us vs → VRs h ads ws zs → VRs h ads ts (List.zipWith (fun a b => .tup [a, b]) vs zs) := by
  induction x with
  | nil => intro vs zs h1 h2; cases h1; cases h2; exact .nil
  | @snoc T x y ts us ws hT hlt hg ih =>
    intro vs zs h1 h2
    have l1 := h1.length
    have l2 := h2.length
    have l3 := hT.length
    obtain ⟨vs, v, rfl⟩ : ∃ vs' v, vs = vs' ++ [v] := by
      rcases List.eq_nil_or_concat vs with rfl | ⟨l, b, rfl⟩
      · simp at l1
      · exact ⟨l, b, by simp⟩
    obtain ⟨zs, z, rfl⟩ : ∃ zs' z, zs = zs' ++ [z] := by
      rcases List.eq_nil_or_concat zs with rfl | ⟨l, b, rfl⟩
      · simp at l2
      · exact ⟨l, b, by simp⟩
    obtain ⟨us', u, e1, a1, a2⟩ := h1.splitLast
    obtain ⟨ws', u', e2, b1, b2⟩ := h2.splitLast
    obtain ⟨q1, q2⟩ := List.append_inj' e1 rfl
    obtain ⟨q3, q4⟩ := List.append_inj' e2 rfl
    subst q1 q3
    cases q2; cases q4
    have hl : vs.length = zs.length := by simp at l1 l2; exact om160 l3 l1 l2
    rw [List.zipWith_append hl]
    exact (ih a1 b1).append (.one (.tup hg (.cons a2 (.cons b2 .nil))))

/-- list(zip) -/
theorem list_zip (K : AOk d A) (R : SR B ads S s.heap) {s0 : Shared} (R0 : SR B ads S s0.heap) {z x y : Addr} {us ws : List Value} {vs zs : List PV} (hs : Same s0 s) (Z : ZipOf B.prog B.w s0.heap s.heap z x y us ws)
    (r1 : VRs s0.heap ads us vs) (r2 : VRs s0.heap ads ws zs) (hlen : vs.length = zs.length) (hl : vs.length ≤ lineLen) (hx : x < s0.heap.objs.size) (hy : y < s0.heap.objs.size)
    (h : Post B s0 ads (S ++ [.lst (List.zipWith (fun a b => .tup [a, b]) vs zs)]) (.ref S.length) Q) :
    wpAny (model B.prog B.w) A (call (.type "list") [.ref z]) Q E s := by
  obtain ⟨TO, TI, i1, i2, St1, St2, D1, D2, P, gz, gTI, gTO, s1, s2, it1, it2, hk, hl1, hl2, hlz, hlTO, hTO0⟩ := Z
  have l1 := r1.length
  have l2 := r2.length
  have hsz := lineLen_le
  have hld : lineLen = 100000 := rfl
  have hsl : sizeLine = 2 ^ 24 := sizeLine_eq
  refine callType_codes (Q₁ := fun obj s₁ => obj = .ref s.heap.objs.size ∧ s₁ = { s with heap := s.heap.push { cls := .type "list", data := .seq #[] } }) PySem.F.called_list (PySem.F.typeCall_list_1 _) PySem.F.entry_list_init
    (code_list_new _ ⟨rfl, rfl⟩) fun obj s₁ h₁ => ?_
  obtain ⟨rfl, rfl⟩ := h₁
  have hS : (s.heap.push { cls := .type "list", data := .seq #[] }).get? s.heap.objs.size = some { cls := .type "list", data := .seq #[] } := Heap.get?_push_size _ rfl
  refine ⟨⟨_, hS, rfl⟩, PySem.F.args_list_init_2 _ _, ?_⟩
  show wpAny _ _ (do let old ← Builtin.List.listItems (.ref s.heap.objs.size); Builtin.List.listUpdate (.ref s.heap.objs.size) (fun _ => #[]); letGo old.toList.reverse; Builtin.List.listExtendWith (.ref s.heap.objs.size) (.ref z) .none) _ _ _
  refine wpAny_bind ?_
  unfold Builtin.List.listItems
  refine wpAny_bind (wpAny_seqItems hS rfl (wpAny_pure ?_))
  show wpAny _ _ (updateSeq s.heap.objs.size (fun _ => #[]) >>= fun _ => letGo (#[] : Array Value).toList.reverse >>= fun _ => Builtin.List.listExtendWith (.ref s.heap.objs.size) (.ref z) .none) _ _ _
  refine wpAny_bind (wpAny_updateSeq hS rfl ?_)
  have hS₂ := IsL.update (l := s.heap.objs.size) (items := #[]) hS (fun _ => (#[] : Array Value))
  have oth : ∀ b o, s.heap.get? b = some o → ((s.heap.push { cls := .type "list", data := .seq #[] }).update s.heap.objs.size (Obj.mapSeq (fun _ => (#[] : Array Value)))).get? b = some o :=
    fun b o e => (Heap.get?_update_other _ _ (Nat.ne_of_gt (Heap.lt_size e))).trans (Heap.get?_push_of_some _ e)
  refine wpAny_bind (wpAny_letGo ?_)
  have nf : ∀ {c : Addr}, c < s.heap.objs.size → s.heap.objs.size ≠ c := fun h => Nat.ne_of_gt h
  have hx' : x < s.heap.objs.size := by
    obtain ⟨o, ho⟩ := R.live
    have : s0.heap.objs.size ≤ s.heap.objs.size := Nat.le_trans hTO0 (Nat.le_of_lt hlTO)
    exact Nat.lt_of_lt_of_le hx this
  have hy' : y < s.heap.objs.size := by
    have : s0.heap.objs.size ≤ s.heap.objs.size := Nat.le_trans hTO0 (Nat.le_of_lt hlTO)
    exact Nat.lt_of_lt_of_le hy this
  refine zip_extend (A := A.in1) (fp1 := [i1, x]) (fp2 := [i2, y]) (us := us) (ws := ws) K.handled (D1 _ K.handled) (D2 _ K.handled) P (by exact om54 hlen l1 l2) (L := s.heap.objs.size) ?_ ?_ (old := []) (by simp; exact om161 hl l1 hld hsl) (by simp; exact om162 hsl) it1 it2 s0.heap (fun s' ts n hs' hk' hL' hT => ?_)
    (oth _ _ gz) (oth _ _ gTI) (oth _ _ gTO) ((D1 _ K.handled).frame _ _ _ s1 fun b hb o e => oth b o e) ((D2 _ K.handled).frame _ _ _ s2 fun b hb o e => oth b o e) hS₂ (fun c o hc e => ?_)
  · simp [nf hl1, nf hx']
  · simp [nf hl2, nf hy']
  · have hk2 : ∀ b o, s0.heap.get? b = some o → s'.heap.get? b = some o := fun b o e => hk' b o (by
      have h1 := Heap.lt_size e
      have h2 : s0.heap.objs.size ≤ s.heap.objs.size := Nat.le_trans hTO0 (Nat.le_of_lt hlTO)
      exact Nat.ne_of_lt (Nat.lt_of_lt_of_le h1 h2)) e
    have tk : TupKeep s0.heap s'.heap := fun b us n e => hk2 b _ e
    refine ⟨rfl, ?_⟩
    rw [List.nil_append] at hL'
    refine post_listF (s := s0) (vs := List.zipWith (fun a b => .tup [a, b]) vs zs) R0 ⟨hs'.1.trans hs.1, hs'.2.trans hs.2⟩ hk2 (fun b o e => ?_) hL' (hT.pairs (vs := vs) (zs := zs) (r1.mono tk ⟨[], by simp⟩) (r2.mono tk ⟨[], by simp⟩)) h
    have h1 := Heap.lt_size e
    have h2 : s0.heap.objs.size ≤ s.heap.objs.size := Nat.le_trans hTO0 (Nat.le_of_lt hlTO)
    exact Nat.lt_of_lt_of_le h1 h2
  · obtain ⟨q1, q2⟩ := hk c o e
    exact ⟨oth _ _ q1, q2⟩

/-- list.extend of a zip -/
theorem extend_zip (K : AOk d A) {s0 : Shared} (R0 : SR B ads S s0.heap) {z x y L : Addr} {us ws old : List Value} {olds vs zs : List PV} {n k : Nat} (hs : Same s0 s) (Z : ZipOf B.prog B.w s0.heap s.heap z x y us ws)
    (haL : ads[k]? = some L) (hL : s0.heap.get? L = some (lstO old n)) (r0 : VRs s0.heap ads old olds) (r1 : VRs s0.heap ads us vs) (r2 : VRs s0.heap ads ws zs) (hlen : vs.length = zs.length) (hl : olds.length + vs.length ≤ lineLen) (hx : x ≠ L) (hy : y ≠ L)
    (h : Post B s0 ads (S.set k (.lst (olds ++ List.zipWith (fun a b => .tup [a, b]) vs zs))) .none Q) :
    wpAny (model B.prog B.w) A (call (.builtin "list.extend") [.ref L, .ref z]) Q E s := by
  obtain ⟨TO, TI, i1, i2, St1, St2, D1, D2, P, gz, gTI, gTO, s1, s2, it1, it2, hk, hl1, hl2, hlz, hlTO, hTO0⟩ := Z
  have l0 := r0.length
  have l1 := r1.length
  have l2 := r2.length
  have hsz := lineLen_le
  have hld : lineLen = 100000 := rfl
  have hsl : sizeLine = 2 ^ 24 := sizeLine_eq
  obtain ⟨gL, nz, nTO, ni1, ni2⟩ := hk _ _ hL
  refine wpAny_call (codeAny_call_builtin PySem.F.slot_list_extend.plain PySem.F.entry_list_extend (PySem.F.slot_list_extend.check _ _ _ _ _ _ _ _ ⟨_, gL, rfl⟩ (PySem.F.args_list_extend_2 _ _) ?_))
  show wpAny _ _ (Builtin.List.listExtendWith (.ref L) (.ref z) .none) _ _ s
  refine zip_extend (A := A) (R := wants Q E) (fp1 := [i1, x]) (fp2 := [i2, y]) (us := us) (ws := ws) K.handled (D1 _ K.handled) (D2 _ K.handled) P (by exact om54 hlen l1 l2) (L := L) ?_ ?_ (old := old) (by exact om163 hl l0 l1 hld hsl) (by exact om164 hl l0 hld hsl) it1 it2 s0.heap (fun s' ts n hs' hk' hL' hT => ?_)
    gz gTI gTO s1 s2 gL (fun c o hc e => hk c o e)
  · simp [ni1, hx.symm]
  · simp [ni2, hy.symm]
  · have tk : TupKeep s0.heap s'.heap := fun b us n e => hk' b _ (ne_of_cls e hL (by show ¬ (Value.type "tuple" = Value.type "list"); decide)) e
    refine h .none s' ads (Nx.set R0 ⟨hs'.1.trans hs.1, hs'.2.trans hs.2⟩ haL hk' ⟨_, _, hL', (r0.mono tk ⟨[], by simp⟩).append (hT.pairs (vs := vs) (zs := zs) (r1.mono tk ⟨[], by simp⟩) (r2.mono tk ⟨[], by simp⟩))⟩) .none
end
end Mine.Internal
end

section
open PySem PySem.W PyProof.Rows PySem.Spec PySem.Calls PySem.Builtin.Str
namespace Mine.Internal

theorem perm_map_inv {α β : Type} {f : α → β} {l l' : List β} (p : l'.Perm l) : ∀ {M : List α}, l = M.map f → ∃ M' : List α, M'.Perm M ∧ l' = M'.map f := by
  induction p with
  | nil => intro M e; exact ⟨M, .rfl, e⟩
  | cons x _ ih =>
    intro M e
    cases M with
    | nil => cases e
    | cons m M =>
      rw [List.map_cons] at e
      injection e with e1 e2
      obtain ⟨M', h1, h2⟩ := ih e2
      exact ⟨m :: M', .cons _ h1, by rw [List.map_cons, e1, h2]⟩
  | swap x y l =>
    intro M e
    match M, e with
    | [], e => cases e
    | [_], e => simp at e
    | m1 :: m2 :: M, e =>
      simp only [List.map_cons, List.cons.injEq] at e
      obtain ⟨e1, e2, e3⟩ := e
      exact ⟨m2 :: m1 :: M, .swap .., by simp [e1, e2, e3]⟩
  | trans _ _ ih1 ih2 =>
    intro M e
    obtain ⟨M1, h1, h2⟩ := ih2 e
    obtain ⟨M2, h3, h4⟩ := ih1 h2
    exact ⟨M2, h3.trans h1, h4⟩

noncomputable def byT (w : World) : Bool := w.params.followText "set-order"

theorem layNew_led (t : SetTable) (es : Array (Int × Value)) (h : Int) (x : Value) : (layNew t es h x).2.1.led = t.led := by
  unfold layNew
  split
  · simp only [SetTable.put, SetTable.orStandIn, SetTable.standIn]
    split <;> split <;> rfl
  · rfl
theorem relayAll_led (t : SetTable) (es : Array (Int × Value)) (wanted : Nat) : (relayAll t es wanted).2.1.led = t.led ∧ (t.plain = false → (relayAll t es wanted).2.1.plain = false) := by
  unfold relayAll
  split
  · rename_i t' order heq
    have : t'.led = t.led ∧ t'.plain = t.plain := by
      unfold SetTable.relaid SetTable.laid at heq
      simp only [Option.bind_eq_bind, Option.pure_def, Option.bind_eq_some_iff] at heq
      obtain ⟨ow, _, h2⟩ := heq
      cases h2
      exact ⟨rfl, rfl⟩
    dsimp only
    split
    · exact ⟨this.1, fun h => this.2.trans h⟩
    · exact ⟨rfl, fun _ => rfl⟩
  · exact ⟨rfl, fun _ => rfl⟩

noncomputable abbrev setO (es : Array (Int × Value)) (ep : Nat) (t : SetTable) : Obj := { cls := .type "set", dict := none, data := .set es ep t, slots := #[] }
noncomputable def ent (w : World) (p : Str × Tok) : Int × Value := (hashStr w p.1, .str p.1 p.2)
noncomputable def SO (w : World) (h : Heap) (a : Addr) (L : List Str) : Prop :=
  ∃ (es : Array (Int × Value)) (ep : Nat) (t : SetTable) (M : List (Str × Tok)), h.get? a = some (setO es ep t) ∧ es.toList = M.map (ent w) ∧ (M.map (·.1)).Perm L ∧ L.Nodup ∧ t.fits es.size = true ∧ t.led = !(byT w) ∧ (L ≠ [] → t.plain = false)

section
variable {A : Around} {E : Value → Shared → Prop} {s : Shared} {B : Bs} {ads : List Addr} {S S' : St} {u1 u2 : Value} {a b v : PV} {d : Nat} {prog : Program} {w : World}

theorem ent_elems (M : List (Str × Tok)) : ElemsOf (PySem.strKind prog w) (M.map (ent w)) := by
  intro e he
  obtain ⟨p, _, rfl⟩ := List.mem_map.mp he
  exact ⟨⟨p.1, strKind_is _ _ _ _, rfl⟩, rfl⟩

theorem setAdd_str {a : Addr} {L : List Str} {x : Str} {tk : Tok} {Q : Bool → Shared → Prop} (hS : SO w s.heap a L) (hroom : L.length + 1 < scanBound)
    (h : ∀ h' r, Heap.SameBut a s.heap h' → SO w h' a (if x ∈ L then L else L ++ [x]) → Q r { s with heap := h' }) :
    wpAny (model prog w) A (setAddHashed a (.str x tk) (hashStr w x)) Q E s := by
  obtain ⟨es, ep, t, M, ho, hes, hp, hn, hf, hled, hpl⟩ := hS
  have hel : ElemsOf (PySem.strKind prog w) es.toList := by rw [hes]; exact ent_elems M
  have hlen : es.size = L.length := by
    have := congrArg List.length hes
    simp at this
    rw [this, ← hp.length_eq]; simp
  have hb : es.size < scanBound := by exact om165 hroom hlen
  have hsc : (Value.str x tk).scannable = true := rfl
  have hkey : (PySem.strKind prog w).is x (.str x tk) = true := strKind_is _ _ _ _
  unfold setAddHashed setAddHashedIn
  refine wpAny_holding (wpAny_bind (wpAny_setState_of ho rfl hf ?_))
  dsimp only
  rw [byScan_of hsc hb hel]
  simp only [↓reduceIte]
  unfold setAddByScan
  refine wpAny_bind ?_
  refine wpAny_bind (wpAny_rule ?_)
  refine wpAny_bind (wpAny_setScan_of (knd := PySem.strKind prog w) hkey ho rfl hf hel ?_)
  have hmem : x ∈ L ↔ ∃ e ∈ es.toList, (PySem.strKind prog w).is x e.2 = true := by
    rw [hes, ← hp.mem_iff]
    constructor
    · intro hx
      obtain ⟨p, hp1, rfl⟩ := List.mem_map.mp hx
      exact ⟨ent w p, List.mem_map.mpr ⟨p, hp1, rfl⟩, strKind_is _ _ _ _⟩
    · rintro ⟨e, he, hk⟩
      obtain ⟨p, hp1, rfl⟩ := List.mem_map.mp he
      have : x = p.1 := by
        change Value.isStrOf x (Value.str p.1 p.2) = true at hk
        have q : p.1 = x := by simpa [Value.isStrOf] using hk
        exact q.symm
      exact List.mem_map.mpr ⟨p, hp1, this.symm⟩
  cases hr : List.findIdx? (fun e => (PySem.strKind prog w).is x e.2) es.toList with
  | some j =>
    dsimp only
    obtain ⟨hj, hpj, _⟩ := List.findIdx?_eq_some_iff_getElem.mp hr
    have hx : x ∈ L := hmem.mpr ⟨es.toList[j], List.getElem_mem hj, hpj⟩
    refine wpAny_pure (wpAny_pure ?_)
    exact h s.heap _ (Heap.SameBut.refl a s.heap) (by rw [if_pos hx]; exact ⟨es, ep, t, M, ho, hes, hp, hn, hf, hled, hpl⟩)
  | none =>
    dsimp only
    have hx : x ∉ L := by
      intro hx
      obtain ⟨e, he, hpe⟩ := hmem.mp hx
      have := List.findIdx?_eq_none_iff.mp hr e he
      rw [hpe] at this; exact Bool.noConfusion this
    have hgw : ∀ (b : Bool) {s₁ : Shared} {Q' : Unit → Shared → Prop}, Q' () s₁ → wpAny (model prog w) A (match b with | true => rule "set.scan.the-table-gave-way" | false => pure ()) Q' E s₁ :=
      fun b s₁ Q' hq => by cases b <;> first | exact wpAny_pure hq | exact wpAny_rule hq
    have hperm := layNew_perm t es (hashStr w x) (.str x tk)
    have hfits := layNew_fits t es (hashStr w x) (.str x tk)
    have hledn := layNew_led t es (hashStr w x) (.str x tk)
    change wpAny (model prog w) A (match layNew t es (hashStr w x) (.str x tk) with | (es, t, wasDummy, gave) => _) _ E s
    generalize hL : layNew t es (hashStr w x) (.str x tk) = LN at hperm hfits hledn ⊢
    obtain ⟨es1, t1, wasDummy, gave⟩ := LN
    dsimp only at hperm hfits hledn ⊢
    rw [Array.toList_push, hes] at hperm
    have hp1 : es1.toList.Perm ((M ++ [(x, tk)]).map (ent w)) := by rw [List.map_append]; exact hperm
    obtain ⟨M1, hM1, hes1⟩ : ∃ M1 : List (Str × Tok), M1.Perm (M ++ [(x, tk)]) ∧ es1.toList = M1.map (ent w) := perm_map_inv hp1 rfl
    have hsz1 : es1.size = L.length + 1 := by
      have := hp1.length_eq
      simp at this
      rw [this]
      have := congrArg List.length hes
      simp at this
      exact om166 hlen this
    refine wpAny_bind (hgw _ ?_)
    have fin : ∀ (es2 : Array (Int × Value)) (M2 : List (Str × Tok)) (t2 : SetTable) (ep2 : Nat) (h2 : Heap), es2.toList = M2.map (ent w) → M2.Perm (M ++ [(x, tk)]) → t2.fits es2.size = true → t2.led = (!byT w) → t2.plain = false → h2.get? a = some (setO es2 ep2 t2) → SO w h2 a (if x ∈ L then L else L ++ [x]) := by
      intro es2 M2 t2 ep2 h2 e1 e2 e3 e4 e5 e6
      rw [if_neg hx]
      refine ⟨es2, ep2, t2, M2, e6, e1, ?_, ?_, e3, e4, fun _ => e5⟩
      · have := e2.map (·.1)
        rw [List.map_append] at this
        exact this.trans (List.Perm.append_right _ hp)
      · refine List.nodup_append.mpr ⟨hn, by simp, ?_⟩
        intro y hy z hz
        rw [List.mem_singleton.mp hz]
        rintro rfl
        exact hx hy
    have tail : ∀ (t2 : SetTable) (R : Option Bool → Shared → Prop), t2.fits es1.size = true → t2.led = (!byT w) → t2.plain = false → (∀ h', Heap.SameBut a s.heap h' → SO w h' a (if x ∈ L then L else L ++ [x]) → R (some true) { s with heap := h' }) →
        wpAny (model prog w) A (do
          storeSet a es1 t2
          if (!wasDummy && t2.tooFull) = true then do
              (match (relayAll t2 es1 (SetTable.grown es1.size)).2.2 with | true => rule "set.scan.the-table-gave-way" | false => pure ())
              storeSet a (relayAll t2 es1 (SetTable.grown es1.size)).1 (relayAll t2 es1 (SetTable.grown es1.size)).2.1
              pure (some true)
            else pure (some true)) R E s := by
      intro t2 R hf2 hled2 hpl2 hR
      have hz1 : es1.size ≤ sizeLine := fits_of_scanBound (by rw [hsz1]; exact hroom)
      refine wpAny_bind (wpAny_storeSet_of ho rfl ?_ hz1)
      have ho1 : (s.heap.update a (Obj.putSet es1 t2)).get? a = some (setO es1 (ep + 1) t2) := by
        have := Heap.get?_update_self (Obj.putSet es1 t2) ho (by rw [putSet_of es1 t2 rfl]; rfl)
        rw [putSet_of es1 t2 rfl] at this; exact this
      have hsb1 := Heap.SameBut.update s.heap a (Obj.putSet es1 t2)
      split
      · have hp2 := relayAll_perm t2 es1 (SetTable.grown es1.size)
        have hfr := relayAll_fits t2 es1 (SetTable.grown es1.size)
        have hlr := relayAll_led t2 es1 (SetTable.grown es1.size)
        generalize hRl : relayAll t2 es1 (SetTable.grown es1.size) = Rl at hp2 hfr hlr ⊢
        obtain ⟨es2, t3, gave2⟩ := Rl
        dsimp only at hp2 hfr hlr ⊢
        obtain ⟨M2, hM2, hes2⟩ : ∃ M2 : List (Str × Tok), M2.Perm M1 ∧ es2.toList = M2.map (ent w) := perm_map_inv hp2 hes1
        have hsz : es2.size = es1.size := by rw [← Array.length_toList, hp2.length_eq, Array.length_toList]
        refine wpAny_bind (hgw _ ?_)
        refine wpAny_bind (wpAny_storeSet_of ho1 rfl ?_ (by rw [hsz]; exact hz1))
        have ho2 : ((s.heap.update a (Obj.putSet es1 t2)).update a (Obj.putSet es2 t3)).get? a = some (setO es2 (ep + 1 + 1) t3) := by
          have := Heap.get?_update_self (Obj.putSet es2 t3) ho1 (by rw [putSet_of es2 t3 rfl]; rfl)
          rw [putSet_of es2 t3 rfl] at this; exact this
        exact wpAny_pure (hR _ (hsb1.trans (Heap.SameBut.update _ a _)) (fin es2 M2 t3 _ _ hes2 (hM2.trans hM1) hfr (hlr.1.trans hled2) (hlr.2 hpl2) ho2))
      · exact wpAny_pure (hR _ hsb1 (fin es1 M1 t2 _ _ hes1 hM1 hf2 hled2 hpl2 ho1))
    split
    · rename_i hpt
      refine wpAny_bind ?_
      rw [hashByValue_scannable 8 hsc]
      refine wpAny_pure ?_
      have q : plainKind (.str x tk) = false := rfl
      rw [q]
      simp only [Bool.false_eq_true, ↓reduceIte]
      exact tail _ _ (SetTable.fits_plain_off hfits) (hledn.trans hled) rfl fun h' hsb hS' => by dsimp only; exact wpAny_pure (h h' _ hsb hS')
    · rename_i hpt
      refine wpAny_bind (wpAny_pure ?_)
      simp only [↓reduceIte]
      exact tail t1 _ hfits (hledn.trans hled) (by simpa using hpt) fun h' hsb hS' => by dsimp only; exact wpAny_pure (h h' _ hsb hS')

theorem SO.at {w : World} {h h' : Heap} {a : Addr} {L : List Str} (x : SO w h a L) (e : ∀ o, h.get? a = some o → h'.get? a = some o) : SO w h' a L := by
  obtain ⟨es, ep, t, M, ho, r⟩ := x
  exact ⟨es, ep, t, M, e _ ho, r⟩

/-- the strs met, each once -/
noncomputable def met : List Str → List Str → List Str
  | L, [] => L
  | L, x :: r => met (if x ∈ L then L else L ++ [x]) r
theorem met_len : ∀ (r L : List Str), (met L r).length ≤ L.length + r.length
  | [], L => by simp [met]
  | x :: r, L => by
    unfold met
    have := met_len r (if x ∈ L then L else L ++ [x])
    split at this <;> simp at this ⊢ <;> split <;> simp_all <;> (first | exact om167 this | exact om168 this)
theorem met_spec : ∀ (r L : List Str), L.Nodup → (met L r).Nodup ∧ ∀ y, y ∈ met L r ↔ y ∈ L ∨ y ∈ r
  | [], L, h => ⟨h, by simp [met]⟩
  | x :: r, L, h => by
    unfold met
    by_cases hx : x ∈ L
    · rw [if_pos hx]
      obtain ⟨h1, h2⟩ := met_spec r L h
      refine ⟨h1, fun y => ?_⟩
      rw [h2]
      constructor
      · rintro (q | q)
        · exact .inl q
        · exact .inr (.tail _ q)
      · rintro (q | q)
        · exact .inl q
        · rcases List.mem_cons.mp q with rfl | q
          · exact .inl hx
          · exact .inr q
    · rw [if_neg hx]
      have hn : (L ++ [x]).Nodup := List.nodup_append.mpr ⟨h, by simp, by
        intro y hy z hz
        rw [List.mem_singleton.mp hz]
        rintro rfl
        exact hx hy⟩
      obtain ⟨h1, h2⟩ := met_spec r (L ++ [x]) hn
      refine ⟨h1, fun y => ?_⟩
      rw [h2, List.mem_append, List.mem_singleton, List.mem_cons]
      constructor
      · rintro ((q | q) | q)
        · exact .inl q
        · exact .inr (.inl q)
        · exact .inr (.inr q)
      · rintro (q | q | q)
        · exact .inl (.inl q)
        · exact .inl (.inr q)
        · exact .inr q

theorem set_loop (hh : A.handled = none) {I l D : Addr} {us0 : List Value} {n0 : Nat} {R : Result → Shared → Prop} (hIl : I ≠ l) (hID : I ≠ D) (hlD : l ≠ D) :
    ∀ (us : List Value) (ss L : List Str) (done : List Value) (s : Shared), us0 = done ++ us → StrsAre us ss → s.heap.get? l = some (lstO us0 n0) → s.heap.IsListIter I l done.length → SO w s.heap D L →
    L.length + ss.length + 1 < scanBound →
    (∀ h' tk, (∀ b o, b ≠ I → b ≠ D → s.heap.get? b = some o → h'.get? b = some o) → SO w h' D (met L ss) → R (.ok (.ret .none)) { s with heap := h', toks := tk }) →
    codeAny (model prog w) A (.builtin "set.update.loop" ⟨[.ref D, .ref I], []⟩) R s := by
  intro us
  induction us with
  | nil =>
    intro ss L done s hu hp hl hi hD hsz hR
    cases hp
    have e : us0 = done := by simpa using hu
    refine codeAny_builtin PyProof.Rows.F.entry_set_update_loop ?_
    rw [Around.under_plainId PyProof.Rows.F.plain_set_update_loop _]
    show wpAny _ A.in1 (pyNext (.ref I) >>= _) _ _ s
    refine wpAny_bind (wpAny_pyNext_list_end (A := A.in1) hh hi (isList_of hl) (by rw [e]; simp) fun h' hb => ?_)
    exact wpAny_pure (hR h' s.toks (fun b o hb1 _ e => hb b o hb1 e) (hD.at fun o e => hb _ _ (Ne.symm hID) e))
  | cons u us ih =>
    intro ss L done s hu hp hl hi hD hsz hR
    cases hp with
    | @cons x t _ ss hp =>
    have hx : us0.toArray[done.length]? = some (.str x t) := by rw [hu]; simp
    refine codeAny_builtin PyProof.Rows.F.entry_set_update_loop ?_
    rw [Around.under_plainId PyProof.Rows.F.plain_set_update_loop _]
    show wpAny _ A.in1 (pyNext (.ref I) >>= _) _ _ s
    refine wpAny_bind (wpAny_pyNext_list_item (A := A.in1) hi (isList_of hl) hx fun h1 hi1 hs1 => ?_)
    have hD1 : SO w h1 D L := hD.at fun o e => (hs1.2 D (Ne.symm hID)).trans e
    show wpAny _ A.in1 (holding [Value.str x t] (setAdd D (.str x t)) >>= _) _ _ _
    refine wpAny_bind (wpAny_holding ?_)
    unfold setAdd
    refine wpAny_holding ?_
    refine wpAny_bind (wpAny_pyHash_str ?_)
    simp at hsz
    refine setAdd_str (s := { s with heap := h1, toks := s.toks + 1 }) hD1 (by exact om169 hsz) fun h2 r hs2 hD2 => ?_
    refine wpAny_pure ⟨plainId_quiet PyProof.Rows.F.plain_set_update_loop _, ?_⟩
    refine ih ss _ (done ++ [.str x t]) { s with heap := h2, toks := s.toks + 1 } (by rw [hu]; simp) hp ?_ ?_ hD2 ?_ ?_
    · exact (hs2.2 l hlD).trans ((hs1.2 l (Ne.symm hIl)).trans hl)
    · obtain ⟨o, ho, r⟩ := hi1
      refine ⟨o, (hs2.2 I hID).trans ho, ?_⟩
      simpa using r
    · split
      · exact om170 hsz
      · simp; exact om171 hsz
    · intro h' tk' hk hd
      exact hR h' tk' (fun b o hb1 hb2 e => hk b o hb1 hb2 ((hs2.2 b hb2).trans ((hs1.2 b hb1).trans e))) hd

theorem code_set_new_w (a : Value) {Q₁ : Value → Shared → Prop}
    (h : Q₁ (.ref s.heap.objs.size) { s with heap := s.heap.push (setO #[] 0 (.fresh 0 0 (!(byT w)))) }) :
    codeAny (model prog w) A (.call (.builtin "set.__new__") ⟨[.type "set", a], []⟩) (wants Q₁ E) s := by
  refine codeAny_of_tree ?_
  show wpAny _ A.in1 (do checkBuiltinCall "set.__new__" ⟨[.type "set", a], []⟩; again (.builtin "set.__new__" ⟨[.type "set", a], []⟩)) _ _ s
  refine wpAny_bind (wpAny_of_eq (PySem.F.newCall_set_1 a) (wpAny_pure ⟨plainId_quiet PySem.F.plain_set_new _, codeAny_builtin PySem.F.entry_set_new ?_⟩))
  rw [Around.under_plainId PySem.F.plain_set_new _]
  unfold Builtin.«set.__new__» Builtin.Frozenset.newClass
  have hsub := sub_set_self
  obtain ⟨hp, g, d, tk, os⟩ := s
  dsimp only
  wp_walk
  refine wpAny_askSetting (wpAny_pure ?_)
  dsimp only
  simp only [newObj]
  refine wpAny_bind (wpAny_alloc (wpAny_pure ?_))
  exact wpAny_pure h

set_option maxHeartbeats 3200000 in
theorem call_set_strs {Q : Value → Shared → Prop} {l : Addr} {us : List Value} {n : Nat} {ss : List Str} (hh : A.handled = none) (hl : s.heap.get? l = some (lstO us n)) (hi : StrsAre us ss) (hb : ss.length + 1 < scanBound)
    (h : ∀ (h' : Heap) (tk : Nat), SO w h' s.heap.objs.size (met [] ss) → (∀ b o, s.heap.get? b = some o → h'.get? b = some o) → Q (.ref s.heap.objs.size) { s with heap := h', toks := tk }) :
    wpAny (model prog w) A (call (.type "set") [.ref l]) Q E s := by
  obtain ⟨c, tl, hmro⟩ := PySem.F.called_set.mro
  have hmade := PySem.F.called_set.made
  have hsub := PySem.F.called_set.sub
  refine wpAny_call (codeAny_of_tree ?_)
  show wpAny _ _ (callAny (.type "set") _) _ _ _
  refine wpAny_pure ⟨Code.quiet_builtin _ (by decide +kernel), codeAny_builtin PySem.F.entry_type_call ?_⟩
  rw [Around.under_plain (weight_type_call_type "set" [.ref l] []) rfl]
  have h1 := PySem.F.called_set.notType
  have h2 := PySem.F.called_set.canCreate
  have hct := PySem.F.typeCall_set_1 (.ref l)
  repeat (any_goals (first | assumption | wp_step))
  refine codeAny_mono (code_set_new_w (.ref l) (E := E) (Q₁ := fun obj s₁ => obj = .ref s.heap.objs.size ∧ s₁ = { s with heap := s.heap.push (setO #[] 0 (.fresh 0 0 (!(byT w)))) }) ⟨rfl, rfl⟩) fun r s₁ hr => ?_
  cases r with
  | error e => exact hr
  | ok fl =>
    cases fl with
    | ret obj =>
      obtain ⟨rfl, rfl⟩ := hr
      have hS : (s.heap.push (setO #[] 0 (.fresh 0 0 (!(byT w))))).get? s.heap.objs.size = some (setO #[] 0 (.fresh 0 0 (!(byT w)))) := Heap.get?_push_size _ rfl
      have hT : Shared.TypeIs { s with heap := s.heap.push (setO #[] 0 (.fresh 0 0 (!(byT w)))) } (.ref s.heap.objs.size) "set" := ⟨_, hS, rfl⟩
      have hli := PySem.F.called_set.init.lookup
      have hbi := PySem.F.called_set.init.bind (.ref s.heap.objs.size)
      repeat (any_goals (first | assumption | wp_step))
      refine codeAny_mono (codeAny_call_builtin (R := wants (fun r s₂ => r = .none ∧ ∃ h' tk, s₂ = { s with heap := h', toks := tk } ∧ SO w h' s.heap.objs.size (met [] ss) ∧
          (∀ b o, s.heap.get? b = some o → h'.get? b = some o)) E) PySem.F.called_set.init.plain PySem.F.entry_set_init (check_set_init_1 hT ?_)) fun r₂ s₂ hr₂ => ?_
      · have hol' : (s.heap.push (setO #[] 0 (.fresh 0 0 (!(byT w))))).get? l = some (lstO us n) := Heap.get?_push_of_some _ hl
        have hsls := PySem.F.sub_list_set
        have hslf := PySem.F.sub_list_frozenset
        have hne : (Value.type "list" == Value.type "dict") = false := by decide
        have hl1 : (s.heap.push (setO #[] 0 (.fresh 0 0 (!(byT w))))).IsList l us.toArray := isList_of hol'
        unfold Builtin.«set.__init__» noKeywords Builtin.Frozenset.updateFrom
        generalize hPI : pyIter = PI
        wp_walk
        subst hPI
        refine wpAny_pyIter_list hl1 ?_
        refine wpAny_bind (wpAny_runValue ?_)
        have hlS : l < s.heap.objs.size := Heap.lt_size hl
        have hh3 : A.in1.in1.handled = none := by simp [hh]
        have hsz : (s.heap.push (setO #[] 0 (.fresh 0 0 (!(byT w))))).objs.size = s.heap.objs.size + 1 := Heap.size_push ..
        refine set_loop (w := w) (I := (s.heap.push (setO #[] 0 (.fresh 0 0 (!(byT w))))).objs.size) (l := l) (D := s.heap.objs.size) (us0 := us) (n0 := n) hh3 (by rw [hsz]; exact Nat.ne_of_gt (Nat.lt_succ_of_lt hlS)) (by rw [hsz]; exact Nat.succ_ne_self _) (Nat.ne_of_lt hlS)
          us ss [] [] _ rfl hi ?_ ?_ ?_ (by simpa using hb) ?_
        · exact Heap.get?_push_of_some _ hol'
        · exact ⟨_, Heap.get?_push_size _ rfl, rfl, rfl⟩
        · exact ⟨#[], 0, _, [], Heap.get?_push_of_some _ hS, rfl, .rfl, List.nodup_nil, rfl, rfl, fun q => absurd rfl q⟩
        · intro h' tk' hk hD
          refine wpAny_pure ?_
          show wpAny _ _ (ret Value.none) _ _ _
          refine wpAny_pure ⟨rfl, h', tk', rfl, hD, fun b o e => ?_⟩
          have hb := Heap.lt_size e
          exact hk b o (by rw [hsz]; exact Nat.ne_of_lt (Nat.lt_succ_of_lt hb)) (Nat.ne_of_lt hb) (Heap.get?_push_of_some _ (Heap.get?_push_of_some _ e))
      · cases r₂ with
        | error e => exact hr₂
        | ok fl₂ =>
          cases fl₂ with
          | ret r =>
            obtain ⟨rfl, h', tk, rfl, hS', hk'⟩ := hr₂
            repeat (any_goals (first | assumption | wp_step))
            exact h _ _ hS' hk'
          | _ => exact hr₂.elim
    | _ => exact hr.elim
end
end Mine.Internal
end

section
open PySem PySem.W PyProof.Rows PySem.Spec PySem.Calls PySem.Builtin.Str
namespace Mine.Internal

theorem slot_seti_next : Slot "set_iterator" "__next__" "set_iterator.__next__" :=
  .of (owner := "set_iterator") (n := "__next__") (by rw [typeLookup_type, builtinLookup_eq_fast]; kernel_rfl) (by decide +kernel) (by decide +kernel) (by decide +kernel)
    (by first | exact .inl (by decide +kernel) | exact .inr (by decide +kernel)) (by rw [isSubtype_type]; kernel_rfl)
theorem slot_seti_iter : Slot "set_iterator" "__iter__" "set_iterator.__iter__" :=
  .of (owner := "set_iterator") (n := "__iter__") (by rw [typeLookup_type, builtinLookup_eq_fast]; kernel_rfl) (by decide +kernel) (by decide +kernel) (by decide +kernel)
    (by first | exact .inl (by decide +kernel) | exact .inr (by decide +kernel)) (by rw [isSubtype_type]; kernel_rfl)
theorem entry_seti_next : entryFor table "set_iterator.__next__" = some Builtin.«set_iterator.__next__» := entryFor_of_tree (by kernel_rfl)
theorem owner_seti : Manifest.owners.lookup (String.ofList ['r', 'o', 't', 'a', 'r', 'e', 't', 'i', '_', 't', 'e', 's'].reverse) = some Manifest.sig_set_iterator := by kernel_rfl
theorem args_seti_next (a : Value) : argsOk "set_iterator.__next__" ⟨[a], []⟩ := by
  unfold argsOk; rw [signature?_of (id := "set_iterator.__next__") (n := ['_', '_', 't', 'x', 'e', 'n', '_', '_']) (o := ['r', 'o', 't', 'a', 'r', 'e', 't', 'i', '_', 't', 'e', 's']) (by kernel_rfl) owner_seti]; kernel_rfl
theorem entry_seti_iter : entryFor table "set_iterator.__iter__" = some Builtin.«dict_keyiterator.__iter__» :=
  entryFor_alias (id' := "dict_keyiterator.__iter__") (by kernel_rfl) (by first | rfl | decide +kernel | (unfold String.splitOn; simp +decide [String.splitOnAux])) (by decide +kernel) (by kernel_rfl)
theorem args_seti_iter (a : Value) : argsOk "set_iterator.__iter__" ⟨[a], []⟩ := by
  unfold argsOk; rw [signature?_of (id := "set_iterator.__iter__") (n := ['_', '_', 'r', 'e', 't', 'i', '_', '_']) (o := ['r', 'o', 't', 'a', 'r', 'e', 't', 'i', '_', 't', 'e', 's']) (by kernel_rfl) owner_seti]; kernel_rfl
theorem entry_set_iter : entryFor table "set.__iter__" = some Builtin.«frozenset.__iter__» :=
  entryFor_alias (id' := "frozenset.__iter__") (by kernel_rfl) (by first | rfl | decide +kernel | (unfold String.splitOn; simp +decide [String.splitOnAux])) (by decide +kernel) (by kernel_rfl)

theorem getElem_erase_perm {α : Type} : ∀ (l : List α) (i : Nat) (h : i < l.length), (l[i] :: l.eraseIdx i).Perm l
  | [], i, h => by simp at h
  | x :: r, 0, h => .rfl
  | x :: r, i + 1, h => by
    have ih := getElem_erase_perm r i (by simpa using h)
    simp only [List.getElem_cons_succ, List.eraseIdx_cons_succ]
    exact (List.Perm.swap ..).trans (.cons _ ih)
theorem pickOrder_go {α : Type} (next : Nat → Nat) : ∀ (fuel k : Nat) (left : List α) (out : Array α), left.length = fuel → (pickOrder.go next fuel k left out).toList.Perm (out.toList ++ left)
  | 0, k, left, out, h => by
    have : left = [] := by simpa using h
    subst this
    simp [pickOrder.go]
  | fuel + 1, k, left, out, h => by
    have hlt : next k % left.length < left.length := Nat.mod_lt _ (by exact om172 h)
    unfold pickOrder.go
    rw [List.getElem?_eq_getElem hlt]
    simp only []
    refine (pickOrder_go next fuel (k + 1) _ _ (by rw [List.length_eraseIdx_of_lt hlt]; exact om55 h)).trans ?_
    rw [Array.toList_push, List.append_assoc]
    refine List.Perm.append_left _ ?_
    exact getElem_erase_perm left _ hlt
theorem pickOrder_perm {α : Type} (next : Nat → Nat) (xs : Array α) : (pickOrder next xs).toList.Perm xs.toList := by
  unfold pickOrder
  have := pickOrder_go next xs.size 0 xs.toList #[] (by simp)
  simpa using this

section
variable {A : Around} {E : Value → Shared → Prop} {s : Shared} {B : Bs} {ads : List Addr} {S S' : St} {u1 u2 : Value} {a b v : PV} {d : Nat} {prog : Program} {w : World}

theorem wpAny_choose {M : Model} {src : Source} {n : Nat} {Q : Nat → Shared → Prop} (hn : n ≠ 0) (h : ∀ i dr, i < n → Q i { s with drawn := dr }) : wpAny M A (choose src n) Q E s := fun Γ p hΓ => by
  unfold choose
  rw [Sem.wp_choose]
  exact ⟨hn, h _ _ (Nat.mod_lt _ (Nat.pos_of_ne_zero hn))⟩

theorem drawOrder_perm {M : Model} {α : Type} : ∀ (n : Nat) (xs : List α) (s : Shared) (Q : List α → Shared → Prop), xs.length = n → (∀ ys dr, ys.Perm xs → Q ys { s with drawn := dr }) → wpAny M A (drawOrder n xs) Q E s
  | 0, xs, s, Q, hl, h => by
    have : xs = [] := by simpa using hl
    subst this
    unfold drawOrder
    exact wpAny_pure (h [] s.drawn .rfl)
  | n + 1, xs, s, Q, hl, h => by
    cases xs with
    | nil => simp at hl
    | cons x xs =>
      unfold drawOrder
      refine wpAny_bind (wpAny_choose (by simp) fun i dr hi => ?_)
      rw [List.getElem?_eq_getElem hi]
      refine wpAny_bind (drawOrder_perm n _ _ _ (by rw [List.length_eraseIdx_of_lt hi]; exact om55 hl) fun ys dr' hp => wpAny_pure ?_)
      refine h _ dr' ?_
      exact (List.Perm.cons _ hp).trans (getElem_erase_perm _ _ hi)

noncomputable def SI (w : World) (a I F : Addr) (ord : List Value) (k : Nat) (h : Heap) : Prop :=
  ∃ (es : Array (Int × Value)) (ep : Nat) (t : SetTable) (first : Value), h.get? a = some (setO es ep t) ∧ t.fits es.size = true ∧
    h.get? I = some { cls := .type "set_iterator", dict := none, data := .fields #[first, rawInt k, .ref a, rawInt es.size, rawInt ep], slots := #[] } ∧ ord.length = es.size ∧
    ((byT w = true ∧ first = rawInt 0 ∧ ord = (pickOrder (w.params.setOrder a ep) es).toList.map (·.2)) ∨
     (byT w = false ∧ (t.plain = true ∨ es.size ≤ 1) ∧ t.led = true ∧ ord = es.toList.map (·.2) ∧ ∃ sl : Nat, first = rawInt sl ∧ SetTable.below t.place sl = k ∧ es.size ≤ 1) ∨
     (byT w = false ∧ ∃ (places : List Nat) (n : Nat), first = .ref F ∧ h.get? F = some (tupO (places.map fun (i : Nat) => rawInt i) n) ∧ places.length = es.size ∧
        ∀ (j p : Nat), places[j]? = some p → ∃ e, es[p]? = some e ∧ ord[j]? = some e.2))

theorem wpAny_setsByText {M : Model} {Q : Bool → Shared → Prop} (h : Q (M.w.params.followText "set-order") s) : wpAny M A setsByText Q E s := by
  unfold setsByText
  exact wpAny_bind (wpAny_askSetting (wpAny_pure h))

theorem si_item {I F : Addr} {a : Addr} {ord : List Value} {k : Nat} {x : Value} {Q : Value → Shared → Prop} (hS : SI w a I F ord k s.heap) (hIa : I ≠ a) (hIF : I ≠ F) (hk : k < ord.length) (hx : ord[k]? = some x)
    (hQ : ∀ h', SI w a I F ord (k + 1) h' → Heap.SameBut I s.heap h' → Q x { s with heap := h' }) :
    wpAny (model prog w) A (Builtin.«set_iterator.__next__» ⟨[.ref I], []⟩) (fun fin s' => ∃ v, fin = .done (.ret v) ∧ Q v s') E s := by
  obtain ⟨es, ep, t, first, ha, hf, hI, hl, hm⟩ := hS
  unfold Builtin.«set_iterator.__next__»
  refine wpAny_bind (wpAny_pure ?_)
  refine wpAny_bind (wpAny_fieldsOf hI rfl ?_)
  show wpAny _ _ _ _ _ s
  simp only [rawInt]
  unfold setEntries
  refine wpAny_bind (wpAny_bind (wpAny_setState_of ha rfl hf (wpAny_pure ?_)))
  simp only [bne_self_eq_false, Bool.false_eq_true, if_false]
  have fin : ∀ (first' : Value) (h' : Heap), h'.get? I = some { cls := .type "set_iterator", dict := none, data := .fields #[first', rawInt (k + 1 : Nat), .ref a, rawInt es.size, rawInt ep], slots := #[] } → Heap.SameBut I s.heap h' →
      ((byT w = true ∧ first' = rawInt 0 ∧ ord = (pickOrder (w.params.setOrder a ep) es).toList.map (·.2)) ∨
       (byT w = false ∧ (t.plain = true ∨ es.size ≤ 1) ∧ t.led = true ∧ ord = es.toList.map (·.2) ∧ ∃ sl : Nat, first' = rawInt sl ∧ SetTable.below t.place sl = k + 1 ∧ es.size ≤ 1) ∨
       (byT w = false ∧ ∃ (places : List Nat) (n : Nat), first' = .ref F ∧ s.heap.get? F = some (tupO (places.map fun (i : Nat) => rawInt i) n) ∧ places.length = es.size ∧
          ∀ (j p : Nat), places[j]? = some p → ∃ e, es[p]? = some e ∧ ord[j]? = some e.2)) → Q x { s with heap := h' } := by
    intro first' h' hI' hs' hm'
    refine hQ h' ⟨es, ep, t, first', (hs'.2 a (Ne.symm hIa)).trans ha, hf, hI', hl, ?_⟩ hs'
    rcases hm' with q | q | ⟨q, places, n, q1, q2, q3⟩
    · exact .inl q
    · exact .inr (.inl q)
    · exact .inr (.inr ⟨q, places, n, q1, (hs'.2 F (Ne.symm hIF)).trans q2, q3⟩)
  rcases hm with ⟨hb, rfl, ho⟩ | ⟨hb, hpl, hled, ho, sl, rfl, hbl, h1⟩ | ⟨hb, places, n, rfl, hF, hpn, hpo⟩
  · show wpAny _ _ (setNext a (Int.toNat 0) (Int.toNat (k : Nat)) (Int.toNat (ep : Nat)) >>= _) _ _ s
    unfold setNext
    refine wpAny_bind (wpAny_bind (wpAny_setState_of ha rfl hf ?_))
    refine wpAny_bind (wpAny_setsByText ?_)
    have hb' : (model prog w).w.params.followText "set-order" = true := hb
    rw [hb']
    simp only [if_true, Int.toNat_natCast, bne_self_eq_false, Bool.false_eq_true, if_false]
    unfold setWalk
    refine wpAny_bind (wpAny_bind (wpAny_setState_of ha rfl hf ?_))
    refine wpAny_bind (wpAny_setsByText ?_)
    rw [hb']
    simp only [if_true]
    refine wpAny_bind (wpAny_askSetting (wpAny_pure ?_))
    refine wpAny_pure ?_
    have hx2 : ∃ e, (pickOrder ((model prog w).w.params.setOrder a ep) es)[k]? = some e ∧ e.2 = x := by
      rw [ho, List.getElem?_map] at hx
      obtain ⟨e, h1, h2⟩ := Option.map_eq_some_iff.mp hx
      exact ⟨e, by rw [← Array.getElem?_toList]; exact h1, h2⟩
    obtain ⟨e, he, hex⟩ := hx2
    rw [he]
    simp only [Option.map_some]
    refine wpAny_bind (wpAny_setField_rec hI (by simp) fun h₁ hI₁ hs₁ => ?_)
    refine wpAny_bind (wpAny_setField_rec hI₁ (by simp) fun h₂ hI₂ hs₂ => ?_)
    rw [hex]
    exact wpAny_pure ⟨_, rfl, fin (rawInt 0) h₂ (by simpa [rawInt] using hI₂) (hs₁.trans hs₂) (.inl ⟨hb, rfl, ho⟩)⟩
  · show wpAny _ _ (setNext a (Int.toNat (sl : Nat)) (Int.toNat (k : Nat)) (Int.toNat (ep : Nat)) >>= _) _ _ s
    unfold setNext
    refine wpAny_bind (wpAny_bind (wpAny_setState_of ha rfl hf ?_))
    refine wpAny_bind (wpAny_setsByText ?_)
    have hb' : (model prog w).w.params.followText "set-order" = false := hb
    rw [hb']
    have hpsz : t.place.size = es.size := by
      simp only [SetTable.fits, Bool.and_eq_true, beq_iff_eq] at hf
      exact hf.1
    simp only [Bool.false_eq_true, if_false]
    rw [if_neg (by show ¬ ((!t.plain && decide (es.size > 1)) = true); have : ¬ es.size > 1 := by exact om56 h1
                   simp [this])]
    refine wpAny_bind ?_
    show wpAny _ _ (if (!t.led && !es.isEmpty) = true then unsupported _ else pure ()) _ _ s
    rw [if_neg (by rw [hled]; simp)]
    refine wpAny_pure ?_
    simp only [Int.toNat_natCast, hbl]
    have hk0 : k = 0 := by exact om173 hk hl h1
    subst hk0
    have hx2 : ∃ e, es[0]? = some e ∧ e.2 = x := by
      rw [ho, List.getElem?_map] at hx
      obtain ⟨e, h1, h2⟩ := Option.map_eq_some_iff.mp hx
      exact ⟨e, by rw [← Array.getElem?_toList]; exact h1, h2⟩
    obtain ⟨e, he, hex⟩ := hx2
    have hes1 : es.size = 1 := by
      have := (Array.getElem?_eq_some_iff.mp he).1
      exact om174 hl h1 hk
    obtain ⟨j, hj⟩ : ∃ j, t.place[0]? = some j := ⟨t.place[0]'(by exact om175 hl hpsz hk), by simp⟩
    rw [he, hj]
    obtain ⟨e1, e2⟩ := e
    refine wpAny_pure ?_
    simp only []
    refine wpAny_bind (wpAny_setField_rec hI (by simp) fun h₁ hI₁ hs₁ => ?_)
    refine wpAny_bind (wpAny_setField_rec hI₁ (by simp) fun h₂ hI₂ hs₂ => ?_)
    simp only at hex
    rw [hex]
    refine wpAny_pure ⟨_, rfl, fin (rawInt (j + 1 : Nat)) h₂ (by simpa [rawInt] using hI₂) (hs₁.trans hs₂) (.inr (.inl ⟨hb, hpl, hled, ho, j + 1, rfl, ?_, h1⟩))⟩
    have hp1 : t.place = #[j] := by
      apply Array.ext
      · simp; exact om176 hl h1 hpsz hk
      · intro i h1 h2
        have : i = 0 := by exact om177 ‹_› hpsz h1
        subst this
        have := (Array.getElem?_eq_some_iff.mp hj).2
        simpa using this
    rw [hp1]
    unfold SetTable.below
    simp [SetTable.below.go]
  · show wpAny _ _ (seqItems? (.ref F) >>= _) _ _ s
    refine wpAny_bind (wpAny_seqItems hF rfl ?_)
    simp only [Int.toNat_natCast]
    obtain ⟨p, hp⟩ : ∃ p, places[k]? = some p := ⟨places[k]'(by exact om178 hk hl hpn), by simp⟩
    obtain ⟨e, he, hoe⟩ := hpo k p hp
    have hxe : e.2 = x := by rw [hx] at hoe; exact (Option.some.inj hoe).symm
    have hpl : (places.map fun (i : Nat) => rawInt i).toArray[k]? = some (rawInt p) := by simp [hp]
    rw [hpl]
    show wpAny _ _ (setNextDrawn a (Int.toNat (p : Nat)) ep >>= _) _ _ s
    unfold setNextDrawn
    refine wpAny_bind (wpAny_bind (wpAny_setState_of ha rfl hf ?_))
    simp only [bne_self_eq_false, Bool.false_eq_true, if_false, Int.toNat_natCast, he]
    obtain ⟨e1, e2⟩ := e
    refine wpAny_pure ?_
    refine wpAny_bind (wpAny_setField_rec hI (by simp) fun h₁ hI₁ hs₁ => ?_)
    simp only at hxe
    rw [hxe]
    exact wpAny_pure ⟨_, rfl, fin (.ref F) h₁ (by simpa [rawInt] using hI₁) hs₁ (.inr (.inr ⟨hb, places, n, rfl, hF, hpn, hpo⟩))⟩

theorem raise_stop {α : Type} {Q : α → Shared → Prop} (hh : A.handled = none) (hE : ∀ h' e, (∀ b o, s.heap.get? b = some o → h'.get? b = some o) → (∃ o, h'.get? e = some o ∧ o.cls = .type "StopIteration") → E (.ref e) { s with heap := h' }) :
    wpAny (model prog w) A (do let e ← newExc (.type "StopIteration") []; raiseNew e) Q E s := by
  refine wpAny_bind ?_
  simp only [newExc, newTuple]
  refine wpAny_bind (wpAny_newObj_type ?_ (by size_fits))
  refine wpAny_bind (m := firstArgMember _ _) (wpAny_of_eq (a := Value.none) (by first | rfl | (simp only [firstArgMember]; rfl)) ?_)
  refine wpAny_newObj_type ?_ (by size_fits)
  simp only [raiseNew]
  refine wpAny_bind (wpAny_handled ?_)
  rw [hh]
  refine wpAny_bind (wpAny_pure (wpAny_throw ?_))
  exact hE _ _ (fun b o e => Heap.get?_push_of_some _ (Heap.get?_push_of_some _ e)) ⟨_, Heap.get?_push_size _ rfl, rfl⟩

theorem si_end {I F : Addr} {a : Addr} {ord : List Value} {Q : Fin → Shared → Prop} (hh : A.handled = none) (hS : SI w a I F ord ord.length s.heap)
    (hE : ∀ h' e, Heap.ExtBut I s.heap h' → (∃ o, h'.get? e = some o ∧ o.cls = .type "StopIteration") → E (.ref e) { s with heap := h' }) :
    wpAny (model prog w) A (Builtin.«set_iterator.__next__» ⟨[.ref I], []⟩) Q E s := by
  obtain ⟨es, ep, t, first, ha, hf, hI, hl, hm⟩ := hS
  rw [hl] at hI hm
  unfold Builtin.«set_iterator.__next__»
  refine wpAny_bind (wpAny_pure ?_)
  refine wpAny_bind (wpAny_fieldsOf hI rfl ?_)
  show wpAny _ _ _ _ _ s
  simp only [rawInt]
  unfold setEntries
  refine wpAny_bind (wpAny_bind (wpAny_setState_of ha rfl hf (wpAny_pure ?_)))
  simp only [bne_self_eq_false, Bool.false_eq_true, if_false]
  have stop : ∀ (h₁ : Heap), Heap.ExtBut I s.heap h₁ → wpAny (model prog w) A (do let e ← newExc (.type "StopIteration") []; raiseNew e) Q E { s with heap := h₁ } := fun h₁ hs₁ =>
    raise_stop (s := { s with heap := h₁ }) hh fun h' e hk he => hE h' e (fun b o hb e => hk b o (hs₁ b o hb e)) he
  rcases hm with ⟨hb, rfl, ho⟩ | ⟨hb, hpl, hled, ho, sl, rfl, hbl, h1⟩ | ⟨hb, places, n, rfl, hF, hpn, hpo⟩
  · show wpAny _ _ (setNext a (Int.toNat 0) (Int.toNat (es.size : Nat)) (Int.toNat (ep : Nat)) >>= _) _ _ s
    unfold setNext
    refine wpAny_bind (wpAny_bind (wpAny_setState_of ha rfl hf ?_))
    refine wpAny_bind (wpAny_setsByText ?_)
    have hb' : (model prog w).w.params.followText "set-order" = true := hb
    rw [hb']
    simp only [if_true, Int.toNat_natCast, bne_self_eq_false, Bool.false_eq_true, if_false]
    unfold setWalk
    refine wpAny_bind (wpAny_bind (wpAny_setState_of ha rfl hf ?_))
    refine wpAny_bind (wpAny_setsByText ?_)
    rw [hb']
    simp only [if_true]
    refine wpAny_bind (wpAny_askSetting (wpAny_pure ?_))
    refine wpAny_pure ?_
    have hx2 : (pickOrder ((model prog w).w.params.setOrder a ep) es)[es.size]? = none := by
      apply Array.getElem?_eq_none
      have := (pickOrder_perm ((model prog w).w.params.setOrder a ep) es).length_eq
      simp at this
      exact om21 this
    rw [hx2]
    simp only [Option.map_none]
    refine wpAny_bind (wpAny_setField_rec hI (by simp) fun h₁ hI₁ hs₁ => stop h₁ hs₁.extBut)
  · show wpAny _ _ (setNext a (Int.toNat (sl : Nat)) (Int.toNat (es.size : Nat)) (Int.toNat (ep : Nat)) >>= _) _ _ s
    unfold setNext
    refine wpAny_bind (wpAny_bind (wpAny_setState_of ha rfl hf ?_))
    refine wpAny_bind (wpAny_setsByText ?_)
    have hb' : (model prog w).w.params.followText "set-order" = false := hb
    rw [hb']
    simp only [Bool.false_eq_true, if_false]
    rw [if_neg (by show ¬ ((!t.plain && decide (es.size > 1)) = true); have : ¬ es.size > 1 := by exact om56 h1
                   simp [this])]
    refine wpAny_bind ?_
    show wpAny _ _ (if (!t.led && !es.isEmpty) = true then unsupported _ else pure ()) _ _ s
    rw [if_neg (by rw [hled]; simp)]
    refine wpAny_pure ?_
    simp only [Int.toNat_natCast, hbl]
    have hx2 : es[es.size]? = none := Array.getElem?_eq_none (Nat.le_refl _)
    rw [hx2]
    refine wpAny_pure ?_
    simp only []
    refine wpAny_bind (wpAny_setField_rec hI (by simp) fun h₁ hI₁ hs₁ => stop h₁ hs₁.extBut)
  · show wpAny _ _ (seqItems? (.ref F) >>= _) _ _ s
    refine wpAny_bind (wpAny_seqItems hF rfl ?_)
    simp only [Int.toNat_natCast]
    have hpl : (places.map fun (i : Nat) => rawInt i).toArray[es.size]? = none := by simp; exact om21 hpn
    rw [hpl]
    refine wpAny_bind (wpAny_setField_rec hI (by simp) fun h₁ hI₁ hs₁ => ?_)
    refine wpAny_bind (wpAny_setField_rec hI₁ (by simp) fun h₂ hI₂ hs₂ => stop h₂ (hs₁.trans hs₂).extBut)

theorem Walks.seti (hh : A.handled = none) {I F a : Addr} {ord : List Value} (hIa : I ≠ a) (hIF : I ≠ F) :
    Walks prog w A I [I, a, F] [I] ord.length (fun i v => ord[i]? = some v) (fun k h => SI w a I F ord k h) where
  sub := by simp
  frame := fun i h h' st hk => by
    obtain ⟨es, ep, t, first, ha, hf, hI, hl, hm⟩ := st
    refine ⟨es, ep, t, first, hk a (by simp) _ ha, hf, hk I (by simp) _ hI, hl, ?_⟩
    rcases hm with q | q | ⟨q, places, n, q1, q2, q3⟩
    · exact .inl q
    · exact .inr (.inl q)
    · exact .inr (.inr ⟨q, places, n, q1, hk F (by simp) _ q2, q3⟩)
  item := fun i s Q E hi st hQ => by
    have hT : s.TypeIs (.ref I) "set_iterator" := by obtain ⟨es, ep, t, first, ha, hf, hI, _⟩ := st; exact ⟨_, hI, rfl⟩
    unfold pyNext
    refine wpAny_bind (wpAny_attempt (wpAny_callSpecial?_slot (name := Str.ofString "__next__") hT slot_seti_next
      (wpAny_call_entry slot_seti_next hT entry_seti_next (si_item (A := A.in1) st hIa hIF hi (List.getElem?_eq_getElem hi) fun h' hS hs => wpAny_pure ?_) (args_seti_next _))))
    exact hQ _ h' s.toks (List.getElem?_eq_getElem hi) hS fun b o hb e => hs.extBut b o (fun q => hb (by simp [q])) e
  done := fun s Q E st hQ => by
    have hT : s.TypeIs (.ref I) "set_iterator" := by obtain ⟨es, ep, t, first, ha, hf, hI, _⟩ := st; exact ⟨_, hI, rfl⟩
    unfold pyNext
    refine wpAny_bind (wpAny_attempt (wpAny_callSpecial?_slot (name := Str.ofString "__next__") hT slot_seti_next
      (wpAny_call_entry slot_seti_next hT entry_seti_next (si_end (A := A.in1) hh st fun h' e hk he => ?_) (args_seti_next _))))
    obtain ⟨o, ho, hc⟩ := he
    refine wpAny_bind (wpAny_isInstance (T := "StopIteration") (b := true) ⟨o, ho, hc⟩ isSubtype_stop ?_)
    exact wpAny_pure (hQ h' s.toks fun b o hb e => hk b o (fun q => hb (by simp [q])) e)
  self := fun i s Q E st hq => by
    have hT : s.TypeIs (.ref I) "set_iterator" := by obtain ⟨es, ep, t, first, ha, hf, hI, _⟩ := st; exact ⟨_, hI, rfl⟩
    refine wpAny_pyIter_slot hT slot_seti_iter (wpAny_call_entry slot_seti_iter hT entry_seti_iter ?_ (args_seti_iter _))
    show wpAny _ _ (ret (.ref I)) _ _ s
    exact wpAny_pure ⟨_, rfl, "set_iterator", _, hT, slot_seti_next.lookup, hq⟩

theorem fm_get {α : Type} (M : List α) : ∀ (ys : List Nat), (∀ i ∈ ys, i < M.length) → ∀ (j : Nat), (ys.filterMap fun i => M[i]?)[j]? = (ys[j]?).bind fun i => M[i]?
  | [], _, j => by simp
  | y :: r, h, j => by
    have hy := h y (.head _)
    rw [List.filterMap_cons, List.getElem?_eq_getElem hy]
    cases j with
    | zero => simp [List.getElem?_eq_getElem hy]
    | succ j =>
      simp only [List.getElem?_cons_succ]
      exact fm_get M r (fun i hi => h i (.tail _ hi)) j
theorem fm_len {α : Type} (M : List α) : ∀ (ys : List Nat), (∀ i ∈ ys, i < M.length) → (ys.filterMap fun i => M[i]?).length = ys.length
  | [], _ => rfl
  | y :: r, h => by
    have hy := h y (.head _)
    rw [List.filterMap_cons, List.getElem?_eq_getElem hy]
    simp [fm_len M r fun i hi => h i (.tail _ hi)]

/-- a set is begun to be walked -/
theorem iter_set {a : Addr} {L : List Str} {Q : Value → Shared → Prop} (hS : SO w s.heap a L) (h64 : L.length ≤ 100)
    (h : ∀ (h' : Heap) (dr : Drawn) (I F : Addr) (us : List Value) (ss : List Str), StrsAre us ss → ss.Perm L → (∀ b o, s.heap.get? b = some o → h'.get? b = some o) → I ≠ a → I ≠ F → s.heap.objs.size ≤ I → I < h'.objs.size → (F = a ∨ s.heap.objs.size ≤ F) →
      SI w a I F us 0 h' → Q (.ref I) { s with heap := h', drawn := dr }) :
    wpAny (model prog w) A (pyIter (.ref a)) Q E s := by
  obtain ⟨es, ep, t, M, ho, hes, hp, hn, hf, hled, hpl⟩ := hS
  have hT : s.TypeIs (.ref a) "set" := ⟨_, ho, rfl⟩
  have hal := Heap.lt_size ho
  have hvals : es.toList.map (·.2) = M.map fun p => Value.str p.1 p.2 := by rw [hes, List.map_map]; rfl
  have hlen : es.size = L.length := by
    have := congrArg List.length hes
    simp at this
    rw [this, ← hp.length_eq]; simp
  have strsOf : ∀ (N : List (Str × Tok)), StrsAre (N.map fun p => Value.str p.1 p.2) (N.map (·.1)) := by
    intro N
    induction N with
    | nil => exact .nil
    | cons p r ih => exact .cons _ _ ih
  refine wpAny_pyIter_slot hT PySem.F.slot_set_iter (wpAny_call_entry PySem.F.slot_set_iter hT entry_set_iter ?_ (PySem.F.args_set_iter_1 _))
  unfold Builtin.«frozenset.__iter__»
  refine wpAny_bind (m := Builtin.Frozenset.slot0 _ _) (wpAny_pure ?_)
  refine wpAny_bind ?_
  unfold Builtin.Frozenset.sizeOf setEntries
  refine wpAny_bind (wpAny_bind (wpAny_setState_of ho rfl hf (wpAny_pure (wpAny_pure ?_))))
  refine wpAny_bind ?_
  unfold setDrawn
  refine wpAny_bind (wpAny_setState_of ho rfl hf ?_)
  refine wpAny_bind (wpAny_setsByText (wpAny_pure ?_))
  show wpAny _ _ (if (!(byT w) && (!t.plain && decide (es.size > 1))) = true then _ else _) _ _ s
  by_cases hc : (!(byT w) && (!t.plain && decide (es.size > 1))) = true
  · rw [if_pos hc]
    simp only [Bool.and_eq_true, Bool.not_eq_true', decide_eq_true_eq] at hc
    obtain ⟨hb, hpl', hsz⟩ := hc
    refine wpAny_bind (drawOrder_perm es.size (List.range es.size) _ _ (by simp) fun ys dr hys => ?_)
    have hyl : ys.length = es.size := by rw [hys.length_eq]; simp
    refine wpAny_bind (wpAny_newTuple (items := ys.map fun (i : Nat) => rawInt i) ?_ (by rw [sizeLine_eq, List.length_map, hyl]; exact om179 h64 hlen))
    refine wpAny_bind ?_
    unfold setEpoch
    have ho1 : (s.heap.push { cls := .type "tuple", data := .seq (ys.map fun (i : Nat) => rawInt i).toArray }).get? a = some (setO es ep t) := Heap.get?_push_of_some _ ho
    refine wpAny_bind (wpAny_setState_of ho1 rfl hf (wpAny_pure ?_))
    refine wpAny_bind (wpAny_newObj_type (wpAny_pure ⟨_, rfl, "set_iterator", _, ⟨_, Heap.get?_push_size _ rfl, rfl⟩, slot_seti_next.lookup, ?_⟩))
    have hMl : M.length = es.size := by have := congrArg List.length hes; simp at this; exact om57 this
    have hlt : ∀ i ∈ ys, i < M.length := fun i hi => by have := hys.mem_iff.mp hi; simp at this; exact om180 hMl this
    have hMp : (ys.filterMap fun i => M[i]?).Perm M := by
      have := hys.filterMap (fun i => M[i]?)
      rw [← hMl, PySem.List.filterMap_getElem?_range_length] at this
      exact this
    have hsz1 : (s.heap.push { cls := .type "tuple", data := .seq (ys.map fun (i : Nat) => rawInt i).toArray }).objs.size = s.heap.objs.size + 1 := Heap.size_push ..
    have hk : ∀ b o, s.heap.get? b = some o → ((s.heap.push { cls := .type "tuple", data := .seq (ys.map fun (i : Nat) => rawInt i).toArray }).push { cls := .type "set_iterator", data := .fields #[.ref s.heap.objs.size, rawInt 0, .ref a, rawInt es.size, rawInt ep] }).get? b = some o :=
      fun b o e => Heap.get?_push_of_some _ (Heap.get?_push_of_some _ e)
    have hI : ((s.heap.push { cls := .type "tuple", data := .seq (ys.map fun (i : Nat) => rawInt i).toArray }).push { cls := .type "set_iterator", data := .fields #[.ref s.heap.objs.size, rawInt 0, .ref a, rawInt es.size, rawInt ep] }).get? (s.heap.push { cls := .type "tuple", data := .seq (ys.map fun (i : Nat) => rawInt i).toArray }).objs.size = some { cls := .type "set_iterator", data := .fields #[.ref s.heap.objs.size, rawInt 0, .ref a, rawInt es.size, rawInt ep] } := Heap.get?_push_size _ rfl
    refine h ((s.heap.push { cls := .type "tuple", data := .seq (ys.map fun (i : Nat) => rawInt i).toArray }).push { cls := .type "set_iterator", data := .fields #[.ref s.heap.objs.size, rawInt 0, .ref a, rawInt es.size, rawInt ep] }) dr (s.heap.push { cls := .type "tuple", data := .seq (ys.map fun (i : Nat) => rawInt i).toArray }).objs.size s.heap.objs.size ((ys.filterMap fun i => M[i]?).map fun p => Value.str p.1 p.2) ((ys.filterMap fun i => M[i]?).map (·.1)) (strsOf _) ((hMp.map _).trans hp) hk ?_ ?_ ?_ ?_ ?_ ?_
    · rw [hsz1]; exact Nat.ne_of_gt (Nat.lt_succ_of_lt hal)
    · rw [hsz1]; exact Nat.succ_ne_self _
    · rw [hsz1]; exact Nat.le_succ _
    · simp [Heap.size_push]
    · exact .inr (Nat.le_refl _)
    · refine ⟨es, ep, t, .ref s.heap.objs.size, hk _ _ ho, hf, hI, by rw [List.length_map, fm_len M ys hlt, hyl], .inr (.inr ⟨hb, ys, 0, rfl, Heap.get?_push_of_some _ (Heap.get?_push_size _ rfl), hyl, fun j p hj => ?_⟩)⟩
      have hpM : p < M.length := hlt p (List.mem_of_getElem? hj)
      refine ⟨ent w M[p], ?_, ?_⟩
      · rw [← Array.getElem?_toList, hes, List.getElem?_map, List.getElem?_eq_getElem hpM]; rfl
      · rw [List.getElem?_map, fm_get M ys hlt, hj]
        simp [List.getElem?_eq_getElem hpM, ent]
  · rw [if_neg hc]
    refine wpAny_bind (wpAny_pure ?_)
    refine wpAny_bind ?_
    unfold setEpoch
    refine wpAny_bind (wpAny_setState_of ho rfl hf (wpAny_pure ?_))
    refine wpAny_bind (wpAny_newObj_type (wpAny_pure ⟨_, rfl, "set_iterator", _, ⟨_, Heap.get?_push_size _ rfl, rfl⟩, slot_seti_next.lookup, ?_⟩))
    have hk : ∀ b o, s.heap.get? b = some o → (s.heap.push { cls := .type "set_iterator", data := .fields #[rawInt 0, rawInt 0, .ref a, rawInt es.size, rawInt ep] }).get? b = some o :=
      fun b o e => Heap.get?_push_of_some _ e
    have hI : (s.heap.push { cls := .type "set_iterator", data := .fields #[rawInt 0, rawInt 0, .ref a, rawInt es.size, rawInt ep] }).get? s.heap.objs.size = some { cls := .type "set_iterator", data := .fields #[rawInt 0, rawInt 0, .ref a, rawInt es.size, rawInt ep] } := Heap.get?_push_size _ rfl
    have hMl : M.length = es.size := by have := congrArg List.length hes; simp at this; exact om57 this
    cases hbt : byT w with
    | true =>
      obtain ⟨N, hN, hN2⟩ : ∃ N : List (Str × Tok), N.Perm M ∧ (pickOrder (w.params.setOrder a ep) es).toList = N.map (ent w) := perm_map_inv ((pickOrder_perm _ es)) hes
      refine h (s.heap.push { cls := .type "set_iterator", data := .fields #[rawInt 0, rawInt 0, .ref a, rawInt es.size, rawInt ep] }) s.drawn s.heap.objs.size a (N.map fun p => Value.str p.1 p.2) (N.map (·.1)) (strsOf _) ((hN.map _).trans hp) hk (Nat.ne_of_gt hal) (Nat.ne_of_gt hal) (Nat.le_refl _) (by rw [Heap.size_push]; exact Nat.lt_succ_self _) (.inl rfl) ?_
      refine ⟨es, ep, t, rawInt 0, hk _ _ ho, hf, hI, by rw [List.length_map, hN.length_eq, hMl], .inl ⟨hbt, rfl, ?_⟩⟩
      rw [hN2, List.map_map]; rfl
    | false =>
      have hsz : es.size ≤ 1 := by
        rw [hbt] at hc
        by_cases hL : L = []
        · rw [hlen, hL]; simp
        · rw [hpl hL] at hc
          simpa using hc
      refine h (s.heap.push { cls := .type "set_iterator", data := .fields #[rawInt 0, rawInt 0, .ref a, rawInt es.size, rawInt ep] }) s.drawn s.heap.objs.size a (M.map fun p => Value.str p.1 p.2) (M.map (·.1)) (strsOf _) hp hk (Nat.ne_of_gt hal) (Nat.ne_of_gt hal) (Nat.le_refl _) (by rw [Heap.size_push]; exact Nat.lt_succ_self _) (.inl rfl) ?_
      refine ⟨es, ep, t, rawInt 0, hk _ _ ho, hf, hI, by rw [List.length_map, hMl], .inr (.inl ⟨hbt, .inr hsz, by rw [hled, hbt]; rfl, hvals.symm, 0, rfl, ?_, hsz⟩)⟩
      have hpsz : t.place.size = es.size := by
        simp only [SetTable.fits, Bool.and_eq_true, beq_iff_eq] at hf
        exact hf.1
      unfold SetTable.below
      have : t.place.size = 0 ∨ t.place.size = 1 := by exact om181 hsz hpsz
      rcases this with q | q <;> rw [q] <;> simp [SetTable.below.go]

theorem set_hint {r : Addr} {Q : Bool → Shared → Prop} (hT : s.TypeIs (.ref r) "set") (h : Q false s) : wpAny (model prog w) A (Builtin.List.listLengthHint (.ref r)) Q E s := by
  unfold Builtin.List.listLengthHint
  refine wpAny_bind (wpAny_specialOf hT PySem.F.slot_set_len.lookup ?_)
  generalize hid : ("set.__len__" : String) = id0
  wp_delta
  rw [show splitId id0 = some ("set", "__len__") from by subst hid; decide +kernel]
  subst hid
  refine wpAny_bind (wpAny_isInstance (T := "set") (b := true) hT (by rw [isSubtype_type]; kernel_rfl) ?_)
  refine wpAny_ite_split (fun hab => absurd hab (by decide)) (fun _ => ?_)
  refine wpAny_ite_split (fun _ => ?_) (fun hab => absurd (by decide +kernel) hab)
  refine wpAny_bind (wpAny_typeOf hT ?_)
  exact wpAny_pure h

/-- a set is collected -/
theorem collect_set {a : Addr} {L : List Str} {Q : List Value → Shared → Prop} (hh : A.handled = none) (hS : SO w s.heap a L) (h64 : L.length ≤ 100)
    (h : ∀ vs ss s', Same s s' → (∀ b o, s.heap.get? b = some o → s'.heap.get? b = some o) → StrsAre vs ss → ss.Perm L → Q vs s') :
    wpAny (model prog w) A (collect (.ref a)) Q E s := by
  have hT : s.TypeIs (.ref a) "set" := by obtain ⟨es, ep, t, M, ho, _⟩ := hS; exact ⟨_, ho, rfl⟩
  have hal : a < s.heap.objs.size := by obtain ⟨es, ep, t, M, ho, _⟩ := hS; exact Heap.lt_size ho
  unfold collect
  refine wpAny_bind (wpAny_runValue (codeAny_builtin entry_proto_collect' ?_))
  rw [Around.under_plainId PySem.F.plain_proto_collect _]
  show wpAny _ A.in1 (newList [] >>= fun l => again (.builtin "list.__iadd__" ⟨[l, .ref a], []⟩)) _ _ s
  refine wpAny_bind (wpAny_newObj_type ?_)
  refine wpAny_pure ⟨plainId_quiet PySem.F.plain_list_iadd _, codeAny_builtin entry_list_iadd' ?_⟩
  rw [Around.under_plainId PySem.F.plain_list_iadd _]
  have hS₁ : (s.heap.push { cls := .type "list", data := .seq ([] : List Value).toArray }).get? s.heap.objs.size = some { cls := .type "list", data := .seq #[] } := Heap.get?_push_size _ rfl
  have hk0 : ∀ b o, s.heap.get? b = some o → (s.heap.push { cls := .type "list", data := .seq ([] : List Value).toArray }).get? b = some o := fun b o e => Heap.get?_push_of_some _ e
  have hSO := hS.at fun o e => hk0 a o e
  show wpAny _ A.in1 (Builtin.List.listExtendWith (.ref s.heap.objs.size) (.ref a) (.ref s.heap.objs.size)) _ _ _
  unfold Builtin.List.listExtendWith
  refine wpAny_bind (wpAny_typeOf (T := "set") (by obtain ⟨es, ep, t, M, ho, _⟩ := hSO; exact ⟨_, ho, rfl⟩) ?_)
  have h1 : Builtin.List.listSameRef (.ref s.heap.objs.size) (.ref a) = false := by simp [Builtin.List.listSameRef]; exact Nat.ne_of_gt hal
  rw [if_neg (by rw [h1]; decide)]
  refine wpAny_bind (iter_set (s := { s with heap := s.heap.push { cls := .type "list", data := .seq ([] : List Value).toArray } }) hSO h64 fun h' dr I F us ss hus hss hk hIa hIF hI0 hI1 hF1 hSI => ?_)
  refine wpAny_bind (wpAny_holding (set_hint ?_ ?_))
  · obtain ⟨es, ep, t, M, ho, _⟩ := hSO
    exact ⟨_, hk _ _ ho, rfl⟩
  have hsz0 : (s.heap.push { cls := .type "list", data := .seq ([] : List Value).toArray }).objs.size = s.heap.objs.size + 1 := Heap.size_push ..
  have hSne : s.heap.objs.size ≠ I := by
    have hI0' : s.heap.objs.size + 1 ≤ I := hsz0 ▸ hI0
    exact Nat.ne_of_lt hI0'
  have hul : us.length = ss.length := StrsAre.length hus
  have hsl : ss.length = L.length := hss.length_eq
  have hSF : s.heap.objs.size ≠ F := by
    rcases hF1 with q | q
    · rw [q]; exact Nat.ne_of_gt hal
    · have q' : s.heap.objs.size + 1 ≤ F := hsz0 ▸ q
      exact Nat.ne_of_lt q'
  rw [if_pos (by decide)]
  refine wpAny_bind (wpAny_rule ?_)
  refine wpAny_bind ?_
  show wpAny _ A.in1 (updateSeq s.heap.objs.size (·.push .none) >>= fun _ => updateSeq s.heap.objs.size (·.pop)) _ _ _
  have hS1 := hk _ _ hS₁
  refine wpAny_bind (wpAny_updateSeq hS1 rfl ?_)
  have hS₂ := Heap.get?_update_self (Obj.mapSeq (·.push Value.none)) hS1 rfl
  refine wpAny_updateSeq (hz := by seq_fits) hS₂ rfl ?_
  have hS₃ := Heap.get?_update_self (Obj.mapSeq (·.pop)) hS₂ rfl
  have oth : ∀ b o, b ≠ s.heap.objs.size → h'.get? b = some o → ((h'.update s.heap.objs.size (Obj.mapSeq (·.push Value.none))).update s.heap.objs.size (Obj.mapSeq (·.pop))).get? b = some o :=
    fun b o hb e => (Heap.get?_update_other _ _ (Ne.symm hb)).trans ((Heap.get?_update_other _ _ (Ne.symm hb)).trans e)
  have W := Walks.seti (prog := prog) (w := w) (A := A.in1) hh (ord := us) hIa hIF
  refine wpAny_pure ⟨plainId_quiet PySem.F.plain_extend_loop _, codeAny_extend_loopS W.toS (by rw [sizeLine_eq]; exact om182 h64 hul hsl) s.heap.objs.size
    (by simp only [List.mem_cons, List.not_mem_nil, or_false, not_or]; exact ⟨hSne, Nat.ne_of_gt hal, hSF⟩) (.ref s.heap.objs.size) us.length 0 _ #[] _ rfl (Nat.zero_le _) (W.frame 0 _ _ hSI fun b hb o e => oth b o (by simp only [List.mem_cons, List.not_mem_nil, or_false] at hb; rcases hb with rfl | rfl | rfl; exact Ne.symm hSne; exact Nat.ne_of_lt hal; exact Ne.symm hSF) e) hS₃ (ItemsOf.nil _) fun s' acc' c' hm hS' hacc => ?_⟩
  show wpAny _ A (load s.heap.objs.size >>= _) _ _ s'
  refine wpAny_bind (wpAny_load hS' ?_)
  have hacc' : acc'.toList = us := by
    apply List.ext_getElem?
    intro i
    rcases Nat.lt_or_ge i acc'.size with hi | hi
    · have := hacc.2 i acc'[i] (Array.getElem?_eq_getElem hi)
      rw [this, Array.getElem?_toList, Array.getElem?_eq_getElem hi]
    · rw [List.getElem?_eq_none (by simpa using hi), List.getElem?_eq_none (by rw [← hacc.1]; exact hi)]
  refine wpAny_pure ?_
  rw [hacc']
  refine h us ss s' ⟨hm.gens, hm.os⟩ (fun b o e => ?_) hus hss
  have hb := Heap.lt_size e
  refine hm.heap b o ?_ (oth b o (Nat.ne_of_lt hb) (hk b o (hk0 b o e)))
  simp only [List.mem_cons, List.not_mem_nil, or_false, not_or]
  refine ⟨Nat.ne_of_lt hb, Nat.ne_of_lt ?_⟩
  have hI0' : s.heap.objs.size + 1 ≤ I := hsz0 ▸ hI0
  exact Nat.lt_of_lt_of_le hb (Nat.le_of_succ_le hI0')

theorem nodup_eraseDups : ∀ (n : Nat) (l : List Str), l.length ≤ n → l.eraseDups.Nodup
  | _, [], _ => by simp
  | 0, a :: r, h => by simp at h
  | n + 1, a :: r, h => by
    rw [List.eraseDups_cons, List.nodup_cons]
    refine ⟨?_, nodup_eraseDups n _ (Nat.le_trans (List.length_filter_le _ _) (by simpa using h))⟩
    rw [List.mem_eraseDups, List.mem_filter]
    simp
theorem psort_perm {a b : List Str} (p : a.Perm b) : psort a = psort b :=
  eq_of_perm_pairwise (fun a b => sle_anti a b) ((List.mergeSort_perm a sle).trans (p.trans (List.mergeSort_perm b sle).symm)) (psort_pairwise a) (psort_pairwise b)
theorem met_perm (ss : List Str) : (met [] ss).Perm ss.eraseDups := by
  obtain ⟨h1, h2⟩ := met_spec ss [] List.nodup_nil
  have h3 : ss.eraseDups.Nodup := nodup_eraseDups _ _ (Nat.le_refl _)
  rw [List.perm_ext_iff_of_nodup h1 h3]
  intro y
  rw [h2, List.mem_eraseDups]
  simp

/-- sorted(set(list)): the set is made, and is then sorted -/
theorem sorted_set (K : AOk d A) {s0 : Shared} (R0 : SR B ads S s0.heap) {a : Addr} {ss : List Str} {Q : Value → Shared → Prop} (hs : Same s0 s) (hk0 : ∀ b o, s0.heap.get? b = some o → s.heap.get? b = some o) (hS : SO B.w s.heap a (met [] ss)) (h64 : ss.length < 64)
    (h : Post B s0 ads (S ++ [.lst ((psort ss.eraseDups).map .str)]) (.ref S.length) Q) : wpAny (model B.prog B.w) A (call (.builtin "sorted") [.ref a]) Q E s := by
  have hl := met_len ss []
  simp at hl
  have hl2 := (met_perm ss).length_eq
  rw [← psort_perm (met_perm ss)] at h
  refine sorted_any (ss := met [] ss) (by exact om183 h64 hl) (fun Q' hq => collect_set (A := A.in1) K.handled hS (by exact om184 h64 hl) fun vs ss₁ s' h1 h2 h3 h4 => hq vs ss₁ s' h1 h2 h3 h4) fun us' l n s' hs' hk hn hl' hS' => ?_
  exact post_listF R0 (hs.trans hs') (fun b o e => hk _ _ (hk0 _ _ e)) (fun b o e => hn _ _ (hk0 _ _ e)) hl' (VRs.ofStrs hS') h
end
end Mine.Internal
end

section
open PySem PySem.W PyProof.Rows PySem.Spec PySem.Calls PySem.Builtin.Str
namespace Mine.Internal
section
variable {A : Around} {E : Value → Shared → Prop} {s : Shared} {B : Bs} {ads : List Addr} {S S' : St} {Q : Value → Shared → Prop} {u1 u2 : Value} {a b v : PV} {d : Nat} {C : Ctx}

/-- calls of the text's own defs are sound -/
noncomputable def CallOK (B : Bs) (C : Ctx) (d : Nat) : Prop :=
  ∀ (A : Around) (E : Value → Shared → Prop) (s : Shared) (ads : List Addr) (S S' : St) (a : Addr) (args : List PV) (us : List Value) (v : PV) (Q : Value → Shared → Prop),
    AOk d A → C.call a args S = some (v, S') → SR B ads S s.heap → VRs s.heap ads us args → Post B s ads S' v Q → wpAny (model B.prog B.w) A (call (.ref a) us) Q E s

theorem vrs1 {h : Heap} {us : List Value} {v : PV} (x : VRs h ads us [v]) : ∃ u, us = [u] ∧ VR h ads u v := by
  cases x with | cons a b => cases b; exact ⟨_, rfl, a⟩

theorem snd_apply (K : AOk d A) (HC : CallOK B C d) {f : PV} {args : List PV} {fu : Value} {us : List Value} (e : papply C f args S = some (v, S')) (R : SR B ads S s.heap) (rf : VR s.heap ads fu f) (ra : VRs s.heap ads us args) (h : Post B s ads S' v Q) :
    wpAny (model B.prog B.w) A (call fu us) Q E s := by
  cases f with
  | fn a =>
    cases rf
    exact HC A E s ads S S' _ _ _ _ Q K e R ra h
  | bi id =>
    cases rf
    obtain ⟨w, q1, q2⟩ := tk1_some e; clear e; revert q2; subst q1; intro e
    rcases PM.or_some e with ⟨hid, e⟩ | ⟨_, e⟩
    · have hid := eq_of_beq hid
      subst hid
      cases w with
      | tup vs =>
        have e : (if vs.length ≤ lineLen then PM.ret (PV.int vs.length) else .fail) S = some (v, S') := e
        refine iteE e ?_; clear e; intro hc e
        obtain ⟨q1, q2⟩ := PM.ret_some e; clear e; subst q1 q2
        apply VRs.oneE ra; intro u r
        apply VR.tupE (r); intro x ws n hx rx
        exact len_any (T := "") R (.inl hx) rx hc h
      | ref n =>
        refine bndL e ?_; clear e; intro xs g1 e
        refine iteE e ?_; clear e; intro hc e
        obtain ⟨q1, q2⟩ := PM.ret_some e; clear e; subst q1 q2
        apply VRs.oneE ra; intro u r
        apply VR.refE (r); intro x ax
        refine SR.objL R ax g1 ?_; intro ws n hx rx
        exact len_any (T := "") R (.inr hx) rx hc h
      | _ => exact (nofail e).elim
    rcases PM.or_some e with ⟨hid, e⟩ | ⟨_, e⟩
    · have hid := eq_of_beq hid
      subst hid
      obtain ⟨n, q1, q2⟩ := tkR_some e; clear e; revert q2; subst q1; intro e
      refine bndO e ?_; clear e; intro o g1 e
      refine bndF e ?_; clear e; intro ss e3 e
      refine iteE e ?_; clear e; intro hc e
      obtain ⟨q1, q2⟩ := PM.alloc_some e; clear e; subst q1 q2
      apply VRs.oneE ra; intro u r
      apply VR.refE (r); intro x ax
      cases o with
      | lst vs =>
        refine SR.objL R ax g1 ?_; intro ws n hx rx
        obtain ⟨h1, h2⟩ := rx.strs e3
        exact sorted_list (n := 0) K R hx h1 hc h
      | dct es =>
        refine SR.objD R ax g1 ?_; intro ws hx rx
        have e3 : strKeys es = ss := Option.some.inj e3
        have hk : ws.map (·.1) = ss := by rw [rx.keys]; exact e3
        have hl : ws.length = ss.length := by rw [← hk]; simp
        rw [← hk] at h
        exact sorted_dict (k := 0) (n := 0) K R (List.mem_of_getElem? ax) hx (by exact om47 hc hl) h
      | dtp es => cases e3
    rcases PM.or_some e with ⟨hid, e⟩ | ⟨_, e⟩
    · have hid := eq_of_beq hid
      subst hid
      obtain ⟨n, q1, q2⟩ := tkR_some e; clear e; revert q2; subst q1; intro e
      refine bndL e ?_; clear e; intro xs g1 e
      refine bndF e ?_; clear e; intro is e3 e
      refine iteE e ?_; clear e; intro hc e
      obtain ⟨q1, q2⟩ := PM.ret_some e; clear e; subst q1 q2
      apply VRs.oneE ra; intro u r
      apply VR.refE (r); intro x ax
      refine SR.objL R ax g1 ?_; intro ws n hx rx
      exact sum_lst K R hx (rx.ints e3) h
    rcases PM.or_some e with ⟨hid, e⟩ | ⟨_, e⟩
    · have hid := eq_of_beq hid
      subst hid
      obtain ⟨n, q1, q2⟩ := tkR_some e; clear e; revert q2; subst q1; intro e
      refine bndL e ?_; clear e; intro xs g1 e
      refine bndF e ?_; clear e; intro is e3 e
      cases is with
      | nil => exact (nofail e).elim
      | cons i0 is =>
        obtain ⟨q1, q2⟩ := PM.ret_some e; clear e; subst q1 q2
        apply VRs.oneE ra; intro u r
        apply VR.refE (r); intro x ax
        refine SR.objL R ax g1 ?_; intro ws n hx rx
        exact max_lst K R hx (rx.ints e3) h
    exact (nofail e).elim
  | ty id =>
    cases rf
    obtain ⟨w, q1, q2⟩ := tk1_some e; clear e; revert q2; subst q1; intro e
    rcases PM.or_some e with ⟨hid, e⟩ | ⟨_, e⟩
    · have hid := eq_of_beq hid
      subst hid
      cases w with
      | tup vs =>
        have e : (if vs.length ≤ lineLen then PM.alloc (.lst vs) else .fail) S = some (v, S') := e
        refine iteE e ?_; clear e; intro hc e
        obtain ⟨q1, q2⟩ := PM.alloc_some e; clear e; subst q1 q2
        apply VRs.oneE ra; intro u r
        apply VR.tupE (r); intro x ws n hx rx
        exact list_tup R hx rx hc h
      | ref n =>
        refine bndO e ?_; clear e; intro o g1 e
        refine bndF e ?_; clear e; intro ss e3 e
        refine iteE e ?_; clear e; intro hc e
        obtain ⟨q1, q2⟩ := PM.alloc_some e; clear e; subst q1 q2
        apply VRs.oneE ra; intro u r
        apply VR.refE (r); intro x ax
        cases o with
        | dct es =>
          refine SR.objD R ax g1 ?_; intro ws hx rx
          have e3 : strKeys es = ss := Option.some.inj e3
          have hk : ws.map (·.1) = ss := by rw [rx.keys]; exact e3
          have hl : ws.length = ss.length := by rw [← hk]; simp
          have := lineLen_le
          rw [← hk] at h
          exact list_dict K R (List.mem_of_getElem? ax) hx (by exact om10 hc hl this) h
        | lst vs => cases e3
        | dtp es => cases e3
      | _ => exact (nofail e).elim
    rcases PM.or_some e with ⟨hid, e⟩ | ⟨_, e⟩
    · have hid := eq_of_beq hid
      subst hid
      obtain ⟨n, q1, q2⟩ := tkR_some e; clear e; revert q2; subst q1; intro e
      refine bndL e ?_; clear e; intro xs g1 e
      refine iteE e ?_; clear e; intro hc e
      obtain ⟨q1, q2⟩ := PM.ret_some e; clear e; subst q1 q2
      apply VRs.oneE ra; intro u r
      apply VR.refE (r); intro x ax
      refine SR.objL R ax g1 ?_; intro ws n hx rx
      exact tuple_lst R hx rx hc h
    rcases PM.or_some e with ⟨hid, e⟩ | ⟨_, e⟩
    · have hid := eq_of_beq hid
      subst hid
      obtain ⟨n, q1, q2⟩ := tkR_some e; clear e; revert q2; subst q1; intro e
      refine bndL e ?_; clear e; intro xs g1 e
      refine bndF e ?_; clear e; intro ps e3 e
      refine iteE e ?_; clear e; intro hc e
      obtain ⟨q1, q2⟩ := PM.alloc_some e; clear e; subst q1 q2
      apply VRs.oneE ra; intro u r
      apply VR.refE (r); intro x ax
      refine SR.objL R ax g1 ?_; intro ws n hx rx
      exact dict_lst K R hx rx e3 hc h
    exact (nofail e).elim
  | _ => exact (nofail e).elim

/-! ## methods -/
noncomputable def MethId (name : Str) (T id : String) : Prop :=
  (name = ("append" : Str) ∧ T = "list" ∧ id = "list.append") ∨ (name = ("extend" : Str) ∧ T = "list" ∧ id = "list.extend") ∨ (name = ("pop" : Str) ∧ T = "list" ∧ id = "list.pop") ∨ (name = ("get" : Str) ∧ T = "dict" ∧ id = "dict.get")

theorem meth_pre {o : PV} {name : Str} {un : Unit} (e : pmethPre o name S = some (un, S')) (R : SR B ads S s.heap) (r1 : VR s.heap ads u1 o) : S' = S ∧ ∃ T id, MethId name T id ∧
    PlainAttrs T ∧ Slot T name id ∧ typeOf (.builtin id) = pure (.type "method_descriptor") ∧ s.TypeIs u1 T ∧ (∀ a, u1 = .ref a → ∃ ob, s.heap.get? a = some ob ∧ ob.dict = none) := by
  obtain ⟨n, q1, q2⟩ := tkR_some e; clear e; revert q2; subst q1; intro e
  refine bndO e ?_; clear e; intro o g1 e
  apply VR.refE (r1); intro x ax
  cases o with
  | lst vs =>
    refine iteE e ?_; clear e; intro hc e
    obtain ⟨_, rfl⟩ := PM.ret_some e
    refine SR.objL R ax g1 ?_; intro ws k hx rx
    have hnd : ∀ a, Value.ref x = .ref a → ∃ ob, s.heap.get? a = some ob ∧ ob.dict = none := by rintro a ⟨⟩; exact ⟨_, hx, rfl⟩
    refine ⟨rfl, ?_⟩
    simp only [Bool.or_eq_true, beq_iff_eq] at hc
    rcases hc with (rfl | rfl) | rfl
    · exact ⟨_, _, .inl ⟨rfl, rfl, rfl⟩, PySem.F.plainAttrs_list, PySem.F.slot_list_append, PySem.F.type_list_append, ⟨_, hx, rfl⟩, hnd⟩
    · exact ⟨_, _, .inr (.inl ⟨rfl, rfl, rfl⟩), PySem.F.plainAttrs_list, PySem.F.slot_list_extend, PySem.F.type_list_extend, ⟨_, hx, rfl⟩, hnd⟩
    · exact ⟨_, _, .inr (.inr (.inl ⟨rfl, rfl, rfl⟩)), PySem.F.plainAttrs_list, PySem.F.slot_list_pop, PySem.F.type_list_pop, ⟨_, hx, rfl⟩, hnd⟩
  | dct es =>
    refine iteE e ?_; clear e; intro hc e
    obtain ⟨_, rfl⟩ := PM.ret_some e
    refine SR.objD R ax g1 ?_; intro ws hx rx
    have hnd : ∀ a, Value.ref x = .ref a → ∃ ob, s.heap.get? a = some ob ∧ ob.dict = none := by
      rintro a ⟨⟩
      obtain ⟨ob, _, _, ho, hx, _⟩ := hx
      exact ⟨_, ho, hx.2.1⟩
    refine ⟨rfl, ?_⟩
    simp only [beq_iff_eq] at hc
    subst hc
    exact ⟨_, _, .inr (.inr (.inr ⟨rfl, rfl, rfl⟩)), PySem.F.plainAttrs_dict, PySem.F.slot_dict_get, PySem.F.type_dict_get, hx.mapOf.typeIs, hnd⟩
  | dtp es => exact (nofail e).elim

theorem MethId.fun {name : Str} {T id T' id' : String} (x : MethId name T id) (y : MethId name T' id') : T = T' ∧ id = id' := by
  have h1 : ("append" : Str) ≠ ("extend" : Str) := by decide +kernel
  have h2 : ("append" : Str) ≠ ("pop" : Str) := by decide +kernel
  have h3 : ("append" : Str) ≠ ("get" : Str) := by decide +kernel
  have h4 : ("extend" : Str) ≠ ("pop" : Str) := by decide +kernel
  have h5 : ("extend" : Str) ≠ ("get" : Str) := by decide +kernel
  have h6 : ("pop" : Str) ≠ ("get" : Str) := by decide +kernel
  rcases x with ⟨x1, rfl, rfl⟩ | ⟨x1, rfl, rfl⟩ | ⟨x1, rfl, rfl⟩ | ⟨x1, rfl, rfl⟩ <;> rcases y with ⟨y1, rfl, rfl⟩ | ⟨y1, rfl, rfl⟩ | ⟨y1, rfl, rfl⟩ | ⟨y1, rfl, rfl⟩ <;> first
    | exact ⟨rfl, rfl⟩
    | (rw [x1] at y1; first | exact absurd y1 h1 | exact absurd y1 h2 | exact absurd y1 h3 | exact absurd y1 h4 | exact absurd y1 h5 | exact absurd y1 h6
                            | exact absurd y1.symm h1 | exact absurd y1.symm h2 | exact absurd y1.symm h3 | exact absurd y1.symm h4 | exact absurd y1.symm h5 | exact absurd y1.symm h6)

/-- a list of the store is changed in place -/
theorem lst_update (R : SR B ads S s.heap) {n : Nat} {x : Addr} (ax : ads[n]? = some x) {us ws : List Value} {k : Nat} {f : Array Value → Array Value} {zs : List PV} (hx : s.heap.get? x = some (lstO us k)) (hf : f us.toArray = ws.toArray) (r : VRs s.heap ads ws zs) :
    Nx B none' s ads { s with heap := s.heap.update x (Obj.mapSeq f) } ads (S.set n (.lst zs)) := by
  have q := IsL.update (l := x) (items := us.toArray) hx f
  rw [hf] at q
  have hk : ∀ b o, b ≠ x → s.heap.get? b = some o → (s.heap.update x (Obj.mapSeq f)).get? b = some o := fun b o hb e => (Heap.get?_update_other _ _ (Ne.symm hb)).trans e
  refine Nx.set R ⟨rfl, rfl⟩ ax hk ⟨ws, _, q, r.mono (fun b us n e => hk b _ ?_ e) ⟨[], by simp⟩⟩
  exact ne_of_cls e hx (by show ¬ (Value.type "tuple" = Value.type "list"); decide)

theorem snd_meth {o : PV} {name : Str} {args : List PV} {us : List Value} {T id : String} (hm : MethId name T id) (e : pmeth o name args S = some (v, S')) (R : SR B ads S s.heap) (r1 : VR s.heap ads u1 o) (ra : VRs s.heap ads us args) (h : Post B s ads S' v Q) :
    wpAny (model B.prog B.w) A (call (.builtin id) (u1 :: us)) Q E s := by
  have hll := lineLen_le
  have hld : lineLen = 100000 := rfl
  have hsl : sizeLine = 16777216 := sizeLine_eq
  have n12 : ("append" : Str) ≠ ("extend" : Str) := by decide +kernel
  obtain ⟨n, q1, q2⟩ := tkR_some e; clear e; revert q2; subst q1; intro e
  apply VR.refE (r1); intro x ax
  rcases PM.or_some e with ⟨hn, e⟩ | ⟨_, e⟩
  · obtain ⟨w, q1, q2⟩ := tk1_some e; clear e; revert q2; subst q1; intro e
    apply VRs.oneE ra; intro u r
    have hn : name = ("append" : Str) := by simpa using hn
    subst hn
    obtain ⟨rfl, rfl⟩ := hm.fun (.inl ⟨rfl, rfl, rfl⟩)
    refine bndL e ?_; clear e; intro xs g1 e
    refine iteE e ?_; clear e; intro hc e
    refine bndP e ?_; clear e; intro _ e
    obtain ⟨q1, q2⟩ := PM.ret_some e; clear e; subst q1 q2
    refine SR.objL R ax g1 ?_; intro ws k hx rx
    have hl := rx.length
    refine call_meets PySem.F.slot_list_append ⟨_, hx, rfl⟩ PySem.F.entry_list_append (PySem.F.args_list_append_2 _ _) (list_append x ws.toArray k u (by simp; exact om185 hld hsl hc hl)) ⟨hx, ?_⟩
    exact h _ _ _ (lst_update R ax hx (ws := ws ++ [u]) (by simp) (rx.append (.one r))) .none
  rcases PM.or_some e with ⟨hn, e⟩ | ⟨_, e⟩
  · obtain ⟨w, q1, q2⟩ := tk1_some e; clear e; revert q2; subst q1; intro e
    apply VRs.oneE ra; intro u r
    have hn : name = ("extend" : Str) := by simpa using hn
    subst hn
    obtain ⟨rfl, rfl⟩ := hm.fun (.inr (.inl ⟨rfl, rfl, rfl⟩))
    obtain ⟨j, q1, q2⟩ := tkR_some e; clear e; revert q2; subst q1; intro e
    refine bndL e ?_; clear e; intro xs g1 e
    refine bndL e ?_; clear e; intro ys g2 e
    refine iteE e ?_; clear e; intro hc e
    refine bndP e ?_; clear e; intro _ e
    obtain ⟨q1, q2⟩ := PM.ret_some e; clear e; subst q1 q2
    apply VR.refE (r); intro y ay
    refine SR.objL R ax g1 ?_; intro ws k hx rx
    refine SR.objL R ay g2 ?_; intro zs k2 hy ry
    have hl := rx.length
    have hl2 := ry.length
    simp only [Bool.and_eq_true, decide_eq_true_eq] at hc
    have hz : ws.toArray.size + zs.toArray.size ≤ 100000 := by simp; exact om186 hld hl hl2 hc
    refine call_meets PySem.F.slot_list_extend ⟨_, hx, rfl⟩ PySem.F.entry_list_extend (PySem.F.args_list_extend_2 _ _) (AutoSeq1.list_extend_list_list_0 x ws.toArray k y zs.toArray k2 ?_ (by exact om187 hsl hz) (by exact om188 hsl hz)) ⟨hx, hy, ?_⟩
    · intro hq
      rw [Bool.and_eq_true] at hq
      have := hq.2
      unfold Builtin.List.listTooLong at this
      simp at this
      omega
    · exact h _ _ _ (lst_update R ax hx (ws := ws ++ zs) (by simp) (rx.append ry)) .none
  rcases PM.or_some e with ⟨hn, e⟩ | ⟨_, e⟩
  · obtain ⟨rfl, e⟩ := tk0_some e
    cases ra
    have hn : name = ("pop" : Str) := by simpa using hn
    subst hn
    obtain ⟨rfl, rfl⟩ := hm.fun (.inr (.inr (.inl ⟨rfl, rfl, rfl⟩)))
    refine bndL e ?_; clear e; intro xs g1 e
    cases hw : xs.getLast? with
    | none => rw [hw] at e; cases e
    | some w =>
      rw [hw] at e
      refine iteE e ?_; clear e; intro hc e
      refine bndP e ?_; clear e; intro _ e
      obtain ⟨q1, q2⟩ := PM.ret_some e; clear e; subst q1 q2
      refine SR.objL R ax g1 ?_; intro ws k hx rx
      have hl := rx.length
      obtain ⟨ys, rfl⟩ : ∃ ys, xs = ys ++ [w] := by
        have := List.getLast?_eq_some_iff.mp hw
        exact this
      obtain ⟨us', u, rfl, ra, rb⟩ := rx.splitLast
      rw [List.dropLast_concat] at h
      refine call_meets PySem.F.slot_list_pop ⟨_, hx, rfl⟩ PySem.F.entry_list_pop (PySem.F.args_list_pop_1 _) (MeetsSeq.list_pop_last x (us' ++ [u]).toArray k u (by simp) (by simp at hl hc ⊢; exact om189 hld hsl hl hc)) ⟨hx, ?_⟩
      refine h u _ ads (lst_update R ax hx (ws := us') ?_ ra) ?_
      · have hlast : ∀ (l : List Value) (c : Value), (l ++ [c]).eraseIdx l.length = l := by
          intro l c
          rw [List.eraseIdx_append_of_length_le (Nat.le_refl _)]
          simp
        show (us' ++ [u]).toArray.eraseIdxIfInBounds ((us' ++ [u]).toArray.size - 1) = us'.toArray
        rw [show (us' ++ [u]).toArray.size - 1 = us'.length by simp]
        unfold Array.eraseIdxIfInBounds
        rw [dif_pos (by simp)]
        apply Array.ext'
        rw [Array.toList_eraseIdx]
        exact hlast us' u
      · refine rb.mono (fun b us n e => ?_) ⟨[], by simp⟩
        exact (Heap.get?_update_other _ _ (Ne.symm (ne_of_cls e hx (by show ¬ (Value.type "tuple" = Value.type "list"); decide)))).trans e
  rcases PM.or_some e with ⟨hn, e⟩ | ⟨_, e⟩
  · obtain ⟨z0, dflt, rfl, e⟩ := tk2_some e
    obtain ⟨z, q1, q2⟩ := tkS_some e; clear e; revert q2; subst q1; intro e
    have hn : name = ("get" : Str) := by simpa using hn
    subst hn
    obtain ⟨rfl, rfl⟩ := hm.fun (.inr (.inr (.inr ⟨rfl, rfl, rfl⟩)))
    refine bndD e ?_; clear e; intro es g1 e
    obtain ⟨q1, q2⟩ := PM.ret_some e; clear e; subst q1 q2
    cases ra with
    | cons c1 c2 =>
    apply VRs.oneE c2; intro du rd
    apply VR.strE (c1); intro t
    refine SR.objD R ax g1 ?_; intro us hy ry
    refine call_meetsIn PySem.F.slot_dict_get hy.mapOf.typeIs PySem.F.entry_dict_get (PySem.F.args_dict_get_3 _ _ _) (meets_dict_get_default (PySem.strKind B.prog B.w) x (isKey z t) (R.notSys (List.mem_of_getElem? ax)) du) ⟨_, hy.mapOf, ?_⟩
    refine h _ _ _ (.tok R _) ?_
    rcases ry.valueAt z with ⟨q1, q2⟩ | ⟨u, w, q1, q2, rr⟩
    · rw [q1, q2]; exact rd
    · rw [q1, q2]; exact rr
  exact (nofail e).elim
end
end Mine.Internal
end

section
open PySem PySem.W PyProof.Rows PySem.Spec PySem.Calls PySem.Builtin.Str
open AutoSeq1 (wpAny_loadPart')
namespace Mine.Internal

theorem meets_enumerate_newT (l : Addr) (items : Array Value) (n : Nat) :
    Meets (Builtin.«enumerate.__new__» ⟨[.type "enumerate", .ref l], []⟩) (fun _ R s => s.heap.get? l = some { cls := .type "tuple", dict := none, data := .seq items n, slots := #[] } ∧
      R (.ok (.ret (.ref (s.heap.push { cls := .type "tuple_iterator", data := .fields #[.ref l, .int 0 0] }).objs.size)))
        { s with heap := (s.heap.push { cls := .type "tuple_iterator", data := .fields #[.ref l, .int 0 0] }).push { cls := .type "enumerate", data := .fields #[.none, .bool false, .ref s.heap.objs.size, rawInt 0, .none, .none] } }) :=
  .of_wp fun prog w A R s h => by
    obtain ⟨hp, g, d, tk, os⟩ := s; obtain ⟨hl, h⟩ := h
    have hsub := sub_enumerate
    have hL : Heap.IsTuple (Shared.heap ⟨hp, g, d, tk, os⟩) l items := ⟨_, hl, rfl, n, rfl⟩
    wp_walk using wpAny_loadPart' hl
    refine wpAny_stack_any fun st => wpAny_pure ?_
    split
    · rename_i c _ _ _ _ _
      cases (c == Value.type "enumerate")
      · wp_walk using wpAny_loadPart' hl, wpAny_pyIter_tuple hL
        exact ⟨_, rfl, h⟩
      · wp_walk using wpAny_loadPart' hl, wpAny_pyIter_tuple hL
        exact ⟨_, rfl, h⟩
    · wp_walk using wpAny_loadPart' hl, wpAny_pyIter_tuple hL
      exact ⟨_, rfl, h⟩

section
variable {A : Around} {E : Value → Shared → Prop} {s : Shared} {B : Bs} {ads : List Addr} {S S' : St} {Q : Value → Shared → Prop} {u1 u2 : Value} {a b v : PV} {d : Nat} {C : Ctx}

theorem call_enumerate_tuple {prog : Program} {w : World} {l : Addr} {us : List Value} {n : Nat} {Q : Value → Shared → Prop} (hl : s.heap.get? l = some (tupO us n))
    (h : ∀ h', IsEnum h' (s.heap.objs.size + 1) s.heap.objs.size 0 .none → h'.IsTupleIter s.heap.objs.size l 0 → h'.objs.size = s.heap.objs.size + 2 →
      (∀ b o, s.heap.get? b = some o → h'.get? b = some o) → Q (.ref (s.heap.objs.size + 1)) { s with heap := h' }) :
    wpAny (model prog w) A (call (.type "enumerate") [.ref l]) Q E s := by
  refine callType_new PySem.F.called_enumerate (by decide) (PySem.F.typeCall_enumerate_1 _) (PySem.F.newCall_enumerate_1 _) (fun obj => PySem.F.args_object_init_2 obj _) PySem.F.entry_enumerate_new
    (meets_enumerate_newT l us.toArray n) ⟨hl, ?_⟩
  have hz : (s.heap.push { cls := .type "tuple_iterator", data := .fields #[.ref l, .int 0 0] }).objs.size = s.heap.objs.size + 1 := Heap.size_push ..
  show _ ∧ _
  rw [hz]
  have he : IsEnum ((s.heap.push { cls := .type "tuple_iterator", data := .fields #[.ref l, .int 0 0] }).push
      { cls := .type "enumerate", data := .fields #[.none, .bool false, .ref s.heap.objs.size, rawInt 0, .none, .none] }) (s.heap.objs.size + 1) s.heap.objs.size 0 .none := by
    have := Heap.get?_push_size (s.heap.push { cls := .type "tuple_iterator", data := .fields #[.ref l, .int 0 0] })
      (o := { cls := .type "enumerate", data := .fields #[.none, .bool false, .ref s.heap.objs.size, rawInt 0, .none, .none] }) rfl
    rw [hz] at this; exact this
  refine ⟨⟨_, he, rfl⟩, h _ he ⟨_, Heap.get?_push_of_some _ (Heap.get?_push_size _ rfl), rfl, rfl⟩ (by rw [Heap.size_push, hz]) fun b o x => Heap.get?_push_of_some _ (Heap.get?_push_of_some _ x)⟩

/-! ## what is walked -/
/-- the iterator's own addresses -/
structure Priv (B : Bs) (h : Heap) (ads : List Addr) (priv : List Addr) : Prop where
  off : ∀ b ∈ priv, b ∉ ads ∧ B.h0.get? b = none ∧ b ≠ B.L0
  there : ∀ b ∈ priv, ∃ o, h.get? b = some o ∧ o.cls ≠ .type "tuple"

/-- a step that changes the iterator's own addresses alone -/
theorem Nx.priv {priv : List Addr} {s' : Shared} (R : SR B ads S s.heap) (P : Priv B s.heap ads priv) (hs : Same s s') (hk : ∀ b o, b ∉ priv → s.heap.get? b = some o → s'.heap.get? b = some o) : Nx B (· ∈ priv) s ads s' ads S := by
  have tk : TupKeep s.heap s'.heap := fun b us n e => hk b _ (fun q => by
    obtain ⟨o, e', hc⟩ := P.there b q
    rw [e] at e'
    exact hc (by rw [← Option.some.inj e'])) e
  have pre : ∃ more, ads = ads ++ more := ⟨[], (List.append_nil _).symm⟩
  refine ⟨hs, ⟨fun b o e => ?_, R.len, R.nodup, R.fresh, ?_, fun n o e => ?_⟩, ⟨pre, fun _ h => .inl h, fun b o e _ n2 => hk b o n2 e, fun b o e n2 => ⟨o, hk b o n2 e⟩, tk⟩⟩
  · exact hk b o (fun q => by have := (P.off b q).2.1; rw [this] at e; cases e) (R.base b o e)
  · obtain ⟨o, e⟩ := R.live
    exact ⟨o, hk _ _ (fun q => (P.off _ q).2.2 rfl) e⟩
  · obtain ⟨a, ea, r⟩ := R.objs n o e
    obtain ⟨ob, eo, _⟩ := r.alive
    exact ⟨a, ea, r.mono tk pre ((hk a ob (fun q => (P.off a q).1 (List.mem_of_getElem? ea)) eo).trans eo.symm)⟩

inductive ItR (B : Bs) (h : Heap) (ads : List Addr) : Src → Addr → Nat → List Addr → Prop
  | vals {vs : List PV} {I : Addr} {i : Nat} {t : Addr} {us : List Value} {n : Nat} : h.IsTupleIter I t i → h.get? t = some (tupO us n) → VRs h ads us vs → Priv B h ads [I] → ItR B h ads (.vals vs) I i [I]
  | live {n : Nat} {I l : Addr} {i : Nat} : h.IsListIter I l i → ads[n]? = some l → Priv B h ads [I] → ItR B h ads (.live n) I i [I]
  | enumV {vs : List PV} {e it : Addr} {i : Nat} {t : Addr} {us : List Value} {n : Nat} {old : Value} : IsEnum h e it i old → h.IsTupleIter it t i → h.get? t = some (tupO us n) → VRs h ads us vs → e ≠ it → Priv B h ads [e, it] → ItR B h ads (.enumV vs) e i [e, it]
  | enumL {n : Nat} {e it l : Addr} {i : Nat} {old : Value} : IsEnum h e it i old → h.IsListIter it l i → ads[n]? = some l → e ≠ it → Priv B h ads [e, it] → ItR B h ads (.enumL n) e i [e, it]
  | rng {k : Nat} {I : Addr} {i : Nat} : i ≤ k → IsRangeIter h I i ((k - i : Nat) : Int) 1 → Priv B h ads [I] → ItR B h ads (.rng k) I i [I]

theorem ItR.priv {h : Heap} {src : Src} {I : Addr} {i : Nat} {priv : List Addr} (x : ItR B h ads src I i priv) : Priv B h ads priv := by cases x <;> assumption

theorem Priv.ext {own : Addr → Prop} {h h' : Heap} {ads' : List Addr} {priv : List Addr} (P : Priv B h ads priv) (x : Ext own ads h ads' h') (ho : ∀ b ∈ priv, ¬ own b) : Priv B h' ads' priv :=
  ⟨fun b hb => ⟨news_off x (P.there b hb).choose_spec.1 (P.off b hb).1 (ho b hb), (P.off b hb).2⟩, fun b hb => by
    obtain ⟨o, e, c⟩ := P.there b hb
    exact ⟨o, x.keep b o e (P.off b hb).1 (ho b hb), c⟩⟩

theorem ItR.ext {own : Addr → Prop} {h h' : Heap} {ads' : List Addr} {src : Src} {I : Addr} {i : Nat} {priv : List Addr} (x : ItR B h ads src I i priv) (X : Ext own ads h ads' h') (ho : ∀ b ∈ priv, ¬ own b) : ItR B h' ads' src I i priv := by
  have P' := x.priv.ext X ho
  have keep : ∀ b ∈ priv, ∀ o, h.get? b = some o → h'.get? b = some o := fun b hb o e => X.keep b o e (x.priv.off b hb).1 (ho b hb)
  have pre : ∀ {n : Nat} {l : Addr}, ads[n]? = some l → ads'[n]? = some l := by
    intro n l e
    obtain ⟨m, rfl⟩ := X.pre
    rw [List.getElem?_append_left (List.getElem?_eq_some_iff.mp e).1]; exact e
  cases x with
  | vals h1 h2 h3 _ => exact .vals (h1.at fun o e => keep _ (by simp) o e) (X.tup _ _ _ h2) (X.vrs h3) P'
  | live h1 h2 _ => exact .live (h1.at fun o e => keep _ (by simp) o e) (pre h2) P'
  | enumV h0 h1 h2 h3 h4 _ => exact .enumV (keep _ (by simp) _ h0) (h1.at fun o e => keep _ (by simp) o e) (X.tup _ _ _ h2) (X.vrs h3) h4 P'
  | enumL h0 h1 h2 h4 _ => exact .enumL (keep _ (by simp) _ h0) (h1.at fun o e => keep _ (by simp) o e) (pre h2) h4 P'
  | rng h1 h2 _ => exact .rng h1 (keep _ (by simp) _ h2) P'

theorem Priv.new (R : SR B ads S s.heap) {h' : Heap} {priv : List Addr} (h1 : ∀ b ∈ priv, s.heap.objs.size ≤ b) (h2 : ∀ b ∈ priv, ∃ o, h'.get? b = some o ∧ o.cls ≠ .type "tuple") : Priv B h' ads priv where
  off := fun b hb => by
    have q := h1 b hb
    refine ⟨fun hm => ?_, ?_, ?_⟩
    · obtain ⟨o, e, _⟩ := R.alive hm
      exact absurd (Heap.lt_size e) (Nat.not_lt.mpr q)
    · exact Heap.get?_none_of_le (Nat.le_trans (Nat.le_of_lt R.big) q)
    · obtain ⟨o, e⟩ := R.live
      rintro rfl
      exact absurd (Heap.lt_size e) (Nat.not_lt.mpr q)
  there := h2

noncomputable abbrev PostI (B : Bs) (s : Shared) (ads : List Addr) (S : St) (src : Src) (Q : Value → Shared → Prop) : Prop :=
  ∀ I priv s' ads', Nx B none' s ads s' ads' S → ItR B s'.heap ads' src I 0 priv → (∀ b ∈ priv, s.heap.get? b = none) → Q (.ref I) s'

theorem ge_none {h : Heap} {b : Addr} (q : h.objs.size ≤ b) : h.get? b = none := Heap.get?_none_of_le q

theorem snd_srcOf {src : Src} (e : srcOf v S = some (src, S')) (R : SR B ads S s.heap) (r1 : VR s.heap ads u1 v) (h : PostI B s ads S' src Q) : wpAny (model B.prog B.w) A (pyIter u1) Q E s := by
  unfold srcOf at e
  split at e
  · refine iteE e ?_; clear e; intro hc e
    obtain ⟨q1, q2⟩ := PM.ret_some e; clear e; subst q1 q2
    apply VR.tupE (r1); intro x us n hx rx
    refine wpAny_pyIter_tuple (isTuple_of hx) ?_
    have N := Nx.push (own := none') R { cls := .type "tuple_iterator", data := .fields #[.ref x, .int 0 0] } s.toks
    have g : (s.heap.push { cls := .type "tuple_iterator", data := .fields #[.ref x, .int 0 0] }).get? s.heap.objs.size = some { cls := .type "tuple_iterator", data := .fields #[.ref x, .int 0 0] } := Heap.get?_push_size _ rfl
    refine h _ [s.heap.objs.size] _ ads N (.vals ⟨_, g, rfl, rfl⟩ (N.ext.tup _ _ _ hx) (N.ext.vrs rx) (Priv.new R (by simp) ?_)) (by simp [ge_none])
    simp only [List.mem_singleton, forall_eq]
    exact ⟨_, g, by show ¬ (Value.type "tuple_iterator" = Value.type "tuple"); decide⟩
  · refine bndL e ?_; clear e; intro xs g1 e
    obtain ⟨q1, q2⟩ := PM.ret_some e; clear e; subst q1 q2
    apply VR.refE (r1); intro x ax
    refine SR.objL R ax g1 ?_; intro us n hx rx
    refine wpAny_pyIter_list (isList_of hx) ?_
    have N := Nx.push (own := none') R { cls := .type "list_iterator", data := .fields #[.ref x, .int 0 0] } s.toks
    have g : (s.heap.push { cls := .type "list_iterator", data := .fields #[.ref x, .int 0 0] }).get? s.heap.objs.size = some { cls := .type "list_iterator", data := .fields #[.ref x, .int 0 0] } := Heap.get?_push_size _ rfl
    refine h _ [s.heap.objs.size] _ ads N (.live ⟨_, g, rfl, rfl⟩ ax (Priv.new R (by simp) ?_)) (by simp [ge_none])
    simp only [List.mem_singleton, forall_eq]
    exact ⟨_, g, by show ¬ (Value.type "list_iterator" = Value.type "tuple"); decide⟩
  · cases e

theorem snd_enumOf {src : Src} (e : enumOf v S = some (src, S')) (R : SR B ads S s.heap) (r1 : VR s.heap ads u1 v) (h : PostI B s ads S' src Q) : wpAny (model B.prog B.w) A (call (.type "enumerate") [u1]) (fun x s₁ => wpAny (model B.prog B.w) A (pyIter x) Q E s₁) E s := by
  have two : ∀ {it e : Addr} {o : Obj} {h' : Heap} {old : Value}, it = s.heap.objs.size → e = s.heap.objs.size + 1 → h'.get? it = some o → o.cls ≠ .type "tuple" → IsEnum h' e it 0 old → Priv B h' ads [e, it] := by
    intro it e o h' old h1 h2 h3 h4 h5
    refine Priv.new R ?_ ?_
    · intro b hb
      simp only [List.mem_cons, List.not_mem_nil, or_false] at hb
      rcases hb with rfl | rfl
      · rw [h2]; exact Nat.le_succ _
      · rw [h1]; exact Nat.le_refl _
    · intro b hb
      simp only [List.mem_cons, List.not_mem_nil, or_false] at hb
      rcases hb with rfl | rfl
      · exact ⟨_, h5, by show ¬ (Value.type "enumerate" = Value.type "tuple"); decide⟩
      · exact ⟨_, h3, h4⟩
  have nn : ∀ b ∈ [s.heap.objs.size + 1, s.heap.objs.size], s.heap.get? b = none := by
    intro b hb
    simp only [List.mem_cons, List.not_mem_nil, or_false] at hb
    rcases hb with rfl | rfl
    · exact ge_none (Nat.le_succ _)
    · exact ge_none (Nat.le_refl _)
  unfold enumOf at e
  split at e
  · refine iteE e ?_; clear e; intro hc e
    obtain ⟨q1, q2⟩ := PM.ret_some e; clear e; subst q1 q2
    apply VR.tupE (r1); intro x us n hx rx
    refine call_enumerate_tuple hx fun h' he hi hsz hk => ?_
    have N := Nx.keep (own := none') (s' := { s with heap := h' }) R ⟨rfl, rfl⟩ hk
    obtain ⟨oi, g1, g2, g3⟩ := id hi
    refine wpAny_pyIter_enum he (h _ [s.heap.objs.size + 1, s.heap.objs.size] _ ads N (.enumV he hi (N.ext.tup _ _ _ hx) (N.ext.vrs rx) (Nat.succ_ne_self _) (two rfl rfl g1 (by rw [g2]; decide) he)) nn)
  · refine bndL e ?_; clear e; intro xs g1 e
    obtain ⟨q1, q2⟩ := PM.ret_some e; clear e; subst q1 q2
    apply VR.refE (r1); intro x ax
    refine SR.objL R ax g1 ?_; intro us n hx rx
    refine call_enumerate_list (isList_of hx) fun h' he hi hsz hk => ?_
    have N := Nx.keep (own := none') (s' := { s with heap := h' }) R ⟨rfl, rfl⟩ hk
    obtain ⟨oi, g1, g2, g3⟩ := id hi
    refine wpAny_pyIter_enum he (h _ [s.heap.objs.size + 1, s.heap.objs.size] _ ads N (.enumL he hi ax (Nat.succ_ne_self _) (two rfl rfl g1 (by rw [g2]; decide) he)) nn)
  · cases e

theorem letGo_plain {M : Model} {t : Expr} {I : Addr} {o : Obj} {u : Value} {Q : Unit → Shared → Prop} (hI : s.heap.get? I = some o) (hc : o.cls = .type "list_iterator" ∨ o.cls = .type "tuple_iterator" ∨ o.cls = .type "range_iterator") (h : Q () s) :
    wpAny M A (letOwnedTupleGo t (.ref I) u) Q E s := by
  have inner : wpAny M A (letOwnedTupleGo (.Tuple [] 0 ⟨0, 0, 0, 0⟩) (.ref I) u) Q E s := by
    cases u with
    | ref a =>
      show wpAny M A (load I >>= _) Q E s
      refine wpAny_bind (wpAny_load hI ?_)
      have : ∀ (x : Sem Unit), wpAny M A (match o.cls, o.data with
          | .type n, .fields vs => if ["enumerate", "zip", "dict_itemiterator", "dict_reverseitemiterator", "odict_iterator", "itertools.zip_longest", "itertools.pairwise"].contains n && vs[0]? == some (rawInt a) then x else pure ()
          | _, _ => pure ()) Q E s := by
        intro x
        split
        · rename_i n vs hcl hda
          rw [hcl] at hc
          rw [if_neg]
          · exact wpAny_pure h
          · rcases hc with q | q | q <;> (cases q; simp)
        · exact wpAny_pure h
      exact this _
    | _ => exact wpAny_pure h
  cases t <;> first | exact wpAny_pure h | exact inner

theorem enum_step {prog : Program} {w : World} {us : List Value} {e it : Addr} {fp : List Addr} {i : Nat} {St : Nat → Heap → Prop} {old : Value} {t : Expr} {Qn : Shared → Prop} {Qs : Value → Shared → Prop} (ht : ∃ elts k pos, t = .Tuple elts k pos)
    (D : Draws prog w A.in1 it fp us.length (fun j x => us[j]? = some x) St) (he : IsEnum s.heap e it i old) (hst : St i s.heap) (hlt : i < us.length) (hne : e ≠ it) (hef : e ∉ fp)
    (h : ∀ x h' tk tk' T, us[i]? = some x → IsEnum h' e it ((i + 1 : Nat) : Int) x → St (i + 1) h' → h'.get? T = some (tupO [.int i tk', x] 0) → (∀ b o, b ≠ e → b ≠ it → s.heap.get? b = some o → h'.get? b = some o) → Qs (.ref T) { s with heap := h', toks := tk }) :
    wpAny (model prog w) A (pyNext (.ref e)) (fun r s₁ => match r with
      | none => Qn s₁
      | some v => wpAny (model prog w) A (letOwnedTupleGo t (.ref e) v) (fun _ s' => Qs v s') E s₁) E s := by
  obtain ⟨elts, k, pos, rfl⟩ := ht
  have hel := Heap.lt_size he
  refine wpAny_pyNext_enum_itemD D he hst hlt hne hef fun x h' tk hx ho hs' hT hsz hk => ?_
  refine wpAny_letOwnedTupleGo_enum ho fun h'' he'' hsb => ?_
  replace hsb : Heap.SameBut e h' h'' := hsb
  refine h x h'' (tk + 1) tk s.heap.objs.size hx ?_ (D.frame _ _ _ hs' fun b hb o y => hsb.extBut b o (fun q => hef (q ▸ hb)) y) (hsb.extBut _ _ (Nat.ne_of_gt hel) hT) fun b o h1 h2 h3 => hsb.extBut b o h1 (hk b o h1 h2 h3)
  have e1 : ((i : Nat) : Int) + 1 = ((i + 1 : Nat) : Int) := by exact om58
  rw [← e1]
  exact he''

theorem enum_end {prog : Program} {w : World} {e it : Addr} {i : Int} {old : Value} {Q : Option Value → Shared → Prop} (he : IsEnum s.heap e it i old)
    (hnext : ∀ (Q' : Value → Shared → Prop) (E' : Value → Shared → Prop), (∀ h' x, Heap.ExtBut it s.heap h' → (∃ o, h'.get? x = some o ∧ o.cls = .type "StopIteration") → E' (.ref x) { s with heap := h' }) → wpAny (model prog w) A.in1 (Builtin.SmallTypes.nextOf (.ref it)) Q' E' s)
    (hQ : ∀ h', Heap.ExtBut it s.heap h' → Q none { s with heap := h' }) : wpAny (model prog w) A (pyNext (.ref e)) Q E s := by
  have hT : s.TypeIs (.ref e) "enumerate" := ⟨_, he, rfl⟩
  unfold pyNext
  refine wpAny_bind (wpAny_attempt (wpAny_callSpecial?_slot (name := Str.ofString "__next__") hT PySem.F.slot_enumerate_next
    (wpAny_call_entry PySem.F.slot_enumerate_next hT PySem.F.entry_enumerate_next ?_ (PySem.F.args_enumerate_next_1 _))))
  show wpAny _ _ (field (.ref e) 2 >>= _) _ _ _
  refine wpAny_bind (wpAny_field he rfl (x := .ref it) rfl ?_)
  refine wpAny_bind (hnext _ _ fun h' x he' hx' => ?_)
  obtain ⟨o, ho, hc⟩ := hx'
  refine wpAny_bind (wpAny_isInstance (T := "StopIteration") (b := true) ⟨o, ho, hc⟩ isSubtype_stop ?_)
  exact wpAny_pure (hQ _ he')

theorem isTupE_some {t : Expr} (h : isTupE t = true) : ∃ elts k pos, t = .Tuple elts k pos := by cases t <;> first | exact ⟨_, _, _, rfl⟩ | cases h
/-- one draw of an iterator, and the letting go of an enumerate's pair -/
theorem snd_iter (hh : A.handled = none) {src : Src} {I : Addr} {i : Nat} {priv : List Addr} {r : Option PV} {t : Expr} (e : pat src i S = some (r, S')) (R : SR B ads S s.heap) (X : ItR B s.heap ads src I i priv) (ht : srcOk src t = true)
    {Qn : Shared → Prop} {Qs : Value → Shared → Prop} (hn : r = none → ∀ s', Nx B (· ∈ priv) s ads s' ads S → Qn s')
    (hs : ∀ pv, r = some pv → ∀ u s', Nx B (· ∈ priv) s ads s' ads S → ItR B s'.heap ads src I (i + 1) priv → VR s'.heap ads u pv → Qs u s') :
    wpAny (model B.prog B.w) A (pyNext (.ref I)) (fun r s₁ => match r with
      | none => Qn s₁
      | some v => wpAny (model B.prog B.w) A (letOwnedTupleGo t (.ref I) v) (fun _ s' => Qs v s') E s₁) E s := by
  have P := X.priv
  cases X with
  | @vals vs I i x us n h1 h2 h3 _ =>
    obtain ⟨q1, q2⟩ := PM.ret_some e; clear e; subst q1 q2
    cases hx : vs[i]? with
    | none =>
      have hx' : us.toArray[i]? = none := by
        have := h3.length
        rw [List.getElem?_toArray]
        rw [List.getElem?_eq_none_iff] at hx ⊢
        exact om59 hx this
      exact wpAny_pyNext_tuple_end hh h1 (isTuple_of h2) hx' fun h' hb => hn hx _ (Nx.priv R P ⟨rfl, rfl⟩ fun b o q e => hb b o (by simpa using q) e)
    | some pv =>
      obtain ⟨u, hu, ru⟩ := h3.get hx
      refine wpAny_pyNext_tuple_item h1 (isTuple_of h2) (by simpa using hu) fun h' hi hb => ?_
      have N := Nx.priv (s' := { s with heap := h' }) R P ⟨rfl, rfl⟩ fun b o q e => hb.extBut b o (by simpa using q) e
      obtain ⟨oi, g1, g2, g3⟩ := id hi
      refine letGo_plain g1 (.inr (.inl g2)) (hs pv hx u _ N (.vals hi (N.ext.tup _ _ _ h2) (N.ext.vrs h3) ⟨P.off, ?_⟩) (N.ext.vr ru))
      simp only [List.mem_singleton, forall_eq]
      exact ⟨_, g1, by rw [g2]; decide⟩
  | @live n I l i h1 h2 _ =>
    refine bndL e ?_; clear e; intro vs g1 e
    obtain ⟨q1, q2⟩ := PM.ret_some e; clear e; subst q1 q2
    refine SR.objL R h2 g1 ?_; intro us k hx rx
    cases hxi : vs[i]? with
    | none =>
      have hx' : us.toArray[i]? = none := by
        have := rx.length
        rw [List.getElem?_toArray]
        rw [List.getElem?_eq_none_iff] at hxi ⊢
        exact om59 hxi this
      exact wpAny_pyNext_list_end hh h1 (isList_of hx) hx' fun h' hb => hn hxi _ (Nx.priv R P ⟨rfl, rfl⟩ fun b o q e => hb b o (by simpa using q) e)
    | some pv =>
      obtain ⟨u, hu, ru⟩ := rx.get hxi
      refine wpAny_pyNext_list_item h1 (isList_of hx) (by simpa using hu) fun h' hi hb => ?_
      have N := Nx.priv (s' := { s with heap := h' }) R P ⟨rfl, rfl⟩ fun b o q e => hb.extBut b o (by simpa using q) e
      obtain ⟨oi, g1, g2, g3⟩ := id hi
      refine letGo_plain g1 (.inl g2) (hs pv hxi u _ N (.live hi h2 ⟨P.off, ?_⟩) (N.ext.vr ru))
      simp only [List.mem_singleton, forall_eq]
      exact ⟨_, g1, by rw [g2]; decide⟩
  | @enumV vs e' it i x us n old h0 h1 h2 h3 hne _ =>
    obtain ⟨q1, q2⟩ := PM.ret_some e; clear e; subst q1 q2
    have htt : ∃ elts k pos, t = .Tuple elts k pos := by
      exact isTupE_some ht
    obtain ⟨oi, g1, g2, g3⟩ := id h1
    have hxi : x ≠ it := ne_of_cls h2 g1 (by rw [g2]; show ¬ (Value.type "tuple" = _); decide)
    have hxe : I ≠ x := ne_of_cls h0 h2 (by show ¬ (Value.type "enumerate" = Value.type "tuple"); decide)
    have D : Draws B.prog B.w A.in1 it [it, x] us.length (fun j v => us[j]? = some v) (fun i h => h.IsTupleIter it x i ∧ h.IsTuple x us.toArray) := by
      have := Draws.tuple (prog := B.prog) (w := B.w) (A := A.in1) hh it x hxi us.toArray
      simpa using this
    have hl := h3.length
    cases hx : vs[i]? with
    | none =>
      have hx' : us.toArray[i]? = none := by
        rw [List.getElem?_toArray]
        rw [List.getElem?_eq_none_iff] at hx ⊢
        exact om60 hl hx
      exact enum_end h0 (fun Q' E' hE => nextOf_tuple_end (A := A.in1) hh h1 (isTuple_of h2) hx' hE) fun h' hb => hn (by rw [hx]; rfl) _ (Nx.priv R P ⟨rfl, rfl⟩ fun b o q e => hb b o (fun z => q (by simp [z])) e)
    | some pv =>
      obtain ⟨u, hu, ru⟩ := h3.get hx
      refine enum_step htt D h0 ⟨h1, isTuple_of h2⟩ (List.getElem?_eq_some_iff.mp hu).1 hne (by simp [hne, hxe]) fun y h' tk tk' T hy he hst hT hk => ?_
      rw [hu] at hy
      cases hy
      have N := Nx.priv (s' := { s with heap := h', toks := tk }) R P ⟨rfl, rfl⟩ fun b o q e => hk b o (fun z => q (by simp [z])) (fun z => q (by simp [z])) e
      obtain ⟨oi', g1', g2', g3'⟩ := id hst.1
      refine hs _ (by rw [hx]; rfl) _ _ N (.enumV he hst.1 (N.ext.tup _ _ _ h2) (N.ext.vrs h3) hne ⟨P.off, ?_⟩) (.tup hT (.cons (.int _ _) (.cons (N.ext.vr ru) .nil)))
      intro b hb
      simp only [List.mem_cons, List.not_mem_nil, or_false] at hb
      rcases hb with rfl | rfl
      · exact ⟨_, he, by show ¬ (Value.type "enumerate" = Value.type "tuple"); decide⟩
      · exact ⟨_, g1', by rw [g2']; decide⟩
  | @enumL n e' it l i old h0 h1 h2 hne _ =>
    refine bndL e ?_; clear e; intro vs g1 e
    obtain ⟨q1, q2⟩ := PM.ret_some e; clear e; subst q1 q2
    refine SR.objL R h2 g1 ?_; intro us k hx rx
    have htt : ∃ elts k pos, t = .Tuple elts k pos := by
      exact isTupE_some ht
    obtain ⟨oi, g1, g2, g3⟩ := id h1
    have hxi : l ≠ it := ne_of_cls hx g1 (by rw [g2]; show ¬ (Value.type "list" = _); decide)
    have hxe : I ≠ l := ne_of_cls h0 hx (by show ¬ (Value.type "enumerate" = Value.type "list"); decide)
    have D : Draws B.prog B.w A.in1 it [it, l] us.length (fun j v => us[j]? = some v) (fun i h => h.IsListIter it l i ∧ h.IsList l us.toArray) := by
      have := Draws.list (prog := B.prog) (w := B.w) (A := A.in1) hh it l hxi us.toArray
      simpa using this
    have hl := rx.length
    cases hxv : vs[i]? with
    | none =>
      have hx' : us.toArray[i]? = none := by
        rw [List.getElem?_toArray]
        rw [List.getElem?_eq_none_iff] at hxv ⊢
        exact om60 hl hxv
      exact enum_end h0 (fun Q' E' hE => wpAny_nextOf_list_end (A := A.in1) hh h1 (isList_of hx) hx' hE) fun h' hb => hn (by rw [hxv]; rfl) _ (Nx.priv R P ⟨rfl, rfl⟩ fun b o q e => hb b o (fun z => q (by simp [z])) e)
    | some pv =>
      obtain ⟨u, hu, ru⟩ := rx.get hxv
      refine enum_step htt D h0 ⟨h1, isList_of hx⟩ (List.getElem?_eq_some_iff.mp hu).1 hne (by simp [hne, hxe]) fun y h' tk tk' T hy he hst hT hk => ?_
      rw [hu] at hy
      cases hy
      have N := Nx.priv (s' := { s with heap := h', toks := tk }) R P ⟨rfl, rfl⟩ fun b o q e => hk b o (fun z => q (by simp [z])) (fun z => q (by simp [z])) e
      obtain ⟨oi', g1', g2', g3'⟩ := id hst.1
      refine hs _ (by rw [hxv]; rfl) _ _ N (.enumL he hst.1 h2 hne ⟨P.off, ?_⟩) (.tup hT (.cons (.int _ _) (.cons (N.ext.vr ru) .nil)))
      intro b hb
      simp only [List.mem_cons, List.not_mem_nil, or_false] at hb
      rcases hb with rfl | rfl
      · exact ⟨_, he, by show ¬ (Value.type "enumerate" = Value.type "tuple"); decide⟩
      · exact ⟨_, g1', by rw [g2']; decide⟩
  | @rng k I i hik h1 _ =>
    obtain ⟨q1, q2⟩ := PM.ret_some e; clear e; subst q1 q2
    by_cases hlt : i < k
    · rw [if_pos hlt] at hs
      refine wpAny_pyNext_range_item h1 (by exact om190 hlt) fun h' hi hb => ?_
      have N := Nx.priv (s' := { s with heap := h', toks := s.toks + 1 }) R P ⟨rfl, rfl⟩ fun b o q e => hb.extBut b o (by simpa using q) e
      have hi' : IsRangeIter h' I (((i + 1 : Nat) : Int)) ((k - (i + 1) : Nat) : Int) 1 := by
        have e1 : ((i : Nat) : Int) + 1 = ((i + 1 : Nat) : Int) := by exact om58
        have e2 : ((k - i : Nat) : Int) - 1 = ((k - (i + 1) : Nat) : Int) := by exact om191 hlt
        rw [e1, e2] at hi
        exact hi
      refine letGo_plain hi' (.inr (.inr rfl)) (hs _ rfl _ _ N (.rng (by exact om5 hlt) hi' ⟨P.off, ?_⟩) (.int _ _))
      simp only [List.mem_singleton, forall_eq]
      exact ⟨_, hi', by show ¬ (Value.type "range_iterator" = Value.type "tuple"); decide⟩
    · rw [if_neg hlt] at hn
      exact wpAny_pyNext_range_end hh h1 (by exact om192 hlt) fun h' hb => hn rfl _ (Nx.priv R P ⟨rfl, rfl⟩ fun b o q e => hb b o (by simpa using q) e)

theorem snd_range {k : Int} (hk : 0 ≤ k) (hk2 : k ≤ 1000) {tk : Tok} (R : SR B ads S s.heap) (h : PostI B s ads S (.rng k.toNat) Q) : wpAny (model B.prog B.w) A (call (.type "range") [.int k tk]) (fun x s₁ => wpAny (model B.prog B.w) A (pyIter x) Q E s₁) E s := by
  refine call_range_1 ?_
  have N := Nx.push (own := none') R { cls := .type "range", data := .fields #[.int 0 s.toks, .int k tk, .int 1 (s.toks + 1)] } (s.toks + 1 + 1)
  have hsize : Builtin.Range.rangeSize 0 k 1 = ((k.toNat : Nat) : Int) := by
    unfold Builtin.Range.rangeSize
    simp
    omega
  refine wpAny_pyIter_range (IsRange.new ..) ?_ ?_
  · unfold Builtin.Range.small
    rw [hsize]
    unfold Builtin.Range.rangeFitsLong
    simp
    exact om193 hk hk2
  · rw [hsize]
    have N2 := N.trans (Nx.push (own := none') N.sr { cls := .type "range_iterator", data := .fields #[rawInt 0, rawInt ((k.toNat : Nat) : Int), rawInt 1] } (s.toks + 1 + 1))
    have g : ((s.heap.push { cls := .type "range", data := .fields #[.int 0 s.toks, .int k tk, .int 1 (s.toks + 1)] }).push { cls := .type "range_iterator", data := .fields #[rawInt 0, rawInt ((k.toNat : Nat) : Int), rawInt 1] }).get? (s.heap.push { cls := .type "range", data := .fields #[.int 0 s.toks, .int k tk, .int 1 (s.toks + 1)] }).objs.size = some { cls := .type "range_iterator", data := .fields #[rawInt 0, rawInt ((k.toNat : Nat) : Int), rawInt 1] } := Heap.get?_push_size _ rfl
    refine h _ [(s.heap.push { cls := .type "range", data := .fields #[.int 0 s.toks, .int k tk, .int 1 (s.toks + 1)] }).objs.size] _ ads N2 (.rng (Nat.zero_le _) (by simpa using g) (Priv.new N.sr (by simp) ?_)) ?_
    · simp only [List.mem_singleton, forall_eq]
      exact ⟨_, g, by show ¬ (Value.type "range_iterator" = Value.type "tuple"); decide⟩
    · simp only [List.mem_singleton, forall_eq]
      rw [Heap.size_push]
      exact ge_none (Nat.le_succ _)
end
end Mine.Internal
end

section
open PySem PySem.W PyProof.Rows PySem.Spec PySem.Calls PySem.Builtin.Str
namespace Mine.Internal

theorem nodupS_iff : ∀ l : List Str, nodupS l = true ↔ l.Nodup
  | [] => by simp [nodupS]
  | x :: r => by simp [nodupS, nodupS_iff r, List.nodup_cons]

theorem bindAll_get : ∀ (xs : List Str) (vs : List PV) (m : Fm) (y : Str), xs.Nodup → xs.length = vs.length → bindAll m xs vs y = match (xs.zip vs).find? (fun p => decide (p.1 = y)) with | some p => some p.2 | none => m y
  | [], vs, m, y, _, _ => by cases vs <;> rfl
  | x :: xs, [], m, y, _, h => by simp at h
  | x :: xs, v :: vs, m, y, hn, h => by
    rw [List.nodup_cons] at hn
    rw [bindAll, bindAll_get xs vs _ y hn.2 (by simpa using h), List.zip_cons_cons, List.find?_cons]
    by_cases q : x = y
    · subst q
      simp only [decide_true]
      have : (xs.zip vs).find? (fun p => decide (p.1 = x)) = none := by
        rw [List.find?_eq_none]
        intro p hp
        have := List.of_mem_zip hp
        simp only [decide_eq_true_eq]
        rintro rfl
        exact hn.1 this.1
      rw [this]
      simp [Fm.upd]
    · simp only [q, decide_false]
      cases (xs.zip vs).find? (fun p => decide (p.1 = y)) with
      | some p => rfl
      | none => simp [Fm.upd, Ne.symm q]

theorem zip_rev {α β : Type} : ∀ (xs : List α) (vs : List β), xs.length = vs.length → xs.reverse.zip vs.reverse = (xs.zip vs).reverse
  | [], [], _ => rfl
  | [], _ :: _, h => by simp at h
  | _ :: _, [], h => by simp at h
  | x :: xs, v :: vs, h => by
    rw [List.reverse_cons, List.reverse_cons, List.zip_append (by simpa using h), zip_rev xs vs (by simpa using h)]
    simp
theorem bindAll_reverse (xs : List Str) (vs : List PV) (m : Fm) (hn : xs.Nodup) (hl : xs.length = vs.length) : bindAll m xs.reverse vs.reverse = bindAll m xs vs := by
  funext y
  have hn' : xs.reverse.Nodup := (List.Perm.nodup_iff (List.reverse_perm xs)).mpr hn
  rw [bindAll_get _ _ _ _ hn' (by simp [hl]), bindAll_get _ _ _ _ hn hl]
  have hz : xs.reverse.zip vs.reverse = (xs.zip vs).reverse := zip_rev xs vs hl
  rw [hz]
  have key : ∀ (l : List (Str × PV)), (l.map (·.1)).Nodup → l.reverse.find? (fun p => decide (p.1 = y)) = l.find? (fun p => decide (p.1 = y)) := by
    intro l hl
    cases h1 : l.find? (fun p => decide (p.1 = y)) with
    | none =>
      rw [List.find?_eq_none] at h1 ⊢
      intro p hp
      exact h1 p (List.mem_reverse.mp hp)
    | some p =>
      have hp1 : p.1 = y := by have := List.find?_some h1; simpa using this
      have hpm := List.mem_of_find?_eq_some h1
      cases h2 : l.reverse.find? (fun p => decide (p.1 = y)) with
      | none =>
        rw [List.find?_eq_none] at h2
        exact absurd (by simpa using hp1) (h2 p (List.mem_reverse.mpr hpm))
      | some q =>
        have hq1 : q.1 = y := by have := List.find?_some h2; simpa using this
        have hqm := List.mem_reverse.mp (List.mem_of_find?_eq_some h2)
        congr 1
        have : ∀ (l : List (Str × PV)), (l.map (·.1)).Nodup → ∀ p q, p ∈ l → q ∈ l → p.1 = q.1 → p = q := by
          intro l
          induction l with
          | nil => intro _ p q hp; cases hp
          | cons a r ih =>
            intro hn p q hp hq he
            rw [List.map_cons, List.nodup_cons] at hn
            rcases List.mem_cons.mp hp with rfl | hp' <;> rcases List.mem_cons.mp hq with rfl | hq'
            · rfl
            · exact absurd (List.mem_map.mpr ⟨q, hq', he.symm⟩) hn.1
            · exact absurd (List.mem_map.mpr ⟨p, hp', he⟩) hn.1
            · exact ih hn.2 p q hp' hq' he
        exact this l hl q p hqm hpm (hq1.trans hp1.symm)
  rw [key]
  rw [List.map_fst_zip (by exact om21 hl)]
  exact hn

section
variable {A : Around} {E : Value → Shared → Prop} {s : Shared} {B : Bs} {own : Addr → Prop} {env : Env} {sc : Scope} {ads : List Addr} {S S' : St} {m m' : Fm} {u1 u2 : Value} {a b v : PV} {d : Nat} {C : Ctx}

inductive ActsFor (M : Model) (A : Around) (E : Value → Shared → Prop) (env : Env) : List (Value → Sem Unit) → List Str → Prop
  | nil : ActsFor M A E env [] []
  | cons {f fs x xs} : (∀ u (Q : Unit → Shared → Prop) s, wpAny M A (storeName env x u) Q E s → wpAny M A (f u) Q E s) → ActsFor M A E env fs xs → ActsFor M A E env (f :: fs) (x :: xs)

theorem snd_binds : ∀ (xs : List Str) (fs : List (Value → Sem Unit)) (us : List Value) (vs : List PV) (m : Fm) (s : Shared) (Q : Unit → Shared → Prop), ActsFor (model B.prog B.w) A E env fs xs → xs.all (stN sc) = true → xs.length = vs.length →
    SR B ads S s.heap → FR B own env sc s.heap ads m → VRs s.heap ads us vs → (∀ s', Nx B own s ads s' ads S → FR B own env sc s'.heap ads (bindAll m xs vs) → Q () s') → wpAny (model B.prog B.w) A (assignInOrder fs us) Q E s := by
  intro xs
  induction xs with
  | nil =>
    intro fs us vs m s Q hf _ hl R F r h
    cases hf
    cases vs with
    | nil => cases r; exact wpAny_pure (h s (.refl R) F)
    | cons v vs => simp at hl
  | cons x xs ih =>
    intro fs us vs m s Q hf hs hl R F r h
    cases hf with
    | cons hf1 hf2 =>
    cases vs with
    | nil => simp at hl
    | cons v vs =>
    cases r with
    | cons r1 r2 =>
    rw [List.all_cons, Bool.and_eq_true] at hs
    unfold assignInOrder
    refine wpAny_bind (wpAny_holding (hf1 _ _ _ ?_))
    refine snd_store R F r1 hs.1 fun s' N F' => ?_
    refine ih _ _ vs _ _ _ hf2 hs.2 (by simpa using hl) N.sr F' (N.ext.vrs r2) fun s'' N' F'' => h s'' (N.trans N') F''

theorem nameList_cons {e : Expr} {r : List Expr} {xs : List Str} (h : nameList (e :: r) = some xs) : ∃ x p ys, e = .Name x p ∧ nameList r = some ys ∧ xs = x :: ys := by
  cases e with
  | Name x p =>
    have h : (nameList r).map (x :: ·) = some xs := h
    obtain ⟨ys, h1, rfl⟩ := Option.map_eq_some_iff.mp h
    exact ⟨_, _, _, rfl, h1, rfl⟩
  | _ => cases h
theorem tnames_some {t : Expr} {q : Bool × List Str} (h : tnames t = some q) : (∃ x p, t = .Name x p ∧ q = (false, [x])) ∨ (∃ ts k p xs, t = .Tuple ts k p ∧ nameList ts = some xs ∧ q = (true, xs)) := by
  cases t with
  | Name x p => cases h; exact .inl ⟨_, _, rfl, rfl⟩
  | Tuple ts k p =>
    have h : (nameList ts).map (fun xs => (true, xs)) = some q := h
    obtain ⟨ys, h1, rfl⟩ := Option.map_eq_some_iff.mp h
    exact .inr ⟨_, _, _, _, rfl, h1, rfl⟩
  | _ => cases h
theorem passign_some {sc : Scope} {t : Expr} {v : PV} {m m' : Fm} (e : passign sc t v m = some m') : (∃ x p, t = .Name x p ∧ stN sc x = true ∧ m' = m.upd x v) ∨
    (∃ ts k p xs vs, t = .Tuple ts k p ∧ nameList ts = some xs ∧ v = .tup vs ∧ ((xs.length = vs.length ∧ nodupS xs = true) ∧ xs.all (stN sc) = true) ∧ xs.length < 10 ∧ m' = bindAll m xs vs) := by
  have e : (match tnames t with | some q => if q.1 then passT sc q.2 v m else passN sc q.2 v m | none => none) = some m' := e
  cases hq : tnames t with
  | none => rw [hq] at e; cases e
  | some q =>
    rw [hq] at e
    rcases tnames_some hq with ⟨x, p, rfl, rfl⟩ | ⟨ts, k, p, xs, rfl, hx, rfl⟩
    · have e : (if stN sc x then some (m.upd x v) else none) = some m' := e
      by_cases h : stN sc x = true
      · rw [if_pos h] at e; cases e; exact .inl ⟨_, _, rfl, h, rfl⟩
      · rw [if_neg h] at e; cases e
    · cases v with
      | tup vs =>
        have e : (if xs.length = vs.length && nodupS xs && xs.all (stN sc) && decide (xs.length < 10) then some (bindAll m xs vs) else none) = some m' := e
        by_cases h : (xs.length = vs.length && nodupS xs && xs.all (stN sc) && decide (xs.length < 10)) = true
        · rw [if_pos h] at e
          cases e
          simp only [Bool.and_eq_true, decide_eq_true_eq] at h
          exact .inr ⟨_, _, _, _, _, rfl, hx, rfl, h.1, h.2, rfl⟩
        · rw [if_neg h] at e; cases e
      | _ => cases e

theorem acts_names {M : Model} : ∀ {es : List Expr} {xs : List Str}, nameList es = some xs → ActsFor M A E env ((assignEach es env).map (·.2)) xs ∧ (assignEach es env).length = xs.length ∧ (assignEach es env).findIdx? (·.1) = none
  | [], xs, e => by cases e; exact ⟨.nil, rfl, rfl⟩
  | e :: r, xs, h => by
    obtain ⟨x, pos, ys, rfl, h1, rfl⟩ := nameList_cons h
    obtain ⟨a1, a2, a3⟩ := acts_names (M := M) h1
    refine ⟨.cons (fun u Q s hq => wpAny_assign_Name hq) a1, congrArg Nat.succ a2, ?_⟩
    have e1 : assignEach (Expr.Name x pos :: r) env = (false, assign (.Name x pos) env) :: assignEach r env := rfl
    rw [e1, List.findIdx?_cons, a3]
    rfl

theorem snd_assign (hh : A.handled = none) {t : Expr} {Q : Unit → Shared → Prop} (e : passign sc t v m = some m') (R : SR B ads S s.heap) (F : FR B own env sc s.heap ads m) (r : VR s.heap ads u1 v)
    (h : ∀ s', Nx B own s ads s' ads S → FR B own env sc s'.heap ads m' → Q () s') : wpAny (model B.prog B.w) A (assign t env u1) Q E s := by
  rcases passign_some e with ⟨x, p, rfl, hx, rfl⟩ | ⟨es, k, pos, xs, vs, rfl, ht, rfl, ⟨⟨h1, h2⟩, h3⟩, h4, rfl⟩
  · exact wpAny_assign_Name (snd_store R F r hx h)
  · obtain ⟨a1, a2, a3⟩ := acts_names (M := model B.prog B.w) (A := A) (E := E) (env := env) ht
    apply VR.tupE (r); intro x us n hx rx
    have hl := rx.length
    refine assign_Tuple_tuple hh (isTup_of hx) (by rw [a2, h1, ← hl]; rfl) a3 fun h' hb => ?_
    have N := Nx.keep (own := own) (s' := { s with heap := h' }) R ⟨rfl, rfl⟩ fun b o e => hb b o (Nat.ne_of_lt (Heap.lt_size e)) e
    have N0 := Nx.keep (own := none') (s' := { s with heap := h' }) R ⟨rfl, rfl⟩ fun b o e => hb b o (Nat.ne_of_lt (Heap.lt_size e)) e
    exact snd_binds xs _ us vs m _ _ a1 h3 h1 N.sr (F.nx N0) (N.ext.vrs rx) fun s' N' F' => h s' (N.trans N') F'

theorem fm_names {f : Expr → Option Str} (hf : ∀ x pos y, f (.Name x pos) = some y → y = x) : ∀ {ts : List Expr} {xs : List Str}, nameList ts = some xs → (ts.filterMap f).length = ts.length → ts.filterMap f = xs
  | [], xs, h, _ => by cases h; rfl
  | e :: r, xs, h, hl => by
    obtain ⟨x, pos, ys, rfl, h1, rfl⟩ := nameList_cons h
    have hle := List.length_filterMap_le f r
    cases hq : f (.Name x pos) with
    | none =>
      rw [List.filterMap_cons, hq] at hl
      exact absurd (hl ▸ hle : _ + 1 ≤ _) (Nat.not_succ_le_self _)
    | some y =>
      rw [List.filterMap_cons, hq] at hl ⊢
      rw [fm_names hf h1 (Nat.succ.inj hl), hf x pos y hq]

/-- the stores behind an assignment's value -/
theorem snd_stores (hh : A.handled = none) {t e : Expr} {Q : Flow → Shared → Prop} (ea : passign sc t v m = some m') (R : SR B ads S s.heap) (F : FR B own env sc s.heap ads m) (r : VR s.heap ads u1 v)
    (hc : ¬ constTup e = true)
    (h : ∀ s', Nx B own s ads s' ads S → FR B own env sc s'.heap ads m' → Q .next s') : wpAny (model B.prog B.w) A (do assignStores env u1 (← swappedStores [t] e env) ((assignEach [t] env).map (·.2))) Q E s := by
  have plain : wpAny (model B.prog B.w) A (assignStores env u1 none ((assignEach [t] env).map (·.2))) Q E s := by
    have e1 : (assignEach [t] env).map (·.2) = [assign t env] := by
      rcases passign_some ea with ⟨x, p, rfl, _⟩ | ⟨ts, k, p, xs, vs, rfl, _⟩ <;> rfl
    rw [e1]
    show wpAny _ _ (do assign t env u1; pure .next) Q E s
    exact wpAny_bind (snd_assign hh ea R F r fun s' N F' => wpAny_pure (h s' N F'))
  rcases passign_some ea with ⟨x, p, rfl, hx, rfl⟩ | ⟨ts, k, pos, xs, vs, rfl, hxs, rfl, ⟨⟨h1, h2⟩, h3⟩, h4, rfl⟩
  · have q : swappedStores [.Name x p] e env = pure none := by cases e <;> rfl
    rw [q]
    exact wpAny_bind (wpAny_pure plain)
  have q : swappedStores [.Tuple ts k pos] e env = pure none ∨ swappedStores [.Tuple ts k pos] e env = pure (some xs) := by
    cases e with
    | Tuple vs k2 pos2 =>
      have hc' : vs.all (constantsAlone 8) = false := by simpa [constTup] using hc
      unfold swappedStores
      simp only [pure_bind]
      split
      · exact .inl rfl
      split
      · exact .inl rfl
      split
      · exact .inl rfl
      rename_i hlen
      split
      · exact .inl rfl
      refine .inr ?_
      rw [if_neg (by rw [hc']; exact Bool.false_ne_true)]
      refine congrArg (fun z => (pure (some z) : Sem (Option (List Str)))) ?_
      simp only [Bool.or_eq_true, bne_iff_ne, ne_eq, not_or, Decidable.not_not] at hlen
      refine fm_names ?_ hxs hlen.1
      intro x p y hy
      simp only at hy
      split at hy <;> cases hy
      rfl
    | _ => exact .inl rfl
  rcases q with q | q
  · rw [q]
    exact wpAny_bind (wpAny_pure plain)
  · rw [q]
    refine wpAny_bind (wpAny_pure ?_)
    apply VR.tupE (r); intro x us n hxx rx
    have hl := rx.length
    unfold assignStores
    refine wpAny_bind (wpAny_rule ?_)
    have hlen : xs.length = us.toArray.size := by rw [h1, ← hl]; rfl
    rw [hlen]
    refine wpAny_bind (unpackItems_tuple hh (isTup_of hxx) fun h' hb => ?_)
    have N := Nx.keep (own := own) (s' := { s with heap := h' }) R ⟨rfl, rfl⟩ fun b o e => hb b o (Nat.ne_of_lt (Heap.lt_size e)) e
    have N0 := Nx.keep (own := none') (s' := { s with heap := h' }) R ⟨rfl, rfl⟩ fun b o e => hb b o (Nat.ne_of_lt (Heap.lt_size e)) e
    have acts : ∀ (ys : List Str), ActsFor (model B.prog B.w) A E env (ys.map fun n => bindName env n) ys := by
      intro ys
      induction ys with
      | nil => exact .nil
      | cons y r ih => exact .cons (fun u Q s hq => wpAny_bindName hq) ih
    refine wpAny_bind (snd_binds xs.reverse _ us.toArray.toList.reverse vs.reverse m _ _ (acts _) (by rw [List.all_reverse]; exact h3) (by simp [h1]) N.sr (F.nx N0) (by simpa using (N.ext.vrs rx).reverse) fun s' N' F' => ?_)
    rw [bindAll_reverse xs vs m ((nodupS_iff xs).mp h2) h1] at F'
    exact wpAny_pure (h s' (N.trans N') F')
end
end Mine.Internal
end

section
open PySem PySem.W PyProof.Rows PySem.Spec PySem.Calls PySem.Builtin.Str
namespace Mine.Internal

theorem lookup_relabel {env : Env} : ∀ {names : List (Str × NameKind)} {x : Str},
    (names.map fun (n, k) => if (k == NameKind.free && env.scope.kind == .function && env.kindOf n == some .cell) then (n, NameKind.cell) else (n, k)).lookup x =
      (names.lookup x).map fun k => if (k == NameKind.free && env.scope.kind == .function && env.kindOf x == some .cell) then NameKind.cell else k
  | [], _ => rfl
  | (n, k) :: r, x => by
    have ih := @lookup_relabel env r x
    show List.lookup x ((if (k == NameKind.free && env.scope.kind == .function && env.kindOf n == some .cell) = true then (n, NameKind.cell) else (n, k)) :: _) = _
    cases hx : x == n with
    | true =>
      have : x = n := by simpa using hx
      subst this
      by_cases hc : (k == NameKind.free && env.scope.kind == .function && env.kindOf x == some .cell) = true
      · rw [if_pos hc]; simp only [List.lookup_cons, beq_self_eq_true, Option.map_some]; rw [if_pos hc]
      · rw [if_neg hc]; simp only [List.lookup_cons, beq_self_eq_true, Option.map_some]; rw [if_neg hc]
    | false =>
      by_cases hc : (k == NameKind.free && env.scope.kind == .function && env.kindOf n == some .cell) = true
      · rw [if_pos hc]; simp only [List.lookup_cons, hx]; exact ih
      · rw [if_neg hc]; simp only [List.lookup_cons, hx]; exact ih

theorem closure_of {env : Env} : ∀ (names : List (Str × NameKind)) (acc : List (Str × Addr)), (∀ x ∈ names, x.2 = .free → ∃ c, env.cells.lookup x.1 = some c) →
    ∃ cl, (forIn names acc fun (x : Str × NameKind) cs => (do if x.2 == .free then (do let c ← cellOf env x.1; pure (ForInStep.yield ((x.1, c) :: cs))) else pure (ForInStep.yield cs) : Sem (ForInStep (List (Str × Addr))))) = pure cl ∧
      ∀ y, cl.lookup y = if (names.any fun x => x.1 == y && x.2 == .free) then env.cells.lookup y else acc.lookup y
  | [], acc, _ => ⟨acc, rfl, fun y => by simp⟩
  | (n, k) :: r, acc, h => by
    rw [List.forIn_cons]
    by_cases hk : k = .free
    · subst hk
      obtain ⟨c, hc⟩ := h _ (.head _) rfl
      obtain ⟨cl, h1, h2⟩ := closure_of r ((n, c) :: acc) fun x hx => h x (.tail _ hx)
      refine ⟨cl, ?_, fun y => ?_⟩
      · have : cellOf env n = pure c := by unfold cellOf; simp only at hc; rw [hc]
        simp only [beq_self_eq_true, if_true, this, pure_bind]
        exact h1
      · rw [h2 y]
        by_cases hy : n = y
        · subst hy
          simp only at hc
          simp [hc]
        · have hy' : (n == y) = false := by simpa using hy
          have hy2 : (y == n) = false := by simpa using Ne.symm hy
          simp only [List.any_cons, hy', Bool.false_and, Bool.false_or, List.lookup_cons, hy2]
    · have hk' : (k == NameKind.free) = false := by simpa using hk
      obtain ⟨cl, h1, h2⟩ := closure_of r acc fun x hx => h x (.tail _ hx)
      refine ⟨cl, ?_, fun y => ?_⟩
      · simp only [hk', Bool.false_eq_true, if_false, pure_bind]
        exact h1
      · rw [h2 y]
        simp [hk']

section
variable {A : Around} {E : Value → Shared → Prop} {s : Shared} {B : Bs} {own : Addr → Prop} {env : Env} {sc csc : Scope} {ads : List Addr} {S S' : St} {m m' : Fm} {u1 u2 : Value} {a b v : PV} {d : Nat} {C : Ctx}

theorem compOk_parts (h : compOk sc csc = true) : csc.kind = .function ∧ (∀ x ∈ csc.names, x.2 = .local → csc.names.lookup x.1 = some .local) ∧ (∀ x ∈ csc.names, x.2 ≠ .cell) ∧
    (∀ x ∈ csc.names, x.2 = .free → csc.names.lookup x.1 = some .free ∧ (sc.names.lookup x.1 = some .cell ∨ sc.names.lookup x.1 = some .free)) := by
  unfold compOk at h
  rw [Bool.and_eq_true, List.all_eq_true] at h
  obtain ⟨h1, h2⟩ := h
  refine ⟨by simpa using h1, fun x hx hl => ?_, fun x hx hl => ?_, fun x hx hl => ?_⟩
  · have := h2 x hx; rw [hl] at this; simpa using this
  · have := h2 x hx; rw [hl] at this; simp at this
  · have := h2 x hx; rw [hl] at this; simpa using this

theorem mem_of_lookup : ∀ {names : List (Str × NameKind)} {x : Str} {k : NameKind}, names.lookup x = some k → (x, k) ∈ names
  | [], _, _, h => by simp at h
  | (n, k') :: r, x, k, h => by
    rw [List.lookup_cons] at h
    cases hx : x == n with
    | true =>
      rw [hx] at h
      cases h
      have : x = n := by simpa using hx
      rw [this]; exact .head _
    | false =>
      rw [hx] at h
      exact .tail _ (mem_of_lookup h)

theorem FR.closure (F : FR B own env sc s.heap ads m) (h : compOk sc csc = true) : ∃ cl, closureFor csc env = pure cl ∧ (∀ y, csc.names.lookup y = some .free → cl.lookup y = env.cells.lookup y) ∧ (∀ y c, cl.lookup y = some c → env.cells.lookup y = some c) := by
  obtain ⟨h1, h2, h3, h4⟩ := compOk_parts h
  obtain ⟨cl, e1, e2⟩ := closure_of (env := env) csc.names [] fun x hx hf => by
    obtain ⟨_, q⟩ := h4 x hx hf
    have : env.kindOf x.1 = some .cell ∨ env.kindOf x.1 = some .free := by
      rcases q with q | q
      · exact .inl (F.nCell _ q)
      · exact F.nFree _ q
    obtain ⟨c, _, hc, _⟩ := F.cell x.1 this
    exact ⟨c, hc⟩
  refine ⟨cl, ?_, fun y hy => ?_, fun y c hc => ?_⟩
  · unfold closureFor
    rw [← e1]
    simp only [bind_pure]
  · rw [e2 y, if_pos]
    rw [List.any_eq_true]
    exact ⟨_, mem_of_lookup hy, by simp⟩
  · rw [e2 y] at hc
    split at hc
    · exact hc
    · simp at hc

theorem FR.comp (F : FR B own env sc s.heap ads m) (h : compOk sc csc = true) {cl : List (Str × Addr)} (hcl : ∀ y, csc.names.lookup y = some .free → cl.lookup y = env.cells.lookup y) (hcl2 : ∀ y c, cl.lookup y = some c → env.cells.lookup y = some c)
    {c : Addr} {s' : Shared} {ads' : List Addr} {S' : St} (R' : SR B ads' S' s'.heap) (X : Ext none' ads s.heap ads' s'.heap) (hns : s'.heap.Ns c (fun _ => none)) (hfr : s.heap.get? c = none) (hf0 : B.h0.get? c = none) (hca : c ∉ ads') :
    FR B (· = c) (compEnvC csc cl c env) csc s'.heap ads' (compFm csc m) := by
  obtain ⟨h1, h2, h3, h4⟩ := compOk_parts h
  have F' := F.ext X
  have kind : ∀ x, (compEnvC csc cl c env).kindOf x = (csc.names.lookup x).map fun k => if (k == NameKind.free && env.scope.kind == .function && env.kindOf x == some .cell) then NameKind.cell else k := fun x => lookup_relabel
  have off : ∀ x, (compEnvC csc cl c env).kindOf x = some .cell ∨ (compEnvC csc cl c env).kindOf x = some .free → csc.names.lookup x = some .free := by
    intro x hx
    rw [kind x] at hx
    cases hq : csc.names.lookup x with
    | none => rw [hq] at hx; simp at hx
    | some k =>
      rw [hq] at hx
      have hm := mem_of_lookup hq
      have hne := h3 _ hm
      cases k with
      | free => rfl
      | cell => exact absurd rfl hne
      | «local» => simp at hx
      | globalImplicit => simp at hx
      | globalExplicit => simp at hx
  exact {
    kind := h1
    glob := F.glob
    bins := F.bins
    nLocal := fun x hx => by rw [kind x, hx]; rfl
    nCell := fun x hx => absurd rfl (h3 _ (mem_of_lookup hx))
    nFree := fun x hx => by
      rw [kind x, hx]
      simp only [Option.map_some]
      split
      · exact .inl rfl
      · exact .inr rfl
    nGlob := fun x hx => by rw [kind x, hx]; rfl
    lAds := hca
    lOld := hf0
    lOwn := rfl
    ns := ⟨_, hns, fun x pv hk hm => by
      unfold compFm at hm
      split at hm
      · rename_i hq
        rw [kind x, hq] at hk
        simp only [Option.map_some] at hk
        split at hk <;> simp at hk
      · cases hm⟩
    cell := fun y hy => by
      have hq := off y hy
      obtain ⟨_, q⟩ := h4 _ (mem_of_lookup hq) rfl
      have hk : env.kindOf y = some .cell ∨ env.kindOf y = some .free := by
        rcases q with q | q
        · exact .inl (F.nCell _ q)
        · exact F.nFree _ q
      obtain ⟨c', v₀, k1, k2, k3, k4, k5, k6, k7⟩ := F'.cell y hk
      obtain ⟨c'', v₁, j1, ⟨oc, hoc, _⟩, _⟩ := F.cell y hk
      have hcc : c' ≠ c := by
        rw [k1] at j1
        cases j1
        rintro rfl
        rw [hfr] at hoc; cases hoc
      refine ⟨c', v₀, (hcl y hq).trans k1, k2, k3, k4, hcc, fun hc => ?_, fun pv hm => ?_⟩
      · rw [hq] at hc; cases hc
      · unfold compFm at hm
        rw [hq] at hm
        exact k7 pv hm
    live := fun b hb => by
      subst hb
      obtain ⟨o, _, _, ho, _⟩ := hns
      exact ⟨o, ho⟩
    inj := fun x y c' e1 e2 => F.inj x y c' (hcl2 _ _ e1) (hcl2 _ _ e2) }

theorem pyIter_again {src : Src} {I : Addr} {i : Nat} {priv : List Addr} {Q : Value → Shared → Prop} (X : ItR B s.heap ads src I i priv) (h : Q (.ref I) s) : wpAny (model B.prog B.w) A (pyIter (.ref I)) Q E s := by
  cases X with
  | vals h1 => exact wpAny_pyIter_tupleiter h1 h
  | live h1 => exact wpAny_pyIter_listiter h1 h
  | enumV h1 => exact wpAny_pyIter_enum h1 h
  | enumL h1 => exact wpAny_pyIter_enum h1 h
  | rng h1 h2 => exact wpAny_pyIter_rangeiter h2 h

theorem comp_start {elt : Expr} {gens : List Comprehension} {pos : Pos} {depth : Nat} {g : Comprehension} {src : Src} {I : Addr} {i : Nat} {priv : List Addr} {acc : Value} {R : Result → Shared → Prop} (hg : gens[depth]? = some g) (hs : g.is_async = 0) (X : ItR B s.heap ads src I i priv)
    (h : codeAny (model B.prog B.w) A (.compLoop (.ListComp elt gens csc pos) depth (.ref I) acc env) R s) :
    codeAny (model B.prog B.w) A (.compStart (.ListComp elt gens csc pos) depth (.ref I) acc env) R s := by
  refine codeAny_of_tree ?_
  show wpAny _ _ ((compStart (.ListComp elt gens csc pos) depth (.ref I) acc env).onRaise (fun x => do noteFrame x env; standAt theWindowsPlace)) _ _ s
  refine wpAny_notedAt ?_
  unfold compStart
  have hc : (clausesOf (.ListComp elt gens csc pos))[depth]? = some g := hg
  rw [hc]
  simp only [Option.elim, hs]
  show wpAny _ _ (ask >>= _) _ _ s
  refine wpAny_bind (wpAny_askSetting ?_)
  split
  · exact wpAny_pure ⟨rfl, h⟩
  · exact wpAny_bind (wpAny_rule (wpAny_bind (wpAny_standAt (wpAny_bind (pyIter_again X (wpAny_pure ⟨rfl, h⟩))))))
end
end Mine.Internal
end

section
open PySem PySem.W PyProof.Rows PySem.Spec PySem.Calls PySem.Builtin.Str
namespace Mine.Internal

/-- calls of the text's own defs are sound -/
structure CallsOK (B : Bs) (C : Ctx) (d : Nat) : Prop where
  ok : CallOK B C d
  fn : ∀ a args S r, C.call a args S = some r → ∃ o fd, B.h0.get? a = some o ∧ o.data = .func fd

noncomputable def EvS (B : Bs) (C : Ctx) (d n : Nat) : Prop :=
  ∀ (A : Around) (E : Value → Shared → Prop) (s : Shared) (own : Addr → Prop) (env : Env) (sc : Scope) (ads : List Addr) (S S' : St) (m : Fm) (e : Expr) (v : PV) (Q : Value → Shared → Prop),
    AOk d A → SR B ads S s.heap → FR B own env sc s.heap ads m → pev C n sc e m S = some (v, S') → Post B s ads S' v Q → wpAny (model B.prog B.w) A (eval e env) Q E s
noncomputable def SrcS (B : Bs) (C : Ctx) (d n : Nat) : Prop :=
  ∀ (A : Around) (E : Value → Shared → Prop) (s : Shared) (own : Addr → Prop) (env : Env) (sc : Scope) (ads : List Addr) (S S' : St) (m : Fm) (e : Expr) (src : Src) (Q : Value → Shared → Prop),
    AOk d A → SR B ads S s.heap → FR B own env sc s.heap ads m → psrc C n sc e m S = some (src, S') → PostI B s ads S' src Q → wpAny (model B.prog B.w) A (eval e env) (fun x s₁ => wpAny (model B.prog B.w) A (pyIter x) Q E s₁) E s
noncomputable def TrS (B : Bs) (C : Ctx) (d n : Nat) : Prop :=
  ∀ (A : Around) (E : Value → Shared → Prop) (s : Shared) (own : Addr → Prop) (env : Env) (sc : Scope) (ads : List Addr) (S S' : St) (m : Fm) (e : Expr) (b : Bool) (Q : Bool → Shared → Prop),
    AOk d A → SR B ads S s.heap → FR B own env sc s.heap ads m → ptrue C n sc e m S = some (b, S') → (∀ s' ads', Nx B none' s ads s' ads' S' → Q b s') → wpAny (model B.prog B.w) A (isTrue e env (eval e env)) Q E s
noncomputable def CompS (B : Bs) (C : Ctx) (d n : Nat) : Prop :=
  ∀ (A : Around) (s : Shared) (own : Addr → Prop) (env : Env) (csc : Scope) (ads : List Addr) (S S' : St) (m m' : Fm) (elt t it : Expr) (ifs : List Expr) (gens rest : List Comprehension) (pos : Pos) (depth a : Nat) (aa : Addr) (src : Src) (I : Addr) (priv : List Addr) (R : Result → Shared → Prop),
    AOk d A → SR B ads S s.heap → FR B own env csc s.heap ads m → gens.drop depth = ⟨t, it, ifs, 0⟩ :: rest → ads[a]? = some aa → ItR B s.heap ads src I 0 priv → (∀ b ∈ priv, ¬ own b) → srcOk src t = true →
    (∀ b ∈ priv, b ≠ env.locals ∧ ∀ y, env.kindOf y = some .cell ∨ env.kindOf y = some .free → env.cells.lookup y ≠ some b) →
    pcomp C n csc elt a t ifs rest src m S = some (m', S') → (∀ s' ads', Nx B (fun b => own b ∨ b ∈ priv) s ads s' ads' S' → FR B own env csc s'.heap ads' m' → R (.ok .next) s') →
    codeAny (model B.prog B.w) A (.compLoop (.ListComp elt gens csc pos) depth (.ref I) (.ref aa) env) R s

section
variable {A : Around} {E : Value → Shared → Prop} {s : Shared} {B : Bs} {own : Addr → Prop} {env : Env} {sc csc : Scope} {ads : List Addr} {S S' : St} {m m' : Fm} {u1 u2 : Value} {a b v : PV} {d n : Nat} {C : Ctx}

theorem Post.after {s' : Shared} {ads' : List Addr} {S1 S2 : St} {Q : Value → Shared → Prop} (N : Nx B none' s ads s' ads' S1) (h : Post B s ads S2 v Q) : Post B s' ads' S2 v Q := fun u s'' ads'' N' r => h u s'' ads'' (N.trans N') r

theorem starEach_plain : ∀ {es : List Expr}, es.any isStar = false → starEach es env = es.map fun e => (false, eval e env)
  | [], _ => rfl
  | e :: r, h => by
    rw [List.any_cons, Bool.or_eq_false_iff] at h
    rw [List.map_cons, ← starEach_plain h.2]
    cases e <;> first | rfl | exact nomatch h.1
theorem backTo_plain {pos : Pos} {es : List Expr} (h : es.any isStar = false) : backTo pos (starEach es env) = es.map fun e => (false, eval e env) := by
  rw [starEach_plain h]
  unfold backTo
  rw [List.map_map]
  rfl

theorem snd_evs (H : EvS B C d n) (K : AOk d A) : ∀ (es : List Expr) (s : Shared) (ads : List Addr) (S S' : St) (vs : List PV) (Q : List Value → Shared → Prop), SR B ads S s.heap → FR B own env sc s.heap ads m → evs (fun e => pev C n sc e m) es S = some (vs, S') →
    (∀ us s' ads', Nx B none' s ads s' ads' S' → VRs s'.heap ads' us vs → Q us s') → wpAny (model B.prog B.w) A (spliced (es.map fun e => (false, eval e env))) Q E s := by
  intro es
  induction es with
  | nil =>
    intro s ads S S' vs Q R F e h
    obtain ⟨q1, q2⟩ := PM.ret_some e; clear e; subst q1 q2
    exact spliced_nil (h [] s ads (.refl R) .nil)
  | cons x es ih =>
    intro s ads S S' vs Q R F e h
    refine bndE e ?_; clear e; intro v S1 e1 e
    refine bndE e ?_; clear e; intro ws S2 e2 e
    obtain ⟨q1, q2⟩ := PM.ret_some e; clear e; subst q1 q2
    rw [List.map_cons]
    refine spliced_cons (H A E s own env sc ads S S1 m x v _ K R F e1 fun u s' ads' N r => ?_)
    refine ih s' ads' S1 _ ws _ N.sr (F.nx N) e2 fun us s'' ads'' N' rs => ?_
    exact h (u :: us) s'' ads'' (N.trans N') (.cons (N'.ext.vr r) rs)

theorem any_false (es : List Expr) : (es.map fun e => (false, eval e env)).any (·.1) = false := by
  induction es with
  | nil => rfl
  | cons e r ih => simpa using ih

/-- a call: the callee is told, the arguments are evaluated in order -/
theorem snd_callWith (H : EvS B C d n) (HC : CallsOK B C d) (K : AOk d A) {pos : Pos} {es : List Expr} {fv : PV} {fu : Value} {vs : List PV} {S1 : St} {Q : Value → Shared → Prop} (hne : es ≠ []) (R : SR B ads S s.heap) (F : FR B own env sc s.heap ads m)
    (rf : VR s.heap ads fu fv) (e1 : evs (fun e => pev C n sc e m) es S = some (vs, S1)) (e2 : papply C fv vs S1 = some (v, S')) (h : Post B s ads S' v Q) :
    wpAny (model B.prog B.w) A (callWith pos fu [] (es.map fun e => (false, eval e env)) []) Q E s := by
  obtain ⟨e0, es', rfl⟩ : ∃ e0 es', es = e0 :: es' := by cases es with | nil => exact absurd rfl hne | cons a b => exact ⟨_, _, rfl⟩
  have args : ∀ (P : Value → Prop), wpAny (model B.prog B.w) A (spliced ((e0 :: es').map fun e => (false, eval e env))) (fun us s₁ => (∀ b o, B.h0.get? b = some o → s₁.heap.get? b = some o) ∧ wpAny (model B.prog B.w) A (call fu us) Q E s₁) E s := fun P => by
    refine snd_evs H K (e0 :: es') s ads S S1 vs _ R F e1 fun us s' ads' N rs => ⟨N.sr.base, ?_⟩
    exact snd_apply K HC.ok e2 N.sr (N.ext.vr rf) rs (Post.after N h)
  cases rf with
  | bi id =>
    refine callWith_builtin (any_false _) (evalArgs_plain (wpAny_mono (args fun _ => True) (fun us s₁ q => ?_) fun _ _ x => x))
    exact q.2
  | ty T =>
    refine PySem.callWith_type (any_false _) (evalArgs_plain (wpAny_mono (args fun _ => True) (fun us s₁ q => ?_) fun _ _ x => x))
    exact q.2
  | fn f =>
    obtain ⟨o, fd, ho, hfd⟩ : ∃ o fd, B.h0.get? f = some o ∧ o.data = .func fd := HC.fn _ _ _ _ e2
    exact callWith_function (o := o) (fd := fd) (evalArgs_plain (wpAny_mono (args fun _ => True) (fun us s₁ q => ⟨⟨q.1 _ _ ho, hfd⟩, q.2⟩) fun _ _ x => x))
  | _ => exact (nofail e2).elim

theorem comp_off (h : compOk sc csc = true) {cl : List (Str × Addr)} {c : Addr} {x : Str} (hx : (compEnvC csc cl c env).kindOf x = some .cell ∨ (compEnvC csc cl c env).kindOf x = some .free) : csc.names.lookup x = some .free := by
  obtain ⟨h1, h2, h3, h4⟩ := compOk_parts h
  have kind : (compEnvC csc cl c env).kindOf x = (csc.names.lookup x).map fun k => if (k == NameKind.free && env.scope.kind == .function && env.kindOf x == some .cell) then NameKind.cell else k := lookup_relabel
  rw [kind] at hx
  cases hq : csc.names.lookup x with
  | none => rw [hq] at hx; simp at hx
  | some k =>
    rw [hq] at hx
    have hm := mem_of_lookup hq
    have hne := h3 _ hm
    cases k with
    | free => rfl
    | cell => exact absurd rfl hne
    | «local» => simp at hx
    | globalImplicit => simp at hx
    | globalExplicit => simp at hx

theorem foldedSet_plain {it : Expr} (h : isSetE it = false) (x : Value) : foldedSetIterable it env x = pure x := by
  cases it <;> first | rfl | cases h

theorem snd_listcomp (HS : SrcS B C d n) (HCo : CompS B C d n) (K : AOk d A) {use : Option (Value → Sem Unit)} {elt t it : Expr} {ifs : List Expr} {rest : List Comprehension} {pos fpos : Pos} {src : Src} {S1 : St} {m2 : Fm} {Q : Value → Shared → Prop}
    (R : SR B ads S s.heap) (F : FR B own env sc s.heap ads m) (hc : compOk sc csc = true) (hset : isSetE it = false) (e1 : psrc C n sc it m S = some (src, S1)) (hok : srcOk src t = true)
    (e2 : pcomp C n csc elt S1.length t ifs rest src (compFm csc m) (S1 ++ [.lst []]) = some (m2, S'))
    (hpost : ∀ c s' ads' aa, s.heap.get? c = none → Nx B none' s ads s' ads' S' → ads'[S1.length]? = some aa → (∃ m, s'.heap.Ns c m) → c ∉ ads' → B.h0.get? c = none → c ≠ B.L0 → compPost (model B.prog B.w) A E use Q (.ref aa) c (.ok .next) s') :
    wpAny (model B.prog B.w) A (comprehension (.ListComp elt (⟨t, it, ifs, 0⟩ :: rest) csc pos) csc env fpos (newList []) false (eval it env) use) Q E s := by
  obtain ⟨hk1, hk2, hk3, hk4⟩ := compOk_parts hc
  obtain ⟨cl, hcl, hcl1, hcl2⟩ := F.closure hc
  refine wpAny_comprehension_free (g := ⟨t, it, ifs, 0⟩) (gs := rest) rfl (fun x => foldedSet_plain hset x) hcl hk1 hk2 ?_
  refine HS A E s own env sc ads S S1 m it src _ K R F e1 fun I priv s2 ads2 N2 X2 hfr => ?_
  refine wpAny_newObj_type ?_
  have N3 : Nx B none' s2 ads2 { s2 with heap := s2.heap.push { cls := .type "list", data := .seq ([] : List Value).toArray } } (ads2 ++ [s2.heap.objs.size]) (S1 ++ [.lst []]) :=
    Nx.alloc N2.sr ⟨rfl, rfl⟩ (fun _ _ e => Heap.get?_push_of_some _ e) (Nat.le_refl _) ⟨[], 0, Heap.get?_push_size _ rfl, .nil⟩
  refine wpAny_newFunctionEnv hk3 (by simp) (fun h' hns hsb => ?_) hk1
  dsimp only at hns hsb ⊢
  generalize hH : s2.heap.push { cls := .type "list", data := .seq ([] : List Value).toArray } = H at N3 hns hsb ⊢
  have N4 : Nx B none' { s2 with heap := H } (ads2 ++ [s2.heap.objs.size]) { s2 with heap := h', toks := s2.toks + ([] : List (Str × Value)).length } (ads2 ++ [s2.heap.objs.size]) (S1 ++ [.lst []]) :=
    Nx.keep N3.sr ⟨rfl, rfl⟩ fun b o e => hsb.extBut b o (Nat.ne_of_lt (Heap.lt_size e)) (Heap.get?_push_of_some _ e)
  have NN := N2.trans (N3.trans N4)
  have hcn : s.heap.get? H.objs.size = none := by
    cases e : s.heap.get? H.objs.size with
    | none => rfl
    | some o =>
      obtain ⟨o', e'⟩ := (N2.trans N3).ext.alive _ o e (fun q => q)
      exact absurd (Heap.lt_size e') (Nat.lt_irrefl _)
  have hc0 : B.h0.get? H.objs.size = none := by
    cases e : B.h0.get? H.objs.size with
    | none => rfl
    | some o => exact absurd (Heap.lt_size (N3.sr.base _ _ e)) (Nat.lt_irrefl _)
  have hca : H.objs.size ∉ ads2 ++ [s2.heap.objs.size] := by
    intro hm
    obtain ⟨o, e, _⟩ := N3.sr.alive hm
    exact absurd (Heap.lt_size e) (Nat.lt_irrefl _)
  have hcL : H.objs.size ≠ B.L0 := by
    obtain ⟨o, e⟩ := N3.sr.live
    rintro q
    rw [← q] at e
    exact absurd (Heap.lt_size e) (Nat.lt_irrefl _)
  have F4 := F.comp hc hcl1 hcl2 (c := H.objs.size) (s' := { s2 with heap := h', toks := s2.toks + ([] : List (Str × Value)).length }) N4.sr NN.ext hns hcn hc0 hca
  have X4 := X2.ext (N3.trans N4).ext (fun _ _ q => q)
  have hpc : ∀ b ∈ priv, b ≠ H.objs.size := by
    intro b hb q
    obtain ⟨o, e, _⟩ := X2.priv.there b hb
    obtain ⟨o', e'⟩ := N3.ext.alive _ o e (fun q => q)
    rw [q] at e'
    exact absurd (Heap.lt_size e') (Nat.lt_irrefl _)
  have hpe : ∀ b ∈ priv, b ≠ (compEnvC csc cl H.objs.size env).locals ∧ ∀ y, (compEnvC csc cl H.objs.size env).kindOf y = some .cell ∨ (compEnvC csc cl H.objs.size env).kindOf y = some .free → (compEnvC csc cl H.objs.size env).cells.lookup y ≠ some b := by
    intro b hb
    refine ⟨hpc b hb, fun y hy q => ?_⟩
    obtain ⟨c', v₀, k1, ⟨oc, k2, _⟩, _⟩ := F4.cell y hy
    rw [k1] at q
    cases q
    have k1' := hcl2 _ _ k1
    have hq := comp_off hc hy
    obtain ⟨_, q⟩ := hk4 _ (mem_of_lookup hq) rfl
    have hk : env.kindOf y = some .cell ∨ env.kindOf y = some .free := by
      rcases q with q | q
      · exact .inl (F.nCell _ q)
      · exact F.nFree _ q
    obtain ⟨c'', v₁, j1, ⟨oc', hoc, _⟩, _⟩ := F.cell y hk
    rw [k1'] at j1
    cases j1
    rw [hfr _ hb] at hoc
    cases hoc
  have start := comp_start (csc := csc) (A := A) (env := compEnvC csc cl H.objs.size env) (elt := elt) (gens := ⟨t, it, ifs, 0⟩ :: rest) (pos := pos) (depth := 0) (g := ⟨t, it, ifs, 0⟩) (acc := .ref s2.heap.objs.size) (s := { s2 with heap := h', toks := s2.toks + ([] : List (Str × Value)).length })
    (R := compPost (model B.prog B.w) A E use Q (.ref s2.heap.objs.size) H.objs.size) rfl rfl X4
    (HCo A _ _ _ csc _ _ S' _ m2 elt t it ifs _ rest pos 0 S1.length s2.heap.objs.size src I priv _ K N4.sr F4 rfl (by rw [← N2.sr.len]; simp) X4 (fun b hb q => hpc b hb q) hok hpe e2 fun s' ads' N5 F5 => ?_)
  · exact start
  · have Nall : Nx B none' s ads s' ads' S' := NN.fresh N5 fun b hb => by
      rcases hb with rfl | hb
      · exact .inr hcn
      · exact .inr (hfr b hb)
    obtain ⟨mm, hmm, _⟩ := F5.ns
    refine hpost _ s' ads' _ hcn Nall ?_ ⟨mm, hmm⟩ F5.lAds hc0 hcL
    obtain ⟨more, hm⟩ := N5.ext.pre
    rw [hm, List.getElem?_append_left (by simp [N2.sr.len])]
    rw [← N2.sr.len]; simp

theorem isBi_val {x : Str} {p : PV → Bool} (h : isBi C sc m x p = true) : ∃ v, getN C sc m x = some v ∧ p v = true := by
  unfold isBi at h
  cases e : getN C sc m x with
  | none => rw [e] at h; cases h
  | some v => rw [e] at h; exact ⟨v, rfl, h⟩
theorem isTy_val {v : PV} {n : String} (h : PV.isTy n v = true) : v = .ty n := by
  cases v <;> simp [PV.isTy] at h
  rw [h]
theorem isBu_val {v : PV} {n : String} (h : PV.isBu n v = true) : v = .bi n := by
  cases v <;> simp [PV.isBu] at h
  rw [h]

section
variable {p : Program} {loose : List Str} {mean : ExcName → Option Value} {mg mb : Str → Option Value}

/-- a name that means a type -/
theorem name_ty (T : Top p loose mean mg mb B.h0) (G : GlobOk B.h0 mg C.glob) (R : SR B ads S s.heap) (F : FR B own env sc s.heap ads m) {x : Str} {n : String} {pos : Pos} (h : isBi C sc m x (PV.isTy n) = true) {Q : Value → Shared → Prop}
    (hq : Q (.type n) s) : wpAny (model B.prog B.w) A (eval (.Name x pos) env) Q E s := by
  obtain ⟨v, e1, e2⟩ := isBi_val h
  rw [isTy_val e2] at e1
  refine snd_name T G R F e1 fun u r => ?_
  cases r
  exact hq
theorem name_bu (T : Top p loose mean mg mb B.h0) (G : GlobOk B.h0 mg C.glob) (R : SR B ads S s.heap) (F : FR B own env sc s.heap ads m) {x : Str} {n : String} {pos : Pos} (h : isBi C sc m x (PV.isBu n) = true) {Q : Value → Shared → Prop}
    (hq : Q (.builtin n) s) : wpAny (model B.prog B.w) A (eval (.Name x pos) env) Q E s := by
  obtain ⟨v, e1, e2⟩ := isBi_val h
  rw [isBu_val e2] at e1
  refine snd_name T G R F e1 fun u r => ?_
  cases r
  exact hq

/-- a type is called with plain arguments -/
theorem call_ty (T : Top p loose mean mg mb B.h0) (G : GlobOk B.h0 mg C.glob) (R : SR B ads S s.heap) (F : FR B own env sc s.heap ads m) {x : Str} {n : String} {px pos : Pos} {es : List Expr} (h : isBi C sc m x (PV.isTy n) = true) (hst : es.any isStar = false) (hne : es ≠ []) {Q : Value → Shared → Prop}
    (hq : wpAny (model B.prog B.w) A (spliced (es.map fun e => (false, eval e env))) (fun us s₁ => wpAny (model B.prog B.w) A (call (.type n) us) Q E s₁) E s) : wpAny (model B.prog B.w) A (eval (.Call (.Name x px) es [] pos) env) Q E s := by
  refine Call_ ?_
  refine name_ty T G R F h ?_
  rw [backTo_plain hst]
  obtain ⟨e0, es', rfl⟩ : ∃ e0 es', es = e0 :: es' := by cases es with | nil => exact absurd rfl hne | cons a b => exact ⟨_, _, rfl⟩
  exact PySem.callWith_type (any_false _) (evalArgs_plain hq)
theorem call_bu (T : Top p loose mean mg mb B.h0) (G : GlobOk B.h0 mg C.glob) (R : SR B ads S s.heap) (F : FR B own env sc s.heap ads m) {x : Str} {n : String} {px pos : Pos} {es : List Expr} (h : isBi C sc m x (PV.isBu n) = true) (hst : es.any isStar = false) (hne : es ≠ []) {Q : Value → Shared → Prop}
    (hq : wpAny (model B.prog B.w) A (spliced (es.map fun e => (false, eval e env))) (fun us s₁ => wpAny (model B.prog B.w) A (call (.builtin n) us) Q E s₁) E s) : wpAny (model B.prog B.w) A (eval (.Call (.Name x px) es [] pos) env) Q E s := by
  refine Call_ ?_
  refine name_bu T G R F h ?_
  rw [backTo_plain hst]
  obtain ⟨e0, es', rfl⟩ : ∃ e0 es', es = e0 :: es' := by cases es with | nil => exact absurd rfl hne | cons a b => exact ⟨_, _, rfl⟩
  exact callWith_builtin (any_false _) (evalArgs_plain hq)

theorem PostI.after {s' : Shared} {ads' : List Addr} {S1 S2 : St} {src : Src} {Q : Value → Shared → Prop} (N : Nx B none' s ads s' ads' S1) (h : PostI B s ads S2 src Q) : PostI B s' ads' S2 src Q :=
  fun I priv s'' ads'' N' X hf => h I priv s'' ads'' (N.trans N') X fun b hb => by
    cases e : s.heap.get? b with
    | none => rfl
    | some o =>
      obtain ⟨o', e'⟩ := N.ext.alive b o e (fun q => q)
      rw [hf b hb] at e'; cases e'

theorem srcS (T : Top p loose mean mg mb B.h0) (G : GlobOk B.h0 mg C.glob) (H : EvS B C d n) : SrcS B C d (n + 1) := by
  intro A E s own env sc ads S S' m e src Q K R F he h
  have plain : ∀ e, PM.bnd (pev C n sc e m) srcOf S = some (src, S') → wpAny (model B.prog B.w) A (eval e env) (fun x s₁ => wpAny (model B.prog B.w) A (pyIter x) Q E s₁) E s := by
    intro e he
    refine bndE he ?_; clear he; intro v S1 e1 e2
    exact H A E s own env sc ads S S1 m e v _ K R F e1 fun u s' ads' N r => snd_srcOf e2 N.sr r (PostI.after N h)
  have he : srcF C (recs C n) sc m (viewS e) S = some (src, S') := he
  generalize viewS e = w at he
  cases w with
  | call f pf a pc =>
    refine fiE he ?_; clear he; intro hst he
    rcases PM.or_some he with ⟨hen, he⟩ | ⟨_, he⟩
    · refine bndE he ?_; clear he; intro v S1 e1 e2
      refine call_ty T G R F hen (by simpa using hst) (by simp) ?_
      refine spliced_cons ?_
      refine H A E s own env sc ads S S1 m a v _ K R F e1 fun u s' ads' N r => ?_
      exact spliced_nil (snd_enumOf e2 N.sr r (PostI.after N h))
    rcases PM.or_some he with ⟨hrg, he⟩ | ⟨_, he⟩
    · refine bndE he ?_; clear he; intro v S1 e1 e2
      obtain ⟨k, q1, q2⟩ := tkI_some e2; clear e2; revert q2; subst q1; intro e2
      refine iteE e2 ?_; clear e2; intro hc e2
      obtain ⟨q1, q2⟩ := PM.ret_some e2; clear e2; subst q1 q2
      simp only [Bool.and_eq_true, decide_eq_true_eq] at hc
      refine call_ty T G R F hrg (by simpa using hst) (by simp) ?_
      refine spliced_cons ?_
      refine H A E s own env sc ads S _ m a _ _ K R F e1 fun u s' ads' N r => ?_
      apply VR.intE (r); intro tk
      exact spliced_nil (snd_range hc.1 hc.2 N.sr (PostI.after N h))
    · exact plain _ he
  | oth e => exact plain _ he
end
end
end Mine.Internal
end

section
open PySem PySem.W PyProof.Rows PySem.Spec PySem.Calls PySem.Builtin.Str
namespace Mine.Internal
section
variable {A : Around} {E : Value → Shared → Prop} {s : Shared} {B : Bs} {own : Addr → Prop} {env : Env} {sc csc : Scope} {ads : List Addr} {S S' : St} {m m' : Fm} {u1 u2 : Value} {a b v : PV} {d n : Nat} {C : Ctx}

/-- a namespace of one's own is changed -/
theorem Nx.one {c : Addr} {h' : Heap} {mm : Str → Option Value} (R : SR B ads S s.heap) (hca : c ∉ ads) (hc0 : B.h0.get? c = none) (hcL : c ≠ B.L0) (hns : s.heap.Ns c mm) (hsb : Heap.SameBut c s.heap h') : Nx B (· = c) s ads { s with heap := h' } ads S := by
  obtain ⟨o, es, ep, ho, hd, _⟩ := hns
  have tk : TupKeep s.heap h' := fun b us n e => (hsb.2 b (fun q => by
    rw [q, ho] at e
    have := Option.some.inj e
    rw [this] at hd
    cases hd)).trans e
  have pre : ∃ more, ads = ads ++ more := ⟨[], (List.append_nil _).symm⟩
  refine ⟨⟨rfl, rfl⟩, ⟨fun b o e => ?_, R.len, R.nodup, R.fresh, ?_, fun n o e => ?_⟩, ⟨pre, fun _ h => .inl h, fun b o e _ n2 => hsb.extBut b o n2 e, fun b o e n2 => ⟨o, hsb.extBut b o n2 e⟩, tk⟩⟩
  · exact hsb.extBut b o (fun q => by rw [q, hc0] at e; cases e) (R.base b o e)
  · obtain ⟨o, e⟩ := R.live
    exact ⟨o, hsb.extBut _ o (Ne.symm hcL) e⟩
  · obtain ⟨a, ea, r⟩ := R.objs n o e
    obtain ⟨ob, eo, _⟩ := r.alive
    exact ⟨a, ea, r.mono tk pre ((hsb.2 a (fun q => hca (q ▸ List.mem_of_getElem? ea))))⟩

theorem isTrue_cmp (l : Expr) (op : CmpOp) (r : Expr) (pos : Pos) (whole : Sem Value) : isTrue (.Compare l [op] [r] pos) env whole = (do let c ← eval (.Compare l [op] [r] pos) env; holding [c] (truthy c)) := by
  rw [isTrue_Compare1, eval_Compare1]
  simp only [bind_assoc]

theorem trS (H : EvS B C d n) (HT : TrS B C d n) : TrS B C d (n + 1) := by
  intro A E s own env sc ads S S' m e bb Q K R F he h
  have val : ∀ (e : Expr), PM.bnd (pev C n sc e m) asB S = some (bb, S') → wpAny (model B.prog B.w) A (eval e env) (fun v s₁ => wpAny (model B.prog B.w) A (truthy v) Q E s₁) E s := by
    intro e he
    refine bndE he ?_; clear he; intro v S1 e1 e2
    obtain ⟨rfl, rfl⟩ := asB_some e2
    refine H A E s own env sc ads S _ m e _ _ K R F e1 fun u s' ads' N r => ?_
    rw [r.bool_inv]
    exact wpAny_truthy_bool (h s' ads' N)
  have he : trF (recs C n) sc m (viewT e) S = some (bb, S') := he
  generalize viewT e = w at he
  cases w with
  | not x pos =>
    refine bndE he ?_; clear he; intro b1 S1 e1 e2
    obtain ⟨q1, q2⟩ := PM.ret_some e2; clear e2; subst q1 q2
    exact isTrue_not (HT A E s own env sc ads S _ m x b1 _ K R F e1 h)
  | bop op x y pos =>
    refine bndE he ?_; clear he; intro b1 S1 e1 e2
    cases op with
    | And =>
      refine isTrue_and (HT A E s own env sc ads S _ m x b1 _ K R F e1 fun s' ads' N => ?_)
      cases b1 with
      | false =>
        obtain ⟨q1, q2⟩ := PM.ret_some e2; clear e2; subst q1 q2
        exact h s' ads' N
      | true =>
        refine isTrue_and (HT A E s' own env sc ads' S1 _ m y bb _ K N.sr (F.nx N) e2 fun s'' ads'' N' => ?_)
        cases bb with
        | true => exact isTrue_and_nil (h s'' ads'' (N.trans N'))
        | false => exact h s'' ads'' (N.trans N')
    | Or =>
      refine isTrue_or (HT A E s own env sc ads S _ m x b1 _ K R F e1 fun s' ads' N => ?_)
      cases b1 with
      | true =>
        obtain ⟨q1, q2⟩ := PM.ret_some e2; clear e2; subst q1 q2
        exact h s' ads' N
      | false =>
        refine isTrue_or (HT A E s' own env sc ads' S1 _ m y bb _ K N.sr (F.nx N) e2 fun s'' ads'' N' => ?_)
        cases bb with
        | true => exact h s'' ads'' (N.trans N')
        | false => exact isTrue_or_nil (h s'' ads'' (N.trans N'))
  | cmp l op r pos =>
    rw [isTrue_cmp]
    exact wpAny_bind (wpAny_mono (val _ he) (fun v s₁ q => wpAny_holding q) fun _ _ x => x)
  | oth e =>
    refine iteE he ?_; clear he; intro hp he
    refine isTrue_plain (val _ he) ?_
    cases e <;> first | rfl | cases hp

section
variable {p : Program} {loose : List Str} {mean : ExcName → Option Value} {mg mb : Str → Option Value}

theorem ev_boolop (H : EvS B C d n) (K : AOk d A) (R : SR B ads S s.heap) (F : FR B own env sc s.heap ads m) {op : BoolOp} {x y : Expr} {pos : Pos} {Q : Value → Shared → Prop}
    (he : PM.bnd (pev C n sc x m) (fun v => pbo op v (pev C n sc y m)) S = some (v, S')) (h : Post B s ads S' v Q) : wpAny (model B.prog B.w) A (eval (.BoolOp op [x, y] pos) env) Q E s := by
  refine bndE he ?_; clear he; intro b1 S1 e1 e2
  cases b1 with
  | bool b1 =>
    cases op with
    | And =>
      refine BoolOp_and (H A E s own env sc ads S S1 m x _ _ K R F e1 fun u s' ads' N r => ?_)
      rw [r.bool_inv]
      refine wpAny_truthy_bool ?_
      cases b1 with
      | false =>
        obtain ⟨q1, q2⟩ := PM.ret_some e2; clear e2; subst q1 q2
        exact h _ s' ads' N (.bool _)
      | true => exact H A E s' own env sc ads' S1 S' m y v _ K N.sr (F.nx N) e2 (Post.after N h)
    | Or =>
      refine BoolOp_or (H A E s own env sc ads S S1 m x _ _ K R F e1 fun u s' ads' N r => ?_)
      rw [r.bool_inv]
      refine wpAny_truthy_bool ?_
      cases b1 with
      | true =>
        obtain ⟨q1, q2⟩ := PM.ret_some e2; clear e2; subst q1 q2
        exact h _ s' ads' N (.bool _)
      | false => exact H A E s' own env sc ads' S1 S' m y v _ K N.sr (F.nx N) e2 (Post.after N h)
  | _ => exact (nofail e2).elim

theorem ev_tuple (H : EvS B C d n) (K : AOk d A) (R : SR B ads S s.heap) (F : FR B own env sc s.heap ads m) {es : List Expr} {k : Nat} {pos : Pos} {Q : Value → Shared → Prop}
    (he : (if es.any isStar then PM.fail else PM.bnd (evs (fun e => pev C n sc e m) es) mkT) S = some (v, S')) (h : Post B s ads S' v Q) : wpAny (model B.prog B.w) A (eval (.Tuple es k pos) env) Q E s := by
  · refine fiE he ?_; clear he; intro hst he
    refine bndE he ?_; clear he; intro vs S1 e1 e2
    refine iteE e2 ?_; clear e2; intro hc e2
    obtain ⟨q1, q2⟩ := PM.ret_some e2; clear e2; subst q1 q2
    refine Tuple_ ?_
    rw [backTo_plain (by simpa using hst)]
    refine snd_evs H K es s ads S _ vs _ R F e1 fun us s' ads' N rs => ?_
    have hl := rs.length
    have hz := lineLen_le
    refine wpAny_newTuple ?_ (by exact om10 hc hl hz)
    have N2 := N.trans (Nx.push (own := none') N.sr { cls := .type "tuple", data := .seq us.toArray } s'.toks)
    refine h _ _ ads' N2 (.tup (n := 0) (Heap.get?_push_size _ rfl) ?_)
    exact (Nx.push (own := none') N.sr { cls := .type "tuple", data := .seq us.toArray } s'.toks).ext.vrs rs

theorem ev_list (H : EvS B C d n) (K : AOk d A) (R : SR B ads S s.heap) (F : FR B own env sc s.heap ads m) {es : List Expr} {pos : Pos} {Q : Value → Shared → Prop}
    (he : (if es.any isStar then PM.fail else PM.bnd (evs (fun e => pev C n sc e m) es) mkL) S = some (v, S')) (h : Post B s ads S' v Q) : wpAny (model B.prog B.w) A (eval (.List es pos) env) Q E s := by
  · refine fiE he ?_; clear he; intro hst he
    refine bndE he ?_; clear he; intro vs S1 e1 e2
    refine iteE e2 ?_; clear e2; intro hc e2
    obtain ⟨q1, q2⟩ := PM.alloc_some e2; clear e2; subst q1 q2
    refine List_ ?_
    rw [backTo_plain (by simpa using hst)]
    refine snd_evs H K es s ads S _ vs _ R F e1 fun us s' ads' N rs => ?_
    have hl := rs.length
    have hz := lineLen_le
    refine wpAny_newList ?_ (by exact om10 hc hl hz)
    refine post_list (s := s') (us := us) (n := 0) (s' := { s' with heap := s'.heap.push _ }) N.sr ⟨rfl, rfl⟩ (fun _ _ e => Heap.get?_push_of_some _ e) (Nat.le_refl _) (Heap.get?_push_size _ rfl) ?_ (Post.after N h)
    exact (Nx.push (own := none') N.sr { cls := .type "list", data := .seq us.toArray } s'.toks).ext.vrs rs

theorem ev_dict (R : SR B ads S s.heap) {pos : Pos} {Q : Value → Shared → Prop} (he : PM.alloc (.dct []) S = some (v, S')) (h : Post B s ads S' v Q) : wpAny (model B.prog B.w) A (eval (.Dict [] [] pos) env) Q E s := by
  obtain ⟨q1, q2⟩ := PM.alloc_some he; clear he; subst q1 q2
  refine wpAny_Dict_empty ?_
  refine h _ _ (ads ++ [s.heap.objs.size]) (Nx.alloc R ⟨rfl, rfl⟩ (fun _ _ e => Heap.get?_push_of_some _ e) (Nat.le_refl _) ⟨[], Heap.DictOf.new s.heap, .nil⟩) (.ref ?_)
  rw [← R.len]; simp

/-- what a comprehension reads -/
noncomputable def compE (C : Ctx) (r : RC) (sc : Scope) (m : Fm) (elt : Expr) (g : Comprehension) (rest : List Comprehension) (csc : Scope) (pos : Pos) : PM PV := evF C r sc m (.comp elt g rest csc pos)
theorem compE_some {elt : Expr} {g : Comprehension} {rest : List Comprehension} {pos : Pos} (he : compE C (recs C n) sc m elt g rest csc pos S = some (v, S')) : compOk sc csc = true ∧ isSetE g.iter = false ∧ g.is_async = 0 ∧
    ∃ src S1 m2, psrc C n sc g.iter m S = some (src, S1) ∧ srcOk src g.target = true ∧ pcomp C n csc elt S1.length g.target g.ifs rest src (compFm csc m) (S1 ++ [.lst []]) = some (m2, S') ∧ v = .ref S1.length := by
  refine iteE he ?_; clear he; intro hc he
  simp only [Bool.and_eq_true, Bool.not_eq_true', decide_eq_true_eq] at hc
  refine bndE he ?_; clear he; intro src S1 e1 he
  refine bndA he ?_; clear he; intro he
  refine fiE he ?_; clear he; intro hok he
  refine bndE he ?_; clear he; intro m2 S3 e3 he
  obtain ⟨q1, q2⟩ := PM.ret_some he; clear he; subst q1 q2
  exact ⟨hc.1.1, hc.1.2, hc.2, src, S1, m2, e1, by simpa using hok, e3, rfl⟩

theorem ev_comp (HS : SrcS B C d n) (HCo : CompS B C d n) (K : AOk d A) (R : SR B ads S s.heap) (F : FR B own env sc s.heap ads m) {elt : Expr} {g : Comprehension} {rest : List Comprehension} {pos : Pos} {Q : Value → Shared → Prop}
    (he : compE C (recs C n) sc m elt g rest csc pos S = some (v, S')) (h : Post B s ads S' v Q) : wpAny (model B.prog B.w) A (eval (.ListComp elt (g :: rest) csc pos) env) Q E s := by
  obtain ⟨h1, h2, h3, src, S1, m2, e1, hok, e3, rfl⟩ := compE_some he
  obtain ⟨t, it, ifs, z⟩ := g
  cases h3
  rw [eval_ListComp]
  refine snd_listcomp HS HCo K R F h1 h2 e1 hok e3 fun c s' ads' aa hcn N haa hns hca hc0 hcL => ?_
  obtain ⟨mm, hmm⟩ := hns
  refine ⟨mm, hmm, fun h' hsb => ?_⟩
  have Nc : Nx B (· = c) s' ads' { s' with heap := h' } ads' S' := Nx.one N.sr hca hc0 hcL hmm hsb
  exact h _ _ ads' (N.fresh Nc fun b hb => .inr (hb ▸ hcn)) (.ref haa)
end
end
end Mine.Internal
end

section
open PySem PySem.W PyProof.Rows PySem.Spec PySem.Calls PySem.Builtin.Str
namespace Mine.Internal
section
variable {A : Around} {E : Value → Shared → Prop} {s : Shared} {B : Bs} {own : Addr → Prop} {env : Env} {sc csc : Scope} {ads : List Addr} {S S' : St} {m m' : Fm} {u1 u2 : Value} {a b v : PV} {d n : Nat} {C : Ctx}
  {p : Program} {loose : List Str} {mean : ExcName → Option Value} {mg mb : Str → Option Value}

theorem part_none {M : Model} {Q : Value → Shared → Prop} (h : Q .none s) : wpAny M A (evalPart none env) Q E s := wpAny_pure h
theorem part_some {M : Model} {e : Expr} {Q : Value → Shared → Prop} (h : wpAny M A (eval e env) Q E s) : wpAny M A (evalPart (some e) env) Q E s := h

theorem ev_to (H : EvS B C d n) (K : AOk d A) (R : SR B ads S s.heap) (F : FR B own env sc s.heap ads m) {o u : Expr} {ps pos : Pos} {Q : Value → Shared → Prop}
    (he : PM.bnd (pev C n sc o m) (fun ov => PM.bnd (pev C n sc u m) fun k => sliceToK ov k) S = some (v, S')) (h : Post B s ads S' v Q) : wpAny (model B.prog B.w) A (eval (.Subscript o (.Slice none (some u) none ps) pos) env) Q E s := by
  refine PyProof.Rows.Subscript_ ?_
  refine bndE he ?_; clear he; intro ov S1 e1 he
  refine bndE he ?_; clear he; intro kv S2 e2 he
  obtain ⟨k, q1, q2⟩ := tkI_some he; clear he; revert q2; subst q1; intro he
  refine H A E s own env sc ads S S1 m o ov _ K R F e1 fun ou s1 ads1 N1 r1 => ?_
  refine wpAny_Slice (part_none (part_some ?_))
  refine H A E s1 own env sc ads1 S1 S2 m u _ _ K N1.sr (F.nx N1) e2 fun ku s2 ads2 N2 r2 => ?_
  apply VR.intE (r2); intro tk
  exact part_none (snd_sliceTo he N2.sr (N2.ext.vr r1) (Post.after (N1.trans N2) h))
theorem ev_from (H : EvS B C d n) (K : AOk d A) (R : SR B ads S s.heap) (F : FR B own env sc s.heap ads m) {o u : Expr} {ps pos : Pos} {Q : Value → Shared → Prop}
    (he : PM.bnd (pev C n sc o m) (fun ov => PM.bnd (pev C n sc u m) fun k => sliceFromK ov k) S = some (v, S')) (h : Post B s ads S' v Q) : wpAny (model B.prog B.w) A (eval (.Subscript o (.Slice (some u) none none ps) pos) env) Q E s := by
  refine PyProof.Rows.Subscript_ ?_
  refine bndE he ?_; clear he; intro ov S1 e1 he
  refine bndE he ?_; clear he; intro kv S2 e2 he
  obtain ⟨k, q1, q2⟩ := tkI_some he; clear he; revert q2; subst q1; intro he
  refine H A E s own env sc ads S S1 m o ov _ K R F e1 fun ou s1 ads1 N1 r1 => ?_
  refine wpAny_Slice (part_some ?_)
  refine H A E s1 own env sc ads1 S1 S2 m u _ _ K N1.sr (F.nx N1) e2 fun ku s2 ads2 N2 r2 => ?_
  apply VR.intE (r2); intro tk
  exact part_none (part_none (snd_sliceFrom he N2.sr (N2.ext.vr r1) (Post.after (N1.trans N2) h)))
theorem ev_rev (H : EvS B C d n) (K : AOk d A) (R : SR B ads S s.heap) (F : FR B own env sc s.heap ads m) {o : Expr} {kk : Nat} {pc pu ps pos : Pos} {Q : Value → Shared → Prop}
    (he : PM.bnd (pev C n sc o m) (fun ov => psliceRev ov) S = some (v, S')) (h : Post B s ads S' v Q) : wpAny (model B.prog B.w) A (eval (.Subscript o (.Slice none none (some (.UnaryOp .USub (.Constant (.int 1) kk pc) pu)) ps) pos) env) Q E s := by
  refine PyProof.Rows.Subscript_ ?_
  refine bndE he ?_; clear he; intro ov S1 e1 he
  refine H A E s own env sc ads S S1 m o ov _ K R F e1 fun ou s1 ads1 N1 r1 => ?_
  refine wpAny_Slice (part_none (part_none (part_some (UnaryOp_ ?_))))
  refine snd_const (pv := .int 1) rfl N1.sr fun ku s2 ads2 N2 r2 => ?_
  apply VR.intE (r2); intro tk
  refine PyProof.Rows.neg_int ?_
  have N3 := N2.trans (Nx.tok (own := none') N2.sr (s2.toks + 1))
  exact snd_sliceRev he N3.sr (N3.ext.vr r1) (Post.after (N1.trans N3) h)
theorem ev_sub (H : EvS B C d n) (K : AOk d A) (R : SR B ads S s.heap) (F : FR B own env sc s.heap ads m) {o i : Expr} {pos : Pos} {Q : Value → Shared → Prop} (hi : ¬ isSlice i = true)
    (he : PM.bnd (pev C n sc o m) (fun ov => PM.bnd (pev C n sc i m) fun iv => pitem ov iv) S = some (v, S')) (h : Post B s ads S' v Q) : wpAny (model B.prog B.w) A (eval (.Subscript o i pos) env) Q E s := by
  refine PyProof.Rows.Subscript_ ?_
  refine bndE he ?_; clear he; intro ov S1 e1 he
  refine bndE he ?_; clear he; intro iv S2 e2 he
  refine H A E s own env sc ads S S1 m o ov _ K R F e1 fun ou s1 ads1 N1 r1 => ?_
  refine H A E s1 own env sc ads1 S1 S2 m i iv _ K N1.sr (F.nx N1) e2 fun iu s2 ads2 N2 r2 => ?_
  refine snd_item (fun x y => ?_) he N2.sr (N2.ext.vr r1) r2 (Post.after (N1.trans N2) h)
  cases i <;> first | rfl | exact absurd rfl hi

/-- a method is looked up, its arguments are still to come -/
theorem meth_road (H : EvS B C d n) (K : AOk d A) (R : SR B ads S s.heap) (F : FR B own env sc s.heap ads m) {oz name : Str} {op apos pos : Pos} {args : List Expr} {Q : Value → Shared → Prop} (hc : ¬ methOk name apos pos args = true)
    {ov : PV} {S1 S2 : St} {un : Unit} (e1 : pev C n sc (.Name oz op) m S = some (ov, S1)) (e2 : pmethPre ov name S1 = some (un, S2))
    (k : ∀ ou s1 ads1 T id, Nx B none' s ads s1 ads1 S1 → VR s1.heap ads1 ou ov → MethId name T id → s1.TypeIs ou T → S2 = S1 →
          wpAny (model B.prog B.w) A (callWith pos (.builtin id) [ou] (args.map fun e => (false, eval e env)) []) Q E s1) :
    wpAny (model B.prog B.w) A (eval (.Call (.Attribute (.Name oz op) name apos) args [] pos) env) Q E s := by
  unfold methOk at hc
  simp only [Bool.or_eq_true, Bool.not_eq_true', decide_eq_true_eq, not_or, Bool.not_eq_true, Nat.not_lt, Bool.not_eq_false] at hc
  obtain ⟨⟨hline, hstar⟩, hlen⟩ := hc
  refine wpAny_Call_method_late rfl ?_ hline (backTo_plain hstar) ?_
  · rw [backTo_plain hstar]
    have : (args.map fun e => (false, eval e env)).all (fun x => !x.1) = true := by
      rw [List.all_eq_true]
      intro x hx
      obtain ⟨e, _, rfl⟩ := List.mem_map.mp hx
      rfl
    rw [this]
    exact decide_eq_true (om194 hlen)
  · refine H A E s own env sc ads S S1 m _ ov _ K R F e1 fun ou s1 ads1 N1 r1 => ?_
    obtain ⟨hS, T, id, hm, pa, slot, hty, hT, hnd⟩ := meth_pre e2 N1.sr r1
    exact ⟨T, id, pa, slot, hty, hT, hnd, k ou s1 ads1 T id N1 r1 hm hT hS⟩

theorem ev_meth (H : EvS B C d n) (K : AOk d A) (R : SR B ads S s.heap) (F : FR B own env sc s.heap ads m) {oz name : Str} {op apos pos : Pos} {args : List Expr} {Q : Value → Shared → Prop} (hc : ¬ methOk name apos pos args = true)
    (he : methF (recs C n) sc m oz op name args S = some (v, S')) (h : Post B s ads S' v Q) :
    wpAny (model B.prog B.w) A (eval (.Call (.Attribute (.Name oz op) name apos) args [] pos) env) Q E s := by
  refine bndE he ?_; clear he; intro ov S1 e1 he
  refine bndE he ?_; clear he; intro un S2 e2 he
  refine bndE he ?_; clear he; intro vs S3 e3 he4
  refine meth_road H K R F hc e1 e2 fun ou s1 ads1 T id N1 r1 hm hT hS => ?_
  subst hS
  refine callWith_builtin (any_false _) ?_
  cases args with
  | nil =>
    obtain ⟨q1, q2⟩ := PM.ret_some e3; clear e3; subst q1 q2
    exact PySem.evalArgs_none (snd_meth hm he4 N1.sr r1 .nil (Post.after N1 h))
  | cons e0 es =>
    refine evalArgs_plain ?_
    refine snd_evs H K _ s1 ads1 _ S3 vs _ N1.sr (F.nx N1) e3 fun us s2 ads2 N2 rs => ?_
    exact snd_meth hm he4 N2.sr (N2.ext.vr r1) rs (Post.after (N1.trans N2) h)

theorem ev_extz (T : Top p loose mean mg mb B.h0) (G : GlobOk B.h0 mg C.glob) (H : EvS B C d n) (K : AOk d A) (R : SR B ads S s.heap) (F : FR B own env sc s.heap ads m) {oz z : Str} {op apos pz pc pos : Pos} {x y : Expr} {Q : Value → Shared → Prop}
    (hc : ¬ methOk "extend" apos pos [.Call (.Name z pz) [x, y] [] pc] = true) (hxy : ¬ (isStar x || isStar y) = true) (hz : isBi C sc m z (PV.isTy "zip") = true)
    (he : PM.bnd (pev C n sc (.Name oz op) m) (fun ov => PM.bnd (pmethPre ov "extend") fun _ => PM.bnd (pev C n sc x m) fun xv => PM.bnd (pev C n sc y m) fun yv => extZipK ov xv yv) S = some (v, S')) (h : Post B s ads S' v Q) :
    wpAny (model B.prog B.w) A (eval (.Call (.Attribute (.Name oz op) "extend" apos) [.Call (.Name z pz) [x, y] [] pc] [] pos) env) Q E s := by
  refine bndE he ?_; clear he; intro ov S1 e1 he
  refine bndE he ?_; clear he; intro un S2 e2 he
  refine bndE he ?_; clear he; intro xv S3 e3 he
  refine bndE he ?_; clear he; intro yv S4 e4 he
  obtain ⟨k, q1, q2⟩ := tkR_some he; clear he; revert q2; subst q1; intro he
  obtain ⟨xs, q1, q2⟩ := tkT_some he; clear he; revert q2; subst q1; intro he
  obtain ⟨ys, q1, q2⟩ := tkT_some he; clear he; revert q2; subst q1; intro he
  refine bndL he ?_; clear he; intro olds g5 he
  refine iteE he ?_; clear he; intro hc2 he
  refine bndP he ?_; clear he; intro _ he
  obtain ⟨q1, q2⟩ := PM.ret_some he; clear he; subst q1 q2
  simp only [Bool.and_eq_true, decide_eq_true_eq, beq_iff_eq] at hc2
  refine meth_road H K R F hc e1 e2 fun ou s1 ads1 T' id N1 r1 hm hT hS => ?_
  subst hS
  obtain ⟨rfl, rfl⟩ := hm.fun (.inr (.inl ⟨rfl, rfl, rfl⟩))
  refine callWith_builtin (any_false _) (evalArgs_plain (spliced_cons ?_))
  refine call_ty T G N1.sr (F.nx N1) hz (by simpa using hxy) (by simp) ?_
  refine spliced_cons ?_
  refine H A E s1 own env sc ads1 _ S3 m x _ _ K N1.sr (F.nx N1) e3 fun xu s2 ads2 N2 r2 => ?_
  refine spliced_cons ?_
  refine H A E s2 own env sc ads2 S3 _ m y _ _ K N2.sr ((F.nx N1).nx N2) e4 fun yu s3 ads3 N3 r3 => ?_
  refine spliced_nil ?_
  apply VR.tupE ((N3.ext.vr r2)); intro xa us nx hxa rxs
  apply VR.tupE (r3); intro ya ws ny hya rys
  apply VR.refE ((N3.ext.vr (N2.ext.vr r1))); intro L haL
  refine SR.objL N3.sr haL g5 ?_; intro old nL hL rold
  refine zip_tuples hxa hya fun h' zz Z => ?_
  refine spliced_nil ?_
  have hxL : xa ≠ L := ne_of_cls hxa hL (by show ¬ (Value.type "tuple" = Value.type "list"); decide)
  have hyL : ya ≠ L := ne_of_cls hya hL (by show ¬ (Value.type "tuple" = Value.type "list"); decide)
  exact extend_zip K N3.sr (s := { s3 with heap := h' }) ⟨rfl, rfl⟩ Z haL hL rold rxs rys hc2.2 hc2.1 hxL hyL (Post.after ((N1.trans N2).trans N3) h)

theorem ev_call (H : EvS B C d n) (HC : CallsOK B C d) (K : AOk d A) (R : SR B ads S s.heap) (F : FR B own env sc s.heap ads m) {y : Str} {py pos : Pos} {args : List Expr} {Q : Value → Shared → Prop}
    (hst : args.any isStar = false) (hne : args ≠ []) (he : callF C (recs C n) sc m y py args S = some (v, S')) (h : Post B s ads S' v Q) : wpAny (model B.prog B.w) A (eval (.Call (.Name y py) args [] pos) env) Q E s := by
  refine bndE he ?_; clear he; intro fv S1 e1 he
  refine bndE he ?_; clear he; intro vs S2 e2 he
  refine Call_ ?_
  refine H A E s own env sc ads S S1 m _ fv _ K R F e1 fun fu s1 ads1 N1 r1 => ?_
  rw [backTo_plain hst]
  exact snd_callWith H HC K hne N1.sr (F.nx N1) r1 e2 he (Post.after N1 h)

theorem ev_sset (T : Top p loose mean mg mb B.h0) (G : GlobOk B.h0 mg C.glob) (H : EvS B C d n) (K : AOk d A) (R : SR B ads S s.heap) (F : FR B own env sc s.heap ads m) {y z : Str} {py pz pc pos : Pos} {x : Expr} {Q : Value → Shared → Prop}
    (hst : ¬ isStar x = true) (hb1 : isBi C sc m y (PV.isBu "sorted") = true) (hb2 : isBi C sc m z (PV.isTy "set") = true)
    (he : PM.bnd (pev C n sc x m) ssetK S = some (v, S')) (h : Post B s ads S' v Q) : wpAny (model B.prog B.w) A (eval (.Call (.Name y py) [.Call (.Name z pz) [x] [] pc] [] pos) env) Q E s := by
  refine bndE he ?_; clear he; intro xv S1 e1 he
  obtain ⟨k, q1, q2⟩ := tkR_some he; clear he; revert q2; subst q1; intro he
  refine bndL he ?_; clear he; intro vs g2 he
  refine bndF he ?_; clear he; intro ss g3 he
  refine iteE he ?_; clear he; intro hc he
  obtain ⟨q1, q2⟩ := PM.alloc_some he; clear he; subst q1 q2
  refine call_bu T G R F hb1 rfl (by simp) (spliced_cons ?_)
  refine call_ty T G R F hb2 (by simpa using hst) (by simp) (spliced_cons ?_)
  refine H A E s own env sc ads S _ m x _ _ K R F e1 fun xu s1 ads1 N1 r1 => ?_
  refine spliced_nil ?_
  apply VR.refE (r1); intro l al
  refine SR.objL N1.sr al g2 ?_; intro us nn hl rl
  obtain ⟨hss, _⟩ := rl.strs g3
  refine call_set_strs K.handled hl hss (by have : scanBound = 4096 := rfl; exact om195 hc this) fun h' tk hSO hk => ?_
  refine spliced_nil ?_
  exact sorted_set (s := { s1 with heap := h', toks := tk }) K N1.sr ⟨rfl, rfl⟩ hk hSO hc (Post.after N1 h)

theorem ev_lzip (T : Top p loose mean mg mb B.h0) (G : GlobOk B.h0 mg C.glob) (H : EvS B C d n) (K : AOk d A) (R : SR B ads S s.heap) (F : FR B own env sc s.heap ads m) {y z : Str} {py pz pc pos : Pos} {x1 x2 : Expr} {Q : Value → Shared → Prop}
    (hst : ¬ (isStar x1 || isStar x2) = true) (hb1 : isBi C sc m y (PV.isTy "list") = true) (hb2 : isBi C sc m z (PV.isTy "zip") = true)
    (he : PM.bnd (pev C n sc x1 m) (fun av => PM.bnd (pev C n sc x2 m) fun bv => lzipK av bv) S = some (v, S')) (h : Post B s ads S' v Q) : wpAny (model B.prog B.w) A (eval (.Call (.Name y py) [.Call (.Name z pz) [x1, x2] [] pc] [] pos) env) Q E s := by
  refine bndE he ?_; clear he; intro xv S1 e1 he
  refine bndE he ?_; clear he; intro yv S2 e2 he
  obtain ⟨i, q1, q2⟩ := tkR_some he; clear he; revert q2; subst q1; intro he1
  obtain ⟨j, q1, q2⟩ := tkR_some he1; clear he1; revert q2; subst q1; intro he2
  refine bndL he2 ?_; clear he2; intro xs g3 he
  refine bndL he ?_; clear he; intro ys g4 he
  refine iteE he ?_; clear he; intro hc he
  obtain ⟨q1, q2⟩ := PM.alloc_some he; clear he; subst q1 q2
  simp only [Bool.and_eq_true, decide_eq_true_eq, beq_iff_eq] at hc
  refine call_ty T G R F hb1 rfl (by simp) (spliced_cons ?_)
  refine call_ty T G R F hb2 (by simpa using hst) (by simp) (spliced_cons ?_)
  refine H A E s own env sc ads S S1 m x1 _ _ K R F e1 fun xu s1 ads1 N1 r1 => ?_
  refine spliced_cons ?_
  refine H A E s1 own env sc ads1 S1 _ m x2 _ _ K N1.sr (F.nx N1) e2 fun yu s2 ads2 N2 r2 => ?_
  refine spliced_nil ?_
  apply VR.refE ((N2.ext.vr r1)); intro xa ax
  apply VR.refE (r2); intro ya ay
  refine SR.objL N2.sr ax g3 ?_; intro us n1 hx rx
  refine SR.objL N2.sr ay g4 ?_; intro ws n2 hy ry
  refine zip_lists hx hy fun h' zz Z => ?_
  refine spliced_nil ?_
  exact list_zip (s := { s2 with heap := h' }) K (Nx.keep (own := none') N2.sr (s' := { s2 with heap := h' }) ⟨rfl, rfl⟩ (by obtain ⟨_, _, _, _, _, _, _, _, _, _, _, _, _, _, _, _, hk, _⟩ := Z; exact fun b o e => (hk b o e).1)).sr N2.sr ⟨rfl, rfl⟩ Z rx ry hc.2 hc.1 (Heap.lt_size hx) (Heap.lt_size hy) (Post.after (N1.trans N2) h)

theorem evS (T : Top p loose mean mg mb B.h0) (G : GlobOk B.h0 mg C.glob) (HC : CallsOK B C d) (H : EvS B C d n) (HS : SrcS B C d n) (HT : TrS B C d n) (HCo : CompS B C d n) : EvS B C d (n + 1) := by
  intro A E s own env sc ads S S' m e v Q K R F he h
  have he : evF C (recs C n) sc m (viewE e) S = some (v, S') := he
  generalize viewE e = w at he
  cases w with
  | const c k pos =>
    obtain ⟨h1, rfl⟩ := PM.lift_some he
    exact snd_const h1 R h
  | name x pos =>
    obtain ⟨h1, rfl⟩ := PM.lift_some he
    exact snd_name T G R F h1 fun u r => h u s ads (.refl R) r
  | bop op x y pos => exact ev_boolop H K R F he h
  | bin l op r pos =>
    refine bndE he ?_; clear he; intro av S1 e1 he
    refine bndE he ?_; clear he; intro bv S2 e2 he
    refine wpAny_BinOp (H A E s own env sc ads S S1 m l av _ K R F e1 fun u1 s1 ads1 N1 r1 => ?_)
    refine H A E s1 own env sc ads1 S1 S2 m r bv _ K N1.sr (F.nx N1) e2 fun u2 s2 ads2 N2 r2 => ?_
    exact snd_bin he N2.sr (N2.ext.vr r1) r2 (Post.after (N1.trans N2) h)
  | ifx t x y pos =>
    refine bndE he ?_; clear he; intro bb S1 e1 he
    refine IfExp_ (HT A E s own env sc ads S S1 m t bb _ K R F e1 fun s1 ads1 N1 => ?_)
    cases bb with
    | true => exact H A E s1 own env sc ads1 S1 S' m x v _ K N1.sr (F.nx N1) he (Post.after N1 h)
    | false => exact H A E s1 own env sc ads1 S1 S' m y v _ K N1.sr (F.nx N1) he (Post.after N1 h)
  | dict0 pos => exact ev_dict R he h
  | list es pos => exact ev_list H K R F he h
  | tup es k pos => exact ev_tuple H K R F he h
  | comp elt g rest csc pos => exact ev_comp HS HCo K R F he h
  | cmp l op r pos =>
    refine fiE he ?_; clear he; intro hset he
    refine bndE he ?_; clear he; intro av S1 e1 he
    refine bndE he ?_; clear he; intro bv S2 e2 he
    have hm : behindInMarks op r = false := by cases r <;> first | rfl | exact absurd rfl hset
    refine wpAny_Compare1 (H A E s own env sc ads S S1 m l av _ K R F e1 fun u1 s1 ads1 N1 r1 => ?_) hm
    refine H A E s1 own env sc ads1 S1 S2 m r bv _ K N1.sr (F.nx N1) e2 fun u2 s2 ads2 N2 r2 => ?_
    exact snd_cmp K he N2.sr (N2.ext.vr r1) r2 (Post.after (N1.trans N2) h)
  | extz oz op name apos z pz x y pc pos =>
    refine fiE he ?_; clear he; intro hc he
    refine fiE he ?_; clear he; intro hxy he
    rcases PM.or_some he with ⟨hz, he⟩ | ⟨_, he⟩
    · rw [Bool.and_eq_true] at hz
      obtain ⟨hz, hnm⟩ := hz
      have hnm := eq_of_beq hnm
      subst hnm
      exact ev_extz T G H K R F hc hxy hz he h
    · exact ev_meth H K R F hc he h
  | meth oz op name apos args pos =>
    refine fiE he ?_; clear he; intro hc he
    exact ev_meth H K R F hc he h
  | call1 y py z pz x pc pos =>
    refine fiE he ?_; clear he; intro hst he
    rcases PM.or_some he with ⟨hb, he⟩ | ⟨_, he⟩
    · rw [Bool.and_eq_true] at hb
      exact ev_sset T G H K R F hst hb.1 hb.2 he h
    · exact ev_call H HC K R F rfl (fun q => nomatch q) he h
  | call2 y py z pz x1 x2 pc pos =>
    refine fiE he ?_; clear he; intro hst he
    rcases PM.or_some he with ⟨hb, he⟩ | ⟨_, he⟩
    · rw [Bool.and_eq_true] at hb
      exact ev_lzip T G H K R F hst hb.1 hb.2 he h
    · exact ev_call H HC K R F rfl (fun q => nomatch q) he h
  | call y py args pos =>
    refine fiE he ?_; clear he; intro hc he
    simp only [Bool.or_eq_true, decide_eq_true_eq, not_or, Bool.not_eq_true] at hc
    refine ev_call H HC K R F hc.1.1 ?_ he h
    rintro rfl
    exact absurd hc.2 (fun q => nomatch q)
  | slTo o u ps pos => exact ev_to H K R F he h
  | slFrom o l ps pos => exact ev_from H K R F he h
  | slRev o k kk pc pu ps pos =>
    obtain ⟨rfl, he⟩ := PM.ite_some he
    exact ev_rev H K R F he h
  | sub o i pos =>
    refine fiE he ?_; clear he; intro hi he
    exact ev_sub H K R F hi he h
  | bad e => exact (nofail he).elim
end
end Mine.Internal
end

section
open PySem PySem.W PyProof.Rows PySem.Spec PySem.Calls PySem.Builtin.Str
namespace Mine.Internal
section
variable {A : Around} {E : Value → Shared → Prop} {s : Shared} {B : Bs} {own : Addr → Prop} {env : Env} {sc csc : Scope} {ads : List Addr} {S S' : St} {m m' : Fm} {u1 u2 : Value} {a b v : PV} {d n : Nat} {C : Ctx}
  {p : Program} {loose : List Str} {mean : ExcName → Option Value} {mg mb : Str → Option Value}

theorem comp_turn {elt t it : Expr} {ifs : List Expr} {gens rest : List Comprehension} {pos : Pos} {depth : Nat} {I acc : Value} {R : Result → Shared → Prop} (hg : gens.drop depth = ⟨t, it, ifs, 0⟩ :: rest)
    (h : wpAny (model B.prog B.w) A (pyNext I) (fun r s₁ => match r with
      | none => R (.ok .next) s₁
      | some v => wpAny (model B.prog B.w) A (letOwnedTupleGo t I v) (fun _ s₂ => wpAny (model B.prog B.w) A (assign t env v) (fun _ s₃ => wpAny (model B.prog B.w) A (compTests ifs env) (fun ok s₄ =>
          if ok = true then (match rest with
            | [] => wpAny (model B.prog B.w) A (eval elt env) (fun x s₅ => wpAny (model B.prog B.w) A (call (.builtin "list.append") [acc, x]) (fun _ s₆ => codeAny (model B.prog B.w) A (.compLoop (.ListComp elt gens csc pos) depth I acc env) R s₆) (notedBy (model B.prog B.w) A env fun e s' => R (.error e) s') s₅) (notedBy (model B.prog B.w) A env fun e s' => R (.error e) s') s₄
            | g' :: _ => isSetE g'.iter = false ∧ g'.is_async = 0 ∧ wpAny (model B.prog B.w) A (eval g'.iter env) (fun x s₅ => wpAny (model B.prog B.w) A (pyIter x) (fun it' s₆ =>
                codeAny (model B.prog B.w) A (.compStart (.ListComp elt gens csc pos) (depth + 1) it' acc env) (fun r s₇ => match r with
                  | .ok _ => codeAny (model B.prog B.w) A (.compLoop (.ListComp elt gens csc pos) depth I acc env) R s₇
                  | .error e => cameBackBy (model B.prog B.w) A env (notedBy (model B.prog B.w) A env fun e s' => R (.error e) s') e s₇) s₆) (notedBy (model B.prog B.w) A env fun e s' => R (.error e) s') s₅) (notedBy (model B.prog B.w) A env fun e s' => R (.error e) s') s₄)
          else codeAny (model B.prog B.w) A (.compLoop (.ListComp elt gens csc pos) depth I acc env) R s₄) (notedBy (model B.prog B.w) A env fun e s' => R (.error e) s') s₃)
        (notedBy (model B.prog B.w) A env fun e s' => R (.error e) s') s₂) (notedBy (model B.prog B.w) A env fun e s' => R (.error e) s') s₁) (notedBy (model B.prog B.w) A env fun e s' => R (.error e) s') s) :
    codeAny (model B.prog B.w) A (.compLoop (.ListComp elt gens csc pos) depth I acc env) R s := by
  have g0 : gens[depth]? = some ⟨t, it, ifs, 0⟩ := by
    have := congrArg (fun l => l[0]?) hg
    simpa using this
  have g1 : gens[depth + 1]? = rest.head? := by
    have := congrArg (fun l => l[1]?) hg
    simp at this
    rw [this]
    cases rest <;> rfl
  refine codeAny_of_tree ?_
  show wpAny _ _ ((compTurn (.ListComp elt gens csc pos) depth I acc env).onRaise (fun x => do noteFrame x env; theTreesLotGoes x)) _ _ s
  refine wpAny_noted ?_
  unfold compTurn
  simp only [g0, g1]
  refine wpAny_bind (wpAny_standAt ?_)
  refine wpAny_bind (wpAny_mono h (fun r s₁ h₁ => ?_) fun _ _ x => x)
  cases r with
  | none => exact wpAny_pure h₁
  | some v =>
    refine wpAny_bind (wpAny_mono h₁ (fun _ s₂ h₂ => wpAny_bind (wpAny_mono h₂ (fun _ s₃ h₃ => ?_) fun _ _ x => x)) fun _ _ x => x)
    have tests : compTests ifs env = forIn ifs true fun c r => (do if r = true then (do let ok ← isTrue c env (eval c env); pure (ForInStep.yield ok)) else pure (ForInStep.yield r) : Sem (ForInStep Bool)) := by
      unfold compTests
      simp only [bind_pure]
    rw [tests] at h₃
    refine wpAny_bind (wpAny_mono h₃ (fun ok s₄ h₄ => ?_) fun _ _ x => x)
    cases ok with
    | false =>
      exact wpAny_pure ⟨rfl, h₄⟩
    | true =>
      simp only [if_true] at h₄ ⊢
      cases rest with
      | nil =>
        simp only [List.head?_nil]
        refine wpAny_bind (wpAny_bind (wpAny_mono h₄ (fun x s₅ h₅ => wpAny_bind (wpAny_mono h₅ (fun _ s₆ h₆ => wpAny_pure (wpAny_pure ⟨rfl, h₆⟩)) fun _ _ x => x)) fun _ _ x => x))
      | cons g' r' =>
        obtain ⟨q1, q2, h₄⟩ := h₄
        simp only [List.head?_cons, q2]
        refine wpAny_bind (wpAny_mono h₄ (fun x s₅ h₅ => wpAny_bind (wpAny_standAt ?_)) fun _ _ x => x)
        refine wpAny_bind (wpAny_of_eq (foldedSet_plain q1 x) ?_)
        refine wpAny_bind (wpAny_holding (wpAny_mono h₅ (fun it' s₆ h₆ => ?_) fun _ _ x => x))
        refine wpAny_bind (wpAny_runOwn (codeAny_mono h₆ fun r s₇ h₇ => ?_))
        cases r with
        | ok f => exact wpAny_pure ⟨rfl, h₇⟩
        | error e => exact h₇

theorem snd_tests (HT : TrS B C d n) (K : AOk d A) : ∀ (ifs : List Expr) (s : Shared) (ads : List Addr) (S S' : St) (bb : Bool) (Q : Bool → Shared → Prop), SR B ads S s.heap → FR B own env sc s.heap ads m → ctests (fun c => ptrue C n sc c m) ifs S = some (bb, S') →
    (∀ s' ads', Nx B none' s ads s' ads' S' → Q bb s') → wpAny (model B.prog B.w) A (compTests ifs env) Q E s := by
  have skip : ∀ (ifs : List Expr) (s : Shared) (Q : Bool → Shared → Prop), Q false s → wpAny (model B.prog B.w) A (forIn ifs false fun c r => (do if r = true then (do let ok ← isTrue c env (eval c env); pure (ForInStep.yield ok)) else pure (ForInStep.yield r) : Sem (ForInStep Bool))) Q E s := by
    intro ifs
    induction ifs with
    | nil => intro s Q h; exact wpAny_pure h
    | cons c r ih =>
      intro s Q h
      rw [List.forIn_cons]
      exact wpAny_bind (wpAny_pure (ih s Q h))
  have main : ∀ (ifs : List Expr) (s : Shared) (ads : List Addr) (S S' : St) (bb : Bool) (Q : Bool → Shared → Prop), SR B ads S s.heap → FR B own env sc s.heap ads m → ctests (fun c => ptrue C n sc c m) ifs S = some (bb, S') →
      (∀ s' ads', Nx B none' s ads s' ads' S' → Q bb s') → wpAny (model B.prog B.w) A (forIn ifs true fun c r => (do if r = true then (do let ok ← isTrue c env (eval c env); pure (ForInStep.yield ok)) else pure (ForInStep.yield r) : Sem (ForInStep Bool))) Q E s := by
    intro ifs
    induction ifs with
    | nil =>
      intro s ads S S' bb Q R F e h
      obtain ⟨q1, q2⟩ := PM.ret_some e; clear e; subst q1 q2
      exact wpAny_pure (h s ads (.refl R))
    | cons c r ih =>
      intro s ads S S' bb Q R F e h
      refine bndE e ?_; clear e; intro b1 S1 e1 e
      rw [List.forIn_cons]
      simp only [if_true]
      refine wpAny_bind (wpAny_bind (HT A E s own env sc ads S S1 m c b1 _ K R F e1 fun s1 ads1 N1 => wpAny_pure ?_))
      cases b1 with
      | true => exact ih s1 ads1 S1 S' bb Q N1.sr (F.nx N1) e fun s2 ads2 N2 => h s2 ads2 (N1.trans N2)
      | false =>
        obtain ⟨q1, q2⟩ := PM.ret_some e; clear e; subst q1 q2
        exact skip r s1 Q (h s1 ads1 N1)
  intro ifs s ads S S' bb Q R F e h
  unfold compTests
  simp only [bind_pure]
  exact main ifs s ads S S' bb Q R F e h

theorem pat_same {src : Src} {i : Nat} {r : Option PV} (e : pat src i S = some (r, S')) : S' = S := by
  cases src with
  | vals vs => exact (PM.ret_some e).2.symm
  | live n =>
    refine bndL e ?_; clear e; intro vs g1 e
    exact (PM.ret_some e).2.symm
  | enumV vs => exact (PM.ret_some e).2.symm
  | enumL n =>
    refine bndL e ?_; clear e; intro vs g1 e
    exact (PM.ret_some e).2.symm
  | rng k => exact (PM.ret_some e).2.symm

/-- the iterator's own addresses are apart from the frame's -/
structure Off (own : Addr → Prop) (env : Env) (priv : List Addr) : Prop where
  own : ∀ b ∈ priv, ¬ own b
  loc : ∀ b ∈ priv, b ≠ env.locals
  cel : ∀ b ∈ priv, ∀ y, env.kindOf y = some .cell ∨ env.kindOf y = some .free → env.cells.lookup y ≠ some b
theorem FR.priv {s' : Shared} {S' : St} {priv : List Addr} (F : FR B own env sc s.heap ads m) (N : Nx B (· ∈ priv) s ads s' ads S') (O : Off own env priv) : FR B own env sc s'.heap ads m :=
  F.extP N.ext fun b o hb _ => ⟨O.loc b hb, O.cel b hb, O.own b hb⟩
theorem Off.fresh {priv : List Addr} (F : FR B own env sc s.heap ads m) (hf : ∀ b ∈ priv, s.heap.get? b = none) : Off own env priv where
  own := fun b hb ho => by obtain ⟨o, e⟩ := F.live b ho; rw [hf b hb] at e; cases e
  loc := fun b hb q => by
    obtain ⟨mm, ⟨o, _, _, e, _⟩, _⟩ := F.ns
    rw [← q, hf b hb] at e; cases e
  cel := fun b hb y hy q => by
    obtain ⟨c, v₀, k1, ⟨oc, k2, _⟩, _⟩ := F.cell y hy
    rw [k1] at q; cases q
    rw [hf _ hb] at k2; cases k2

theorem comp_loop (T : Top p loose mean mg mb B.h0) (G : GlobOk B.h0 mg C.glob) (H : EvS B C d n) (HS : SrcS B C d n) (HT : TrS B C d n) (HCo : CompS B C d n) (K : AOk d A) {elt t it : Expr} {ifs : List Expr} {gens rest : List Comprehension} {pos : Pos} {depth a : Nat} {aa I : Addr} {src : Src} {priv : List Addr}
    (hg : gens.drop depth = ⟨t, it, ifs, 0⟩ :: rest) (hok : srcOk src t = true) (O : Off own env priv) :
    ∀ (fuel i : Nat) (s : Shared) (ads : List Addr) (S S' : St) (m m' : Fm) (R : Result → Shared → Prop), SR B ads S s.heap → FR B own env csc s.heap ads m → ads[a]? = some aa → ItR B s.heap ads src I i priv →
    cloop (passign csc t) (compF C (recs C n) csc elt a ifs rest) src fuel i m S = some (m', S') →
    (∀ s' ads', Nx B (fun b => own b ∨ b ∈ priv) s ads s' ads' S' → FR B own env csc s'.heap ads' m' → R (.ok .next) s') →
    codeAny (model B.prog B.w) A (.compLoop (.ListComp elt gens csc pos) depth (.ref I) (.ref aa) env) R s := by
  intro fuel
  induction fuel with
  | zero => intro i s ads S S' m m' R _ _ _ _ he _; cases he
  | succ fuel ih =>
    intro i s ads S S' m m' R R0 F haa X he h
    refine bndE he ?_; clear he; intro r S1 e1 hA
    have hS := pat_same e1
    subst hS
    refine comp_turn hg ?_
    refine snd_iter (t := t) K.handled e1 R0 X hok (fun hr s1 N1 => ?_) (fun pv hr u s1 N1 X1 r1 => ?_)
    · subst hr
      obtain ⟨q1, q2⟩ := PM.ret_some hA; clear hA; subst q1 q2
      exact h s1 ads (N1.weaken fun b hb => .inr hb) (F.priv N1 O)
    · subst hr
      refine bndE hA ?_; clear hA; intro m1 S2 e2 hB
      obtain ⟨e2', hS2⟩ := PM.lift_some e2
      subst hS2
      clear e2
      refine bndE hB ?_; clear hB; intro m2 S3 e3x he
      have F1 := F.priv N1 O
      refine snd_assign K.handled e2' N1.sr F1 r1 fun s2 N2 F2 => ?_
      refine bndE e3x ?_; clear e3x; intro ok S4 e4 e3
      refine snd_tests HT K ifs s2 ads _ S4 ok _ N2.sr F2 e4 fun s3 ads3 N3 => ?_
      have N13 : Nx B (fun b => own b ∨ b ∈ priv) s ads s3 ads3 S4 := (N1.weaken fun b hb => .inr hb).trans ((N2.weaken fun b hb => .inl hb).trans (N3.weaken fun b hb => hb.elim))
      have X3 := (X1.ext N2.ext O.own).ext N3.ext (fun _ _ q => q)
      have F3 := F2.nx N3
      have haa3 : ads3[a]? = some aa := by
        obtain ⟨more, hm⟩ := N3.ext.pre
        rw [hm, List.getElem?_append_left (List.getElem?_eq_some_iff.mp haa).1]; exact haa
      cases ok with
      | false =>
        obtain ⟨q1, q2⟩ := PM.ret_some e3; clear e3; subst q1 q2
        exact ih (i + 1) s3 ads3 _ S' _ m' R N3.sr F3 haa3 X3 he fun s' ads' N F' => h s' ads' (N13.trans N) F'
      | true =>
        simp only [if_true]
        cases rest with
        | nil =>
          refine bndE e3 ?_; clear e3; intro v S5 e5 e3
          refine bndL e3 ?_; clear e3; intro vs g6 e3
          refine iteE e3 ?_; clear e3; intro hc e3
          refine bndP e3 ?_; clear e3; intro _ e3
          obtain ⟨q1, q2⟩ := PM.ret_some e3; clear e3; subst q1 q2
          refine H A _ s3 own env csc ads3 S4 _ m1 elt v _ K N3.sr F3 e5 fun xu s4 ads4 N4 r4 => ?_
          have haa4 : ads4[a]? = some aa := by
            obtain ⟨more, hm⟩ := N4.ext.pre
            rw [hm, List.getElem?_append_left (List.getElem?_eq_some_iff.mp haa3).1]; exact haa3
          refine SR.objL N4.sr haa4 g6 ?_; intro ws k hx rx
          have hl := rx.length
          have hll := lineLen_le
          refine call_meets PySem.F.slot_list_append ⟨_, hx, rfl⟩ PySem.F.entry_list_append (PySem.F.args_list_append_2 _ _) (list_append aa ws.toArray k xu (by simp; exact om45 hc hl hll)) ⟨hx, ?_⟩
          have N5 := lst_update N4.sr haa4 hx (f := fun y => y.push xu) (ws := ws ++ [xu]) (by simp) (rx.append (.one r4))
          have F5 := (F3.nx N4).nx N5
          have X5 := (X3.ext N4.ext (fun _ _ q => q)).ext N5.ext (fun _ _ q => q)
          exact ih (i + 1) _ ads4 _ S' _ m' R N5.sr F5 haa4 X5 he fun s' ads' N F' => h s' ads' (N13.trans ((N4.weaken fun b hb => hb.elim).trans ((N5.weaken fun b hb => hb.elim).trans N))) F'
        | cons g2 rest2 =>
          refine fiE e3 ?_; clear e3; intro hset0 e3
          simp only [Bool.or_eq_true, Bool.not_eq_true', decide_eq_false_iff_not, not_or, Decidable.not_not, Bool.not_eq_true] at hset0
          refine bndE e3 ?_; clear e3; intro src2 S5 e5 e3
          refine fiE e3 ?_; clear e3; intro hok2 e3
          obtain ⟨t2, it2, ifs2, z2⟩ := g2
          obtain ⟨hset, hz⟩ := hset0
          cases hz
          refine ⟨hset, rfl, ?_⟩
          refine HS A _ s3 own env csc ads3 S4 S5 m1 it2 src2 _ K N3.sr F3 e5 fun I2 priv2 s4 ads4 N4 X4 hf4 => ?_
          have hg2 : gens.drop (depth + 1) = ⟨t2, it2, ifs2, 0⟩ :: rest2 := by
            have := congrArg (List.drop 1) hg
            rw [List.drop_drop] at this
            simpa [Nat.add_comm] using this
          have g0 : gens[depth + 1]? = some ⟨t2, it2, ifs2, 0⟩ := by
            have := congrArg (fun l => l[0]?) hg2
            simpa using this
          have O2 : Off own env priv2 := Off.fresh F3 hf4
          have haa4 : ads4[a]? = some aa := by
            obtain ⟨more, hm⟩ := N4.ext.pre
            rw [hm, List.getElem?_append_left (List.getElem?_eq_some_iff.mp haa3).1]; exact haa3
          refine comp_start g0 rfl X4 ?_
          refine HCo A s4 own env csc ads4 S5 S3 m1 m2 elt t2 it2 ifs2 gens rest2 pos (depth + 1) a aa src2 I2 priv2 _ K N4.sr (F3.nx N4) hg2 haa4 X4 O2.own (by simpa using hok2) (fun b hb => ⟨O2.loc b hb, O2.cel b hb⟩) e3 fun s5 ads5 N5 F5 => ?_
          have N45 : Nx B own s3 ads3 s5 ads5 S3 := (N4.weaken fun b hb => hb.elim).fresh N5 fun b hb => by
            rcases hb with hb | hb
            · exact .inl hb
            · exact .inr (hf4 b hb)
          have X5 := X3.ext N45.ext O.own
          have haa5 : ads5[a]? = some aa := by
            obtain ⟨more, hm⟩ := N5.ext.pre
            rw [hm, List.getElem?_append_left (List.getElem?_eq_some_iff.mp haa4).1]; exact haa4
          exact ih (i + 1) s5 ads5 S3 S' m2 m' R N45.sr F5 haa5 X5 he fun s' ads' N F' => h s' ads' (N13.trans ((N45.weaken fun b hb => .inl hb).trans N)) F'

theorem compS (T : Top p loose mean mg mb B.h0) (G : GlobOk B.h0 mg C.glob) (H : EvS B C d n) (HS : SrcS B C d n) (HT : TrS B C d n) (HCo : CompS B C d n) : CompS B C d (n + 1) := by
  intro A s own env csc ads S S' m m' elt t it ifs gens rest pos depth a aa src I priv R K R0 F hg haa X ho hok hp he h
  exact comp_loop T G H HS HT HCo K hg hok ⟨ho, fun b hb => (hp b hb).1, fun b hb => (hp b hb).2⟩ C.wf 0 s ads S S' m m' R R0 F haa X he h

theorem all_snd (T : Top p loose mean mg mb B.h0) (G : GlobOk B.h0 mg C.glob) (HC : CallsOK B C d) : ∀ n, EvS B C d n ∧ SrcS B C d n ∧ TrS B C d n ∧ CompS B C d n
  | 0 => by
    refine ⟨?_, ?_, ?_, ?_⟩
    · intro A E s own env sc ads S S' m e v Q _ _ _ he _; exact (nofail he).elim
    · intro A E s own env sc ads S S' m e v Q _ _ _ he _; exact (nofail he).elim
    · intro A E s own env sc ads S S' m e v Q _ _ _ he _; exact (nofail he).elim
    · intro A s own env csc ads S S' m m' elt t it ifs gens rest pos depth a aa src I priv R _ _ _ _ _ _ _ _ _ he _; exact (nofail he).elim
  | n + 1 => by
    obtain ⟨h1, h2, h3, h4⟩ := all_snd T G HC n
    exact ⟨evS T G HC h1 h2 h3 h4, srcS T G h1, trS h1 h3, compS T G h1 h2 h3 h4⟩
end
end Mine.Internal
end

section
open PySem PySem.W PyProof.Rows PySem.Spec PySem.Calls PySem.Builtin.Str
namespace Mine.Internal

/-- how a statement ends -/
inductive FlR (h : Heap) (ads : List Addr) : PFlow → Flow → Prop
  | next : FlR h ads .next .next
  | brk : FlR h ads .brk .brk
  | cont : FlR h ads .cont .cont
  | ret {u : Value} {v : PV} : VR h ads u v → FlR h ads (.ret v) (.ret u)

noncomputable def ExS (B : Bs) (C : Ctx) (d n : Nat) : Prop :=
  ∀ (A : Around) (E : Value → Shared → Prop) (s : Shared) (own : Addr → Prop) (env : Env) (sc : Scope) (ads : List Addr) (S S' : St) (m m' : Fm) (st : Stmt) (fl : PFlow) (Q : Flow → Shared → Prop),
    AOk d A → SR B ads S s.heap → FR B own env sc s.heap ads m → pex C n sc st m S = some ((fl, m'), S') →
    (∀ f s' ads', Nx B own s ads s' ads' S' → FR B own env sc s'.heap ads' m' → FlR s'.heap ads' fl f → Q f s') → wpAny (model B.prog B.w) A (exec st env) Q E s
noncomputable def ExsS (B : Bs) (C : Ctx) (d n : Nat) : Prop :=
  ∀ (A : Around) (E : Value → Shared → Prop) (s : Shared) (own : Addr → Prop) (env : Env) (sc : Scope) (ads : List Addr) (S S' : St) (m m' : Fm) (sts : List Stmt) (fl : PFlow) (Q : Flow → Shared → Prop),
    AOk d A → SR B ads S s.heap → FR B own env sc s.heap ads m → pexs C n sc sts m S = some ((fl, m'), S') →
    (∀ f s' ads', Nx B own s ads s' ads' S' → FR B own env sc s'.heap ads' m' → FlR s'.heap ads' fl f → Q f s') → wpAny (model B.prog B.w) A (execs sts env) Q E s

section
variable {A : Around} {E : Value → Shared → Prop} {s : Shared} {B : Bs} {own : Addr → Prop} {env : Env} {sc csc : Scope} {ads : List Addr} {S S' : St} {m m' : Fm} {u1 u2 : Value} {a b v : PV} {d n : Nat} {C : Ctx}
  {p : Program} {loose : List Str} {mean : ExcName → Option Value} {mg mb : Str → Option Value}

theorem none_own {s' : Shared} {ads' : List Addr} {S' : St} (N : Nx B none' s ads s' ads' S') : Nx B own s ads s' ads' S' := N.weaken fun b hb => hb.elim

theorem exsS (HX : ExS B C d n) (HXs : ExsS B C d n) : ExsS B C d (n + 1) := by
  intro A E s own env sc ads S S' m m' sts fl Q K R F he h
  cases sts with
  | nil =>
    obtain ⟨h1, rfl⟩ := PM.ret_some he
    cases h1
    exact wpAny_execs_nil (h .next s ads (.refl R) F .next)
  | cons st r =>
    obtain ⟨⟨f1, m1⟩, S1, e1, he⟩ := PM.bnd_some he
    refine wpAny_execs_cons (HX A E s own env sc ads S S1 m m1 st f1 _ K R F e1 fun f s1 ads1 N1 F1 r1 => ?_)
    cases r1 with
    | next => exact HXs A E s1 own env sc ads1 S1 S' m1 m' r fl Q K N1.sr F1 he fun f s2 ads2 N2 F2 r2 => h f s2 ads2 (N1.trans N2) F2 r2
    | brk =>
      obtain ⟨h1, rfl⟩ := PM.ret_some he
      cases h1
      exact h _ s1 ads1 N1 F1 .brk
    | cont =>
      obtain ⟨h1, rfl⟩ := PM.ret_some he
      cases h1
      exact h _ s1 ads1 N1 F1 .cont
    | ret r1 =>
      obtain ⟨h1, rfl⟩ := PM.ret_some he
      cases h1
      exact h _ s1 ads1 N1 F1 (.ret r1)

theorem while_loop (HT : TrS B C d n) (HXs : ExsS B C d n) (K : AOk d A) {t : Expr} {body : List Stmt} :
    ∀ (fuel : Nat) (s : Shared) (ads : List Addr) (S S' : St) (m m' : Fm) (fl : PFlow) (R : Result → Shared → Prop), SR B ads S s.heap → FR B own env sc s.heap ads m →
    wloop (fun m => ptrue C n sc t m) (fun m => pexs C n sc body m) fuel m S = some ((fl, m'), S') →
    (∀ f s' ads', Nx B own s ads s' ads' S' → FR B own env sc s'.heap ads' m' → FlR s'.heap ads' fl f → R (.ok f) s') →
    codeAny (model B.prog B.w) A (.whileLoop t body [] env) R s := by
  intro fuel
  induction fuel with
  | zero => intro s ads S S' m m' fl R _ _ he _; cases he
  | succ fuel ih =>
    intro s ads S S' m m' fl R R0 F he h
    refine bndE he ?_; clear he; intro bb S1 e1 he1
    refine codeAny_of_tree ?_
    show wpAny _ A ((whileTurn t body [] env).onRaise (fun x => do noteFrame x env; theTreesLotGoes x)) _ _ s
    refine wpAny_noted ?_
    simp only [whileTurn]
    refine wpAny_bind (HT A _ s own env sc ads S S1 m t bb _ K R0 F e1 fun s1 ads1 N1 => ?_)
    cases bb with
    | false =>
      obtain ⟨h1, rfl⟩ := PM.ret_some he1
      cases h1
      simp only [Bool.false_eq_true, if_false]
      exact wpAny_bind (wpAny_execs_nil (wpAny_pure (h .next s1 ads1 (none_own N1) (F.nx N1) .next)))
    | true =>
      simp only [if_true]
      obtain ⟨⟨f1, m1⟩, S2, e2, he2⟩ := PM.bnd_some he1
      clear he1
      refine wpAny_bind (HXs A _ s1 own env sc ads1 S1 S2 m m1 body f1 _ K N1.sr (F.nx N1) e2 fun f s2 ads2 N2 F2 r2 => ?_)
      have N12 := (none_own (own := own) N1).trans N2
      cases r2 with
      | next => exact wpAny_pure ⟨rfl, ih s2 ads2 S2 S' m1 m' fl R N2.sr F2 he2 fun f s3 ads3 N3 F3 r3 => h f s3 ads3 (N12.trans N3) F3 r3⟩
      | cont => exact wpAny_pure ⟨rfl, ih s2 ads2 S2 S' m1 m' fl R N2.sr F2 he2 fun f s3 ads3 N3 F3 r3 => h f s3 ads3 (N12.trans N3) F3 r3⟩
      | brk =>
        obtain ⟨h1, rfl⟩ := PM.ret_some he2
        cases h1
        exact wpAny_pure (h _ s2 ads2 N12 F2 .next)
      | ret r2 =>
        obtain ⟨h1, rfl⟩ := PM.ret_some he2
        cases h1
        exact wpAny_pure (h _ s2 ads2 N12 F2 (.ret r2))

theorem for_loop (HXs : ExsS B C d n) (K : AOk d A) {t : Expr} {body : List Stmt} {src : Src} {I : Addr} {priv : List Addr} (hok : srcOk src t = true) (O : Off own env priv) :
    ∀ (fuel i : Nat) (s : Shared) (ads : List Addr) (S S' : St) (m m' : Fm) (fl : PFlow) (R : Result → Shared → Prop), SR B ads S s.heap → FR B own env sc s.heap ads m → ItR B s.heap ads src I i priv →
    floop (passign sc t) (fun m => pexs C n sc body m) src fuel i m S = some ((fl, m'), S') →
    (∀ f s' ads', Nx B (fun b => own b ∨ b ∈ priv) s ads s' ads' S' → FR B own env sc s'.heap ads' m' → FlR s'.heap ads' fl f → R (.ok f) s') →
    codeAny (model B.prog B.w) A (.forLoop t (.ref I) body [] env) R s := by
  intro fuel
  induction fuel with
  | zero => intro i s ads S S' m m' fl R _ _ _ he _; cases he
  | succ fuel ih =>
    intro i s ads S S' m m' fl R R0 F X he h
    refine bndE he ?_; clear he; intro r S1 e1 hA
    have hS := pat_same e1
    subst hS
    refine codeAny_of_tree ?_
    show wpAny _ A ((forTurn t (.ref I) body [] env).onRaise (fun x => do noteFrame x env; theTreesLotGoes x)) _ _ s
    refine wpAny_noted ?_
    simp only [forTurn]
    refine wpAny_bind (wpAny_standAt (wpAny_bind (wpAny_onRaise (wpAny_mono (snd_iter (t := t) K.handled e1 R0 X hok
      (E := fun x s' => notedBy (model B.prog B.w) A env (fun e s' => R (.error e) s') x s')
      (Qn := fun s1 => R (.ok .next) s1)
      (Qs := fun u s1 => wpAny (model B.prog B.w) A (assign t env u) (fun _ s2 => wpAny (model B.prog B.w) A (execs body env) (fun f s3 => match f with
          | .next | .cont => codeAny (model B.prog B.w) A (.forLoop t (.ref I) body [] env) R s3
          | .brk => R (.ok .next) s3
          | .ret v => R (.ok (.ret v)) s3) (notedBy (model B.prog B.w) A env fun e s' => R (.error e) s') s2) (notedBy (model B.prog B.w) A env fun e s' => R (.error e) s') s1)
      (fun hr s1 N1 => ?_) (fun pv hr u s1 N1 X1 r1 => ?_)) (fun r s₁ h₁ => ?_) fun _ _ h' => wpAny_standAt h'))))
    · subst hr
      obtain ⟨h1, rfl⟩ := PM.ret_some hA
      cases h1
      exact h .next s1 ads (N1.weaken fun b hb => .inr hb) (F.priv N1 O) .next
    · subst hr
      refine bndE hA ?_; clear hA; intro m1 S2 e2 hB
      obtain ⟨e2', hS2⟩ := PM.lift_some e2
      subst hS2
      clear e2
      obtain ⟨⟨f1, m2⟩, S3, e3, he⟩ := PM.bnd_some hB
      clear hB
      refine snd_assign K.handled e2' N1.sr (F.priv N1 O) r1 fun s2 N2 F2 => ?_
      refine HXs A _ s2 own env sc ads _ S3 m1 m2 body f1 _ K N2.sr F2 e3 fun f s3 ads3 N3 F3 r3 => ?_
      have N13 : Nx B (fun b => own b ∨ b ∈ priv) s ads s3 ads3 S3 := (N1.weaken fun b hb => .inr hb).trans ((N2.trans N3).weaken fun b hb => .inl hb)
      have X3 := (X1.ext N2.ext O.own).ext N3.ext O.own
      cases r3 with
      | next => exact ih (i + 1) s3 ads3 S3 S' m2 m' fl R N3.sr F3 X3 he fun f s4 ads4 N4 F4 r4 => h f s4 ads4 (N13.trans N4) F4 r4
      | cont => exact ih (i + 1) s3 ads3 S3 S' m2 m' fl R N3.sr F3 X3 he fun f s4 ads4 N4 F4 r4 => h f s4 ads4 (N13.trans N4) F4 r4
      | brk =>
        obtain ⟨h1, rfl⟩ := PM.ret_some he
        cases h1
        exact h _ s3 ads3 N13 F3 .next
      | ret r3 =>
        obtain ⟨h1, rfl⟩ := PM.ret_some he
        cases h1
        exact h _ s3 ads3 N13 F3 (.ret r3)
    · cases r with
      | none => exact wpAny_pure ⟨rfl, codeAny_block (wpAny_execs_nil h₁)⟩
      | some v =>
        refine wpAny_bind (wpAny_mono h₁ (fun _ s₂ h₂ => ?_) fun _ _ x => x)
        refine wpAny_bind (wpAny_mono h₂ (fun _ s₃ h₃ => wpAny_bind (wpAny_mono h₃ (fun f s₄ h₄ => ?_) fun _ _ x => x)) fun _ _ x => x)
        cases f with
        | next => exact wpAny_pure ⟨rfl, h₄⟩
        | cont => exact wpAny_pure ⟨rfl, h₄⟩
        | brk => exact wpAny_pure h₄
        | ret v => exact wpAny_pure h₄

theorem swaps_plain {e : Expr} (h : isComp e = false) (t : Option Expr) (l : Nat) : swapsWith e t l env = pure false := by
  cases e <;> first | rfl | cases h

theorem assign_plain (H : EvS B C d n) (K : AOk d A) {t e : Expr} {pos : Pos} {Q : Flow → Shared → Prop} (R : SR B ads S s.heap) (F : FR B own env sc s.heap ads m) {S1 : St}
    (hsw : swapsWith e (some t) pos.line env = pure false) (e1 : pev C n sc e m S = some (v, S1)) (e2 : passign sc t v m = some m')
    (hc : ¬ constTup e = true)
    (h : ∀ s' ads', Nx B own s ads s' ads' S1 → FR B own env sc s'.heap ads' m' → Q .next s') : wpAny (model B.prog B.w) A (exec (.Assign [t] e pos) env) Q E s := by
  rw [arm_exec_Assign]
  refine wpAny_bind (wpAny_standAt ?_)
  have hs : swapsWithSole [t] e pos.line env = pure false := hsw
  rw [hs]
  refine wpAny_bind (wpAny_pure ?_)
  simp only [Bool.false_eq_true, if_false]
  refine wpAny_bind (H A E s own env sc ads S S1 m e v _ K R F e1 fun u s1 ads1 N1 r1 => ?_)
  exact snd_stores K.handled e2 N1.sr (F.nx N1) r1 hc fun s2 N2 F2 => h s2 ads1 ((none_own N1).trans N2) F2

theorem assign_comp (HS : SrcS B C d n) (HCo : CompS B C d n) (K : AOk d A) {x : Str} {px pos pos' : Pos} {elt : Expr} {g : Comprehension} {rest : List Comprehension} {Q : Flow → Shared → Prop} (R : SR B ads S s.heap) (F : FR B own env sc s.heap ads m) {S1 : St}
    (hsw : swapsWith (.ListComp elt (g :: rest) csc pos') (some (.Name x px)) pos.line env = pure true) (e1 : compE C (recs C n) sc m elt g rest csc pos' S = some (v, S1)) (e2 : passign sc (.Name x px) v m = some m')
    (h : ∀ s' ads', Nx B own s ads s' ads' S1 → FR B own env sc s'.heap ads' m' → Q .next s') : wpAny (model B.prog B.w) A (exec (.Assign [.Name x px] (.ListComp elt (g :: rest) csc pos') pos) env) Q E s := by
  rw [arm_exec_Assign]
  refine wpAny_bind (wpAny_standAt ?_)
  have hs : swapsWithSole [.Name x px] (.ListComp elt (g :: rest) csc pos') pos.line env = pure true := hsw
  rw [hs]
  refine wpAny_bind (wpAny_pure ?_)
  simp only [if_true]
  obtain ⟨hc1, hc2, hz, src, S2, m2, e3, hok, e5, rfl⟩ := compE_some e1
  obtain ⟨t, it, ifs, z⟩ := g
  cases hz
  refine wpAny_bind ?_
  show wpAny (model B.prog B.w) A (do let _ ← comprehension (.ListComp elt (⟨t, it, ifs, 0⟩ :: rest) csc pos') csc env _ (newList []) false (eval it env) (some _)) _ E s
  refine wpAny_bind (snd_listcomp HS HCo K R F hc1 hc2 e3 hok e5 fun c s' ads' aa hcn N haa hns hca hc0 hcL => ?_)
  obtain ⟨mm, hmm⟩ := hns
  have O : Off own env [c] := Off.fresh F (by simpa using hcn)
  have nown : ¬ own c := O.own c (by simp)
  show wpAny _ _ (assign (.Name x px) env (.ref aa)) _ _ _
  refine snd_assign K.handled e2 N.sr (F.nx N) (.ref haa) fun s2 N2 F2 => ?_
  obtain ⟨oc, es, ep, hoc, hr⟩ := hmm
  have hmm2 : s2.heap.Ns c mm := ⟨oc, es, ep, N2.ext.keep _ _ hoc hca nown, hr⟩
  refine ⟨mm, hmm2, fun h' hsb => ?_⟩
  have N3 : Nx B (· = c) s2 ads' { s2 with heap := h' } ads' S1 := Nx.one N2.sr hca hc0 hcL hmm2 hsb
  have F3 : FR B own env sc h' ads' m' := F2.extP N3.ext fun b o hb _ => by
    subst hb
    exact ⟨O.loc b (by simp), O.cel b (by simp), nown⟩
  refine wpAny_pure (wpAny_pure ?_)
  refine h _ ads' ?_ F3
  refine ((none_own (own := own) N).trans N2).fresh N3 fun b hb => .inr ?_
  rw [hb]; exact hcn

theorem exS (T : Top p loose mean mg mb B.h0) (G : GlobOk B.h0 mg C.glob) (HC : CallsOK B C d) (HXs : ExsS B C d n) : ExS B C d (n + 1) := by
  intro A E s own env sc ads S S' m m' st fl Q K R F he h
  obtain ⟨H, HS, HT, HCo⟩ := all_snd T G HC n
  have he : exF C (recs C n) sc (pexs C n sc) m (viewX st) S = some ((fl, m'), S') := he
  generalize viewX st = w at he
  cases w with
  | expr o name apos args kws cp pos =>
    refine bndE he ?_; clear he; intro v S1 e1 he
    cases v with
    | none =>
      obtain ⟨h1, rfl⟩ := PM.ret_some he
      cases h1
      refine wpAny_Expr (H A E s own env sc ads S _ m _ _ _ K R F e1 fun u s1 ads1 N1 r1 => ?_) ?_ rfl
      · have hu := r1.none_inv
        subst hu
        exact h .next s1 ads1 (none_own N1) (F.nx N1) .next
      · unfold interactive
        rw [F.kind]
        rfl
    | _ => exact (nofail he).elim
  | cont pos =>
    obtain ⟨h1, rfl⟩ := PM.ret_some he
    cases h1
    exact wpAny_Continue (h .cont s ads (.refl R) F .cont)
  | ret e pos =>
    refine bndE he ?_; clear he; intro v S1 e1 he
    obtain ⟨h1, rfl⟩ := PM.ret_some he
    cases h1
    exact wpAny_Return_some (H A E s own env sc ads S _ m e v _ K R F e1 fun u s1 ads1 N1 r1 => h _ s1 ads1 (none_own N1) (F.nx N1) (.ret r1))
  | ite t a b pos =>
    refine bndE he ?_; clear he; intro bb S1 e1 he
    refine wpAny_If (HT A E s own env sc ads S S1 m t bb _ K R F e1 fun s1 ads1 N1 => ?_)
    cases bb with
    | true => exact HXs A E s1 own env sc ads1 S1 S' m m' a fl Q K N1.sr (F.nx N1) he fun f s2 ads2 N2 F2 r2 => h f s2 ads2 ((none_own N1).trans N2) F2 r2
    | false => exact HXs A E s1 own env sc ads1 S1 S' m m' b fl Q K N1.sr (F.nx N1) he fun f s2 ads2 N2 F2 r2 => h f s2 ads2 ((none_own N1).trans N2) F2 r2
  | whl t body pos => exact wpAny_While (while_loop HT HXs K C.wf s ads S S' m m' fl _ R F he h)
  | «for» t it body pos =>
    refine fiE he ?_; clear he; intro hset he
    refine bndE he ?_; clear he; intro src S1 e1 he
    refine fiE he ?_; clear he; intro hok he
    refine wpAny_For ?_ (fun x => foldedSet_plain (by simpa using hset) x)
    refine HS A E s own env sc ads S S1 m it src _ K R F e1 fun I priv s1 ads1 N1 X1 hf1 => ?_
    have O : Off own env priv := Off.fresh F hf1
    refine for_loop HXs K (by simpa using hok) O C.wf 0 s1 ads1 S1 S' m m' fl _ N1.sr (F.nx N1) X1 he fun f s2 ads2 N2 F2 r2 => ?_
    refine h f s2 ads2 ((none_own (own := own) N1).fresh N2 fun b hb => ?_) F2 r2
    rcases hb with hb | hb
    · exact .inl hb
    · exact .inr (hf1 b hb)
  | asgn t e pos =>
    refine fiE he ?_; clear he; intro hc he
    simp only [Bool.or_eq_true, not_or] at hc
    refine bndE he ?_; clear he; intro v S1 e1 he
    refine bndF he ?_; clear he; intro m1 e2' he
    obtain ⟨h1, rfl⟩ := PM.ret_some he
    cases h1
    have fin : ∀ s' ads', Nx B own s ads s' ads' S1 → FR B own env sc s'.heap ads' m' → Q .next s' := fun s' ads' N F' => h .next s' ads' N F' .next
    by_cases hcomp : isComp e = true
    · rcases passign_some e2' with ⟨x, px, rfl, _⟩ | ⟨ts, k, px, xs, vs, rfl, hx, _⟩
      · cases n with
        | zero => exact (nofail e1).elim
        | succ n =>
          have e1' : evF C (recs C n) sc m (viewE e) S = some (v, S1) := e1
          generalize hw : viewE e = w at e1'
          cases w with
          | comp elt g rest csc pos' =>
            obtain ⟨bb, hbb⟩ : ∃ bb, swapsWith (.ListComp elt (g :: rest) csc pos') (some (.Name x px)) pos.line env = pure bb := ⟨_, rfl⟩
            cases bb with
            | false => exact assign_plain H K R F hbb e1 e2' hc.2 fin
            | true =>
              obtain ⟨_, HS', _, HCo'⟩ := all_snd T G HC n
              exact assign_comp HS' HCo' K R F hbb e1' e2' fin
          | bad e => exact (nofail e1').elim
          | _ => exact absurd hcomp (fun q => nomatch q)
      · refine absurd ?_ hc.1
        rw [hcomp]
        have : tnames (.Tuple ts k px) = some (true, xs) := congrArg (Option.map fun xs => (true, xs)) hx
        rw [this]
        rfl
    · exact assign_plain H K R F (swaps_plain (by simpa using hcomp) _ _) e1 e2' hc.2 fin
  | asub o i ps e pos =>
    refine fiE he ?_; clear he; intro hc he
    simp only [Bool.or_eq_true, not_or, Bool.not_eq_true] at hc
    refine bndE he ?_; clear he; intro v S1 e1 he
    refine bndE he ?_; clear he; intro ov S2 e2 he
    refine bndE he ?_; clear he; intro iv S3 e3 he
    refine bndE he ?_; clear he; intro _ S4 e4 he
    obtain ⟨h1, rfl⟩ := PM.ret_some he
    cases h1
    refine wpAny_Assign_Subscript ?_ (swaps_plain hc.2 _ _)
    refine H A E s own env sc ads S S1 m e v _ K R F e1 fun u s1 ads1 N1 r1 => ?_
    refine H A E s1 own env sc ads1 S1 S2 m o ov _ K N1.sr (F.nx N1) e2 fun ou s2 ads2 N2 r2 => ?_
    refine H A E s2 own env sc ads2 S2 S3 m i iv _ K N2.sr ((F.nx N1).nx N2) e3 fun iu s3 ads3 N3 r3 => ?_
    refine snd_setitem K e4 N3.sr (N3.ext.vr r2) r3 (N3.ext.vr (N2.ext.vr r1)) fun s4 ads4 N4 => ?_
    exact h .next s4 ads4 (none_own (((N1.trans N2).trans N3).trans N4)) ((((F.nx N1).nx N2).nx N3).nx N4) .next
  | bad st => exact (nofail he).elim

theorem all_ex (T : Top p loose mean mg mb B.h0) (G : GlobOk B.h0 mg C.glob) (HC : CallsOK B C d) : ∀ n, ExS B C d n ∧ ExsS B C d n
  | 0 => by
    refine ⟨?_, ?_⟩
    · intro A E s own env sc ads S S' m m' st fl Q _ _ _ he _; exact (nofail he).elim
    · intro A E s own env sc ads S S' m m' st fl Q _ _ _ he _; exact (nofail he).elim
  | n + 1 => by
    obtain ⟨h1, h2⟩ := all_ex T G HC n
    exact ⟨exS T G HC h2, exsS h1 h2⟩
end
end Mine.Internal
end

section
open PySem PySem.W PyProof.Rows PySem.Spec PySem.Calls PySem.Builtin.Str
namespace Mine.Internal

/-- a def of the text stands at an address -/
structure DefOk (h0 : Heap) (a : Addr) (d : Fdef) : Prop where
  ex : ∃ o fd, h0.get? a = some o ∧ o.data = .func fd ∧ fd.body = .stmts d.body ∧ fd.scope = d.scope ∧ fd.closure = [] ∧ fd.globals = mainGlobals ∧ fd.builtins = builtinsNs ∧ h0.CodeRec fd.code fd.qualname ∧
    ∀ vals : List Value, vals.length = d.params.length → bindArgs fd ⟨vals, []⟩ = pure (d.params.zip vals)
  kind : d.scope.kind = .function
  co : d.scope.isCoroutine = false
  gen : d.scope.isGenerator = false
  kinds : ∀ x ∈ d.params, d.scope.names.lookup x = some .local ∨ d.scope.names.lookup x = some .cell
  nofree : ∀ x, d.scope.names.lookup x ≠ some .free

section
variable {A : Around} {E : Value → Shared → Prop} {s : Shared} {B : Bs} {ads : List Addr} {S S' : St} {v : PV} {k : Nat} {F : Addr → Option Fdef} {glob : Str → Option PV} {wf : Nat}
  {p : Program} {loose : List Str} {mean : ExcName → Option Value} {mg mb : Str → Option Value}

theorem bindL_rel {h : Heap} {kd : Str → Option NameKind} : ∀ (ps : List Str) (us : List Value) (args : List PV) (m0 : Fm) (mL : Str → Option Value), VRs h ads us args →
    (∀ x pv, kd x = some .local → m0 x = some pv → ∃ v, mL x = some v ∧ VR h ads v pv) →
    ∀ x pv, kd x = some .local → bindAll m0 ps args x = some pv → ∃ v, bindL kd (ps.zip us) mL x = some v ∧ VR h ads v pv
  | [], us, args, m0, mL, r, h0, x, pv, hx, e => h0 x pv hx e
  | y :: ps, us, args, m0, mL, r, h0, x, pv, hx, e => by
    cases r with
    | nil => exact h0 x pv hx e
    | @cons u v us vs ru rus =>
      refine bindL_rel ps us vs _ _ rus (fun x pv hx e => ?_) x pv hx e
      by_cases hxy : x = y
      · subst hxy
        rw [if_pos hx]
        simp only [Fm.upd, if_true] at e ⊢
        cases e
        exact ⟨u, rfl, ru⟩
      · have e' : m0 x = some pv := by simpa [Fm.upd, hxy] using e
        obtain ⟨w, hw, rw'⟩ := h0 x pv hx e'
        refine ⟨w, ?_, rw'⟩
        by_cases hy : kd y = some .local
        · rw [if_pos hy]; simpa [hxy] using hw
        · rw [if_neg hy]; exact hw
theorem bindC_rel {h : Heap} {kd : Str → Option NameKind} : ∀ (ps : List Str) (us : List Value) (args : List PV) (m0 : Fm) (mL : Str → Option Value), VRs h ads us args →
    (∀ x pv, kd x = some .cell → m0 x = some pv → ∃ v, mL x = some v ∧ VR h ads v pv) →
    ∀ x pv, kd x = some .cell → bindAll m0 ps args x = some pv → ∃ v, bindC kd (ps.zip us) mL x = some v ∧ VR h ads v pv
  | [], us, args, m0, mL, r, h0, x, pv, hx, e => h0 x pv hx e
  | y :: ps, us, args, m0, mL, r, h0, x, pv, hx, e => by
    cases r with
    | nil => exact h0 x pv hx e
    | @cons u v us vs ru rus =>
      refine bindC_rel ps us vs _ _ rus (fun x pv hx e => ?_) x pv hx e
      by_cases hxy : x = y
      · subst hxy
        have hn : ¬ kd x = some .local := by rw [hx]; decide
        rw [if_neg hn]
        simp only [Fm.upd, if_true] at e ⊢
        cases e
        exact ⟨u, rfl, ru⟩
      · have e' : m0 x = some pv := by simpa [Fm.upd, hxy] using e
        obtain ⟨w, hw, rw'⟩ := h0 x pv hx e'
        refine ⟨w, ?_, rw'⟩
        by_cases hy : kd y = some .local
        · rw [if_pos hy]; exact hw
        · rw [if_neg hy]; simpa [hxy] using hw

theorem frame_new {s₁ : Shared} {a : Addr} {d : Fdef} {fd : FuncData} {us : List Value} {args : List PV} (R : SR B ads S s.heap) (ra : VRs s.heap ads us args) (hsc : fd.scope = d.scope) (hg : fd.globals = mainGlobals) (hb : fd.builtins = builtinsNs)
    (hk : d.scope.kind = .function) (nofree : ∀ x, d.scope.names.lookup x ≠ some .free)
    (X : InCallC s (callEnvC fd s.heap.objs.size a).locals (bindL (callEnvC fd s.heap.objs.size a).kindOf (d.params.zip us) fun _ => none) (callEnvC fd s.heap.objs.size a).cells
        (bindC (callEnvC fd s.heap.objs.size a).kindOf (d.params.zip us) fun _ => none) s₁) :
    FR B (fun b => b = s.heap.objs.size ∨ ∃ x, (callEnvC fd s.heap.objs.size a).cells.lookup x = some b) (callEnvC fd s.heap.objs.size a) d.scope s₁.heap ads (bindAll (fun _ => none) d.params args) := by
  have kd : (callEnvC fd s.heap.objs.size a).kindOf = fun x => d.scope.names.lookup x := by
    funext x; show fd.scope.names.lookup x = _; rw [hsc]
  have ra1 : VRs s₁.heap ads us args := ra.mono (fun b us n e => X.toInCall.keep _ _ e) ⟨[], (List.append_nil _).symm⟩
  have nads : ∀ b, s.heap.objs.size ≤ b → b ∉ ads := fun b hb hm => by
    obtain ⟨o, e, _⟩ := R.alive hm
    exact Nat.lt_irrefl _ (Nat.lt_of_lt_of_le (Heap.lt_size e) hb)
  have nold : ∀ b, s.heap.objs.size ≤ b → B.h0.get? b = none := fun b hb => Heap.get?_none_of_le (Nat.le_trans (Nat.le_of_lt R.big) hb)
  have above : ∀ x c, (callEnvC fd s.heap.objs.size a).cells.lookup x = some c → s.heap.objs.size < c := fun x c h => X.above x c (PySem.mem_of_lookup h)
  refine ⟨?_, hg, hb, ?_, ?_, ?_, ?_, nads _ (Nat.le_refl _), nold _ (Nat.le_refl _), .inl rfl, ?_, ?_, ?_, ?_⟩
  · show fd.scope.kind = _; rw [hsc]; exact hk
  · intro x h; rw [kd]; exact h
  · intro x h; rw [kd]; exact h
  · intro x h; exact absurd h (nofree x)
  · intro x h; rw [kd]; exact h
  · exact ⟨_, X.toInCall.ns, fun x pv hx e => bindL_rel d.params us args _ _ ra1 (fun _ _ _ e => by cases e) x pv hx e⟩
  · intro x hx
    have hx' : (callEnvC fd s.heap.objs.size a).kindOf x = some .cell := by
      rcases hx with h | h
      · exact h
      · rw [kd] at h; exact absurd h (nofree x)
    have hs : ((callEnvC fd s.heap.objs.size a).cells.lookup x).isSome = true := cellsFrom_some fd.scope.names _ [] (.inl hx')
    obtain ⟨c, hc⟩ := Option.isSome_iff_exists.mp hs
    have hlt := above x c hc
    refine ⟨c, _, hc, X.cell x c hc, nads c (Nat.le_of_lt hlt), nold c (Nat.le_of_lt hlt), ?_, fun _ => .inr ⟨x, hc⟩, fun pv e => bindC_rel d.params us args _ _ ra1 (fun _ _ _ e => by cases e) x pv hx' e⟩
    exact Nat.ne_of_gt hlt
  · rintro b (rfl | ⟨x, hc⟩)
    · obtain ⟨o, _, _, ho, _⟩ := X.toInCall.ns
      exact ⟨o, ho⟩
    · obtain ⟨o, ho, _⟩ := X.cell x b hc
      exact ⟨o, ho⟩
  · intro x y c h1 h2
    exact name_of_addr X.apart (PySem.mem_of_lookup h1) (PySem.mem_of_lookup h2)

theorem calls_snd (T : Top p loose mean mg mb B.h0) (G : GlobOk B.h0 mg glob) (HF : ∀ a d, F a = some d → DefOk B.h0 a d) : ∀ k, CallsOK B ⟨callN F glob wf k, glob, wf⟩ k
  | 0 => by
    refine ⟨fun A E s ads S S' a args us v Q _ e => ?_, fun a args S r e => ?_⟩
    · cases e
    · cases e
  | k + 1 => by
    have IH := calls_snd T G HF k
    have X : ∀ n, ExS B ⟨callN F glob wf k, glob, wf⟩ k n ∧ ExsS B ⟨callN F glob wf k, glob, wf⟩ k n := all_ex T G IH
    refine ⟨fun A E s ads S S' a args us v Q K e R ra h => ?_, fun a args S r e => ?_⟩
    · have e : (match F a with | none => PM.fail | some d => if d.params.length = args.length then PM.bnd (pexs ⟨callN F glob wf k, glob, wf⟩ 60 d.scope d.body (bindAll (fun _ => none) d.params args)) endK else .fail) S = some (v, S') := e
      cases hF : F a with
      | none => rw [hF] at e; cases e
      | some d =>
        rw [hF] at e
        obtain ⟨hlen, e⟩ := PM.ite_some e
        obtain ⟨⟨fl, m1⟩, S1, e1, e2⟩ := PM.bnd_some e
        clear e
        have D := HF a d hF
        obtain ⟨o, fd, ho, hd, hbody, hsc, hclo, hgl, hbi, hcd, hbind⟩ := D.ex
        have hk1 : ∀ b o, B.h0.get? b = some o → s.heap.get? b = some o := R.base
        refine wpAny_call (codeAny_call_cells (Nat.lt_of_le_of_lt (Nat.le_add_right _ _) K.depth) (hk1 _ _ ho) hd (T.nolimit.keeps hk1) (hcd.keeps hk1) hbody (hbind us (by rw [ra.length, hlen])) hclo ?_ (fun s₁ X1 => ?_) (by rw [hsc]; exact D.co) (by rw [hsc]; exact D.gen) (by rw [hsc]; exact D.kind))
        · intro x hx
          have hm : x.1 ∈ d.params := (List.of_mem_zip hx).1
          rw [hsc]
          exact (D.kinds _ hm).imp id fun q => ⟨q, cellsFrom_some _ _ _ (.inl q)⟩
        · have FR1 := frame_new (B := B) R ra hsc hgl hbi D.kind D.nofree X1
          obtain ⟨h1, t1, hs1, hkeep⟩ := X1.done
          have N1 : Nx B none' s ads s₁ ads S := .keep R (by rw [hs1]; exact ⟨rfl, rfl⟩) X1.toInCall.keep
          refine (X 60).2 _ _ s₁ _ _ _ ads S S1 _ m1 d.body fl _ (K.deeper _) N1.sr FR1 e1 fun f s2 ads2 N2 F2 r2 => ?_
          have N12 : Nx B none' s ads s2 ads2 S1 := N1.fresh N2 fun b hb => .inr (by
            rcases hb with rfl | ⟨x, hc⟩
            · exact Heap.get?_none_of_le (Nat.le_refl _)
            · exact Heap.get?_none_of_le (Nat.le_of_lt (X1.above x b (PySem.mem_of_lookup hc))))
          cases r2 with
          | next =>
            obtain ⟨rfl, rfl⟩ := PM.ret_some e2
            exact h _ _ _ N12 .none
          | brk => cases e2
          | cont => cases e2
          | ret r2 =>
            obtain ⟨rfl, rfl⟩ := PM.ret_some e2
            exact h _ _ _ N12 r2
    · have e : (match F a with | none => PM.fail | some d => if d.params.length = args.length then PM.bnd (pexs ⟨callN F glob wf k, glob, wf⟩ 60 d.scope d.body (bindAll (fun _ => none) d.params args)) endK else .fail) S = some r := e
      cases hF : F a with
      | none => rw [hF] at e; cases e
      | some d =>
        obtain ⟨o, fd, ho, hd, _⟩ := (HF a d hF).ex
        exact ⟨o, fd, ho, hd⟩
end
end Mine.Internal
end

section
open PySem
namespace Mine.Internal

/-- the run of a pure step -/
noncomputable def W {α : Type} (x : PM α) (S : St) (Q : α → St → Prop) : Prop := ∃ a S', x S = some (a, S') ∧ Q a S'
section
variable {α β : Type} {S : St}
theorem W_bind {x : PM α} {f : α → PM β} {Q : β → St → Prop} : W (PM.bnd x f) S Q ↔ W x S (fun a S' => W (f a) S' Q) := by
  constructor
  · rintro ⟨b, S', e, q⟩
    have e : (match x S with | none => none | some (a, s') => f a s') = some (b, S') := e
    cases hx : x S with
    | none => rw [hx] at e; cases e
    | some p => rw [hx] at e; exact ⟨p.1, p.2, hx, b, S', e, q⟩
  · rintro ⟨a, S1, e, b, S2, e2, q⟩
    refine ⟨b, S2, ?_, q⟩
    show (match x S with | none => none | some (a, s') => f a s') = _
    rw [e]; exact e2
theorem W_ret {a : α} {Q : α → St → Prop} : W (PM.ret a) S Q ↔ Q a S := by
  refine ⟨?_, fun q => ⟨_, _, rfl, q⟩⟩
  rintro ⟨b, S', e, q⟩
  cases e; exact q
theorem W_fail {Q : α → St → Prop} : W PM.fail S Q ↔ False := by
  refine ⟨?_, False.elim⟩
  rintro ⟨_, _, e, _⟩; cases e
theorem W_lift {a : α} {Q : α → St → Prop} : W (PM.lift (some a)) S Q ↔ Q a S := W_ret
theorem W_ite {c : Prop} [Decidable c] {x y : PM α} {Q : α → St → Prop} : W (if c then x else y) S Q ↔ if c then W x S Q else W y S Q := by split <;> rfl
theorem W_alloc {o : PO} {Q : PV → St → Prop} : W (PM.alloc o) S Q ↔ Q (.ref S.length) (S ++ [o]) := by
  refine ⟨?_, fun q => ⟨_, _, rfl, q⟩⟩
  rintro ⟨b, S', e, q⟩
  cases e; exact q
theorem W_getL {n : Nat} {vs : List PV} {Q : List PV → St → Prop} (h : S[n]? = some (.lst vs)) : W (PM.getL n) S Q ↔ Q vs S := by
  have e : PM.getL n S = some (vs, S) := by unfold PM.getL; rw [h]
  exact ⟨fun ⟨_, _, e', q⟩ => by rw [e] at e'; cases e'; exact q, fun q => ⟨_, _, e, q⟩⟩
theorem W_getD {n : Nat} {es : List (Str × PV)} {Q : List (Str × PV) → St → Prop} (h : S[n]? = some (.dct es)) : W (PM.getD n) S Q ↔ Q es S := by
  have e : PM.getD n S = some (es, S) := by unfold PM.getD; rw [h]
  exact ⟨fun ⟨_, _, e', q⟩ => by rw [e] at e'; cases e'; exact q, fun q => ⟨_, _, e, q⟩⟩
theorem W_getO {n : Nat} {o : PO} {Q : PO → St → Prop} (h : S[n]? = some o) : W (PM.getO n) S Q ↔ Q o S := by
  have e : PM.getO n S = some (o, S) := by unfold PM.getO; rw [h]
  exact ⟨fun ⟨_, _, e', q⟩ => by rw [e] at e'; cases e'; exact q, fun q => ⟨_, _, e, q⟩⟩
theorem W_put {n : Nat} {o : PO} {Q : Unit → St → Prop} (h : n < S.length) : W (PM.put n o) S Q ↔ Q () (S.set n o) := by
  have e : PM.put n o S = some ((), S.set n o) := by unfold PM.put; rw [if_pos h]
  exact ⟨fun ⟨_, _, e', q⟩ => by rw [e] at e'; cases e'; exact q, fun q => ⟨_, _, e, q⟩⟩
theorem W_mono {x : PM α} {Q R : α → St → Prop} (h : W x S Q) (k : ∀ a S', Q a S' → R a S') : W x S R := let ⟨a, S', e, q⟩ := h; ⟨a, S', e, k a S' q⟩
end

/-- the def that is the i-th statement of the text -/
noncomputable def fdI (i : Nat) : Fdef := match PySem.Challenge.pw_rg0111_01.main.body[i]? with
  | some (.FunctionDef name args body _ _ _ scope _ _ _) => ⟨args.args.map (·.arg), body, scope⟩
  | _ => ⟨[], [], ⟨.function, [], false, false, []⟩⟩

theorem ofString_inj {a b : String} : Str.ofString a = Str.ofString b ↔ a = b := by
  constructor
  · intro h
    rw [Str.ofString_eq_toList, Str.ofString_eq_toList] at h
    have h1 : (a.toList.map Char.toNat) = (b.toList.map Char.toNat) := by
      have := congrArg Str.cps h
      exact congrArg Array.toList this
    have inj : ∀ (l r : List Char), l.map Char.toNat = r.map Char.toNat → l = r := by
      intro l
      induction l with
      | nil => intro r h; cases r with | nil => rfl | cons _ _ => cases h
      | cons x l ih =>
        intro r h
        cases r with
        | nil => cases h
        | cons y r =>
          simp only [List.map_cons, List.cons.injEq] at h
          rw [ih r h.2, Char.toNat_inj.mp h.1]
    have h2 := inj _ _ h1
    exact String.ext h2
  · rintro rfl; rfl
theorem ofString_beq {a b : String} : (Str.ofString a == Str.ofString b) = (a == b) := by
  rw [Bool.eq_iff_iff, beq_iff_eq, beq_iff_eq, ofString_inj]

noncomputable def glob0 : Str → Option PV := fun x => List.lookup x
  [(Str.ofString "is_variable", .fn 62), (Str.ofString "variables", .fn 67), (Str.ofString "parts", .fn 72), (Str.ofString "filled", .fn 77), (Str.ofString "followed", .fn 84), (Str.ofString "is_within", .fn 91),
   (Str.ofString "begun", .fn 98), (Str.ofString "in_turn", .fn 103), (Str.ofString "worked_out", .fn 108), (Str.ofString "_law_peg", .fn 116), (Str.ofString "_law_put", .fn 123), (Str.ofString "_law_leaves", .fn 128),
   (Str.ofString "_law_whole", .fn 133), (Str.ofString "_law_is_right", .fn 138),
   (Str.ofString "_law_names", .tup [.str "?m", .str "?c", .str "?x", .str "?b", .str "?t", .str "?k"]), (Str.ofString "MOST_SIZE", .int 10000), (Str.ofString "MOST_LEVELS", .int 200),
   (Str.ofString "len", .bi "len"), (Str.ofString "sorted", .bi "sorted"), (Str.ofString "sum", .bi "sum"), (Str.ofString "max", .bi "max"),
   (Str.ofString "list", .ty "list"), (Str.ofString "tuple", .ty "tuple"), (Str.ofString "dict", .ty "dict"), (Str.ofString "set", .ty "set"), (Str.ofString "range", .ty "range"), (Str.ofString "zip", .ty "zip"), (Str.ofString "enumerate", .ty "enumerate")]

noncomputable def F0 : Addr → Option Fdef := fun a => (List.lookup (α := Nat) a [(62, 4), (67, 5), (72, 6), (77, 10), (84, 11), (91, 12), (98, 13), (103, 14), (108, 15), (116, 18), (123, 19), (128, 20), (133, 21), (138, 22)]).map fdI
noncomputable def wf0 : Nat := 100000
noncomputable abbrev cal (k : Nat) : Addr → List PV → PM PV := callN F0 glob0 wf0 k
noncomputable abbrev C0 (k : Nat) : Ctx := ⟨cal k, glob0, wf0⟩

theorem cal_run {k a : Nat} {d : Fdef} {args : List PV} {S : St} {Q : PV → St → Prop} (e : F0 a = some d) (hl : d.params.length = args.length)
    (h : W (pexs (C0 k) 60 d.scope d.body (bindAll (fun _ => none) d.params args)) S (fun r S' => match r.1 with | .ret v => Q v S' | .next => Q .none S' | _ => False)) : W (cal (k + 1) a args) S Q := by
  have q : callN F0 glob0 wf0 (k + 1) a args = PM.bnd (pexs (C0 k) 60 d.scope d.body (bindAll (fun _ => none) d.params args)) endK := by
    show (match F0 a with | none => PM.fail | some d => if d.params.length = args.length then PM.bnd (pexs (C0 k) 60 d.scope d.body (bindAll (fun _ => none) d.params args)) endK else .fail) = _
    rw [e]
    exact if_pos hl
  show W (callN F0 glob0 wf0 (k + 1) a args) S Q
  rw [q]
  refine W_bind.mpr (W_mono h ?_)
  rintro ⟨fl, m⟩ S' q
  cases fl with
  | next => exact W_ret.mpr q
  | ret v => exact W_ret.mpr q
  | brk => exact q.elim
  | cont => exact q.elim

section
variable {C : Ctx} {S : St} {Q : PV → St → Prop}
theorem q_fn {a : Addr} {args : List PV} : papply C (.fn a) args = C.call a args := rfl
theorem q_len_tup {vs : List PV} : papply C (.bi "len") [.tup vs] = if vs.length ≤ 100000 then .ret (.int vs.length) else .fail := rfl
theorem q_eq_int {x y : Int} : pcmp .Eq (.int x) (.int y) = .ret (.bool (x == y)) := rfl
theorem q_ne_int {x y : Int} : pcmp .NotEq (.int x) (.int y) = .ret (.bool (x != y)) := rfl
theorem q_lt_int {x y : Int} : pcmp .Lt (.int x) (.int y) = .ret (.bool (decide (x < y))) := rfl
theorem q_gt_int {x y : Int} : pcmp .Gt (.int x) (.int y) = .ret (.bool (decide (y < x))) := rfl
theorem q_eq_str {x y : Str} : pcmp .Eq (.str x) (.str y) = .ret (.bool (x == y)) := rfl
theorem q_ne_str {x y : Str} : pcmp .NotEq (.str x) (.str y) = .ret (.bool (x != y)) := rfl
theorem q_item_tup {vs : List PV} {i : Int} : pitem (.tup vs) (.int i) = if 0 ≤ i && smallInt i then PM.lift vs[i.toNat]? else .fail := rfl
theorem q_to_str {s : Str} {k : Int} : psliceTo (.str s) k = if k == 1 then .ret (.str (headStr s)) else .fail := rfl
theorem q_to_tup {vs : List PV} {k : Int} : psliceTo (.tup vs) k = if 0 ≤ k && k ≤ 1000 && vs.length ≤ lineLen then .ret (.tup (vs.take k.toNat)) else .fail := rfl
theorem q_from_tup {vs : List PV} {k : Int} : psliceFrom (.tup vs) k = if 0 ≤ k && k ≤ 1000 && vs.length ≤ lineLen then .ret (.tup (vs.drop k.toNat)) else .fail := rfl
theorem q_add_int {x y : Int} : pbin .Add (.int x) (.int y) = if smallInt x && smallInt y then .ret (.int (x + y)) else .fail := rfl
theorem q_mul_int {x y : Int} : pbin .Mult (.int x) (.int y) = if smallInt x && smallInt y then .ret (.int (x * y)) else .fail := rfl
theorem q_mod_int {x y : Int} : pbin .Mod (.int x) (.int y) = if smallInt x && smallInt y && decide (0 < y) then .ret (.int (x % y)) else .fail := rfl
theorem q_add_tup {xs ys : List PV} : pbin .Add (.tup xs) (.tup ys) = if xs.length + ys.length ≤ lineLen then .ret (.tup (xs ++ ys)) else .fail := rfl
theorem q_isnot_none : pcmp .IsNot .none .none = .ret (.bool false) := rfl
theorem q_isnot_ref {i : Nat} : pcmp .IsNot (.ref i) .none = .ret (.bool true) := rfl
end
section
variable {S : St}
end

section
variable {α : Type} {S : St}
theorem W_getL' {n : Nat} {Q : List PV → St → Prop} : W (PM.getL n) S Q ↔ (match S[n]? with | some (.lst vs) => Q vs S | _ => False) := by
  cases h : S[n]? with
  | none => exact ⟨fun ⟨_, _, e, _⟩ => (by unfold PM.getL at e; rw [h] at e; cases e), False.elim⟩
  | some o =>
    cases o with
    | lst vs => exact W_getL h
    | dct es => exact ⟨fun ⟨_, _, e, _⟩ => (by unfold PM.getL at e; rw [h] at e; cases e), False.elim⟩
    | dtp es => exact ⟨fun ⟨_, _, e, _⟩ => (by unfold PM.getL at e; rw [h] at e; cases e), False.elim⟩
theorem W_getD' {n : Nat} {Q : List (Str × PV) → St → Prop} : W (PM.getD n) S Q ↔ (match S[n]? with | some (.dct vs) => Q vs S | _ => False) := by
  cases h : S[n]? with
  | none => exact ⟨fun ⟨_, _, e, _⟩ => (by unfold PM.getD at e; rw [h] at e; cases e), False.elim⟩
  | some o =>
    cases o with
    | dct vs => exact W_getD h
    | lst es => exact ⟨fun ⟨_, _, e, _⟩ => (by unfold PM.getD at e; rw [h] at e; cases e), False.elim⟩
    | dtp es => exact ⟨fun ⟨_, _, e, _⟩ => (by unfold PM.getD at e; rw [h] at e; cases e), False.elim⟩
theorem W_getO' {n : Nat} {Q : PO → St → Prop} : W (PM.getO n) S Q ↔ (match S[n]? with | some o => Q o S | _ => False) := by
  cases h : S[n]? with
  | none => exact ⟨fun ⟨_, _, e, _⟩ => (by unfold PM.getO at e; rw [h] at e; cases e), False.elim⟩
  | some o => exact W_getO h
theorem W_put' {n : Nat} {o : PO} {Q : Unit → St → Prop} : W (PM.put n o) S Q ↔ (match S[n]? with | some _ => Q () (S.set n o) | none => False) := by
  by_cases h : n < S.length
  · rw [W_put h, List.getElem?_eq_getElem h]
  · rw [List.getElem?_eq_none_iff.mpr (by exact om18 h)]
    exact ⟨fun ⟨_, _, e, _⟩ => (by unfold PM.put at e; rw [if_neg h] at e; cases e), False.elim⟩
theorem W_lift' {o : Option α} {Q : α → St → Prop} : W (PM.lift o) S Q ↔ (match o with | some a => Q a S | none => False) := by
  cases o with
  | none => exact ⟨fun ⟨_, _, e, _⟩ => (by cases e), False.elim⟩
  | some a => exact W_lift
end
/-- a comprehension, not unfolded by the stepper -/
noncomputable def lcomp (C : Ctx) (n : Nat) (sc : Scope) (elt : Expr) (gens : List Comprehension) (csc : Scope) (pos : Pos) (m : Fm) : PM PV := pev C (n + 1) sc (.ListComp elt gens csc pos) m
theorem q_lcomp {C : Ctx} {n : Nat} {sc : Scope} {elt : Expr} {gens : List Comprehension} {csc : Scope} {pos : Pos} {m : Fm} : pev C (n + 1) sc (.ListComp elt gens csc pos) m = lcomp C n sc elt gens csc pos m := rfl
section
theorem q_append {n : Nat} {v : PV} : pmeth (.ref n) (Str.ofString "append") [v] = PM.bnd (PM.getL n) fun vs => if vs.length < lineLen then PM.bnd (PM.put n (.lst (vs ++ [v]))) fun _ => .ret .none else .fail := by
  kernel_rfl
theorem q_extend {n k : Nat} : pmeth (.ref n) (Str.ofString "extend") [.ref k] = PM.bnd (PM.getL n) fun vs => PM.bnd (PM.getL k) fun us => if n != k && vs.length + us.length ≤ lineLen then PM.bnd (PM.put n (.lst (vs ++ us))) fun _ => .ret .none else .fail := by
  kernel_rfl
theorem q_pop {n : Nat} : pmeth (.ref n) (Str.ofString "pop") [] = PM.bnd (PM.getL n) fun vs => match vs.getLast? with
      | some v => if vs.length ≤ lineLen then PM.bnd (PM.put n (.lst vs.dropLast)) fun _ => .ret v else .fail
      | none => .fail := by
  kernel_rfl
theorem q_get {n : Nat} {x : Str} {d : PV} : pmeth (.ref n) (Str.ofString "get") [.str x, d] = PM.bnd (PM.getD n) fun es => .ret ((dfind x es).getD d) := by
  kernel_rfl
theorem W_bnd {α β : Type} {S : St} {x : PM α} {f : α → PM β} {Q : β → St → Prop} : W (PM.bnd x f) S Q ↔ W x S (fun a S' => W (f a) S' Q) := W_bind
end
theorem q_item_str {n : Nat} {x : Str} : pitem (.ref n) (.str x) = PM.bnd (PM.getD n) fun es => PM.lift (dfind x es) := rfl
theorem q_item_ref {n : Nat} {i : Int} : pitem (.ref n) (.int i) = PM.bnd (PM.getL n) fun vs => if 0 ≤ i && smallInt i then PM.lift vs[i.toNat]? else .fail := rfl
theorem q_set_str {n : Nat} {x : Str} {v : PV} : psetitem (.ref n) (.str x) v = PM.bnd (PM.getD n) fun es => if es.length < lineLen then PM.put n (.dct (dput x v es)) else .fail := rfl
theorem q_len_ref {C : Ctx} {n : Nat} : papply C (.bi "len") [.ref n] = PM.bnd (PM.getL n) fun vs => if vs.length ≤ 100000 then .ret (.int vs.length) else .fail := rfl
theorem q_in_str {x : Str} {j : Nat} : pcmp .In (.str x) (.ref j) = PM.bnd (PM.getD j) fun es => .ret (.bool (dfind x es).isSome) := rfl
theorem q_notin_str {x : Str} {j : Nat} : pcmp .NotIn (.str x) (.ref j) = PM.bnd (PM.getO j) fun o => match o with
    | .dct es => .ret (.bool (!(dfind x es).isSome))
    | .lst vs => PM.bnd (PM.lift (strsOf? vs)) fun ss => .ret (.bool (!(ss.contains x)))
    | _ => .fail := rfl
theorem q_tuple {C : Ctx} {n : Nat} : papply C (.ty "tuple") [.ref n] = PM.bnd (PM.getL n) fun vs => if vs.length ≤ lineLen then .ret (.tup vs) else .fail := rfl
theorem q_list_tup {C : Ctx} {vs : List PV} : papply C (.ty "list") [.tup vs] = if vs.length ≤ lineLen then .alloc (.lst vs) else .fail := rfl
theorem q_list_ref {C : Ctx} {n : Nat} : papply C (.ty "list") [.ref n] = PM.bnd (PM.getO n) fun o => PM.bnd (PM.lift (match o with | .dct es => some (strKeys es) | _ => none)) fun ss => if ss.length ≤ lineLen then .alloc (.lst (ss.map .str)) else .fail := rfl
theorem q_dict {C : Ctx} {n : Nat} : papply C (.ty "dict") [.ref n] = PM.bnd (PM.getL n) fun vs => PM.bnd (PM.lift (pairsOf? vs)) fun ps => if ps.length ≤ lineLen then .alloc (.dct (ps.foldl (fun es p => dput p.1 p.2 es) [])) else .fail := rfl
theorem q_sorted {C : Ctx} {n : Nat} : papply C (.bi "sorted") [.ref n] = PM.bnd (PM.getO n) fun o => PM.bnd (PM.lift (keysOf? o)) fun ss => if ss.length < 64 then .alloc (.lst ((psort ss).map .str)) else .fail := rfl
theorem q_sum {C : Ctx} {n : Nat} : papply C (.bi "sum") [.ref n] = PM.bnd (PM.getL n) fun vs => PM.bnd (PM.lift (intsOf? vs)) fun is => if is.length < 1000 && is.all smallInt then .ret (.int is.sum) else .fail := rfl
theorem q_max {C : Ctx} {n : Nat} : papply C (.bi "max") [.ref n] = PM.bnd (PM.getL n) fun vs => PM.bnd (PM.lift (intsOf? vs)) fun is => match is with
    | i :: is => .ret (.int (maxL i is))
    | [] => .fail := rfl
theorem q_add_ref {i j : Nat} : pbin .Add (.ref i) (.ref j) = PM.bnd (PM.getL i) fun xs => PM.bnd (PM.getL j) fun ys => if xs.length + ys.length ≤ lineLen then .alloc (.lst (xs ++ ys)) else .fail := rfl
theorem q_to_ref {n : Nat} {k : Int} : psliceTo (.ref n) k = PM.bnd (PM.getL n) fun vs => if 0 ≤ k && k ≤ 1000 && vs.length ≤ lineLen then .alloc (.lst (vs.take k.toNat)) else .fail := rfl
theorem q_from_ref {n : Nat} {k : Int} : psliceFrom (.ref n) k = PM.bnd (PM.getL n) fun vs => if 0 ≤ k && k ≤ 1000 && vs.length ≤ lineLen then .alloc (.lst (vs.drop k.toNat)) else .fail := rfl
theorem q_rev_ref {n : Nat} : psliceRev (.ref n) = PM.bnd (PM.getL n) fun vs => if vs.length ≤ lineLen then .alloc (.lst vs.reverse) else .fail := rfl
theorem wf0_eq : wf0 = 99990 + 10 := rfl
/-! the steps of a text's statement, said without its syntax -/
noncomputable def evL : List (PM PV) → PM (List PV)
  | [] => .ret []
  | x :: r => PM.bnd x fun v => PM.bnd (evL r) fun vs => .ret (v :: vs)
/-- a comprehension -/
noncomputable def mcomp (src : PM Src) (ok : Src → Bool) (as : PV → Fm → Option Fm) (body : Nat → Fm → PM Fm) (m0 : Fm) : PM PV :=
  PM.bnd src fun s => PM.bnd (PM.alloc (.lst [])) fun acc => match acc with
    | .ref a => if !(ok s) then .fail else PM.bnd (cloop as (body a) s wf0 0 m0) fun _ => .ret acc
    | _ => .fail
noncomputable def leafB (a : Nat) (test : Fm → PM Bool) (elt : Fm → PM PV) (m' : Fm) : PM Fm :=
  PM.bnd (test m') fun ok => if ok then PM.bnd (elt m') fun v => PM.bnd (PM.getL a) fun vs => if vs.length < lineLen then PM.bnd (PM.put a (.lst (vs ++ [v]))) fun _ => .ret m' else .fail else .ret m'
noncomputable def sndB (test : Fm → PM Bool) (src : Fm → PM Src) (ok : Src → Bool) (as : PV → Fm → Option Fm) (body : Fm → PM Fm) (m' : Fm) : PM Fm :=
  PM.bnd (test m') fun c => if c then PM.bnd (src m') fun s => if !(ok s) then .fail else cloop as body s wf0 0 m' else .ret m'
noncomputable def blkS : Stmt → Nat → List Stmt
  | .If _ a _ _, 0 => a
  | .If _ _ b _, _ => b
  | .While _ b _ _, _ => b
  | .For _ _ b _ _, _ => b
  | _, _ => []
noncomputable def nthS (l : List Stmt) (j : Nat) : Stmt := l.getD j (.Continue ⟨0, 0, 0, 0⟩)
theorem pexs_nil' {C : Ctx} {n : Nat} {sc : Scope} {m : Fm} {S : St} {Q : PFlow × Fm → St → Prop} (h : Q (.next, m) S) : W (pexs C (n + 1) sc [] m) S Q := W_ret.mpr h
theorem pexs_step {C : Ctx} {n : Nat} {sc : Scope} {st : Stmt} {r : List Stmt} {m : Fm} {S : St} {Q : PFlow × Fm → St → Prop} {x : PM (PFlow × Fm)} (e : pex C n sc st m = x)
    (h : ∀ K : PFlow × Fm → St → Prop, (∀ m' S', W (pexs C n sc r m') S' Q → K (.next, m') S') → (∀ v m' S', Q (.ret v, m') S' → K (.ret v, m') S') → (∀ m' S', Q (.cont, m') S' → K (.cont, m') S') → W x S K) :
    W (pexs C (n + 1) sc (st :: r) m) S Q := by
  show W (PM.bnd (pex C n sc st m) (seqK (pexs C n sc r))) S Q
  rw [e]
  refine W_bind.mpr (h _ (fun m' S' q => q) (fun v m' S' q => W_ret.mpr q) (fun m' S' q => W_ret.mpr q))
theorem W_if {T : PM Bool} {A B : PM (PFlow × Fm)} {S : St} {Q : PFlow × Fm → St → Prop}
    (h : ∀ K : Bool → St → Prop, (∀ S', W A S' Q → K true S') → (∀ S', W B S' Q → K false S') → W T S K) : W (PM.bnd T fun c => if c = true then A else B) S Q :=
  W_bnd.mpr (h _ (fun S' q => q) (fun S' q => q))
theorem call_run {k a i : Nat} {args : List PV} {S : St} {Q : PV → St → Prop} (e : F0 a = some (fdI i)) (hl : (fdI i).params.length = args.length)
    (h : ∀ K : PFlow × Fm → St → Prop, (∀ v m S', Q v S' → K (.ret v, m) S') → (∀ m S', Q .none S' → K (.next, m) S') → W (pexs (C0 k) 60 (fdI i).scope (fdI i).body (bindAll (fun _ => none) (fdI i).params args)) S K) : W (cal (k + 1) a args) S Q :=
  cal_run e hl (h _ (fun v m S' q => q) (fun m S' q => q))
theorem upd_self {m : Fm} {x : Str} {v : PV} : (m.upd x v) x = some v := if_pos rfl
theorem upd_ne {m : Fm} {x y : Str} {v : PV} {o : Option PV} (h : (y == x) = false) (e : m y = o) : (m.upd x v) y = o := (if_neg (by simpa using h)).trans e
end Mine.Internal
end

section
open PySem
namespace Mine.Internal
noncomputable def s4_0 : Stmt := nthS (fdI 4).body 0
theorem n4_0 {k n : Nat} {m : Fm} : pex (C0 k) (n + 12) (fdI 4).scope s4_0 m = PM.bnd (PM.bnd (PM.bnd (PM.bnd (PM.ret (.bi "len")) fun fv => PM.bnd (evL [(PM.lift (m "t"))]) fun vs => papply (C0 k) fv vs) fun a => PM.bnd (PM.ret (.int 1)) fun b => pcmp .Eq a b) fun v => pbo .And v (PM.bnd (PM.bnd (PM.bnd (PM.lift (m "t")) fun ov => PM.bnd (PM.ret (.int 0)) fun iv => pitem ov iv) fun ov => PM.bnd (PM.ret (.int 1)) fun k => sliceToK ov k) fun a => PM.bnd (PM.ret (.str "?")) fun b => pcmp .Eq a b)) fun v => PM.ret (.ret v, m) := by kernel_rfl
theorem b4 : (fdI 4).body = [s4_0] := by kernel_rfl
theorem p4_0 {v0 : PV} : bindAll (fun _ => none) (fdI 4).params [v0] "t" = some v0 := by kernel_rfl
noncomputable def s5_0 : Stmt := nthS (fdI 5).body 0
theorem n5_0 {k n : Nat} {m : Fm} : pex (C0 k) (n + 12) (fdI 5).scope s5_0 m = PM.bnd (PM.bnd (mcomp (PM.bnd (PM.bnd (PM.ret (.fn 72)) fun fv => PM.bnd (evL [(PM.lift (m "t"))]) fun vs => papply (C0 k) fv vs) srcOf) (fun s => srcOk s (.Tuple [.Name "path" ⟨16, 35, 16, 39⟩, .Name "part" ⟨16, 41, 16, 45⟩] 0 ⟨16, 35, 16, 45⟩)) (passign ⟨.function, [(".0", .local), ("path", .local), ("part", .local), ("is_variable", .globalImplicit)], false, false, []⟩ (.Tuple [.Name "path" ⟨16, 35, 16, 39⟩, .Name "part" ⟨16, 41, 16, 45⟩] 0 ⟨16, 35, 16, 45⟩)) (fun a => leafB a (fun m => PM.bnd (PM.bnd (PM.bnd (PM.ret (.fn 62)) fun fv => PM.bnd (evL [(PM.lift (m "part"))]) fun vs => papply (C0 k) fv vs) asB) fun b => if b = true then PM.ret true else PM.ret false) (fun m => (PM.bnd (PM.lift (m "part")) fun ov => PM.bnd (PM.ret (.int 0)) fun iv => pitem ov iv))) (compFm ⟨.function, [(".0", .local), ("path", .local), ("part", .local), ("is_variable", .globalImplicit)], false, false, []⟩ m)) ssetK) fun v => PM.ret (.ret v, m) := by kernel_rfl
theorem b5 : (fdI 5).body = [s5_0] := by kernel_rfl
theorem p5_0 {v0 : PV} : bindAll (fun _ => none) (fdI 5).params [v0] "t" = some v0 := by kernel_rfl
noncomputable def s6_0 : Stmt := nthS (fdI 6).body 0
theorem n6_0 {k n : Nat} {m : Fm} : pex (C0 k) (n + 12) (fdI 6).scope s6_0 m = PM.bnd (PM.bnd (evL [(PM.bnd (evL [(PM.bnd (evL []) mkT), (PM.lift (m "t"))]) mkT)]) mkL) fun v => PM.ret (.next, m.upd "found" v) := by kernel_rfl
noncomputable def s6_1 : Stmt := nthS (fdI 6).body 1
theorem n6_1 {k n : Nat} {m : Fm} : pex (C0 k) (n + 12) (fdI 6).scope s6_1 m = PM.bnd (PM.bnd (PM.bnd (PM.lift (m "t")) fun ov => PM.bnd (PM.ret (.int 1)) fun k => sliceFromK ov k) enumOf) fun src => if (!(srcOk src (.Tuple [.Name "k" ⟨19, 8, 19, 9⟩, .Name "kid" ⟨19, 11, 19, 14⟩] 0 ⟨19, 8, 19, 14⟩))) = true then PM.fail else floop (passign (fdI 6).scope (.Tuple [.Name "k" ⟨19, 8, 19, 9⟩, .Name "kid" ⟨19, 11, 19, 14⟩] 0 ⟨19, 8, 19, 14⟩)) (fun m => pexs (C0 k) (n + 11) (fdI 6).scope (blkS s6_1 0) m) src wf0 0 m := by kernel_rfl
theorem a6_1 {m : Fm} {v0 v1 : PV} : passign (fdI 6).scope (.Tuple [.Name "k" ⟨19, 8, 19, 9⟩, .Name "kid" ⟨19, 11, 19, 14⟩] 0 ⟨19, 8, 19, 14⟩) (.tup [v0, v1]) m = some ((m.upd "k" v0).upd "kid" v1) := by kernel_rfl
noncomputable def s6_1_0_0 : Stmt := nthS (blkS s6_1 0) 0
theorem n6_1_0_0 {k n : Nat} {m : Fm} : pex (C0 k) (n + 12) (fdI 6).scope s6_1_0_0 m = PM.bnd (PM.bnd (PM.lift (m "found")) fun ov => PM.bnd (pmethPre ov "extend") fun _ => PM.bnd (evL [(mcomp (PM.bnd (PM.bnd (PM.ret (.fn 72)) fun fv => PM.bnd (evL [(PM.lift (m "kid"))]) fun vs => papply (C0 k) fv vs) srcOf) (fun s => srcOk s (.Tuple [.Name "path" ⟨20, 46, 20, 50⟩, .Name "part" ⟨20, 52, 20, 56⟩] 0 ⟨20, 46, 20, 56⟩)) (passign ⟨.function, [(".0", .local), ("path", .local), ("part", .local), ("k", .free)], false, false, []⟩ (.Tuple [.Name "path" ⟨20, 46, 20, 50⟩, .Name "part" ⟨20, 52, 20, 56⟩] 0 ⟨20, 46, 20, 56⟩)) (fun a => leafB a (fun m => PM.ret true) (fun m => (PM.bnd (evL [(PM.bnd (PM.bnd (evL [(PM.lift (m "k"))]) mkT) fun a => PM.bnd (PM.lift (m "path")) fun b => pbin .Add a b), (PM.lift (m "part"))]) mkT))) (compFm ⟨.function, [(".0", .local), ("path", .local), ("part", .local), ("k", .free)], false, false, []⟩ m))]) fun vs => pmeth ov "extend" vs) (exprK m) := by kernel_rfl
theorem b6_1_0 : (blkS s6_1 0) = [s6_1_0_0] := by kernel_rfl
noncomputable def s6_2 : Stmt := nthS (fdI 6).body 2
theorem n6_2 {k n : Nat} {m : Fm} : pex (C0 k) (n + 12) (fdI 6).scope s6_2 m = PM.bnd (PM.lift (m "found")) fun v => PM.ret (.ret v, m) := by kernel_rfl
theorem b6 : (fdI 6).body = [s6_0, s6_1, s6_2] := by kernel_rfl
theorem p6_0 {v0 : PV} : bindAll (fun _ => none) (fdI 6).params [v0] "t" = some v0 := by kernel_rfl
noncomputable def s10_0 : Stmt := nthS (fdI 10).body 0
theorem n10_0 {k n : Nat} {m : Fm} : pex (C0 k) (n + 12) (fdI 10).scope s10_0 m = PM.bnd (PM.bnd (PM.bnd (PM.ret (.fn 62)) fun fv => PM.bnd (evL [(PM.lift (m "pattern"))]) fun vs => papply (C0 k) fv vs) asB) fun c => if c = true then pexs (C0 k) (n + 11) (fdI 10).scope (blkS s10_0 0) m else pexs (C0 k) (n + 11) (fdI 10).scope (blkS s10_0 1) m := by kernel_rfl
noncomputable def s10_0_0_0 : Stmt := nthS (blkS s10_0 0) 0
theorem n10_0_0_0 {k n : Nat} {m : Fm} : pex (C0 k) (n + 12) (fdI 10).scope s10_0_0_0 m = PM.bnd (PM.bnd (PM.lift (m "table")) fun ov => PM.bnd (pmethPre ov "get") fun _ => PM.bnd (evL [(PM.bnd (PM.lift (m "pattern")) fun ov => PM.bnd (PM.ret (.int 0)) fun iv => pitem ov iv), (PM.lift (m "pattern"))]) fun vs => pmeth ov "get" vs) fun v => PM.ret (.ret v, m) := by kernel_rfl
theorem b10_0_0 : (blkS s10_0 0) = [s10_0_0_0] := by kernel_rfl
theorem b10_0_1 : (blkS s10_0 1) = [] := by kernel_rfl
noncomputable def s10_1 : Stmt := nthS (fdI 10).body 1
theorem n10_1 {k n : Nat} {m : Fm} : pex (C0 k) (n + 12) (fdI 10).scope s10_1 m = PM.bnd (PM.bnd (PM.bnd (evL [(PM.bnd (PM.lift (m "pattern")) fun ov => PM.bnd (PM.ret (.int 0)) fun iv => pitem ov iv)]) mkT) fun a => PM.bnd (PM.bnd (PM.ret (.ty "tuple")) fun fv => PM.bnd (evL [(mcomp (PM.bnd (PM.bnd (PM.lift (m "pattern")) fun ov => PM.bnd (PM.ret (.int 1)) fun k => sliceFromK ov k) srcOf) (fun s => srcOk s (.Name "kid" ⟨28, 57, 28, 60⟩)) (fun v m => some (m.upd "kid" v)) (fun a => leafB a (fun m => PM.ret true) (fun m => (PM.bnd (PM.ret (.fn 77)) fun fv => PM.bnd (evL [(PM.lift (m "kid")), (PM.lift (m "table"))]) fun vs => papply (C0 k) fv vs))) (compFm ⟨.function, [(".0", .local), ("kid", .local), ("filled", .globalImplicit), ("table", .free)], false, false, []⟩ m))]) fun vs => papply (C0 k) fv vs) fun b => pbin .Add a b) fun v => PM.ret (.ret v, m) := by kernel_rfl
theorem b10 : (fdI 10).body = [s10_0, s10_1] := by kernel_rfl
theorem p10_0 {v0 v1 : PV} : bindAll (fun _ => none) (fdI 10).params [v0, v1] "pattern" = some v0 := by kernel_rfl
theorem p10_1 {v0 v1 : PV} : bindAll (fun _ => none) (fdI 10).params [v0, v1] "table" = some v1 := by kernel_rfl
noncomputable def s11_0 : Stmt := nthS (fdI 11).body 0
theorem n11_0 {k n : Nat} {m : Fm} : pex (C0 k) (n + 12) (fdI 11).scope s11_0 m = wloop (fun m => (PM.bnd (PM.bnd (PM.bnd (PM.ret (.fn 62)) fun fv => PM.bnd (evL [(PM.lift (m "pattern"))]) fun vs => papply (C0 k) fv vs) asB) fun c => tbo .And c (PM.bnd (PM.bnd (PM.bnd (PM.lift (m "pattern")) fun ov => PM.bnd (PM.ret (.int 0)) fun iv => pitem ov iv) fun a => PM.bnd (PM.lift (m "table")) fun b => pcmp .In a b) asB))) (fun m => pexs (C0 k) (n + 11) (fdI 11).scope (blkS s11_0 0) m) wf0 m := by kernel_rfl
noncomputable def s11_0_0_0 : Stmt := nthS (blkS s11_0 0) 0
theorem n11_0_0_0 {k n : Nat} {m : Fm} : pex (C0 k) (n + 12) (fdI 11).scope s11_0_0_0 m = PM.bnd (PM.bnd (PM.lift (m "table")) fun ov => PM.bnd (PM.bnd (PM.lift (m "pattern")) fun ov => PM.bnd (PM.ret (.int 0)) fun iv => pitem ov iv) fun iv => pitem ov iv) fun v => PM.ret (.next, m.upd "pattern" v) := by kernel_rfl
theorem b11_0_0 : (blkS s11_0 0) = [s11_0_0_0] := by kernel_rfl
noncomputable def s11_1 : Stmt := nthS (fdI 11).body 1
theorem n11_1 {k n : Nat} {m : Fm} : pex (C0 k) (n + 12) (fdI 11).scope s11_1 m = PM.bnd (PM.lift (m "pattern")) fun v => PM.ret (.ret v, m) := by kernel_rfl
theorem b11 : (fdI 11).body = [s11_0, s11_1] := by kernel_rfl
theorem p11_0 {v0 v1 : PV} : bindAll (fun _ => none) (fdI 11).params [v0, v1] "pattern" = some v0 := by kernel_rfl
theorem p11_1 {v0 v1 : PV} : bindAll (fun _ => none) (fdI 11).params [v0, v1] "table" = some v1 := by kernel_rfl
noncomputable def s12_0 : Stmt := nthS (fdI 12).body 0
theorem n12_0 {k n : Nat} {m : Fm} : pex (C0 k) (n + 12) (fdI 12).scope s12_0 m = PM.bnd (PM.bnd (evL [(PM.bnd (evL [(PM.lift (m "pattern"))]) mkL), (PM.alloc (.dct []))]) mkT) fun v => PM.bnd (PM.lift (passign (fdI 12).scope (.Tuple [.Name "waiting" ⟨34, 4, 34, 11⟩, .Name "seen" ⟨34, 13, 34, 17⟩] 0 ⟨34, 4, 34, 17⟩) v m)) fun m' => PM.ret (.next, m') := by kernel_rfl
theorem a12_0 {m : Fm} {v0 v1 : PV} : passign (fdI 12).scope (.Tuple [.Name "waiting" ⟨34, 4, 34, 11⟩, .Name "seen" ⟨34, 13, 34, 17⟩] 0 ⟨34, 4, 34, 17⟩) (.tup [v0, v1]) m = some ((m.upd "waiting" v0).upd "seen" v1) := by kernel_rfl
noncomputable def s12_1 : Stmt := nthS (fdI 12).body 1
theorem n12_1 {k n : Nat} {m : Fm} : pex (C0 k) (n + 12) (fdI 12).scope s12_1 m = wloop (fun m => (PM.bnd (PM.bnd (PM.bnd (PM.ret (.bi "len")) fun fv => PM.bnd (evL [(PM.lift (m "waiting"))]) fun vs => papply (C0 k) fv vs) fun a => PM.bnd (PM.ret (.int 0)) fun b => pcmp .Gt a b) asB)) (fun m => pexs (C0 k) (n + 11) (fdI 12).scope (blkS s12_1 0) m) wf0 m := by kernel_rfl
noncomputable def s12_1_0_0 : Stmt := nthS (blkS s12_1 0) 0
theorem n12_1_0_0 {k n : Nat} {m : Fm} : pex (C0 k) (n + 12) (fdI 12).scope s12_1_0_0 m = PM.bnd (PM.bnd (PM.bnd (PM.ret (.fn 67)) fun fv => PM.bnd (evL [(PM.bnd (PM.lift (m "waiting")) fun ov => PM.bnd (pmethPre ov "pop") fun _ => PM.bnd (evL []) fun vs => pmeth ov "pop" vs)]) fun vs => papply (C0 k) fv vs) srcOf) fun src => if (!(srcOk src (.Name "late" ⟨36, 12, 36, 16⟩))) = true then PM.fail else floop (fun v m => some (m.upd "late" v)) (fun m => pexs (C0 k) (n + 11) (fdI 12).scope (blkS s12_1_0_0 0) m) src wf0 0 m := by kernel_rfl
noncomputable def s12_1_0_0_0_0 : Stmt := nthS (blkS s12_1_0_0 0) 0
theorem n12_1_0_0_0_0 {k n : Nat} {m : Fm} : pex (C0 k) (n + 12) (fdI 12).scope s12_1_0_0_0_0 m = PM.bnd (PM.bnd (PM.bnd (PM.lift (m "late")) fun a => PM.bnd (PM.lift (m "name")) fun b => pcmp .Eq a b) asB) fun c => if c = true then pexs (C0 k) (n + 11) (fdI 12).scope (blkS s12_1_0_0_0_0 0) m else pexs (C0 k) (n + 11) (fdI 12).scope (blkS s12_1_0_0_0_0 1) m := by kernel_rfl
noncomputable def s12_1_0_0_0_0_0_0 : Stmt := nthS (blkS s12_1_0_0_0_0 0) 0
theorem n12_1_0_0_0_0_0_0 {k n : Nat} {m : Fm} : pex (C0 k) (n + 12) (fdI 12).scope s12_1_0_0_0_0_0_0 m = PM.bnd (PM.ret (.bool true)) fun v => PM.ret (.ret v, m) := by kernel_rfl
theorem b12_1_0_0_0_0_0 : (blkS s12_1_0_0_0_0 0) = [s12_1_0_0_0_0_0_0] := by kernel_rfl
theorem b12_1_0_0_0_0_1 : (blkS s12_1_0_0_0_0 1) = [] := by kernel_rfl
noncomputable def s12_1_0_0_0_1 : Stmt := nthS (blkS s12_1_0_0 0) 1
theorem n12_1_0_0_0_1 {k n : Nat} {m : Fm} : pex (C0 k) (n + 12) (fdI 12).scope s12_1_0_0_0_1 m = PM.bnd (PM.bnd (PM.bnd (PM.bnd (PM.lift (m "late")) fun a => PM.bnd (PM.lift (m "table")) fun b => pcmp .In a b) asB) fun c => tbo .And c (PM.bnd (PM.bnd (PM.lift (m "late")) fun a => PM.bnd (PM.lift (m "seen")) fun b => pcmp .NotIn a b) asB)) fun c => if c = true then pexs (C0 k) (n + 11) (fdI 12).scope (blkS s12_1_0_0_0_1 0) m else pexs (C0 k) (n + 11) (fdI 12).scope (blkS s12_1_0_0_0_1 1) m := by kernel_rfl
noncomputable def s12_1_0_0_0_1_0_0 : Stmt := nthS (blkS s12_1_0_0_0_1 0) 0
theorem n12_1_0_0_0_1_0_0 {k n : Nat} {m : Fm} : pex (C0 k) (n + 12) (fdI 12).scope s12_1_0_0_0_1_0_0 m = PM.bnd (PM.ret (.bool true)) fun v => PM.bnd (PM.lift (m "seen")) fun ov => PM.bnd (PM.lift (m "late")) fun iv => PM.bnd (psetitem ov iv v) fun _ => PM.ret (.next, m) := by kernel_rfl
noncomputable def s12_1_0_0_0_1_0_1 : Stmt := nthS (blkS s12_1_0_0_0_1 0) 1
theorem n12_1_0_0_0_1_0_1 {k n : Nat} {m : Fm} : pex (C0 k) (n + 12) (fdI 12).scope s12_1_0_0_0_1_0_1 m = PM.bnd (PM.bnd (PM.lift (m "waiting")) fun ov => PM.bnd (pmethPre ov "append") fun _ => PM.bnd (evL [(PM.bnd (PM.lift (m "table")) fun ov => PM.bnd (PM.lift (m "late")) fun iv => pitem ov iv)]) fun vs => pmeth ov "append" vs) (exprK m) := by kernel_rfl
theorem b12_1_0_0_0_1_0 : (blkS s12_1_0_0_0_1 0) = [s12_1_0_0_0_1_0_0, s12_1_0_0_0_1_0_1] := by kernel_rfl
theorem b12_1_0_0_0_1_1 : (blkS s12_1_0_0_0_1 1) = [] := by kernel_rfl
theorem b12_1_0_0_0 : (blkS s12_1_0_0 0) = [s12_1_0_0_0_0, s12_1_0_0_0_1] := by kernel_rfl
theorem b12_1_0 : (blkS s12_1 0) = [s12_1_0_0] := by kernel_rfl
noncomputable def s12_2 : Stmt := nthS (fdI 12).body 2
theorem n12_2 {k n : Nat} {m : Fm} : pex (C0 k) (n + 12) (fdI 12).scope s12_2 m = PM.bnd (PM.ret (.bool false)) fun v => PM.ret (.ret v, m) := by kernel_rfl
theorem b12 : (fdI 12).body = [s12_0, s12_1, s12_2] := by kernel_rfl
theorem p12_0 {v0 v1 v2 : PV} : bindAll (fun _ => none) (fdI 12).params [v0, v1, v2] "name" = some v0 := by kernel_rfl
theorem p12_1 {v0 v1 v2 : PV} : bindAll (fun _ => none) (fdI 12).params [v0, v1, v2] "pattern" = some v1 := by kernel_rfl
theorem p12_2 {v0 v1 v2 : PV} : bindAll (fun _ => none) (fdI 12).params [v0, v1, v2] "table" = some v2 := by kernel_rfl
noncomputable def s13_0 : Stmt := nthS (fdI 13).body 0
theorem n13_0 {k n : Nat} {m : Fm} : pex (C0 k) (n + 12) (fdI 13).scope s13_0 m = PM.bnd (PM.bnd (evL [(PM.alloc (.dct [])), (PM.bnd (evL [(PM.bnd (evL [(PM.lift (m "one")), (PM.lift (m "other"))]) mkT)]) mkL), (PM.alloc (.dct []))]) mkT) fun v => PM.bnd (PM.lift (passign (fdI 13).scope (.Tuple [.Name "table" ⟨44, 4, 44, 9⟩, .Name "waiting" ⟨44, 11, 44, 18⟩, .Name "seen" ⟨44, 20, 44, 24⟩] 0 ⟨44, 4, 44, 24⟩) v m)) fun m' => PM.ret (.next, m') := by kernel_rfl
theorem a13_0 {m : Fm} {v0 v1 v2 : PV} : passign (fdI 13).scope (.Tuple [.Name "table" ⟨44, 4, 44, 9⟩, .Name "waiting" ⟨44, 11, 44, 18⟩, .Name "seen" ⟨44, 20, 44, 24⟩] 0 ⟨44, 4, 44, 24⟩) (.tup [v0, v1, v2]) m = some (((m.upd "table" v0).upd "waiting" v1).upd "seen" v2) := by kernel_rfl
noncomputable def s13_1 : Stmt := nthS (fdI 13).body 1
theorem n13_1 {k n : Nat} {m : Fm} : pex (C0 k) (n + 12) (fdI 13).scope s13_1 m = wloop (fun m => (PM.bnd (PM.bnd (PM.bnd (PM.ret (.bi "len")) fun fv => PM.bnd (evL [(PM.lift (m "waiting"))]) fun vs => papply (C0 k) fv vs) fun a => PM.bnd (PM.ret (.int 0)) fun b => pcmp .Gt a b) asB)) (fun m => pexs (C0 k) (n + 11) (fdI 13).scope (blkS s13_1 0) m) wf0 m := by kernel_rfl
noncomputable def s13_1_0_0 : Stmt := nthS (blkS s13_1 0) 0
theorem n13_1_0_0 {k n : Nat} {m : Fm} : pex (C0 k) (n + 12) (fdI 13).scope s13_1_0_0 m = PM.bnd (PM.bnd (PM.lift (m "waiting")) fun ov => PM.bnd (pmethPre ov "pop") fun _ => PM.bnd (evL []) fun vs => pmeth ov "pop" vs) fun v => PM.bnd (PM.lift (passign (fdI 13).scope (.Tuple [.Name "here" ⟨46, 8, 46, 12⟩, .Name "there" ⟨46, 14, 46, 19⟩] 0 ⟨46, 8, 46, 19⟩) v m)) fun m' => PM.ret (.next, m') := by kernel_rfl
theorem a13_1_0_0 {m : Fm} {v0 v1 : PV} : passign (fdI 13).scope (.Tuple [.Name "here" ⟨46, 8, 46, 12⟩, .Name "there" ⟨46, 14, 46, 19⟩] 0 ⟨46, 8, 46, 19⟩) (.tup [v0, v1]) m = some ((m.upd "here" v0).upd "there" v1) := by kernel_rfl
noncomputable def s13_1_0_1 : Stmt := nthS (blkS s13_1 0) 1
theorem n13_1_0_1 {k n : Nat} {m : Fm} : pex (C0 k) (n + 12) (fdI 13).scope s13_1_0_1 m = PM.bnd (PM.bnd (evL [(PM.bnd (PM.ret (.fn 84)) fun fv => PM.bnd (evL [(PM.lift (m "here")), (PM.lift (m "table"))]) fun vs => papply (C0 k) fv vs), (PM.bnd (PM.ret (.fn 84)) fun fv => PM.bnd (evL [(PM.lift (m "there")), (PM.lift (m "table"))]) fun vs => papply (C0 k) fv vs)]) mkT) fun v => PM.bnd (PM.lift (passign (fdI 13).scope (.Tuple [.Name "here" ⟨47, 8, 47, 12⟩, .Name "there" ⟨47, 14, 47, 19⟩] 0 ⟨47, 8, 47, 19⟩) v m)) fun m' => PM.ret (.next, m') := by kernel_rfl
theorem a13_1_0_1 {m : Fm} {v0 v1 : PV} : passign (fdI 13).scope (.Tuple [.Name "here" ⟨47, 8, 47, 12⟩, .Name "there" ⟨47, 14, 47, 19⟩] 0 ⟨47, 8, 47, 19⟩) (.tup [v0, v1]) m = some ((m.upd "here" v0).upd "there" v1) := by kernel_rfl
noncomputable def s13_1_0_2 : Stmt := nthS (blkS s13_1 0) 2
theorem n13_1_0_2 {k n : Nat} {m : Fm} : pex (C0 k) (n + 12) (fdI 13).scope s13_1_0_2 m = PM.bnd (PM.bnd (PM.bnd (PM.bnd (evL [(PM.lift (m "here")), (PM.lift (m "there"))]) mkT) fun a => PM.bnd (PM.lift (m "seen")) fun b => pcmp .In a b) asB) fun c => if c = true then pexs (C0 k) (n + 11) (fdI 13).scope (blkS s13_1_0_2 0) m else pexs (C0 k) (n + 11) (fdI 13).scope (blkS s13_1_0_2 1) m := by kernel_rfl
noncomputable def s13_1_0_2_0_0 : Stmt := nthS (blkS s13_1_0_2 0) 0
theorem n13_1_0_2_0_0 {k n : Nat} {m : Fm} : pex (C0 k) (n + 12) (fdI 13).scope s13_1_0_2_0_0 m = PM.ret (.cont, m) := by kernel_rfl
theorem b13_1_0_2_0 : (blkS s13_1_0_2 0) = [s13_1_0_2_0_0] := by kernel_rfl
theorem b13_1_0_2_1 : (blkS s13_1_0_2 1) = [] := by kernel_rfl
noncomputable def s13_1_0_3 : Stmt := nthS (blkS s13_1 0) 3
theorem n13_1_0_3 {k n : Nat} {m : Fm} : pex (C0 k) (n + 12) (fdI 13).scope s13_1_0_3 m = PM.bnd (PM.ret (.bool true)) fun v => PM.bnd (PM.lift (m "seen")) fun ov => PM.bnd (PM.bnd (evL [(PM.lift (m "here")), (PM.lift (m "there"))]) mkT) fun iv => PM.bnd (psetitem ov iv v) fun _ => PM.ret (.next, m) := by kernel_rfl
noncomputable def s13_1_0_4 : Stmt := nthS (blkS s13_1 0) 4
theorem n13_1_0_4 {k n : Nat} {m : Fm} : pex (C0 k) (n + 12) (fdI 13).scope s13_1_0_4 m = PM.bnd (PM.bnd (PM.bnd (PM.bnd (PM.ret (.fn 62)) fun fv => PM.bnd (evL [(PM.lift (m "there"))]) fun vs => papply (C0 k) fv vs) asB) fun c => tbo .And c (PM.bnd (PM.bnd (PM.bnd (PM.ret (.fn 62)) fun fv => PM.bnd (evL [(PM.lift (m "here"))]) fun vs => papply (C0 k) fv vs) asB) fun b => PM.ret (!b))) fun c => if c = true then pexs (C0 k) (n + 11) (fdI 13).scope (blkS s13_1_0_4 0) m else pexs (C0 k) (n + 11) (fdI 13).scope (blkS s13_1_0_4 1) m := by kernel_rfl
noncomputable def s13_1_0_4_0_0 : Stmt := nthS (blkS s13_1_0_4 0) 0
theorem n13_1_0_4_0_0 {k n : Nat} {m : Fm} : pex (C0 k) (n + 12) (fdI 13).scope s13_1_0_4_0_0 m = PM.bnd (PM.bnd (evL [(PM.lift (m "there")), (PM.lift (m "here"))]) mkT) fun v => PM.bnd (PM.lift (passign (fdI 13).scope (.Tuple [.Name "here" ⟨52, 12, 52, 16⟩, .Name "there" ⟨52, 18, 52, 23⟩] 0 ⟨52, 12, 52, 23⟩) v m)) fun m' => PM.ret (.next, m') := by kernel_rfl
theorem a13_1_0_4_0_0 {m : Fm} {v0 v1 : PV} : passign (fdI 13).scope (.Tuple [.Name "here" ⟨52, 12, 52, 16⟩, .Name "there" ⟨52, 18, 52, 23⟩] 0 ⟨52, 12, 52, 23⟩) (.tup [v0, v1]) m = some ((m.upd "here" v0).upd "there" v1) := by kernel_rfl
theorem b13_1_0_4_0 : (blkS s13_1_0_4 0) = [s13_1_0_4_0_0] := by kernel_rfl
theorem b13_1_0_4_1 : (blkS s13_1_0_4 1) = [] := by kernel_rfl
noncomputable def s13_1_0_5 : Stmt := nthS (blkS s13_1 0) 5
theorem n13_1_0_5 {k n : Nat} {m : Fm} : pex (C0 k) (n + 12) (fdI 13).scope s13_1_0_5 m = PM.bnd (PM.bnd (PM.bnd (PM.ret (.fn 62)) fun fv => PM.bnd (evL [(PM.lift (m "here"))]) fun vs => papply (C0 k) fv vs) asB) fun c => if c = true then pexs (C0 k) (n + 11) (fdI 13).scope (blkS s13_1_0_5 0) m else pexs (C0 k) (n + 11) (fdI 13).scope (blkS s13_1_0_5 1) m := by kernel_rfl
noncomputable def s13_1_0_5_0_0 : Stmt := nthS (blkS s13_1_0_5 0) 0
theorem n13_1_0_5_0_0 {k n : Nat} {m : Fm} : pex (C0 k) (n + 12) (fdI 13).scope s13_1_0_5_0_0 m = PM.bnd (PM.bnd (PM.bnd (PM.bnd (PM.lift (m "here")) fun a => PM.bnd (PM.lift (m "there")) fun b => pcmp .NotEq a b) asB) fun c => tbo .And c (PM.bnd (PM.bnd (PM.ret (.fn 91)) fun fv => PM.bnd (evL [(PM.bnd (PM.lift (m "here")) fun ov => PM.bnd (PM.ret (.int 0)) fun iv => pitem ov iv), (PM.lift (m "there")), (PM.lift (m "table"))]) fun vs => papply (C0 k) fv vs) asB)) fun c => if c = true then pexs (C0 k) (n + 11) (fdI 13).scope (blkS s13_1_0_5_0_0 0) m else pexs (C0 k) (n + 11) (fdI 13).scope (blkS s13_1_0_5_0_0 1) m := by kernel_rfl
noncomputable def s13_1_0_5_0_0_0_0 : Stmt := nthS (blkS s13_1_0_5_0_0 0) 0
theorem n13_1_0_5_0_0_0_0 {k n : Nat} {m : Fm} : pex (C0 k) (n + 12) (fdI 13).scope s13_1_0_5_0_0_0_0 m = PM.bnd (PM.ret .none) fun v => PM.ret (.ret v, m) := by kernel_rfl
theorem b13_1_0_5_0_0_0 : (blkS s13_1_0_5_0_0 0) = [s13_1_0_5_0_0_0_0] := by kernel_rfl
theorem b13_1_0_5_0_0_1 : (blkS s13_1_0_5_0_0 1) = [] := by kernel_rfl
noncomputable def s13_1_0_5_0_1 : Stmt := nthS (blkS s13_1_0_5 0) 1
theorem n13_1_0_5_0_1 {k n : Nat} {m : Fm} : pex (C0 k) (n + 12) (fdI 13).scope s13_1_0_5_0_1 m = PM.bnd (PM.bnd (PM.bnd (PM.lift (m "here")) fun a => PM.bnd (PM.lift (m "there")) fun b => pcmp .NotEq a b) asB) fun c => if c = true then pexs (C0 k) (n + 11) (fdI 13).scope (blkS s13_1_0_5_0_1 0) m else pexs (C0 k) (n + 11) (fdI 13).scope (blkS s13_1_0_5_0_1 1) m := by kernel_rfl
noncomputable def s13_1_0_5_0_1_0_0 : Stmt := nthS (blkS s13_1_0_5_0_1 0) 0
theorem n13_1_0_5_0_1_0_0 {k n : Nat} {m : Fm} : pex (C0 k) (n + 12) (fdI 13).scope s13_1_0_5_0_1_0_0 m = PM.bnd (PM.lift (m "there")) fun v => PM.bnd (PM.lift (m "table")) fun ov => PM.bnd (PM.bnd (PM.lift (m "here")) fun ov => PM.bnd (PM.ret (.int 0)) fun iv => pitem ov iv) fun iv => PM.bnd (psetitem ov iv v) fun _ => PM.ret (.next, m) := by kernel_rfl
theorem b13_1_0_5_0_1_0 : (blkS s13_1_0_5_0_1 0) = [s13_1_0_5_0_1_0_0] := by kernel_rfl
theorem b13_1_0_5_0_1_1 : (blkS s13_1_0_5_0_1 1) = [] := by kernel_rfl
theorem b13_1_0_5_0 : (blkS s13_1_0_5 0) = [s13_1_0_5_0_0, s13_1_0_5_0_1] := by kernel_rfl
noncomputable def s13_1_0_5_1_0 : Stmt := nthS (blkS s13_1_0_5 1) 0
theorem n13_1_0_5_1_0 {k n : Nat} {m : Fm} : pex (C0 k) (n + 12) (fdI 13).scope s13_1_0_5_1_0 m = PM.bnd (PM.bnd (PM.bnd (PM.bnd (PM.bnd (PM.lift (m "here")) fun ov => PM.bnd (PM.ret (.int 0)) fun iv => pitem ov iv) fun a => PM.bnd (PM.bnd (PM.lift (m "there")) fun ov => PM.bnd (PM.ret (.int 0)) fun iv => pitem ov iv) fun b => pcmp .NotEq a b) asB) fun c => tbo .Or c (PM.bnd (PM.bnd (PM.bnd (PM.ret (.bi "len")) fun fv => PM.bnd (evL [(PM.lift (m "here"))]) fun vs => papply (C0 k) fv vs) fun a => PM.bnd (PM.bnd (PM.ret (.bi "len")) fun fv => PM.bnd (evL [(PM.lift (m "there"))]) fun vs => papply (C0 k) fv vs) fun b => pcmp .NotEq a b) asB)) fun c => if c = true then pexs (C0 k) (n + 11) (fdI 13).scope (blkS s13_1_0_5_1_0 0) m else pexs (C0 k) (n + 11) (fdI 13).scope (blkS s13_1_0_5_1_0 1) m := by kernel_rfl
noncomputable def s13_1_0_5_1_0_0_0 : Stmt := nthS (blkS s13_1_0_5_1_0 0) 0
theorem n13_1_0_5_1_0_0_0 {k n : Nat} {m : Fm} : pex (C0 k) (n + 12) (fdI 13).scope s13_1_0_5_1_0_0_0 m = PM.bnd (PM.ret .none) fun v => PM.ret (.ret v, m) := by kernel_rfl
theorem b13_1_0_5_1_0_0 : (blkS s13_1_0_5_1_0 0) = [s13_1_0_5_1_0_0_0] := by kernel_rfl
noncomputable def s13_1_0_5_1_0_1_0 : Stmt := nthS (blkS s13_1_0_5_1_0 1) 0
theorem n13_1_0_5_1_0_1_0 {k n : Nat} {m : Fm} : pex (C0 k) (n + 12) (fdI 13).scope s13_1_0_5_1_0_1_0 m = PM.bnd (PM.bnd (PM.lift (m "waiting")) fun ov => PM.bnd (pmethPre ov "extend") fun _ => PM.bnd (PM.bnd (PM.lift (m "here")) fun ov => PM.bnd (PM.ret (.int 1)) fun k => sliceFromK ov k) fun xv => PM.bnd (PM.bnd (PM.lift (m "there")) fun ov => PM.bnd (PM.ret (.int 1)) fun k => sliceFromK ov k) fun yv => extZipK ov xv yv) (exprK m) := by kernel_rfl
theorem b13_1_0_5_1_0_1 : (blkS s13_1_0_5_1_0 1) = [s13_1_0_5_1_0_1_0] := by kernel_rfl
theorem b13_1_0_5_1 : (blkS s13_1_0_5 1) = [s13_1_0_5_1_0] := by kernel_rfl
theorem b13_1_0 : (blkS s13_1 0) = [s13_1_0_0, s13_1_0_1, s13_1_0_2, s13_1_0_3, s13_1_0_4, s13_1_0_5] := by kernel_rfl
noncomputable def s13_2 : Stmt := nthS (fdI 13).body 2
theorem n13_2 {k n : Nat} {m : Fm} : pex (C0 k) (n + 12) (fdI 13).scope s13_2 m = PM.bnd (PM.lift (m "table")) fun v => PM.ret (.ret v, m) := by kernel_rfl
theorem b13 : (fdI 13).body = [s13_0, s13_1, s13_2] := by kernel_rfl
theorem p13_0 {v0 v1 : PV} : bindAll (fun _ => none) (fdI 13).params [v0, v1] "one" = some v0 := by kernel_rfl
theorem p13_1 {v0 v1 : PV} : bindAll (fun _ => none) (fdI 13).params [v0, v1] "other" = some v1 := by kernel_rfl
noncomputable def s14_0 : Stmt := nthS (fdI 14).body 0
theorem n14_0 {k n : Nat} {m : Fm} : pex (C0 k) (n + 12) (fdI 14).scope s14_0 m = PM.bnd (PM.bnd (evL [(PM.alloc (.dct [])), (mcomp (PM.bnd (PM.bnd (PM.ret (.bi "sorted")) fun fv => PM.bnd (evL [(PM.lift (m "table"))]) fun vs => papply (C0 k) fv vs) srcOf) (fun s => srcOk s (.Name "name" ⟨64, 45, 64, 49⟩)) (fun v m => some (m.upd "name" v)) (fun a => leafB a (fun m => PM.ret true) (fun m => (PM.bnd (evL [(PM.lift (m "name")), (PM.ret (.bool false))]) mkT))) (compFm ⟨.function, [(".0", .local), ("name", .local)], false, false, []⟩ m))]) mkT) fun v => PM.bnd (PM.lift (passign (fdI 14).scope (.Tuple [.Name "found" ⟨64, 4, 64, 9⟩, .Name "waiting" ⟨64, 11, 64, 18⟩] 0 ⟨64, 4, 64, 18⟩) v m)) fun m' => PM.ret (.next, m') := by kernel_rfl
theorem a14_0 {m : Fm} {v0 v1 : PV} : passign (fdI 14).scope (.Tuple [.Name "found" ⟨64, 4, 64, 9⟩, .Name "waiting" ⟨64, 11, 64, 18⟩] 0 ⟨64, 4, 64, 18⟩) (.tup [v0, v1]) m = some ((m.upd "found" v0).upd "waiting" v1) := by kernel_rfl
noncomputable def s14_1 : Stmt := nthS (fdI 14).body 1
theorem n14_1 {k n : Nat} {m : Fm} : pex (C0 k) (n + 12) (fdI 14).scope s14_1 m = wloop (fun m => (PM.bnd (PM.bnd (PM.bnd (PM.ret (.bi "len")) fun fv => PM.bnd (evL [(PM.lift (m "waiting"))]) fun vs => papply (C0 k) fv vs) fun a => PM.bnd (PM.ret (.int 0)) fun b => pcmp .Gt a b) asB)) (fun m => pexs (C0 k) (n + 11) (fdI 14).scope (blkS s14_1 0) m) wf0 m := by kernel_rfl
noncomputable def s14_1_0_0 : Stmt := nthS (blkS s14_1 0) 0
theorem n14_1_0_0 {k n : Nat} {m : Fm} : pex (C0 k) (n + 12) (fdI 14).scope s14_1_0_0 m = PM.bnd (PM.bnd (PM.lift (m "waiting")) fun ov => PM.bnd (pmethPre ov "pop") fun _ => PM.bnd (evL []) fun vs => pmeth ov "pop" vs) fun v => PM.bnd (PM.lift (passign (fdI 14).scope (.Tuple [.Name "name" ⟨66, 8, 66, 12⟩, .Name "is_open" ⟨66, 14, 66, 21⟩] 0 ⟨66, 8, 66, 21⟩) v m)) fun m' => PM.ret (.next, m') := by kernel_rfl
theorem a14_1_0_0 {m : Fm} {v0 v1 : PV} : passign (fdI 14).scope (.Tuple [.Name "name" ⟨66, 8, 66, 12⟩, .Name "is_open" ⟨66, 14, 66, 21⟩] 0 ⟨66, 8, 66, 21⟩) (.tup [v0, v1]) m = some ((m.upd "name" v0).upd "is_open" v1) := by kernel_rfl
noncomputable def s14_1_0_1 : Stmt := nthS (blkS s14_1 0) 1
theorem n14_1_0_1 {k n : Nat} {m : Fm} : pex (C0 k) (n + 12) (fdI 14).scope s14_1_0_1 m = PM.bnd (PM.bnd (PM.lift (m "is_open")) asB) fun c => if c = true then pexs (C0 k) (n + 11) (fdI 14).scope (blkS s14_1_0_1 0) m else pexs (C0 k) (n + 11) (fdI 14).scope (blkS s14_1_0_1 1) m := by kernel_rfl
noncomputable def s14_1_0_1_0_0 : Stmt := nthS (blkS s14_1_0_1 0) 0
theorem n14_1_0_1_0_0 {k n : Nat} {m : Fm} : pex (C0 k) (n + 12) (fdI 14).scope s14_1_0_1_0_0 m = PM.bnd (PM.ret (.bool true)) fun v => PM.bnd (PM.lift (m "found")) fun ov => PM.bnd (PM.lift (m "name")) fun iv => PM.bnd (psetitem ov iv v) fun _ => PM.ret (.next, m) := by kernel_rfl
theorem b14_1_0_1_0 : (blkS s14_1_0_1 0) = [s14_1_0_1_0_0] := by kernel_rfl
noncomputable def s14_1_0_1_1_0 : Stmt := nthS (blkS s14_1_0_1 1) 0
theorem n14_1_0_1_1_0 {k n : Nat} {m : Fm} : pex (C0 k) (n + 12) (fdI 14).scope s14_1_0_1_1_0 m = PM.bnd (PM.bnd (PM.bnd (PM.lift (m "name")) fun a => PM.bnd (PM.lift (m "found")) fun b => pcmp .NotIn a b) asB) fun c => if c = true then pexs (C0 k) (n + 11) (fdI 14).scope (blkS s14_1_0_1_1_0 0) m else pexs (C0 k) (n + 11) (fdI 14).scope (blkS s14_1_0_1_1_0 1) m := by kernel_rfl
noncomputable def s14_1_0_1_1_0_0_0 : Stmt := nthS (blkS s14_1_0_1_1_0 0) 0
theorem n14_1_0_1_1_0_0_0 {k n : Nat} {m : Fm} : pex (C0 k) (n + 12) (fdI 14).scope s14_1_0_1_1_0_0_0 m = PM.bnd (PM.bnd (PM.lift (m "waiting")) fun ov => PM.bnd (pmethPre ov "append") fun _ => PM.bnd (evL [(PM.bnd (evL [(PM.lift (m "name")), (PM.ret (.bool true))]) mkT)]) fun vs => pmeth ov "append" vs) (exprK m) := by kernel_rfl
noncomputable def s14_1_0_1_1_0_0_1 : Stmt := nthS (blkS s14_1_0_1_1_0 0) 1
theorem n14_1_0_1_1_0_0_1 {k n : Nat} {m : Fm} : pex (C0 k) (n + 12) (fdI 14).scope s14_1_0_1_1_0_0_1 m = PM.bnd (PM.bnd (PM.lift (m "waiting")) fun ov => PM.bnd (pmethPre ov "extend") fun _ => PM.bnd (evL [(mcomp (PM.bnd (PM.bnd (PM.ret (.fn 67)) fun fv => PM.bnd (evL [(PM.bnd (PM.lift (m "table")) fun ov => PM.bnd (PM.lift (m "name")) fun iv => pitem ov iv)]) fun vs => papply (C0 k) fv vs) srcOf) (fun s => srcOk s (.Name "late" ⟨71, 46, 71, 50⟩)) (fun v m => some (m.upd "late" v)) (fun a => leafB a (fun m => PM.bnd (PM.bnd (PM.bnd (PM.lift (m "late")) fun a => PM.bnd (PM.lift (m "table")) fun b => pcmp .In a b) asB) fun b => if b = true then PM.ret true else PM.ret false) (fun m => (PM.bnd (evL [(PM.lift (m "late")), (PM.ret (.bool false))]) mkT))) (compFm ⟨.function, [(".0", .local), ("late", .local), ("table", .free)], false, false, []⟩ m))]) fun vs => pmeth ov "extend" vs) (exprK m) := by kernel_rfl
theorem b14_1_0_1_1_0_0 : (blkS s14_1_0_1_1_0 0) = [s14_1_0_1_1_0_0_0, s14_1_0_1_1_0_0_1] := by kernel_rfl
theorem b14_1_0_1_1_0_1 : (blkS s14_1_0_1_1_0 1) = [] := by kernel_rfl
theorem b14_1_0_1_1 : (blkS s14_1_0_1 1) = [s14_1_0_1_1_0] := by kernel_rfl
theorem b14_1_0 : (blkS s14_1 0) = [s14_1_0_0, s14_1_0_1] := by kernel_rfl
noncomputable def s14_2 : Stmt := nthS (fdI 14).body 2
theorem n14_2 {k n : Nat} {m : Fm} : pex (C0 k) (n + 12) (fdI 14).scope s14_2 m = PM.bnd (PM.bnd (PM.ret (.ty "list")) fun fv => PM.bnd (evL [(PM.lift (m "found"))]) fun vs => papply (C0 k) fv vs) fun v => PM.ret (.ret v, m) := by kernel_rfl
theorem b14 : (fdI 14).body = [s14_0, s14_1, s14_2] := by kernel_rfl
theorem p14_0 {v0 : PV} : bindAll (fun _ => none) (fdI 14).params [v0] "table" = some v0 := by kernel_rfl
noncomputable def s15_0 : Stmt := nthS (fdI 15).body 0
theorem n15_0 {k n : Nat} {m : Fm} : pex (C0 k) (n + 12) (fdI 15).scope s15_0 m = PM.bnd (PM.bnd (evL [(PM.alloc (.dct [])), (PM.alloc (.dct [])), (PM.alloc (.dct []))]) mkT) fun v => PM.bnd (PM.lift (passign (fdI 15).scope (.Tuple [.Name "found" ⟨74, 4, 74, 9⟩, .Name "sizes" ⟨74, 11, 74, 16⟩, .Name "depths" ⟨74, 18, 74, 24⟩] 0 ⟨74, 4, 74, 24⟩) v m)) fun m' => PM.ret (.next, m') := by kernel_rfl
theorem a15_0 {m : Fm} {v0 v1 v2 : PV} : passign (fdI 15).scope (.Tuple [.Name "found" ⟨74, 4, 74, 9⟩, .Name "sizes" ⟨74, 11, 74, 16⟩, .Name "depths" ⟨74, 18, 74, 24⟩] 0 ⟨74, 4, 74, 24⟩) (.tup [v0, v1, v2]) m = some (((m.upd "found" v0).upd "sizes" v1).upd "depths" v2) := by kernel_rfl
noncomputable def s15_1 : Stmt := nthS (fdI 15).body 1
theorem n15_1 {k n : Nat} {m : Fm} : pex (C0 k) (n + 12) (fdI 15).scope s15_1 m = PM.bnd (PM.bnd (PM.bnd (PM.ret (.fn 103)) fun fv => PM.bnd (evL [(PM.lift (m "table"))]) fun vs => papply (C0 k) fv vs) srcOf) fun src => if (!(srcOk src (.Name "name" ⟨75, 8, 75, 12⟩))) = true then PM.fail else floop (fun v m => some (m.upd "name" v)) (fun m => pexs (C0 k) (n + 11) (fdI 15).scope (blkS s15_1 0) m) src wf0 0 m := by kernel_rfl
noncomputable def s15_1_0_0 : Stmt := nthS (blkS s15_1 0) 0
theorem n15_1_0_0 {k n : Nat} {m : Fm} : pex (C0 k) (n + 12) (fdI 15).scope s15_1_0_0 m = PM.bnd (PM.bnd (PM.ret (.fn 72)) fun fv => PM.bnd (evL [(PM.bnd (PM.lift (m "table")) fun ov => PM.bnd (PM.lift (m "name")) fun iv => pitem ov iv)]) fun vs => papply (C0 k) fv vs) fun v => PM.ret (.next, m.upd "some" v) := by kernel_rfl
noncomputable def s15_1_0_1 : Stmt := nthS (blkS s15_1 0) 1
theorem n15_1_0_1 {k n : Nat} {m : Fm} : pex (C0 k) (n + 12) (fdI 15).scope s15_1_0_1 m = PM.bnd (PM.bnd (PM.ret (.bi "sum")) fun fv => PM.bnd (evL [(mcomp (PM.bnd (PM.lift (m "some")) srcOf) (fun s => srcOk s (.Tuple [.Name "path" ⟨77, 81, 77, 85⟩, .Name "part" ⟨77, 87, 77, 91⟩] 0 ⟨77, 81, 77, 91⟩)) (passign ⟨.function, [(".0", .local), ("path", .local), ("part", .local), ("is_variable", .globalImplicit), ("sizes", .free)], false, false, []⟩ (.Tuple [.Name "path" ⟨77, 81, 77, 85⟩, .Name "part" ⟨77, 87, 77, 91⟩] 0 ⟨77, 81, 77, 91⟩)) (fun a => leafB a (fun m => PM.ret true) (fun m => (PM.bnd (PM.bnd (PM.bnd (PM.ret (.fn 62)) fun fv => PM.bnd (evL [(PM.lift (m "part"))]) fun vs => papply (C0 k) fv vs) asB) fun c => if c = true then (PM.bnd (PM.lift (m "sizes")) fun ov => PM.bnd (pmethPre ov "get") fun _ => PM.bnd (evL [(PM.bnd (PM.lift (m "part")) fun ov => PM.bnd (PM.ret (.int 0)) fun iv => pitem ov iv), (PM.ret (.int 1))]) fun vs => pmeth ov "get" vs) else (PM.ret (.int 1))))) (compFm ⟨.function, [(".0", .local), ("path", .local), ("part", .local), ("is_variable", .globalImplicit), ("sizes", .free)], false, false, []⟩ m))]) fun vs => papply (C0 k) fv vs) fun v => PM.bnd (PM.lift (m "sizes")) fun ov => PM.bnd (PM.lift (m "name")) fun iv => PM.bnd (psetitem ov iv v) fun _ => PM.ret (.next, m) := by kernel_rfl
noncomputable def s15_1_0_2 : Stmt := nthS (blkS s15_1 0) 2
theorem n15_1_0_2 {k n : Nat} {m : Fm} : pex (C0 k) (n + 12) (fdI 15).scope s15_1_0_2 m = PM.bnd (PM.bnd (PM.ret (.bi "max")) fun fv => PM.bnd (evL [(mcomp (PM.bnd (PM.lift (m "some")) srcOf) (fun s => srcOk s (.Tuple [.Name "path" ⟨78, 97, 78, 101⟩, .Name "part" ⟨78, 103, 78, 107⟩] 0 ⟨78, 97, 78, 107⟩)) (passign ⟨.function, [(".0", .local), ("path", .local), ("part", .local), ("len", .globalImplicit), ("is_variable", .globalImplicit), ("depths", .free)], false, false, []⟩ (.Tuple [.Name "path" ⟨78, 97, 78, 101⟩, .Name "part" ⟨78, 103, 78, 107⟩] 0 ⟨78, 97, 78, 107⟩)) (fun a => leafB a (fun m => PM.ret true) (fun m => (PM.bnd (PM.bnd (PM.ret (.bi "len")) fun fv => PM.bnd (evL [(PM.lift (m "path"))]) fun vs => papply (C0 k) fv vs) fun a => PM.bnd (PM.bnd (PM.bnd (PM.bnd (PM.ret (.fn 62)) fun fv => PM.bnd (evL [(PM.lift (m "part"))]) fun vs => papply (C0 k) fv vs) asB) fun c => if c = true then (PM.bnd (PM.lift (m "depths")) fun ov => PM.bnd (pmethPre ov "get") fun _ => PM.bnd (evL [(PM.bnd (PM.lift (m "part")) fun ov => PM.bnd (PM.ret (.int 0)) fun iv => pitem ov iv), (PM.ret (.int 1))]) fun vs => pmeth ov "get" vs) else (PM.ret (.int 1))) fun b => pbin .Add a b))) (compFm ⟨.function, [(".0", .local), ("path", .local), ("part", .local), ("len", .globalImplicit), ("is_variable", .globalImplicit), ("depths", .free)], false, false, []⟩ m))]) fun vs => papply (C0 k) fv vs) fun v => PM.bnd (PM.lift (m "depths")) fun ov => PM.bnd (PM.lift (m "name")) fun iv => PM.bnd (psetitem ov iv v) fun _ => PM.ret (.next, m) := by kernel_rfl
noncomputable def s15_1_0_3 : Stmt := nthS (blkS s15_1 0) 3
theorem n15_1_0_3 {k n : Nat} {m : Fm} : pex (C0 k) (n + 12) (fdI 15).scope s15_1_0_3 m = PM.bnd (PM.bnd (PM.bnd (PM.bnd (PM.bnd (PM.lift (m "sizes")) fun ov => PM.bnd (PM.lift (m "name")) fun iv => pitem ov iv) fun a => PM.bnd (PM.ret (.int 10000)) fun b => pcmp .Gt a b) asB) fun c => tbo .Or c (PM.bnd (PM.bnd (PM.bnd (PM.lift (m "depths")) fun ov => PM.bnd (PM.lift (m "name")) fun iv => pitem ov iv) fun a => PM.bnd (PM.ret (.int 200)) fun b => pcmp .Gt a b) asB)) fun c => if c = true then pexs (C0 k) (n + 11) (fdI 15).scope (blkS s15_1_0_3 0) m else pexs (C0 k) (n + 11) (fdI 15).scope (blkS s15_1_0_3 1) m := by kernel_rfl
noncomputable def s15_1_0_3_0_0 : Stmt := nthS (blkS s15_1_0_3 0) 0
theorem b15_1_0_3_0 : (blkS s15_1_0_3 0) = [s15_1_0_3_0_0] := by kernel_rfl
theorem b15_1_0_3_1 : (blkS s15_1_0_3 1) = [] := by kernel_rfl
noncomputable def s15_1_0_4 : Stmt := nthS (blkS s15_1 0) 4
theorem n15_1_0_4 {k n : Nat} {m : Fm} : pex (C0 k) (n + 12) (fdI 15).scope s15_1_0_4 m = PM.bnd (PM.bnd (PM.ret (.fn 77)) fun fv => PM.bnd (evL [(PM.bnd (PM.lift (m "table")) fun ov => PM.bnd (PM.lift (m "name")) fun iv => pitem ov iv), (PM.lift (m "found"))]) fun vs => papply (C0 k) fv vs) fun v => PM.bnd (PM.lift (m "found")) fun ov => PM.bnd (PM.lift (m "name")) fun iv => PM.bnd (psetitem ov iv v) fun _ => PM.ret (.next, m) := by kernel_rfl
theorem b15_1_0 : (blkS s15_1 0) = [s15_1_0_0, s15_1_0_1, s15_1_0_2, s15_1_0_3, s15_1_0_4] := by kernel_rfl
noncomputable def s15_2 : Stmt := nthS (fdI 15).body 2
theorem n15_2 {k n : Nat} {m : Fm} : pex (C0 k) (n + 12) (fdI 15).scope s15_2 m = PM.bnd (PM.lift (m "found")) fun v => PM.ret (.ret v, m) := by kernel_rfl
theorem b15 : (fdI 15).body = [s15_0, s15_1, s15_2] := by kernel_rfl
theorem p15_0 {v0 : PV} : bindAll (fun _ => none) (fdI 15).params [v0] "table" = some v0 := by kernel_rfl
noncomputable def s18_0 : Stmt := nthS (fdI 18).body 0
theorem n18_0 {k n : Nat} {m : Fm} : pex (C0 k) (n + 12) (fdI 18).scope s18_0 m = PM.bnd (PM.bnd (PM.lift (m "board")) fun ov => PM.bnd (PM.ret (.str "spot")) fun iv => pitem ov iv) fun v => PM.ret (.next, m.upd "spot" v) := by kernel_rfl
noncomputable def s18_1 : Stmt := nthS (fdI 18).body 1
theorem n18_1 {k n : Nat} {m : Fm} : pex (C0 k) (n + 12) (fdI 18).scope s18_1 m = PM.bnd (PM.bnd (PM.lift (m "spot")) fun a => PM.bnd (PM.ret (.int 1)) fun b => pbin .Add a b) fun v => PM.bnd (PM.lift (m "board")) fun ov => PM.bnd (PM.ret (.str "spot")) fun iv => PM.bnd (psetitem ov iv v) fun _ => PM.ret (.next, m) := by kernel_rfl
noncomputable def s18_2 : Stmt := nthS (fdI 18).body 2
theorem n18_2 {k n : Nat} {m : Fm} : pex (C0 k) (n + 12) (fdI 18).scope s18_2 m = PM.bnd (PM.bnd (PM.bnd (PM.lift (m "spot")) fun a => PM.bnd (PM.bnd (PM.ret (.bi "len")) fun fv => PM.bnd (evL [(PM.bnd (PM.lift (m "board")) fun ov => PM.bnd (PM.ret (.str "cells")) fun iv => pitem ov iv)]) fun vs => papply (C0 k) fv vs) fun b => pcmp .Lt a b) asB) fun c => if c = true then pexs (C0 k) (n + 11) (fdI 18).scope (blkS s18_2 0) m else pexs (C0 k) (n + 11) (fdI 18).scope (blkS s18_2 1) m := by kernel_rfl
noncomputable def s18_2_0_0 : Stmt := nthS (blkS s18_2 0) 0
theorem n18_2_0_0 {k n : Nat} {m : Fm} : pex (C0 k) (n + 12) (fdI 18).scope s18_2_0_0 m = PM.bnd (PM.bnd (PM.bnd (PM.bnd (PM.lift (m "board")) fun ov => PM.bnd (PM.ret (.str "cells")) fun iv => pitem ov iv) fun ov => PM.bnd (PM.lift (m "spot")) fun iv => pitem ov iv) fun a => PM.bnd (PM.lift (m "many")) fun b => pbin .Mod a b) fun v => PM.ret (.ret v, m) := by kernel_rfl
theorem b18_2_0 : (blkS s18_2 0) = [s18_2_0_0] := by kernel_rfl
theorem b18_2_1 : (blkS s18_2 1) = [] := by kernel_rfl
noncomputable def s18_3 : Stmt := nthS (fdI 18).body 3
theorem n18_3 {k n : Nat} {m : Fm} : pex (C0 k) (n + 12) (fdI 18).scope s18_3 m = PM.bnd (PM.bnd (PM.bnd (PM.bnd (PM.bnd (PM.bnd (PM.bnd (PM.bnd (PM.ret (.int 2)) fun a => PM.bnd (PM.lift (m "spot")) fun b => pbin .Mult a b) fun a => PM.bnd (PM.lift (m "spot")) fun b => pbin .Mult a b) fun a => PM.bnd (PM.bnd (PM.ret (.int 9)) fun a => PM.bnd (PM.lift (m "spot")) fun b => pbin .Mult a b) fun b => pbin .Add a b) fun a => PM.bnd (PM.bnd (PM.ret (.int 4)) fun a => PM.bnd (PM.bnd (PM.ret (.bi "len")) fun fv => PM.bnd (evL [(PM.bnd (PM.lift (m "board")) fun ov => PM.bnd (PM.ret (.str "cells")) fun iv => pitem ov iv)]) fun vs => papply (C0 k) fv vs) fun b => pbin .Mult a b) fun b => pbin .Add a b) fun a => PM.bnd (PM.ret (.int 5)) fun b => pbin .Add a b) fun a => PM.bnd (PM.ret (.int 59)) fun b => pbin .Mod a b) fun a => PM.bnd (PM.lift (m "many")) fun b => pbin .Mod a b) fun v => PM.ret (.ret v, m) := by kernel_rfl
theorem b18 : (fdI 18).body = [s18_0, s18_1, s18_2, s18_3] := by kernel_rfl
theorem p18_0 {v0 v1 : PV} : bindAll (fun _ => none) (fdI 18).params [v0, v1] "board" = some v0 := by kernel_rfl
theorem p18_1 {v0 v1 : PV} : bindAll (fun _ => none) (fdI 18).params [v0, v1] "many" = some v1 := by kernel_rfl
noncomputable def s19_0 : Stmt := nthS (fdI 19).body 0
theorem n19_0 {k n : Nat} {m : Fm} : pex (C0 k) (n + 12) (fdI 19).scope s19_0 m = PM.bnd (PM.bnd (evL [(PM.bnd (PM.ret (.fn 116)) fun fv => PM.bnd (evL [(PM.lift (m "board")), (PM.ret (.int 5))]) fun vs => papply (C0 k) fv vs), (PM.bnd (PM.lift (m "lesser")) fun a => PM.bnd (PM.bnd (evL [(PM.ret (.str "?e")), (PM.ret (.str "?d")), (PM.ret (.str "a"))]) mkL) fun b => pbin .Add a b)]) mkT) fun v => PM.bnd (PM.lift (passign (fdI 19).scope (.Tuple [.Name "way" ⟨92, 4, 92, 7⟩, .Name "some" ⟨92, 9, 92, 13⟩] 0 ⟨92, 4, 92, 13⟩) v m)) fun m' => PM.ret (.next, m') := by kernel_rfl
theorem a19_0 {m : Fm} {v0 v1 : PV} : passign (fdI 19).scope (.Tuple [.Name "way" ⟨92, 4, 92, 7⟩, .Name "some" ⟨92, 9, 92, 13⟩] 0 ⟨92, 4, 92, 13⟩) (.tup [v0, v1]) m = some ((m.upd "way" v0).upd "some" v1) := by kernel_rfl
noncomputable def s19_1 : Stmt := nthS (fdI 19).body 1
theorem n19_1 {k n : Nat} {m : Fm} : pex (C0 k) (n + 12) (fdI 19).scope s19_1 m = PM.bnd (PM.bnd (evL [(PM.bnd (PM.lift (m "some")) fun ov => PM.bnd (PM.bnd (PM.ret (.fn 116)) fun fv => PM.bnd (evL [(PM.lift (m "board")), (PM.bnd (PM.ret (.bi "len")) fun fv => PM.bnd (evL [(PM.lift (m "some"))]) fun vs => papply (C0 k) fv vs)]) fun vs => papply (C0 k) fv vs) fun iv => pitem ov iv)]) mkT) fun v => PM.ret (.next, m.upd "one" v) := by kernel_rfl
noncomputable def s19_2 : Stmt := nthS (fdI 19).body 2
theorem n19_2 {k n : Nat} {m : Fm} : pex (C0 k) (n + 12) (fdI 19).scope s19_2 m = PM.bnd (PM.bnd (PM.bnd (PM.lift (m "way")) fun a => PM.bnd (PM.ret (.int 0)) fun b => pcmp .Eq a b) asB) fun c => if c = true then pexs (C0 k) (n + 11) (fdI 19).scope (blkS s19_2 0) m else pexs (C0 k) (n + 11) (fdI 19).scope (blkS s19_2 1) m := by kernel_rfl
noncomputable def s19_2_0_0 : Stmt := nthS (blkS s19_2 0) 0
theorem n19_2_0_0 {k n : Nat} {m : Fm} : pex (C0 k) (n + 12) (fdI 19).scope s19_2_0_0 m = PM.bnd (PM.lift (m "one")) fun v => PM.ret (.ret v, m) := by kernel_rfl
theorem b19_2_0 : (blkS s19_2 0) = [s19_2_0_0] := by kernel_rfl
theorem b19_2_1 : (blkS s19_2 1) = [] := by kernel_rfl
noncomputable def s19_3 : Stmt := nthS (fdI 19).body 3
theorem n19_3 {k n : Nat} {m : Fm} : pex (C0 k) (n + 12) (fdI 19).scope s19_3 m = PM.bnd (PM.bnd (PM.bnd (PM.lift (m "way")) fun a => PM.bnd (PM.ret (.int 4)) fun b => pcmp .Eq a b) asB) fun c => if c = true then pexs (C0 k) (n + 11) (fdI 19).scope (blkS s19_3 0) m else pexs (C0 k) (n + 11) (fdI 19).scope (blkS s19_3 1) m := by kernel_rfl
noncomputable def s19_3_0_0 : Stmt := nthS (blkS s19_3 0) 0
theorem n19_3_0_0 {k n : Nat} {m : Fm} : pex (C0 k) (n + 12) (fdI 19).scope s19_3_0_0 m = PM.bnd (PM.bnd (evL [(PM.ret (.str "f")), (PM.bnd (evL [(PM.ret (.str "f")), (PM.lift (m "one"))]) mkT)]) mkT) fun v => PM.ret (.ret v, m) := by kernel_rfl
theorem b19_3_0 : (blkS s19_3 0) = [s19_3_0_0] := by kernel_rfl
theorem b19_3_1 : (blkS s19_3 1) = [] := by kernel_rfl
noncomputable def s19_4 : Stmt := nthS (fdI 19).body 4
theorem n19_4 {k n : Nat} {m : Fm} : pex (C0 k) (n + 12) (fdI 19).scope s19_4 m = PM.bnd (PM.bnd (PM.bnd (PM.bnd (PM.lift (m "way")) fun a => PM.bnd (PM.ret (.int 1)) fun b => pcmp .Eq a b) asB) fun c => if c = true then (PM.bnd (evL [(PM.ret (.str "f")), (PM.lift (m "one"))]) mkT) else (PM.bnd (evL [(PM.ret (.str "g")), (PM.lift (m "one")), (PM.bnd (evL [(PM.bnd (PM.lift (m "some")) fun ov => PM.bnd (PM.bnd (PM.ret (.fn 116)) fun fv => PM.bnd (evL [(PM.lift (m "board")), (PM.bnd (PM.ret (.bi "len")) fun fv => PM.bnd (evL [(PM.lift (m "some"))]) fun vs => papply (C0 k) fv vs)]) fun vs => papply (C0 k) fv vs) fun iv => pitem ov iv)]) mkT)]) mkT)) fun v => PM.ret (.ret v, m) := by kernel_rfl
theorem b19 : (fdI 19).body = [s19_0, s19_1, s19_2, s19_3, s19_4] := by kernel_rfl
theorem p19_0 {v0 v1 : PV} : bindAll (fun _ => none) (fdI 19).params [v0, v1] "board" = some v0 := by kernel_rfl
theorem p19_1 {v0 v1 : PV} : bindAll (fun _ => none) (fdI 19).params [v0, v1] "lesser" = some v1 := by kernel_rfl
noncomputable def s20_0 : Stmt := nthS (fdI 20).body 0
theorem n20_0 {k n : Nat} {m : Fm} : pex (C0 k) (n + 12) (fdI 20).scope s20_0 m = PM.bnd (PM.bnd (PM.bnd (PM.bnd (PM.bnd (PM.ret (.bi "len")) fun fv => PM.bnd (evL [(PM.lift (m "t"))]) fun vs => papply (C0 k) fv vs) fun a => PM.bnd (PM.ret (.int 1)) fun b => pcmp .Eq a b) asB) fun c => if c = true then (PM.bnd (evL [(PM.lift (m "t"))]) mkL) else (mcomp (PM.bnd (PM.bnd (PM.lift (m "t")) fun ov => PM.bnd (PM.ret (.int 1)) fun k => sliceFromK ov k) srcOf) (fun s => srcOk s (.Name "kid" ⟨100, 45, 100, 48⟩)) (fun v m => some (m.upd "kid" v)) (fun a => sndB (fun m => PM.ret true) (fun m => (PM.bnd (PM.bnd (PM.ret (.fn 128)) fun fv => PM.bnd (evL [(PM.lift (m "kid"))]) fun vs => papply (C0 k) fv vs) srcOf)) (fun s => srcOk s (.Name "leaf" ⟨100, 62, 100, 66⟩)) (fun v m => some (m.upd "leaf" v)) (leafB a (fun m => PM.ret true) (fun m => (PM.lift (m "leaf"))))) (compFm ⟨.function, [(".0", .local), ("kid", .local), ("leaf", .local), ("_law_leaves", .globalImplicit)], false, false, []⟩ m))) fun v => PM.ret (.ret v, m) := by kernel_rfl
theorem b20 : (fdI 20).body = [s20_0] := by kernel_rfl
theorem p20_0 {v0 : PV} : bindAll (fun _ => none) (fdI 20).params [v0] "t" = some v0 := by kernel_rfl
noncomputable def s21_0 : Stmt := nthS (fdI 21).body 0
theorem n21_0 {k n : Nat} {m : Fm} : pex (C0 k) (n + 12) (fdI 21).scope s21_0 m = PM.bnd (PM.bnd (PM.bnd (PM.bnd (PM.lift (m "t")) fun ov => PM.bnd (PM.ret (.int 0)) fun iv => pitem ov iv) fun a => PM.bnd (PM.lift (m "table")) fun b => pcmp .In a b) asB) fun c => if c = true then pexs (C0 k) (n + 11) (fdI 21).scope (blkS s21_0 0) m else pexs (C0 k) (n + 11) (fdI 21).scope (blkS s21_0 1) m := by kernel_rfl
noncomputable def s21_0_0_0 : Stmt := nthS (blkS s21_0 0) 0
theorem n21_0_0_0 {k n : Nat} {m : Fm} : pex (C0 k) (n + 12) (fdI 21).scope s21_0_0_0 m = PM.bnd (PM.bnd (PM.ret (.fn 133)) fun fv => PM.bnd (evL [(PM.bnd (PM.lift (m "table")) fun ov => PM.bnd (PM.bnd (PM.lift (m "t")) fun ov => PM.bnd (PM.ret (.int 0)) fun iv => pitem ov iv) fun iv => pitem ov iv), (PM.lift (m "table"))]) fun vs => papply (C0 k) fv vs) fun v => PM.ret (.ret v, m) := by kernel_rfl
theorem b21_0_0 : (blkS s21_0 0) = [s21_0_0_0] := by kernel_rfl
theorem b21_0_1 : (blkS s21_0 1) = [] := by kernel_rfl
noncomputable def s21_1 : Stmt := nthS (fdI 21).body 1
theorem n21_1 {k n : Nat} {m : Fm} : pex (C0 k) (n + 12) (fdI 21).scope s21_1 m = PM.bnd (PM.bnd (PM.bnd (PM.lift (m "t")) fun ov => PM.bnd (PM.ret (.int 1)) fun k => sliceToK ov k) fun a => PM.bnd (PM.bnd (PM.ret (.ty "tuple")) fun fv => PM.bnd (evL [(mcomp (PM.bnd (PM.bnd (PM.lift (m "t")) fun ov => PM.bnd (PM.ret (.int 1)) fun k => sliceFromK ov k) srcOf) (fun s => srcOk s (.Name "kid" ⟨104, 53, 104, 56⟩)) (fun v m => some (m.upd "kid" v)) (fun a => leafB a (fun m => PM.ret true) (fun m => (PM.bnd (PM.ret (.fn 133)) fun fv => PM.bnd (evL [(PM.lift (m "kid")), (PM.lift (m "table"))]) fun vs => papply (C0 k) fv vs))) (compFm ⟨.function, [(".0", .local), ("kid", .local), ("_law_whole", .globalImplicit), ("table", .free)], false, false, []⟩ m))]) fun vs => papply (C0 k) fv vs) fun b => pbin .Add a b) fun v => PM.ret (.ret v, m) := by kernel_rfl
theorem b21 : (fdI 21).body = [s21_0, s21_1] := by kernel_rfl
theorem p21_0 {v0 v1 : PV} : bindAll (fun _ => none) (fdI 21).params [v0, v1] "t" = some v0 := by kernel_rfl
theorem p21_1 {v0 v1 : PV} : bindAll (fun _ => none) (fdI 21).params [v0, v1] "table" = some v1 := by kernel_rfl
noncomputable def s22_0 : Stmt := nthS (fdI 22).body 0
theorem n22_0 {k n : Nat} {m : Fm} : pex (C0 k) (n + 12) (fdI 22).scope s22_0 m = PM.bnd (PM.bnd (PM.ret (.fn 103)) fun fv => PM.bnd (evL [(PM.lift (m "table"))]) fun vs => papply (C0 k) fv vs) fun v => PM.ret (.next, m.upd "told" v) := by kernel_rfl
noncomputable def s22_1 : Stmt := nthS (fdI 22).body 1
theorem n22_1 {k n : Nat} {m : Fm} : pex (C0 k) (n + 12) (fdI 22).scope s22_1 m = PM.bnd (PM.bnd (PM.bnd (PM.bnd (PM.bnd (PM.ret (.bi "sorted")) fun fv => PM.bnd (evL [(PM.lift (m "told"))]) fun vs => papply (C0 k) fv vs) fun a => PM.bnd (PM.bnd (PM.ret (.bi "sorted")) fun fv => PM.bnd (evL [(PM.lift (m "wholes"))]) fun vs => papply (C0 k) fv vs) fun b => pcmp .NotEq a b) asB) fun c => tbo .Or c (PM.bnd (PM.bnd (PM.bnd (PM.ret (.bi "sorted")) fun fv => PM.bnd (evL [(PM.lift (m "table"))]) fun vs => papply (C0 k) fv vs) fun a => PM.bnd (PM.bnd (PM.ret (.bi "sorted")) fun fv => PM.bnd (evL [(PM.lift (m "wholes"))]) fun vs => papply (C0 k) fv vs) fun b => pcmp .NotEq a b) asB)) fun c => if c = true then pexs (C0 k) (n + 11) (fdI 22).scope (blkS s22_1 0) m else pexs (C0 k) (n + 11) (fdI 22).scope (blkS s22_1 1) m := by kernel_rfl
noncomputable def s22_1_0_0 : Stmt := nthS (blkS s22_1 0) 0
theorem n22_1_0_0 {k n : Nat} {m : Fm} : pex (C0 k) (n + 12) (fdI 22).scope s22_1_0_0 m = PM.bnd (PM.ret (.bool false)) fun v => PM.ret (.ret v, m) := by kernel_rfl
theorem b22_1_0 : (blkS s22_1 0) = [s22_1_0_0] := by kernel_rfl
theorem b22_1_1 : (blkS s22_1 1) = [] := by kernel_rfl
noncomputable def s22_2 : Stmt := nthS (fdI 22).body 2
theorem n22_2 {k n : Nat} {m : Fm} : pex (C0 k) (n + 12) (fdI 22).scope s22_2 m = PM.bnd (PM.bnd (PM.lift (m "told")) enumOf) fun src => if (!(srcOk src (.Tuple [.Name "spot" ⟨109, 8, 109, 12⟩, .Name "name" ⟨109, 14, 109, 18⟩] 0 ⟨109, 8, 109, 18⟩))) = true then PM.fail else floop (passign (fdI 22).scope (.Tuple [.Name "spot" ⟨109, 8, 109, 12⟩, .Name "name" ⟨109, 14, 109, 18⟩] 0 ⟨109, 8, 109, 18⟩)) (fun m => pexs (C0 k) (n + 11) (fdI 22).scope (blkS s22_2 0) m) src wf0 0 m := by kernel_rfl
theorem a22_2 {m : Fm} {v0 v1 : PV} : passign (fdI 22).scope (.Tuple [.Name "spot" ⟨109, 8, 109, 12⟩, .Name "name" ⟨109, 14, 109, 18⟩] 0 ⟨109, 8, 109, 18⟩) (.tup [v0, v1]) m = some ((m.upd "spot" v0).upd "name" v1) := by kernel_rfl
noncomputable def s22_2_0_0 : Stmt := nthS (blkS s22_2 0) 0
theorem n22_2_0_0 {k n : Nat} {m : Fm} : pex (C0 k) (n + 12) (fdI 22).scope s22_2_0_0 m = PM.bnd (PM.bnd (PM.bnd (mcomp (PM.bnd (PM.bnd (PM.ret (.fn 128)) fun fv => PM.bnd (evL [(PM.bnd (PM.lift (m "table")) fun ov => PM.bnd (PM.lift (m "name")) fun iv => pitem ov iv)]) fun vs => papply (C0 k) fv vs) srcOf) (fun s => srcOk s (.Name "leaf" ⟨110, 21, 110, 25⟩)) (fun v m => some (m.upd "leaf" v)) (fun a => leafB a (fun m => PM.bnd (PM.bnd (PM.bnd (PM.bnd (PM.bnd (PM.lift (m "leaf")) fun ov => PM.bnd (PM.ret (.int 0)) fun iv => pitem ov iv) fun a => PM.bnd (PM.lift (m "table")) fun b => pcmp .In a b) asB) fun c => tbo .And c (PM.bnd (PM.bnd (PM.bnd (PM.lift (m "leaf")) fun ov => PM.bnd (PM.ret (.int 0)) fun iv => pitem ov iv) fun a => PM.bnd (PM.bnd (PM.lift (m "told")) fun ov => PM.bnd (PM.lift (m "spot")) fun k => sliceToK ov k) fun b => pcmp .NotIn a b) asB)) fun b => if b = true then PM.ret true else PM.ret false) (fun m => (PM.lift (m "leaf")))) (compFm ⟨.function, [(".0", .local), ("leaf", .local), ("spot", .free), ("table", .free), ("told", .free)], false, false, []⟩ m)) fun a => PM.bnd (PM.bnd (evL []) mkL) fun b => pcmp .NotEq a b) asB) fun c => if c = true then pexs (C0 k) (n + 11) (fdI 22).scope (blkS s22_2_0_0 0) m else pexs (C0 k) (n + 11) (fdI 22).scope (blkS s22_2_0_0 1) m := by kernel_rfl
noncomputable def s22_2_0_0_0_0 : Stmt := nthS (blkS s22_2_0_0 0) 0
theorem n22_2_0_0_0_0 {k n : Nat} {m : Fm} : pex (C0 k) (n + 12) (fdI 22).scope s22_2_0_0_0_0 m = PM.bnd (PM.ret (.bool false)) fun v => PM.ret (.ret v, m) := by kernel_rfl
theorem b22_2_0_0_0 : (blkS s22_2_0_0 0) = [s22_2_0_0_0_0] := by kernel_rfl
theorem b22_2_0_0_1 : (blkS s22_2_0_0 1) = [] := by kernel_rfl
theorem b22_2_0 : (blkS s22_2 0) = [s22_2_0_0] := by kernel_rfl
noncomputable def s22_3 : Stmt := nthS (fdI 22).body 3
theorem n22_3 {k n : Nat} {m : Fm} : pex (C0 k) (n + 12) (fdI 22).scope s22_3 m = PM.bnd (PM.bnd (PM.bnd (PM.ret (.fn 108)) fun fv => PM.bnd (evL [(PM.lift (m "table"))]) fun vs => papply (C0 k) fv vs) fun a => PM.bnd (PM.lift (m "wholes")) fun b => pcmp .Eq a b) fun v => PM.ret (.ret v, m) := by kernel_rfl
theorem b22 : (fdI 22).body = [s22_0, s22_1, s22_2, s22_3] := by kernel_rfl
theorem p22_0 {v0 v1 : PV} : bindAll (fun _ => none) (fdI 22).params [v0, v1] "table" = some v0 := by kernel_rfl
theorem p22_1 {v0 v1 : PV} : bindAll (fun _ => none) (fdI 22).params [v0, v1] "wholes" = some v1 := by kernel_rfl
noncomputable def s23_0 : Stmt := nthS (fdI 23).body 0
noncomputable def s23_1 : Stmt := nthS (fdI 23).body 1
theorem n23_1 {k n : Nat} {m : Fm} : pex (C0 k) (n + 12) (fdI 23).scope s23_1 m = PM.bnd (PM.bnd (evL [(PM.bnd (PM.ret (.int 1)) fun a => PM.bnd (PM.bnd (PM.ret (.fn 116)) fun fv => PM.bnd (evL [(PM.lift (m "board")), (PM.ret (.int 6))]) fun vs => papply (C0 k) fv vs) fun b => pbin .Add a b), (PM.bnd (PM.ret (.fn 116)) fun fv => PM.bnd (evL [(PM.lift (m "board")), (PM.ret (.int 6))]) fun vs => papply (C0 k) fv vs)]) mkT) fun v => PM.bnd (PM.lift (passign (fdI 23).scope (.Tuple [.Name "many" ⟨115, 4, 115, 8⟩, .Name "turn" ⟨115, 10, 115, 14⟩] 0 ⟨115, 4, 115, 14⟩) v m)) fun m' => PM.ret (.next, m') := by kernel_rfl
theorem a23_1 {m : Fm} {v0 v1 : PV} : passign (fdI 23).scope (.Tuple [.Name "many" ⟨115, 4, 115, 8⟩, .Name "turn" ⟨115, 10, 115, 14⟩] 0 ⟨115, 4, 115, 14⟩) (.tup [v0, v1]) m = some ((m.upd "many" v0).upd "turn" v1) := by kernel_rfl
noncomputable def s23_2 : Stmt := nthS (fdI 23).body 2
theorem n23_2 {k n : Nat} {m : Fm} : pex (C0 k) (n + 12) (fdI 23).scope s23_2 m = PM.bnd (PM.bnd (PM.ret (.ty "list")) fun fv => PM.bnd (evL [(PM.bnd (PM.bnd (PM.ret (.tup [.str "?m", .str "?c", .str "?x", .str "?b", .str "?t", .str "?k"])) fun ov => PM.bnd (PM.lift (m "turn")) fun k => sliceFromK ov k) fun a => PM.bnd (PM.bnd (PM.ret (.tup [.str "?m", .str "?c", .str "?x", .str "?b", .str "?t", .str "?k"])) fun ov => PM.bnd (PM.lift (m "turn")) fun k => sliceToK ov k) fun b => pbin .Add a b)]) fun vs => papply (C0 k) fv vs) fun v => PM.ret (.next, m.upd "names" v) := by kernel_rfl
noncomputable def s23_3 : Stmt := nthS (fdI 23).body 3
theorem n23_3 {k n : Nat} {m : Fm} : pex (C0 k) (n + 12) (fdI 23).scope s23_3 m = PM.bnd (PM.bnd (PM.bnd (PM.bnd (PM.ret (.fn 116)) fun fv => PM.bnd (evL [(PM.lift (m "board")), (PM.ret (.int 2))]) fun vs => papply (C0 k) fv vs) fun a => PM.bnd (PM.ret (.int 1)) fun b => pcmp .Eq a b) asB) fun c => if c = true then pexs (C0 k) (n + 11) (fdI 23).scope (blkS s23_3 0) m else pexs (C0 k) (n + 11) (fdI 23).scope (blkS s23_3 1) m := by kernel_rfl
noncomputable def s23_3_0_0 : Stmt := nthS (blkS s23_3 0) 0
theorem n23_3_0_0 {k n : Nat} {m : Fm} : pex (C0 k) (n + 12) (fdI 23).scope s23_3_0_0 m = PM.bnd (PM.bnd (PM.lift (m "names")) fun ov => psliceRev ov) fun v => PM.ret (.next, m.upd "names" v) := by kernel_rfl
theorem b23_3_0 : (blkS s23_3 0) = [s23_3_0_0] := by kernel_rfl
theorem b23_3_1 : (blkS s23_3 1) = [] := by kernel_rfl
noncomputable def s23_4 : Stmt := nthS (fdI 23).body 4
theorem n23_4 {k n : Nat} {m : Fm} : pex (C0 k) (n + 12) (fdI 23).scope s23_4 m = PM.bnd (PM.bnd (PM.lift (m "names")) fun ov => PM.bnd (PM.lift (m "many")) fun k => sliceToK ov k) fun v => PM.ret (.next, m.upd "names" v) := by kernel_rfl
noncomputable def s23_5 : Stmt := nthS (fdI 23).body 5
theorem n23_5 {k n : Nat} {m : Fm} : pex (C0 k) (n + 12) (fdI 23).scope s23_5 m = PM.bnd (mcomp (PM.bnd (PM.lift (m "many")) rngK) (fun s => srcOk s (.Name "k" ⟨120, 43, 120, 44⟩)) (fun v m => some (m.upd "k" v)) (fun a => leafB a (fun m => PM.ret true) (fun m => (PM.bnd (PM.ret (.fn 123)) fun fv => PM.bnd (evL [(PM.lift (m "board")), (PM.bnd (PM.lift (m "names")) fun ov => PM.bnd (PM.lift (m "k")) fun k => sliceToK ov k)]) fun vs => papply (C0 k) fv vs))) (compFm ⟨.function, [(".0", .local), ("k", .local), ("_law_put", .globalImplicit), ("board", .free), ("names", .free)], false, false, []⟩ m)) fun v => PM.ret (.next, m.upd "puts" v) := by kernel_rfl
noncomputable def s23_6 : Stmt := nthS (fdI 23).body 6
theorem n23_6 {k n : Nat} {m : Fm} : pex (C0 k) (n + 12) (fdI 23).scope s23_6 m = PM.bnd (PM.bnd (PM.ret (.fn 116)) fun fv => PM.bnd (evL [(PM.lift (m "board")), (PM.lift (m "many"))]) fun vs => papply (C0 k) fv vs) fun v => PM.ret (.next, m.upd "spot" v) := by kernel_rfl
noncomputable def s23_7 : Stmt := nthS (fdI 23).body 7
theorem n23_7 {k n : Nat} {m : Fm} : pex (C0 k) (n + 12) (fdI 23).scope s23_7 m = PM.bnd (PM.bnd (PM.bnd (PM.bnd (PM.lift (m "names")) fun av => PM.bnd (PM.lift (m "puts")) fun bv => lzipK av bv) fun ov => PM.bnd (PM.lift (m "spot")) fun k => sliceFromK ov k) fun a => PM.bnd (PM.bnd (PM.bnd (PM.lift (m "names")) fun av => PM.bnd (PM.lift (m "puts")) fun bv => lzipK av bv) fun ov => PM.bnd (PM.lift (m "spot")) fun k => sliceToK ov k) fun b => pbin .Add a b) fun v => PM.ret (.next, m.upd "rows" v) := by kernel_rfl
noncomputable def s23_8 : Stmt := nthS (fdI 23).body 8
theorem n23_8 {k n : Nat} {m : Fm} : pex (C0 k) (n + 12) (fdI 23).scope s23_8 m = PM.bnd (PM.bnd (PM.ret (.ty "dict")) fun fv => PM.bnd (evL [(PM.lift (m "rows"))]) fun vs => papply (C0 k) fv vs) fun v => PM.ret (.next, m.upd "table" v) := by kernel_rfl
noncomputable def s23_9 : Stmt := nthS (fdI 23).body 9
theorem n23_9 {k n : Nat} {m : Fm} : pex (C0 k) (n + 12) (fdI 23).scope s23_9 m = PM.bnd (PM.bnd (PM.ret (.ty "dict")) fun fv => PM.bnd (evL [(mcomp (PM.bnd (PM.lift (m "names")) srcOf) (fun s => srcOk s (.Name "name" ⟨124, 58, 124, 62⟩)) (fun v m => some (m.upd "name" v)) (fun a => leafB a (fun m => PM.ret true) (fun m => (PM.bnd (evL [(PM.lift (m "name")), (PM.bnd (PM.ret (.fn 133)) fun fv => PM.bnd (evL [(PM.bnd (evL [(PM.lift (m "name"))]) mkT), (PM.lift (m "table"))]) fun vs => papply (C0 k) fv vs)]) mkT))) (compFm ⟨.function, [(".0", .local), ("name", .local), ("_law_whole", .globalImplicit), ("table", .free)], false, false, []⟩ m))]) fun vs => papply (C0 k) fv vs) fun v => PM.ret (.next, m.upd "wholes" v) := by kernel_rfl
noncomputable def s23_10 : Stmt := nthS (fdI 23).body 10
theorem n23_10 {k n : Nat} {m : Fm} : pex (C0 k) (n + 12) (fdI 23).scope s23_10 m = PM.bnd (PM.bnd (PM.bnd (PM.bnd (PM.ret (.fn 138)) fun fv => PM.bnd (evL [(PM.lift (m "table")), (PM.lift (m "wholes"))]) fun vs => papply (C0 k) fv vs) asB) fun b => PM.ret (!b)) fun c => if c = true then pexs (C0 k) (n + 11) (fdI 23).scope (blkS s23_10 0) m else pexs (C0 k) (n + 11) (fdI 23).scope (blkS s23_10 1) m := by kernel_rfl
noncomputable def s23_10_0_0 : Stmt := nthS (blkS s23_10 0) 0
theorem n23_10_0_0 {k n : Nat} {m : Fm} : pex (C0 k) (n + 12) (fdI 23).scope s23_10_0_0 m = PM.bnd (PM.ret (.bool false)) fun v => PM.ret (.ret v, m) := by kernel_rfl
theorem b23_10_0 : (blkS s23_10 0) = [s23_10_0_0] := by kernel_rfl
theorem b23_10_1 : (blkS s23_10 1) = [] := by kernel_rfl
noncomputable def s23_11 : Stmt := nthS (fdI 23).body 11
theorem n23_11 {k n : Nat} {m : Fm} : pex (C0 k) (n + 12) (fdI 23).scope s23_11 m = PM.bnd (PM.bnd (PM.ret (.fn 98)) fun fv => PM.bnd (evL [(PM.bnd (PM.bnd (evL [(PM.ret (.str "h"))]) mkT) fun a => PM.bnd (PM.bnd (PM.ret (.ty "tuple")) fun fv => PM.bnd (evL [(mcomp (PM.bnd (PM.lift (m "rows")) srcOf) (fun s => srcOk s (.Tuple [.Name "name" ⟨127, 45, 127, 49⟩, .Name "t" ⟨127, 51, 127, 52⟩] 0 ⟨127, 45, 127, 52⟩)) (passign ⟨.function, [(".0", .local), ("name", .local), ("t", .local)], false, false, []⟩ (.Tuple [.Name "name" ⟨127, 45, 127, 49⟩, .Name "t" ⟨127, 51, 127, 52⟩] 0 ⟨127, 45, 127, 52⟩)) (fun a => leafB a (fun m => PM.ret true) (fun m => (PM.bnd (evL [(PM.lift (m "name"))]) mkT))) (compFm ⟨.function, [(".0", .local), ("name", .local), ("t", .local)], false, false, []⟩ m))]) fun vs => papply (C0 k) fv vs) fun b => pbin .Add a b), (PM.bnd (PM.bnd (evL [(PM.ret (.str "h"))]) mkT) fun a => PM.bnd (PM.bnd (PM.ret (.ty "tuple")) fun fv => PM.bnd (evL [(mcomp (PM.bnd (PM.lift (m "rows")) srcOf) (fun s => srcOk s (.Tuple [.Name "name" ⟨127, 86, 127, 90⟩, .Name "t" ⟨127, 92, 127, 93⟩] 0 ⟨127, 86, 127, 93⟩)) (passign ⟨.function, [(".0", .local), ("name", .local), ("t", .local)], false, false, []⟩ (.Tuple [.Name "name" ⟨127, 86, 127, 90⟩, .Name "t" ⟨127, 92, 127, 93⟩] 0 ⟨127, 86, 127, 93⟩)) (fun a => leafB a (fun m => PM.ret true) (fun m => (PM.lift (m "t")))) (compFm ⟨.function, [(".0", .local), ("name", .local), ("t", .local)], false, false, []⟩ m))]) fun vs => papply (C0 k) fv vs) fun b => pbin .Add a b)]) fun vs => papply (C0 k) fv vs) fun v => PM.ret (.next, m.upd "made" v) := by kernel_rfl
noncomputable def s23_12 : Stmt := nthS (fdI 23).body 12
theorem n23_12 {k n : Nat} {m : Fm} : pex (C0 k) (n + 12) (fdI 23).scope s23_12 m = PM.bnd (PM.bnd (PM.bnd (PM.lift (m "made")) fun a => PM.bnd (PM.ret .none) fun b => pcmp .IsNot a b) fun v => pbo .And v (PM.bnd (PM.ret (.fn 138)) fun fv => PM.bnd (evL [(PM.lift (m "made")), (PM.lift (m "wholes"))]) fun vs => papply (C0 k) fv vs)) fun v => PM.ret (.ret v, m) := by kernel_rfl
theorem b23 : (fdI 23).body = [s23_0, s23_1, s23_2, s23_3, s23_4, s23_5, s23_6, s23_7, s23_8, s23_9, s23_10, s23_11, s23_12] := by kernel_rfl
theorem p23_0 {v0 : PV} : bindAll (fun _ => none) (fdI 23).params [v0] "script" = some v0 := by kernel_rfl
end Mine.Internal
end

section
open PySem
namespace Mine.Internal
theorem St.lt {S : St} {n : Nat} {o : PO} (h : S[n]? = some o) : n < S.length := (List.getElem?_eq_some_iff.mp h).1
theorem St.set_self {S : St} {n : Nat} {o : PO} (h : n < S.length) : (S.set n o)[n]? = some o := by simp [h]
section
variable {α β : Type} {S : St}
theorem r_bnd {x : PM α} {f : α → PM β} {Q : β → St → Prop} (h : W x S fun a S' => W (f a) S' Q) : W (PM.bnd x f) S Q := W_bnd.mpr h
theorem r_ret {a : α} {Q : α → St → Prop} (h : Q a S) : W (PM.ret a) S Q := W_ret.mpr h
theorem r_var {o : Option α} {a : α} {Q : α → St → Prop} (e : o = some a) (h : Q a S) : W (PM.lift o) S Q := by rw [e]; exact W_lift.mpr h
theorem r_iteT {x y : PM α} {Q : α → St → Prop} (h : W x S Q) : W (if true = true then x else y) S Q := h
theorem r_iteF {x y : PM α} {Q : α → St → Prop} (h : W y S Q) : W (if false = true then x else y) S Q := h
theorem r_pos {c : Prop} [Decidable c] {x y : PM α} {Q : α → St → Prop} (e : c) (h : W x S Q) : W (if c then x else y) S Q := by rw [if_pos e]; exact h
end
section
variable {S : St} {Q : PV → St → Prop}
theorem r_alloc {o : PO} (h : Q (.ref S.length) (S ++ [o])) : W (PM.alloc o) S Q := W_alloc.mpr h
theorem r_asB {b : Bool} {Q : Bool → St → Prop} (h : Q b S) : W (asB (.bool b)) S Q := W_ret.mpr h
theorem r_tAf {x : PM Bool} {Q : Bool → St → Prop} (h : Q false S) : W (tbo .And false x) S Q := W_ret.mpr h
theorem r_tAt {x : PM Bool} {Q : Bool → St → Prop} (h : W x S Q) : W (tbo .And true x) S Q := h
theorem r_tOt {x : PM Bool} {Q : Bool → St → Prop} (h : Q true S) : W (tbo .Or true x) S Q := W_ret.mpr h
theorem r_tOf {x : PM Bool} {Q : Bool → St → Prop} (h : W x S Q) : W (tbo .Or false x) S Q := h
theorem r_pAf {x : PM PV} (h : Q (.bool false) S) : W (pbo .And (.bool false) x) S Q := W_ret.mpr h
theorem r_pAt {x : PM PV} (h : W x S Q) : W (pbo .And (.bool true) x) S Q := h
theorem r_ev0 {Q : List PV → St → Prop} (h : Q [] S) : W (evL []) S Q := W_ret.mpr h
theorem r_ev1 {x : PM PV} {Q : List PV → St → Prop} (h : W x S fun a S1 => Q [a] S1) : W (evL [x]) S Q := W_bnd.mpr (W_mono h fun a S1 q => W_bnd.mpr (W_ret.mpr (W_ret.mpr q)))
theorem r_ev2 {x y : PM PV} {Q : List PV → St → Prop} (h : W x S fun a S1 => W y S1 fun b S2 => Q [a, b] S2) : W (evL [x, y]) S Q :=
  W_bnd.mpr (W_mono h fun a S1 q => W_bnd.mpr (r_ev1 (W_mono q fun b S2 q => W_ret.mpr q)))
theorem r_ev3 {x y z : PM PV} {Q : List PV → St → Prop} (h : W x S fun a S1 => W y S1 fun b S2 => W z S2 fun c S3 => Q [a, b, c] S3) : W (evL [x, y, z]) S Q :=
  W_bnd.mpr (W_mono h fun a S1 q => W_bnd.mpr (r_ev2 (W_mono q fun b S2 q => W_mono q fun c S3 q => W_ret.mpr q)))
theorem r_mkT1 {a : PV} (h : Q (.tup [a]) S) : W (mkT [a]) S Q := W_ret.mpr h
theorem r_mkT2 {a b : PV} (h : Q (.tup [a, b]) S) : W (mkT [a, b]) S Q := W_ret.mpr h
theorem r_mkT3 {a b c : PV} (h : Q (.tup [a, b, c]) S) : W (mkT [a, b, c]) S Q := W_ret.mpr h
theorem r_mkT0 (h : Q (.tup []) S) : W (mkT []) S Q := W_ret.mpr h
theorem r_mkL0 (h : Q (.ref S.length) (S ++ [.lst []])) : W (mkL []) S Q := W_alloc.mpr h
theorem r_mkL1 {a : PV} (h : Q (.ref S.length) (S ++ [.lst [a]])) : W (mkL [a]) S Q := W_alloc.mpr h
theorem r_mkL3 {a b c : PV} (h : Q (.ref S.length) (S ++ [.lst [a, b, c]])) : W (mkL [a, b, c]) S Q := W_alloc.mpr h
theorem r_sTo {o : PV} {k : Int} (h : W (psliceTo o k) S Q) : W (sliceToK o (.int k)) S Q := h
theorem r_sFrom {o : PV} {k : Int} (h : W (psliceFrom o k) S Q) : W (sliceFromK o (.int k)) S Q := h
theorem r_item0 {a : PV} {r : List PV} (h : Q a S) : W (pitem (.tup (a :: r)) (.int 0)) S Q := W_ret.mpr h
theorem r_itemD {n : Nat} {x : Str} {es : List (Str × PV)} {v : PV} (e : S[n]? = some (.dct es)) (e2 : dfind x es = some v) (h : Q v S) : W (pitem (.ref n) (.str x)) S Q := by
  rw [q_item_str]; exact W_bnd.mpr ((W_getD e).mpr (by rw [e2]; exact W_lift.mpr h))
theorem r_call {k a : Nat} {args : List PV} (h : W (cal k a args) S Q) : W (papply (C0 k) (.fn a) args) S Q := by rw [q_fn]; exact h
theorem r_lenL {C : Ctx} {n : Nat} {vs : List PV} (e : S[n]? = some (.lst vs)) (hl : vs.length ≤ 100000) (h : Q (.int vs.length) S) : W (papply C (.bi "len") [.ref n]) S Q := by
  rw [q_len_ref]; exact W_bnd.mpr ((W_getL e).mpr (by rw [if_pos hl]; exact W_ret.mpr h))
theorem r_lt {x y : Int} (h : Q (.bool (decide (x < y))) S) : W (pcmp .Lt (.int x) (.int y)) S Q := W_ret.mpr h
theorem r_gt {x y : Int} (h : Q (.bool (decide (y < x))) S) : W (pcmp .Gt (.int x) (.int y)) S Q := W_ret.mpr h
theorem r_eqI {x y : Int} (h : Q (.bool (x == y)) S) : W (pcmp .Eq (.int x) (.int y)) S Q := W_ret.mpr h
theorem r_neI {x y : Int} (h : Q (.bool (x != y)) S) : W (pcmp .NotEq (.int x) (.int y)) S Q := W_ret.mpr h
theorem r_eqS {x y : Str} (h : Q (.bool (x == y)) S) : W (pcmp .Eq (.str x) (.str y)) S Q := W_ret.mpr h
theorem r_neS {x y : Str} (h : Q (.bool (x != y)) S) : W (pcmp .NotEq (.str x) (.str y)) S Q := W_ret.mpr h
theorem r_setS {n : Nat} {x : Str} {v : PV} {es : List (Str × PV)} {Q : Unit → St → Prop} (e : S[n]? = some (.dct es)) (hl : es.length < lineLen) (h : Q () (S.set n (.dct (dput x v es)))) : W (psetitem (.ref n) (.str x) v) S Q := by
  rw [q_set_str]; exact W_bnd.mpr ((W_getD e).mpr (by rw [if_pos hl]; exact (W_put (St.lt e)).mpr h))
theorem r_add {x y : Int} (h1 : smallInt x = true) (h2 : smallInt y = true) (h : Q (.int (x + y)) S) : W (pbin .Add (.int x) (.int y)) S Q := by rw [q_add_int, h1, h2]; exact W_ret.mpr h
theorem r_mul {x y : Int} (h1 : smallInt x = true) (h2 : smallInt y = true) (h : Q (.int (x * y)) S) : W (pbin .Mult (.int x) (.int y)) S Q := by rw [q_mul_int, h1, h2]; exact W_ret.mpr h
theorem r_mod {x y : Int} (h1 : smallInt x = true) (h2 : smallInt y = true) (h3 : 0 < y) (h : Q (.int (x % y)) S) : W (pbin .Mod (.int x) (.int y)) S Q := by rw [q_mod_int, h1, h2, decide_eq_true h3]; exact W_ret.mpr h
theorem r_itemL {n : Nat} {i : Int} {vs : List PV} {v : PV} (e : S[n]? = some (.lst vs)) (h0 : 0 ≤ i) (h1 : smallInt i = true) (e2 : vs[i.toNat]? = some v) (h : Q v S) : W (pitem (.ref n) (.int i)) S Q := by
  rw [q_item_ref]; exact W_bnd.mpr ((W_getL e).mpr (by rw [h1, decide_eq_true h0, e2]; exact W_lift.mpr h))
theorem r_inD {x : Str} {j : Nat} {es : List (Str × PV)} (e : S[j]? = some (.dct es)) (h : Q (.bool (dfind x es).isSome) S) : W (pcmp .In (.str x) (.ref j)) S Q := by
  rw [q_in_str]; exact W_bnd.mpr ((W_getD e).mpr (W_ret.mpr h))
theorem r_notinD {x : Str} {j : Nat} {es : List (Str × PV)} (e : S[j]? = some (.dct es)) (h : Q (.bool (!(dfind x es).isSome)) S) : W (pcmp .NotIn (.str x) (.ref j)) S Q := by
  rw [q_notin_str]; exact W_bnd.mpr ((W_getO e).mpr (W_ret.mpr h))
theorem r_addT {xs ys : List PV} (hl : xs.length + ys.length ≤ lineLen) (h : Q (.tup (xs ++ ys)) S) : W (pbin .Add (.tup xs) (.tup ys)) S Q := by rw [q_add_tup, if_pos hl]; exact W_ret.mpr h
theorem r_preA {n : Nat} {vs : List PV} {Q : Unit → St → Prop} (e : S[n]? = some (.lst vs)) (h : Q () S) : W (pmethPre (.ref n) "append") S Q :=
  W_bnd.mpr ((W_getO e).mpr (W_ret.mpr h))
theorem r_preE {n : Nat} {vs : List PV} {Q : Unit → St → Prop} (e : S[n]? = some (.lst vs)) (h : Q () S) : W (pmethPre (.ref n) "extend") S Q :=
  W_bnd.mpr ((W_getO e).mpr (W_ret.mpr h))
theorem r_preP {n : Nat} {vs : List PV} {Q : Unit → St → Prop} (e : S[n]? = some (.lst vs)) (h : Q () S) : W (pmethPre (.ref n) "pop") S Q :=
  W_bnd.mpr ((W_getO e).mpr (W_ret.mpr h))
theorem r_preG {n : Nat} {es : List (Str × PV)} {Q : Unit → St → Prop} (e : S[n]? = some (.dct es)) (h : Q () S) : W (pmethPre (.ref n) "get") S Q :=
  W_bnd.mpr ((W_getO e).mpr (W_ret.mpr h))
theorem r_append {n : Nat} {v : PV} {vs : List PV} (e : S[n]? = some (.lst vs)) (hl : vs.length < lineLen) (h : Q .none (S.set n (.lst (vs ++ [v])))) : W (pmeth (.ref n) "append" [v]) S Q := by
  rw [q_append]; exact W_bnd.mpr ((W_getL e).mpr (by rw [if_pos hl]; exact W_bnd.mpr ((W_put (St.lt e)).mpr (W_ret.mpr h))))
theorem r_extend {n k : Nat} {vs us : List PV} (e : S[n]? = some (.lst vs)) (e2 : S[k]? = some (.lst us)) (hn : n ≠ k) (hl : vs.length + us.length ≤ lineLen) (h : Q .none (S.set n (.lst (vs ++ us)))) : W (pmeth (.ref n) "extend" [.ref k]) S Q := by
  have c : (n != k && decide (vs.length + us.length ≤ lineLen)) = true := by rw [decide_eq_true hl, Bool.and_true]; exact bne_iff_ne.mpr hn
  rw [q_extend]; exact W_bnd.mpr ((W_getL e).mpr (W_bnd.mpr ((W_getL e2).mpr (by rw [if_pos c]; exact W_bnd.mpr ((W_put (St.lt e)).mpr (W_ret.mpr h))))))
theorem r_pop {n : Nat} {vs : List PV} {v : PV} (e : S[n]? = some (.lst (vs ++ [v]))) (hl : (vs ++ [v]).length ≤ lineLen) (h : Q v (S.set n (.lst vs))) : W (pmeth (.ref n) "pop" []) S Q := by
  rw [q_pop]; refine W_bnd.mpr ((W_getL e).mpr ?_)
  rw [List.getLast?_concat, List.dropLast_concat]
  simp only [hl, if_true]
  exact W_bnd.mpr ((W_put (St.lt e)).mpr (W_ret.mpr h))
theorem r_get {n : Nat} {x : Str} {d : PV} {es : List (Str × PV)} (e : S[n]? = some (.dct es)) (h : Q ((dfind x es).getD d) S) : W (pmeth (.ref n) "get" [.str x, d]) S Q := by
  rw [q_get]; exact W_bnd.mpr ((W_getD e).mpr (W_ret.mpr h))
theorem r_exprK {m : Fm} {Q : PFlow × Fm → St → Prop} (h : Q (.next, m) S) : W (exprK m .none) S Q := W_ret.mpr h
theorem r_srcL {n : Nat} {vs : List PV} {Q : Src → St → Prop} (e : S[n]? = some (.lst vs)) (h : Q (.live n) S) : W (srcOf (.ref n)) S Q := W_bnd.mpr ((W_getL e).mpr (W_ret.mpr h))
theorem r_srcT {vs : List PV} {Q : Src → St → Prop} (hl : vs.length ≤ lineLen) (h : Q (.vals vs) S) : W (srcOf (.tup vs)) S Q := by
  show W (if vs.length ≤ lineLen then PM.ret (.vals vs) else PM.fail) S Q
  rw [if_pos hl]; exact W_ret.mpr h
theorem r_enumT {vs : List PV} {Q : Src → St → Prop} (hl : vs.length ≤ lineLen) (h : Q (.enumV vs) S) : W (enumOf (.tup vs)) S Q := by
  show W (if vs.length ≤ lineLen then PM.ret (.enumV vs) else PM.fail) S Q
  rw [if_pos hl]; exact W_ret.mpr h
theorem r_tuple {C : Ctx} {n : Nat} {vs : List PV} (e : S[n]? = some (.lst vs)) (hl : vs.length ≤ lineLen) (h : Q (.tup vs) S) : W (papply C (.ty "tuple") [.ref n]) S Q := by
  rw [q_tuple]; exact W_bnd.mpr ((W_getL e).mpr (by rw [if_pos hl]; exact W_ret.mpr h))
theorem r_lenT {C : Ctx} {vs : List PV} (hl : vs.length ≤ 100000) (h : Q (.int vs.length) S) : W (papply C (.bi "len") [.tup vs]) S Q := by
  rw [q_len_tup, if_pos hl]; exact W_ret.mpr h
end
inductive Tm where
  | lf (x : Str)
  | n1 (h : Str) (a : Tm)
  | n2 (h : Str) (a b : Tm)
namespace Tm
noncomputable def enc : Tm → PV
  | lf x => .tup [.str x]
  | n1 h a => .tup [.str h, enc a]
  | n2 h a b => .tup [.str h, enc a, enc b]
noncomputable def head : Tm → Str
  | lf x => x
  | n1 h _ => h
  | n2 h _ _ => h
noncomputable def kids : Tm → List Tm
  | lf _ => []
  | n1 _ a => [a]
  | n2 _ a b => [a, b]
noncomputable def depth : Tm → Nat
  | lf _ => 0
  | n1 _ a => a.depth + 1
  | n2 _ a b => max a.depth b.depth + 1
noncomputable def size : Tm → Nat
  | lf _ => 1
  | n1 _ a => a.size + 1
  | n2 _ a b => a.size + b.size + 1
noncomputable def par : Tm → List (List Int × Tm)
  | lf x => [([], lf x)]
  | n1 h a => ([], n1 h a) :: (par a).map fun p => (0 :: p.1, p.2)
  | n2 h a b => ([], n2 h a b) :: ((par a).map (fun p => (0 :: p.1, p.2)) ++ (par b).map fun p => (1 :: p.1, p.2))
theorem par_len : ∀ t : Tm, (par t).length = size t
  | lf _ => rfl
  | n1 h a => by simp [par, size, par_len a]
  | n2 h a b => by simp [par, size, par_len a, par_len b]
theorem par_path : ∀ (t : Tm) (p : List Int × Tm), p ∈ par t → p.1.length ≤ size t
  | lf x, p, h => by simp [par] at h; subst h; simp
  | n1 g a, p, h => by
    simp [par] at h
    rcases h with rfl | ⟨q, t, h, rfl⟩
    · simp
    · have := par_path a _ h; simp [size] at this ⊢; omega
  | n2 g a b, p, h => by
    simp [par] at h
    rcases h with rfl | ⟨q, t, h, rfl⟩ | ⟨q, t, h, rfl⟩
    · simp
    · have := par_path a _ h; simp [size] at this ⊢; exact om113 this
    · have := par_path b _ h; simp [size] at this ⊢; exact om114 this
theorem enc_eq (t : Tm) : t.enc = .tup (.str t.head :: t.kids.map enc) := by cases t <;> rfl
end Tm
noncomputable def encP (p : List Int × Tm) : PV := .tup [.tup (p.1.map .int), p.2.enc]


section
variable {S : St} {Q : PV → St → Prop}
theorem r_itemE {t : Tm} (h : Q (.str t.head) S) : W (pitem t.enc (.int 0)) S Q := by rw [t.enc_eq]; exact W_ret.mpr h
theorem r_fromE {t : Tm} (h : Q (.tup (t.kids.map Tm.enc)) S) : W (psliceFrom t.enc 1) S Q := by
  have hk2 : t.kids.length ≤ 2 := by cases t <;> simp [Tm.kids]
  rw [t.enc_eq, q_from_tup, if_pos (by simp [lineLen]; exact om19 hk2)]; exact W_ret.mpr h
theorem r_toE {t : Tm} (h : Q (.tup [.str t.head]) S) : W (psliceTo t.enc 1) S Q := by
  have hk2 : t.kids.length ≤ 2 := by cases t <;> simp [Tm.kids]
  rw [t.enc_eq, q_to_tup, if_pos (by simp [lineLen]; exact om19 hk2)]; exact W_ret.mpr h
theorem r_lenE {C : Ctx} {t : Tm} (h : Q (.int ((t.kids.length + 1 : Nat) : Int)) S) : W (papply C (.bi "len") [t.enc]) S Q := by
  have hk2 : t.kids.length ≤ 2 := by cases t <;> simp [Tm.kids]
  rw [t.enc_eq]
  refine r_lenT (by simp; exact om19 hk2) ?_
  simpa using h
end
end Mine.Internal
end

set_option compiler.extract_closed false in
open Mine.Internal in
local macro_rules | `(tactic| walk_at "W") => `(tactic| with_reducible repeat (first | apply r_bnd | apply r_ret | refine r_var (by first | assumption | exact upd_self | exact upd_ne (by kernel_rfl) ‹_› | exact upd_ne (by kernel_rfl) upd_self | exact upd_ne (by kernel_rfl) (upd_ne (by kernel_rfl) ‹_›)) ?_ | apply r_ev1 | apply r_ev2 | apply r_ev3 | apply r_ev0 | apply r_call | apply r_asB | apply r_iteT | apply r_iteF | apply r_tAf | apply r_tAt | apply r_tOt | apply r_tOf | apply r_pAf | apply r_pAt | apply r_mkT1 | apply r_mkT2 | apply r_mkT3 | apply r_mkT0 | apply r_mkL0 | apply r_mkL1 | apply r_mkL3 | apply r_alloc | apply r_sTo | apply r_sFrom | apply r_item0 | apply r_itemE | refine r_itemD ‹_› ‹_› ?_ | refine r_lenL ‹_› ‹_› ?_ | apply r_lt | apply r_gt | apply r_eqI | apply r_neI | apply r_eqS | apply r_neS | refine r_inD ‹_› ?_ | refine r_notinD ‹_› ?_ | refine r_add ‹_› ‹_› ?_ | refine r_mul ‹_› ‹_› ?_ | refine r_mod ‹_› ‹_› ‹_› ?_ | refine r_addT ‹_› ?_ | refine r_setS ‹_› ‹_› ?_ | refine r_itemL ‹_› ‹_› ‹_› ‹_› ?_ | refine r_preA ‹_› ?_ | refine r_preE ‹_› ?_ | refine r_preP ‹_› ?_ | refine r_preG ‹_› ?_ | refine r_append ‹_› ‹_› ?_ | refine r_extend ‹_› ‹_› ‹_› ‹_› ?_ | refine r_pop ‹_› ‹_› ?_ | refine r_get ‹_› ?_ | apply r_exprK | refine r_srcL ‹_› ?_ | refine r_tuple ‹_› ‹_› ?_))

section
open PySem
namespace Mine.Internal
/-- what stood in the store and is not own stands still -/
structure Kp (own : Nat → Prop) (S S' : St) : Prop where
  len : S.length ≤ S'.length
  keep : ∀ n o, S[n]? = some o → ¬ own n → S'[n]? = some o
noncomputable def no1 : Nat → Prop := fun _ => False
theorem Kp.refl (own : Nat → Prop) (S : St) : Kp own S S := ⟨Nat.le_refl _, fun _ _ h _ => h⟩
theorem Kp.fresh {own own' : Nat → Prop} {S S' S'' : St} (x : Kp own S S') (y : Kp own' S' S'') (h : ∀ n, own' n → own n ∨ S.length ≤ n) : Kp own S S'' :=
  ⟨Nat.le_trans x.len y.len, fun n o e hn => y.keep n o (x.keep n o e hn) fun q => (h n q).elim hn fun l => absurd (St.lt e) (Nat.not_lt.mpr l)⟩
theorem Kp.trans {own : Nat → Prop} {S S' S'' : St} (x : Kp own S S') (y : Kp own S' S'') : Kp own S S'' := x.fresh y fun _ q => .inl q
theorem Kp.weaken {own own' : Nat → Prop} {S S' : St} (x : Kp own S S') (h : ∀ n, own n → own' n) : Kp own' S S' := ⟨x.len, fun n o e hn => x.keep n o e fun q => hn (h n q)⟩
theorem Kp.no {own : Nat → Prop} {S S' : St} (x : Kp no1 S S') : Kp own S S' := x.weaken fun _ h => h.elim
theorem Kp.app (own : Nat → Prop) (S : St) (o : PO) : Kp own S (S ++ [o]) := ⟨by simp, fun n o' e _ => by rw [List.getElem?_append_left (St.lt e)]; exact e⟩
theorem Kp.set {own : Nat → Prop} {S : St} {n : Nat} (o : PO) (h : own n) : Kp own S (S.set n o) := ⟨by simp, fun k o' e hn => by
  rw [List.getElem?_set_ne (by rintro rfl; exact hn h)]; exact e⟩
theorem Kp.set_new {S S' : St} {n : Nat} {o : PO} (k : Kp no1 S S') (h : S.length ≤ n) : Kp no1 S (S'.set n o) := k.fresh (Kp.set (own := (· = n)) o rfl) fun m e => .inr (by rw [e]; exact h)
theorem St.app_self {S : St} {o : PO} : (S ++ [o])[S.length]? = some o := by simp

section
variable {assign : PV → Fm → Option Fm} {turn : Fm → PM Fm} {src : Src}
theorem cloop_rule {vals : List PV} (P : Nat → Fm → St → Prop) (hp : ∀ i m S, P i m S → pat src i S = some (vals[i]?, S))
    (ht : ∀ i v m S, vals[i]? = some v → P i m S → ∃ m1, assign v m = some m1 ∧ W (turn m1) S (fun m2 S' => P (i + 1) m2 S')) :
    ∀ (fuel i : Nat) (m : Fm) (S : St), vals.length < i + fuel → i ≤ vals.length → P i m S → W (cloop assign turn src fuel i m) S (fun m' S' => P vals.length m' S')
  | 0, i, m, S, h1, h2, _ => absurd h1 (by omega)
  | fuel + 1, i, m, S, h1, h2, h => by
    unfold cloop
    refine W_bind.mpr ⟨_, _, hp i m S h, ?_⟩
    cases hv : vals[i]? with
    | none =>
      have : i = vals.length := by have := List.getElem?_eq_none_iff.mp hv; exact om61 h2 this
      subst this
      exact W_ret.mpr h
    | some v =>
      have hi : i < vals.length := (List.getElem?_eq_some_iff.mp hv).1
      obtain ⟨m1, e1, w1⟩ := ht i v m S hv h
      refine W_bind.mpr ?_
      rw [e1]
      refine W_lift.mpr (W_bind.mpr (W_mono w1 fun m2 S' h' => ?_))
      exact cloop_rule P hp ht fuel (i + 1) m2 S' (by exact om22 h1) (by exact om5 hi) h'
end

/-- what a source tells -/
noncomputable def SrcIs (S : St) (src : Src) (vals : List PV) (acc : Nat) : Prop := src = .vals vals ∨ (∃ r, src = .live r ∧ S[r]? = some (.lst vals) ∧ r ≠ acc) ∨
  (src = .rng vals.length ∧ vals = (List.range vals.length).map fun i : Nat => PV.int (i : Int))

theorem SrcIs.pat {S S' : St} {src : Src} {vals : List PV} {acc : Nat} (x : SrcIs S src vals acc) (k : Kp (· = acc) S S') (i : Nat) : pat src i S' = some (vals[i]?, S') := by
  rcases x with rfl | ⟨r, rfl, e, hr⟩ | ⟨rfl, hv⟩
  · rfl
  · have e' := k.keep r _ e hr
    have e2 : PM.getL r S' = some (vals, S') := by unfold PM.getL; rw [e']
    have e3 : Mine.Internal.pat (.live r) i S' = PM.bnd (PM.getL r) (fun vs => PM.ret vs[i]?) S' := rfl
    rw [e3]; unfold PM.bnd; rw [e2]; rfl
  · show some (_, S') = _
    by_cases hi : i < vals.length
    · have : vals[i]? = some (PV.int (i : Int)) := by rw [hv]; simp [hi]
      rw [if_pos hi, this]
    · rw [if_neg hi, List.getElem?_eq_none_iff.mpr (by exact om18 hi)]


theorem flatMap_one {f : PV → List PV} : ∀ l : List PV, (∀ v ∈ l, (f v).length ≤ 1) → (l.flatMap f).length ≤ l.length
  | [], _ => Nat.le_refl _
  | x :: l, h => by
    have h1 := h x (List.mem_cons_self)
    have h2 := flatMap_one l fun v hv => h v (List.mem_cons_of_mem _ hv)
    rw [List.flatMap_cons, List.length_append, List.length_cons]; exact om196 h1 h2
theorem leaf_rule {vals : List PV} {f : PV → List PV} {out0 : List PV} {ks : List Str} {as : PV → Fm → Option Fm} {test : Fm → PM Bool} {elt : Fm → PM PV} {m0 base : Fm} {a : Nat} {src : Src} {S0 : St}
    (hs : SrcIs S0 src vals a) (ha : S0[a]? = some (.lst out0)) (hl : out0.length + vals.length < 90000) (hf : ∀ v ∈ vals, (f v).length ≤ 1) (h0 : ∀ x ∈ ks, m0 x = base x)
    (ht : ∀ v m S, v ∈ vals → (∀ x ∈ ks, m x = base x) → Kp (· = a) S0 S → ∃ m1, as v m = some m1 ∧ (∀ x ∈ ks, m1 x = base x) ∧
      W (test m1) S (fun ok S1 => Kp no1 S S1 ∧ if ok = true then W (elt m1) S1 (fun u S2 => Kp no1 S1 S2 ∧ f v = [u]) else f v = [])) :
    W (cloop as (leafB a test elt) src wf0 0 m0) S0 (fun m' S' => Kp (· = a) S0 S' ∧ S'[a]? = some (.lst (out0 ++ vals.flatMap f)) ∧ ∀ x ∈ ks, m' x = base x) := by
  have hw : vals.length < 0 + wf0 := by show _ < 0 + 100000; exact om197 hl
  refine W_mono (cloop_rule (vals := vals) (P := fun i m S => Kp (· = a) S0 S ∧ S[a]? = some (.lst (out0 ++ (vals.take i).flatMap f)) ∧ ∀ x ∈ ks, m x = base x)
    (fun i m S h => hs.pat h.1 i) (fun i v m S hv h => ?_) wf0 0 m0 S0 hw (Nat.zero_le _) ⟨.refl _ _, by simpa using ha, h0⟩) fun m' S' h => by rw [List.take_length] at h; exact h
  obtain ⟨h1, h2, h3⟩ := h
  have hi : i < vals.length := (List.getElem?_eq_some_iff.mp hv).1
  obtain ⟨m1, e1, k1, w⟩ := ht v m S (List.mem_of_getElem? hv) h3 h1
  have htk : (vals.take (i + 1)).flatMap f = (vals.take i).flatMap f ++ f v := by rw [List.take_add_one, hv, List.flatMap_append]; simp
  refine ⟨m1, e1, r_bnd (W_mono w fun ok S1 q => ?_)⟩
  obtain ⟨kp1, q⟩ := q
  rw [htk]
  cases ok with
  | false =>
    have q : f v = [] := q
    refine r_iteF (r_ret ⟨h1.trans kp1.no, ?_, k1⟩)
    rw [q, List.append_nil]
    exact kp1.keep _ _ h2 id
  | true =>
    have q : W (elt m1) S1 (fun u S2 => Kp no1 S1 S2 ∧ f v = [u]) := q
    refine r_iteT (r_bnd (W_mono q fun u S2 q2 => ?_))
    obtain ⟨kp2, q2⟩ := q2
    have ha2 := kp2.keep _ _ (kp1.keep _ _ h2 id) id
    have hlen : (out0 ++ (vals.take i).flatMap f).length < lineLen := by
      have := flatMap_one (vals.take i) fun v hv => hf v (List.mem_of_mem_take hv)
      rw [List.length_append]
      rw [List.length_take] at this
      show _ < 100000
      exact om198 hl this
    refine r_bnd ((W_getL ha2).mpr (r_pos hlen (r_bnd ((W_put (St.lt ha2)).mpr (r_ret ⟨?_, ?_, k1⟩)))))
    · exact (h1.trans (kp1.no.trans kp2.no)).trans (Kp.set _ rfl)
    · rw [St.set_self (St.lt ha2), q2, List.append_assoc]
theorem SrcIs.app {S1 : St} {src : Src} {vals : List PV} (h : ∀ a, S1[a]? = none → SrcIs S1 src vals a) (o : PO) : SrcIs (S1 ++ [o]) src vals S1.length := by
  rcases h S1.length (by simp) with q | ⟨r, q, e, hr⟩ | q
  · exact .inl q
  · exact .inr (.inl ⟨r, q, (Kp.app no1 S1 _).keep _ _ e id, hr⟩)
  · exact .inr (.inr q)
/-- a comprehension of one clause -/
theorem mcomp_rule {vals : List PV} {f : PV → List PV} (ks : List Str) {as : PV → Fm → Option Fm} {test : Fm → PM Bool} {elt : Fm → PM PV} {m0 : Fm} {src : PM Src} {ok : Src → Bool} {S : St} {Q : PV → St → Prop}
    (hl : vals.length < 90000) (hf : ∀ v ∈ vals, (f v).length ≤ 1)
    (hs : W src S (fun s S1 => Kp no1 S S1 ∧ (∀ a, S1[a]? = none → SrcIs S1 s vals a) ∧ ok s = true))
    (ht : ∀ v m1 S1, v ∈ vals → (∀ x ∈ ks, m1 x = m0 x) → Kp no1 S S1 → ∃ m2, as v m1 = some m2 ∧ (∀ x ∈ ks, m2 x = m0 x) ∧
      W (test m2) S1 (fun c S2 => Kp no1 S1 S2 ∧ if c = true then W (elt m2) S2 (fun u S3 => Kp no1 S2 S3 ∧ f v = [u]) else f v = []))
    (h : ∀ a S', Kp no1 S S' → S.length ≤ a → S'[a]? = some (.lst (vals.flatMap f)) → Q (.ref a) S') :
    W (mcomp src ok as (fun a => leafB a test elt) m0) S Q := by
  refine r_bnd (W_mono hs fun s S1 q => r_bnd (r_alloc ?_))
  obtain ⟨k1, hsrc, hok⟩ := q
  have hnok : ¬ (!(ok s)) = true := by rw [hok]; decide
  show W (if (!(ok s)) = true then PM.fail else _) _ _
  rw [if_neg hnok]
  have kA : Kp no1 S (S1 ++ [.lst []]) := k1.trans (Kp.app no1 S1 _)
  have hfr : ∀ n, n = S1.length → no1 n ∨ S.length ≤ n := fun n e => .inr (by rw [e]; exact k1.len)
  refine r_bnd (W_mono (leaf_rule (base := m0) (ks := ks) (f := f) (SrcIs.app hsrc _) St.app_self (by simpa using hl) hf (fun _ _ => rfl) fun v m1 S2 hv hm hk => ht v m1 S2 hv hm (kA.fresh hk hfr)) fun m' S' q => r_ret (h _ _ (kA.fresh q.1 hfr) k1.len q.2.1))
/-- what a live list is to a loop -/
theorem live_src {S1 : St} {n : Nat} {vals : List PV} (e : S1[n]? = some (.lst vals)) : ∀ a, S1[a]? = none → SrcIs S1 (.live n) vals a :=
  fun a ha => .inr (.inl ⟨n, rfl, e, fun q => by rw [q, ha] at e; cases e⟩)
/-- a for over what is told to an enumerate -/
theorem floop_done {as : PV → Fm → Option Fm} {bd : Fm → PM (PFlow × Fm)} {vs : List PV} {f i : Nat} {m : Fm} {S : St} {Q : PFlow × Fm → St → Prop} (h : vs.length ≤ i) : W (floop as bd (.enumV vs) (f + 1) i m) S Q ↔ Q (.next, m) S := by
  unfold floop
  have e : vs[i]? = none := List.getElem?_eq_none_iff.mpr h
  simp only [pat, e, Option.map_none]
  exact W_bind.trans (W_ret.trans W_ret)
theorem floop_turn {as : PV → Fm → Option Fm} {bd : Fm → PM (PFlow × Fm)} {vs : List PV} {v : PV} {f i : Nat} {m m1 : Fm} {S : St} {Q : PFlow × Fm → St → Prop} (h : vs[i]? = some v) (ha : as (.tup [.int i, v]) m = some m1)
    (hb : W (bd m1) S (fun r S' => r.1 = .next ∧ W (floop as bd (.enumV vs) f (i + 1) r.2) S' Q)) : W (floop as bd (.enumV vs) (f + 1) i m) S Q := by
  unfold floop
  simp only [pat, h, Option.map_some]
  refine W_bind.mpr (W_ret.mpr (W_bind.mpr ?_))
  simp only [ha]
  refine W_lift.mpr (W_bind.mpr (W_mono hb fun r S' q => ?_))
  obtain ⟨fl, m2⟩ := r
  obtain ⟨q1, q2⟩ := q
  simp only at q1 q2
  subst q1
  exact q2
end Mine.Internal
end

section
open PySem
namespace Mine.Internal
theorem r_headS {s : Str} {S : St} {Q : PV → St → Prop} (h : Q (.str (headStr s)) S) : W (psliceTo (.str s) 1) S Q := W_ret.mpr h
theorem is_variable_run {k : Nat} {x : Str} {kids : List PV} {S : St} {Q : PV → St → Prop} (hl : kids.length ≤ 1000) (h : Q (.bool (kids.isEmpty && (headStr x == ("?" : Str)))) S) : W (cal (k + 1) 62 [.tup (.str x :: kids)]) S Q := by
  refine call_run (i := 4) rfl rfl fun K0 hret _ => ?_
  have m0 := p4_0 (v0 := .tup (.str x :: kids))
  generalize bindAll _ _ _ = m at m0 ⊢
  rw [b4]
  refine pexs_step n4_0 fun K hK hR _ => ?_
  walk_at "W"
  refine r_lenT (by rw [List.length_cons]; exact om292 hl) ?_
  cases kids with
  | nil =>
    walk_at "W"
    show W (pbo .And (.bool true) _) S _
    walk_at "W"
    refine r_headS ?_
    walk_at "W"
    exact hR _ _ _ (hret _ _ _ h)
  | cons a r =>
    walk_at "W"
    have e : ((((PV.str x :: a :: r).length : Nat) : Int) == 1) = false := by
      rw [beq_eq_false_iff_ne, List.length_cons, List.length_cons]; exact om293
    rw [e]
    refine r_pAf ?_
    walk_at "W"
    exact hR _ _ _ (hret _ _ _ h)
noncomputable def pre (i : Int) : PV → List PV := fun v => match v with | .tup [.tup p, t] => [.tup [.tup (.int i :: p), t]] | _ => []
theorem pre_map {i : Int} : ∀ l : List (List Int × Tm), (l.map encP).flatMap (pre i) = (l.map fun p => (i :: p.1, p.2)).map encP
  | [] => rfl
  | (p, t) :: r => by
    rw [List.map_cons, List.flatMap_cons, pre_map r]; rfl
theorem pre_one (i : Int) (v : PV) : (pre i v).length ≤ 1 := by
  unfold pre; split
  · exact Nat.le_refl 1
  · exact Nat.zero_le 1
/-- one kid of parts' loop -/
theorem parts_kid {k i fn : Nat} {t : Tm} {l : List (List Int × Tm)} {m : Fm} {S : St} {Q : PFlow × Fm → St → Prop} (hi : t.size ≤ 1000) (hl : l.length ≤ 1000)
    (ih : ∀ (S : St) (Q : PV → St → Prop), (∀ n S', Kp no1 S S' → S.length ≤ n → S'[n]? = some (.lst (t.par.map encP)) → Q (.ref n) S') → W (cal k 72 [t.enc]) S Q)
    (m1 : m "found" = some (.ref fn)) (m2 : m "k" = some (.int i)) (m3 : m "kid" = some t.enc) (e : S[fn]? = some (.lst (l.map encP)))
    (h : ∀ S' : St, (∀ o, Kp (· = fn) S (S'.set fn o)) → fn < S'.length → Q (.next, m) (S'.set fn (.lst ((l ++ t.par.map fun p => ((i : Int) :: p.1, p.2)).map encP)))) :
    W (pexs (C0 k) 57 (fdI 6).scope (blkS s6_1 0) m) S Q := by
  rw [b6_1_0]
  refine pexs_step n6_1_0_0 fun K hK _ _ => ?_
  walk_at "W"
  refine mcomp_rule (vals := t.par.map encP) (f := pre i) ["k"] (by rw [List.length_map, Tm.par_len]; exact om294 hi) (fun v _ => pre_one i v) ?_ ?_ ?_
  · walk_at "W"
    refine ih _ _ fun n S' k1 hn e1 => ?_
    refine r_srcL e1 ⟨k1, live_src e1, rfl⟩
  · intro v m1 S1 hv hm _
    obtain ⟨⟨p, q⟩, hp, rfl⟩ := List.mem_map.mp hv
    have hk : m1 "k" = some (.int i) := (hm "k" (List.mem_singleton.mpr rfl)).trans m2
    refine ⟨(m1.upd "path" (.tup (p.map .int))).upd "part" q.enc, by kernel_rfl, ?_, ?_⟩
    · intro x hx
      rw [List.mem_singleton.mp hx]
      exact (upd_ne (by kernel_rfl) (upd_ne (by kernel_rfl) rfl)).trans (hm "k" (List.mem_singleton.mpr rfl))
    · have hp2 : p.length ≤ t.size := Tm.par_path t _ hp
      have hl2 : [PV.int i].length + (p.map PV.int).length ≤ lineLen := by rw [List.length_map]; show 1 + _ ≤ 100000; exact om295 hi hp2
      refine r_ret ⟨.refl _ _, ?_⟩
      rw [if_pos rfl]
      walk_at "W"
      exact ⟨.refl _ _, rfl⟩
  intro a S1 k1 hn e1
  rw [pre_map] at e1
  have f0 := k1.keep _ _ e id
  have g0 : fn ≠ a := Nat.ne_of_lt (Nat.lt_of_lt_of_le (St.lt e) hn)
  have v0 : (l.map encP).length + ((t.par.map fun p => ((i : Int) :: p.1, p.2)).map encP).length ≤ lineLen := by
    rw [List.length_map, List.length_map, List.length_map, Tm.par_len]; show _ ≤ 100000; exact om296 hi hl
  walk_at "W"
  rw [← List.map_append]
  refine hK _ _ (pexs_nil' (h S1 (fun o => k1.no.trans (Kp.set o rfl)) (St.lt f0)))
theorem parts_run : ∀ (t : Tm) (k : Nat) (S : St) (Q : PV → St → Prop), t.depth ≤ k → t.size ≤ 1000 →
    (∀ n S', Kp no1 S S' → S.length ≤ n → S'[n]? = some (.lst (t.par.map encP)) → Q (.ref n) S') → W (cal (k + 1) 72 [t.enc]) S Q
  | t, k, S, Q, hk, hz, h => by
    refine call_run (i := 6) rfl rfl fun K0 hret _ => ?_
    have m0 := p6_0 (v0 := t.enc)
    generalize bindAll _ _ _ = m at m0 ⊢
    rw [b6]
    refine pexs_step n6_0 fun K hK _ _ => ?_
    walk_at "W"
    refine hK _ _ ?_
    have m1 := upd_self (m := m) (x := "found") (v := .ref S.length)
    have m2 := upd_ne (m := m) (x := "found") (v := .ref S.length) (y := "t") (by kernel_rfl) m0
    generalize m.upd _ _ = m' at m1 m2 ⊢
    clear m0
    have k1 : Kp no1 S (S ++ [.lst [.tup [.tup [], t.enc]]]) := Kp.app _ _ _
    have e1 : (S ++ [.lst [.tup [.tup [], t.enc]]])[S.length]? = some (.lst ([([], t)].map encP)) := St.app_self
    generalize S ++ [.lst [.tup [.tup [], t.enc]]] = S1 at k1 e1 ⊢
    refine pexs_step n6_1 fun K hK _ _ => ?_
    walk_at "W"
    refine r_fromE (r_enumT (by have hk2 : t.kids.length ≤ 2 := by cases t <;> simp [Tm.kids]
                                rw [List.length_map]; show _ ≤ 100000; exact om3 hk2) ?_)
    refine r_iteF ?_
    rw [wf0_eq]
    have fin : ∀ m2 S2, m2 "found" = some (.ref S.length) → Kp no1 S S2 → S2[S.length]? = some (.lst (t.par.map encP)) → K (.next, m2) S2 := fun m2 S2 h1 h2 h3 => hK _ _ (by
      refine pexs_step n6_2 fun K hK hR _ => ?_
      walk_at "W"
      exact hR _ _ _ (hret _ _ _ (h _ _ h2 (Nat.le_refl _) h3)))
    have hfr : ∀ n, n = S.length → no1 n ∨ S.length ≤ n := fun n e => .inr (Nat.le_of_eq e.symm)
    match t, hk, hz, m2, e1, fin with
    | .lf x, hk, hz, m2, e1, fin => exact (floop_done (vs := []) (Nat.le_refl _)).mpr (fin _ _ m1 k1 e1)
    | .n1 g a, hk, hz, m2, e1, fin =>
      simp only [Tm.depth] at hk
      simp only [Tm.size] at hz
      obtain ⟨k, rfl⟩ : ∃ j, k = j + 1 := ⟨k - 1, by exact om20 hk⟩
      refine floop_turn (v := a.enc) rfl a6_1 ?_
      have m3 : ((m'.upd "k" (.int ((0 : Nat) : Int))).upd "kid" a.enc) "found" = some (.ref S.length) := upd_ne (by kernel_rfl) (upd_ne (by kernel_rfl) m1)
      refine parts_kid (i := 0) (by exact om90 hz) (by simp) (fun S Q q => parts_run a k S Q (by exact om4 hk) (by exact om90 hz) q) m3 (upd_ne (by kernel_rfl) upd_self) upd_self e1 fun S2 k2 l2 => ?_
      refine ⟨rfl, (floop_done (vs := [a.enc]) (Nat.le_refl 1)).mpr (fin _ _ m3 (k1.fresh (k2 _) hfr) ?_)⟩
      exact St.set_self l2
    | .n2 g a b, hk, hz, m2, e1, fin =>
      simp only [Tm.depth] at hk
      simp only [Tm.size] at hz
      obtain ⟨k, rfl⟩ : ∃ j, k = j + 1 := ⟨k - 1, by exact om297 hk⟩
      refine floop_turn (v := a.enc) rfl a6_1 ?_
      have m3 : ((m'.upd "k" (.int ((0 : Nat) : Int))).upd "kid" a.enc) "found" = some (.ref S.length) := upd_ne (by kernel_rfl) (upd_ne (by kernel_rfl) m1)
      refine parts_kid (i := 0) (by exact om91 hz) (by simp) (fun S Q q => parts_run a k S Q (by exact om298 hk) (by exact om91 hz) q) m3 (upd_ne (by kernel_rfl) upd_self) upd_self e1 fun S2 k2 l2 => ?_
      refine ⟨rfl, ?_⟩
      have k3 := k2 (.lst ((Tm.par a).map (fun p => (((0 : Nat) : Int) :: p.1, p.2)) |>.cons ([], Tm.n2 g a b) |>.map encP))
      have e3 := St.set_self (o := .lst ((Tm.par a).map (fun p => (((0 : Nat) : Int) :: p.1, p.2)) |>.cons ([], Tm.n2 g a b) |>.map encP)) l2
      show W (floop _ _ (.enumV [a.enc, b.enc]) _ 1 _) _ _
      refine floop_turn (v := b.enc) rfl a6_1 ?_
      have m4 : ((((m'.upd "k" (.int ((0 : Nat) : Int))).upd "kid" a.enc).upd "k" (.int ((1 : Nat) : Int))).upd "kid" b.enc) "found" = some (.ref S.length) := upd_ne (by kernel_rfl) (upd_ne (by kernel_rfl) m3)
      refine parts_kid (i := 1) (by exact om92 hz) (by simp [Tm.par_len]; exact om299 hz) (fun S Q q => parts_run b k S Q (by exact om300 hk) (by exact om92 hz) q) m4 (upd_ne (by kernel_rfl) upd_self) upd_self e3 fun S4 k4 l4 => ?_
      refine ⟨rfl, (floop_done (vs := [a.enc, b.enc]) (Nat.le_refl 2)).mpr (fin _ _ m4 (k1.fresh (k3.trans (k4 _)) hfr) ?_)⟩
      exact St.set_self l4
end Mine.Internal
end

section
open PySem
namespace Mine.Internal
noncomputable def isV (x : Str) : Bool := headStr x == ("?" : Str)
namespace Tm
noncomputable def isVar : Tm → Bool
  | lf x => isV x
  | _ => false
noncomputable def tv : Tm → List Str
  | lf x => if isV x = true then [x] else []
  | n1 _ a => tv a
  | n2 _ a b => tv a ++ tv b
noncomputable def v1 (t : Tm) : List Str := if t.isVar = true then [t.head] else []
theorem tv_par : ∀ t : Tm, (t.par.flatMap fun p => v1 p.2) = tv t
  | lf x => by
    have e : (par (lf x)) = [([], lf x)] := rfl
    rw [e, List.flatMap_cons, List.flatMap_nil, List.append_nil]; rfl
  | n1 g a => by
    have h := tv_par a
    have e : v1 (n1 g a) = [] := rfl
    simp only [par, List.flatMap_cons, e, List.nil_append, List.flatMap_map, tv]
    exact h
  | n2 g a b => by
    have h := tv_par a
    have h2 := tv_par b
    have e : v1 (n2 g a b) = [] := rfl
    simp only [par, List.flatMap_cons, e, List.nil_append, List.flatMap_append, List.flatMap_map, tv]
    rw [h, h2]
theorem tv_len : ∀ t : Tm, t.tv.length ≤ t.size
  | lf x => by simp only [tv, size]; split <;> simp
  | n1 g a => by have := tv_len a; simp only [tv, size]; exact om13 this
  | n2 g a b => by have := tv_len a; have := tv_len b; simp only [tv, size, List.length_append]; exact om93 ‹_› this
end Tm

theorem is_var_run {k : Nat} {t : Tm} {S : St} {Q : PV → St → Prop} (h : Q (.bool t.isVar) S) : W (cal (k + 1) 62 [t.enc]) S Q := by
  rw [t.enc_eq]
  refine is_variable_run (by cases t <;> simp [Tm.kids]) ?_
  have : ((t.kids.map Tm.enc).isEmpty && (headStr t.head == ("?" : Str))) = t.isVar := by cases t <;> simp [Tm.kids, Tm.isVar, Tm.head, isV]
  rw [this]; exact h
theorem eraseDups_len {l : List Str} : l.eraseDups.length ≤ l.length := by
  induction hn : l.length using Nat.strongRecOn generalizing l with
  | _ n ih =>
    cases l with
    | nil => simp at hn; subst hn; simp
    | cons x r =>
      rw [List.eraseDups_cons]
      simp only [List.length_cons] at hn ⊢
      have h1 : (r.filter fun y => !y == x).length ≤ r.length := List.length_filter_le ..
      have := ih (r.filter fun y => !y == x).length (by exact om301 hn h1) (l := r.filter fun y => !y == x) rfl
      exact om302 hn h1 this

theorem strsOf_map : ∀ l : List Str, strsOf? (l.map PV.str) = some l
  | [] => rfl
  | x :: r => by simp only [List.map_cons, strsOf?, strsOf_map r]; rfl
theorem Tm.enc_inj : ∀ {s t : Tm}, s.enc = t.enc → s = t
  | .lf _, .lf _, h => congrArg Tm.lf (PV.str.inj (List.cons.inj (PV.tup.inj h)).1)
  | .lf _, .n1 _ _, h => nomatch (List.cons.inj (PV.tup.inj h)).2
  | .lf _, .n2 _ _ _, h => nomatch (List.cons.inj (PV.tup.inj h)).2
  | .n1 _ _, .lf _, h => nomatch (List.cons.inj (PV.tup.inj h)).2
  | .n1 _ _, .n1 _ _, h => by
    have q := List.cons.inj (PV.tup.inj h)
    rw [PV.str.inj q.1, Tm.enc_inj (List.cons.inj q.2).1]
  | .n1 _ _, .n2 _ _ _, h => nomatch (List.cons.inj (List.cons.inj (PV.tup.inj h)).2).2
  | .n2 _ _ _, .lf _, h => nomatch (List.cons.inj (PV.tup.inj h)).2
  | .n2 _ _ _, .n1 _ _, h => nomatch (List.cons.inj (List.cons.inj (PV.tup.inj h)).2).2
  | .n2 _ _ _, .n2 _ _ _, h => by
    have q := List.cons.inj (PV.tup.inj h)
    have q2 := List.cons.inj q.2
    rw [PV.str.inj q.1, Tm.enc_inj q2.1, Tm.enc_inj (List.cons.inj q2.2).1]
theorem ints_inj : ∀ {a b : List Int}, a.map PV.int = b.map PV.int → a = b
  | [], [], _ => rfl
  | [], _ :: _, h => nomatch h
  | _ :: _, [], h => nomatch h
  | x :: r, y :: s, h => by
    have q := List.cons.inj h
    rw [PV.int.inj q.1, ints_inj q.2]
theorem encP_inj {p q : List Int × Tm} (h : encP p = encP q) : p = q := by
  have a := List.cons.inj (PV.tup.inj h)
  exact Prod.ext (ints_inj (PV.tup.inj a.1)) (Tm.enc_inj (List.cons.inj a.2).1)
section
variable {α : Type} {enc : α → PV} {g : α → List PV}
open Classical in
/-- what a coded thing is sent to, by the thing -/
noncomputable def onE (enc : α → PV) (g : α → List PV) (v : PV) : List PV := if h : ∃ t : α, enc t = v then g h.choose else []
theorem onE_enc (inj : ∀ {s t}, enc s = enc t → s = t) {t : α} : onE enc g (enc t) = g t := by
  unfold onE
  have h : ∃ s, enc s = enc t := ⟨t, rfl⟩
  rw [dif_pos h, inj h.choose_spec]
theorem onE_one (h : ∀ t, (g t).length ≤ 1) (v : PV) : (onE enc g v).length ≤ 1 := by
  unfold onE; split
  · exact h _
  · exact Nat.zero_le 1
end
noncomputable def vpart : PV → List PV := onE encP fun p => if p.2.isVar = true then [.str p.2.head] else []
theorem vpart_enc (p : List Int × Tm) : vpart (encP p) = if p.2.isVar = true then [.str p.2.head] else [] := onE_enc encP_inj
theorem vpart_v1 (p : List Int × Tm) : vpart (encP p) = (Tm.v1 p.2).map .str := by
  rw [vpart_enc]; unfold Tm.v1; split <;> rfl
theorem vpart_map (t : Tm) : (t.par.map encP).flatMap vpart = t.tv.map .str := by
  rw [← t.tv_par, List.flatMap_map, List.map_flatMap]
  congr 1
  funext p
  exact vpart_v1 p
theorem vpart_one (v : PV) : (vpart v).length ≤ 1 := onE_one (fun p => by
  split
  · exact Nat.le_refl 1
  · exact Nat.zero_le 1) v
theorem r_sset {n : Nat} {l : List Str} {S : St} {Q : PV → St → Prop} (e : S[n]? = some (.lst (l.map .str))) (h1 : l.length < 64) (h : Q (.ref S.length) (S ++ [.lst ((psort l.eraseDups).map .str)])) : W (ssetK (.ref n)) S Q := by
  refine r_bnd ((W_getL e).mpr ?_)
  rw [strsOf_map]
  exact r_bnd (W_lift.mpr (r_pos h1 (W_alloc.mpr h)))
theorem variables_run {t : Tm} {k : Nat} {S : St} {Q : PV → St → Prop} (hd : t.depth ≤ k) (hz : t.size < 64)
    (h : ∀ n S', Kp no1 S S' → S.length ≤ n → S'[n]? = some (.lst ((psort t.tv.eraseDups).map .str)) → Q (.ref n) S') : W (cal (k + 2) 67 [t.enc]) S Q := by
  refine call_run (i := 5) rfl rfl fun K0 hret _ => ?_
  have m0 := p5_0 (v0 := t.enc)
  generalize bindAll _ _ _ = m at m0 ⊢
  rw [b5]
  refine pexs_step n5_0 fun K hK hR _ => ?_
  walk_at "W"
  refine mcomp_rule (vals := t.par.map encP) (f := vpart) [] (by rw [List.length_map, Tm.par_len]; exact om303 hz) (fun v _ => vpart_one v) ?_ ?_ ?_
  · walk_at "W"
    refine parts_run t k _ _ hd (by exact om304 hz) fun n S' k1 hn e => ?_
    exact r_srcL e ⟨k1, live_src e, rfl⟩
  · intro v m1 S1 hv hm hk1
    obtain ⟨⟨p, q⟩, hp, rfl⟩ := List.mem_map.mp hv
    refine ⟨(m1.upd "path" (.tup (p.map .int))).upd "part" q.enc, by kernel_rfl, (fun x hx => by cases hx), ?_⟩
    walk_at "W"
    refine is_var_run ?_
    walk_at "W"
    rw [vpart_enc]
    cases hq : q.isVar with
    | true =>
      walk_at "W"
      refine ⟨.refl _ _, ?_⟩
      rw [if_pos rfl]
      walk_at "W"
      exact ⟨.refl _ _, rfl⟩
    | false =>
      walk_at "W"
      exact ⟨.refl _ _, rfl⟩
  intro a S1 k1 hn e
  rw [vpart_map] at e
  refine r_sset e (Nat.lt_of_le_of_lt t.tv_len hz) ?_
  walk_at "W"
  exact hR _ _ _ (hret _ _ _ (h _ _ (k1.trans (Kp.app _ _ _)) k1.len St.app_self))
end Mine.Internal
end

section
open PySem
namespace Mine.Internal
noncomputable abbrev boardL (c : Nat) (s : Int) : List (Str × PV) := [("cells", .ref c), ("spot", .int s)]
noncomputable abbrev boardO (c : Nat) (s : Int) : PO := .dct (boardL c s)
/-- the board -/
structure Board (S : St) (b c : Nat) (cells : List Int) (s : Nat) : Prop where
  b : S[b]? = some (boardO c s)
  c : S[c]? = some (.lst (cells.map .int))
  n : cells.length ≤ 40
  r : ∀ x ∈ cells, 0 ≤ x ∧ x < 1000003
  s : s ≤ 1000
theorem dget_spot {c : Nat} {s : Int} : dfind "spot" (boardL c s) = some (.int s) := by kernel_rfl
theorem dget_cells {c : Nat} {s : Int} : dfind "cells" (boardL c s) = some (.ref c) := by kernel_rfl
theorem dput_spot {c : Nat} {s t : Int} : dput "spot" (.int t) (boardL c s) = boardL c t := by kernel_rfl
theorem emod_nat {x : Int} {m : Nat} (h : 0 < m) : ∃ r : Nat, r < m ∧ x % m = r := by
  have e0 : 0 ≤ x % m := Int.emod_nonneg _ (by exact om305 h)
  have e1 : x % m < m := Int.emod_lt_of_pos _ (by exact om33 h)
  exact ⟨(x % m).toNat, by exact om306 e0 e1, by exact om307 e0⟩
theorem small_nat {n : Nat} (h : n < 10000000) : smallInt (n : Int) = true := decide_eq_true (by show n < 2 ^ 40; exact Nat.lt_trans h (by decide))
theorem peg_run {k b c many s : Nat} {cells : List Int} {S : St} {Q : PV → St → Prop} (B : Board S b c cells s) (hm : 0 < many) (hm2 : many ≤ 1000)
    (h : ∀ r : Nat, r < many → Q (.int r) (S.set b (boardO c ((s + 1 : Nat) : Int)))) : W (cal (k + 1) 116 [.ref b, .int many]) S Q := by
  refine call_run (i := 18) rfl rfl fun K0 hret _ => ?_
  have hb := B.b
  have hc := B.c
  have hbc : ¬ b = c := by rintro rfl; rw [hb] at hc; cases hc
  have hs := B.s
  have m0 := p18_0 (v0 := .ref b) (v1 := .int many)
  have m1 := p18_1 (v0 := .ref b) (v1 := .int many)
  generalize bindAll _ _ _ = m at m0 m1 ⊢
  rw [b18]
  have d0 := dget_spot (c := c) (s := s)
  refine pexs_step n18_0 fun K hK _ _ => ?_
  walk_at "W"
  refine hK _ _ ?_
  refine pexs_step n18_1 fun K hK _ _ => ?_
  have m2 := upd_self (m := m) (x := "spot") (v := .int s)
  have m3 := upd_ne (m := m) (x := "spot") (v := .int s) (y := "board") (by kernel_rfl) m0
  have m4 := upd_ne (m := m) (x := "spot") (v := .int s) (y := "many") (by kernel_rfl) m1
  generalize m.upd _ _ = m' at m2 m3 m4 ⊢
  clear m0 m1
  have hlen : (boardL c s).length < lineLen := by show 2 < 100000; decide
  have s0 := small_nat (n := s) (by exact om34 hs)
  have s1 : smallInt 1 = true := rfl
  walk_at "W"
  rw [dput_spot]
  refine hK _ _ ?_
  have e1 : ((s : Int) + 1) = ((s + 1 : Nat) : Int) := rfl
  rw [e1]
  have f0 := St.set_self (o := boardO c ((s + 1 : Nat) : Int)) (St.lt hb)
  have f1 : (S.set b (boardO c ((s + 1 : Nat) : Int)))[c]? = some (.lst (cells.map .int)) := by rw [List.getElem?_set_ne hbc]; exact hc
  generalize S.set b _ = S1 at f0 f1 h ⊢
  have hll : (cells.map PV.int).length = cells.length := List.length_map ..
  have hl : (cells.map PV.int).length ≤ 100000 := by have := B.n; exact om308 hll this
  have d1 := dget_cells (c := c) (s := ((s + 1 : Nat) : Int))
  refine pexs_step n18_2 fun K hK hR _ => W_if fun KT hT hF => ?_
  walk_at "W"
  rw [hll]
  by_cases hlt : s < cells.length
  · rw [decide_eq_true (Int.ofNat_lt.mpr hlt)]
    refine hT _ ?_
    rw [b18_2_0]
    refine pexs_step n18_2_0_0 fun K hK hR2 _ => ?_
    have hr := B.r cells[s] (List.getElem_mem hlt)
    have hx : (cells.map PV.int)[(s : Int).toNat]? = some (.int cells[s]) := by rw [Int.toNat_natCast, List.getElem?_map, List.getElem?_eq_getElem hlt]; rfl
    have c1 : smallInt cells[s] = true := decide_eq_true (by exact om309 hr)
    have c2 := small_nat (n := many) (by exact om34 hm2)
    have c3 : 0 < (many : Int) := by exact om33 hm
    have c4 : 0 ≤ (s : Int) := Int.natCast_nonneg s
    walk_at "W"
    obtain ⟨r, hr, e⟩ := emod_nat (x := cells[s]) hm
    rw [e]
    exact hR2 _ _ _ (hR _ _ _ (hret _ _ _ (h r hr)))
  · rw [decide_eq_false fun q => hlt (Int.ofNat_lt.mp q)]
    refine hF _ ?_
    rw [b18_2_1]
    refine pexs_nil' (hK _ _ ?_)
    refine pexs_step n18_3 fun K hK hR _ => ?_
    have hn := B.n
    have hsq : 2 * s * s ≤ 2 * 1000 * 1000 := Nat.mul_le_mul (Nat.mul_le_mul (Nat.le_refl 2) hs) hs
    have g1 : smallInt 2 = true := rfl
    have g2 : smallInt (2 * (s : Int)) = true := small_nat (n := 2 * s) (by exact om310 hs)
    have g3 : smallInt (2 * (s : Int) * s) = true := small_nat (n := 2 * s * s) (by exact om311 hsq)
    have g4 : smallInt 9 = true := rfl
    have g5 : smallInt (9 * (s : Int)) = true := small_nat (n := 9 * s) (by exact om312 hs)
    have g6 : smallInt (2 * (s : Int) * s + 9 * s) = true := small_nat (n := 2 * s * s + 9 * s) (by exact om313 hs hsq)
    have g7 : smallInt 4 = true := rfl
    have g8 : smallInt (4 * ((cells.map PV.int).length : Int)) = true := small_nat (n := 4 * (cells.map PV.int).length) (by exact om314 hl)
    have g9 : smallInt (2 * (s : Int) * s + 9 * s + 4 * ((cells.map PV.int).length : Int)) = true := small_nat (n := 2 * s * s + 9 * s + 4 * (cells.map PV.int).length) (by exact om315 hs hl hsq)
    have g10 : smallInt 5 = true := rfl
    have g11 : smallInt (2 * (s : Int) * s + 9 * s + 4 * ((cells.map PV.int).length : Int) + 5) = true := small_nat (n := 2 * s * s + 9 * s + 4 * (cells.map PV.int).length + 5) (by exact om316 hs hl hsq)
    have g12 : smallInt 59 = true := rfl
    have g13 : (0 : Int) < 59 := by decide
    have g14 : smallInt ((2 * (s : Int) * s + 9 * s + 4 * ((cells.map PV.int).length : Int) + 5) % 59) = true := small_nat (n := (2 * s * s + 9 * s + 4 * (cells.map PV.int).length + 5) % 59) (by exact om317)
    have g15 := small_nat (n := many) (by exact om34 hm2)
    have g16 : 0 < (many : Int) := by exact om33 hm
    have g17 := small_nat (n := (cells.map PV.int).length) (by exact om318 hl)
    walk_at "W"
    obtain ⟨r, hr, e⟩ := emod_nat (x := (2 * (s : Int) * s + 9 * s + 4 * ((cells.map PV.int).length : Int) + 5) % 59) hm
    rw [e]
    exact hR _ _ _ (hret _ _ _ (h r hr))
theorem Board.next {b c s : Nat} {cells : List Int} {S : St} (B : Board S b c cells s) (h : s < 1000) : Board (S.set b (boardO c ((s + 1 : Nat) : Int))) b c cells (s + 1) := by
  have hbc : ¬ b = c := by
    intro q
    have h1 := B.b
    have h2 := B.c
    rw [q, h2] at h1; cases h1
  exact ⟨St.set_self (St.lt B.b), by rw [List.getElem?_set_ne hbc]; exact B.c, B.n, B.r, h⟩
theorem Board.kp {b c s : Nat} {cells : List Int} {S S' : St} (B : Board S b c cells s) (k : Kp no1 S S') : Board S' b c cells s := ⟨k.keep _ _ B.b id, k.keep _ _ B.c id, B.n, B.r, B.s⟩
end Mine.Internal
end

section
open PySem
namespace Mine.Internal
noncomputable def onT (g : Tm → List PV) : PV → List PV := onE Tm.enc g
theorem onT_enc {g : Tm → List PV} {t : Tm} : onT g t.enc = g t := onE_enc Tm.enc_inj
theorem onT_len {g : Tm → List PV} (h : ∀ t, (g t).length ≤ 1) (v : PV) : (onT g v).length ≤ 1 := onE_one h v
theorem onT_map {g : Tm → PV} : ∀ l : List Tm, (l.map Tm.enc).flatMap (onT fun t => [g t]) = l.map g
  | [] => rfl
  | t :: r => by rw [List.map_cons, List.flatMap_cons, onT_enc, onT_map r]; rfl

noncomputable abbrev Tab := List (Str × Tm)
noncomputable def encT (es : Tab) : List (Str × PV) := es.map fun e => (e.1, e.2.enc)
noncomputable def look (x : Str) (es : Tab) : Option Tm := (es.find? fun e => decide (e.1 = x)).map (·.2)
theorem dfind_enc (x : Str) : ∀ es : Tab, dfind x (encT es) = (look x es).map Tm.enc
  | [] => rfl
  | (y, t) :: r => by
    have ih := dfind_enc x r
    unfold dfind look encT at *
    simp only [List.map_cons, List.find?_cons]
    by_cases h : y = x
    · simp [h]
    · simp only [h, decide_false]; exact ih
noncomputable def fil (es : Tab) : Tm → Tm
  | .lf x => if isV x = true then (look x es).getD (.lf x) else .lf x
  | .n1 h a => .n1 h (fil es a)
  | .n2 h a b => .n2 h (fil es a) (fil es b)

theorem Tm.kid_depth {t u : Tm} (h : u ∈ t.kids) : u.depth < t.depth := by
  cases t with
  | lf x => simp [Tm.kids] at h
  | n1 g a => simp [Tm.kids] at h; subst h; simp [Tm.depth]
  | n2 g a b =>
    simp [Tm.kids] at h
    rcases h with rfl | rfl
    · simp [Tm.depth]; exact om319
    · simp [Tm.depth]; exact om320
theorem fil_enc (es : Tab) (t : Tm) (h : t.isVar = false) : (fil es t).enc = .tup (.str t.head :: t.kids.map fun u => (fil es u).enc) := by
  cases t with
  | lf x =>
    have h : isV x = false := h
    simp [fil, h, Tm.enc, Tm.head, Tm.kids]
  | n1 g a => rfl
  | n2 g a b => rfl
theorem kids_two (t : Tm) : t.kids.length ≤ 2 := by cases t <;> simp [Tm.kids]
theorem onT_map' {g : Tm → PV} (l : List Tm) : (l.map Tm.enc).flatMap (onT fun t => [g t]) = l.map g := onT_map l
/-- a comprehension over a term's kids, each by a call -/
theorem kids_comp {k a n : Nat} {x : Str} {csc : Scope} {ps : Pos} {g : Tm → Tm} {t : Tm} {m : Fm} {S : St} {Q : PV → St → Prop} {src : PM Src} (hx : ("table" == x : Bool) = false)
    (hs : W src S (fun s S1 => S1 = S ∧ s = .vals (t.kids.map Tm.enc))) (hm : compFm csc m "table" = some (.ref n))
    (ih : ∀ u ∈ t.kids, ∀ (S1 : St) (Q : PV → St → Prop), Kp no1 S S1 → (∀ S', Kp no1 S1 S' → Q (g u).enc S') → W (cal k a [u.enc, .ref n]) S1 Q)
    (h : ∀ r S', Kp no1 S S' → S'[r]? = some (.lst (t.kids.map fun u => (g u).enc)) → Q (.ref r) S') :
    W (mcomp src (fun s => srcOk s (.Name x ps)) (fun v m => some (m.upd x v)) (fun a' => leafB a' (fun m => PM.ret true) (fun m => (PM.bnd (PM.ret (.fn a)) fun fv => PM.bnd (evL [(PM.lift (m x)), (PM.lift (m "table"))]) fun vs => papply (C0 k) fv vs))) (compFm csc m)) S Q := by
  have hk := kids_two t
  refine mcomp_rule (vals := t.kids.map Tm.enc) (f := onT fun u => [(g u).enc]) ["table"] (by rw [List.length_map]; exact om35 hk) (fun v _ => onT_len (fun _ => Nat.le_refl _) v) ?_ ?_ ?_
  · refine W_mono hs fun s S1 q => ?_
    obtain ⟨rfl, rfl⟩ := q
    exact ⟨.refl _ _, fun _ _ => .inl rfl, rfl⟩
  · intro v m1 S1 hv hm1 hk1
    obtain ⟨u, hu, rfl⟩ := List.mem_map.mp hv
    have h1 : m1 "table" = some (.ref n) := (hm1 "table" (List.mem_singleton.mpr rfl)).trans hm
    have h2 : (m1.upd x u.enc) "table" = some (.ref n) := upd_ne hx h1
    refine ⟨m1.upd x u.enc, rfl, ?_, r_ret ⟨.refl _ _, ?_⟩⟩
    · intro y hy
      rw [List.mem_singleton.mp hy]
      exact h2.trans hm.symm
    · rw [if_pos rfl]
      walk_at "W"
      refine ih u hu S1 _ hk1 fun S' k' => ⟨k', ?_⟩
      rw [onT_enc]
  · intro r S1 k1 _ e
    rw [onT_map] at e
    exact h r S1 k1 e
theorem filled_step (t : Tm) (k n : Nat) (es : Tab)
    (ih : ∀ u ∈ t.kids, ∀ (S : St) (Q : PV → St → Prop), S[n]? = some (.dct (encT es)) → (∀ S', Kp no1 S S' → Q (fil es u).enc S') → W (cal (k + 1) 77 [u.enc, .ref n]) S Q) :
    ∀ (S : St) (Q : PV → St → Prop), S[n]? = some (.dct (encT es)) → (∀ S', Kp no1 S S' → Q (fil es t).enc S') → W (cal (k + 2) 77 [t.enc, .ref n]) S Q := by
  intro S Q hn h
  refine call_run (i := 10) rfl rfl fun K0 hret _ => ?_
  have m0 := p10_0 (v0 := t.enc) (v1 := .ref n)
  have m1 := p10_1 (v0 := t.enc) (v1 := .ref n)
  generalize bindAll _ _ _ = m at m0 m1 ⊢
  rw [b10]
  refine pexs_step n10_0 fun K hK hR _ => W_if fun KT hT hF => ?_
  walk_at "W"
  refine is_var_run ?_
  walk_at "W"
  cases hv : t.isVar with
  | true =>
    obtain ⟨x, rfl⟩ : ∃ x, t = .lf x := by cases t <;> simp [Tm.isVar] at hv; exact ⟨_, rfl⟩
    refine hT _ ?_
    rw [b10_0_0]
    refine pexs_step n10_0_0_0 fun K' hK' hR' _ => ?_
    walk_at "W"
    refine hR' _ _ _ (hR _ _ _ (hret _ _ _ ?_))
    have := h S (.refl _ _)
    have hv' : isV x = true := hv
    simp only [fil, hv', if_true] at this
    rw [dfind_enc]
    show Q (((look x es).map Tm.enc).getD _) S
    cases hl : look x es with
    | none => rw [hl] at this; exact this
    | some u => rw [hl] at this; exact this
  | false =>
    rw [fil_enc es t hv] at h
    refine hF _ ?_
    rw [b10_0_1]
    refine pexs_nil' (hK _ _ ?_)
    refine pexs_step n10_1 fun K' hK' hR' _ => ?_
    walk_at "W"
    have hk := kids_two t
    refine kids_comp (g := fil es) (n := n) (t := t) (by kernel_rfl) ?_ m1 (fun u hu S1 Q hk1 q => ih u hu S1 Q (hk1.keep _ _ hn id) q) fun r S1 k1 e => ?_
    · walk_at "W"
      refine r_fromE (r_srcT (by rw [List.length_map]; show _ ≤ 100000; exact om3 hk) ⟨rfl, rfl⟩)
    · have hl1 : (t.kids.map fun u => (fil es u).enc).length ≤ lineLen := by rw [List.length_map]; show _ ≤ 100000; exact om3 hk
      have hl2 : [PV.str t.head].length + (t.kids.map fun u => (fil es u).enc).length ≤ lineLen := by rw [List.length_map]; show 1 + _ ≤ 100000; exact om94 hk
      walk_at "W"
      exact hR' _ _ _ (hret _ _ _ (h _ k1))
theorem filled_run : ∀ (k : Nat) (t : Tm) (n : Nat) (es : Tab) (S : St) (Q : PV → St → Prop), t.depth ≤ k → S[n]? = some (.dct (encT es)) → (∀ S', Kp no1 S S' → Q (fil es t).enc S') → W (cal (k + 2) 77 [t.enc, .ref n]) S Q
  | 0, t, n, es, S, Q, hd, hn, h => filled_step t 0 n es (fun u hu => absurd (Tm.kid_depth hu) (by exact om95 hd)) S Q hn h
  | k + 1, t, n, es, S, Q, hd, hn, h => filled_step t (k + 1) n es (fun u hu S Q hn h => filled_run k u n es S Q (by have := Tm.kid_depth hu; exact om96 hd this) hn h) S Q hn h
end Mine.Internal
end

section
open PySem
namespace Mine.Internal
noncomputable def wh (es : Tab) : Nat → Tm → Tm
  | 0, t => t
  | k + 1, t => match look t.head es with
    | some u => wh es k u
    | none => match t with
      | .lf x => .lf x
      | .n1 h a => .n1 h (wh es k a)
      | .n2 h a b => .n2 h (wh es k a) (wh es k b)
/-- enough steps -/
noncomputable def En (es : Tab) : Nat → Tm → Prop
  | 0, _ => False
  | k + 1, t => match look t.head es with
    | some u => En es k u
    | none => ∀ u ∈ t.kids, En es k u
theorem wh_some {es : Tab} {k : Nat} {t u : Tm} (h : look t.head es = some u) : wh es (k + 1) t = wh es k u := by simp only [wh, h]
theorem wh_none {es : Tab} {k : Nat} {t : Tm} (h : look t.head es = none) : (wh es (k + 1) t).enc = .tup (.str t.head :: t.kids.map fun u => (wh es k u).enc) := by
  simp only [wh, h]; cases t <;> rfl

theorem whole_run : ∀ (k : Nat) (t : Tm) (n : Nat) (es : Tab) (S : St) (Q : PV → St → Prop), En es k t → S[n]? = some (.dct (encT es)) → (∀ S', Kp no1 S S' → Q (wh es k t).enc S') → W (cal k 133 [t.enc, .ref n]) S Q
  | 0, t, n, es, S, Q, hd, hn, h => hd.elim
  | k + 1, t, n, es, S, Q, hd, hn, h => by
    refine call_run (i := 21) rfl rfl fun K0 hret _ => ?_
    have m0 := p21_0 (v0 := t.enc) (v1 := .ref n)
    have m1 := p21_1 (v0 := t.enc) (v1 := .ref n)
    generalize bindAll _ _ _ = m at m0 m1 ⊢
    rw [b21]
    refine pexs_step n21_0 fun K hK hR _ => W_if fun KT hT hF => ?_
    walk_at "W"
    have hd2 := dfind_enc t.head es
    cases hl : look t.head es with
    | some u =>
      rw [hl] at hd2
      have hd2 : dfind t.head (encT es) = some u.enc := hd2
      simp only [En, hl] at hd
      rw [wh_some hl] at h
      rw [hd2]
      refine hT _ ?_
      rw [b21_0_0]
      refine pexs_step n21_0_0_0 fun K' hK' hR' _ => ?_
      walk_at "W"
      refine whole_run k u n es S _ hd hn fun S' k' => ?_
      walk_at "W"
      exact hR' _ _ _ (hR _ _ _ (hret _ _ _ (h S' k')))
    | none =>
      rw [hl] at hd2
      have hd2 : dfind t.head (encT es) = none := hd2
      simp only [En, hl] at hd
      rw [wh_none hl] at h
      rw [hd2]
      refine hF _ ?_
      rw [b21_0_1]
      refine pexs_nil' (hK _ _ ?_)
      refine pexs_step n21_1 fun K' hK' hR' _ => ?_
      walk_at "W"
      refine r_toE ?_
      walk_at "W"
      have hk := kids_two t
      refine kids_comp (g := wh es k) (n := n) (t := t) (by kernel_rfl) ?_ m1 (fun u hu S1 Q hk1 q => whole_run k u n es S1 Q (hd u hu) (hk1.keep _ _ hn id) q) fun r S1 k1 e => ?_
      · walk_at "W"
        refine r_fromE (r_srcT (by rw [List.length_map]; show _ ≤ 100000; exact om3 hk) ⟨rfl, rfl⟩)
      · have hl1 : (t.kids.map fun u => (wh es k u).enc).length ≤ lineLen := by rw [List.length_map]; show _ ≤ 100000; exact om3 hk
        have hl2 : [PV.str t.head].length + (t.kids.map fun u => (wh es k u).enc).length ≤ lineLen := by rw [List.length_map]; show 1 + _ ≤ 100000; exact om94 hk
        walk_at "W"
        exact hR' _ _ _ (hret _ _ _ (h _ k1))
theorem flatMap_take {f : PV → List PV} (vals : List PV) (i : Nat) {v : PV} (hv : vals[i]? = some v) : ((vals.take i).flatMap f).length + (f v).length ≤ (vals.flatMap f).length := by
  have e : (vals.take (i + 1)).flatMap f ++ (vals.drop (i + 1)).flatMap f = vals.flatMap f := by rw [← List.flatMap_append, List.take_append_drop]
  have e2 : (vals.take (i + 1)).flatMap f = (vals.take i).flatMap f ++ f v := by rw [List.take_add_one, hv, List.flatMap_append]; simp
  have := congrArg List.length e
  rw [List.length_append, e2, List.length_append] at this
  exact om321 this
/-- a comprehension of two clauses -/
theorem mcomp2_rule {vals : List PV} {f : PV → List PV} {as as2 : PV → Fm → Option Fm} {elt : Fm → PM PV} {m0 : Fm} {src : PM Src} {src2 : Fm → PM Src} {ok ok2 : Src → Bool} {S : St} {Q : PV → St → Prop}
    (hl : (vals.flatMap f).length < 80000) (hl2 : vals.length < 90000)
    (hs : W src S (fun s S1 => Kp no1 S S1 ∧ (∀ a, S1[a]? = none → SrcIs S1 s vals a) ∧ ok s = true))
    (ht : ∀ v m S1 a, v ∈ vals → Kp no1 S S1 → a < S1.length → ∃ m1, as v m = some m1 ∧ W (src2 m1) S1 (fun s2 S2 => Kp no1 S1 S2 ∧ SrcIs S2 s2 (f v) a ∧ ok2 s2 = true) ∧
      ∀ u m S, u ∈ f v → ∃ m2, as2 u m = some m2 ∧ W (elt m2) S (fun w S' => S' = S ∧ w = u))
    (h : ∀ a S', Kp no1 S S' → S.length ≤ a → S'[a]? = some (.lst (vals.flatMap f)) → Q (.ref a) S') :
    W (mcomp src ok as (fun a => sndB (fun m => PM.ret true) src2 ok2 as2 (leafB a (fun m => PM.ret true) elt)) m0) S Q := by
  refine r_bnd (W_mono hs fun s S1 q => r_bnd (r_alloc ?_))
  obtain ⟨k1, hsrc, hok⟩ := q
  have hnok : ¬ (!(ok s)) = true := by rw [hok]; decide
  show W (if (!(ok s)) = true then PM.fail else _) _ _
  rw [if_neg hnok]
  have kA : Kp no1 S (S1 ++ [.lst []]) := k1.trans (Kp.app no1 S1 _)
  have hfr : ∀ n, n = S1.length → no1 n ∨ S.length ≤ n := fun n e => .inr (by rw [e]; exact k1.len)
  have hsi := SrcIs.app hsrc (.lst [])
  refine r_bnd (W_mono (cloop_rule (vals := vals) (P := fun i m S2 => Kp (· = S1.length) (S1 ++ [.lst []]) S2 ∧ S2[S1.length]? = some (.lst ((vals.take i).flatMap f)))
    (fun i m S h => hsi.pat h.1 i) (fun i v m S2 hv q => ?_) wf0 0 m0 _ (by show _ < 0 + 100000; exact om85 hl2) (Nat.zero_le _) ⟨.refl _ _, St.app_self⟩) fun m' S' q => r_ret (h _ _ (kA.fresh q.1 hfr) k1.len (by have := q.2; rw [List.take_length] at this; exact this)))
  obtain ⟨h1, h2⟩ := q
  have hlen := flatMap_take (f := f) vals i hv
  obtain ⟨m1, e1, w, hu⟩ := ht v m S2 S1.length (List.mem_of_getElem? hv) (kA.fresh h1 hfr) (St.lt h2)
  refine ⟨m1, e1, r_bnd (r_ret (r_iteT (r_bnd (W_mono w fun s2 S3 q => ?_))))⟩
  obtain ⟨k3, hs2, hok2⟩ := q
  have hnok2 : ¬ (!(ok2 s2)) = true := by rw [hok2]; decide
  rw [if_neg hnok2]
  refine W_mono (leaf_rule (base := m1) (ks := []) (f := fun u => [u]) hs2 (k3.keep _ _ h2 id) (by exact om322 hl hlen) (fun _ _ => Nat.le_refl _) (fun x hx => by cases hx) fun u m S4 hu1 _ hk => ?_) fun m' S' q => ⟨(h1.trans k3.no).trans q.1, ?_⟩
  · obtain ⟨m2, e2, w2⟩ := hu u m S4 hu1
    refine ⟨m2, e2, (fun x hx => by cases hx), r_ret ⟨.refl _ _, ?_⟩⟩
    rw [if_pos rfl]
    refine W_mono w2 fun w S' q => ?_
    obtain ⟨rfl, rfl⟩ := q
    exact ⟨.refl _ _, rfl⟩
  · have e2 : (vals.take (i + 1)).flatMap f = (vals.take i).flatMap f ++ f v := by rw [List.take_add_one, hv, List.flatMap_append]; simp
    have e3 : (f v).flatMap (fun u => [u]) = f v := by induction f v with | nil => rfl | cons a r ih => rw [List.flatMap_cons, ih]; rfl
    rw [q.2.1, e2, e3]
noncomputable def Tm.lvs : Tm → List Tm
  | lf x => [lf x]
  | n1 _ a => lvs a
  | n2 _ a b => lvs a ++ lvs b
theorem Tm.lvs_len : ∀ t : Tm, t.lvs.length ≤ t.size
  | lf x => by simp [lvs, size]
  | n1 _ a => by have := lvs_len a; simp only [lvs, size]; exact om13 this
  | n2 _ a b => by have := lvs_len a; have := lvs_len b; simp only [lvs, size, List.length_append]; exact om93 ‹_› this
theorem lvs_kids {t : Tm} (h : t.kids ≠ []) : (t.kids.map Tm.enc).flatMap (onT fun u => u.lvs.map Tm.enc) = t.lvs.map Tm.enc := by
  cases t with
  | lf x => exact absurd rfl h
  | n1 g a => simp [Tm.kids, Tm.lvs, onT_enc]
  | n2 g a b => simp [Tm.kids, Tm.lvs, onT_enc]
theorem Tm.kid_size {t u : Tm} (h : u ∈ t.kids) : u.size ≤ t.size := by
  cases t with
  | lf x => simp [kids] at h
  | n1 g a => simp [kids] at h; subst h; simp [size]
  | n2 g a b => simp [kids] at h; rcases h with rfl | rfl <;> simp [size] <;> (first | exact om323 | exact om324)
theorem leaves_step (t : Tm) (k : Nat) (hz : t.size ≤ 1000)
    (ih : ∀ u ∈ t.kids, ∀ (S : St) (Q : PV → St → Prop), (∀ n S', Kp no1 S S' → S.length ≤ n → S'[n]? = some (.lst (u.lvs.map Tm.enc)) → Q (.ref n) S') → W (cal k 128 [u.enc]) S Q) :
    ∀ (S : St) (Q : PV → St → Prop), (∀ n S', Kp no1 S S' → S.length ≤ n → S'[n]? = some (.lst (t.lvs.map Tm.enc)) → Q (.ref n) S') → W (cal (k + 1) 128 [t.enc]) S Q := by
  intro S Q h
  refine call_run (i := 20) rfl rfl fun K0 hret _ => ?_
  have m0 := p20_0 (v0 := t.enc)
  generalize bindAll _ _ _ = m at m0 ⊢
  rw [b20]
  refine pexs_step n20_0 fun K hK hR _ => ?_
  walk_at "W"
  refine r_lenE ?_
  walk_at "W"
  by_cases hk : t.kids = []
  · obtain ⟨x, rfl⟩ : ∃ x, t = .lf x := by cases t <;> simp [Tm.kids] at hk; exact ⟨_, rfl⟩
    refine r_iteT ?_
    walk_at "W"
    exact hR _ _ _ (hret _ _ _ (h _ _ (Kp.app _ _ _) (Nat.le_refl _) St.app_self))
  · have e2 : (((t.kids.length + 1 : Nat) : Int) == 1) = false := by
      have : t.kids.length ≠ 0 := fun q => hk (List.length_eq_zero_iff.mp q)
      rw [beq_eq_false_iff_ne]; exact om325 this
    rw [e2]
    refine r_iteF ?_
    have hk2 := kids_two t
    refine mcomp2_rule (vals := t.kids.map Tm.enc) (f := onT fun u => u.lvs.map Tm.enc) ?_ (by rw [List.length_map]; exact om35 hk2) ?_ ?_ ?_
    · rw [lvs_kids hk, List.length_map]; have := t.lvs_len; exact om326 hz this
    · walk_at "W"
      refine r_fromE (r_srcT (by rw [List.length_map]; show _ ≤ 100000; exact om3 hk2) ⟨.refl _ _, fun _ _ => .inl rfl, rfl⟩)
    · intro v m S1 a hv hk1 ha
      obtain ⟨u, hu, rfl⟩ := List.mem_map.mp hv
      refine ⟨m.upd "kid" u.enc, rfl, ?_, ?_⟩
      · walk_at "W"
        refine ih u hu S1 _ fun n S2 k2 hn e => ?_
        refine r_srcL e ⟨k2, .inr (.inl ⟨n, rfl, ?_, by exact om327 ha hn⟩), rfl⟩
        rw [onT_enc]; exact e
      · intro w m S hw
        refine ⟨m.upd "leaf" w, rfl, ?_⟩
        walk_at "W"
        exact ⟨rfl, rfl⟩
    · intro a S1 k1 ha e
      rw [lvs_kids hk] at e
      walk_at "W"
      exact hR _ _ _ (hret _ _ _ (h a S1 k1 ha e))
theorem leaves_run : ∀ (k : Nat) (t : Tm) (S : St) (Q : PV → St → Prop), t.depth ≤ k → t.size ≤ 1000 → (∀ n S', Kp no1 S S' → S.length ≤ n → S'[n]? = some (.lst (t.lvs.map Tm.enc)) → Q (.ref n) S') → W (cal (k + 1) 128 [t.enc]) S Q
  | 0, t, S, Q, hd, hz, h => leaves_step t 0 hz (fun u hu => absurd (Tm.kid_depth hu) (by exact om95 hd)) S Q h
  | k + 1, t, S, Q, hd, hz, h => leaves_step t (k + 1) hz (fun u hu S Q h => leaves_run k u S Q (by have := Tm.kid_depth hu; exact om96 hd this) (by have := Tm.kid_size hu; exact om328 hz this) h) S Q h
end Mine.Internal
end

section
open PySem
namespace Mine.Internal
/-- one turn of a while -/
theorem wloop_true {test : Fm → PM Bool} {body : Fm → PM (PFlow × Fm)} {f : Nat} {m : Fm} {S : St} {Q : PFlow × Fm → St → Prop}
    (h : W (test m) S (fun b S1 => b = true ∧ W (body m) S1 (fun r S2 => match r.1 with
      | .next => W (wloop test body f r.2) S2 Q
      | .cont => W (wloop test body f r.2) S2 Q
      | .brk => Q (.next, r.2) S2
      | .ret v => Q (.ret v, r.2) S2))) : W (wloop test body (f + 1) m) S Q := by
  unfold wloop
  refine W_bind.mpr (W_mono h fun b S1 q => ?_)
  obtain ⟨rfl, q⟩ := q
  rw [if_pos rfl]
  refine W_bind.mpr (W_mono q fun r S2 q => ?_)
  obtain ⟨fl, m2⟩ := r
  cases fl with
  | next => exact q
  | cont => exact q
  | brk => exact W_ret.mpr q
  | ret v => exact W_ret.mpr q
theorem wloop_false {test : Fm → PM Bool} {body : Fm → PM (PFlow × Fm)} {f : Nat} {m : Fm} {S : St} {Q : PFlow × Fm → St → Prop}
    (h : W (test m) S (fun b S1 => b = false ∧ Q (.next, m) S1)) : W (wloop test body (f + 1) m) S Q := by
  unfold wloop
  refine W_bind.mpr (W_mono h fun b S1 q => ?_)
  obtain ⟨rfl, q⟩ := q
  exact W_ret.mpr q

/-- followed: a variable that the table has stands for its put -/
noncomputable def fol (es : Tab) : Nat → Tm → Tm
  | 0, t => t
  | k + 1, t => if t.isVar = true then (match look t.head es with | some u => fol es k u | none => t) else t
noncomputable def FEn (es : Tab) : Nat → Tm → Prop
  | 0, _ => False
  | k + 1, t => t.isVar = true → ∀ u, look t.head es = some u → FEn es k u
theorem followed_loop {n : Nat} {es : Tab} {Q : PFlow × Fm → St → Prop} {test : Fm → PM Bool} {body : Fm → PM (PFlow × Fm)} {S : St} (hn : S[n]? = some (.dct (encT es)))
    (ht : ∀ (t : Tm) (m : Fm), m "pattern" = some t.enc → m "table" = some (.ref n) → W (test m) S (fun b S' => S' = S ∧ b = (t.isVar && (look t.head es).isSome)))
    (hb : ∀ (t u : Tm) (m : Fm), m "pattern" = some t.enc → m "table" = some (.ref n) → look t.head es = some u → W (body m) S (fun r S' => S' = S ∧ r.1 = .next ∧ r.2 "pattern" = some u.enc ∧ r.2 "table" = some (.ref n))) :
    ∀ (j f : Nat) (t : Tm) (m : Fm), FEn es j t → j ≤ f → m "pattern" = some t.enc → m "table" = some (.ref n) → (∀ m', m' "pattern" = some (fol es j t).enc → Q (.next, m') S) → W (wloop test body f m) S Q
  | 0, f, t, m, he, hf, h1, h2, h => he.elim
  | j + 1, f, t, m, he, hf, h1, h2, h => by
    obtain ⟨f, rfl⟩ : ∃ g, f = g + 1 := ⟨f - 1, by exact om20 hf⟩
    cases hv : t.isVar with
    | false =>
      refine wloop_false (W_mono (ht t m h1 h2) fun b S' q => ?_)
      obtain ⟨rfl, rfl⟩ := q
      simp only [fol, hv, Bool.false_eq_true, if_false] at h
      exact ⟨by simp [hv], h m h1⟩
    | true =>
      simp only [fol, hv, if_true] at h
      cases hl : look t.head es with
      | none =>
        rw [hl] at h
        refine wloop_false (W_mono (ht t m h1 h2) fun b S' q => ?_)
        obtain ⟨rfl, rfl⟩ := q
        exact ⟨by simp [hv, hl], h m h1⟩
      | some u =>
        rw [hl] at h
        refine wloop_true (W_mono (ht t m h1 h2) fun b S' q => ?_)
        obtain ⟨rfl, rfl⟩ := q
        refine ⟨by simp [hv, hl], W_mono (hb t u m h1 h2 hl) fun r S' q => ?_⟩
        obtain ⟨rfl, q1, q2, q3⟩ := q
        rw [q1]
        exact followed_loop hn ht hb j f u r.2 (he hv u hl) (by exact om4 hf) q2 q3 h
theorem followed_run {k n j : Nat} {es : Tab} {t : Tm} {S : St} {Q : PV → St → Prop} (hj : j ≤ 1000) (he : FEn es j t) (hn : S[n]? = some (.dct (encT es))) (h : Q (fol es j t).enc S) : W (cal (k + 2) 84 [t.enc, .ref n]) S Q := by
  refine call_run (i := 11) rfl rfl fun K0 hret _ => ?_
  have m0 := p11_0 (v0 := t.enc) (v1 := .ref n)
  have m1 := p11_1 (v0 := t.enc) (v1 := .ref n)
  generalize bindAll _ _ _ = m at m0 m1 ⊢
  rw [b11]
  refine pexs_step n11_0 fun K hK hR _ => ?_
  refine followed_loop hn ?_ ?_ j wf0 t m he (by show j ≤ 100000; exact om27 hj) m0 m1 fun m' hm => hK _ _ ?_
  · intro t m h1 h2
    walk_at "W"
    refine is_var_run ?_
    walk_at "W"
    cases hv : t.isVar with
    | false =>
      walk_at "W"
      exact ⟨rfl, rfl⟩
    | true =>
      walk_at "W"
      refine ⟨rfl, ?_⟩
      rw [dfind_enc, Option.isSome_map]; rfl
  · intro t u m h1 h2 hl
    have hd : dfind t.head (encT es) = some u.enc := by rw [dfind_enc, hl]; rfl
    rw [b11_0_0]
    refine pexs_step n11_0_0_0 fun K' hK' hR' _ => ?_
    walk_at "W"
    have h3 : (m.upd "pattern" u.enc) "table" = some (.ref n) := upd_ne (by kernel_rfl) h2
    have h4 : (m.upd "pattern" u.enc) "pattern" = some u.enc := upd_self
    exact hK' _ _ (pexs_nil' ⟨rfl, rfl, h4, h3⟩)
  · refine pexs_step n11_1 fun K' hK' hR' _ => ?_
    walk_at "W"
    exact hR' _ _ _ (hret _ _ _ h)
end Mine.Internal
end

section
open PySem
namespace Mine.Internal
theorem wloop_rule {test : Fm → PM Bool} {body : Fm → PM (PFlow × Fm)} {Q : PFlow × Fm → St → Prop} (P : Nat → Fm → St → Prop)
    (ht : ∀ j m S, P j m S → W (test m) S (fun b S1 => if b = true then W (body m) S1 (fun r S2 => (r.1 = .next ∨ r.1 = .cont) ∧ ∃ i, i < j ∧ P i r.2 S2) else Q (.next, m) S1)) :
    ∀ (f j : Nat) (m : Fm) (S : St), j < f → P j m S → W (wloop test body f m) S Q
  | 0, j, m, S, hf, h => absurd hf (Nat.not_lt_zero _)
  | f + 1, j, m, S, hf, h => by
    unfold wloop
    refine W_bind.mpr (W_mono (ht j m S h) fun b S1 q => ?_)
    cases b with
    | false => exact W_ret.mpr q
    | true =>
      simp only [if_true] at q ⊢
      refine W_bind.mpr (W_mono q fun r S2 q => ?_)
      obtain ⟨fl, m2⟩ := r
      obtain ⟨hfl, i, hi, hp⟩ := q
      rcases hfl with hfl | hfl
      · simp only at hfl; subst hfl
        exact wloop_rule P ht f i m2 S2 (by exact om25 hf hi) hp
      · simp only at hfl; subst hfl
        exact wloop_rule P ht f i m2 S2 (by exact om25 hf hi) hp
theorem floop_rule {as : PV → Fm → Option Fm} {bd : Fm → PM (PFlow × Fm)} {src : Src} {vals : List PV} {Q : PFlow × Fm → St → Prop} (P : Nat → Fm → St → Prop)
    (hp : ∀ i m S, P i m S → Mine.Internal.pat src i S = some (vals[i]?, S))
    (ht : ∀ i v m S, vals[i]? = some v → P i m S → ∃ m1, as v m = some m1 ∧ W (bd m1) S (fun r S' => (r.1 = .next ∨ r.1 = .cont) ∧ P (i + 1) r.2 S'))
    (hq : ∀ m S, P vals.length m S → Q (.next, m) S) :
    ∀ (fuel i : Nat) (m : Fm) (S : St), vals.length < i + fuel → i ≤ vals.length → P i m S → W (floop as bd src fuel i m) S Q
  | 0, i, m, S, h1, h2, _ => absurd h1 (by omega)
  | fuel + 1, i, m, S, h1, h2, h => by
    unfold floop
    refine W_bind.mpr ⟨_, _, hp i m S h, ?_⟩
    cases hv : vals[i]? with
    | none =>
      have : i = vals.length := by have := List.getElem?_eq_none_iff.mp hv; exact om61 h2 this
      subst this
      exact W_ret.mpr (hq m S h)
    | some v =>
      have hi : i < vals.length := (List.getElem?_eq_some_iff.mp hv).1
      obtain ⟨m1, e1, w1⟩ := ht i v m S hv h
      refine W_bind.mpr ?_
      rw [e1]
      refine W_lift.mpr (W_bind.mpr (W_mono w1 fun r S' q => ?_))
      obtain ⟨fl, m2⟩ := r
      obtain ⟨hfl, hp'⟩ := q
      rcases hfl with hfl | hfl
      · simp only at hfl; subst hfl
        exact floop_rule P hp ht hq fuel (i + 1) m2 S' (by exact om22 h1) (by exact om5 hi) hp'
      · simp only at hfl; subst hfl
        exact floop_rule P hp ht hq fuel (i + 1) m2 S' (by exact om22 h1) (by exact om5 hi) hp'

/-- a dict of names that are told -/
noncomputable def seenO (l : List Str) : PO := .dct (l.map fun x => (x, PV.bool true))
theorem dfind_seen (x : Str) : ∀ l : List Str, (dfind x (l.map fun x => (x, PV.bool true))).isSome = l.contains x
  | [] => rfl
  | y :: r => by
    have ih := dfind_seen x r
    unfold dfind at *
    simp only [List.map_cons, List.find?_cons, List.contains_cons]
    by_cases h : y = x
    · subst h; simp
    · have h2 : (x == y) = false := by rw [beq_eq_false_iff_ne]; exact fun q => h q.symm
      simp only [h, decide_false, h2, Bool.false_or]; exact ih
theorem dput_seen {x : Str} {l : List Str} (h : l.contains x = false) : dput x (.bool true) (l.map fun x => (x, PV.bool true)) = (l ++ [x]).map fun x => (x, PV.bool true) := by
  unfold dput
  have : (l.map fun x => (x, PV.bool true)).any (fun e => decide (e.1 = x)) = false := by
    rw [List.any_eq_false]
    intro e he q
    obtain ⟨y, hy, rfl⟩ := List.mem_map.mp he
    have : y = x := by simpa using q
    subst this
    have := List.contains_iff_mem.mpr hy
    rw [h] at this; cases this
  rw [if_neg (by rw [this]; decide)]
  simp
/-- the rows of the table whose names are not told yet -/
noncomputable def left (es : Tab) (l : List Str) : Nat := (es.filter fun e => !(l.contains e.1)).length
theorem left_less {es : Tab} {l : List Str} {x : Str} {u : Tm} (h : look x es = some u) (hn : l.contains x = false) : left es (l ++ [x]) < left es l := by
  unfold left
  unfold look at h
  obtain ⟨e, he, _⟩ := Option.map_eq_some_iff.mp h
  have hm := List.mem_of_find?_eq_some he
  have hx : e.1 = x := by have := List.find?_some he; simpa using this
  have sub : ∀ l' : Tab, (l'.filter fun e => !((l ++ [x]).contains e.1)).length ≤ (l'.filter fun e => !(l.contains e.1)).length := by
    intro l'
    induction l' with
    | nil => exact Nat.le_refl _
    | cons a r ih =>
      simp only [List.filter_cons]
      by_cases h1 : l.contains a.1 = true
      · have h2 : (l ++ [x]).contains a.1 = true := by
          rw [List.contains_iff_mem] at h1 ⊢; simp [h1]
        simp only [h1, h2, Bool.not_true, Bool.false_eq_true, if_false]; exact ih
      · simp only [Bool.not_eq_true] at h1
        simp only [h1, Bool.not_false, if_true]
        split <;> simp only [List.length_cons] <;> (first | exact om329 ih | exact om13 ih)
  obtain ⟨a, b, rfl⟩ := List.append_of_mem hm
  simp only [List.filter_append, List.filter_cons, List.length_append]
  have h1 := sub a
  have h2 := sub b
  have h3 : l.contains e.1 = false := by rw [hx]; exact hn
  have h4 : (l ++ [x]).contains e.1 = true := by rw [List.contains_iff_mem, hx]; simp
  simp only [h3, h4, Bool.not_true, Bool.not_false, Bool.false_eq_true, if_false, if_true, List.length_cons]
  exact om330 h1 h2
noncomputable def vars (t : Tm) : List Str := psort t.tv.eraseDups
theorem mem_vars {t : Tm} {x : Str} : x ∈ vars t ↔ x ∈ t.tv := by
  unfold vars psort
  rw [List.mem_mergeSort, List.mem_eraseDups]
theorem look_enc {x : Str} {es : Tab} : dfind x (encT es) = (look x es).map Tm.enc := dfind_enc x es
theorem look_mem {x : Str} {u : Tm} {es : Tab} (h : look x es = some u) : ∃ e ∈ es, e.2 = u ∧ e.1 = x := by
  unfold look at h
  obtain ⟨e, he, h2⟩ := Option.map_eq_some_iff.mp h
  exact ⟨e, List.mem_of_find?_eq_some he, h2, by have := List.find?_some he; simpa using this⟩
structure WI (name : Str) (n k : Nat) (es : Tab) (R : Str → Prop) (S0 : St) (w sn : Nat) (j : Nat) (m : Fm) (S : St) (Ws : List Tm) (l : List Str) : Prop where
  name : m "name" = some (.str name)
  table : m "table" = some (.ref n)
  waiting : m "waiting" = some (.ref w)
  seen : m "seen" = some (.ref sn)
  kp : Kp no1 S0 S
  ws : S[w]? = some (.lst (Ws.map Tm.enc))
  sl : S[sn]? = some (seenO l)
  ok : ∀ u ∈ Ws, u.depth ≤ k ∧ u.size < 64 ∧ ∀ x ∈ u.tv, R x
  j : Ws.length + left es l ≤ j
  ll : l.length + left es l ≤ 1000
theorem seen_none {x : Str} {l : List Str} (hc : l.contains x = false) : dfind x (l.map fun x => (x, PV.bool true)) = none := by
  have hdf := dfind_seen x l
  rw [hc] at hdf
  cases hq : dfind x (l.map fun x => (x, PV.bool true)) with
  | none => rfl
  | some z => rw [hq] at hdf; cases hdf
theorem seen_len (l : List Str) : (l.map fun x => (x, PV.bool true)).length = l.length := List.length_map ..
theorem vars_len {u : Tm} (h : u.size < 64) : (vars u).length ≤ 1000 := by
  have h1 := eraseDups_len (l := u.tv)
  have h2 := u.tv_len
  have h3 : (vars u).length = u.tv.eraseDups.length := List.length_mergeSort ..
  exact om331 h h1 h2 h3
/-- one name that is met on the way -/
theorem within_turn {name x : Str} {n k j r : Nat} {es : Tab} {R : Str → Prop} {S S2 : St} {m : Fm} {Ws : List Tm} {l : List Str} {rl : List PV} {Q : PFlow × Fm → St → Prop} (hd : ∀ e ∈ es, e.2.depth ≤ k ∧ e.2.size < 64)
    (hRs : ∀ x u, R x → look x es = some u → ∀ y ∈ u.tv, R y) (hname : ¬ R name) (hj : j ≤ 2000) (hn : S[n]? = some (.dct (encT es))) (hr : S.length + 2 ≤ r) (hx : R x)
    (I : WI name n k es R S S.length (S.length + 1) j m S2 Ws l) (e2 : S2[r]? = some (.lst rl)) (ml : m "late" = some (.str x))
    (h : ∀ S3 Ws3 l3, WI name n k es R S S.length (S.length + 1) j m S3 Ws3 l3 → S3[r]? = some (.lst rl) → Q (.next, m) S3) :
    W (pexs (C0 (k + 2)) 55 (fdI 12).scope (blkS s12_1_0_0 0) m) S2 Q := by
  have hne : (x == name) = false := by rw [beq_eq_false_iff_ne]; rintro rfl; exact hname hx
  have q1 := I.name
  have q2 := I.table
  have q3 := I.waiting
  have q4 := I.seen
  have T2 := I.kp.keep _ _ hn id
  have hdf := dfind_enc x es
  rw [b12_1_0_0_0]
  refine pexs_step n12_1_0_0_0_0 fun K hK _ _ => W_if fun KT hT hF => ?_
  walk_at "W"
  rw [hne]
  refine hF _ ?_
  rw [b12_1_0_0_0_0_1]
  refine pexs_nil' (hK _ _ ?_)
  refine pexs_step n12_1_0_0_0_1 fun K hK _ _ => W_if fun KT hT hF => ?_
  walk_at "W"
  rw [hdf]
  cases hl : look x es with
  | none =>
    refine r_tAf ?_
    refine hF _ ?_
    rw [b12_1_0_0_0_1_1]
    exact pexs_nil' (hK _ _ (pexs_nil' (h _ _ _ I e2)))
  | some y =>
    refine r_tAt ?_
    have hse : S2[S.length + 1]? = some (.dct (l.map fun x => (x, PV.bool true))) := I.sl
    walk_at "W"
    rw [dfind_seen]
    cases hc : l.contains x with
    | true =>
      refine hF _ ?_
      rw [b12_1_0_0_0_1_1]
      exact pexs_nil' (hK _ _ (pexs_nil' (h _ _ _ I e2)))
    | false =>
      refine hT _ ?_
      rw [b12_1_0_0_0_1_0]
      refine pexs_step n12_1_0_0_0_1_0_0 fun K' hK' _ _ => ?_
      have hll := I.ll
      have hjj := I.j
      have b1 : (l.map fun x => (x, PV.bool true)).length < lineLen := by rw [seen_len]; show _ < 100000; exact om97 hll
      have hnl := St.lt hn
      walk_at "W"
      rw [dput_seen hc]
      have A1 : (S2.set (S.length + 1) (seenO (l ++ [x])))[n]? = some (.dct (encT es)) := by rw [List.getElem?_set_ne (by exact om332 hnl)]; exact T2
      have A2 : (S2.set (S.length + 1) (seenO (l ++ [x])))[S.length]? = some (.lst (Ws.map Tm.enc)) := by rw [List.getElem?_set_ne (by exact om7)]; exact I.ws
      have A3 : (S2.set (S.length + 1) (seenO (l ++ [x])))[S.length + 1]? = some (seenO (l ++ [x])) := St.set_self (St.lt hse)
      have A4 : (S2.set (S.length + 1) (seenO (l ++ [x])))[r]? = some (.lst rl) := by rw [List.getElem?_set_ne (by exact om333 hr)]; exact e2
      have A5 : Kp no1 S (S2.set (S.length + 1) (seenO (l ++ [x]))) := I.kp.set_new (Nat.le_succ _)
      refine hK' _ _ ?_
      show W (pexs _ _ _ _ _) (S2.set (S.length + 1) (seenO (l ++ [x]))) _
      generalize List.set S2 (S.length + 1) _ = SA at A1 A2 A3 A4 A5 ⊢
      refine pexs_step n12_1_0_0_0_1_0_1 fun K' hK' _ _ => ?_
      rw [hl] at hdf
      have hdf : dfind x (encT es) = some y.enc := hdf
      have b2 : (Ws.map Tm.enc).length < lineLen := by rw [List.length_map]; show _ < 100000; exact om334 hj hjj
      walk_at "W"
      obtain ⟨e, he, he2, _⟩ := look_mem hl
      have hdy := hd e he
      rw [he2] at hdy
      have hlt := left_less hl hc
      refine hK' _ _ (pexs_nil' (hK _ _ (pexs_nil' (h _ (Ws ++ [y]) (l ++ [x]) ⟨q1, q2, q3, q4, A5.set_new (Nat.le_refl _), ?_, ?_, ?_, ?_, ?_⟩ ?_))))
      · rw [St.set_self (St.lt A2), List.map_append]; rfl
      · rw [List.getElem?_set_ne (Nat.ne_of_lt (Nat.lt_succ_self _))]; exact A3
      · intro u' hu'
        rcases List.mem_append.mp hu' with q | q
        · exact I.ok u' q
        · rw [List.mem_singleton.mp q]; exact ⟨hdy.1, hdy.2, hRs x y hx hl⟩
      · rw [List.length_append]; show _ + 1 + _ ≤ j; exact om335 hjj hlt
      · rw [List.length_append]; show _ + 1 + _ ≤ 1000; exact om98 hll hlt
      · rw [List.getElem?_set_ne (by exact om336 hr)]; exact A4
theorem WI.upd {name : Str} {n k : Nat} {es : Tab} {R : Str → Prop} {S0 : St} {w sn j : Nat} {m : Fm} {S : St} {Ws : List Tm} {l : List Str} (I : WI name n k es R S0 w sn j m S Ws l) (v : PV) : WI name n k es R S0 w sn j (m.upd "late" v) S Ws l :=
  { I with name := upd_ne (by kernel_rfl) I.name, table := upd_ne (by kernel_rfl) I.table, waiting := upd_ne (by kernel_rfl) I.waiting, seen := upd_ne (by kernel_rfl) I.seen }
theorem is_within_run {name : Str} {t : Tm} {es : Tab} {n k : Nat} {R : Str → Prop} {S : St} {Q : PV → St → Prop} (hd : ∀ e ∈ es, e.2.depth ≤ k ∧ e.2.size < 64) (htd : t.depth ≤ k ∧ t.size < 64)
    (hR0 : ∀ x ∈ t.tv, R x) (hRs : ∀ x u, R x → look x es = some u → ∀ y ∈ u.tv, R y) (hname : ¬ R name) (hlen : es.length ≤ 1000) (hn : S[n]? = some (.dct (encT es)))
    (h : ∀ S', Kp no1 S S' → Q (.bool false) S') : W (cal (k + 3) 91 [.str name, t.enc, .ref n]) S Q := by
  refine call_run (i := 12) rfl rfl fun K0 hret _ => ?_
  have m0 := p12_0 (v0 := .str name) (v1 := t.enc) (v2 := .ref n)
  have m1 := p12_1 (v0 := .str name) (v1 := t.enc) (v2 := .ref n)
  have m2 := p12_2 (v0 := .str name) (v1 := t.enc) (v2 := .ref n)
  generalize bindAll _ _ _ = m at m0 m1 m2 ⊢
  have hkl : left es [] ≤ 1000 := Nat.le_trans (List.length_filter_le ..) hlen
  rw [b12]
  refine pexs_step n12_0 fun K hK _ _ => ?_
  walk_at "W"
  refine r_var a12_0 ?_
  walk_at "W"
  refine hK _ _ ?_
  have el : (S ++ [PO.lst [t.enc]]).length = S.length + 1 := by rw [List.length_append]; rfl
  rw [el]
  have I0 : WI name n k es R S S.length (S.length + 1) (1 + left es []) ((m.upd "waiting" (.ref S.length)).upd "seen" (.ref (S.length + 1))) (S ++ [PO.lst [t.enc]] ++ [PO.dct []]) [t] [] :=
    ⟨upd_ne (by kernel_rfl) (upd_ne (by kernel_rfl) m0), upd_ne (by kernel_rfl) (upd_ne (by kernel_rfl) m2), upd_ne (by kernel_rfl) upd_self, upd_self, (Kp.app no1 S _).trans (Kp.app no1 _ _), (Kp.app no1 _ _).keep _ _ St.app_self id,
      by rw [← el]; exact St.app_self, fun u hu => by rw [List.mem_singleton.mp hu]; exact ⟨htd.1, htd.2, hR0⟩, Nat.le_refl _, by show 0 + _ ≤ _; exact om337 hkl⟩
  refine pexs_step n12_1 fun K' hK' _ _ => ?_
  refine wloop_rule (P := fun j m S' => j ≤ 2000 ∧ ∃ Ws l, WI name n k es R S S.length (S.length + 1) j m S' Ws l) ?_ wf0 (1 + left es []) _ _ (by show _ < 100000; exact om338 hkl) ⟨by exact om339 hkl, [t], [], I0⟩
  rintro j m S' ⟨hj, Ws, l, I⟩
  have q3 := I.waiting
  have hws := I.ws
  have hwl : (Ws.map Tm.enc).length ≤ 100000 := by have := I.j; rw [List.length_map]; exact om340 hj this
  walk_at "W"
  rcases List.eq_nil_or_concat Ws with rfl | ⟨Ws, u, rfl⟩
  · rw [if_neg (by simp)]
    refine hK' _ _ ?_
    refine pexs_step n12_2 fun K hK hR _ => ?_
    walk_at "W"
    exact hR _ _ _ (hret _ _ _ (h _ I.kp))
  · rw [if_pos (by simp)]
    have hu := I.ok u (by simp)
    have e0 : S'[S.length]? = some (.lst (Ws.map Tm.enc ++ [u.enc])) := by rw [hws]; simp
    have hp : (Ws.map Tm.enc ++ [u.enc]).length ≤ lineLen := by simp at hwl ⊢; show _ ≤ 100000; exact om99 hwl
    clear hws
    rw [b12_1_0]
    refine pexs_step n12_1_0_0 fun K hK _ _ => ?_
    walk_at "W"
    refine variables_run hu.1 hu.2.1 fun r S1 k1 hr e1 => ?_
    have e1 : S1[r]? = some (.lst ((vars u).map .str)) := e1
    walk_at "W"
    refine r_iteF ?_
    have hwl2 := St.lt e0
    have hsl2 := St.lt I.sl
    rw [List.length_set] at hr
    have hvl := vars_len hu.2.1
    have hj2 := I.j
    rw [List.concat_eq_append, List.length_append] at hj2
    have hj2 : Ws.length + 1 + left es l ≤ j := hj2
    have I1 : WI name n k es R S S.length (S.length + 1) (j - 1) m S1 Ws l :=
      ⟨I.name, I.table, I.waiting, I.seen, (I.kp.set_new (Nat.le_refl _)).trans k1, k1.keep _ _ (St.set_self hwl2) id, k1.keep _ _ (by rw [List.getElem?_set_ne (Nat.ne_of_lt (Nat.lt_succ_self _))]; exact I.sl) id, fun u' hu' => I.ok u' (by simp [hu']), by exact om341 hj2, I.ll⟩
    refine floop_rule (vals := (vars u).map .str) (P := fun i m2 S2 => ∃ Ws2 l2, WI name n k es R S S.length (S.length + 1) (j - 1) m2 S2 Ws2 l2 ∧ S2[r]? = some (.lst ((vars u).map .str)))
      ?_ ?_ ?_ wf0 0 _ _ (by rw [List.length_map]; show _ < 0 + 100000; exact om342 hvl) (Nat.zero_le _) ⟨Ws, l, I1, e1⟩
    · rintro i m2 S2 ⟨Ws2, l2, I2, e2⟩
      exact (SrcIs.pat (acc := r + 1) (.inr (.inl ⟨r, rfl, e2, Nat.ne_of_lt (Nat.lt_succ_self r)⟩)) (.refl _ _) i)
    · rintro i v m2 S2 hv ⟨Ws2, l2, I2, e2⟩
      obtain ⟨x, hx, rfl⟩ := List.mem_map.mp (List.mem_of_getElem? hv)
      refine ⟨_, rfl, ?_⟩
      exact within_turn hd hRs hname (by exact om100 hj) hn (by exact om343 hr hsl2) (hu.2.2 x (mem_vars.mp hx)) (I2.upd (.str x)) e2 upd_self fun S3 Ws3 l3 I3 e3 => ⟨.inl rfl, Ws3, l3, I3, e3⟩
    · rintro m2 S2 ⟨Ws2, l2, I2, e2⟩
      exact hK _ _ (pexs_nil' ⟨.inl rfl, j - 1, by exact om344 hj2, by exact om100 hj, Ws2, l2, I2⟩)
end Mine.Internal
end

section
open PySem
namespace Mine.Internal
/-- the turn's plain state: what is told, what waits -/
structure TI (es : Tab) (D : List Str) (Wt : List (Str × Bool)) : Prop where
  nd : D.Nodup
  sub : ∀ x ∈ D, (look x es).isSome = true
  ord : ∀ a x b u, D = a ++ x :: b → look x es = some u → ∀ y ∈ u.tv, (look y es).isSome = true → y ∈ a
  wk : ∀ p ∈ Wt, (look p.1 es).isSome = true
  dep : ∀ A x B u, Wt = A ++ (x, true) :: B → look x es = some u → ∀ y ∈ u.tv, (look y es).isSome = true → y ∈ D ∨ ∃ b, (y, b) ∈ B
  all : ∀ x, (look x es).isSome = true → x ∈ D ∨ ∃ b, (x, b) ∈ Wt
theorem split_snoc {α : Type} {A B l : List α} {x y : α} (h : l ++ [y] = A ++ x :: B) : (B = [] ∧ x = y ∧ A = l) ∨ ∃ B', B = B' ++ [y] ∧ l = A ++ x :: B' := by
  rcases List.eq_nil_or_concat B with rfl | ⟨B', z, rfl⟩
  · left
    have := List.append_inj_right' h rfl
    have h2 := List.append_inj_left' h rfl
    simp at this
    exact ⟨rfl, this.symm, h2.symm⟩
  · right
    rw [List.concat_eq_append] at h ⊢
    have h' : l ++ [y] = (A ++ x :: B') ++ [z] := by rw [h]; simp
    have h1 := List.append_inj_right' h' rfl
    have h2 := List.append_inj_left' h' rfl
    simp at h1
    exact ⟨B', by rw [h1], h2⟩
theorem TI.pop {es : Tab} {D : List Str} {Wt : List (Str × Bool)} {x : Str} {b : Bool} (T : TI es D (Wt ++ [(x, b)])) (h : x ∈ D) : TI es D Wt where
  nd := T.nd
  sub := T.sub
  ord := T.ord
  wk p hp := T.wk p (by simp [hp])
  dep A y B u e hl z hz hs := by
    rcases T.dep A y (B ++ [(x, b)]) u (by rw [e]; simp) hl z hz hs with q | ⟨c, q⟩
    · exact .inl q
    · rcases List.mem_append.mp q with q | q
      · exact .inr ⟨c, q⟩
      · simp at q; rw [q.1]; exact .inl h
  all y hy := by
    rcases T.all y hy with q | ⟨c, q⟩
    · exact .inl q
    · rcases List.mem_append.mp q with q | q
      · exact .inr ⟨c, q⟩
      · simp at q; rw [q.1]; exact .inl h
theorem TI.tell {es : Tab} {D : List Str} {Wt : List (Str × Bool)} {x : Str} (T : TI es D (Wt ++ [(x, true)])) (h : x ∉ D) : TI es (D ++ [x]) Wt where
  nd := List.nodup_append.mpr ⟨T.nd, by simp, by intro a ha b hb; simp at hb; subst hb; rintro rfl; exact h ha⟩
  sub y hy := by
    rcases List.mem_append.mp hy with q | q
    · exact T.sub y q
    · simp at q; subst q; exact T.wk (y, true) (by simp)
  ord a y b u e hl z hz hs := by
    rcases split_snoc e with ⟨rfl, rfl, rfl⟩ | ⟨b', rfl, e'⟩
    · rcases T.dep Wt y [] u (by simp) hl z hz hs with q | ⟨c, q⟩
      · exact q
      · simp at q
    · exact T.ord a y b' u e' hl z hz hs
  wk p hp := T.wk p (by simp [hp])
  dep A y B u e hl z hz hs := by
    rcases T.dep A y (B ++ [(x, true)]) u (by rw [e]; simp) hl z hz hs with q | ⟨c, q⟩
    · exact .inl (by simp [q])
    · rcases List.mem_append.mp q with q | q
      · exact .inr ⟨c, q⟩
      · simp at q; rw [q.1]; exact .inl (by simp)
  all y hy := by
    rcases T.all y hy with q | ⟨c, q⟩
    · exact .inl (by simp [q])
    · rcases List.mem_append.mp q with q | q
      · exact .inr ⟨c, q⟩
      · simp at q; rw [q.1]; exact .inl (by simp)
theorem TI.opens {es : Tab} {D : List Str} {Wt : List (Str × Bool)} {x : Str} {u : Tm} {ds : List Str} (T : TI es D (Wt ++ [(x, false)])) (hl : look x es = some u) (hd : ∀ y, y ∈ ds ↔ y ∈ u.tv ∧ (look y es).isSome = true) :
    TI es D (Wt ++ (x, true) :: ds.map fun y => (y, false)) where
  nd := T.nd
  sub := T.sub
  ord := T.ord
  wk p hp := by
    rcases List.mem_append.mp hp with q | q
    · exact T.wk p (by simp [q])
    · rcases List.mem_cons.mp q with rfl | q
      · exact T.wk (x, false) (by simp)
      · obtain ⟨y, hy, rfl⟩ := List.mem_map.mp q
        exact ((hd y).mp hy).2
  dep A y B v e hv z hz hs := by
    rcases List.append_eq_append_iff.mp e with ⟨C, e1, e2⟩ | ⟨C, e1, e2⟩
    · cases C with
      | nil =>
        simp only [List.nil_append, List.cons.injEq, Prod.mk.injEq, and_true] at e2
        obtain ⟨rfl, rfl⟩ := e2
        rw [hl] at hv; cases hv
        exact .inr ⟨false, List.mem_map.mpr ⟨z, (hd z).mpr ⟨hz, hs⟩, rfl⟩⟩
      | cons c C =>
        simp only [List.cons_append, List.cons.injEq] at e2
        have : (y, true) ∈ ds.map fun y => (y, false) := by rw [e2.2]; simp
        obtain ⟨_, _, q⟩ := List.mem_map.mp this
        cases q
    · cases C with
      | nil =>
        simp only [List.nil_append, List.cons.injEq, Prod.mk.injEq, and_true] at e2
        obtain ⟨rfl, rfl⟩ := e2
        rw [hl] at hv; cases hv
        exact .inr ⟨false, List.mem_map.mpr ⟨z, (hd z).mpr ⟨hz, hs⟩, rfl⟩⟩
      | cons c C =>
        simp only [List.cons_append, List.cons.injEq] at e2
        obtain ⟨rfl, rfl⟩ := e2
        rcases T.dep A y (C ++ [(x, false)]) v (by rw [e1]; simp) hv z hz hs with q | ⟨c, q⟩
        · exact .inl q
        · rcases List.mem_append.mp q with q | q
          · exact .inr ⟨c, by simp [q]⟩
          · simp at q; rw [q.1]; exact .inr ⟨true, by simp⟩
  all y hy := by
    rcases T.all y hy with q | ⟨c, q⟩
    · exact .inl q
    · rcases List.mem_append.mp q with q | q
      · exact .inr ⟨c, by simp [q]⟩
      · simp at q; rw [q.1]; exact .inr ⟨true, by simp⟩
/-- a table without rings -/
structure Good (es : Tab) (ρ : Str → Nat) : Prop where
  len : es.length ≤ 6
  nd : (es.map (·.1)).Nodup
  rank : ∀ x, ρ x ≤ 6
  less : ∀ x u y, look x es = some u → y ∈ u.tv → (look y es).isSome = true → ρ y < ρ x
  two : ∀ e ∈ es, e.2.tv.length ≤ 2 ∧ e.2.depth ≤ 2 ∧ e.2.size ≤ 3
noncomputable def wt (ρ : Str → Nat) (p : Str × Bool) : Nat := if p.2 = true then 1 else 2 * 3 ^ ρ p.1
noncomputable def wsum (ρ : Str → Nat) (l : List (Str × Bool)) : Nat := (l.map (wt ρ)).sum
theorem wsum_app (ρ : Str → Nat) (a b : List (Str × Bool)) : wsum ρ (a ++ b) = wsum ρ a + wsum ρ b := by simp [wsum]
theorem wt_pos (ρ : Str → Nat) (p : Str × Bool) : 1 ≤ wt ρ p := by
  unfold wt; split
  · exact Nat.le_refl _
  · have := Nat.pow_pos (n := ρ p.1) (show 0 < 3 by decide); exact om345 this
theorem wsum_len (ρ : Str → Nat) : ∀ l : List (Str × Bool), l.length ≤ wsum ρ l
  | [] => Nat.le_refl _
  | p :: r => by
    have := wsum_len ρ r
    have := wt_pos ρ p
    simp only [wsum, List.map_cons, List.sum_cons, List.length_cons] at *; exact om346 ‹_› this
theorem wt_opens {ρ : Str → Nat} {x : Str} {ds : List Str} (h2 : ds.length ≤ 2) (hr : ∀ y ∈ ds, ρ y < ρ x) : wsum ρ ((x, true) :: ds.map fun y => (y, false)) < wt ρ (x, false) := by
  have e : wt ρ (x, false) = 2 * 3 ^ ρ x := rfl
  have e1 : wt ρ (x, true) = 1 := rfl
  match ds, h2, hr with
  | [], _, _ =>
    have := Nat.pow_pos (n := ρ x) (show 0 < 3 by decide)
    simp [wsum, e, e1]; exact om347 this
  | [y], _, hr =>
    have h1 := hr y (by simp)
    have e2 : wt ρ (y, false) = 2 * 3 ^ ρ y := rfl
    have h3 : 3 ^ (ρ y + 1) ≤ 3 ^ ρ x := Nat.pow_le_pow_right (by decide) h1
    have := Nat.pow_pos (n := ρ y) (show 0 < 3 by decide)
    rw [Nat.pow_succ] at h3
    simp [wsum, e, e1, e2]; exact om348 h3 this
  | [y, z], _, hr =>
    have h1 := hr y (by simp)
    have h2 := hr z (by simp)
    have e2 : wt ρ (y, false) = 2 * 3 ^ ρ y := rfl
    have e3 : wt ρ (z, false) = 2 * 3 ^ ρ z := rfl
    have h3 : 3 ^ (ρ y + 1) ≤ 3 ^ ρ x := Nat.pow_le_pow_right (by decide) h1
    have h4 : 3 ^ (ρ z + 1) ≤ 3 ^ ρ x := Nat.pow_le_pow_right (by decide) h2
    have := Nat.pow_pos (n := ρ y) (show 0 < 3 by decide)
    have := Nat.pow_pos (n := ρ z) (show 0 < 3 by decide)
    rw [Nat.pow_succ] at h3 h4
    simp [wsum, e, e1, e2, e3]; exact om349 h3 h4 ‹_›
  | _ :: _ :: _ :: _, h, _ => simp at h
noncomputable def encW (p : Str × Bool) : PV := .tup [.str p.1, .bool p.2]

structure TW (n : Nat) (es : Tab) (ρ : Str → Nat) (S0 : St) (f w : Nat) (j : Nat) (m : Fm) (S : St) (D : List Str) (Wt : List (Str × Bool)) : Prop where
  table : m "table" = some (.ref n)
  waiting : m "waiting" = some (.ref w)
  found : m "found" = some (.ref f)
  kp : Kp no1 S0 S
  ws : S[w]? = some (.lst (Wt.map encW))
  fs : S[f]? = some (seenO D)
  ti : TI es D Wt
  j : wsum ρ Wt ≤ j
  dl : D.length + left es D ≤ 1000
  fw : S0.length ≤ f ∧ S0.length ≤ w ∧ ¬ f = w
theorem dput_in {x : Str} {l : List Str} (h : l.contains x = true) : dput x (.bool true) (l.map fun x => (x, PV.bool true)) = l.map fun x => (x, PV.bool true) := by
  unfold dput
  have : (l.map fun x => (x, PV.bool true)).any (fun e => decide (e.1 = x)) = true := by
    rw [List.any_eq_true]
    exact ⟨(x, .bool true), List.mem_map.mpr ⟨x, List.contains_iff_mem.mp h, rfl⟩, by simp⟩
  rw [if_pos this, List.map_map]
  refine List.map_congr_left fun y _ => ?_
  simp only [Function.comp]
  split <;> simp_all
theorem keys_seen (l : List Str) : strKeys (l.map fun x => (x, PV.bool true)) = l := by
  unfold strKeys; rw [List.map_map]; exact List.map_id'' (fun _ => rfl) l
theorem keys_enc (es : Tab) : strKeys (encT es) = es.map (·.1) := by simp [strKeys, encT]
theorem wsum_small {ρ : Str → Nat} (hr : ∀ x, ρ x ≤ 6) : ∀ l : List Str, wsum ρ (l.map fun x => (x, false)) ≤ l.length * 1458
  | [] => Nat.le_refl _
  | x :: r => by
    have ih := wsum_small hr r
    have h1 : 3 ^ ρ x ≤ 3 ^ 6 := Nat.pow_le_pow_right (by decide) (hr x)
    have e : wt ρ (x, false) = 2 * 3 ^ ρ x := rfl
    simp only [wsum, List.map_cons, List.sum_cons, List.length_cons] at *
    exact om350 ih h1 e
theorem look_key {x : Str} : ∀ {es : Tab}, (look x es).isSome = true ↔ x ∈ es.map (·.1)
  | [] => by simp [look]
  | (y, t) :: r => by
    have ih := look_key (x := x) (es := r)
    unfold look at *
    simp only [List.find?_cons, List.map_cons, List.mem_cons]
    by_cases h : y = x
    · subst h; simp
    · simp only [h, decide_false]
      rw [ih]
      exact ⟨.inr, fun q => q.elim (fun q => absurd q.symm h) id⟩
theorem TI.begin {es : Tab} {l : List Str} (h : ∀ x, x ∈ l ↔ (look x es).isSome = true) : TI es [] (l.map fun x => (x, false)) where
  nd := List.nodup_nil
  sub := by simp
  ord a x b u e := by simp at e
  wk p hp := by obtain ⟨x, hx, rfl⟩ := List.mem_map.mp hp; exact (h x).mp hx
  dep A x B u e := by
    have : (x, true) ∈ l.map fun x => (x, false) := by rw [e]; simp
    obtain ⟨_, _, q⟩ := List.mem_map.mp this
    cases q
  all x hx := .inr ⟨false, List.mem_map.mpr ⟨x, (h x).mpr hx, rfl⟩⟩
theorem r_sorted {C : Ctx} {n : Nat} {o : PO} {ss : List Str} {S : St} {Q : PV → St → Prop} (e : S[n]? = some o) (ek : keysOf? o = some ss) (hl : ss.length < 64) (h : Q (.ref S.length) (S ++ [.lst ((psort ss).map .str)])) : W (papply C (.bi "sorted") [.ref n]) S Q := by
  rw [q_sorted]; refine r_bnd ((W_getO e).mpr ?_)
  rw [ek]
  exact r_bnd (W_lift.mpr (r_pos hl (W_alloc.mpr h)))
theorem r_listD {C : Ctx} {n : Nat} {es : List (Str × PV)} {S : St} {Q : PV → St → Prop} (e : S[n]? = some (.dct es)) (hl : (strKeys es).length ≤ lineLen) (h : Q (.ref S.length) (S ++ [.lst ((strKeys es).map .str)])) : W (papply C (.ty "list") [.ref n]) S Q := by
  rw [q_list_ref]; exact r_bnd ((W_getO e).mpr (r_bnd (W_lift.mpr (r_pos hl (W_alloc.mpr h)))))
theorem TW.upd {n : Nat} {es : Tab} {ρ : Str → Nat} {S0 : St} {f w j : Nat} {m : Fm} {S : St} {D : List Str} {Wt : List (Str × Bool)} (I : TW n es ρ S0 f w j m S D Wt) (u v : PV) : TW n es ρ S0 f w j ((m.upd "name" u).upd "is_open" v) S D Wt :=
  { I with table := upd_ne (by kernel_rfl) (upd_ne (by kernel_rfl) I.table), waiting := upd_ne (by kernel_rfl) (upd_ne (by kernel_rfl) I.waiting), found := upd_ne (by kernel_rfl) (upd_ne (by kernel_rfl) I.found) }
section
variable {es : Tab} {ρ : Str → Nat} {n k f w j : Nat} {S0 S : St} {m : Fm} {D : List Str} {Wt : List (Str × Bool)} {x : Str} {Q : PFlow × Fm → St → Prop}
/-- what holds behind the pop -/
structure TP (n : Nat) (es : Tab) (ρ : Str → Nat) (S0 : St) (f w j : Nat) (m : Fm) (S : St) (D : List Str) (Wt : List (Str × Bool)) (x : Str) (b : Bool) : Prop where
  table : m "table" = some (.ref n)
  waiting : m "waiting" = some (.ref w)
  found : m "found" = some (.ref f)
  name : m "name" = some (.str x)
  kp : Kp no1 S0 S
  ws : S[w]? = some (.lst (Wt.map encW))
  fs : S[f]? = some (seenO D)
  ti : TI es D (Wt ++ [(x, b)])
  j : wsum ρ (Wt ++ [(x, b)]) ≤ j
  dl : D.length + left es D ≤ 1000
  fw : S0.length ≤ f ∧ S0.length ≤ w ∧ ¬ f = w
theorem TP.back {b : Bool} (I : TP n es ρ S0 f w j m S D Wt x b) (h : x ∈ D) : ∃ i, i < j ∧ TW n es ρ S0 f w i m S D Wt := by
  have hJ := I.j
  rw [wsum_app] at hJ
  have hj1 : wsum ρ [(x, b)] = wt ρ (x, b) := by simp [wsum]
  have hpos := wt_pos ρ (x, b)
  exact ⟨j - 1, by exact om351 hJ hj1 hpos, I.table, I.waiting, I.found, I.kp, I.ws, I.fs, I.ti.pop h, by exact om352 hJ hj1 hpos, I.dl, I.fw⟩
/-- a name that is told -/
theorem turn_open (I : TP n es ρ S0 f w j m S D Wt x true) (h : ∀ m' S' D' i, i < j → TW n es ρ S0 f w i m' S' D' Wt → Q (.next, m') S') :
    W (pexs (C0 k) 54 (fdI 14).scope (blkS s14_1_0_1 0) m) S Q := by
  rw [b14_1_0_1_0]
  refine pexs_step n14_1_0_1_0_0 fun K hK _ _ => ?_
  have q2 := I.found
  have q3 := I.name
  have hfs : S[f]? = some (.dct (D.map fun x => (x, PV.bool true))) := I.fs
  have hdl := I.dl
  have hd3 : (D.map fun x => (x, PV.bool true)).length < lineLen := by rw [seen_len]; show _ < 100000; exact om97 hdl
  walk_at "W"
  refine hK _ _ (pexs_nil' ?_)
  obtain ⟨u, hu⟩ := Option.isSome_iff_exists.mp (I.ti.wk (x, true) (by simp))
  cases hc : D.contains x with
  | true =>
    rw [dput_in hc]
    obtain ⟨i, hi, T⟩ := I.back (List.contains_iff_mem.mp hc)
    refine h _ _ D i hi { T with kp := I.kp.set_new I.fw.1, ws := ?_, fs := St.set_self (St.lt hfs) }
    rw [List.getElem?_set_ne I.fw.2.2]; exact I.ws
  | false =>
    rw [dput_seen hc]
    have hlt : left es (D ++ [x]) < left es D := left_less (x := x) hu hc
    have hnc : x ∉ D := fun q => by rw [← List.contains_iff_mem, hc] at q; cases q
    have hJ := I.j
    rw [wsum_app] at hJ
    have hj1 : wsum ρ [(x, true)] = 1 := rfl
    refine h _ _ (D ++ [x]) (j - 1) (by exact om353 hJ hj1) ⟨I.table, I.waiting, I.found, I.kp.set_new I.fw.1, ?_, St.set_self (St.lt hfs), I.ti.tell hnc, by exact om354 hJ hj1, by rw [List.length_append]; show _ + 1 + _ ≤ 1000; exact om98 hdl hlt, I.fw⟩
    rw [List.getElem?_set_ne I.fw.2.2]; exact I.ws
noncomputable def lateV (es : Tab) : PV → List PV := fun v => match v with | .str y => if (look y es).isSome = true then [encW (y, false)] else [] | _ => []
theorem lateV_one (es : Tab) (v : PV) : (lateV es v).length ≤ 1 := by
  unfold lateV; split
  · split
    · exact Nat.le_refl 1
    · exact Nat.zero_le 1
  · exact Nat.zero_le 1
theorem lateV_map (es : Tab) : ∀ l : List Str, (l.map PV.str).flatMap (lateV es) = ((l.filter fun y => (look y es).isSome).map fun y => (y, false)).map encW
  | [] => rfl
  | y :: r => by
    have ih := lateV_map es r
    rw [List.map_cons, List.flatMap_cons, ih, List.filter_cons]
    show (if (look y es).isSome = true then [encW (y, false)] else []) ++ _ = _
    split <;> rfl
/-- a name that is not opened yet -/
theorem turn_new (G : Good es ρ) (hn : S0[n]? = some (.dct (encT es))) (hj : j ≤ 90000) (I : TP n es ρ S0 f w j m S D Wt x false) (h : ∀ m' S' Wt' i, i < j → TW n es ρ S0 f w i m' S' D Wt' → Q (.next, m') S') :
    W (pexs (C0 (k + 4)) 54 (fdI 14).scope (blkS s14_1_0_1 1) m) S Q := by
  rw [b14_1_0_1_1]
  refine pexs_step n14_1_0_1_1_0 fun K hK _ _ => W_if fun KT hT hF => ?_
  have q1 := I.table
  have q2 := I.found
  have q3 := I.name
  have q4 := I.waiting
  have hfs : S[f]? = some (.dct (D.map fun x => (x, PV.bool true))) := I.fs
  walk_at "W"
  rw [dfind_seen]
  cases hc : D.contains x with
  | true =>
    refine hF _ ?_
    rw [b14_1_0_1_1_0_1]
    obtain ⟨i, hi, T⟩ := I.back (List.contains_iff_mem.mp hc)
    exact pexs_nil' (hK _ _ (pexs_nil' (h _ _ Wt i hi T)))
  | false =>
    refine hT _ ?_
    rw [b14_1_0_1_1_0_0]
    refine pexs_step n14_1_0_1_1_0_0_0 fun K2 hK2 _ _ => ?_
    have hJ := I.j
    rw [wsum_app] at hJ
    have hj1 : wsum ρ [(x, false)] = wt ρ (x, false) := by simp [wsum]
    have hwl := wsum_len ρ Wt
    obtain ⟨u, hu⟩ := Option.isSome_iff_exists.mp (I.ti.wk (x, false) (by simp))
    have hws := I.ws
    have b1 : (Wt.map encW).length < lineLen := by rw [List.length_map]; show _ < 100000; exact om355 hj hJ hwl
    walk_at "W"
    have hwB : (S.set w (.lst (Wt.map encW ++ [.tup [.str x, .bool true]])))[w]? = some (.lst ((Wt ++ [(x, true)]).map encW)) := by rw [St.set_self (St.lt hws), List.map_append]; rfl
    have hfB : (S.set w (.lst (Wt.map encW ++ [.tup [.str x, .bool true]])))[f]? = some (seenO D) := by rw [List.getElem?_set_ne (fun q => I.fw.2.2 q.symm)]; exact hfs
    have hkB : Kp no1 S0 (S.set w (.lst (Wt.map encW ++ [.tup [.str x, .bool true]]))) := I.kp.set_new I.fw.2.1
    refine hK2 _ _ ?_
    generalize List.set S w _ = SB at hwB hfB hkB ⊢
    have hnB := hkB.keep _ _ hn id
    obtain ⟨e, he, he2, _⟩ := look_mem hu
    have g2 := G.two e he
    rw [he2] at g2
    have hvl : (vars u).length ≤ 2 := by
      have h1 := eraseDups_len (l := u.tv)
      have h3 : (vars u).length = u.tv.eraseDups.length := List.length_mergeSort ..
      exact om356 g2 h1 h3
    have hd : dfind x (encT es) = some u.enc := by rw [dfind_enc, hu]; rfl
    refine pexs_step n14_1_0_1_1_0_0_1 fun K3 hK3 _ _ => ?_
    walk_at "W"
    refine mcomp_rule (vals := (vars u).map .str) (f := lateV es) ["table"] (by rw [List.length_map]; exact om35 hvl) (fun v _ => lateV_one es v) ?_ ?_ ?_
    · walk_at "W"
      refine variables_run (by exact om357 g2) (by exact om358 g2) fun r S1 k1 hr e1 => ?_
      exact r_srcL e1 ⟨k1, live_src e1, rfl⟩
    · intro v m1 S1 hv hm hk1
      obtain ⟨y, hy, rfl⟩ := List.mem_map.mp hv
      have h1 : m1 "table" = some (.ref n) := (hm "table" (List.mem_singleton.mpr rfl)).trans q1
      have hn3 := hk1.keep _ _ hnB id
      refine ⟨m1.upd "late" (.str y), rfl, ?_, ?_⟩
      · intro z hz
        rw [List.mem_singleton.mp hz]
        have h2 : (m1.upd "late" (.str y)) "table" = m1 "table" := upd_ne (by kernel_rfl) rfl
        exact h2.trans (hm "table" (List.mem_singleton.mpr rfl))
      · walk_at "W"
        have hdy := dfind_enc y es
        rw [hdy, Option.isSome_map]
        cases hly : (look y es).isSome with
        | false =>
          walk_at "W"
          refine ⟨.refl _ _, ?_⟩
          show (if (look y es).isSome = true then _ else _) = _
          rw [hly]; rfl
        | true =>
          walk_at "W"
          refine ⟨.refl _ _, ?_⟩
          rw [if_pos rfl]
          walk_at "W"
          refine ⟨.refl _ _, ?_⟩
          show (if (look y es).isSome = true then _ else _) = _
          rw [hly]; rfl
    · intro r S3 k3 hr e3
      rw [lateV_map] at e3
      have hdl3 : ((vars u).filter fun y => (look y es).isSome).length ≤ 2 := Nat.le_trans (List.length_filter_le ..) hvl
      have hds : ∀ y, y ∈ (vars u).filter (fun y => (look y es).isSome) ↔ y ∈ u.tv ∧ (look y es).isSome = true := fun y => by rw [List.mem_filter, mem_vars]
      generalize (vars u).filter (fun y => (look y es).isSome) = ds at e3 hdl3 hds
      have hw4 := k3.keep _ _ hwB id
      have hf4 := k3.keep _ _ hfB id
      have hne : w ≠ r := Nat.ne_of_lt (Nat.lt_of_lt_of_le (St.lt hwB) hr)
      have b4 : ((Wt ++ [(x, true)]).map encW).length + ((ds.map fun y => (y, false)).map encW).length ≤ lineLen := by
        rw [List.length_map, List.length_map, List.length_map, List.length_append]; show _ + 1 + _ ≤ 100000; exact om359 hj hJ hwl hdl3
      have hlo := wt_opens (ρ := ρ) (x := x) hdl3 fun y hy => G.less x u y hu ((hds y).mp hy).1 ((hds y).mp hy).2
      walk_at "W"
      rw [← List.map_append, List.append_assoc]
      refine hK3 _ _ (pexs_nil' (hK _ _ (pexs_nil' (h _ _ (Wt ++ (x, true) :: ds.map fun y => (y, false)) (j - 1) (by exact om360 hJ hj1 hlo) ⟨q1, q4, q2, (hkB.trans k3).set_new I.fw.2.1, St.set_self (St.lt hw4), ?_, I.ti.opens hu hds, ?_, I.dl, I.fw⟩))))
      · rw [List.getElem?_set_ne (fun q => I.fw.2.2 q.symm)]; exact hf4
      · rw [wsum_app]; exact om361 hJ hj1 hlo
end
theorem nameW : ∀ l : List Str, (l.map PV.str).flatMap (fun v => match v with | .str x => [encW (x, false)] | _ => []) = (l.map fun x => (x, false)).map encW
  | [] => rfl
  | x :: r => by rw [List.map_cons, List.flatMap_cons, nameW r]; rfl
theorem in_turn_run {es : Tab} {ρ : Str → Nat} {n k : Nat} {S : St} {Q : PV → St → Prop} (G : Good es ρ) (hn : S[n]? = some (.dct (encT es)))
    (h : ∀ r S' told, Kp no1 S S' → S.length ≤ r → S'[r]? = some (.lst (told.map .str)) → TI es told [] → Q (.ref r) S') : W (cal (k + 5) 103 [.ref n]) S Q := by
  refine call_run (i := 14) rfl rfl fun K0 hret _ => ?_
  have m0 := p14_0 (v0 := .ref n)
  generalize bindAll _ _ _ = m at m0 ⊢
  have hl6 := G.len
  have hn1 : (S ++ [PO.dct []])[n]? = some (.dct (encT es)) := (Kp.app no1 S _).keep _ _ hn id
  have hps : (psort (es.map (·.1))).length = es.length := by unfold psort; rw [List.length_mergeSort, List.length_map]
  rw [b14]
  refine pexs_step n14_0 fun K hK _ _ => ?_
  walk_at "W"
  refine mcomp_rule (vals := (psort (es.map (·.1))).map .str) (f := fun v => match v with | .str x => [encW (x, false)] | _ => []) [] (by rw [List.length_map, hps]; exact om31 hl6) (fun v _ => by split; exact Nat.le_refl 1; exact Nat.zero_le 1) ?_ ?_ ?_
  · walk_at "W"
    refine r_sorted hn1 (by show some (strKeys _) = _; rw [keys_enc]) (by rw [List.length_map]; exact om71 hl6) ?_
    refine r_srcL St.app_self ⟨Kp.app _ _ _, live_src St.app_self, rfl⟩
  · intro v m1 S1 hv hm hk1
    obtain ⟨x, hx, rfl⟩ := List.mem_map.mp hv
    refine ⟨m1.upd "name" (.str x), rfl, (fun y hy => by cases hy), r_ret ⟨.refl _ _, ?_⟩⟩
    rw [if_pos rfl]
    walk_at "W"
    exact ⟨.refl _ _, rfl⟩
  intro a S1 k1 ha e1
  rw [nameW] at e1
  rw [List.length_append] at ha
  have ha : S.length + 1 ≤ a := ha
  have f1 := k1.keep _ _ St.app_self id
  have hs := wsum_small G.rank (psort (es.map fun x => x.1))
  rw [hps] at hs
  walk_at "W"
  refine r_var a14_0 ?_
  walk_at "W"
  refine hK _ _ ?_
  have I0 : TW n es ρ S S.length a (wsum ρ ((psort (es.map fun x => x.1)).map fun x => (x, false))) ((m.upd "found" (.ref S.length)).upd "waiting" (.ref a)) S1 [] ((psort (es.map fun x => x.1)).map fun x => (x, false)) :=
    ⟨upd_ne (by kernel_rfl) (upd_ne (by kernel_rfl) m0), upd_self, upd_ne (by kernel_rfl) upd_self, (Kp.app no1 S _).trans k1, e1, f1, TI.begin fun x => by rw [look_key]; unfold psort; exact List.mem_mergeSort, Nat.le_refl _,
      by have : left es [] ≤ es.length := List.length_filter_le ..; show 0 + _ ≤ 1000; exact om362 hl6 this, Nat.le_refl _, Nat.le_of_lt ha, Nat.ne_of_lt ha⟩
  refine pexs_step n14_1 fun K' hK' _ _ => ?_
  refine wloop_rule (P := fun j m S' => ∃ D Wt, TW n es ρ S S.length a j m S' D Wt ∧ j ≤ 90000) ?_ wf0 _ _ _ (by show _ < 100000; exact om363 hl6 hs) ⟨[], _, I0, by exact om364 hl6 hs⟩
  rintro j m S' ⟨D, Wt, I, hj⟩
  have q3 := I.waiting
  have hws := I.ws
  have hwl : (Wt.map encW).length ≤ 100000 := by have := I.j; have := wsum_len ρ Wt; rw [List.length_map]; exact om365 hj ‹_› this
  walk_at "W"
  rcases List.eq_nil_or_concat Wt with rfl | ⟨Wt, ⟨x, b⟩, rfl⟩
  · rw [if_neg (by simp)]
    refine hK' _ _ ?_
    refine pexs_step n14_2 fun K hK hR _ => ?_
    have q4 := I.found
    walk_at "W"
    have hdl := I.dl
    refine r_listD I.fs (by rw [keys_seen]; show _ ≤ 100000; exact om366 hdl) ?_
    rw [keys_seen]
    walk_at "W"
    exact hR _ _ _ (hret _ _ _ (h _ _ D (I.kp.trans (Kp.app _ _ _)) I.kp.len St.app_self I.ti))
  · rw [if_pos (by simp)]
    have e0 : S'[a]? = some (.lst (Wt.map encW ++ [PV.tup [.str x, .bool b]])) := by rw [hws]; simp [encW]
    have hp : (Wt.map encW ++ [PV.tup [.str x, .bool b]]).length ≤ lineLen := by simp at hwl ⊢; show _ ≤ 100000; exact om99 hwl
    clear hws
    rw [b14_1_0]
    refine pexs_step n14_1_0_0 fun K2 hK2 _ _ => ?_
    walk_at "W"
    refine r_var a14_1_0_0 ?_
    walk_at "W"
    refine hK2 _ _ ?_
    have U := I.upd (.str x) (.bool b)
    have hti := I.ti
    have hJ := I.j
    rw [List.concat_eq_append] at hti hJ
    have P : TP n es ρ S S.length a j ((m.upd "name" (.str x)).upd "is_open" (.bool b)) (S'.set a (.lst (Wt.map encW))) D Wt x b :=
      ⟨U.table, U.waiting, U.found, upd_ne (by kernel_rfl) upd_self, I.kp.set_new I.fw.2.1, St.set_self (St.lt e0), by rw [List.getElem?_set_ne (fun q => I.fw.2.2 q.symm)]; exact I.fs, hti, hJ, I.dl, I.fw⟩
    have q5 : ((m.upd "name" (.str x)).upd "is_open" (.bool b)) "is_open" = some (.bool b) := upd_self
    generalize (m.upd "name" (.str x)).upd "is_open" (.bool b) = m2 at P q5 ⊢
    generalize List.set S' a _ = S2 at P ⊢
    refine pexs_step n14_1_0_1 fun K3 hK3 _ _ => W_if fun KT hT hF => ?_
    walk_at "W"
    cases b with
    | true => exact hT _ (turn_open P fun m' S3 D' i hi T => hK3 _ _ (pexs_nil' ⟨.inl rfl, i, hi, D', Wt, T, by exact om101 hj hi⟩))
    | false => exact hF _ (turn_new G hn hj P fun m' S3 Wt' i hi T => hK3 _ _ (pexs_nil' ⟨.inl rfl, i, hi, D, Wt', T, by exact om101 hj hi⟩))
end Mine.Internal
end

section
open PySem
namespace Mine.Internal
/-- a dict of names and ints -/
noncomputable def intD (l : List (Str × Int)) : List (Str × PV) := l.map fun e => (e.1, .int e.2)
noncomputable def lookI (x : Str) (l : List (Str × Int)) : Int := ((l.find? fun e => decide (e.1 = x)).map (·.2)).getD 1
theorem dfind_intD (x : Str) : ∀ l : List (Str × Int), (dfind x (intD l)).getD (.int 1) = .int (lookI x l)
  | [] => rfl
  | (y, i) :: r => by
    have ih := dfind_intD x r
    unfold dfind lookI intD at *
    simp only [List.map_cons, List.find?_cons]
    by_cases h : y = x
    · simp [h]
    · simp only [h, decide_false]; exact ih
theorem lookI_in {x : Str} {l : List (Str × Int)} {P : Int → Prop} (h1 : P 1) (h : ∀ e ∈ l, P e.2) : P (lookI x l) := by
  unfold lookI
  cases q : l.find? fun e => decide (e.1 = x) with
  | none => exact h1
  | some e => exact h e (List.mem_of_find?_eq_some q)
theorem dput_new {x : Str} {v : PV} {l : List (Str × PV)} (h : x ∉ l.map (·.1)) : dput x v l = l ++ [(x, v)] := by
  unfold dput
  have : l.any (fun e => decide (e.1 = x)) = false := by
    rw [List.any_eq_false]
    intro e he q
    have : e.1 = x := by simpa using q
    exact h (List.mem_map.mpr ⟨e, he, this⟩)
  rw [if_neg (by rw [this]; decide)]
noncomputable def sz1 (l : List (Str × Int)) (p : List Int × Tm) : Int := if p.2.isVar = true then lookI p.2.head l else 1
noncomputable def dp1 (l : List (Str × Int)) (p : List Int × Tm) : Int := p.1.length + sz1 l p
noncomputable def szV (l : List (Str × Int)) : PV → List PV := onE encP fun p => [.int (sz1 l p)]
noncomputable def dpV (l : List (Str × Int)) : PV → List PV := onE encP fun p => [.int (dp1 l p)]
theorem szV_enc (l : List (Str × Int)) (p : List Int × Tm) : szV l (encP p) = [.int (sz1 l p)] := onE_enc encP_inj
theorem dpV_enc (l : List (Str × Int)) (p : List Int × Tm) : dpV l (encP p) = [.int (dp1 l p)] := onE_enc encP_inj
theorem szV_map (l : List (Str × Int)) : ∀ ps : List (List Int × Tm), (ps.map encP).flatMap (szV l) = (ps.map (sz1 l)).map .int
  | [] => rfl
  | p :: r => by rw [List.map_cons, List.flatMap_cons, szV_enc, szV_map l r]; rfl
theorem dpV_map (l : List (Str × Int)) : ∀ ps : List (List Int × Tm), (ps.map encP).flatMap (dpV l) = (ps.map (dp1 l)).map .int
  | [] => rfl
  | p :: r => by rw [List.map_cons, List.flatMap_cons, dpV_enc, dpV_map l r]; rfl
theorem intsOf_map : ∀ l : List Int, intsOf? (l.map PV.int) = some l
  | [] => rfl
  | x :: r => by simp only [List.map_cons, intsOf?, intsOf_map r]; rfl
theorem nodup_sub_len : ∀ (l k : List Str), l.Nodup → (∀ x ∈ l, x ∈ k) → l.length ≤ k.length
  | [], k, _, _ => Nat.zero_le _
  | x :: r, k, hn, hs => by
    obtain ⟨h1, h2⟩ := List.nodup_cons.mp hn
    have hx := hs x (by simp)
    have ih := nodup_sub_len r (k.erase x) h2 fun y hy => (List.mem_erase_of_ne (by rintro rfl; exact h1 hy)).mpr (hs y (by simp [hy]))
    rw [List.length_erase_of_mem hx] at ih
    have := List.length_pos_of_mem hx
    simp only [List.length_cons]; exact om199 ih this
theorem dfind_last {x : Str} {z : Int} {l : List (Str × Int)} (h : x ∉ l.map (·.1)) : dfind x (intD (l ++ [(x, z)])) = some (.int z) := by
  unfold dfind intD
  rw [List.map_append, List.find?_append]
  have : (l.map fun e => (e.1, PV.int e.2)).find? (fun e => decide (e.1 = x)) = none := by
    rw [List.find?_eq_none]
    intro e he q
    obtain ⟨y, hy, rfl⟩ := List.mem_map.mp he
    have : y.1 = x := by simpa using q
    exact h (List.mem_map.mpr ⟨y, hy, this⟩)
  rw [this]; simp
theorem sum_le {b : Int} : ∀ l : List Int, (∀ z ∈ l, 0 ≤ z ∧ z ≤ b) → 0 ≤ l.sum ∧ l.sum ≤ l.length * b
  | [], _ => by simp
  | z :: r, h => by
    have h1 := h z (by simp)
    have h2 := sum_le r fun z hz => h z (by simp [hz])
    simp only [List.sum_cons, List.length_cons]
    have e : ((r.length + 1 : Nat) : Int) * b = r.length * b + b := by rw [Int.natCast_add, Int.add_mul]; simp
    rw [e]; exact om200 h1 h2
theorem maxL_le {b : Int} : ∀ (l : List Int) (m : Int), (0 ≤ m ∧ m ≤ b) → (∀ z ∈ l, 0 ≤ z ∧ z ≤ b) → 0 ≤ maxL m l ∧ maxL m l ≤ b
  | [], m, h, _ => h
  | z :: r, m, h, hl => by
    unfold maxL
    refine maxL_le r _ ?_ fun z hz => hl z (by simp [hz])
    split
    · exact hl z (by simp)
    · exact h
theorem Tm.par_path2 : ∀ (t : Tm) (p : List Int × Tm), p ∈ par t → p.1.length ≤ depth t
  | lf x, p, h => by simp [par] at h; subst h; simp
  | n1 g a, p, h => by
    simp [par] at h
    rcases h with rfl | ⟨q, t, h, rfl⟩
    · simp
    · have := par_path2 a _ h; simp [depth] at this ⊢; omega
  | n2 g a b, p, h => by
    simp [par] at h
    rcases h with rfl | ⟨q, t, h, rfl⟩ | ⟨q, t, h, rfl⟩
    · simp
    · have := par_path2 a _ h; simp [depth] at this ⊢; exact om201 this
    · have := par_path2 b _ h; simp [depth] at this ⊢; exact om202 this
theorem look_fun {y : Str} {Wf : Str → Tm} : ∀ l : List Str, look y (l.map fun x => (x, Wf x)) = if y ∈ l then some (Wf y) else none
  | [] => rfl
  | x :: r => by
    have ih := look_fun (y := y) (Wf := Wf) r
    unfold look at *
    simp only [List.map_cons, List.find?_cons]
    by_cases h : x = y
    · subst h; simp
    · have h2 : ¬ y = x := fun q => h q.symm
      simp only [h, decide_false, List.mem_cons, h2, false_or]; exact ih
structure WO (n f : Nat) (es : Tab) (Wf : Str → Tm) (told : List Str) (S0 : St) (i : Nat) (m : Fm) (S : St) (zs ds : List (Str × Int)) : Prop where
  table : m "table" = some (.ref n)
  found : m "found" = some (.ref f)
  sizes : m "sizes" = some (.ref (f + 1))
  depths : m "depths" = some (.ref (f + 2))
  kp : Kp no1 S0 S
  fo : S[f]? = some (.dct (encT ((told.take i).map fun x => (x, Wf x))))
  zo : S[f + 1]? = some (.dct (intD zs))
  dd : S[f + 2]? = some (.dct (intD ds))
  zb : ∀ e ∈ zs, 0 ≤ e.2 ∧ e.2 ≤ ((3 ^ i : Nat) : Int)
  db : ∀ e ∈ ds, 0 ≤ e.2 ∧ e.2 ≤ 2 * i + 1
  zk : zs.map (·.1) = told.take i
  dk : ds.map (·.1) = told.take i
theorem r_sum {C : Ctx} {n : Nat} {zl : List Int} {S : St} {Q : PV → St → Prop} (e : S[n]? = some (.lst (zl.map .int))) (hl : zl.length < 1000) (hs : ∀ z ∈ zl, smallInt z = true) (h : Q (.int zl.sum) S) : W (papply C (.bi "sum") [.ref n]) S Q := by
  rw [q_sum]; refine r_bnd ((W_getL e).mpr ?_)
  rw [intsOf_map]
  exact r_bnd (W_lift.mpr (r_pos (by rw [decide_eq_true hl, Bool.true_and]; exact List.all_eq_true.mpr hs) (r_ret h)))
theorem r_max {C : Ctx} {n : Nat} {d0 : Int} {dl : List Int} {S : St} {Q : PV → St → Prop} (e : S[n]? = some (.lst ((d0 :: dl).map .int))) (h : Q (.int (maxL d0 dl)) S) : W (papply C (.bi "max") [.ref n]) S Q := by
  rw [q_max]; refine r_bnd ((W_getL e).mpr ?_)
  rw [intsOf_map]
  exact r_bnd (W_lift.mpr (r_ret h))
theorem szV_one (l : List (Str × Int)) (v : PV) : (szV l v).length ≤ 1 := @onE_one _ encP (fun p => [.int (sz1 l p)]) (fun _ => Nat.le_refl 1) v
theorem dpV_one (l : List (Str × Int)) (v : PV) : (dpV l v).length ≤ 1 := @onE_one _ encP (fun p => [.int (dp1 l p)]) (fun _ => Nat.le_refl 1) v
theorem intD_keys (l : List (Str × Int)) : (intD l).map (·.1) = l.map (·.1) := by unfold intD; rw [List.map_map]; rfl
theorem intD_snoc (l : List (Str × Int)) (x : Str) (z : Int) : intD l ++ [(x, .int z)] = intD (l ++ [(x, z)]) := by unfold intD; rw [List.map_append]; rfl
/-- what a name's put stands for in a comprehension: one, or what the dict has -/
theorem part_val {k n : Nat} {y : Str} {l : List (Str × Int)} {p : List Int × Tm} {m : Fm} {S : St} {Q : PV → St → Prop} (mp : m "part" = some p.2.enc) (md : m y = some (.ref n)) (e : S[n]? = some (.dct (intD l))) (h : Q (.int (sz1 l p)) S) :
    W (PM.bnd (PM.bnd (PM.bnd (PM.ret (.fn 62)) fun fv => PM.bnd (evL [(PM.lift (m "part"))]) fun vs => papply (C0 (k + 1)) fv vs) asB) fun c => if c = true then (PM.bnd (PM.lift (m y)) fun ov => PM.bnd (pmethPre ov "get") fun _ => PM.bnd (evL [(PM.bnd (PM.lift (m "part")) fun ov => PM.bnd (PM.ret (.int 0)) fun iv => pitem ov iv), (PM.ret (.int 1))]) fun vs => pmeth ov "get" vs) else (PM.ret (.int 1))) S Q := by
  walk_at "W"
  refine is_var_run ?_
  walk_at "W"
  cases hq : p.2.isVar with
  | true =>
    walk_at "W"
    rw [dfind_intD]
    unfold sz1 at h
    rw [if_pos hq] at h
    exact h
  | false =>
    walk_at "W"
    unfold sz1 at h
    rw [if_neg (by rw [hq]; decide)] at h
    exact h
section
variable {n f k i : Nat} {es : Tab} {Wf : Str → Tm} {told : List Str} {S0 S : St} {m : Fm} {zs ds : List (Str × Int)} {x : Str} {u : Tm} {r : Nat} {rl : List PV} {Q : PFlow × Fm → St → Prop}
/-- one name's turn -/
theorem out_turn (hn : S0[n]? = some (.dct (encT es))) (hf : S0.length ≤ f) (T : TI es told []) (hsub : told.length ≤ 6) (hxi : told[i]? = some x) (hu : look x es = some u) (g2 : u.tv.length ≤ 2 ∧ u.depth ≤ 2 ∧ u.size ≤ 3)
    (HW : ∀ x u fs, look x es = some u → (∀ y ∈ u.tv, look y fs = if (look y es).isSome = true then some (Wf y) else none) → fil fs u = Wf x)
    (I : WO n f es Wf told S0 i m S zs ds) (e2 : S[r]? = some (.lst rl)) (hr : f + 3 ≤ r) (mx : m "name" = some (.str x))
    (h : ∀ m' S' zs' ds', WO n f es Wf told S0 (i + 1) m' S' zs' ds' → S'[r]? = some (.lst rl) → Q (.next, m') S') :
    W (pexs (C0 (k + 5)) 57 (fdI 15).scope (blkS s15_1 0) m) S Q := by
  have hil : i < told.length := (List.getElem?_eq_some_iff.mp hxi).1
  have hxe : told[i] = x := (List.getElem?_eq_some_iff.mp hxi).2
  have h3i : 3 ^ i ≤ 3 ^ 5 := Nat.pow_le_pow_right (by decide) (by exact om203 hsub hil)
  have h3p := Nat.pow_pos (n := i) (show 0 < 3 by decide)
  have hxt : x ∉ told.take i := by
    intro q
    obtain ⟨j, hj, hj2⟩ := List.mem_take_iff_getElem.mp q
    have := (List.getElem_inj T.nd).mp (hj2.trans hxe.symm)
    omega
  have hti : (told.take i).length ≤ 6 := by rw [List.length_take]; exact om62 hsub
  have q1 := I.table
  have T2 := I.kp.keep _ _ hn id
  have hd : dfind x (encT es) = some u.enc := by rw [dfind_enc, hu]; rfl
  have hpl : (u.par.map encP).length < 90000 := by rw [List.length_map, Tm.par_len]; exact om204 g2
  rw [b15_1_0]
  refine pexs_step n15_1_0_0 fun K hK _ _ => ?_
  walk_at "W"
  refine parts_run u _ _ _ (by exact om63 g2) (by exact om64 g2) fun r3 S3 k3 hr3 e3 => ?_
  walk_at "W"
  refine hK _ _ ?_
  have p1 : (m.upd "some" (.ref r3)) "table" = some (.ref n) := upd_ne (by kernel_rfl) q1
  have p2 : (m.upd "some" (.ref r3)) "found" = some (.ref f) := upd_ne (by kernel_rfl) I.found
  have p3 : (m.upd "some" (.ref r3)) "sizes" = some (.ref (f + 1)) := upd_ne (by kernel_rfl) I.sizes
  have p4 : (m.upd "some" (.ref r3)) "depths" = some (.ref (f + 2)) := upd_ne (by kernel_rfl) I.depths
  have p5 : (m.upd "some" (.ref r3)) "name" = some (.str x) := upd_ne (by kernel_rfl) mx
  have p6 : (m.upd "some" (.ref r3)) "some" = some (.ref r3) := upd_self
  generalize m.upd "some" (.ref r3) = m1 at p1 p2 p3 p4 p5 p6 ⊢
  clear q1 mx
  -- sizes
  refine pexs_step n15_1_0_1 fun K hK _ _ => ?_
  have z3 := k3.keep _ _ I.zo id
  walk_at "W"
  refine mcomp_rule (vals := u.par.map encP) (f := szV zs) ["sizes"] hpl (fun v _ => szV_one zs v) ?_ ?_ ?_
  · walk_at "W"
    exact ⟨.refl _ _, live_src e3, rfl⟩
  · intro v m2 S4 hv hm hk1
    obtain ⟨⟨p, q⟩, hp, rfl⟩ := List.mem_map.mp hv
    have h1 : m2 "sizes" = some (.ref (f + 1)) := (hm "sizes" (List.mem_singleton.mpr rfl)).trans p3
    have h2 : ((m2.upd "path" (.tup (p.map .int))).upd "part" q.enc) "sizes" = some (.ref (f + 1)) := upd_ne (by kernel_rfl) (upd_ne (by kernel_rfl) h1)
    refine ⟨(m2.upd "path" (.tup (p.map .int))).upd "part" q.enc, by kernel_rfl, ?_, r_ret ⟨.refl _ _, ?_⟩⟩
    · intro y hy
      rw [List.mem_singleton.mp hy]
      exact h2.trans (h1.symm.trans (hm "sizes" (List.mem_singleton.mpr rfl)))
    · rw [if_pos rfl]
      exact part_val (p := (p, q)) upd_self h2 (hk1.keep _ _ z3 id) ⟨.refl _ _, szV_enc zs (p, q)⟩
  intro r5 S5 k5 hr5 e5
  rw [szV_map] at e5
  have hzb : ∀ z ∈ u.par.map (sz1 zs), 0 ≤ z ∧ z ≤ ((3 ^ i : Nat) : Int) := by
    intro z hz
    obtain ⟨q, _, rfl⟩ := List.mem_map.mp hz
    unfold sz1
    split
    · exact lookI_in (P := fun z => 0 ≤ z ∧ z ≤ ((3 ^ i : Nat) : Int)) ⟨by decide, by exact om65 h3p⟩ I.zb
    · exact ⟨by decide, by exact om65 h3p⟩
  have hzl : (u.par.map (sz1 zs)).length ≤ 3 := by rw [List.length_map, Tm.par_len]; exact om205 g2
  generalize u.par.map (sz1 zs) = zl at e5 hzb hzl
  have hzs := sum_le zl hzb
  have hzm : (zl.length : Int) * ((3 ^ i : Nat) : Int) ≤ 3 * ((3 ^ i : Nat) : Int) := Int.mul_le_mul_of_nonneg_right (by exact om206 hzl) (by exact om207 h3p)
  refine r_sum e5 (by exact om208 hzl) (fun z hz => decide_eq_true (by have := hzb z hz; exact om209 h3i this)) ?_
  have z5 := k5.keep _ _ z3 id
  have zlen : (intD zs).length < lineLen := by
    have := congrArg List.length I.zk
    rw [List.length_map] at this
    unfold intD; rw [List.length_map, this]; show _ < 100000; exact om11 hti
  have dlen : (intD ds).length < lineLen := by
    have := congrArg List.length I.dk
    rw [List.length_map] at this
    unfold intD; rw [List.length_map, this]; show _ < 100000; exact om11 hti
  walk_at "W"
  refine hK _ _ ?_
  rw [dput_new (by rw [intD_keys, I.zk]; exact hxt), intD_snoc]
  have hz6 := St.set_self (o := .dct (intD (zs ++ [(x, zl.sum)]))) (St.lt z5)
  have hd6 : (S5.set (f + 1) (.dct (intD (zs ++ [(x, zl.sum)]))))[f + 2]? = some (.dct (intD ds)) := by rw [List.getElem?_set_ne (by exact om12)]; exact k5.keep _ _ (k3.keep _ _ I.dd id) id
  have hf6 : (S5.set (f + 1) (.dct (intD (zs ++ [(x, zl.sum)]))))[f]? = some (.dct (encT ((told.take i).map fun x => (x, Wf x)))) := by rw [List.getElem?_set_ne (by exact om7)]; exact k5.keep _ _ (k3.keep _ _ I.fo id) id
  have hk6 : Kp no1 S0 (S5.set (f + 1) (.dct (intD (zs ++ [(x, zl.sum)])))) := ((I.kp.trans k3).trans k5).set_new (by exact om13 hf)
  have e36 : (S5.set (f + 1) (.dct (intD (zs ++ [(x, zl.sum)]))))[r3]? = some (.lst (u.par.map encP)) := by
    rw [List.getElem?_set_ne (by have := St.lt I.dd; exact om210 hr3 this)]; exact k5.keep _ _ e3 id
  have e26 : (S5.set (f + 1) (.dct (intD (zs ++ [(x, zl.sum)]))))[r]? = some (.lst rl) := by
    rw [List.getElem?_set_ne (by exact om211 hr)]; exact k5.keep _ _ (k3.keep _ _ e2 id) id
  generalize List.set S5 (f + 1) _ = S6 at hz6 hd6 hf6 hk6 e36 e26 ⊢
  clear z5 e5 z3 e3 T2
  -- depths
  refine pexs_step n15_1_0_2 fun K hK _ _ => ?_
  walk_at "W"
  refine mcomp_rule (vals := u.par.map encP) (f := dpV ds) ["depths"] hpl (fun v _ => dpV_one ds v) ?_ ?_ ?_
  · walk_at "W"
    exact ⟨.refl _ _, live_src e36, rfl⟩
  · intro v m2 S4 hv hm hk1
    obtain ⟨⟨p, q⟩, hp, rfl⟩ := List.mem_map.mp hv
    have h1 : m2 "depths" = some (.ref (f + 2)) := (hm "depths" (List.mem_singleton.mpr rfl)).trans p4
    have h2 : ((m2.upd "path" (.tup (p.map .int))).upd "part" q.enc) "depths" = some (.ref (f + 2)) := upd_ne (by kernel_rfl) (upd_ne (by kernel_rfl) h1)
    refine ⟨(m2.upd "path" (.tup (p.map .int))).upd "part" q.enc, by kernel_rfl, ?_, r_ret ⟨.refl _ _, ?_⟩⟩
    · intro y hy
      rw [List.mem_singleton.mp hy]
      exact h2.trans (h1.symm.trans (hm "depths" (List.mem_singleton.mpr rfl)))
    · rw [if_pos rfl]
      have hpn : p.length ≤ u.size := Tm.par_path u _ hp
      have hpm : (p.map PV.int).length = p.length := List.length_map ..
      walk_at "W"
      refine r_lenT (by exact om212 g2 hpn hpm) ?_
      refine r_bnd (part_val (p := (p, q)) upd_self h2 (hk1.keep _ _ hd6 id) ?_)
      have hb : 0 ≤ sz1 ds (p, q) ∧ sz1 ds (p, q) ≤ 2 * (i : Int) + 1 := by
        unfold sz1
        split
        · exact lookI_in (P := fun z => 0 ≤ z ∧ z ≤ 2 * (i : Int) + 1) ⟨by decide, by exact om14⟩ I.db
        · exact ⟨by decide, by exact om14⟩
      refine r_add (small_nat (by exact om213 g2 hpn hpm)) (decide_eq_true (by exact om214 hsub hil hb)) ⟨.refl _ _, ?_⟩
      rw [dpV_enc, hpm]; rfl
  intro r8 S8 k8 hr8 e8
  rw [dpV_map] at e8
  have hdb : ∀ z ∈ u.par.map (dp1 ds), 0 ≤ z ∧ z ≤ 2 * ((i + 1 : Nat) : Int) + 1 := by
    intro z hz
    obtain ⟨q, hq, rfl⟩ := List.mem_map.mp hz
    have hpd := Tm.par_path2 u q hq
    have hs : 0 ≤ sz1 ds q ∧ sz1 ds q ≤ 2 * (i : Int) + 1 := by
      unfold sz1
      split
      · exact lookI_in (P := fun z => 0 ≤ z ∧ z ≤ 2 * (i : Int) + 1) ⟨by decide, by exact om14⟩ I.db
      · exact ⟨by decide, by exact om14⟩
    unfold dp1
    exact om215 g2 hpd hs
  have hdl : 0 < (u.par.map (dp1 ds)).length := by rw [List.length_map, Tm.par_len]; cases u <;> simp [Tm.size]
  generalize u.par.map (dp1 ds) = dl at e8 hdb hdl
  cases dl with
  | nil => cases hdl
  | cons d0 dl =>
    have hmx := maxL_le dl d0 (hdb d0 (by simp)) fun z hz => hdb z (by simp [hz])
    refine r_max e8 ?_
    have d8 := k8.keep _ _ hd6 id
    walk_at "W"
    refine hK _ _ ?_
    rw [dput_new (by rw [intD_keys, I.dk]; exact hxt), intD_snoc]
    have hd9 := St.set_self (o := .dct (intD (ds ++ [(x, maxL d0 dl)]))) (St.lt d8)
    have hz9 : (S8.set (f + 2) (.dct (intD (ds ++ [(x, maxL d0 dl)]))))[f + 1]? = some (.dct (intD (zs ++ [(x, zl.sum)]))) := by rw [List.getElem?_set_ne (by exact om23)]; exact k8.keep _ _ hz6 id
    have hf9 : (S8.set (f + 2) (.dct (intD (ds ++ [(x, maxL d0 dl)]))))[f]? = some (.dct (encT ((told.take i).map fun x => (x, Wf x)))) := by rw [List.getElem?_set_ne (by exact om24)]; exact k8.keep _ _ hf6 id
    have hk9 : Kp no1 S0 (S8.set (f + 2) (.dct (intD (ds ++ [(x, maxL d0 dl)])))) := (hk6.trans k8).set_new (by exact om216 hf)
    have e29 : (S8.set (f + 2) (.dct (intD (ds ++ [(x, maxL d0 dl)]))))[r]? = some (.lst rl) := by rw [List.getElem?_set_ne (by exact om217 hr)]; exact k8.keep _ _ e26 id
    generalize List.set S8 (f + 2) _ = S9 at hd9 hz9 hf9 hk9 e29 ⊢
    clear d8 e8 hz6 hd6 hf6 hk6 e36 e26
    have hdz := dfind_last (x := x) (z := zl.sum) (l := zs) (by rw [I.zk]; exact hxt)
    have hdd := dfind_last (x := x) (z := maxL d0 dl) (l := ds) (by rw [I.dk]; exact hxt)
    have T9 := hk9.keep _ _ hn id
    refine pexs_step n15_1_0_3 fun K hK _ _ => W_if fun KT hT hF => ?_
    walk_at "W"
    rw [decide_eq_false (show ¬ (10000 : Int) < zl.sum by exact om218 h3i hzs hzm)]
    refine r_tOf ?_
    walk_at "W"
    rw [decide_eq_false (show ¬ (200 : Int) < maxL d0 dl by exact om219 hsub hil hmx)]
    refine hF _ ?_
    rw [b15_1_0_3_1]
    refine pexs_nil' (hK _ _ ?_)
    refine pexs_step n15_1_0_4 fun K hK _ _ => ?_
    walk_at "W"
    refine filled_run (k + 3) u _ _ _ _ (by exact om220 g2) hf9 fun S10 k10 => ?_
    have hfs : ∀ y, y ∈ u.tv → look y ((told.take i).map fun x => (x, Wf x)) = if (look y es).isSome = true then some (Wf y) else none := by
      intro y hy
      rw [look_fun]
      by_cases hk : (look y es).isSome = true
      · rw [if_pos hk]
        have hsp : told = told.take i ++ x :: told.drop (i + 1) := by
          have e1 := List.take_append_drop i told
          have e2 := List.drop_eq_getElem_cons hil
          rw [hxe] at e2
          rw [← e2]; exact e1.symm
        rw [if_pos (T.ord _ x _ u hsp hu y hy hk)]
      · rw [if_neg hk, if_neg fun q => hk (T.sub y (List.mem_of_mem_take q))]
    rw [HW x u _ hu hfs]
    have hf11 := k10.keep _ _ hf9 id
    have ek : (encT ((told.take i).map fun x => (x, Wf x))).map (·.1) = told.take i := by
      unfold encT
      rw [List.map_map, List.map_map]; exact List.map_id'' (fun _ => rfl) _
    have htl : (encT ((told.take i).map fun x => (x, Wf x))).length < lineLen := by
      have := congrArg List.length ek
      rw [List.length_map] at this
      rw [this]; show _ < 100000; exact om11 hti
    have htk : told.take (i + 1) = told.take i ++ [x] := by rw [List.take_add_one, hxi]; rfl
    have hfn : dput x (Wf x).enc (encT ((told.take i).map fun x => (x, Wf x))) = encT ((told.take (i + 1)).map fun x => (x, Wf x)) := by
      rw [dput_new (by rw [ek]; exact hxt), htk, List.map_append]; unfold encT; rw [List.map_append]; rfl
    walk_at "W"
    rw [hfn]
    have h3e : (3 : Nat) ^ (i + 1) = 3 ^ i * 3 := Nat.pow_succ ..
    refine hK _ _ (pexs_nil' (h _ _ (zs ++ [(x, zl.sum)]) (ds ++ [(x, maxL d0 dl)]) ⟨p1, p2, p3, p4, (hk9.trans k10).set_new hf, St.set_self (St.lt hf11), ?_, ?_, ?_, ?_, ?_, ?_⟩ ?_))
    · rw [List.getElem?_set_ne (by exact om66)]; exact k10.keep _ _ hz9 id
    · rw [List.getElem?_set_ne (by exact om67)]; exact k10.keep _ _ hd9 id
    · intro e he
      rcases List.mem_append.mp he with q | q
      · have := I.zb e q; exact om221 this
      · rw [List.mem_singleton.mp q]; exact ⟨hzs.1, by exact om222 hzs hzm⟩
    · intro e he
      rcases List.mem_append.mp he with q | q
      · have := I.db e q; exact om223 this
      · rw [List.mem_singleton.mp q]; exact hmx
    · rw [htk, List.map_append, I.zk]; rfl
    · rw [htk, List.map_append, I.dk]; rfl
    · rw [List.getElem?_set_ne (by exact om224 hr)]; exact k10.keep _ _ e29 id
end
theorem worked_out_run {es : Tab} {ρ : Str → Nat} {n k : Nat} {S : St} {Q : PV → St → Prop} {Wf : Str → Tm} (G : Good es ρ) (hn : S[n]? = some (.dct (encT es)))
    (HW : ∀ x u fs, look x es = some u → (∀ y ∈ u.tv, look y fs = if (look y es).isSome = true then some (Wf y) else none) → fil fs u = Wf x)
    (h : ∀ r S' told, Kp no1 S S' → S.length ≤ r → S'[r]? = some (.dct (encT (told.map fun x => (x, Wf x)))) → TI es told [] → Q (.ref r) S') : W (cal (k + 6) 108 [.ref n]) S Q := by
  refine call_run (i := 15) rfl rfl fun K0 hret _ => ?_
  have m0 := p15_0 (v0 := .ref n)
  generalize bindAll _ _ _ = m at m0 ⊢
  rw [b15]
  refine pexs_step n15_0 fun K hK _ _ => ?_
  walk_at "W"
  refine r_var a15_0 ?_
  walk_at "W"
  refine hK _ _ ?_
  have k0 : Kp no1 S (S ++ [PO.dct []] ++ [PO.dct []] ++ [PO.dct []]) := ((Kp.app no1 S _).trans (Kp.app no1 _ _)).trans (Kp.app no1 _ _)
  have l1 : (S ++ [PO.dct []]).length = S.length + 1 := by rw [List.length_append]; rfl
  have l2 : (S ++ [PO.dct []] ++ [PO.dct []]).length = S.length + 2 := by rw [List.length_append, l1]; rfl
  have l3 : (S ++ [PO.dct []] ++ [PO.dct []] ++ [PO.dct []]).length = S.length + 3 := by rw [List.length_append, l2]; rfl
  have g2 : (S ++ [PO.dct []] ++ [PO.dct []] ++ [PO.dct []])[S.length + 2]? = some (.dct []) := by rw [← l2]; exact St.app_self
  have g1 : (S ++ [PO.dct []] ++ [PO.dct []] ++ [PO.dct []])[S.length + 1]? = some (.dct []) := (Kp.app no1 _ _).keep _ _ (by rw [← l1]; exact St.app_self) id
  have g0 : (S ++ [PO.dct []] ++ [PO.dct []] ++ [PO.dct []])[S.length]? = some (.dct []) := (Kp.app no1 _ _).keep _ _ ((Kp.app no1 _ _).keep _ _ St.app_self id) id
  rw [l1, l2]
  have q1 : (((m.upd "found" (.ref S.length)).upd "sizes" (.ref (S.length + 1))).upd "depths" (.ref (S.length + 2))) "table" = some (.ref n) := upd_ne (by kernel_rfl) (upd_ne (by kernel_rfl) (upd_ne (by kernel_rfl) m0))
  have q2 : (((m.upd "found" (.ref S.length)).upd "sizes" (.ref (S.length + 1))).upd "depths" (.ref (S.length + 2))) "found" = some (.ref S.length) := upd_ne (by kernel_rfl) (upd_ne (by kernel_rfl) upd_self)
  have q3 : (((m.upd "found" (.ref S.length)).upd "sizes" (.ref (S.length + 1))).upd "depths" (.ref (S.length + 2))) "sizes" = some (.ref (S.length + 1)) := upd_ne (by kernel_rfl) upd_self
  have q4 : (((m.upd "found" (.ref S.length)).upd "sizes" (.ref (S.length + 1))).upd "depths" (.ref (S.length + 2))) "depths" = some (.ref (S.length + 2)) := upd_self
  generalize ((m.upd "found" (.ref S.length)).upd "sizes" (.ref (S.length + 1))).upd "depths" (.ref (S.length + 2)) = m1 at q1 q2 q3 q4 ⊢
  generalize S ++ [PO.dct []] ++ [PO.dct []] ++ [PO.dct []] = Sa at k0 l3 g2 g1 g0 ⊢
  refine pexs_step n15_1 fun K hK _ _ => ?_
  walk_at "W"
  refine in_turn_run G (k0.keep _ _ hn id) fun r S1 told k1 hr e1 T => ?_
  walk_at "W"
  refine r_iteF ?_
  have hsub : told.length ≤ 6 := Nat.le_trans (nodup_sub_len told (es.map (·.1)) T.nd fun x hx => look_key.mp (T.sub x hx)) (by rw [List.length_map]; exact G.len)
  rw [l3] at hr
  refine floop_rule (vals := told.map .str) (P := fun i m2 S2 => i ≤ told.length ∧ S2[r]? = some (.lst (told.map .str)) ∧ ∃ zs ds, WO n S.length es Wf told S i m2 S2 zs ds) ?_ ?_ ?_ wf0 0 _ _ (by rw [List.length_map]; show _ < 0 + 100000; exact om68 hsub) (Nat.zero_le _)
    ⟨Nat.zero_le _, e1, [], [], ⟨q1, q2, q3, q4, k0.trans k1, k1.keep _ _ g0 id, k1.keep _ _ g1 id, k1.keep _ _ g2 id, (fun e he => by cases he), (fun e he => by cases he), rfl, rfl⟩⟩
  · rintro i m2 S2 ⟨_, e2, _⟩
    exact (SrcIs.pat (acc := r + 1) (.inr (.inl ⟨r, rfl, e2, Nat.ne_of_lt (Nat.lt_succ_self r)⟩)) (.refl _ _) i)
  · rintro i v m2 S2 hv ⟨hi, e2, zs, ds, I⟩
    obtain ⟨x, hx, rfl⟩ := List.mem_map.mp (List.mem_of_getElem? hv)
    have hxi : told[i]? = some x := by
      rw [List.getElem?_map] at hv
      obtain ⟨y, hy, hy2⟩ := Option.map_eq_some_iff.mp hv
      cases hy2; exact hy
    obtain ⟨u, hu⟩ := Option.isSome_iff_exists.mp (T.sub x hx)
    obtain ⟨e, he, he2, _⟩ := look_mem hu
    have g2 := G.two e he
    rw [he2] at g2
    have I' : WO n S.length es Wf told S i (m2.upd "name" (.str x)) S2 zs ds :=
      { I with table := upd_ne (by kernel_rfl) I.table, found := upd_ne (by kernel_rfl) I.found, sizes := upd_ne (by kernel_rfl) I.sizes, depths := upd_ne (by kernel_rfl) I.depths }
    refine ⟨_, rfl, out_turn hn (Nat.le_refl _) T hsub hxi hu g2 HW I' e2 hr upd_self fun m' S' zs' ds' I2 e3 => ⟨.inl rfl, ?_, e3, zs', ds', I2⟩⟩
    exact (List.getElem?_eq_some_iff.mp hxi).1
  · rintro m2 S2 ⟨_, e2, zs, ds, I⟩
    refine hK _ _ ?_
    refine pexs_step n15_2 fun K hK hR _ => ?_
    have q5 := I.found
    walk_at "W"
    have hfo := I.fo
    rw [List.length_map, List.take_length] at hfo
    exact hR _ _ _ (hret _ _ _ (h _ _ told I.kp (Nat.le_refl _) hfo T))
end Mine.Internal
end

section
open PySem
namespace Mine.Internal
theorem sle_iff {a b : Str} : sle a b = true ↔ a.cps.toList ≤ b.cps.toList := by
  unfold sle
  rw [Bool.not_eq_true', decide_eq_false_iff_not]
  exact Iff.rfl
theorem str_ext {a b : Str} (h : a.cps.toList = b.cps.toList) : a = b := by
  cases a; cases b
  simp only [Str.mk.injEq]
  exact Array.toList_inj.mp h
theorem psort_permP {l m : List Str} (h : l.Perm m) : psort l = psort m := by
  have tr : ∀ a b c : Str, sle a b = true → sle b c = true → sle a c = true := fun a b c h1 h2 => sle_iff.mpr (List.le_trans (sle_iff.mp h1) (sle_iff.mp h2))
  have to : ∀ a b : Str, (sle a b || sle b a) = true := fun a b => by
    rw [Bool.or_eq_true, sle_iff, sle_iff]; exact List.le_total _ _
  refine List.Perm.eq_of_pairwise (le := fun a b => sle a b = true) (fun a b _ _ h1 h2 => str_ext (List.le_antisymm (sle_iff.mp h1) (sle_iff.mp h2))) (List.pairwise_mergeSort tr to l) (List.pairwise_mergeSort tr to m) ?_
  exact (List.mergeSort_perm l sle).trans (h.trans (List.mergeSort_perm m sle).symm)
theorem psort_set {l m : List Str} (hl : l.Nodup) (hm : m.Nodup) (h : ∀ x, x ∈ l ↔ x ∈ m) : psort l = psort m := psort_permP ((List.perm_ext_iff_of_nodup hl hm).mpr h)
theorem eqbL_str : ∀ l : List Str, eqbL (eqb 60) (l.map .str) (l.map .str) = true
  | [] => rfl
  | x :: r => by
    have : eqb 60 (.str x) (.str x) = true := by simp [eqb]
    simp only [List.map_cons, eqbL, eqbL_str r, this, Bool.and_self]
noncomputable def okT : Tm → Prop
  | .lf x => PyData.strOk x = true
  | .n1 h a => PyData.strOk h = true ∧ okT a
  | .n2 h a b => PyData.strOk h = true ∧ okT a ∧ okT b
theorem eqb_str (n : Nat) (x y : Str) : eqb n (.str x) (.str y) = (x == y) := by cases n <;> rfl
theorem isD_str (n : Nat) (x : Str) : PV.isD n (.str x) = PyData.strOk x := by cases n <;> rfl
theorem eqb_enc : ∀ (t : Tm) (n : Nat), t.depth < n → eqb n t.enc t.enc = true
  | .lf x, n + 1, h => by simp [Tm.enc, eqb, eqbL, eqb_str]
  | .n1 g a, n + 1, h => by
    have := eqb_enc a n (by simp [Tm.depth] at h; omega)
    simp [Tm.enc, eqb, eqbL, eqb_str, this]
  | .n2 g a b, n + 1, h => by
    have h1 := eqb_enc a n (by simp [Tm.depth] at h; exact om69 h)
    have h2 := eqb_enc b n (by simp [Tm.depth] at h; exact om70 h)
    simp [Tm.enc, eqb, eqbL, eqb_str, h1, h2]
theorem isD_enc : ∀ (t : Tm) (n : Nat), t.depth < n → okT t → PV.isD n t.enc = true
  | .lf x, n + 1, h, o => by
    have o : PyData.strOk x = true := o
    simp [Tm.enc, PV.isD, isD_str, o]
  | .n1 g a, n + 1, h, o => by
    have := isD_enc a n (by simp [Tm.depth] at h; omega) o.2
    simp [Tm.enc, PV.isD, isD_str, o.1, this]
  | .n2 g a b, n + 1, h, o => by
    have h1 := isD_enc a n (by simp [Tm.depth] at h; exact om69 h) o.2.1
    have h2 := isD_enc b n (by simp [Tm.depth] at h; exact om70 h) o.2.2
    simp [Tm.enc, PV.isD, isD_str, o.1, h1, h2]
/-- a term with its names put -/
noncomputable def apt (names : List Str) (Wf : Str → Tm) : Tm → Tm
  | .lf y => if y ∈ names then Wf y else .lf y
  | .n1 h a => .n1 h (apt names Wf a)
  | .n2 h a b => .n2 h (apt names Wf a) (apt names Wf b)
theorem fil_apt {names : List Str} {Wf : Str → Tm} {fs : Tab} (hv : ∀ x ∈ names, isV x = true) : ∀ u : Tm, (∀ y ∈ u.tv, look y fs = if y ∈ names then some (Wf y) else none) → fil fs u = apt names Wf u
  | .lf y, h => by
    unfold fil apt
    by_cases q : isV y = true
    · rw [if_pos q, h y (by simp [Tm.tv, q])]
      split <;> rfl
    · rw [if_neg q, if_neg fun q2 => q (hv y q2)]
  | .n1 g a, h => by
    unfold fil apt
    rw [fil_apt hv a h]
  | .n2 g a b, h => by
    unfold fil apt
    rw [fil_apt hv a fun y hy => h y (by simp [Tm.tv, hy]), fil_apt hv b fun y hy => h y (by simp [Tm.tv, hy])]
/-- a table whose wholes are Wf -/
structure Fit (es : Tab) (ρ : Str → Nat) (names : List Str) (Wf : Str → Tm) : Prop where
  good : Good es ρ
  keys : ∀ x, (look x es).isSome = true ↔ x ∈ names
  fit : ∀ x u, look x es = some u → apt names Wf u = Wf x
  nd : names.Nodup
  nl : names.length ≤ 6
  nv : ∀ x ∈ names, isV x = true ∧ PyData.strOk x = true
  wd : ∀ x ∈ names, (Wf x).depth < 60 ∧ okT (Wf x)
theorem mem_lvs : ∀ {t v : Tm}, v ∈ t.lvs → ∃ y, v = .lf y ∧ (isV y = true → y ∈ t.tv)
  | .lf x, v, h => by
    simp [Tm.lvs] at h; subst h
    exact ⟨x, rfl, fun q => by simp [Tm.tv, q]⟩
  | .n1 g a, v, h => by
    obtain ⟨y, e, h⟩ := mem_lvs (t := a) h
    exact ⟨y, e, h⟩
  | .n2 g a b, v, h => by
    simp only [Tm.lvs, List.mem_append] at h
    rcases h with h | h
    · obtain ⟨y, e, h⟩ := mem_lvs (t := a) h
      exact ⟨y, e, fun q => by simp [Tm.tv, h q]⟩
    · obtain ⟨y, e, h⟩ := mem_lvs (t := b) h
      exact ⟨y, e, fun q => by simp [Tm.tv, h q]⟩
theorem q_ne_ref {i j : Nat} : pcmp .NotEq (.ref i) (.ref j) = PM.bnd (PM.getL i) fun xs => PM.bnd (PM.getL j) fun ys => if xs.all (PV.isD cmpDepth) && ys.all (PV.isD cmpDepth) then .ret (.bool (!(eqbL (eqb cmpDepth) xs ys))) else .fail := rfl
theorem q_eq_ref {i j : Nat} : pcmp .Eq (.ref i) (.ref j) = PM.bnd (PM.getD i) fun xs => PM.bnd (PM.getD j) fun ys => if xs.all (fun e => PV.isD cmpDepth e.2) && ys.all (fun e => PV.isD cmpDepth e.2) then .ret (.bool (xs.length == ys.length && eqD xs ys)) else .fail := rfl
theorem cmpDepth_eq : cmpDepth = 60 := rfl
theorem eqD_fun {Wf : Str → Tm} {l m : List Str} (h : ∀ x ∈ l, x ∈ m) (hd : ∀ x ∈ m, (Wf x).depth < 60) : eqD (encT (l.map fun x => (x, Wf x))) (encT (m.map fun x => (x, Wf x))) = true := by
  unfold eqD
  rw [List.all_eq_true]
  intro e he
  obtain ⟨⟨y, u⟩, hy, rfl⟩ := List.mem_map.mp he
  obtain ⟨x, hx, e2⟩ := List.mem_map.mp hy
  cases e2
  simp only [dfind_enc, look_fun, if_pos (h y hx), Option.map_some]
  exact eqb_enc _ _ (hd y (h y hx))
theorem allD_fun {Wf : Str → Tm} {l : List Str} (h : ∀ x ∈ l, (Wf x).depth < 60 ∧ okT (Wf x)) : (encT (l.map fun x => (x, Wf x))).all (fun e => PV.isD 60 e.2) = true := by
  rw [List.all_eq_true]
  intro e he
  obtain ⟨⟨y, u⟩, hy, rfl⟩ := List.mem_map.mp he
  obtain ⟨x, hx, e2⟩ := List.mem_map.mp hy
  cases e2
  exact isD_enc _ _ (h y hx).1 (h y hx).2
theorem St.app_keep {S : St} {n : Nat} {o : PO} (h : S[n]? = some o) (L : St) : (S ++ L)[n]? = some o := by rw [List.getElem?_append_left (St.lt h)]; exact h
theorem r_neL {i j : Nat} {xs ys : List PV} {S : St} {Q : PV → St → Prop} (e1 : S[i]? = some (.lst xs)) (e2 : S[j]? = some (.lst ys)) (d1 : xs.all (PV.isD 60) = true) (d2 : ys.all (PV.isD 60) = true) (h : Q (.bool (!(eqbL (eqb 60) xs ys))) S) : W (pcmp .NotEq (.ref i) (.ref j)) S Q := by
  rw [q_ne_ref]; refine r_bnd ((W_getL e1).mpr (r_bnd ((W_getL e2).mpr (r_pos ?_ (r_ret h)))))
  show (xs.all (PV.isD 60) && ys.all (PV.isD 60)) = true
  rw [d1, d2]; rfl
theorem told_names {es : Tab} {ρ : Str → Nat} {names : List Str} {Wf : Str → Tm} {told : List Str} (F : Fit es ρ names Wf) (T : TI es told []) (x : Str) : x ∈ told ↔ x ∈ names :=
  ⟨fun q => (F.keys x).mp (T.sub x q), fun q => (T.all x ((F.keys x).mpr q)).elim id fun ⟨b, hb⟩ => by cases hb⟩
theorem r_notinL {x : Str} {j : Nat} {l : List Str} {S : St} {Q : PV → St → Prop} (e : S[j]? = some (.lst (l.map .str))) (h : Q (.bool (!(l.contains x))) S) : W (pcmp .NotIn (.str x) (.ref j)) S Q := by
  rw [q_notin_str]; refine r_bnd ((W_getO e).mpr ?_)
  show W (PM.bnd (PM.lift (strsOf? (l.map .str))) _) S Q
  rw [strsOf_map]; exact r_bnd (W_lift.mpr (r_ret h))
theorem r_toL {n k : Nat} {vs : List PV} {S : St} {Q : PV → St → Prop} (e : S[n]? = some (.lst vs)) (hk : k ≤ 1000) (hl : vs.length ≤ lineLen) (h : Q (.ref S.length) (S ++ [.lst (vs.take k)])) : W (psliceTo (.ref n) (k : Int)) S Q := by
  rw [q_to_ref]; refine r_bnd ((W_getL e).mpr (r_pos ?_ (W_alloc.mpr ?_)))
  · rw [decide_eq_true hl, decide_eq_true (by exact om8), decide_eq_true (by exact om9 hk)]; rfl
  · rw [Int.toNat_natCast]; exact h
theorem flat_none : ∀ l : List PV, l.flatMap (fun _ => ([] : List PV)) = []
  | [] => rfl
  | _ :: r => flat_none r
section
variable {es : Tab} {ρ : Str → Nat} {names : List Str} {Wf : Str → Tm} {n w k r : Nat} {S S3 : St} {told : List Str}
/-- a told name's leaves stand before it -/
theorem right_turn {i : Nat} {x : Str} {m : Fm} {Q : PFlow × Fm → St → Prop} (F : Fit es ρ names Wf) (T : TI es told []) (hl6 : told.length ≤ 6) (hxi : told[i]? = some x) (n3 : S3[n]? = some (.dct (encT es))) (e3 : S3[r]? = some (.lst (told.map .str)))
    (m1 : m "table" = some (.ref n)) (m2 : m "told" = some (.ref r)) (m3 : m "spot" = some (.int i)) (m4 : m "name" = some (.str x)) (h : ∀ S', Kp no1 S3 S' → Q (.next, m) S') :
    W (pexs (C0 (k + 5)) 56 (fdI 22).scope (blkS s22_2 0) m) S3 Q := by
  have hil : i < told.length := (List.getElem?_eq_some_iff.mp hxi).1
  obtain ⟨u, hu⟩ := Option.isSome_iff_exists.mp (T.sub x (List.mem_of_getElem? hxi))
  obtain ⟨e, he, he2, _⟩ := look_mem hu
  have g2 := F.good.two e he
  rw [he2] at g2
  have hd : dfind x (encT es) = some u.enc := by rw [dfind_enc, hu]; rfl
  rw [b22_2_0]
  refine pexs_step n22_2_0_0 fun K hK _ _ => W_if fun KT hT hF => ?_
  walk_at "W"
  refine mcomp_rule (vals := u.lvs.map Tm.enc) (f := fun _ => []) ["table", "told", "spot"] (by have := u.lvs_len; rw [List.length_map]; exact om225 g2 this) (fun v _ => Nat.zero_le _) ?_ ?_ ?_
  · walk_at "W"
    refine leaves_run _ u _ _ (show u.depth ≤ k + 4 by exact om63 g2) (by exact om64 g2) fun r4 S4 k4 hr4 e4 => ?_
    exact r_srcL e4 ⟨k4, live_src e4, rfl⟩
  · intro v m1' S4 hv hm hk1
    obtain ⟨l, hl, rfl⟩ := List.mem_map.mp hv
    obtain ⟨y, rfl, hy⟩ := mem_lvs hl
    have h1 : m1' "table" = some (.ref n) := (hm "table" (by simp)).trans m1
    have h2 : m1' "told" = some (.ref r) := (hm "told" (by simp)).trans m2
    have h3 : m1' "spot" = some (.int i) := (hm "spot" (by simp)).trans m3
    have g1 : (m1'.upd "leaf" (Tm.lf y).enc) "table" = some (.ref n) := upd_ne (by kernel_rfl) h1
    have g2 : (m1'.upd "leaf" (Tm.lf y).enc) "told" = some (.ref r) := upd_ne (by kernel_rfl) h2
    have g3 : (m1'.upd "leaf" (Tm.lf y).enc) "spot" = some (.int i) := upd_ne (by kernel_rfl) h3
    have n4 := hk1.keep _ _ n3 id
    have e4 := hk1.keep _ _ e3 id
    refine ⟨m1'.upd "leaf" (Tm.lf y).enc, rfl, ?_, ?_⟩
    · intro z hz
      simp only [List.mem_cons, List.not_mem_nil, or_false] at hz
      rcases hz with rfl | rfl | rfl
      · exact g1.trans m1.symm
      · exact g2.trans m2.symm
      · exact g3.trans m3.symm
    · walk_at "W"
      show W (tbo .And (dfind y (encT es)).isSome _) S4 _
      rw [dfind_enc, Option.isSome_map]
      cases hly : (look y es).isSome with
      | false =>
        walk_at "W"
        exact ⟨.refl _ _, rfl⟩
      | true =>
        have hsp : told = told.take i ++ x :: told.drop (i + 1) := by
          have e1 := List.take_append_drop i told
          have e2 := List.drop_eq_getElem_cons hil
          rw [(List.getElem?_eq_some_iff.mp hxi).2] at e2
          rw [← e2]; exact e1.symm
        have hyt := T.ord _ x _ u hsp hu y (hy (F.nv y ((F.keys y).mp hly)).1) hly
        walk_at "W"
        refine r_toL e4 (by exact om15 hl6 hil) (by rw [List.length_map]; show _ ≤ 100000; exact om16 hl6) ?_
        rw [← List.map_take]
        refine r_notinL St.app_self ?_
        rw [show (told.take i).contains (Tm.lf y).head = true from List.contains_iff_mem.mpr hyt]
        walk_at "W"
        show W (if false = true then _ else _) _ _
        walk_at "W"
        exact ⟨Kp.app _ _ _, rfl⟩
  · intro r5 S5 k5 hr5 e5
    rw [flat_none] at e5
    walk_at "W"
    refine r_neL (St.app_keep e5 _) St.app_self rfl rfl ?_
    walk_at "W"
    show KT false _
    refine hF _ ?_
    rw [b22_2_0_0_1]
    exact pexs_nil' (hK _ _ (pexs_nil' (h _ (k5.trans (Kp.app _ _ _)))))
theorem is_right_run {Q : PV → St → Prop} (F : Fit es ρ names Wf) (hn : S[n]? = some (.dct (encT es)))
    (hw : S[w]? = some (.dct (encT (names.map fun x => (x, Wf x))))) (h : ∀ S', Kp no1 S S' → Q (.bool true) S') : W (cal (k + 7) 138 [.ref n, .ref w]) S Q := by
  refine call_run (i := 22) rfl rfl fun K0 hret _ => ?_
  have m0 := p22_0 (v0 := .ref n) (v1 := .ref w)
  have m1 := p22_1 (v0 := .ref n) (v1 := .ref w)
  generalize bindAll _ _ _ = m at m0 m1 ⊢
  rw [b22]
  refine pexs_step n22_0 fun K hK _ _ => ?_
  walk_at "W"
  refine in_turn_run F.good hn fun r S1 told k1 hr e1 T => ?_
  walk_at "W"
  refine hK _ _ ?_
  have p0 : (m.upd "told" (.ref r)) "table" = some (.ref n) := upd_ne (by kernel_rfl) m0
  have p1 : (m.upd "told" (.ref r)) "wholes" = some (.ref w) := upd_ne (by kernel_rfl) m1
  have p2 : (m.upd "told" (.ref r)) "told" = some (.ref r) := upd_self
  generalize m.upd "told" (.ref r) = m2 at p0 p1 p2 ⊢
  have htold := told_names F T
  have hp1 : psort told = psort names := psort_set T.nd F.nd htold
  have hp2 : psort (es.map fun x => x.1) = psort names := psort_set F.good.nd F.nd fun x => look_key.symm.trans (F.keys x)
  have hkw : keysOf? (.dct (encT (names.map fun x => (x, Wf x)))) = some names := by
    show some (strKeys _) = _
    rw [keys_enc, List.map_map]; exact congrArg some (List.map_id'' (fun _ => rfl) _)
  have hke : keysOf? (.dct (encT es)) = some (es.map fun x => x.1) := by show some (strKeys _) = _; rw [keys_enc]
  have htl : told.length ≤ 6 := Nat.le_trans (nodup_sub_len told names T.nd fun x hx => (htold x).mp hx) F.nl
  have hnl2 : names.length < 64 := Nat.lt_of_le_of_lt F.nl (by decide)
  have hel2 : (es.map fun x => x.1).length < 64 := by rw [List.length_map]; exact Nat.lt_of_le_of_lt F.good.len (by decide)
  have hps : ((psort names).map PV.str).all (PV.isD 60) = true := List.all_eq_true.mpr fun v hv => by
    obtain ⟨x, hx, rfl⟩ := List.mem_map.mp hv
    rw [isD_str]
    exact (F.nv x (List.mem_mergeSort.mp hx)).2
  have hpe : eqbL (eqb 60) ((psort names).map .str) ((psort names).map .str) = true := eqbL_str _
  refine pexs_step n22_1 fun K hK _ _ => W_if fun KT hT hF => ?_
  have hw1 := k1.keep _ _ hw id
  have hn1 := k1.keep _ _ hn id
  walk_at "W"
  refine r_sorted e1 (strsOf_map told) (by exact om71 htl) ?_
  rw [hp1]
  walk_at "W"
  refine r_sorted (St.app_keep hw1 _) hkw hnl2 ?_
  refine r_neL (St.app_keep St.app_self _) St.app_self hps hps ?_
  rw [hpe]
  refine r_asB ?_
  refine r_tOf ?_
  walk_at "W"
  refine r_sorted (St.app_keep (St.app_keep hn1 _) _) hke hel2 ?_
  rw [hp2]
  walk_at "W"
  refine r_sorted (St.app_keep (St.app_keep (St.app_keep hw1 _) _) _) hkw hnl2 ?_
  refine r_neL (St.app_keep St.app_self _) St.app_self hps hps ?_
  rw [hpe]
  refine r_asB ?_
  refine hF _ ?_
  rw [b22_1_1]
  refine pexs_nil' (hK _ _ ?_)
  have k2 : Kp no1 S1 (S1 ++ [.lst ((psort names).map .str)] ++ [.lst ((psort names).map .str)] ++ [.lst ((psort names).map .str)] ++ [.lst ((psort names).map .str)]) := (((Kp.app no1 S1 _).trans (Kp.app no1 _ _)).trans (Kp.app no1 _ _)).trans (Kp.app no1 _ _)
  generalize S1 ++ [.lst ((psort names).map .str)] ++ [.lst ((psort names).map .str)] ++ [.lst ((psort names).map .str)] ++ [.lst ((psort names).map .str)] = S2 at k2 ⊢
  have e2 := k2.keep _ _ e1 id
  have k2 := k1.trans k2
  refine pexs_step n22_2 fun K hK _ _ => ?_
  walk_at "W"
  refine r_bnd ((W_getL e2).mpr (r_ret (r_iteF ?_)))
  refine floop_rule (vals := told.mapIdx fun i x => .tup [.int i, .str x]) (P := fun i m3 S3 => Kp no1 S S3 ∧ S3[r]? = some (.lst (told.map .str)) ∧ m3 "table" = some (.ref n) ∧ m3 "wholes" = some (.ref w) ∧ m3 "told" = some (.ref r)) ?_ ?_ ?_ wf0 0 _ _ (by rw [List.length_mapIdx]; show _ < 0 + 100000; exact om68 htl) (Nat.zero_le _) ⟨k2, e2, p0, p1, p2⟩
  · rintro i m3 S3 ⟨k3, e3, _⟩
    have eL : PM.getL r S3 = some (told.map .str, S3) := by unfold PM.getL; rw [e3]
    have e4 : Mine.Internal.pat (.enumL r) i S3 = PM.bnd (PM.getL r) (fun vs => PM.ret (vs[i]?.map fun v => .tup [.int i, v])) S3 := rfl
    rw [e4]; unfold PM.bnd; rw [eL]
    show some (_, _) = _
    rw [List.getElem?_mapIdx, List.getElem?_map, Option.map_map]; rfl
  · rintro i v m3 S3 hv ⟨k3, e3, m31, m32, m33⟩
    rw [List.getElem?_mapIdx] at hv
    obtain ⟨x, hxi, rfl⟩ := Option.map_eq_some_iff.mp hv
    have g1 : ((m3.upd "spot" (.int i)).upd "name" (.str x)) "table" = some (.ref n) := upd_ne (by kernel_rfl) (upd_ne (by kernel_rfl) m31)
    have g2 : ((m3.upd "spot" (.int i)).upd "name" (.str x)) "wholes" = some (.ref w) := upd_ne (by kernel_rfl) (upd_ne (by kernel_rfl) m32)
    have g3 : ((m3.upd "spot" (.int i)).upd "name" (.str x)) "told" = some (.ref r) := upd_ne (by kernel_rfl) (upd_ne (by kernel_rfl) m33)
    have g4 : ((m3.upd "spot" (.int i)).upd "name" (.str x)) "spot" = some (.int i) := upd_ne (by kernel_rfl) upd_self
    refine ⟨_, a22_2, right_turn F T htl hxi (k3.keep _ _ hn id) e3 g1 g3 g4 upd_self fun S' k' => ⟨.inl rfl, k3.trans k', k'.keep _ _ e3 id, g1, g2, g3⟩⟩
  · rintro m3 S3 ⟨k3, e3, m31, m32, m33⟩
    refine hK _ _ ?_
    refine pexs_step n22_3 fun K hK hR _ => ?_
    walk_at "W"
    refine worked_out_run (Wf := Wf) F.good (k3.keep _ _ hn id) (fun x u fs hu hfs => ?_) fun r6 S6 told2 k6 hr6 e6 T6 => ?_
    · rw [← F.fit x u hu]
      refine fil_apt (fun x hx => (F.nv x hx).1) u fun y hy => ?_
      rw [hfs y hy]
      simp only [F.keys]
    · have ht2 := told_names F T6
      have hw6 := k6.keep _ _ (k3.keep _ _ hw id) id
      have a1 := allD_fun (Wf := Wf) (l := told2) fun x hx => F.wd x ((ht2 x).mp hx)
      have a2 := allD_fun (Wf := Wf) (l := names) fun x hx => F.wd x hx
      have a3 : (encT (told2.map fun x => (x, Wf x))).length = (encT (names.map fun x => (x, Wf x))).length := by
        unfold encT
        rw [List.length_map, List.length_map, List.length_map, List.length_map]
        exact (List.Perm.length_eq ((List.perm_ext_iff_of_nodup T6.nd F.nd).mpr ht2))
      have a4 := eqD_fun (Wf := Wf) (l := told2) (m := names) (fun x hx => (ht2 x).mp hx) fun x hx => (F.wd x hx).1
      generalize encT (told2.map fun x => (x, Wf x)) = X at e6 a1 a3 a4
      generalize encT (names.map fun x => (x, Wf x)) = Y at hw6 a2 a3 a4
      walk_at "W"
      rw [q_eq_ref]
      refine r_bnd ((W_getD e6).mpr (r_bnd ((W_getD hw6).mpr (r_pos ?_ (r_ret ?_)))))
      · show (X.all (fun e => PV.isD 60 e.2) && Y.all (fun e => PV.isD 60 e.2)) = true
        rw [a1, a2]; rfl
      · rw [a3, a4, beq_self_eq_true]
        walk_at "W"
        exact hR _ _ _ (hret _ _ _ (h _ (k3.trans k6)))
end
end Mine.Internal
end

section
open PySem
namespace Mine.Internal
/-- a row that a table may have -/
structure Ent (ρ : Str → Nat) (names : List Str) (Wf : Str → Tm) (b : Nat) (w : Tm) (u : Tm) : Prop where
  fit : apt names Wf u = w
  less : ∀ y ∈ u.tv, y ∈ names → ρ y < b
  two : u.tv.length ≤ 2 ∧ u.depth ≤ 2 ∧ u.size ≤ 3
  ok : okT u
structure Ents (ρ : Str → Nat) (names : List Str) (Wf : Str → Tm) (es : Tab) : Prop where
  ent : ∀ e ∈ es, Ent ρ names Wf (ρ e.1) (Wf e.1) e.2
  sub : ∀ e ∈ es, e.1 ∈ names
structure Names (ρ : Str → Nat) (names : List Str) (Wf : Str → Tm) : Prop where
  rank : ∀ x, ρ x ≤ 6
  nd : names.Nodup
  nl : names.length ≤ 6
  nv : ∀ x ∈ names, isV x = true ∧ PyData.strOk x = true
  wd : ∀ x ∈ names, (Wf x).depth < 60 ∧ okT (Wf x)
section
variable {ρ : Str → Nat} {names : List Str} {Wf : Str → Tm} {es : Tab}
theorem Ents.look (E : Ents ρ names Wf es) {x : Str} {u : Tm} (h : look x es = some u) : Ent ρ names Wf (ρ x) (Wf x) u ∧ x ∈ names := by
  obtain ⟨e, he, rfl, rfl⟩ := look_mem h
  exact ⟨E.ent e he, E.sub e he⟩
theorem Ents.toFit (N : Names ρ names Wf) (E : Ents ρ names Wf es) (hnd : (es.map (·.1)).Nodup) (hk : ∀ x ∈ names, x ∈ es.map (·.1)) : Fit es ρ names Wf where
  good := {
    len := by
      have := nodup_sub_len _ names hnd fun x hx => by
        obtain ⟨e, he, rfl⟩ := List.mem_map.mp hx
        exact E.sub e he
      rw [List.length_map] at this
      exact Nat.le_trans this N.nl
    nd := hnd
    rank := N.rank
    less := fun x u y hx hy hs => by
      obtain ⟨v, hv⟩ := Option.isSome_iff_exists.mp hs
      exact (E.look hx).1.less y hy (E.look hv).2
    two := fun e he => (E.ent e he).two }
  keys x := ⟨fun h => by obtain ⟨v, hv⟩ := Option.isSome_iff_exists.mp h; exact (E.look hv).2, fun h => look_key.mpr (hk x h)⟩
  fit x u h := (E.look h).1.fit
  nd := N.nd
  nl := N.nl
  nv := N.nv
  wd := N.wd
theorem FEn_mono : ∀ {j i : Nat} {t : Tm}, FEn es j t → j ≤ i → FEn es i t
  | 0, _, _, h, _ => h.elim
  | j + 1, i + 1, t, h, hi => fun hv u hu => FEn_mono (h hv u hu) (by exact om4 hi)
theorem FEn_rank (E : Ents ρ names Wf es) : ∀ (n : Nat) (t : Tm), (∀ y ∈ t.tv, y ∈ names → ρ y < n) → FEn es (n + 1) t
  | n, .n1 _ _, _ => fun h => by cases h
  | n, .n2 _ _ _, _ => fun h => by cases h
  | 0, .lf y, h => fun hv u hu => absurd (h y (by have hv : isV y = true := hv; simp [Tm.tv, hv]) (E.look hu).2) (by exact om226)
  | n + 1, .lf y, h => fun hv u hu => by
    have hy := h y (by have hv : isV y = true := hv; simp [Tm.tv, hv]) (E.look hu).2
    exact FEn_rank E n u fun z hz hn => by have := (E.look hu).1.less z hz hn; have : ρ z < ρ y := this; exact om25 hy this
theorem fol_ent (hv : ∀ x ∈ names, isV x = true) (E : Ents ρ names Wf es) {b : Nat} {w : Tm} : ∀ (j : Nat) (t : Tm), FEn es j t → Ent ρ names Wf b w t → Ent ρ names Wf b w (fol es j t) ∧ ((fol es j t).isVar = true → look (fol es j t).head es = none)
  | 0, t, h, _ => h.elim
  | j + 1, t, h, e => by
    unfold fol
    by_cases hvar : t.isVar = true
    · rw [if_pos hvar]
      cases hl : look t.head es with
      | none => exact ⟨e, fun _ => hl⟩
      | some u =>
        obtain ⟨y, rfl⟩ : ∃ y, t = .lf y := by cases t <;> simp [Tm.isVar] at hvar; exact ⟨_, rfl⟩
        have hyv : isV y = true := hvar
        have hlu := E.look (x := y) hl
        refine fol_ent hv E j u (h hvar u hl) ⟨?_, ?_, hlu.1.two, hlu.1.ok⟩
        · rw [hlu.1.fit, ← e.fit]
          simp only [apt, if_pos hlu.2]
        · intro z hz hn
          have h1 := hlu.1.less z hz hn
          have h2 := e.less y (by simp [Tm.tv, hyv]) hlu.2
          exact om72 h1 h2
    · rw [if_neg hvar]
      exact ⟨e, fun q => absurd q hvar⟩
end
theorem q_ne_tup {x y : List PV} : pcmp .NotEq (.tup x) (.tup y) = if PV.isD cmpDepth (.tup x) && PV.isD cmpDepth (.tup y) then .ret (.bool (!(eqb cmpDepth (.tup x) (.tup y)))) else .fail := rfl
theorem q_ne_enc {x t : Tm} (hx : okT x ∧ x.depth < 60) (ht : okT t ∧ t.depth < 60) : pcmp .NotEq x.enc t.enc = .ret (.bool (!(eqb 60 x.enc t.enc))) := by
  have h1 := isD_enc x 60 hx.2 hx.1
  have h2 := isD_enc t 60 ht.2 ht.1
  rw [Tm.enc_eq x, Tm.enc_eq t] at *
  rw [q_ne_tup, cmpDepth_eq, h1, h2]
  rfl
theorem eqb_lf {x : Str} {n : Nat} {t : Tm} (h : t ≠ .lf x) : eqb (n + 1) (Tm.lf x).enc t.enc = false := by
  cases t with
  | lf y =>
    have : (x == y) = false := by rw [beq_eq_false_iff_ne]; rintro rfl; exact h rfl
    simp [Tm.enc, eqb, eqbL, eqb_str, this]
  | n1 g a => simp [Tm.enc, eqb, eqbL]
  | n2 g a b => simp [Tm.enc, eqb, eqbL]
theorem q_in_tup {x : List PV} {j : Nat} : pcmp .In (.tup x) (.ref j) = if PV.isD keyDepth (.tup x) then PM.bnd (PM.getO j) fun o => match o with
      | .dct [] => .ret (.bool false)
      | .dtp es => .ret (.bool (es.any fun e => eqb keyDepth e.1 (.tup x)))
      | _ => .fail
    else .fail := rfl
theorem q_set_tup {n : Nat} {k : List PV} {v : PV} : psetitem (.ref n) (.tup k) v = if PV.isD keyDepth (.tup k) then PM.bnd (PM.getO n) fun o => match o with
      | .dct [] => PM.put n (.dtp [(.tup k, v)])
      | .dtp es => if es.length < lineLen && !(es.any fun e => eqb keyDepth e.1 (.tup k)) then PM.put n (.dtp (es ++ [(.tup k, v)])) else .fail
      | _ => .fail
    else .fail := rfl
/-- a wide tuple is no variable: it is followed nowhere -/
theorem followed_wide {k n : Nat} {x : Str} {a : PV} {kids : List PV} {S : St} {Q : PV → St → Prop} (hl : kids.length ≤ 900) (h : Q (.tup (.str x :: a :: kids)) S) : W (cal (k + 2) 84 [.tup (.str x :: a :: kids), .ref n]) S Q := by
  refine call_run (i := 11) rfl rfl fun K0 hret _ => ?_
  have m0 := p11_0 (v0 := .tup (.str x :: a :: kids)) (v1 := .ref n)
  generalize bindAll _ _ _ = m at m0 ⊢
  rw [b11]
  refine pexs_step n11_0 fun K hK hR _ => ?_
  rw [wf0_eq]
  refine wloop_false ?_
  walk_at "W"
  refine is_variable_run (by rw [List.length_cons]; exact om227 hl) ?_
  show W (asB (.bool false)) _ _
  walk_at "W"
  refine ⟨rfl, hK _ _ ?_⟩
  refine pexs_step n11_1 fun K' hK' hR' _ => ?_
  walk_at "W"
  exact hR' _ _ _ (hret _ _ _ h)
noncomputable def oneV (L : Tab) : List PV := L.map fun p => (Tm.lf p.1).enc
noncomputable def otherV (L : Tab) : List PV := L.map fun p => p.2.enc
noncomputable def pairV (p : Str × Tm) : PV := .tup [(Tm.lf p.1).enc, p.2.enc]
structure BI (ρ : Str → Nat) (names : List Str) (Wf : Str → Tm) (L : Tab) (S0 : St) (j : Nat) (m : Fm) (S : St) (made : Tab) (sl : List (PV × PV)) : Prop where
  table : m "table" = some (.ref S0.length)
  waiting : m "waiting" = some (.ref (S0.length + 1))
  seen : m "seen" = some (.ref (S0.length + 2))
  kp : Kp no1 S0 S
  ts : S[S0.length]? = some (.dct (encT made))
  ws : S[S0.length + 1]? = some (.lst ((L.map pairV).take j))
  ss : S[S0.length + 2]? = some (.dtp sl)
  jl : j ≤ L.length
  ents : Ents ρ names Wf made
  keys : made.map (·.1) = ((L.drop j).map (·.1)).reverse
  sll : sl.length ≤ 10 - j
  sln : ∀ e ∈ sl, ∀ p ∈ L.take j, ∀ t : Tm, eqb 6 e.1 (.tup [(Tm.lf p.1).enc, t.enc]) = false
structure BZ (L : Tab) (S0 : St) (m : Fm) (S : St) : Prop where
  table : m "table" = some (.ref S0.length)
  waiting : m "waiting" = some (.ref (S0.length + 1))
  seen : m "seen" = some (.ref (S0.length + 2))
  kp : Kp no1 S0 S
  ts : S[S0.length]? = some (.dct [])
  ws : S[S0.length + 1]? = some (.lst [.tup [.tup (.str "h" :: oneV L), .tup (.str "h" :: otherV L)]])
  ss : S[S0.length + 2]? = some (.dct [])
theorem r_fromW {x : Str} {kids : List PV} {S : St} {Q : PV → St → Prop} (hl : kids.length ≤ 900) (h : Q (.tup kids) S) : W (psliceFrom (.tup (.str x :: kids)) 1) S Q := by
  rw [q_from_tup, if_pos (by rw [List.length_cons]; simp [lineLen]; exact om228 hl)]; exact r_ret h
section
variable {k tb w sn : Nat} {h0 t0 : PV} {h1 t1 ws : List PV} {sO : PO} {m : Fm} {S : St} {Q : PFlow × Fm → St → Prop}
/-- the head of a turn: popped, followed, not seen yet, seen now -/
theorem begun_head (q1 : m "table" = some (.ref tb)) (q2 : m "waiting" = some (.ref w)) (q3 : m "seen" = some (.ref sn)) (e : S[w]? = some (.lst (ws ++ [.tup [h0, t0]]))) (hl : (ws ++ [PV.tup [h0, t0]]).length ≤ lineLen)
    (F1 : ∀ (Q : PV → St → Prop), Q (.tup h1) (S.set w (.lst ws)) → W (cal k 84 [h0, .ref tb]) (S.set w (.lst ws)) Q)
    (F2 : ∀ (Q : PV → St → Prop), Q (.tup t1) (S.set w (.lst ws)) → W (cal k 84 [t0, .ref tb]) (S.set w (.lst ws)) Q)
    (G1 : ∀ (Q : PV → St → Prop), Q (.bool false) (S.set w (.lst ws)) → W (pcmp .In (.tup [.tup h1, .tup t1]) (.ref sn)) (S.set w (.lst ws)) Q)
    (G2 : ∀ (Q : Unit → St → Prop), Q () ((S.set w (.lst ws)).set sn sO) → W (psetitem (.ref sn) (.tup [.tup h1, .tup t1]) (.bool true)) (S.set w (.lst ws)) Q)
    (h : ∀ m', m' "table" = some (.ref tb) → m' "waiting" = some (.ref w) → m' "seen" = some (.ref sn) → m' "here" = some (.tup h1) → m' "there" = some (.tup t1) →
      W (pexs (C0 k) 53 (fdI 13).scope [s13_1_0_4, s13_1_0_5] m') ((S.set w (.lst ws)).set sn sO) Q) :
    W (pexs (C0 k) 57 (fdI 13).scope (blkS s13_1 0) m) S Q := by
  rw [b13_1_0]
  refine pexs_step n13_1_0_0 fun K hK _ _ => ?_
  walk_at "W"
  refine r_var a13_1_0_0 ?_
  walk_at "W"
  refine hK _ _ ?_
  have p1 : ((m.upd "here" h0).upd "there" t0) "table" = some (.ref tb) := upd_ne (by kernel_rfl) (upd_ne (by kernel_rfl) q1)
  have p2 : ((m.upd "here" h0).upd "there" t0) "waiting" = some (.ref w) := upd_ne (by kernel_rfl) (upd_ne (by kernel_rfl) q2)
  have p3 : ((m.upd "here" h0).upd "there" t0) "seen" = some (.ref sn) := upd_ne (by kernel_rfl) (upd_ne (by kernel_rfl) q3)
  have p4 : ((m.upd "here" h0).upd "there" t0) "here" = some h0 := upd_ne (by kernel_rfl) upd_self
  have p5 : ((m.upd "here" h0).upd "there" t0) "there" = some t0 := upd_self
  generalize (m.upd "here" h0).upd "there" t0 = m1 at p1 p2 p3 p4 p5 ⊢
  refine pexs_step n13_1_0_1 fun K hK _ _ => ?_
  walk_at "W"
  refine F1 _ ?_
  walk_at "W"
  refine F2 _ ?_
  walk_at "W"
  refine r_var a13_1_0_1 ?_
  walk_at "W"
  refine hK _ _ ?_
  have o1 : ((m1.upd "here" (.tup h1)).upd "there" (.tup t1)) "table" = some (.ref tb) := upd_ne (by kernel_rfl) (upd_ne (by kernel_rfl) p1)
  have o2 : ((m1.upd "here" (.tup h1)).upd "there" (.tup t1)) "waiting" = some (.ref w) := upd_ne (by kernel_rfl) (upd_ne (by kernel_rfl) p2)
  have o3 : ((m1.upd "here" (.tup h1)).upd "there" (.tup t1)) "seen" = some (.ref sn) := upd_ne (by kernel_rfl) (upd_ne (by kernel_rfl) p3)
  have o4 : ((m1.upd "here" (.tup h1)).upd "there" (.tup t1)) "here" = some (.tup h1) := upd_ne (by kernel_rfl) upd_self
  have o5 : ((m1.upd "here" (.tup h1)).upd "there" (.tup t1)) "there" = some (.tup t1) := upd_self
  generalize (m1.upd "here" (.tup h1)).upd "there" (.tup t1) = m2 at o1 o2 o3 o4 o5 ⊢
  refine pexs_step n13_1_0_2 fun K hK _ _ => W_if fun KT hT hF => ?_
  walk_at "W"
  refine G1 _ ?_
  refine r_asB (hF _ ?_)
  rw [b13_1_0_2_1]
  refine pexs_nil' (hK _ _ ?_)
  refine pexs_step n13_1_0_3 fun K hK _ _ => ?_
  walk_at "W"
  refine G2 _ ?_
  walk_at "W"
  exact hK _ _ (h m2 o1 o2 o3 o4 o5)
end
theorem keyD : keyDepth = 6 := rfl
theorem seen_in {sl : List (PV × PV)} {x : List PV} {j : Nat} {S : St} {Q : PV → St → Prop} (hD : PV.isD 6 (.tup x) = true) (e : S[j]? = some (.dtp sl)) (h : Q (.bool (sl.any fun e => eqb 6 e.1 (.tup x))) S) : W (pcmp .In (.tup x) (.ref j)) S Q := by
  rw [q_in_tup, keyD, if_pos hD]; refine r_bnd ((W_getO e).mpr (r_ret h))
theorem seen_set {sl : List (PV × PV)} {x : List PV} {j : Nat} {v : PV} {S : St} {Q : Unit → St → Prop} (hD : PV.isD 6 (.tup x) = true) (e : S[j]? = some (.dtp sl)) (hl : sl.length < lineLen) (ha : (sl.any fun e => eqb 6 e.1 (.tup x)) = false) (h : Q () (S.set j (.dtp (sl ++ [(.tup x, v)])))) : W (psetitem (.ref j) (.tup x) v) S Q := by
  rw [q_set_tup, keyD, if_pos hD]; refine r_bnd ((W_getO e).mpr ?_)
  show W (if (decide (sl.length < lineLen) && !(sl.any fun e => eqb 6 e.1 (.tup x))) = true then _ else _) S Q
  rw [if_pos (by rw [decide_eq_true hl, ha]; rfl)]
  exact (W_put (St.lt e)).mpr h
theorem seen_in0 {x : List PV} {j : Nat} {S : St} {Q : PV → St → Prop} (hD : PV.isD 6 (.tup x) = true) (e : S[j]? = some (.dct [])) (h : Q (.bool false) S) : W (pcmp .In (.tup x) (.ref j)) S Q := by
  rw [q_in_tup, keyD, if_pos hD]; exact r_bnd ((W_getO e).mpr (r_ret h))
theorem seen_set0 {x : List PV} {j : Nat} {v : PV} {S : St} {Q : Unit → St → Prop} (hD : PV.isD 6 (.tup x) = true) (e : S[j]? = some (.dct [])) (h : Q () (S.set j (.dtp [(.tup x, v)]))) : W (psetitem (.ref j) (.tup x) v) S Q := by
  rw [q_set_tup, keyD, if_pos hD]; exact r_bnd ((W_getO e).mpr ((W_put (St.lt e)).mpr h))
section
variable {L : Tab} {ρ : Str → Nat} {names : List Str} {Wf : Str → Tm} {k : Nat} {S S' : St} {m : Fm} {Q : PFlow × Fm → St → Prop}
/-- the first turn: the two wide patterns are laid in pairs -/
theorem begun_first (N : Names ρ names Wf) (E : Ents ρ names Wf L) (hl : L.length ≤ 6) (hne : L ≠ []) (Z : BZ L S m S') (h : ∀ m' S2 sl, BI ρ names Wf L S L.length m' S2 [] sl → Q (.next, m') S2) :
    W (pexs (C0 (k + 2)) 57 (fdI 13).scope (blkS s13_1 0) m) S' Q := by
  have hD : PV.isD 6 (.tup [.tup (.str "h" :: oneV L), .tup (.str "h" :: otherV L)]) = true := by
    have hh : PyData.strOk (Str.ofString "h") = true := by decide +kernel
    have h1 : ∀ v ∈ oneV L, PV.isD 4 v = true := fun v hv => by
      obtain ⟨p, hp, rfl⟩ := List.mem_map.mp hv
      exact isD_enc _ _ (Nat.succ_pos _) (N.nv _ (E.sub p hp)).2
    have h2 : ∀ v ∈ otherV L, PV.isD 4 v = true := fun v hv => by
      obtain ⟨p, hp, rfl⟩ := List.mem_map.mp hv
      have := (E.ent p hp).two
      exact isD_enc _ _ (by exact om229 this) (E.ent p hp).ok
    show (((PyData.strOk (Str.ofString "h")) && (oneV L).all (PV.isD 4)) && (((PyData.strOk (Str.ofString "h")) && (otherV L).all (PV.isD 4)) && true)) = true
    rw [hh, List.all_eq_true.mpr h1, List.all_eq_true.mpr h2]; rfl
  have hz : List.zipWith (fun a b => PV.tup [a, b]) (oneV L) (otherV L) = L.map pairV := by
    unfold oneV otherV pairV
    rw [List.zipWith_map_left, List.zipWith_map_right, List.zipWith_self]
  have hlz : (oneV L).length = L.length := List.length_map ..
  have hlo : (otherV L).length = L.length := List.length_map ..
  obtain ⟨a, ones, ho⟩ : ∃ a ones, oneV L = a :: ones := by cases L with | nil => exact absurd rfl hne | cons p r => exact ⟨_, _, rfl⟩
  obtain ⟨b, others, ho2⟩ : ∃ b others, otherV L = b :: others := by cases L with | nil => exact absurd rfl hne | cons p r => exact ⟨_, _, rfl⟩
  have zw := Z.ws
  rw [ho, ho2] at zw hD hz
  rw [ho, List.length_cons] at hlz
  rw [ho2, List.length_cons] at hlo
  have zt2 : (S'.set (S.length + 1) (.lst []))[S.length]? = some (.dct []) := by rw [List.getElem?_set_ne (by exact om7)]; exact Z.ts
  have zs2 : (S'.set (S.length + 1) (.lst []))[S.length + 2]? = some (.dct []) := by rw [List.getElem?_set_ne (by exact om12)]; exact Z.ss
  have zw2 : (S'.set (S.length + 1) (.lst []))[S.length + 1]? = some (.lst []) := St.set_self (St.lt Z.ws)
  have zk2 : Kp no1 S (S'.set (S.length + 1) (.lst [])) := Z.kp.set_new (by exact om26)
  refine begun_head (ws := []) (sO := .dtp [(.tup [.tup (.str "h" :: a :: ones), .tup (.str "h" :: b :: others)], .bool true)]) Z.table Z.waiting Z.seen zw (by show 1 ≤ 100000; decide) (fun Q q => followed_wide (by exact om73 hl hlz) q) (fun Q q => followed_wide (by exact om73 hl hlo) q)
    (fun Q q => seen_in0 hD zs2 q) (fun Q q => seen_set0 hD zs2 q) fun m' q1 q2 q3 q4 q5 => ?_
  have zt3 : ((S'.set (S.length + 1) (.lst [])).set (S.length + 2) (.dtp [(.tup [.tup (.str "h" :: a :: ones), .tup (.str "h" :: b :: others)], .bool true)]))[S.length]? = some (.dct []) := by rw [List.getElem?_set_ne (by exact om24)]; exact zt2
  have zw3 : ((S'.set (S.length + 1) (.lst [])).set (S.length + 2) (.dtp [(.tup [.tup (.str "h" :: a :: ones), .tup (.str "h" :: b :: others)], .bool true)]))[S.length + 1]? = some (.lst []) := by rw [List.getElem?_set_ne (by exact om23)]; exact zw2
  have zs3 := St.set_self (o := .dtp [(.tup [.tup (.str "h" :: a :: ones), .tup (.str "h" :: b :: others)], .bool true)]) (St.lt zs2)
  have zk3 : Kp no1 S ((S'.set (S.length + 1) (.lst [])).set (S.length + 2) (.dtp [(.tup [.tup (.str "h" :: a :: ones), .tup (.str "h" :: b :: others)], .bool true)])) := zk2.set_new (by exact om74)
  generalize List.set (List.set S' (S.length + 1) _) (S.length + 2) _ = S3 at zt3 zs3 zw3 zk3 ⊢
  refine pexs_step n13_1_0_4 fun K hK _ _ => W_if fun KT hT hF => ?_
  walk_at "W"
  refine is_variable_run (by rw [List.length_cons]; exact om75 hl hlo) ?_
  refine r_asB ?_
  show W (tbo .And false _) _ _
  walk_at "W"
  refine hF _ ?_
  rw [b13_1_0_4_1]
  refine pexs_nil' (hK _ _ ?_)
  refine pexs_step n13_1_0_5 fun K hK _ _ => W_if fun KT hT hF => ?_
  walk_at "W"
  refine is_variable_run (by rw [List.length_cons]; exact om75 hl hlz) ?_
  refine r_asB ?_
  show KT false _
  refine hF _ ?_
  rw [b13_1_0_5_1]
  refine pexs_step n13_1_0_5_1_0 fun K2 hK2 _ _ => W_if fun KT hT hF => ?_
  walk_at "W"
  rw [show ((Str.ofString "h") != (Str.ofString "h")) = false from bne_self_eq_false ..]
  walk_at "W"
  refine r_lenT (by rw [List.length_cons, List.length_cons]; exact om76 hl hlz) ?_
  walk_at "W"
  refine r_lenT (by rw [List.length_cons, List.length_cons]; exact om76 hl hlo) ?_
  walk_at "W"
  rw [List.length_cons, List.length_cons, List.length_cons, List.length_cons, hlz, hlo, bne_self_eq_false]
  refine hF _ ?_
  rw [b13_1_0_5_1_0_1]
  refine pexs_step n13_1_0_5_1_0_1_0 fun K3 hK3 _ _ => ?_
  walk_at "W"
  refine r_fromW (by rw [List.length_cons]; exact om77 hl hlz) ?_
  walk_at "W"
  refine r_fromW (by rw [List.length_cons]; exact om77 hl hlo) ?_
  refine r_bnd ((W_getL zw3).mpr (r_pos ?_ (r_bnd ((W_put (St.lt zw3)).mpr (r_ret ?_)))))
  · rw [List.length_cons, List.length_cons, hlz, hlo, beq_self_eq_true, Bool.and_true]; exact decide_eq_true (by show 0 + _ ≤ 100000; exact om230 hl)
  rw [hz]
  walk_at "W"
  refine hK3 _ _ (pexs_nil' (hK2 _ _ (pexs_nil' (hK _ _ (pexs_nil' (h _ _ [(.tup [.tup (.str "h" :: a :: ones), .tup (.str "h" :: b :: others)], .bool true)] ⟨q1, q2, q3, zk3.set_new (by exact om26), ?_, ?_, ?_, Nat.le_refl _, ⟨(fun e he => by cases he), (fun e he => by cases he)⟩, ?_, ?_, ?_⟩))))))
  · rw [List.getElem?_set_ne (by exact om7)]; exact zt3
  · rw [St.set_self (St.lt zw3), List.take_of_length_le (by rw [List.length_map]; exact Nat.le_refl _)]; rfl
  · rw [List.getElem?_set_ne (by exact om12)]; exact zs3
  · rw [List.drop_length]; rfl
  · show 1 ≤ _; exact om231 hl
  · intro e he p hp t
    rw [List.mem_singleton.mp he]
    show ((eqb 5 (.tup (.str "h" :: a :: ones)) (Tm.lf p.1).enc) && _) = false
    have : eqb 5 (.tup (.str "h" :: a :: ones)) (Tm.lf p.1).enc = false := by simp [eqb, eqbL, Tm.enc]
    rw [this]; rfl
/-- a later turn: a name with what is put for it -/
theorem begun_turn {j : Nat} {made : Tab} {sl : List (PV × PV)} (N : Names ρ names Wf) (E : Ents ρ names Wf L) (hnd : (L.map (·.1)).Nodup) (hl : L.length ≤ 6)
    (I : BI ρ names Wf L S (j + 1) m S' made sl) (h : ∀ m' S2 made2 sl2, BI ρ names Wf L S j m' S2 made2 sl2 → Q (.next, m') S2) :
    W (pexs (C0 (k + 5)) 57 (fdI 13).scope (blkS s13_1 0) m) S' Q := by
  have hjl : j < L.length := I.jl
  obtain ⟨⟨x, u⟩, hp⟩ : ∃ p, L[j] = p := ⟨_, rfl⟩
  have htk : L.take (j + 1) = L.take j ++ [(x, u)] := by rw [List.take_add_one, List.getElem?_eq_getElem hjl, hp]; rfl
  have hdr : L.drop j = (x, u) :: L.drop (j + 1) := by rw [List.drop_eq_getElem_cons hjl, hp]
  have hmem : (x, u) ∈ L := by rw [← hp]; exact List.getElem_mem hjl
  have hsplit : L.map (·.1) = (L.take j).map (·.1) ++ x :: (L.drop (j + 1)).map (·.1) := by
    have := congrArg (List.map (·.1)) (List.take_append_drop j L)
    rw [hdr, List.map_append] at this
    exact this.symm
  have htm : (L.map pairV).take (j + 1) = (L.map pairV).take j ++ [pairV (x, u)] := by rw [← List.map_take, htk, List.map_append, List.map_take]; rfl
  have hw := I.ws
  rw [htm] at hw
  have hw2 := St.set_self (o := .lst ((L.map pairV).take j)) (St.lt hw)
  have ht2 : (S'.set (S.length + 1) (.lst ((L.map pairV).take j)))[S.length]? = some (.dct (encT made)) := by rw [List.getElem?_set_ne (by exact om7)]; exact I.ts
  have hs2 : (S'.set (S.length + 1) (.lst ((L.map pairV).take j)))[S.length + 2]? = some (.dtp sl) := by rw [List.getElem?_set_ne (by exact om12)]; exact I.ss
  have hk2 : Kp no1 S (S'.set (S.length + 1) (.lst ((L.map pairV).take j))) := I.kp.set_new (by exact om26)
  have hxk : x ∈ names := E.sub _ hmem
  have hxv := N.nv x hxk
  have hmk : made.length ≤ 6 := by
    have h1 := congrArg List.length I.keys
    rw [List.length_map, List.length_reverse, List.length_map, List.length_drop] at h1
    exact om232 hl h1
  have hxn : look x made = none := by
    cases hq : look x made with
    | none => rfl
    | some v =>
      have h1 : x ∈ made.map (·.1) := look_key.mp (by rw [hq]; rfl)
      rw [I.keys, List.mem_reverse] at h1
      rw [hsplit] at hnd
      exact absurd h1 (List.nodup_cons.mp (List.nodup_append.mp hnd).2.1).1
  have hv := fun y hy => (N.nv y hy).1
  have hEnt := E.ent _ hmem
  have hF1 : FEn made 8 (.lf x) := FEn_rank I.ents 7 _ fun y hy _ => Nat.lt_succ_of_le (N.rank y)
  have hF2 : FEn made 8 u := FEn_rank I.ents 7 _ fun y hy _ => Nat.lt_succ_of_le (N.rank y)
  have hf1 : fol made 8 (.lf x) = .lf x := by
    unfold fol
    have : (Tm.lf x).head = x := rfl
    rw [this, hxn]; split <;> rfl
  obtain ⟨hf2, hf3⟩ := fol_ent hv I.ents 8 u hF2 hEnt
  have F1 : ∀ (Q : PV → St → Prop), Q (Tm.lf x).enc (S'.set (S.length + 1) (.lst ((L.map pairV).take j))) → W (cal (k + 5) 84 [(Tm.lf x).enc, .ref S.length]) (S'.set (S.length + 1) (.lst ((L.map pairV).take j))) Q := fun Q q => followed_run (j := 8) (by decide) hF1 ht2 (by rw [hf1]; exact q)
  have F2 : ∀ (Q : PV → St → Prop), Q (fol made 8 u).enc (S'.set (S.length + 1) (.lst ((L.map pairV).take j))) → W (cal (k + 5) 84 [u.enc, .ref S.length]) (S'.set (S.length + 1) (.lst ((L.map pairV).take j))) Q := fun Q q => followed_run (j := 8) (by decide) hF2 ht2 q
  generalize fol made 8 u = v at hf2 hf3 F2
  have hvt := hf2.two
  have hvx : v ≠ .lf x := by
    rintro rfl
    have := hf2.less x (by simp [Tm.tv, hxv.1]) hxk
    exact Nat.lt_irrefl _ this
  have hD : PV.isD 6 (.tup [(Tm.lf x).enc, v.enc]) = true := by
    show ((PV.isD 5 (Tm.lf x).enc) && ((PV.isD 5 v.enc) && true)) = true
    rw [isD_enc (.lf x) 5 (Nat.succ_pos _) hxv.2, isD_enc v 5 (by exact om233 hvt) hf2.ok]; rfl
  have hany : sl.any (fun e => eqb 6 e.1 (.tup [(Tm.lf x).enc, v.enc])) = false := by
    rw [List.any_eq_false]
    intro e he
    rw [I.sln e he (x, u) (by rw [htk]; simp) v]; decide
  have hsl := I.sll
  have hve := v.enc_eq
  have hsl2 : sl.length < lineLen := by show _ < 100000; exact om234 hsl
  refine begun_head (ws := (L.map pairV).take j) (h0 := (Tm.lf x).enc) (t0 := u.enc) (h1 := [.str x]) (t1 := .str v.head :: v.kids.map Tm.enc) (sO := .dtp (sl ++ [(.tup [(Tm.lf x).enc, v.enc], .bool true)])) I.table I.waiting I.seen hw ?_ F1
    (fun Q q => F2 Q (by rw [hve]; exact q)) (fun Q q => by rw [← hve]; exact seen_in (x := [(Tm.lf x).enc, v.enc]) hD hs2 (by rw [hany]; exact q)) (fun Q q => by rw [← hve]; exact seen_set (x := [(Tm.lf x).enc, v.enc]) hD hs2 hsl2 hany q) fun m' q1 q2 q3 q4 q5 => ?_
  · rw [List.length_append, List.length_take, List.length_map]; show _ + 1 ≤ 100000; exact om235 hl
  rw [← hve] at q5
  have q4 : m' "here" = some (Tm.lf x).enc := q4
  have hs3 := St.set_self (o := .dtp (sl ++ [(.tup [(Tm.lf x).enc, v.enc], .bool true)])) (St.lt hs2)
  have ht3 : ((S'.set (S.length + 1) (.lst ((L.map pairV).take j))).set (S.length + 2) (.dtp (sl ++ [(.tup [(Tm.lf x).enc, v.enc], .bool true)])))[S.length]? = some (.dct (encT made)) := by rw [List.getElem?_set_ne (by exact om24)]; exact ht2
  have hw3 : ((S'.set (S.length + 1) (.lst ((L.map pairV).take j))).set (S.length + 2) (.dtp (sl ++ [(.tup [(Tm.lf x).enc, v.enc], .bool true)])))[S.length + 1]? = some (.lst ((L.map pairV).take j)) := by rw [List.getElem?_set_ne (by exact om23)]; exact hw2
  have hk3 : Kp no1 S ((S'.set (S.length + 1) (.lst ((L.map pairV).take j))).set (S.length + 2) (.dtp (sl ++ [(.tup [(Tm.lf x).enc, v.enc], .bool true)]))) := hk2.set_new (by exact om74)
  generalize List.set (List.set S' (S.length + 1) _) (S.length + 2) _ = S3 at hs3 ht3 hw3 hk3 ⊢
  clear F1 F2 ht2 hs2 hk2 hw2 hw
  have hne2 := q_ne_enc (x := .lf x) (t := v) ⟨hxv.2, Nat.succ_pos _⟩ ⟨hf2.ok, by exact om236 hvt⟩
  rw [show eqb 60 (Tm.lf x).enc v.enc = false from eqb_lf (n := 59) hvx] at hne2
  have hne3 : ∀ (S : St) (Q : PV → St → Prop), Q (.bool true) S → W (pcmp .NotEq (Tm.lf x).enc v.enc) S Q := fun S Q q => by rw [hne2]; exact r_ret q
  have hml : (encT made).length < lineLen := by unfold encT; rw [List.length_map]; show _ < 100000; exact om11 hmk
  have hnew : dput x v.enc (encT made) = encT (made ++ [(x, v)]) := by
    have hxm : x ∉ (encT made).map (·.1) := fun q => by
      have e : (encT made).map (·.1) = made.map (·.1) := keys_enc made
      rw [e] at q
      have := look_key.mpr q
      rw [hxn] at this; cases this
    rw [dput_new hxm]
    unfold encT; rw [List.map_append]; rfl
  have hwith : ∀ Q : PV → St → Prop, (∀ S', Kp no1 S3 S' → Q (.bool false) S') → W (cal (k + 5) 91 [.str x, v.enc, .ref S.length]) S3 Q := fun Q hQ =>
    is_within_run (k := k + 2) (R := fun y => y ∈ names → ρ y < ρ x) (fun e he => by have := (I.ents.ent e he).two; exact om78 this) (by exact om78 hvt) hf2.less (fun y w hy hl z hz hn => by
      have h1 := I.ents.look hl
      have h2 := h1.1.less z hz hn
      have h3 := hy h1.2
      exact om72 h2 h3) (fun q => Nat.lt_irrefl _ (q hxk)) (by exact om17 hmk) ht3 hQ
  have hBI : ∀ S4 : St, Kp no1 S3 S4 → BI ρ names Wf L S j m' (S4.set S.length (.dct (encT (made ++ [(x, v)])))) (made ++ [(x, v)]) (sl ++ [(.tup [(Tm.lf x).enc, v.enc], .bool true)]) := by
    intro S4 k4
    refine ⟨q1, q2, q3, (hk3.trans k4).set_new (Nat.le_refl _), St.set_self (St.lt (k4.keep _ _ ht3 id)), ?_, ?_, Nat.le_of_lt hjl, ⟨?_, ?_⟩, ?_, ?_, ?_⟩
    · rw [List.getElem?_set_ne (by exact om66)]; exact k4.keep _ _ hw3 id
    · rw [List.getElem?_set_ne (by exact om67)]; exact k4.keep _ _ hs3 id
    · intro e he
      rcases List.mem_append.mp he with q | q
      · exact I.ents.ent e q
      · rw [List.mem_singleton.mp q]; exact hf2
    · intro e he
      rcases List.mem_append.mp he with q | q
      · exact I.ents.sub e q
      · rw [List.mem_singleton.mp q]; exact hxk
    · rw [List.map_append, I.keys, hdr]; simp
    · rw [List.length_append]; show _ + 1 ≤ _; exact om237 hl hjl hsl
    · intro e he p hp2 t
      rcases List.mem_append.mp he with q | q
      · exact I.sln e q p (by rw [htk]; exact List.mem_append_left _ hp2) t
      · rw [List.mem_singleton.mp q]
        have hpx : p.1 ≠ x := by
          intro hpx
          rw [hsplit] at hnd
          exact (List.nodup_append.mp hnd).2.2 p.1 (List.mem_map.mpr ⟨p, hp2, rfl⟩) x (by simp) hpx
        have := eqb_lf (x := x) (n := 4) (t := .lf p.1) (by intro q; cases q; exact hpx rfl)
        show ((eqb 5 (Tm.lf x).enc (Tm.lf p.1).enc) && _) = false
        rw [this]; rfl
  have hnv : (Tm.lf x).isVar = true := hxv.1
  -- the last statement
  have last : ∀ K : PFlow × Fm → St → Prop, (∀ m2 S2, W (pexs (C0 (k + 5)) 51 (fdI 13).scope [] m2) S2 Q → K (.next, m2) S2) → W (pex (C0 (k + 5)) 51 (fdI 13).scope s13_1_0_5 m') S3 K := by
    intro K hK
    rw [n13_1_0_5]
    refine W_if fun KT hT hF => ?_
    walk_at "W"
    refine is_var_run ?_
    rw [hnv]
    refine r_asB (hT _ ?_)
    rw [b13_1_0_5_0]
    refine pexs_step n13_1_0_5_0_0 fun K2 hK2 _ _ => W_if fun KT hT hF => ?_
    walk_at "W"
    refine hne3 _ _ ?_
    walk_at "W"
    refine hwith _ fun S4 k4 => ?_
    refine r_asB (hF _ ?_)
    rw [b13_1_0_5_0_0_1]
    refine pexs_nil' (hK2 _ _ ?_)
    refine pexs_step n13_1_0_5_0_1 fun K2 hK2 _ _ => W_if fun KT hT hF => ?_
    walk_at "W"
    refine hne3 _ _ ?_
    refine r_asB (hT _ ?_)
    rw [b13_1_0_5_0_1_0]
    refine pexs_step n13_1_0_5_0_1_0_0 fun K3 hK3 _ _ => ?_
    have ht4 := k4.keep _ _ ht3 id
    walk_at "W"
    show K3 _ (List.set S4 S.length (.dct (dput x v.enc (encT made))))
    rw [hnew]
    exact hK3 _ _ (pexs_nil' (hK2 _ _ (pexs_nil' (hK _ _ (pexs_nil' (h _ _ _ _ (hBI S4 k4)))))))
  refine pexs_step n13_1_0_4 fun K hK _ _ => W_if fun KT hT hF => ?_
  walk_at "W"
  refine is_var_run ?_
  have fin : KT false S3 := by
    refine hF _ ?_
    rw [b13_1_0_4_1]
    refine pexs_nil' (hK _ _ ?_)
    exact pexs_step rfl fun K hK _ _ => last K hK
  cases hvv : v.isVar with
  | false =>
    walk_at "W"
    exact fin
  | true =>
    walk_at "W"
    refine is_var_run ?_
    rw [hnv]
    walk_at "W"
    exact fin
theorem begun_run {Q : PV → St → Prop} (N : Names ρ names Wf) (E : Ents ρ names Wf L) (hnd : (L.map (·.1)).Nodup) (hk : ∀ x ∈ names, x ∈ L.map (·.1)) (hl : L.length ≤ 6) (hne : L ≠ [])
    (h : ∀ r S' made, Kp no1 S S' → S.length ≤ r → S'[r]? = some (.dct (encT made)) → Fit made ρ names Wf → Q (.ref r) S') : W (cal (k + 6) 98 [.tup (.str "h" :: oneV L), .tup (.str "h" :: otherV L)]) S Q := by
  refine call_run (i := 13) rfl rfl fun K0 hret _ => ?_
  have m0 := p13_0 (v0 := .tup (.str "h" :: oneV L)) (v1 := .tup (.str "h" :: otherV L))
  have m1 := p13_1 (v0 := .tup (.str "h" :: oneV L)) (v1 := .tup (.str "h" :: otherV L))
  generalize bindAll _ _ _ = m at m0 m1 ⊢
  rw [b13]
  refine pexs_step n13_0 fun K hK _ _ => ?_
  walk_at "W"
  refine r_var a13_0 ?_
  walk_at "W"
  refine hK _ _ ?_
  have l1 : (S ++ [PO.dct []]).length = S.length + 1 := by rw [List.length_append]; rfl
  have l2 : (S ++ [PO.dct []] ++ [PO.lst [.tup [.tup (.str "h" :: oneV L), .tup (.str "h" :: otherV L)]]]).length = S.length + 2 := by rw [List.length_append, l1]; rfl
  rw [l1, l2]
  have Z : BZ L S (((m.upd "table" (.ref S.length)).upd "waiting" (.ref (S.length + 1))).upd "seen" (.ref (S.length + 2))) (S ++ [PO.dct []] ++ [PO.lst [.tup [.tup (.str "h" :: oneV L), .tup (.str "h" :: otherV L)]]] ++ [PO.dct []]) :=
    ⟨upd_ne (by kernel_rfl) (upd_ne (by kernel_rfl) upd_self), upd_ne (by kernel_rfl) upd_self, upd_self, ((Kp.app no1 S _).trans (Kp.app no1 _ _)).trans (Kp.app no1 _ _), (Kp.app no1 _ _).keep _ _ ((Kp.app no1 _ _).keep _ _ St.app_self id) id,
      (Kp.app no1 _ _).keep _ _ (by rw [← l1]; exact St.app_self) id, by rw [← l2]; exact St.app_self⟩
  refine pexs_step n13_1 fun K' hK' _ _ => ?_
  refine wloop_rule (P := fun j m S' => (j = L.length + 1 ∧ BZ L S m S') ∨ (j ≤ L.length ∧ ∃ made sl, BI ρ names Wf L S j m S' made sl)) ?_ wf0 (L.length + 1) _ _ (by show _ < 100000; exact om238 hl) (.inl ⟨rfl, Z⟩)
  rintro j m S' (⟨rfl, Z⟩ | ⟨hj, made, sl, I⟩)
  · have q2 := Z.waiting
    have zw := Z.ws
    have hwl : [PV.tup [.tup (.str "h" :: oneV L), .tup (.str "h" :: otherV L)]].length ≤ 100000 := by show 1 ≤ 100000; decide
    walk_at "W"
    rw [if_pos (by simp)]
    exact begun_first N E hl hne Z fun m' S2 sl I => ⟨.inl rfl, L.length, Nat.lt_succ_self _, .inr ⟨Nat.le_refl _, [], sl, I⟩⟩
  · have q2 := I.waiting
    have hw := I.ws
    have hwl : ((L.map pairV).take j).length ≤ 100000 := by rw [List.length_take, List.length_map]; exact om239 hl
    walk_at "W"
    cases j with
    | zero =>
      show (if decide ((0 : Int) < ((([] : List PV).length : Nat) : Int)) = true then _ else _)
      rw [if_neg (by decide)]
      have hmk : (made.map (·.1)) = ((L.map (·.1))).reverse := I.keys
      have hF : Fit made ρ names Wf := I.ents.toFit N (by rw [hmk]; exact (List.reverse_perm _).nodup_iff.mpr hnd) fun x hx => by rw [hmk, List.mem_reverse]; exact hk x hx
      refine hK' _ _ ?_
      refine pexs_step n13_2 fun K hK hR _ => ?_
      have q1 := I.table
      walk_at "W"
      exact hR _ _ _ (hret _ _ _ (h _ _ made I.kp (Nat.le_refl _) I.ts hF))
    | succ j =>
      rw [if_pos (decide_eq_true (by rw [List.length_take, List.length_map]; exact om240 hj))]
      exact begun_turn N E hnd hl I fun m' S2 made2 sl2 I2 => ⟨.inl rfl, j, Nat.lt_succ_self _, .inr ⟨by exact om241 hj, made2, sl2, I2⟩⟩
end
end Mine.Internal
end

section
open PySem
namespace Mine.Internal
inductive PutOk (ss : List Str) : Tm → Prop where
  | p0 {x : Str} : x ∈ ss → PutOk ss (.lf x)
  | p1 {x : Str} : x ∈ ss → PutOk ss (.n1 "f" (.lf x))
  | p2 {x y : Str} : x ∈ ss → y ∈ ss → PutOk ss (.n2 "g" (.lf x) (.lf y))
  | p4 {x : Str} : x ∈ ss → PutOk ss (.n1 "f" (.n1 "f" (.lf x)))
noncomputable def tl3 : List Str := ["?e", "?d", "a"]
theorem r_addL {i j : Nat} {xs ys : List PV} {S : St} {Q : PV → St → Prop} (e1 : S[i]? = some (.lst xs)) (e2 : S[j]? = some (.lst ys)) (hl : xs.length + ys.length ≤ lineLen) (h : Q (.ref S.length) (S ++ [.lst (xs ++ ys)])) : W (pbin .Add (.ref i) (.ref j)) S Q := by
  rw [q_add_ref]; exact r_bnd ((W_getL e1).mpr (r_bnd ((W_getL e2).mpr (r_pos hl (W_alloc.mpr h)))))
theorem small_ofNat {n : Nat} (h : n < 10000000) : smallInt ((n : Nat) : Int) = true := small_nat h
/-- one of some strs, drawn by a peg -/
theorem draw_run {k b c s v : Nat} {cells : List Int} {ss : List Str} {m : Fm} {S : St} {Q : PV → St → Prop} (B : Board S b c cells s) (hs : s < 1000) (hv : S[v]? = some (.lst (ss.map .str))) (hb : b ≠ v) (h0 : 0 < ss.length) (hl : ss.length ≤ 1000)
    (m1 : m "board" = some (.ref b)) (m2 : m "some" = some (.ref v))
    (h : ∀ x S', x ∈ ss → Kp (· = b) S S' → Board S' b c cells (s + 1) → Q (.tup [.str x]) S') :
    W (PM.bnd (evL [(PM.bnd (PM.lift (m "some")) fun ov => PM.bnd (PM.bnd (PM.ret (.fn 116)) fun fv => PM.bnd (evL [(PM.lift (m "board")), (PM.bnd (PM.ret (.bi "len")) fun fv => PM.bnd (evL [(PM.lift (m "some"))]) fun vs => papply (C0 (k + 1)) fv vs)]) fun vs => papply (C0 (k + 1)) fv vs) fun iv => pitem ov iv)]) mkT) S Q := by
  have hl2 : (ss.map PV.str).length ≤ 100000 := by rw [List.length_map]; exact om27 hl
  walk_at "W"
  rw [List.length_map]
  refine peg_run (many := ss.length) B h0 hl fun r hr => ?_
  have hv1 : (S.set b (boardO c ((s + 1 : Nat) : Int)))[v]? = some (.lst (ss.map .str)) := by rw [List.getElem?_set_ne hb]; exact hv
  have e2 : (ss.map PV.str)[((r : Nat) : Int).toNat]? = some (.str ss[r]) := by rw [Int.toNat_natCast, List.getElem?_map, List.getElem?_eq_getElem hr]; rfl
  refine r_itemL hv1 (Int.natCast_nonneg r) (small_nat (by exact om242 hl hr)) e2 ?_
  walk_at "W"
  exact h _ _ (List.getElem_mem hr) (Kp.set _ rfl) (B.next hs)
theorem put_run {k b c s l : Nat} {cells : List Int} {lesser : List Str} {S : St} {Q : PV → St → Prop} (B : Board S b c cells s) (hs : s ≤ 900) (hl : S[l]? = some (.lst (lesser.map .str))) (hb : ¬ b = l) (hn : lesser.length ≤ 6)
    (h : ∀ t S' s', Kp (· = b) S S' → Board S' b c cells s' → s' ≤ s + 3 → PutOk (lesser ++ tl3) t → Q t.enc S') : W (cal (k + 2) 123 [.ref b, .ref l]) S Q := by
  refine call_run (i := 19) rfl rfl fun K0 hret _ => ?_
  have m0 := p19_0 (v0 := .ref b) (v1 := .ref l)
  have m1 := p19_1 (v0 := .ref b) (v1 := .ref l)
  generalize bindAll _ _ _ = m at m0 m1 ⊢
  rw [b19]
  refine pexs_step n19_0 fun K hK _ _ => ?_
  walk_at "W"
  refine peg_run (many := 5) B (by decide) (by decide) fun way hway => ?_
  have B1 := B.next (by exact om243 hs)
  have k1 : Kp (· = b) S (S.set b (boardO c ((s + 1 : Nat) : Int))) := Kp.set _ rfl
  have hl1 := k1.keep _ _ hl (fun q => hb q.symm)
  generalize S.set b (boardO c ((s + 1 : Nat) : Int)) = S1 at B1 k1 hl1 ⊢
  walk_at "W"
  refine r_addL (St.app_keep hl1 _) St.app_self (by rw [List.length_map]; show _ + 3 ≤ 100000; exact om244 hn) ?_
  have hq : lesser.map PV.str ++ [.str "?e", .str "?d", .str "a"] = (lesser ++ tl3).map .str := by rw [List.map_append]; rfl
  rw [hq]
  have l1 : (S1 ++ [PO.lst [.str "?e", .str "?d", .str "a"]]).length = S1.length + 1 := by rw [List.length_append]; rfl
  have ka : Kp no1 S1 (S1 ++ [PO.lst [.str "?e", .str "?d", .str "a"]] ++ [PO.lst ((lesser ++ tl3).map .str)]) := (Kp.app no1 S1 _).trans (Kp.app no1 _ _)
  have hv2 : (S1 ++ [PO.lst [.str "?e", .str "?d", .str "a"]] ++ [PO.lst ((lesser ++ tl3).map .str)])[S1.length + 1]? = some (.lst ((lesser ++ tl3).map .str)) := by rw [← l1]; exact St.app_self
  have hbv : b ≠ S1.length + 1 := by have := St.lt B1.b; exact om245 this
  have hVl : (lesser ++ tl3).length = lesser.length + 3 := List.length_append ..
  have hmem := fun (x : Str) (q : x ∈ lesser ++ tl3) => q
  rw [l1]
  walk_at "W"
  refine r_var a19_0 ?_
  walk_at "W"
  refine hK _ _ ?_
  have B2 := B1.kp ka
  have k2 := k1.trans ka.no
  have p0 : ((m.upd "way" (.int ((way : Nat) : Int))).upd "some" (.ref (S1.length + 1))) "board" = some (.ref b) := upd_ne (by kernel_rfl) (upd_ne (by kernel_rfl) m0)
  have p1 : ((m.upd "way" (.int ((way : Nat) : Int))).upd "some" (.ref (S1.length + 1))) "way" = some (.int ((way : Nat) : Int)) := upd_ne (by kernel_rfl) upd_self
  have p2 : ((m.upd "way" (.int ((way : Nat) : Int))).upd "some" (.ref (S1.length + 1))) "some" = some (.ref (S1.length + 1)) := upd_self
  generalize (m.upd "way" (.int ((way : Nat) : Int))).upd "some" (.ref (S1.length + 1)) = m2 at p0 p1 p2 ⊢
  generalize S1 ++ [PO.lst [.str "?e", .str "?d", .str "a"]] ++ [PO.lst ((lesser ++ tl3).map .str)] = S2 at B2 k2 hv2 ⊢
  refine pexs_step n19_1 fun K hK _ _ => r_bnd ?_
  refine draw_run B2 (by exact om246 hs) hv2 hbv (by exact om79 hVl) (by exact om80 hn hVl) p0 p2 fun x S3 hx k3 B3 => ?_
  have k3 := k2.trans k3
  have hv3 := (show Kp (· = b) S2 S3 by assumption).keep _ _ hv2 (fun q => hbv q.symm)
  walk_at "W"
  refine hK _ _ ?_
  have o0 : (m2.upd "one" (.tup [.str x])) "board" = some (.ref b) := upd_ne (by kernel_rfl) p0
  have o1 : (m2.upd "one" (.tup [.str x])) "way" = some (.int ((way : Nat) : Int)) := upd_ne (by kernel_rfl) p1
  have o2 : (m2.upd "one" (.tup [.str x])) "some" = some (.ref (S1.length + 1)) := upd_ne (by kernel_rfl) p2
  have o3 : (m2.upd "one" (.tup [.str x])) "one" = some (.tup [.str x]) := upd_self
  generalize m2.upd "one" (.tup [.str x]) = m3 at o0 o1 o2 o3 ⊢
  refine pexs_step n19_2 fun K hK hR _ => W_if fun KT hT hF => ?_
  walk_at "W"
  by_cases w0 : ((way : Int) == 0) = true
  · rw [w0]
    refine hT _ ?_
    rw [b19_2_0]
    refine pexs_step n19_2_0_0 fun K2 _ hR2 _ => ?_
    walk_at "W"
    exact hR2 _ _ _ (hR _ _ _ (hret _ _ _ (h (.lf x) _ _ k3 B3 (by exact om28) (.p0 hx))))
  rw [Bool.eq_false_iff.mpr w0]
  refine hF _ ?_
  rw [b19_2_1]
  refine pexs_nil' (hK _ _ ?_)
  refine pexs_step n19_3 fun K hK hR _ => W_if fun KT hT hF => ?_
  walk_at "W"
  by_cases w4 : ((way : Int) == 4) = true
  · rw [w4]
    refine hT _ ?_
    rw [b19_3_0]
    refine pexs_step n19_3_0_0 fun K2 _ hR2 _ => ?_
    walk_at "W"
    exact hR2 _ _ _ (hR _ _ _ (hret _ _ _ (h (.n1 "f" (.n1 "f" (.lf x))) _ _ k3 B3 (by exact om28) (.p4 hx))))
  rw [Bool.eq_false_iff.mpr w4]
  refine hF _ ?_
  rw [b19_3_1]
  refine pexs_nil' (hK _ _ ?_)
  refine pexs_step n19_4 fun K hK hR _ => ?_
  walk_at "W"
  by_cases w1 : ((way : Int) == 1) = true
  · rw [w1]
    walk_at "W"
    exact hR _ _ _ (hret _ _ _ (h (.n1 "f" (.lf x)) _ _ k3 B3 (by exact om28) (.p1 hx)))
  rw [Bool.eq_false_iff.mpr w1]
  refine r_iteF (r_bnd (r_ev3 (r_ret (r_var o3 ?_))))
  refine draw_run B3 (by exact om247 hs) hv3 hbv (by exact om79 hVl) (by exact om80 hn hVl) o0 o2 fun y S4 hy k4 B4 => ?_
  walk_at "W"
  exact hR _ _ _ (hret _ _ _ (h (.n2 "g" (.lf x) (.lf y)) _ _ (k3.trans k4) B4 (by exact om248) (.p2 hx hy)))
end Mine.Internal
end

section
open PySem
namespace Mine.Internal
theorem wh_mono {es : Tab} : ∀ {k i : Nat} {t : Tm}, En es k t → k ≤ i → wh es i t = wh es k t ∧ En es i t
  | 0, _, _, h, _ => h.elim
  | k + 1, 0, t, h, hi => absurd hi (by exact om249)
  | k + 1, i + 1, t, h, hi => by
    have hi' : k ≤ i := by exact om4 hi
    cases hl : look t.head es with
    | some u =>
      simp only [En, hl] at h
      have := wh_mono h hi'
      exact ⟨by rw [wh_some hl, wh_some hl, this.1], by simp only [En, hl]; exact this.2⟩
    | none =>
      simp only [En, hl] at h
      refine ⟨?_, by simp only [En, hl]; exact fun u hu => (wh_mono (h u hu) hi').2⟩
      cases t with
      | lf x => simp only [wh, hl]
      | n1 g a => simp only [wh, hl]; rw [(wh_mono (h a (by simp [Tm.kids])) hi').1]
      | n2 g a b => simp only [wh, hl]; rw [(wh_mono (h a (by simp [Tm.kids])) hi').1, (wh_mono (h b (by simp [Tm.kids])) hi').1]
theorem wh_n1 {es : Tab} {k : Nat} {h : Str} {a : Tm} (hl : look (Tm.n1 h a).head es = none) : wh es (k + 1) (.n1 h a) = .n1 h (wh es k a) := by simp only [wh, hl]
theorem wh_n2 {es : Tab} {k : Nat} {h : Str} {a b : Tm} (hl : look (Tm.n2 h a b).head es = none) : wh es (k + 1) (.n2 h a b) = .n2 h (wh es k a) (wh es k b) := by simp only [wh, hl]
theorem En_n1 {es : Tab} {k : Nat} {h : Str} {a : Tm} (hl : look (Tm.n1 h a).head es = none) (q : En es k a) : En es (k + 1) (.n1 h a) := by
  simp only [En, hl]; intro u hu; simp only [Tm.kids, List.mem_singleton] at hu; rw [hu]; exact q
theorem En_n2 {es : Tab} {k : Nat} {h : Str} {a b : Tm} (hl : look (Tm.n2 h a b).head es = none) (q : En es k a) (q2 : En es k b) : En es (k + 1) (.n2 h a b) := by
  simp only [En, hl]; intro u hu
  simp only [Tm.kids, List.mem_cons, List.not_mem_nil, or_false] at hu
  rcases hu with rfl | rfl
  · exact q
  · exact q2
/-- a term over the names of a rank under r -/
noncomputable def GT (ρ : Str → Nat) (names : List Str) (r : Nat) : Tm → Prop
  | .lf y => PyData.strOk y = true ∧ (y ∈ names → ρ y < r)
  | .n1 h a => PyData.strOk h = true ∧ h ∉ names ∧ GT ρ names r a
  | .n2 h a b => PyData.strOk h = true ∧ h ∉ names ∧ GT ρ names r a ∧ GT ρ names r b
section
variable {ρ : Str → Nat} {names : List Str} {es : Tab}
structure Laid (ρ : Str → Nat) (names : List Str) (es : Tab) : Prop where
  keys : ∀ x, (look x es).isSome = true ↔ x ∈ names
  gt : ∀ x u, look x es = some u → GT ρ names (ρ x) u ∧ u.depth ≤ 2
theorem Laid.none (L : Laid ρ names es) {x : Str} (h : x ∉ names) : look x es = none := by
  cases q : look x es with
  | none => rfl
  | some u => exact absurd ((L.keys x).mp (by rw [q]; rfl)) h
theorem Laid.wh (L : Laid ρ names es) : ∀ (r : Nat) (t : Tm), GT ρ names r t → t.depth ≤ 2 → En es (4 * r + t.depth + 1) t ∧ (wh es (4 * r + t.depth + 1) t).depth ≤ 2 * r + t.depth ∧ okT (wh es (4 * r + t.depth + 1) t)
  | r, .lf y, g, _ => by
    by_cases hy : y ∈ names
    · obtain ⟨u, hu⟩ := Option.isSome_iff_exists.mp ((L.keys y).mpr hy)
      have hr := g.2 hy
      obtain ⟨r', rfl⟩ : ∃ r', r = r' + 1 := ⟨r - 1, by exact om250 hr⟩
      have G := L.gt y u hu
      have IH := Laid.wh L (ρ y) u G.1 G.2
      have e : 4 * (r' + 1) + (Tm.lf y).depth + 1 = (4 * (r' + 1)) + 1 := rfl
      have m := wh_mono (i := 4 * (r' + 1)) IH.1 (by exact om251 hr G)
      have hu' : look (Tm.lf y).head es = some u := hu
      rw [e]
      refine ⟨by simp only [En, hu']; exact m.2, ?_, ?_⟩
      · rw [wh_some hu', m.1]
        have : (Tm.lf y).depth = 0 := rfl
        exact om252 hr G IH
      · rw [wh_some hu', m.1]; exact IH.2.2
    · have hl : look (Tm.lf y).head es = Option.none := L.none hy
      refine ⟨by simp only [En, hl, Tm.kids]; simp, ?_, ?_⟩
      · simp only [Mine.Internal.wh, hl]; simp [Tm.depth]
      · simp only [Mine.Internal.wh, hl]; exact g.1
  | r, .n1 h a, g, hd => by
    have IH := Laid.wh L r a g.2.2 (by simp only [Tm.depth] at hd; exact om81 hd)
    have hl : look (Tm.n1 h a).head es = Option.none := L.none g.2.1
    have e : 4 * r + (Tm.n1 h a).depth + 1 = (4 * r + a.depth + 1) + 1 := by simp only [Tm.depth]; exact om253
    rw [e]
    rw [wh_n1 hl]
    refine ⟨En_n1 hl IH.1, ?_, g.1, IH.2.2⟩
    simp only [Tm.depth]; exact om254 IH
  | r, .n2 h a b, g, hd => by
    have I1 := Laid.wh L r a g.2.2.1 (by simp only [Tm.depth] at hd; exact om82 hd)
    have I2 := Laid.wh L r b g.2.2.2 (by simp only [Tm.depth] at hd; exact om83 hd)
    have hl : look (Tm.n2 h a b).head es = Option.none := L.none g.2.1
    have e : 4 * r + (Tm.n2 h a b).depth + 1 = (4 * r + max a.depth b.depth + 1) + 1 := by simp only [Tm.depth]; exact om255
    have m1 := wh_mono (i := 4 * r + max a.depth b.depth + 1) I1.1 (by exact om256)
    have m2 := wh_mono (i := 4 * r + max a.depth b.depth + 1) I2.1 (by exact om257)
    rw [e]
    rw [wh_n2 hl]
    refine ⟨En_n2 hl m1.2 m2.2, ?_, ?_⟩
    · rw [m1.1, m2.1]; simp only [Tm.depth]; exact om258 I1 I2
    · rw [m1.1, m2.1]; exact ⟨g.1, I1.2.2, I2.2.2⟩
termination_by r t => (r, t.size)
decreasing_by all_goals (first | (apply Prod.Lex.left; omega) | (apply Prod.Lex.right; simp only [Tm.size]; (first | exact om259 | exact om260 | exact om261)))
noncomputable def Wfs (es : Tab) (x : Str) : Tm := wh es 40 (.lf x)
theorem Laid.enough (L : Laid ρ names es) (hr : ∀ x, ρ x ≤ 6) {x : Str} (hx : x ∈ names) (ho : PyData.strOk x = true) : En es 40 (.lf x) ∧ (Wfs es x).depth < 60 ∧ okT (Wfs es x) := by
  have h := L.wh 7 (.lf x) ⟨ho, fun _ => by have := hr x; exact om262 this⟩ (by simp [Tm.depth])
  have m := wh_mono (i := 40) h.1 (by simp [Tm.depth])
  refine ⟨m.2, ?_, ?_⟩
  · unfold Wfs; rw [m.1]
    have := h.2.1
    simp only [Tm.depth] at this ⊢; exact om263 this
  · unfold Wfs; rw [m.1]; exact h.2.2
theorem Laid.apt (L : Laid ρ names es) (hr : ∀ x, ρ x ≤ 6) (ho : ∀ x ∈ names, PyData.strOk x = true) : ∀ (t : Tm) (k r : Nat), GT ρ names r t → t.depth ≤ 2 → 4 * r + t.depth + 1 ≤ k → Mine.Internal.wh es k t = Mine.Internal.apt names (Wfs es) t
  | .lf y, k, r, g, hd, hk => by
    have h := L.wh r (.lf y) g hd
    have m := wh_mono (i := k) h.1 hk
    unfold Mine.Internal.apt
    by_cases hy : y ∈ names
    · rw [if_pos hy]
      unfold Wfs
      by_cases hk2 : k ≤ 40
      · exact (wh_mono m.2 hk2).1.symm
      · exact (wh_mono (L.enough hr hy (ho y hy)).1 (by exact om264 hk2)).1
    · rw [if_neg hy]
      have hl : look (Tm.lf y).head es = Option.none := L.none hy
      obtain ⟨k', rfl⟩ : ∃ k', k = k' + 1 := ⟨k - 1, by exact om29 hk⟩
      simp only [Mine.Internal.wh, hl]
  | .n1 h a, k, r, g, hd, hk => by
    have hl : look (Tm.n1 h a).head es = Option.none := L.none g.2.1
    obtain ⟨k', rfl⟩ : ∃ k', k = k' + 1 := ⟨k - 1, by exact om29 hk⟩
    simp only [Tm.depth] at hd hk
    rw [wh_n1 hl, Laid.apt L hr ho a k' r g.2.2 (by exact om81 hd) (by exact om265 hk)]; rfl
  | .n2 h a b, k, r, g, hd, hk => by
    have hl : look (Tm.n2 h a b).head es = Option.none := L.none g.2.1
    obtain ⟨k', rfl⟩ : ∃ k', k = k' + 1 := ⟨k - 1, by exact om29 hk⟩
    simp only [Tm.depth] at hd hk
    rw [wh_n2 hl, Laid.apt L hr ho a k' r g.2.2.1 (by exact om82 hd) (by exact om266 hk), Laid.apt L hr ho b k' r g.2.2.2 (by exact om83 hd) (by exact om267 hk)]; rfl
theorem Laid.fit (L : Laid ρ names es) (hr : ∀ x, ρ x ≤ 6) (ho : ∀ x ∈ names, PyData.strOk x = true) {x : Str} {u : Tm} (h : look x es = some u) : Mine.Internal.apt names (Wfs es) u = Wfs es x := by
  have G := L.gt x u h
  have hu' : look (Tm.lf x).head es = some u := h
  have e : Wfs es x = Mine.Internal.wh es 39 u := wh_some hu'
  rw [e]
  exact (L.apt hr ho u 39 (ρ x) G.1 G.2 (by have := hr x; exact om268 G this)).symm
end
end Mine.Internal
end

section
open PySem
namespace Mine.Internal
noncomputable def lawN : List Str := ["?m", "?c", "?x", "?b", "?t", "?k"]
theorem lawN_ok : ∀ x ∈ lawN, isV x = true ∧ PyData.strOk x = true ∧ x ∉ tl3 ∧ x ≠ "f" ∧ x ≠ "g" := by decide +kernel
theorem tl3_ok : ∀ x ∈ tl3, PyData.strOk x = true := by decide +kernel
theorem fg_ok : PyData.strOk "f" = true ∧ PyData.strOk "g" = true := by decide +kernel
theorem lawN_nd : lawN.Nodup := by decide +kernel
/-- names and what is put for each -/
structure Sown (names : List Str) (us : List Tm) : Prop where
  nd : names.Nodup
  sub : ∀ x ∈ names, x ∈ lawN
  nl : names.length ≤ 6
  len : us.length = names.length
  put : ∀ (k : Nat) (u : Tm), us[k]? = some u → PutOk (names.take k ++ tl3) u
noncomputable def rk (names : List Str) (x : Str) : Nat := if x ∈ names then names.idxOf x + 1 else 0
section
variable {names : List Str} {us : List Tm}
theorem rk_at (nd : names.Nodup) {k : Nat} (hk : k < names.length) : rk names names[k] = k + 1 := by
  unfold rk
  rw [if_pos (List.getElem_mem hk), nd.idxOf_getElem k hk]
theorem rk_lt (nd : names.Nodup) {k : Nat} {x : Str} (h : x ∈ names.take k) : rk names x < k + 1 := by
  obtain ⟨j, hj, rfl⟩ := List.mem_take_iff_getElem.mp h
  have hj2 : j < names.length := by exact om84 hj
  rw [rk_at nd hj2]; exact om269 hj
theorem Sown.leaf (D : Sown names us) {k : Nat} {x : Str} (h : x ∈ names.take k ++ tl3) : PyData.strOk x = true ∧ (x ∈ names → rk names x < k + 1) := by
  rcases List.mem_append.mp h with q | q
  · exact ⟨(lawN_ok x (D.sub x (List.mem_of_mem_take q))).2.1, fun _ => rk_lt D.nd q⟩
  · exact ⟨tl3_ok x q, fun hn => absurd q (lawN_ok x (D.sub x hn)).2.2.1⟩
theorem Sown.notf (D : Sown names us) : Str.ofString "f" ∉ names ∧ Str.ofString "g" ∉ names :=
  ⟨fun h => (lawN_ok _ (D.sub _ h)).2.2.2.1 rfl, fun h => (lawN_ok _ (D.sub _ h)).2.2.2.2 rfl⟩
theorem Sown.gt (D : Sown names us) {k : Nat} {u : Tm} (h : PutOk (names.take k ++ tl3) u) : GT (rk names) names (k + 1) u ∧ (u.tv.length ≤ 2 ∧ u.depth ≤ 2 ∧ u.size ≤ 3) ∧ okT u := by
  have tvl : ∀ x, (Tm.lf x).tv.length ≤ 1 := fun x => Tm.tv_len _
  cases h with
  | p0 hx =>
    refine ⟨D.leaf hx, ⟨?_, by simp [Tm.depth], by simp [Tm.size]⟩, (D.leaf hx).1⟩
    have := tvl ‹_›
    exact om30 this
  | p1 hx =>
    refine ⟨⟨fg_ok.1, D.notf.1, D.leaf hx⟩, ⟨?_, by simp [Tm.depth], by simp [Tm.size]⟩, fg_ok.1, (D.leaf hx).1⟩
    have := tvl ‹_›
    simp only [Tm.tv] at *; exact om30 this
  | p2 hx hy =>
    refine ⟨⟨fg_ok.2, D.notf.2, D.leaf hx, D.leaf hy⟩, ⟨?_, by simp [Tm.depth], by simp [Tm.size]⟩, fg_ok.2, (D.leaf hx).1, (D.leaf hy).1⟩
    rename_i x y
    have h1 := tvl x
    have h2 := tvl y
    simp only [Tm.tv, List.length_append] at *; exact om270 h1 h2
  | p4 hx =>
    refine ⟨⟨fg_ok.1, D.notf.1, fg_ok.1, D.notf.1, D.leaf hx⟩, ⟨?_, by simp [Tm.depth], by simp [Tm.size]⟩, fg_ok.1, fg_ok.1, (D.leaf hx).1⟩
    have := tvl ‹_›
    simp only [Tm.tv] at *; exact om30 this
theorem GT.less {ρ : Str → Nat} {r : Nat} : ∀ {t : Tm}, GT ρ names r t → ∀ y ∈ t.tv, y ∈ names → ρ y < r
  | .lf x, g, y, hy, hn => by
    simp only [Tm.tv] at hy
    split at hy
    · rw [List.mem_singleton.mp hy] at hn ⊢; exact g.2 hn
    · cases hy
  | .n1 h a, g, y, hy, hn => GT.less (t := a) g.2.2 y hy hn
  | .n2 h a b, g, y, hy, hn => by
    simp only [Tm.tv, List.mem_append] at hy
    exact hy.elim (fun q => GT.less g.2.2.1 y q hn) (fun q => GT.less g.2.2.2 y q hn)
/-- the rows, laid in another sequence -/
theorem Sown.rows (D : Sown names us) {R : Tab} (hR : R.Perm (names.zip us)) :
    (R.map (·.1)).Perm names ∧ ∀ e ∈ R, e.1 ∈ names ∧ GT (rk names) names (rk names e.1) e.2 ∧ (e.2.tv.length ≤ 2 ∧ e.2.depth ≤ 2 ∧ e.2.size ≤ 3) ∧ okT e.2 := by
  refine ⟨?_, fun e he => ?_⟩
  · have := hR.map (·.1)
    have e : (names.zip us).map (·.1) = names := List.map_fst_zip (by rw [D.len]; exact Nat.le_refl _)
    rw [e] at this; exact this
  · have he2 := hR.mem_iff.mp he
    obtain ⟨k, hk, rfl⟩ := List.mem_iff_getElem.mp he2
    rw [List.length_zip] at hk
    have hk1 : k < names.length := by exact om271 hk
    have hk2 : k < us.length := by exact om84 hk
    rw [List.getElem_zip]
    have g := D.gt (D.put k us[k] (List.getElem?_eq_getElem hk2))
    simp only
    rw [rk_at D.nd hk1]
    exact ⟨List.getElem_mem hk1, g⟩
theorem rk_six (D : Sown names us) (x : Str) : rk names x ≤ 6 := by
  unfold rk
  split
  · rename_i h
    have := List.idxOf_lt_length_iff.mpr h
    have := D.nl
    exact om272 ‹_› this
  · decide
theorem Sown.laid (D : Sown names us) {R : Tab} (hR : R.Perm (names.zip us)) : Laid (rk names) names R where
  keys x := by rw [look_key]; exact (D.rows hR).1.mem_iff
  gt x u h := by
    obtain ⟨e, he, rfl, rfl⟩ := look_mem h
    have := (D.rows hR).2 e he
    exact ⟨this.2.1, this.2.2.1.2.1⟩
theorem Sown.names' (D : Sown names us) {R : Tab} (hR : R.Perm (names.zip us)) : Names (rk names) names (Wfs R) where
  rank := rk_six D
  nd := D.nd
  nl := D.nl
  nv x hx := ⟨(lawN_ok x (D.sub x hx)).1, (lawN_ok x (D.sub x hx)).2.1⟩
  wd x hx := ((D.laid hR).enough (rk_six D) hx (lawN_ok x (D.sub x hx)).2.1).2
theorem look_self : ∀ {R : Tab}, (R.map (·.1)).Nodup → ∀ e ∈ R, look e.1 R = some e.2
  | a :: r, nd, e, he => by
    have nd := List.nodup_cons.mp nd
    unfold look
    simp only [List.find?_cons]
    by_cases h : a.1 = e.1
    · simp only [h, decide_true]
      rcases List.mem_cons.mp he with rfl | q
      · rfl
      · exact absurd (List.mem_map.mpr ⟨e, q, h.symm⟩) nd.1
    · simp only [h, decide_false]
      rcases List.mem_cons.mp he with rfl | q
      · exact absurd rfl h
      · exact look_self nd.2 e q
theorem Sown.ents (D : Sown names us) {R : Tab} (hR : R.Perm (names.zip us)) : Ents (rk names) names (Wfs R) R where
  ent e he := by
    have := (D.rows hR).2 e he
    have hnd : (R.map (·.1)).Nodup := (D.rows hR).1.nodup_iff.mpr D.nd
    exact ⟨(D.laid hR).fit (rk_six D) (fun x hx => (lawN_ok x (D.sub x hx)).2.1) (look_self hnd e he), this.2.1.less, this.2.2.1, this.2.2.2⟩
  sub e he := ((D.rows hR).2 e he).1
end
end Mine.Internal
end

section
open PySem
namespace Mine.Internal
theorem lawL_perm (r : Nat) : (lawN.drop r ++ lawN.take r).Perm lawN := by
  have := List.perm_append_comm (l₁ := lawN.drop r) (l₂ := lawN.take r)
  rw [List.take_append_drop] at this
  exact this
noncomputable def rowV (e : Str × Tm) : PV := .tup [.str e.1, e.2.enc]
theorem zip_row : ∀ (names : List Str) (us : List Tm), List.zipWith (fun a b => PV.tup [a, b]) (names.map .str) (us.map Tm.enc) = (names.zip us).map rowV
  | [], _ => rfl
  | _ :: _, [] => rfl
  | x :: xs, u :: us => by
    rw [List.map_cons, List.map_cons, List.zipWith_cons_cons, List.zip_cons_cons, List.map_cons, zip_row xs us]; rfl
theorem pairs_row : ∀ R : Tab, pairsOf? (R.map rowV) = some (encT R)
  | [] => rfl
  | e :: r => by
    simp only [List.map_cons, pairsOf?, rowV, pairs_row r]; rfl
theorem fold_put : ∀ (l acc : List (Str × PV)), ((acc ++ l).map (·.1)).Nodup → l.foldl (fun es p => dput p.1 p.2 es) acc = acc ++ l
  | [], acc, _ => by simp
  | e :: r, acc, h => by
    rw [List.foldl_cons, dput_new, fold_put r (acc ++ [(e.1, e.2)]) (by simpa using h)]
    · simp
    · rw [List.map_append, List.map_cons] at h
      exact fun q => (List.nodup_append.mp h).2.2 e.1 q e.1 (by simp) rfl
theorem encT_keys (R : Tab) : (encT R).map (·.1) = R.map (·.1) := keys_enc R
theorem Board.kp2' {b c s a : Nat} {cells : List Int} {S : St} {o : PO} (B : Board S b c cells s) (h : ¬ a = b) (h2 : ¬ a = c) : Board (S.set a o) b c cells s :=
  ⟨by rw [List.getElem?_set_ne h]; exact B.b, by rw [List.getElem?_set_ne h2]; exact B.c, B.n, B.r, B.s⟩
structure MP (b c : Nat) (cells : List Int) (names : List Str) (r : Nat) (i : Nat) (out : List PV) (S : St) (us : List Tm) (s : Nat) : Prop where
  out : out = us.map Tm.enc
  len : us.length = i
  put : ∀ (k : Nat) (u : Tm), us[k]? = some u → PutOk (names.take k ++ tl3) u
  b : Board S b c cells s
  s : s ≤ 3 + 3 * i
  e : S[r]? = some (.lst (names.map .str))
section
variable {S : St} {Q : PV → St → Prop}
theorem r_fromT {k : Nat} {vs : List PV} (hk : k ≤ 1000) (hl : vs.length ≤ lineLen) (h : Q (.tup (vs.drop k)) S) : W (psliceFrom (.tup vs) (k : Int)) S Q := by
  rw [q_from_tup, if_pos (by rw [decide_eq_true hl, decide_eq_true (by exact om8), decide_eq_true (by exact om9 hk)]; rfl), Int.toNat_natCast]; exact r_ret h
theorem r_toT {k : Nat} {vs : List PV} (hk : k ≤ 1000) (hl : vs.length ≤ lineLen) (h : Q (.tup (vs.take k)) S) : W (psliceTo (.tup vs) (k : Int)) S Q := by
  rw [q_to_tup, if_pos (by rw [decide_eq_true hl, decide_eq_true (by exact om8), decide_eq_true (by exact om9 hk)]; rfl), Int.toNat_natCast]; exact r_ret h
theorem r_fromL {n k : Nat} {vs : List PV} (e : S[n]? = some (.lst vs)) (hk : k ≤ 1000) (hl : vs.length ≤ lineLen) (h : Q (.ref S.length) (S ++ [.lst (vs.drop k)])) : W (psliceFrom (.ref n) (k : Int)) S Q := by
  rw [q_from_ref]; refine r_bnd ((W_getL e).mpr (r_pos ?_ (W_alloc.mpr ?_)))
  · rw [decide_eq_true hl, decide_eq_true (by exact om8), decide_eq_true (by exact om9 hk)]; rfl
  · rw [Int.toNat_natCast]; exact h
theorem r_revL {n : Nat} {vs : List PV} (e : S[n]? = some (.lst vs)) (hl : vs.length ≤ lineLen) (h : Q (.ref S.length) (S ++ [.lst vs.reverse])) : W (psliceRev (.ref n)) S Q := by
  rw [q_rev_ref]; exact r_bnd ((W_getL e).mpr (r_pos hl (W_alloc.mpr h)))
theorem r_listT {C : Ctx} {vs : List PV} (hl : vs.length ≤ lineLen) (h : Q (.ref S.length) (S ++ [.lst vs])) : W (papply C (.ty "list") [.tup vs]) S Q := by
  rw [q_list_tup]; exact r_pos hl (W_alloc.mpr h)
theorem r_rng {n : Nat} {Q : Src → St → Prop} (hn : n ≤ 1000) (h : Q (.rng n) S) : W (rngK (.int (n : Int))) S Q := by
  refine r_pos ?_ (r_ret ?_)
  · rw [decide_eq_true (by exact om8), decide_eq_true (by exact om9 hn)]; rfl
  · rw [Int.toNat_natCast]; exact h
theorem r_lzip {i j : Nat} {xs ys : List PV} (e1 : S[i]? = some (.lst xs)) (e2 : S[j]? = some (.lst ys)) (hl : xs.length ≤ lineLen) (he : xs.length = ys.length) (h : Q (.ref S.length) (S ++ [.lst (List.zipWith (fun a b => .tup [a, b]) xs ys)])) : W (lzipK (.ref i) (.ref j)) S Q :=
  r_bnd ((W_getL e1).mpr (r_bnd ((W_getL e2).mpr (r_pos (by rw [decide_eq_true hl, he, beq_self_eq_true]; rfl) (W_alloc.mpr h)))))
theorem r_dictL {C : Ctx} {n : Nat} {R : Tab} (e : S[n]? = some (.lst (R.map rowV))) (hl : R.length ≤ 1000) (hnd : (R.map (·.1)).Nodup) (h : Q (.ref S.length) (S ++ [.dct (encT R)])) : W (papply C (.ty "dict") [.ref n]) S Q := by
  rw [q_dict]; refine r_bnd ((W_getL e).mpr ?_)
  rw [pairs_row]
  have hf := fold_put (encT R) [] (by rw [List.nil_append, encT_keys]; exact hnd)
  refine r_bnd (W_lift.mpr (r_pos (by unfold encT; rw [List.length_map]; show _ ≤ 100000; exact om27 hl) (W_alloc.mpr ?_)))
  rw [hf]; exact h
/-- a comprehension over a range, with a state -/
theorem mcompS {N : Nat} (ks : List Str) (P : Nat → List PV → St → Prop) {as : PV → Fm → Option Fm} {elt : Fm → PM PV} {m0 : Fm} {src : PM Src} {ok : Src → Bool} (hN : N < 90000) (hok : ok (.rng N) = true)
    (hs : W src S (fun s S1 => s = .rng N ∧ S1 = S)) (h0 : P 0 [] (S ++ [.lst []]))
    (ht : ∀ i m1 out S1, i < N → out.length = i → (∀ x ∈ ks, m1 x = m0 x) → P i out S1 → S1[S.length]? = some (.lst out) → ∃ m2, as (.int (i : Nat)) m1 = some m2 ∧ (∀ x ∈ ks, m2 x = m0 x) ∧
      W (elt m2) S1 (fun u S2 => S2[S.length]? = some (.lst out) ∧ P (i + 1) (out ++ [u]) (S2.set S.length (.lst (out ++ [u])))))
    (h : ∀ out S', out.length = N → P N out S' → S'[S.length]? = some (.lst out) → Q (.ref S.length) S') : W (mcomp src ok as (fun a => leafB a (fun m => PM.ret true) elt) m0) S Q := by
  refine r_bnd (W_mono hs fun s S1 q => r_bnd (r_alloc ?_))
  obtain ⟨rfl, rfl⟩ := q
  have hnok : ¬ (!(ok (.rng N))) = true := by rw [hok]; decide
  show W (if (!(ok (.rng N))) = true then PM.fail else _) _ _
  rw [if_neg hnok]
  have hvl : ((List.range N).map fun i : Nat => PV.int (i : Int)).length = N := by rw [List.length_map, List.length_range]
  refine r_bnd (W_mono (cloop_rule (vals := (List.range N).map fun i : Nat => PV.int (i : Int)) (P := fun i m1 S2 => (∀ x ∈ ks, m1 x = m0 x) ∧ ∃ out, out.length = i ∧ P i out S2 ∧ S2[S1.length]? = some (.lst out))
    (fun i m1 S2 _ => ?_) (fun i v m1 S2 hv q => ?_) wf0 0 _ _ (by rw [hvl]; show _ < 0 + 100000; exact om85 hN) (Nat.zero_le _) ⟨fun _ _ => rfl, [], rfl, h0, St.app_self⟩) fun m1 S2 q => ?_)
  · show some (_, S2) = _
    by_cases hi : i < N
    · rw [if_pos hi, List.getElem?_map, List.getElem?_range hi]; rfl
    · rw [if_neg hi, List.getElem?_eq_none_iff.mpr (by rw [hvl]; exact om18 hi)]
  · obtain ⟨hm, out, ho, hp, ha⟩ := q
    have hi : i < N := by have := (List.getElem?_eq_some_iff.mp hv).1; rw [hvl] at this; exact this
    have hv2 : v = .int i := by
      rw [List.getElem?_map, List.getElem?_range hi] at hv
      cases hv; rfl
    subst hv2
    obtain ⟨m2, e2, hm2, w⟩ := ht i m1 out S2 hi ho hm hp ha
    refine ⟨m2, e2, r_bnd (r_ret (r_iteT (r_bnd (W_mono w fun u S3 q => ?_))))⟩
    obtain ⟨a3, p3⟩ := q
    exact r_bnd ((W_getL a3).mpr (r_pos (by show _ < 100000; exact om274 hN ho hi) (r_bnd ((W_put (St.lt a3)).mpr (r_ret ⟨hm2, out ++ [u], by rw [List.length_append, ho]; rfl, p3, St.set_self (St.lt a3)⟩)))))
  · rw [hvl] at q
    obtain ⟨_, out, ho, hp, ha⟩ := q
    exact r_ret (h out S2 ho hp ha)
end
theorem rowF (f : Str × Tm → PV) (g : PV → List PV) (h : ∀ e, g (rowV e) = [f e]) : ∀ l : Tab, (l.map rowV).flatMap g = l.map f
  | [] => rfl
  | e :: r => by rw [List.map_cons, List.flatMap_cons, rowF f g h r, h]; rfl
theorem strF (f : Str → PV) (g : PV → List PV) (h : ∀ x, g (.str x) = [f x]) : ∀ l : List Str, (l.map PV.str).flatMap g = l.map f
  | [] => rfl
  | e :: r => by rw [List.map_cons, List.flatMap_cons, strF f g h r, h]; rfl
/-- behind the rows: tables, wholes, and that all is right -/
theorem law_rows {k r4 rr : Nat} {names : List Str} {us : List Tm} {R : Tab} {S7 : St} {m7 : Fm} {Q : PFlow × Fm → St → Prop} (D : Sown names us) (hR : R.Perm (names.zip us)) (h0 : 0 < names.length)
    (m7n : m7 "names" = some (.ref r4)) (m7r : m7 "rows" = some (.ref rr)) (e7 : S7[r4]? = some (.lst (names.map .str))) (er7 : S7[rr]? = some (.lst (R.map rowV)))
    (h : ∀ m S, Q (.ret (.bool true), m) S) : W (pexs (C0 (k + 50)) 53 (fdI 23).scope [s23_8, s23_9, s23_10, s23_11, s23_12] m7) S7 Q := by
  have hRk := (D.rows hR).1
  have hRnd : (R.map (·.1)).Nodup := hRk.nodup_iff.mpr D.nd
  have hRl : R.length = names.length := by have := hRk.length_eq; rw [List.length_map] at this; exact this
  have hnl := D.nl
  refine pexs_step n23_8 fun K hK _ _ => ?_
  walk_at "W"
  refine r_dictL er7 (by exact om275 hRl hnl) hRnd ?_
  walk_at "W"
  refine hK _ _ ?_
  have p1 : (m7.upd "table" (.ref S7.length)) "names" = some (.ref r4) := upd_ne (by kernel_rfl) m7n
  have p2 : (m7.upd "table" (.ref S7.length)) "rows" = some (.ref rr) := upd_ne (by kernel_rfl) m7r
  have p3 : (m7.upd "table" (.ref S7.length)) "table" = some (.ref S7.length) := upd_self
  have e8 := St.app_keep e7 [.dct (encT R)]
  have er8 := St.app_keep er7 [.dct (encT R)]
  have en8 : (S7 ++ [PO.dct (encT R)])[S7.length]? = some (.dct (encT R)) := St.app_self
  generalize hn : S7.length = n at p1 p2 p3 en8 ⊢
  generalize m7.upd "table" (.ref n) = m8 at p1 p2 p3 ⊢
  generalize S7 ++ [PO.dct (encT R)] = S8 at e8 er8 en8 ⊢
  clear m7n m7r e7 er7 hn
  refine pexs_step n23_9 fun K hK _ _ => ?_
  walk_at "W"
  refine mcomp_rule (vals := names.map .str) (f := fun v => match v with | .str x => [rowV (x, Wfs R x)] | _ => []) ["table"] (by rw [List.length_map]; exact om31 hnl) (fun v _ => by split; exact Nat.le_refl 1; exact Nat.zero_le 1) ?_ ?_ ?_
  · walk_at "W"
    exact ⟨.refl _ _, live_src e8, rfl⟩
  · intro v m9 S9 hv hm9 hk9
    obtain ⟨x, hx, rfl⟩ := List.mem_map.mp hv
    have h1 : m9 "table" = some (.ref n) := (hm9 "table" (List.mem_singleton.mpr rfl)).trans p3
    have h2 : (m9.upd "name" (.str x)) "table" = some (.ref n) := upd_ne (by kernel_rfl) h1
    refine ⟨m9.upd "name" (.str x), rfl, ?_, r_ret ⟨.refl _ _, ?_⟩⟩
    · intro y hy
      rw [List.mem_singleton.mp hy]
      exact h2.trans p3.symm
    · rw [if_pos rfl]
      have hen := (D.laid hR).enough (rk_six D) hx (lawN_ok x (D.sub x hx)).2.1
      have hmo := wh_mono (i := k + 50) hen.1 (by exact om276)
      walk_at "W"
      refine whole_run (k + 50) (.lf x) n R S9 _ hmo.2 (hk9.keep _ _ en8 id) fun S10 k10 => ?_
      walk_at "W"
      refine ⟨k10, ?_⟩
      rw [hmo.1]; rfl
  intro a S9 k9 ha e9
  have em := strF (fun x => rowV (x, Wfs R x)) (fun v => match v with | .str x => [rowV (x, Wfs R x)] | _ => []) (fun x => rfl) names
  have em2 : names.map (fun x => rowV (x, Wfs R x)) = (names.map fun x => (x, Wfs R x)).map rowV := by rw [List.map_map]; rfl
  rw [em, em2] at e9
  have hnk : (names.map fun x => (x, Wfs R x)).map (·.1) = names := by rw [List.map_map]; exact List.map_id'' (fun _ => rfl) _
  refine r_dictL e9 (by rw [List.length_map]; exact om17 hnl) (by rw [hnk]; exact D.nd) ?_
  walk_at "W"
  refine hK _ _ ?_
  have o2 : (m8.upd "wholes" (.ref S9.length)) "rows" = some (.ref rr) := upd_ne (by kernel_rfl) p2
  have o3 : (m8.upd "wholes" (.ref S9.length)) "table" = some (.ref n) := upd_ne (by kernel_rfl) p3
  have o4 : (m8.upd "wholes" (.ref S9.length)) "wholes" = some (.ref S9.length) := upd_self
  have er9 := St.app_keep (k9.keep _ _ er8 id) [.dct (encT (names.map fun x => (x, Wfs R x)))]
  have en9 := St.app_keep (k9.keep _ _ en8 id) [.dct (encT (names.map fun x => (x, Wfs R x)))]
  have ew9 : (S9 ++ [PO.dct (encT (names.map fun x => (x, Wfs R x)))])[S9.length]? = some (.dct (encT (names.map fun x => (x, Wfs R x)))) := St.app_self
  generalize S9.length = w9 at o2 o3 o4 ew9 ⊢
  generalize m8.upd "wholes" (.ref w9) = m9 at o2 o3 o4 ⊢
  generalize S9 ++ [PO.dct (encT (names.map fun x => (x, Wfs R x)))] = SB at er9 en9 ew9 ⊢
  clear e9 e8 er8 en8 k9 p1 p2 p3
  have hNm := D.names' hR
  have hE := D.ents hR
  have hF : Fit R (rk names) names (Wfs R) := hE.toFit hNm hRnd fun x hx => hRk.mem_iff.mpr hx
  refine pexs_step n23_10 fun K hK _ _ => W_if fun KT hT hFl => ?_
  walk_at "W"
  refine is_right_run hF en9 ew9 fun S10 k10 => ?_
  walk_at "W"
  show KT false S10
  refine hFl _ ?_
  rw [b23_10_1]
  refine pexs_nil' (hK _ _ ?_)
  have er10 := k10.keep _ _ er9 id
  have ew10 := k10.keep _ _ ew9 id
  clear k10 en9 er9 ew9
  refine pexs_step n23_11 fun K hK _ _ => ?_
  have hl1 : R.length ≤ 6 := by exact om277 hRl hnl
  have hne : R ≠ [] := by rintro rfl; rw [List.length_nil] at hRl; omega
  walk_at "W"
  refine mcomp_rule (vals := R.map rowV) (f := fun v => match v with | .tup [.str x, _] => [(Tm.lf x).enc] | _ => []) [] (by rw [List.length_map]; exact om86 hRl hnl) (fun v _ => by split; exact Nat.le_refl 1; exact Nat.zero_le 1) ?_ ?_ ?_
  · walk_at "W"
    exact ⟨.refl _ _, live_src er10, rfl⟩
  · intro v m1 S1 hv hm hk1
    obtain ⟨e, he, rfl⟩ := List.mem_map.mp hv
    refine ⟨(m1.upd "name" (.str e.1)).upd "t" e.2.enc, by kernel_rfl, (fun x hx => by cases hx), r_ret ⟨.refl _ _, ?_⟩⟩
    rw [if_pos rfl]
    walk_at "W"
    exact ⟨.refl _ _, rfl⟩
  intro a1 Sa ka _ ea
  rw [rowF (fun p => (Tm.lf p.1).enc) _ (fun e => rfl)] at ea
  have ea : Sa[a1]? = some (.lst (oneV R)) := ea
  have hol : (oneV R).length ≤ lineLen := by unfold oneV; rw [List.length_map]; show _ ≤ 100000; exact om87 hRl hnl
  have hol2 : [PV.str "h"].length + (oneV R).length ≤ lineLen := by unfold oneV; rw [List.length_map]; show 1 + _ ≤ 100000; exact om88 hRl hnl
  have era := ka.keep _ _ er10 id
  have ewa := ka.keep _ _ ew10 id
  walk_at "W"
  refine mcomp_rule (vals := R.map rowV) (f := fun v => match v with | .tup [_, t] => [t] | _ => []) [] (by rw [List.length_map]; exact om86 hRl hnl) (fun v _ => by split; exact Nat.le_refl 1; exact Nat.zero_le 1) ?_ ?_ ?_
  · walk_at "W"
    exact ⟨.refl _ _, live_src era, rfl⟩
  · intro v m1 S1 hv hm hk1
    obtain ⟨e, he, rfl⟩ := List.mem_map.mp hv
    refine ⟨(m1.upd "name" (.str e.1)).upd "t" e.2.enc, by kernel_rfl, (fun x hx => by cases hx), r_ret ⟨.refl _ _, ?_⟩⟩
    rw [if_pos rfl]
    walk_at "W"
    exact ⟨.refl _ _, rfl⟩
  intro a2 Sb kb _ eb
  rw [rowF (fun p => p.2.enc) _ (fun e => rfl)] at eb
  have eb : Sb[a2]? = some (.lst (otherV R)) := eb
  have hpl : (otherV R).length ≤ lineLen := by unfold otherV; rw [List.length_map]; show _ ≤ 100000; exact om87 hRl hnl
  have hpl2 : [PV.str "h"].length + (otherV R).length ≤ lineLen := by unfold otherV; rw [List.length_map]; show 1 + _ ≤ 100000; exact om88 hRl hnl
  have ewb := kb.keep _ _ ewa id
  walk_at "W"
  refine begun_run hNm hE hRnd (fun x hx => hRk.mem_iff.mpr hx) hl1 hne fun q Sc made kc hq eq Fm => ?_
  walk_at "W"
  refine hK _ _ ?_
  have g1 : (m9.upd "made" (.ref q)) "made" = some (.ref q) := upd_self
  have g2 : (m9.upd "made" (.ref q)) "wholes" = some (.ref w9) := upd_ne (by kernel_rfl) o4
  generalize m9.upd "made" (.ref q) = m10 at g1 g2 ⊢
  refine pexs_step n23_12 fun K hK hR _ => ?_
  walk_at "W"
  refine r_ret (r_pAt ?_)
  walk_at "W"
  refine is_right_run Fm eq (kc.keep _ _ ewb id) fun S12 k12 => ?_
  walk_at "W"
  exact hR _ _ _ (h _ _)
theorem body23 : (fdI 23).body.tail = [s23_1, s23_2, s23_3, s23_4, s23_5, s23_6, s23_7, s23_8, s23_9, s23_10, s23_11, s23_12] := by rw [b23]; rfl
/-- behind the names: puts and rows -/
theorem law_names {k b c r4 : Nat} {names : List Str} {cells : List Int} {S4 : St} {m4 : Fm} {Q : PFlow × Fm → St → Prop} (hNd : names.Nodup) (hNs : ∀ x ∈ names, x ∈ lawN) (hn6 : names.length ≤ 6) (h0 : 0 < names.length)
    (m4b : m4 "board" = some (.ref b)) (m4m : m4 "many" = some (.int (names.length : Nat))) (m4n : m4 "names" = some (.ref r4)) (e4 : S4[r4]? = some (.lst (names.map .str))) (B4 : Board S4 b c cells 3)
    (h : ∀ m S, Q (.ret (.bool true), m) S) : W (pexs (C0 (k + 50)) 56 (fdI 23).scope [s23_5, s23_6, s23_7, s23_8, s23_9, s23_10, s23_11, s23_12] m4) S4 Q := by
  have hr4 := St.lt e4
  have hb4 := St.lt B4.b
  have hc4 := St.lt B4.c
  have hbr : b ≠ r4 := by rintro rfl; have h1 := B4.b; rw [e4] at h1; cases h1
  have hnm : (names.map PV.str).length ≤ lineLen := by rw [List.length_map]; show _ ≤ 100000; exact om16 hn6
  refine pexs_step n23_5 fun K hK _ _ => r_bnd ?_
  refine mcompS (N := names.length) ["board", "names"] (fun i out S5 => ∃ us s, MP b c cells names r4 i out S5 us s) (by exact om31 hn6) rfl ?_ ⟨[], 3, rfl, rfl, (fun k u hu => by cases hu), B4.kp (Kp.app _ _ _), Nat.le_refl _, St.app_keep e4 _⟩ ?_ ?_
  · walk_at "W"
    exact r_rng (by exact om17 hn6) ⟨rfl, rfl⟩
  · rintro i m5 out S5 hi ho hm5 ⟨us, s, I⟩ ea
    have h1 : m5 "board" = some (.ref b) := (hm5 "board" (by simp)).trans m4b
    have h2 : m5 "names" = some (.ref r4) := (hm5 "names" (by simp)).trans m4n
    have g1 : (m5.upd "k" (.int (i : Nat))) "board" = some (.ref b) := upd_ne (by kernel_rfl) h1
    have g2 : (m5.upd "k" (.int (i : Nat))) "names" = some (.ref r4) := upd_ne (by kernel_rfl) h2
    refine ⟨m5.upd "k" (.int (i : Nat)), rfl, ?_, ?_⟩
    · intro z hz
      simp only [List.mem_cons, List.not_mem_nil, or_false] at hz
      rcases hz with rfl | rfl
      · exact g1.trans m4b.symm
      · exact g2.trans m4n.symm
    · have hIs := I.s
      walk_at "W"
      refine r_toL I.e (by exact om15 hn6 hi) hnm ?_
      rw [← List.map_take]
      walk_at "W"
      refine put_run (lesser := names.take i) (I.b.kp (Kp.app _ _ _)) (by exact om278 hn6 hi hIs) St.app_self (Nat.ne_of_lt (St.lt I.b.b)) (by rw [List.length_take]; exact om62 hn6) fun t S6 s6 k6 B6 hs6 hp => ?_
      have ea6 := k6.keep _ _ (St.app_keep ea _) (by exact om32 hb4)
      have e6 := k6.keep _ _ (St.app_keep I.e _) (fun q => hbr q.symm)
      refine ⟨ea6, us ++ [t], s6, by rw [I.out, List.map_append]; rfl, by rw [List.length_append, I.len]; rfl, ?_, B6.kp2' (by exact om32 hb4) (by exact om32 hc4), by exact om279 hIs hs6, ?_⟩
      · intro k u hk
        by_cases hku : k < us.length
        · rw [List.getElem?_append_left hku] at hk; exact I.put k u hk
        · have hlt := (List.getElem?_eq_some_iff.mp hk).1
          rw [List.length_append] at hlt
          have hlt : k < us.length + 1 := hlt
          have hke : k = us.length := by exact om280 hku hlt
          subst hke
          rw [List.getElem?_concat_length] at hk
          cases hk
          rw [I.len]; exact hp
      · rw [List.getElem?_set_ne (by exact om281 hr4)]; exact e6
  rintro out S5 ho ⟨us, s, I⟩ ea
  rw [I.out] at ea
  have hIs := I.s
  have D : Sown names us := ⟨hNd, hNs, hn6, I.len, I.put⟩
  have hDl := I.len
  walk_at "W"
  refine hK _ _ ?_
  have p1 : (m4.upd "puts" (.ref S4.length)) "board" = some (.ref b) := upd_ne (by kernel_rfl) m4b
  have p2 : (m4.upd "puts" (.ref S4.length)) "many" = some (.int (names.length : Nat)) := upd_ne (by kernel_rfl) m4m
  have p3 : (m4.upd "puts" (.ref S4.length)) "names" = some (.ref r4) := upd_ne (by kernel_rfl) m4n
  have p4 : (m4.upd "puts" (.ref S4.length)) "puts" = some (.ref S4.length) := upd_self
  have hbp : b ≠ S4.length := Nat.ne_of_lt hb4
  generalize S4.length = r5 at p1 p2 p3 p4 ea hbp ⊢
  generalize m4.upd "puts" (.ref r5) = m5 at p1 p2 p3 p4 ⊢
  refine pexs_step n23_6 fun K hK _ _ => ?_
  walk_at "W"
  refine peg_run (many := names.length) I.b h0 (by exact om17 hn6) fun w hw => ?_
  walk_at "W"
  refine hK _ _ ?_
  have e6 : (S5.set b (boardO c ((s + 1 : Nat) : Int)))[r4]? = some (.lst (names.map .str)) := by rw [List.getElem?_set_ne hbr]; exact I.e
  have ep6 : (S5.set b (boardO c ((s + 1 : Nat) : Int)))[r5]? = some (.lst (us.map Tm.enc)) := by rw [List.getElem?_set_ne hbp]; exact ea
  have o3 : (m5.upd "spot" (.int (w : Nat))) "names" = some (.ref r4) := upd_ne (by kernel_rfl) p3
  have o4 : (m5.upd "spot" (.int (w : Nat))) "puts" = some (.ref r5) := upd_ne (by kernel_rfl) p4
  have o5 : (m5.upd "spot" (.int (w : Nat))) "spot" = some (.int (w : Nat)) := upd_self
  generalize S5.set b (boardO c ((s + 1 : Nat) : Int)) = S6 at e6 ep6 ⊢
  generalize m5.upd "spot" (.int (w : Nat)) = m6 at o3 o4 o5 ⊢
  have hR : ((names.zip us).drop w ++ (names.zip us).take w).Perm (names.zip us) := by
    have := List.perm_append_comm (l₁ := (names.zip us).drop w) (l₂ := (names.zip us).take w)
    rw [List.take_append_drop] at this
    exact this
  have hZl : ((names.zip us).map rowV).length = names.length := by rw [List.length_map, List.length_zip]; exact om282 hDl
  have hzz := zip_row names us
  have hxy : (names.map PV.str).length = (us.map Tm.enc).length := by rw [List.length_map, List.length_map, hDl]
  refine pexs_step n23_7 fun K hK _ _ => ?_
  walk_at "W"
  refine r_lzip e6 ep6 hnm hxy ?_
  rw [hzz]
  walk_at "W"
  refine r_fromL St.app_self (by exact om15 hn6 hw) (by rw [hZl]; show _ ≤ 100000; exact om16 hn6) ?_
  walk_at "W"
  refine r_lzip (St.app_keep (St.app_keep e6 _) _) (St.app_keep (St.app_keep ep6 _) _) hnm hxy ?_
  rw [hzz]
  walk_at "W"
  refine r_toL St.app_self (by exact om15 hn6 hw) (by rw [hZl]; show _ ≤ 100000; exact om16 hn6) ?_
  refine r_addL (St.app_keep (St.app_keep St.app_self _) _) St.app_self (by rw [List.length_drop, List.length_take, hZl]; show _ ≤ 100000; exact om283 hn6) ?_
  rw [← List.map_drop, ← List.map_take, ← List.map_append]
  walk_at "W"
  refine hK _ _ ?_
  refine law_rows D hR h0 (upd_ne (by kernel_rfl) o3) upd_self ?_ St.app_self h
  exact St.app_keep (St.app_keep (St.app_keep (St.app_keep (St.app_keep e6 _) _) _) _) _
theorem law_run {k b c : Nat} {cells : List Int} {S : St} {m : Fm} (B : Board S b c cells 0) (hm : m "board" = some (.ref b)) :
    W (pexs (C0 (k + 50)) 60 (fdI 23).scope (fdI 23).body.tail m) S (fun r S' => r.1 = .ret (.bool true)) := by
  rw [body23]
  refine pexs_step n23_1 fun K hK _ _ => ?_
  walk_at "W"
  refine peg_run (many := 6) B (by decide) (by decide) fun r1 hr1 => ?_
  have B1 := B.next (by decide)
  generalize S.set b (boardO c ((0 + 1 : Nat) : Int)) = S1 at B1 ⊢
  have s1 : smallInt 1 = true := rfl
  have s2 := small_nat (n := r1) (by exact om284 hr1)
  walk_at "W"
  have eM : (1 : Int) + r1 = ((r1 + 1 : Nat) : Int) := by exact om285
  rw [eM]
  refine peg_run (many := 6) B1 (by decide) (by decide) fun T hT => ?_
  have B2 := B1.next (by decide)
  generalize S1.set b (boardO c ((0 + 1 + 1 : Nat) : Int)) = S2 at B2 ⊢
  walk_at "W"
  refine r_var a23_1 ?_
  walk_at "W"
  refine hK _ _ ?_
  have p1 : ((m.upd "many" (.int ((r1 + 1 : Nat) : Int))).upd "turn" (.int (T : Nat))) "board" = some (.ref b) := upd_ne (by kernel_rfl) (upd_ne (by kernel_rfl) hm)
  have p2 : ((m.upd "many" (.int ((r1 + 1 : Nat) : Int))).upd "turn" (.int (T : Nat))) "many" = some (.int ((r1 + 1 : Nat) : Int)) := upd_ne (by kernel_rfl) upd_self
  have p3 : ((m.upd "many" (.int ((r1 + 1 : Nat) : Int))).upd "turn" (.int (T : Nat))) "turn" = some (.int (T : Nat)) := upd_self
  generalize (m.upd "many" (.int ((r1 + 1 : Nat) : Int))).upd "turn" (.int (T : Nat)) = m1 at p1 p2 p3 ⊢
  have hM1 : 1 ≤ r1 + 1 ∧ r1 + 1 ≤ 6 := by exact om286 hr1
  generalize r1 + 1 = M at p2 hM1
  refine pexs_step n23_2 fun K hK _ _ => ?_
  walk_at "W"
  refine r_fromT (by exact om89 hT) (by show 6 ≤ 100000; decide) ?_
  walk_at "W"
  refine r_toT (by exact om89 hT) (by show 6 ≤ 100000; decide) ?_
  have hN : (lawN.drop T ++ lawN.take T).Perm lawN := lawL_perm T
  have hNl : (lawN.drop T ++ lawN.take T).length = 6 := hN.length_eq
  have eN : ∀ l : List PV, l = lawN.map .str → l.drop T ++ l.take T = (lawN.drop T ++ lawN.take T).map .str := by
    rintro l rfl; rw [List.map_append, List.map_drop, List.map_take]
  refine r_addT (by rw [List.length_drop, List.length_take]; show 6 - T + min T 6 ≤ 100000; exact om287) ?_
  rw [eN [.str "?m", .str "?c", .str "?x", .str "?b", .str "?t", .str "?k"] rfl]
  generalize lawN.drop T ++ lawN.take T = N2 at hN hNl ⊢
  have hl6 : (N2.map PV.str).length ≤ lineLen := by rw [List.length_map, hNl]; show 6 ≤ 100000; decide
  refine r_listT hl6 ?_
  walk_at "W"
  refine hK _ _ ?_
  have o1 : (m1.upd "names" (.ref S2.length)) "board" = some (.ref b) := upd_ne (by kernel_rfl) p1
  have o2 : (m1.upd "names" (.ref S2.length)) "many" = some (.int (M : Nat)) := upd_ne (by kernel_rfl) p2
  have o3 : (m1.upd "names" (.ref S2.length)) "names" = some (.ref S2.length) := upd_self
  have B2 := B2.kp (Kp.app no1 S2 (.lst (N2.map .str)))
  have e2 : (S2 ++ [PO.lst (N2.map .str)])[S2.length]? = some (.lst (N2.map .str)) := St.app_self
  generalize S2.length = r2 at o1 o2 o3 e2 ⊢
  generalize S2 ++ [PO.lst (N2.map .str)] = S3 at e2 B2 ⊢
  generalize m1.upd "names" (.ref r2) = m2 at o1 o2 o3 ⊢
  -- behind the turning round
  have rest : ∀ (m3 : Fm) (S4 : St) (r3 : Nat) (N3 : List Str), List.Perm N3 lawN → m3 "board" = some (.ref b) → m3 "many" = some (.int (M : Nat)) → m3 "names" = some (.ref r3) → S4[r3]? = some (.lst (N3.map .str)) → Board S4 b c cells 3 →
      W (pexs (C0 (k + 50)) 57 (fdI 23).scope [s23_4, s23_5, s23_6, s23_7, s23_8, s23_9, s23_10, s23_11, s23_12] m3) S4 (fun r S' => r.1 = .ret (.bool true)) := by
    intro m3 S4 r3 N3 hN3 q1 q2 q3 e3 B3
    have hl3 : N3.length = 6 := hN3.length_eq
    refine pexs_step n23_4 fun K hK _ _ => ?_
    walk_at "W"
    refine r_toL e3 (by exact om288 hM1) (by rw [List.length_map, hl3]; show 6 ≤ 100000; decide) ?_
    rw [← List.map_take]
    walk_at "W"
    refine hK _ _ ?_
    have hNl : (N3.take M).length = M := by rw [List.length_take]; exact om289 hM1 hl3
    exact law_names ((List.take_sublist M N3).nodup (hN3.nodup_iff.mpr lawN_nd)) (fun x hx => hN3.mem_iff.mp (List.mem_of_mem_take hx)) (by exact om290 hM1 hNl) (by exact om291 hM1 hNl) (upd_ne (by kernel_rfl) q1) (by rw [hNl]; exact upd_ne (by kernel_rfl) q2) upd_self St.app_self (B3.kp (Kp.app _ _ _)) fun _ _ => rfl
  refine pexs_step n23_3 fun K hK _ _ => W_if fun KT hT hF => ?_
  walk_at "W"
  refine peg_run (many := 2) B2 (by decide) (by decide) fun r3 hr3 => ?_
  have B3 := B2.next (by decide)
  have hbr : ¬ b = r2 := by rintro rfl; have h1 := B2.b; rw [e2] at h1; cases h1
  have e3 : (S3.set b (boardO c ((2 + 1 : Nat) : Int)))[r2]? = some (.lst (N2.map .str)) := by rw [List.getElem?_set_ne hbr]; exact e2
  generalize S3.set b (boardO c ((2 + 1 : Nat) : Int)) = S4 at B3 e3 ⊢
  walk_at "W"
  cases hr : ((r3 : Int) == 1) with
  | true =>
    refine hT _ ?_
    rw [b23_3_0]
    refine pexs_step n23_3_0_0 fun K2 hK2 _ _ => ?_
    walk_at "W"
    refine r_revL e3 hl6 ?_
    rw [← List.map_reverse]
    walk_at "W"
    exact hK2 _ _ (pexs_nil' (hK _ _ (rest _ _ _ _ ((List.reverse_perm _).trans hN) (upd_ne (by kernel_rfl) o1) (upd_ne (by kernel_rfl) o2) upd_self St.app_self (B3.kp (Kp.app _ _ _)))))
  | false =>
    refine hF _ ?_
    rw [b23_3_1]
    exact pexs_nil' (hK _ _ (rest _ _ _ _ hN o1 o2 o3 e3 B3))
end Mine.Internal
end

section
open PySem PySem.W PyProof.Rows PySem.Spec PySem.Calls
set_option maxHeartbeats 4000000
namespace Mine.Internal
theorem mem_lk {β : Type} : ∀ {l : List (Nat × β)} {a : Nat} {b : β}, List.lookup a l = some b → (a, b) ∈ l
  | (c, d) :: r, a, b, e => by
    rw [List.lookup_cons] at e
    by_cases h : a = c
    · subst h
      simp at e; subst e; exact List.mem_cons_self
    · have : (a == c) = false := by rw [beq_eq_false_iff_ne]; exact h
      rw [this] at e
      exact List.mem_cons_of_mem _ (mem_lk e)
noncomputable def dR (i : Nat) : DefRec := match PySem.Challenge.pw_rg0111_01.main.body[i]? with
  | some (.FunctionDef name args body _ _ _ scope _ _ pos) => ⟨name, args, body, scope, pos⟩
  | _ => ⟨"", ⟨[], [], none, [], [], none, []⟩, [], ⟨.function, [], false, false, []⟩, ⟨0, 0, 0, 0⟩⟩
/-- what a def's table of names must be -/
noncomputable def scOk (d : Fdef) : Bool := d.scope.kind == .function && !d.scope.isCoroutine && !d.scope.isGenerator &&
  d.params.all (fun x => d.scope.names.lookup x == some .local || d.scope.names.lookup x == some .cell) && d.scope.names.all fun e => e.2 != .free
theorem rec4 : (recsOf q39).find? (fun e => e.name == Str.ofString "is_variable") = some (dR 4) := by kernel_rfl
theorem nsi4 (P : Params) : nsIn (kK P) mainGlobals (dR 4).name = some (some (.ref 62)) := by kernel_rfl
theorem bnd4 (pm code doc : Value) (v0 : Value) : bindArgs (docDef (dR 4).name (dR 4).params (dR 4).body (dR 4).scope pm code doc) ⟨[v0], []⟩ = pure ((fdI 4).params.zip [v0]) := by kernel_rfl
theorem bod4 : (dR 4).body = (fdI 4).body ∧ (dR 4).scope = (fdI 4).scope := ⟨by kernel_rfl, by kernel_rfl⟩
theorem len4 : (fdI 4).params.length = 1 := by kernel_rfl
theorem oks4 : scOk (fdI 4) = true := by kernel_rfl
theorem rec5 : (recsOf q39).find? (fun e => e.name == Str.ofString "variables") = some (dR 5) := by kernel_rfl
theorem nsi5 (P : Params) : nsIn (kK P) mainGlobals (dR 5).name = some (some (.ref 67)) := by kernel_rfl
theorem bnd5 (pm code doc : Value) (v0 : Value) : bindArgs (docDef (dR 5).name (dR 5).params (dR 5).body (dR 5).scope pm code doc) ⟨[v0], []⟩ = pure ((fdI 5).params.zip [v0]) := by kernel_rfl
theorem bod5 : (dR 5).body = (fdI 5).body ∧ (dR 5).scope = (fdI 5).scope := ⟨by kernel_rfl, by kernel_rfl⟩
theorem len5 : (fdI 5).params.length = 1 := by kernel_rfl
theorem oks5 : scOk (fdI 5) = true := by kernel_rfl
theorem rec6 : (recsOf q39).find? (fun e => e.name == Str.ofString "parts") = some (dR 6) := by kernel_rfl
theorem nsi6 (P : Params) : nsIn (kK P) mainGlobals (dR 6).name = some (some (.ref 72)) := by kernel_rfl
theorem bnd6 (pm code doc : Value) (v0 : Value) : bindArgs (docDef (dR 6).name (dR 6).params (dR 6).body (dR 6).scope pm code doc) ⟨[v0], []⟩ = pure ((fdI 6).params.zip [v0]) := by kernel_rfl
theorem bod6 : (dR 6).body = (fdI 6).body ∧ (dR 6).scope = (fdI 6).scope := ⟨by kernel_rfl, by kernel_rfl⟩
theorem len6 : (fdI 6).params.length = 1 := by kernel_rfl
theorem oks6 : scOk (fdI 6) = true := by kernel_rfl
theorem rec10 : (recsOf q39).find? (fun e => e.name == Str.ofString "filled") = some (dR 10) := by kernel_rfl
theorem nsi10 (P : Params) : nsIn (kK P) mainGlobals (dR 10).name = some (some (.ref 77)) := by kernel_rfl
theorem bnd10 (pm code doc : Value) (v0 v1 : Value) : bindArgs (docDef (dR 10).name (dR 10).params (dR 10).body (dR 10).scope pm code doc) ⟨[v0,v1], []⟩ = pure ((fdI 10).params.zip [v0,v1]) := by kernel_rfl
theorem bod10 : (dR 10).body = (fdI 10).body ∧ (dR 10).scope = (fdI 10).scope := ⟨by kernel_rfl, by kernel_rfl⟩
theorem len10 : (fdI 10).params.length = 2 := by kernel_rfl
theorem oks10 : scOk (fdI 10) = true := by kernel_rfl
theorem rec11 : (recsOf q39).find? (fun e => e.name == Str.ofString "followed") = some (dR 11) := by kernel_rfl
theorem nsi11 (P : Params) : nsIn (kK P) mainGlobals (dR 11).name = some (some (.ref 84)) := by kernel_rfl
theorem bnd11 (pm code doc : Value) (v0 v1 : Value) : bindArgs (docDef (dR 11).name (dR 11).params (dR 11).body (dR 11).scope pm code doc) ⟨[v0,v1], []⟩ = pure ((fdI 11).params.zip [v0,v1]) := by kernel_rfl
theorem bod11 : (dR 11).body = (fdI 11).body ∧ (dR 11).scope = (fdI 11).scope := ⟨by kernel_rfl, by kernel_rfl⟩
theorem len11 : (fdI 11).params.length = 2 := by kernel_rfl
theorem oks11 : scOk (fdI 11) = true := by kernel_rfl
theorem rec12 : (recsOf q39).find? (fun e => e.name == Str.ofString "is_within") = some (dR 12) := by kernel_rfl
theorem nsi12 (P : Params) : nsIn (kK P) mainGlobals (dR 12).name = some (some (.ref 91)) := by kernel_rfl
theorem bnd12 (pm code doc : Value) (v0 v1 v2 : Value) : bindArgs (docDef (dR 12).name (dR 12).params (dR 12).body (dR 12).scope pm code doc) ⟨[v0,v1,v2], []⟩ = pure ((fdI 12).params.zip [v0,v1,v2]) := by kernel_rfl
theorem bod12 : (dR 12).body = (fdI 12).body ∧ (dR 12).scope = (fdI 12).scope := ⟨by kernel_rfl, by kernel_rfl⟩
theorem len12 : (fdI 12).params.length = 3 := by kernel_rfl
theorem oks12 : scOk (fdI 12) = true := by kernel_rfl
theorem rec13 : (recsOf q39).find? (fun e => e.name == Str.ofString "begun") = some (dR 13) := by kernel_rfl
theorem nsi13 (P : Params) : nsIn (kK P) mainGlobals (dR 13).name = some (some (.ref 98)) := by kernel_rfl
theorem bnd13 (pm code doc : Value) (v0 v1 : Value) : bindArgs (docDef (dR 13).name (dR 13).params (dR 13).body (dR 13).scope pm code doc) ⟨[v0,v1], []⟩ = pure ((fdI 13).params.zip [v0,v1]) := by kernel_rfl
theorem bod13 : (dR 13).body = (fdI 13).body ∧ (dR 13).scope = (fdI 13).scope := ⟨by kernel_rfl, by kernel_rfl⟩
theorem len13 : (fdI 13).params.length = 2 := by kernel_rfl
theorem oks13 : scOk (fdI 13) = true := by kernel_rfl
theorem rec14 : (recsOf q39).find? (fun e => e.name == Str.ofString "in_turn") = some (dR 14) := by kernel_rfl
theorem nsi14 (P : Params) : nsIn (kK P) mainGlobals (dR 14).name = some (some (.ref 103)) := by kernel_rfl
theorem bnd14 (pm code doc : Value) (v0 : Value) : bindArgs (docDef (dR 14).name (dR 14).params (dR 14).body (dR 14).scope pm code doc) ⟨[v0], []⟩ = pure ((fdI 14).params.zip [v0]) := by kernel_rfl
theorem bod14 : (dR 14).body = (fdI 14).body ∧ (dR 14).scope = (fdI 14).scope := ⟨by kernel_rfl, by kernel_rfl⟩
theorem len14 : (fdI 14).params.length = 1 := by kernel_rfl
theorem oks14 : scOk (fdI 14) = true := by kernel_rfl
theorem rec15 : (recsOf q39).find? (fun e => e.name == Str.ofString "worked_out") = some (dR 15) := by kernel_rfl
theorem nsi15 (P : Params) : nsIn (kK P) mainGlobals (dR 15).name = some (some (.ref 108)) := by kernel_rfl
theorem bnd15 (pm code doc : Value) (v0 : Value) : bindArgs (docDef (dR 15).name (dR 15).params (dR 15).body (dR 15).scope pm code doc) ⟨[v0], []⟩ = pure ((fdI 15).params.zip [v0]) := by kernel_rfl
theorem bod15 : (dR 15).body = (fdI 15).body ∧ (dR 15).scope = (fdI 15).scope := ⟨by kernel_rfl, by kernel_rfl⟩
theorem len15 : (fdI 15).params.length = 1 := by kernel_rfl
theorem oks15 : scOk (fdI 15) = true := by kernel_rfl
theorem rec18 : (recsOf q39).find? (fun e => e.name == Str.ofString "_law_peg") = some (dR 18) := by kernel_rfl
theorem nsi18 (P : Params) : nsIn (kK P) mainGlobals (dR 18).name = some (some (.ref 116)) := by kernel_rfl
theorem bnd18 (pm code doc : Value) (v0 v1 : Value) : bindArgs (docDef (dR 18).name (dR 18).params (dR 18).body (dR 18).scope pm code doc) ⟨[v0,v1], []⟩ = pure ((fdI 18).params.zip [v0,v1]) := by kernel_rfl
theorem bod18 : (dR 18).body = (fdI 18).body ∧ (dR 18).scope = (fdI 18).scope := ⟨by kernel_rfl, by kernel_rfl⟩
theorem len18 : (fdI 18).params.length = 2 := by kernel_rfl
theorem oks18 : scOk (fdI 18) = true := by kernel_rfl
theorem rec19 : (recsOf q39).find? (fun e => e.name == Str.ofString "_law_put") = some (dR 19) := by kernel_rfl
theorem nsi19 (P : Params) : nsIn (kK P) mainGlobals (dR 19).name = some (some (.ref 123)) := by kernel_rfl
theorem bnd19 (pm code doc : Value) (v0 v1 : Value) : bindArgs (docDef (dR 19).name (dR 19).params (dR 19).body (dR 19).scope pm code doc) ⟨[v0,v1], []⟩ = pure ((fdI 19).params.zip [v0,v1]) := by kernel_rfl
theorem bod19 : (dR 19).body = (fdI 19).body ∧ (dR 19).scope = (fdI 19).scope := ⟨by kernel_rfl, by kernel_rfl⟩
theorem len19 : (fdI 19).params.length = 2 := by kernel_rfl
theorem oks19 : scOk (fdI 19) = true := by kernel_rfl
theorem rec20 : (recsOf q39).find? (fun e => e.name == Str.ofString "_law_leaves") = some (dR 20) := by kernel_rfl
theorem nsi20 (P : Params) : nsIn (kK P) mainGlobals (dR 20).name = some (some (.ref 128)) := by kernel_rfl
theorem bnd20 (pm code doc : Value) (v0 : Value) : bindArgs (docDef (dR 20).name (dR 20).params (dR 20).body (dR 20).scope pm code doc) ⟨[v0], []⟩ = pure ((fdI 20).params.zip [v0]) := by kernel_rfl
theorem bod20 : (dR 20).body = (fdI 20).body ∧ (dR 20).scope = (fdI 20).scope := ⟨by kernel_rfl, by kernel_rfl⟩
theorem len20 : (fdI 20).params.length = 1 := by kernel_rfl
theorem oks20 : scOk (fdI 20) = true := by kernel_rfl
theorem rec21 : (recsOf q39).find? (fun e => e.name == Str.ofString "_law_whole") = some (dR 21) := by kernel_rfl
theorem nsi21 (P : Params) : nsIn (kK P) mainGlobals (dR 21).name = some (some (.ref 133)) := by kernel_rfl
theorem bnd21 (pm code doc : Value) (v0 v1 : Value) : bindArgs (docDef (dR 21).name (dR 21).params (dR 21).body (dR 21).scope pm code doc) ⟨[v0,v1], []⟩ = pure ((fdI 21).params.zip [v0,v1]) := by kernel_rfl
theorem bod21 : (dR 21).body = (fdI 21).body ∧ (dR 21).scope = (fdI 21).scope := ⟨by kernel_rfl, by kernel_rfl⟩
theorem len21 : (fdI 21).params.length = 2 := by kernel_rfl
theorem oks21 : scOk (fdI 21) = true := by kernel_rfl
theorem rec22 : (recsOf q39).find? (fun e => e.name == Str.ofString "_law_is_right") = some (dR 22) := by kernel_rfl
theorem nsi22 (P : Params) : nsIn (kK P) mainGlobals (dR 22).name = some (some (.ref 138)) := by kernel_rfl
theorem bnd22 (pm code doc : Value) (v0 v1 : Value) : bindArgs (docDef (dR 22).name (dR 22).params (dR 22).body (dR 22).scope pm code doc) ⟨[v0,v1], []⟩ = pure ((fdI 22).params.zip [v0,v1]) := by kernel_rfl
theorem bod22 : (dR 22).body = (fdI 22).body ∧ (dR 22).scope = (fdI 22).scope := ⟨by kernel_rfl, by kernel_rfl⟩
theorem len22 : (fdI 22).params.length = 2 := by kernel_rfl
theorem oks22 : scOk (fdI 22) = true := by kernel_rfl
section
variable {h : Heap} {mean : ExcName → Option Value} {mg mb : Str → Option Value} {loose : List Str} {P : Params}
theorem defOk_of {i a : Nat} {nm : Str} (X : (kK P).In h) (T : Top q39 loose mean mg mb h)
    (hf : (recsOf q39).find? (fun e => e.name == nm) = some (dR i)) (hk : nsIn (kK P) mainGlobals (dR i).name = some (some (.ref a)))
    (hb : (dR i).body = (fdI i).body ∧ (dR i).scope = (fdI i).scope)
    (hbind : ∀ (pm code doc : Value) (vals : List Value), vals.length = (fdI i).params.length → bindArgs (docDef (dR i).name (dR i).params (dR i).body (dR i).scope pm code doc) ⟨vals, []⟩ = pure ((fdI i).params.zip vals))
    (hs : scOk (fdI i) = true) : DefOk h a (fdI i) := by
  obtain ⟨a', o, pm, code, doc, h1, h2, h3, h4⟩ := T.fn (dR i) (List.mem_of_find?_eq_some hf)
  have h5 := mg_of X T.g hk
  rw [h1] at h5
  cases h5
  unfold scOk at hs
  simp only [Bool.and_eq_true, List.all_eq_true] at hs
  obtain ⟨⟨⟨⟨s1, s2⟩, s3⟩, s4⟩, s5⟩ := hs
  refine ⟨⟨o, _, h2, h3, ?_, hb.2, rfl, rfl, rfl, h4, fun vals hv => hbind pm code doc vals hv⟩, by simpa using s1, by simpa using s2, by simpa using s3, fun x hx => ?_, fun x hx => ?_⟩
  · show FuncBody.stmts _ = _; rw [hb.1]
  · have := s4 x hx
    simpa using this
  · have := s5 _ (PySem.mem_of_lookup hx)
    simp at this
theorem vals1 {vals : List Value} {p : List Value → Prop} (hv : vals.length = 1) (k : ∀ a, p [a]) : p vals := by
  cases vals with | nil => cases hv | cons a r => cases r with | nil => exact k a | cons b r => cases hv
theorem vals2 {vals : List Value} {p : List Value → Prop} (hv : vals.length = 2) (k : ∀ a b, p [a, b]) : p vals := by
  cases vals with | nil => cases hv | cons a r => exact vals1 (p := fun r => p (a :: r)) (Nat.succ.inj hv) (k a)
theorem vals3 {vals : List Value} {p : List Value → Prop} (hv : vals.length = 3) (k : ∀ a b c, p [a, b, c]) : p vals := by
  cases vals with | nil => cases hv | cons a r => exact vals2 (p := fun r => p (a :: r)) (Nat.succ.inj hv) (k a)
theorem law_names_ok (X : (kK P).In h) (T : Top q39 loose mean mg mb h) :
    ∃ v, (mg (Str.ofString "_law_names") = some v ∨ (mg (Str.ofString "_law_names") = none ∧ bootBuiltins (Str.ofString "_law_names") = some v ∧ Str.ofString "_law_names" ≠ "__name__")) ∧
      VR h [] v (.tup [.str "?m", .str "?c", .str "?x", .str "?b", .str "?t", .str "?k"]) :=
  ⟨.ref 109, .inl (mg_of X T.g (by kernel_rfl)), .tup (us := [Value.str (Str.ofString "?m") 323, Value.str (Str.ofString "?c") 324, Value.str (Str.ofString "?x") 325, Value.str (Str.ofString "?b") 326, Value.str (Str.ofString "?t") 327, Value.str (Str.ofString "?k") 328]) (n := 0)
    (X 109 _ (by kernel_rfl)) (.cons (.str _ _) (.cons (.str _ _) (.cons (.str _ _) (.cons (.str _ _) (.cons (.str _ _) (.cons (.str _ _) .nil))))))⟩
noncomputable def intAt (K : Frag) (x : Str) : Option Int := match nsIn K mainGlobals x with
  | some (some (.int i _)) => some i
  | _ => none
theorem int_ok {x : Str} {i : Int} (X : (kK P).In h) (T : Top q39 loose mean mg mb h) (e : intAt (kK P) x = some i) :
    ∃ v, (mg x = some v ∨ (mg x = none ∧ bootBuiltins x = some v ∧ x ≠ "__name__")) ∧ VR h [] v (.int i) := by
  unfold intAt at e
  split at e
  · rename_i j t q
    cases e
    exact ⟨_, .inl (mg_of X T.g q), .int _ t⟩
  · cases e
variable (X : (kK P).In h) (T : Top q39 loose mean mg mb h)
include X T
theorem def4 : DefOk h 62 (fdI 4) := defOk_of X T rec4 (nsi4 P) bod4 (fun pm code doc vals hv => by apply vals1 (hv.trans len4); intro a; exact bnd4 pm code doc a) oks4
theorem def5 : DefOk h 67 (fdI 5) := defOk_of X T rec5 (nsi5 P) bod5 (fun pm code doc vals hv => by apply vals1 (hv.trans len5); intro a; exact bnd5 pm code doc a) oks5
theorem def6 : DefOk h 72 (fdI 6) := defOk_of X T rec6 (nsi6 P) bod6 (fun pm code doc vals hv => by apply vals1 (hv.trans len6); intro a; exact bnd6 pm code doc a) oks6
theorem def10 : DefOk h 77 (fdI 10) := defOk_of X T rec10 (nsi10 P) bod10 (fun pm code doc vals hv => by apply vals2 (hv.trans len10); intro a b; exact bnd10 pm code doc a b) oks10
theorem def11 : DefOk h 84 (fdI 11) := defOk_of X T rec11 (nsi11 P) bod11 (fun pm code doc vals hv => by apply vals2 (hv.trans len11); intro a b; exact bnd11 pm code doc a b) oks11
theorem def12 : DefOk h 91 (fdI 12) := defOk_of X T rec12 (nsi12 P) bod12 (fun pm code doc vals hv => by apply vals3 (hv.trans len12); intro a b c; exact bnd12 pm code doc a b c) oks12
theorem def13 : DefOk h 98 (fdI 13) := defOk_of X T rec13 (nsi13 P) bod13 (fun pm code doc vals hv => by apply vals2 (hv.trans len13); intro a b; exact bnd13 pm code doc a b) oks13
theorem def14 : DefOk h 103 (fdI 14) := defOk_of X T rec14 (nsi14 P) bod14 (fun pm code doc vals hv => by apply vals1 (hv.trans len14); intro a; exact bnd14 pm code doc a) oks14
theorem def15 : DefOk h 108 (fdI 15) := defOk_of X T rec15 (nsi15 P) bod15 (fun pm code doc vals hv => by apply vals1 (hv.trans len15); intro a; exact bnd15 pm code doc a) oks15
theorem def18 : DefOk h 116 (fdI 18) := defOk_of X T rec18 (nsi18 P) bod18 (fun pm code doc vals hv => by apply vals2 (hv.trans len18); intro a b; exact bnd18 pm code doc a b) oks18
theorem def19 : DefOk h 123 (fdI 19) := defOk_of X T rec19 (nsi19 P) bod19 (fun pm code doc vals hv => by apply vals2 (hv.trans len19); intro a b; exact bnd19 pm code doc a b) oks19
theorem def20 : DefOk h 128 (fdI 20) := defOk_of X T rec20 (nsi20 P) bod20 (fun pm code doc vals hv => by apply vals1 (hv.trans len20); intro a; exact bnd20 pm code doc a) oks20
theorem def21 : DefOk h 133 (fdI 21) := defOk_of X T rec21 (nsi21 P) bod21 (fun pm code doc vals hv => by apply vals2 (hv.trans len21); intro a b; exact bnd21 pm code doc a b) oks21
theorem def22 : DefOk h 138 (fdI 22) := defOk_of X T rec22 (nsi22 P) bod22 (fun pm code doc vals hv => by apply vals2 (hv.trans len22); intro a b; exact bnd22 pm code doc a b) oks22
omit X T in
theorem allC {α : Type} {p : α → Prop} {a : α} {l : List α} (h : p a) (t : ∀ x ∈ l, p x) : ∀ x ∈ a :: l, p x := fun x hm => (List.mem_cons.mp hm).elim (fun q => q ▸ h) (t x)
omit X T in
theorem allN {α : Type} {p : α → Prop} : ∀ x ∈ ([] : List α), p x := fun _ h => nomatch h
theorem defs_ok : ∀ a d, F0 a = some d → DefOk h a d := by
  intro a d e
  unfold F0 at e
  obtain ⟨i, hi, rfl⟩ := Option.map_eq_some_iff.mp e
  have hm := mem_lk hi
  clear hi e
  refine (?_ : ∀ y ∈ _, DefOk h y.1 (fdI y.2)) (a, i) hm
  exact allC (def4 X T) (allC (def5 X T) (allC (def6 X T) (allC (def10 X T) (allC (def11 X T) (allC (def12 X T) (allC (def13 X T) (allC (def14 X T) (allC (def15 X T) (allC (def18 X T) (allC (def19 X T) (allC (def20 X T) (allC (def21 X T) (allC (def22 X T) (allN))))))))))))))

noncomputable def nameOk (h : Heap) (mg : Str → Option Value) (y : Str × PV) : Prop := ∃ v, (mg y.1 = some v ∨ (mg y.1 = none ∧ bootBuiltins y.1 = some v ∧ y.1 ≠ "__name__")) ∧ VR h [] v y.2
theorem nm_fn {x : Str} {a : Addr} (e : nsIn (kK P) mainGlobals x = some (some (.ref a))) : nameOk h mg (x, .fn a) := ⟨.ref a, .inl (mg_of X T.g e), .fn a⟩
theorem nm_bi {x : Str} {n : String} (e : nsIn (kK P) mainGlobals x = some none) (b : bootBuiltins x = some (.builtin n)) (c : x ≠ "__name__") : nameOk h mg (x, .bi n) := ⟨.builtin n, .inr ⟨mg_none_of X T.g e, b, c⟩, .bi n⟩
theorem nm_ty {x : Str} {n : String} (e : nsIn (kK P) mainGlobals x = some none) (b : bootBuiltins x = some (.type n)) (c : x ≠ "__name__") : nameOk h mg (x, .ty n) := ⟨.type n, .inr ⟨mg_none_of X T.g e, b, c⟩, .ty n⟩
theorem glob_ok : GlobOk h mg glob0 := by
  intro x pv e
  have hm := PySem.mem_of_lookup e
  clear e
  refine (?_ : ∀ y ∈ _, nameOk h mg y) (x, pv) hm
  exact allC (nm_fn X T (by kernel_rfl)) (allC (nm_fn X T (by kernel_rfl)) (allC (nm_fn X T (by kernel_rfl)) (allC (nm_fn X T (by kernel_rfl)) (allC (nm_fn X T (by kernel_rfl)) (allC (nm_fn X T (by kernel_rfl)) (allC (nm_fn X T (by kernel_rfl)) (allC (nm_fn X T (by kernel_rfl)) (allC (nm_fn X T (by kernel_rfl)) (allC (nm_fn X T (by kernel_rfl)) (allC (nm_fn X T (by kernel_rfl)) (allC (nm_fn X T (by kernel_rfl)) (allC (nm_fn X T (by kernel_rfl)) (allC (nm_fn X T (by kernel_rfl)) (allC (law_names_ok X T) (allC (int_ok X T (by kernel_rfl)) (allC (int_ok X T (by kernel_rfl)) (allC (nm_bi X T (by kernel_rfl) (by kernel_rfl) (by decide +kernel)) (allC (nm_bi X T (by kernel_rfl) (by kernel_rfl) (by decide +kernel)) (allC (nm_bi X T (by kernel_rfl) (by kernel_rfl) (by decide +kernel)) (allC (nm_bi X T (by kernel_rfl) (by kernel_rfl) (by decide +kernel)) (allC (nm_ty X T (by kernel_rfl) (by kernel_rfl) (by decide +kernel)) (allC (nm_ty X T (by kernel_rfl) (by kernel_rfl) (by decide +kernel)) (allC (nm_ty X T (by kernel_rfl) (by kernel_rfl) (by decide +kernel)) (allC (nm_ty X T (by kernel_rfl) (by kernel_rfl) (by decide +kernel)) (allC (nm_ty X T (by kernel_rfl) (by kernel_rfl) (by decide +kernel)) (allC (nm_ty X T (by kernel_rfl) (by kernel_rfl) (by decide +kernel)) (allC (nm_ty X T (by kernel_rfl) (by kernel_rfl) (by decide +kernel)) (allN))))))))))))))))))))))))))))

end
end Mine.Internal
end

section
open PySem PySem.W PyProof.Rows PySem.Spec PySem.Calls
set_option maxHeartbeats 4000000
namespace Mine.Internal
theorem cells_law (L : Addr) : cellsFrom (L + 1) (fdI 23).scope.names [] = [(Str.ofString "table", L + 1 + 1 + 1), (Str.ofString "names", L + 1 + 1), (Str.ofString "board", L + 1)] := by kernel_rfl
theorem kinds_law : ((fdI 23).scope.names.all fun e => e.2 != .free && (e.2 != .cell || e.1 == Str.ofString "board" || e.1 == Str.ofString "names" || e.1 == Str.ofString "table")) = true := by kernel_rfl
theorem fun_law : (fdI 23).scope.kind = .function := by kernel_rfl
theorem board_law : (fdI 23).scope.names.lookup (Str.ofString "board") = some .cell := by kernel_rfl
theorem ints_vr {h : Heap} {ads : List Addr} : ∀ {us : List Value} {ns : List Int}, IntsAre us ns → VRs h ads us (ns.map .int)
  | _, _, .nil => .nil
  | _, _, .cons n t r => .cons (.int n t) (ints_vr r)
noncomputable def mB : Fm := fun x => if x = Str.ofString "board" then some (.ref 1) else none
theorem law_tail {prog : Program} {w : World} {P : Params} {h0 : Heap} {s : Shared} {loose : List Str} {mean : ExcName → Option Value} {mg mb m : Str → Option Value} {nm : Str} {fa : Addr} {cd : Value} {D D2 d : Addr} {o o2 c1 c2 c3 : Obj}
    {ys : List Value} {ks : List Int} {t1 t2 t3 : Tok} {v2 v3 : Option Value} {Q : Flow → Shared → Prop} {E : Value → Shared → Prop}
    (X : (kK P).In h0) (T : Top q39 loose mean mg mb h0) (F : Fr h0 h0.objs.size s.heap m)
    (N : News h0 h0.objs.size s.heap [(D, LCg.lst ys), (D2, o2), (d, o), (h0.objs.size + 1 + 1 + 1, c3), (h0.objs.size + 1 + 1, c2), (h0.objs.size + 1, c1)])
    (hdD : @Ne Nat d D) (hd1 : @Ne Nat d (h0.objs.size + 1) ∧ @Ne Nat d (h0.objs.size + 1 + 1) ∧ @Ne Nat d (h0.objs.size + 1 + 1 + 1)) (hD1 : @Ne Nat D (h0.objs.size + 1) ∧ @Ne Nat D (h0.objs.size + 1 + 1) ∧ @Ne Nat D (h0.objs.size + 1 + 1 + 1))
    (hd : o.IsDictOf (PySem.strKind prog w) (strPairs [(.str "cells" t1, .ref D), (.str "spot" t2, .int 0 t3)]))
    (hc1 : c1.data = .cell (some (.ref d))) (hc2 : c2.data = .cell v2) (hc3 : c3.data = .cell v3)
    (hI : IntsAre ys ((ks.take 40).map fun k => k.fmod 1000003))
    {sc : Scope} {r' : List Stmt} (hsc : sc = (fdI 23).scope) (hr : r' = (fdI 23).body.tail)
    (hQ : ∀ s', s'.gens = s.gens → s'.os = s.os → (∀ b o, h0.get? b = some o → s'.heap.get? b = some o) → Q (.ret (.bool true)) s') :
    wpAny (model prog w) (callerA.deeper (envOfC nm sc h0.objs.size fa cd)) (execs r' (envOfC nm sc h0.objs.size fa cd)) Q E s := by
  subst hsc hr
  let B : Bs := ⟨prog, w, h0, h0.objs.size, Nat.le_refl _, modules_low T.nolimit⟩
  have nD : s.heap.get? D = some (LCg.lst ys) ∧ D ≠ h0.objs.size ∧ h0.get? D = none := N (D, LCg.lst ys) (by simp)
  have nd : s.heap.get? d = some o ∧ d ≠ h0.objs.size ∧ h0.get? d = none := N (d, o) (by simp)
  have n1 : s.heap.get? (h0.objs.size + 1) = some c1 ∧ h0.objs.size + 1 ≠ h0.objs.size ∧ h0.get? (h0.objs.size + 1) = none := N (h0.objs.size + 1, c1) (by simp)
  have n2 : s.heap.get? (h0.objs.size + 1 + 1) = some c2 ∧ h0.objs.size + 1 + 1 ≠ h0.objs.size ∧ h0.get? (h0.objs.size + 1 + 1) = none := N (h0.objs.size + 1 + 1, c2) (by simp)
  have n3 : s.heap.get? (h0.objs.size + 1 + 1 + 1) = some c3 ∧ h0.objs.size + 1 + 1 + 1 ≠ h0.objs.size ∧ h0.get? (h0.objs.size + 1 + 1 + 1) = none := N (h0.objs.size + 1 + 1 + 1, c3) (by simp)
  have hsys : ∃ o, h0.get? sysModules = some o := by
    obtain ⟨mm, ⟨o, _, _, e, _⟩, _⟩ := (T.seer (by kernel_rfl)).mods
    exact ⟨o, e⟩
  have low : ∀ a, h0.get? a = none → a ≠ sysModules := fun a e q => by
    obtain ⟨o, ho⟩ := hsys
    rw [q, ho] at e; cases e
  let cells := (ks.take 40).map fun k => k.fmod 1000003
  have R : SR B [D, d] [.lst (cells.map .int), boardO 0 0] s.heap := by
    refine ⟨F.keep, rfl, ?_, ?_, ?_, ?_⟩
    · simp; exact fun q => hdD q.symm
    · intro a ha
      simp at ha
      rcases ha with rfl | rfl
      · exact ⟨nD.2.2, low _ nD.2.2⟩
      · exact ⟨nd.2.2, low _ nd.2.2⟩
    · obtain ⟨oL, _, _, e, _⟩ := F.ns
      exact ⟨oL, e⟩
    · intro n po hn
      match n, hn with
      | 0, hn => cases hn; exact ⟨D, rfl, ys, _, nD.1, ints_vr hI⟩
      | 1, hn =>
        cases hn
        refine ⟨d, rfl, _, kda_dict (s := s) N (by simp) hd, .cons (.ref (a := D) (n := 0) rfl) (.cons (.int 0 _) .nil)⟩
      | n + 2, hn => cases hn
  have hkind : ∀ x, (envOfC nm (fdI 23).scope h0.objs.size fa cd).kindOf x = (fdI 23).scope.names.lookup x := fun _ => rfl
  have hcells : (envOfC nm (fdI 23).scope h0.objs.size fa cd).cells = [(Str.ofString "table", h0.objs.size + 1 + 1 + 1), (Str.ofString "names", h0.objs.size + 1 + 1), (Str.ofString "board", h0.objs.size + 1)] := cells_law _
  have hkl := List.all_eq_true.mp kinds_law
  have FRm : FR B (fun b => b = h0.objs.size ∨ b = h0.objs.size + 1 ∨ b = h0.objs.size + 1 + 1 ∨ b = h0.objs.size + 1 + 1 + 1) (envOfC nm (fdI 23).scope h0.objs.size fa cd) (fdI 23).scope s.heap [D, d] mB := by
    refine ⟨fun_law, rfl, rfl, fun x h => h, fun x h => h, fun x h => .inr h, fun x h => h, ?_, Heap.get?_none_of_le (Nat.le_refl _), .inl rfl, ⟨m, F.ns, ?_⟩, ?_, ?_, ?_⟩
    · show h0.objs.size ∉ [D, d]
      simp
      exact ⟨fun q => nD.2.1 q.symm, fun q => nd.2.1 q.symm⟩
    · intro x pv hx e
      unfold mB at e
      split at e
      · rename_i q
        subst q
        rw [hkind, board_law] at hx
        cases hx
      · cases e
    · intro x hx
      rw [hkind] at hx
      have hx' : (fdI 23).scope.names.lookup x = some .cell := by
        rcases hx with hx | hx
        · exact hx
        · have := hkl _ (PySem.mem_of_lookup hx)
          simp at this
      have hm := hkl _ (PySem.mem_of_lookup hx')
      simp at hm
      rw [hcells]
      rcases hm with (rfl | rfl) | rfl
      · refine ⟨h0.objs.size + 1, _, by simp [List.lookup, ofString_beq], ⟨c1, n1.1, hc1⟩, by simp; exact ⟨fun q => hD1.1 q.symm, fun q => hd1.1 q.symm⟩, n1.2.2, n1.2.1, fun _ => .inr (.inl rfl), fun pv e => ?_⟩
        have : mB (Str.ofString "board") = some (.ref 1) := if_pos rfl
        rw [this] at e
        cases e
        exact ⟨_, rfl, .ref rfl⟩
      · refine ⟨h0.objs.size + 1 + 1, _, by simp [List.lookup, ofString_beq], ⟨c2, n2.1, hc2⟩, by simp; exact ⟨fun q => hD1.2.1 q.symm, fun q => hd1.2.1 q.symm⟩, n2.2.2, n2.2.1, fun _ => .inr (.inr (.inl rfl)), fun pv e => ?_⟩
        unfold mB at e
        rw [if_neg (by rw [ofString_inj]; decide)] at e
        cases e
      · refine ⟨h0.objs.size + 1 + 1 + 1, _, by simp [List.lookup, ofString_beq], ⟨c3, n3.1, hc3⟩, by simp; exact ⟨fun q => hD1.2.2 q.symm, fun q => hd1.2.2 q.symm⟩, n3.2.2, n3.2.1, fun _ => .inr (.inr (.inr rfl)), fun pv e => ?_⟩
        unfold mB at e
        rw [if_neg (by rw [ofString_inj]; decide)] at e
        cases e
    · rintro b (rfl | rfl | rfl | rfl)
      · obtain ⟨oL, _, _, e, _⟩ := F.ns
        exact ⟨oL, e⟩
      · exact ⟨c1, n1.1⟩
      · exact ⟨c2, n2.1⟩
      · exact ⟨c3, n3.1⟩
    · intro x y c h1 h2
      rw [hcells] at h1 h2
      have g1 := PySem.mem_of_lookup h1
      have g2 := PySem.mem_of_lookup h2
      simp only [List.mem_cons, List.not_mem_nil, or_false, Prod.mk.injEq] at g1 g2
      rcases g1 with ⟨rfl, e1⟩ | ⟨rfl, e1⟩ | ⟨rfl, e1⟩ <;> rcases g2 with ⟨rfl, e2⟩ | ⟨rfl, e2⟩ | ⟨rfl, e2⟩ <;> first | rfl | exact absurd (show @Eq Nat _ _ from e1.symm.trans e2) (by (first | exact om102 | exact om103 | exact om104 | exact om105 | exact om106 | exact om107))
  have hB : Board [.lst (cells.map .int), boardO 0 0] 1 0 cells 0 := by
    refine ⟨rfl, rfl, ?_, ?_, by decide⟩
    · show ((ks.take 40).map _).length ≤ 40
      rw [List.length_map, List.length_take]; exact om109
    · intro x hx
      obtain ⟨y, _, rfl⟩ := List.mem_map.mp hx
      exact ⟨Int.fmod_nonneg_of_pos _ (by decide), Int.fmod_lt_of_pos _ (by decide)⟩
  obtain ⟨⟨fl, m'⟩, S', e, hfl⟩ := law_run (k := 0) (m := mB) hB (if_pos rfl)
  cases hfl
  have hex := (all_ex (B := B) T (glob_ok X T) (calls_snd (B := B) (k := 50) (wf := wf0) T (glob_ok X T) (fun a d e => defs_ok X T a d e)) 60).2
  refine hex _ E s _ _ _ [D, d] _ S' mB m' _ _ Q ⟨rfl, ?_, ?_⟩ R FRm e fun f s' ads' Nn _ hf => ?_
  · show 1 + claimMargin + 1 + 50 < recursionLimit
    decide +kernel
  · show 4 + 3 + 8 * 50 + 400 < cLine
    decide +kernel
  · cases hf with
    | ret r =>
      cases r
      exact hQ s' Nn.same.gens Nn.same.os Nn.sr.base
end Mine.Internal
end
open PySem PySem.W PyProof.Rows
namespace Mine.Internal
theorem j_cut {M : Model} {A : Around} {env : Env} {st : Stmt} {r : List Stmt} {Q : Flow → Shared → Prop} {E : Value → Shared → Prop} {s : Shared}
    (h : ∀ r', r' = r → wpAny M A (execs (st :: r') env) Q E s) : wpAny M A (execs (st :: r) env) Q E s := h r rfl
end Mine.Internal
set_option maxHeartbeats 8000000 in
theorem PySem.Challenge.cw_rg0111_01_holds : PySem.Challenge.rw_rg0111_01.Holds := by
  refine holds_law Mine.Internal.said0 fun said => ?_
  refine W.holds_open (q := Mine.Internal.q39) (loose := []) (Xt := Mine.Internal.kX) (XP := XL Mine.Internal.q39 []) (Yf := Hook.obs (kHook Mine.Internal.kK [3, 109] Mine.Internal.kA)) (Ya := Hook.val (kHook Mine.Internal.kK [3, 109] Mine.Internal.kA)) (YP := Hook.says (kHook Mine.Internal.kK [3, 109] Mine.Internal.kA)) (N := 2094) Mine.Internal.left0
    (Hook.of (kHook Mine.Internal.kK [3, 109] Mine.Internal.kA)) (Hook.keeps (kHook Mine.Internal.kK [3, 109] Mine.Internal.kA)) (fun s e => xl_of s (Bool.and_eq_true_iff.mp e).1) XL.keeps (by rfl) (by rfl) (by rfl) (fun s e => recFacts_of (Bool.and_eq_true_iff.mp e).2) (by rfl) said Mine.Internal.ok0 ⟨rfl, rfl, rfl, rfl, rfl, by decide +kernel⟩ ?hw ?hc
  case hw => w_witness2
  case hc =>
  w_on
  k_fill
  intro w s₀ s₁ mg mb G Y fa o pm cd doc dV kV ho hd hcd hD hmg hg args vals as hpre hlay hrd hwl hlo
  have KX := kIn_of Y
  have X := (Ground.X G).1
  have V := (Ground.X G).2
  have GL := glob_more (Ground.glob G (by decide +kernel) (by decide +kernel)) V
  refine Ground.open G ?_
  intro T B D TE TW
  try (refine guard_noD D (by decide +kernel) ?_; clear D)
  obtain ⟨_, _, M⟩ := bmod_of_top T
  have TA := at_of_top T
  try (obtain ⟨_, _, he, B0⟩ := based_of_top T rfl hmg ho hd; have he' : cd = _ := he; subst he'; clear he)
  clear hmg
  wrow_args hpre hlay hrd hwl hlo
  refine enter_call ?_
  w_top on
  try refine codeAny_mono ?_ (fun _ _ g => GoodW.toG g)
  have K0 := below_caller (Top.heap T)
  w_call any ho hd hcd hD T F
  clear hd TA
  k_drop
  refine Mine.Internal.j_cut ?_
  intro r' hr'
  k_steps
  refine Mine.Internal.law_tail (by assumption) (by assumption) (by assumption) (by assumption) ?_ ?_ ?_ (by assumption) (by assumption) (by assumption) (by assumption) (by assumption) ?_ ?_ ?_
  · exact Mine.Internal.om110 ‹_›
  · exact Mine.Internal.om111 ‹_›
  · exact Mine.Internal.om112 ‹_›
  · kernel_rfl
  · rw [hr']; kernel_rfl
  · intro s' h1 h2 h3
    refine ⟨.inl ⟨.bool true, .bool true, [], rfl, fun _ => rfl, .bool true, ?_, ?_⟩, h3, h2, ?_⟩
    · kernel_rfl
    · intro _; exact ⟨List.nodup_nil, fun _ h => nomatch h⟩
    · refine h1.trans ?_; assumption
