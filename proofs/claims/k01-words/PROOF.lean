import PyProof.Rows.All
import Wide.All
import OpenK.AllK
import Wide.FinOn
import HandS.ForMost
import HandS.ForExc
import HandS.Style
import HandS.StrMore
import HandS.IsInst
import HandS.Wide
import HandS.ExcIs
import KE.KExcIs
import HandS.Codes
import HandS.HeadHook4
import HandS.HeadEnd
import HandS.Text
import KE.KStateDown
import Lean
import HandS.Head0
import HandS.Head1
import HandS.Head2
import HandS.HeadHook1
import HandS.HeadHook2
import PySem.Challenge.RW_askweave_k01_words
set_option Elab.async false
set_option autoImplicit false
set_option linter.all false
set_option maxRecDepth 100000
set_option maxHeartbeats 4000000
/-! Values by values: what each operator, call, method does, told by the shapes of its values. -/
namespace Rf
open PySem PySem.Spec PyProof.Rows L2

/-! ### texts as lists of code points -/
abbrev Cs := List Nat
def sOf (l : Cs) : Str := ⟨l.toArray⟩
def tl (s : Str) : Cs := s.cps.toList
@[simp] theorem tl_sOf (l : Cs) : tl (sOf l) = l := rfl
@[simp] theorem sOf_tl (s : Str) : sOf (tl s) = s := rfl
theorem sOf_inj {a b : Cs} (h : sOf a = sOf b) : a = b := congrArg tl h
@[simp] theorem sOf_eq {a b : Cs} : (sOf a = sOf b) ↔ a = b := ⟨sOf_inj, fun h => h ▸ rfl⟩
theorem str_eq {a b : Str} : a = b ↔ tl a = tl b := ⟨fun h => h ▸ rfl, fun h => by
  have e := congrArg sOf h
  exact e⟩
theorem len_tl (s : Str) : s.length = (tl s).length := by
  show s.cps.size = s.cps.toList.length
  simp
theorem sOf_len (l : Cs) : (sOf l).length = l.length := by
  show l.toArray.size = l.length
  simp
theorem add_sOf (a b : Str) : a ++ b = sOf (tl a ++ tl b) := by
  show (⟨a.cps ++ b.cps⟩ : Str) = ⟨(a.cps.toList ++ b.cps.toList).toArray⟩
  congr 1
  simp
abbrev line : Nat := 16777216
theorem line_eq : sizeLine = line := sizeLine_eq

/-! ### lookups -/
/-- the items of a list or a tuple that stands in H -/
def seqH (H : Hp) (a : Addr) : Option (List V) := match H a with
  | some (.lst xs) => some xs
  | some (.tup xs) => some xs
  | some (.frz _ (.lst xs)) => some xs
  | some (.frz _ (.tup xs)) => some xs
  | _ => none
theorem seqH_sq {K : PySem.W.Frag} {H : Hp} {a : Addr} {xs : List V} (h : seqH H a = some xs) : SqL K H a xs ∨ SqT K H a xs := by
  unfold seqH at h
  split at h
  · rename_i e; cases h; exact .inl (.inl (.inl e))
  · rename_i e; cases h; exact .inr (.inl (.inl e))
  · rename_i e; cases h; exact .inl (.inl (.inr ⟨_, e⟩))
  · rename_i e; cases h; exact .inr (.inl (.inr ⟨_, e⟩))
  · cases h
/-- a list alone -/
def lstH (H : Hp) (a : Addr) : Option (List V) := match H a with
  | some (.lst xs) => some xs
  | some (.frz _ (.lst xs)) => some xs
  | _ => none
theorem lstH_sq {K : PySem.W.Frag} {H : Hp} {a : Addr} {xs : List V} (h : lstH H a = some xs) : SqL K H a xs := by
  unfold lstH at h
  split at h
  · rename_i e; cases h; exact .inl (.inl e)
  · rename_i e; cases h; exact .inl (.inr ⟨_, e⟩)
  · cases h

/-- what is known of a caught error that is kept: its class, its own dict -/
def exvP (cls : Value) (d : Option Addr) (a : Addr) : Heap → Prop := fun h => ∃ (oe : Obj) (vs : Array Value), h.get? a = some oe ∧ Zc cls d oe ∧ oe.data = .fields vs
def ExV (cls : Value) (d : Option Addr) (a : Addr) : HO := .ext (exvP cls d a)
theorem exv_ok {P : Program} {w : World} {H : Hp} {h : Heap} {a : Addr} {cls : Value} {d : Option Addr} (q : exvP cls d a h) : ObjOk P w H h a (ExV cls d a) := by
  obtain ⟨oe, vs, e, z, dd⟩ := id q
  exact ⟨q, ⟨oe, e⟩, fun h1 h2 ⟨o, v, e1, z1, d1⟩ k => ⟨o, v, k o e1, z1, d1⟩⟩
/-! ### operators -/
/-- the size of a product -/
def IMul (i j : Int) : Prop := IntMulOk i j
theorem IMul.l {i j : Int} (h : -(2 ^ 64) < i ∧ i < 2 ^ 64) : IMul i j := .of_left (intBits_le_64 h.1 h.2)
theorem IMul.r {i j : Int} (h : -(2 ^ 64) < j ∧ j < 2 ^ 64) : IMul i j := .of_right (intBits_le_64 h.1 h.2)
def repC (n : Int) (l : Cs) : Cs := (List.replicate n.toNat l).flatten
def rAddX : R2 := fun x y H Q => match x, y with
  | .int i, .int j => Q (.int (i + j)) H
  | .str a, .str b => (tl a).length + (tl b).length ≤ line ∧ Q (.str (sOf (tl a ++ tl b))) H
  | .ref a, .ref b => (match H a, H b with
    | some (.lst xs), some (.lst ys) => xs.length + ys.length ≤ line ∧ ∀ p, H p = none → Q (.ref p) (upd H p (.lst (xs ++ ys)))
    | some (.tup xs), some (.tup ys) => xs ≠ [] ∧ ys ≠ [] ∧ xs.length + ys.length ≤ line ∧ ∀ p, H p = none → Q (.ref p) (upd H p (.tup (xs ++ ys)))
    | _, _ => False)
  | _, _ => False
def rMulX : R2 := fun x y H Q => match x, y with
  | .int i, .int j => IMul i j ∧ Q (.int (i * j)) H
  | .str a, .int j => -100 ≤ j ∧ j ≤ 100 ∧ (tl a).length ≤ 100000 ∧ Q (.str (sOf (repC j (tl a)))) H
  | .ref a, .int j => (match H a with
    | some (.lst xs) => -100 ≤ j ∧ j ≤ 100 ∧ xs.length ≤ 100000 ∧ ∀ p, H p = none → Q (.ref p) (upd H p (.lst (List.replicate j.toNat xs).flatten))
    | _ => False)
  | _, _ => False
def rSubX : R2 := fun x y H Q => match x, y with
  | .int i, .int j => Q (.int (i - j)) H
  | _, _ => False
def rModX : R2 := fun x y H Q => match x, y with
  | .int i, .int j => 0 < j ∧ Q (.int (i % j)) H
  | _, _ => False
def rDivX : R2 := fun x y H Q => match x, y with
  | .int i, .int j => (0 < j ∧ j < 1073741824) ∧ Q (.int (i / j)) H
  | _, _ => False
def rPowX : R2 := fun x y H Q => match x, y with
  | .int i, .int j => CPow i j ∧ Q (.int (i ^ j.toNat)) H
  | _, _ => False
def rNoX : R2 := fun _ _ _ _ => False
def rBin : Operator → R2
  | .Add => rAddX | .Sub => rSubX | .Mult => rMulX | .Mod => rModX | .FloorDiv => rDivX | .Pow => rPowX
  | _ => rNoX


/-! comparisons -/
def rEqX (K : PySem.W.Frag) : R2 := fun x y H Q => match scal x y with
  | true => Q (.bl (decide (x = y))) H
  | false => ∃ d e, Dp K H x d ∧ Dp K H y e ∧ SeqAt.shaped d = true ∧ SeqAt.shaped e = true ∧ Q (.bl (PyData.eqv d e)) H
def rNeX (K : PySem.W.Frag) : R2 := fun x y H Q => match scal x y with
  | true => Q (.bl (!decide (x = y))) H
  | false => ∃ d e, Dp K H x d ∧ Dp K H y e ∧ SeqAt.shaped d = true ∧ SeqAt.shaped e = true ∧ Q (.bl (!PyData.eqv d e)) H
def rOrd (f : Int → Int → Bool) (g : Cs → Cs → Bool) : R2 := fun x y H Q => match x, y with
  | .int i, .int j => Q (.bl (f i j)) H
  | .str a, .str b => Q (.bl (g (tl a) (tl b))) H
  | _, _ => False
def rLtX : R2 := rOrd (fun i j => decide (i < j)) (fun a b => decide (a < b))
def rLeX : R2 := rOrd (fun i j => decide (i ≤ j)) (fun a b => !decide (b < a))
def rGtX : R2 := rOrd (fun i j => decide (j < i)) (fun a b => decide (b < a))
def rGeX : R2 := rOrd (fun i j => decide (j ≤ i)) (fun a b => !decide (a < b))
def rIsX (n : Bool) : R2 := fun x y H Q => match x, y with
  | .bl a, .bl b => Q (.bl (n.xor (decide (a = b)))) H
  | _, .non => Q (.bl (n.xor (decide (x = .non)))) H
  | _, _ => False
/-- in: a sign in a text, a value in a list or a tuple of flat things, a key in a dict -/
def rInX (K : PySem.W.Frag) (n : Bool) : R2 := fun x y H Q => match x, y with
  | .str a, .str b => (match tl a with
    | [c] => Q (.bl (n.xor (decide (c ∈ tl b)))) H
    | _ => False)
  | _, .ref p => (match H p with
    | some (.lst xs) => flatV x = true ∧ xs.all flatV = true ∧ Q (.bl (n.xor (inV x xs))) H
    | some (.tup xs) => flatV x = true ∧ xs.all flatV = true ∧ Q (.bl (n.xor (inV x xs))) H
    | _ => ∃ o, DGet H p x o ∧ Q (.bl (n.xor o.isSome)) H)
  | _, _ => False
def rCmp (K : PySem.W.Frag) : CmpOp → R2
  | .Eq => rEqX K | .NotEq => rNeX K | .Lt => rLtX | .LtE => rLeX | .Gt => rGtX | .GtE => rGeX
  | .Is => rIsX false | .IsNot => rIsX true | .In => rInX K false | .NotIn => rInX K true
/-- a[b] -/
def rIxX (K : PySem.W.Frag) : R2 := fun x y H Q => match x, y with
  | .str z, .int i => (tl z).length ≤ line ∧ (match atI (tl z) i with
    | some c => Q (.str (sOf [c])) H
    | none => False)
  | .ref p, _ => (match seqH H p with
    | some xs => (match y with
      | .int i => (match atI xs i with
        | some v => Q v H
        | none => False)
      | _ => False)
    | none => ∃ v, DGet H p y (some v) ∧ Q v H)
  | _, _ => False
def rNegX : V → Hp → VK → Prop := fun x H Q => match x with
  | .int i => Q (.int (-i)) H
  | _ => False
/-- a slice -/
def cutC (z : Cs) (lo hi : Option Int) : Cs := (z.drop (HT.sIx z.length 0 lo)).take (HT.sIx z.length z.length hi - HT.sIx z.length 0 lo)
def rSlX (K : PySem.W.Frag) : V → Option Int → Option Int → Hp → VK → Prop := fun x lo hi H Q => match x with
  | .str z => (tl z).length ≤ line ∧ Q (.str (sOf (cutC (tl z) lo hi))) H
  | .ref p => (match lstH H p with
    | some xs => ∀ q, H q = none → Q (.ref q) (upd H q (.lst (cutV xs lo hi)))
    | none => ∃ xs, SqT K H p xs ∧ ¬ (HT.sIx xs.length 0 lo = 0 ∧ HT.sIx xs.length xs.length hi = xs.length) ∧ ∀ q, H q = none → Q (.ref q) (upd H q (.tup (cutV xs lo hi))))
  | _ => False

section
variable {X : Cx} {pins : List (Addr × Obj)} {σ : L2.St} {H : Hp} {s : Shared} {Q : VK}
theorem opS {a b : Str} (I : Inv X pins σ H s) (q : Q (.str a) H) (e : a = b) (t : Tok) (k : Nat) : EP X pins σ Q (.str b t) { s with toks := k } := by
  subst e
  exact ⟨.str a, H, I.tok _, ⟨_, rfl⟩, q⟩
theorem foldl_app (n : Nat) (a : Array Nat) : ∀ (z : Array Nat), ((List.replicate n a).foldl (· ++ ·) z).toList = z.toList ++ (List.replicate n a.toList).flatten := by
  induction n with
  | zero => intro z; simp
  | succ n ih =>
    intro z
    rw [List.replicate_succ, List.foldl_cons, ih, List.replicate_succ, List.flatten_cons, Array.toList_append, List.append_assoc]
theorem repC_mul {a : Str} {j : Int} : Txt.mul a j = sOf (repC j (tl a)) := by
  unfold Txt.mul repC
  by_cases h1 : j < 1
  · rw [if_pos h1]
    have e : j.toNat = 0 := by omega
    rw [e]
    rfl
  · rw [if_neg h1]
    by_cases h2 : (j == 1 || a.length == 0) = true
    · rw [if_pos h2]
      rw [Bool.or_eq_true] at h2
      rcases h2 with h2 | h2
      · have e : j = 1 := by simpa using h2
        subst e
        show a = sOf (List.replicate 1 (tl a)).flatten
        simp
      · have e : a.length = 0 := by simpa using h2
        rw [len_tl] at e
        have e2 : tl a = [] := List.length_eq_zero_iff.mp e
        rw [e2]
        have e3 : a = sOf [] := by rw [← e2, sOf_tl]
        rw [e3]
        congr 1
        induction j.toNat with
        | zero => rfl
        | succ n ih => rw [List.replicate_succ, List.flatten_cons, ← ih] <;> rfl
    · rw [if_neg h2]
      apply str_eq.mpr
      show ((List.replicate j.toNat a.cps).foldl (· ++ ·) #[]).toList = _
      rw [foldl_app]
      rfl
theorem mulOk_s {a : Str} {j : Int} (h1 : -100 ≤ j) (h2 : j ≤ 100) (h3 : (tl a).length ≤ 100000) : PySem.MulOk a j := by
  refine ⟨by simp; omega, fun h4 h5 => ?_, fun h4 h5 => ?_⟩
  · rw [len_tl]
    have h6 : (100000 : Int) ≤ (2 ^ 63 - 1) / j := by
      rw [Int.le_ediv_iff_mul_le (by omega)]
      have : (100000 : Int) * j ≤ 100000 * 100 := Int.mul_le_mul_of_nonneg_left h2 (by decide)
      have h8 : (100000 : Int) * 100 ≤ 2 ^ 63 - 1 := by decide
      omega
    omega
  · rw [len_tl]
    have h6 : (tl a).length * j.toNat ≤ 100000 * 100 := Nat.mul_le_mul h3 (by omega)
    show decide _ = false
    apply decide_eq_false
    have : sizeLine = 16777216 := sizeLine_eq
    omega
theorem op_addX : OpR X (binaryOp .Add) rAddX := by
  intro pins s σ H x y v u Q I rx ry h
  unfold rAddX at h
  split at h
  · exact op_add pins s σ H _ _ v u Q I rx ry ⟨_, _, rfl, rfl, h⟩
  · rename_i a b
    refine op_add_str pins s σ H _ _ v u Q I rx ry ⟨a, b, rfl, rfl, ?_, ?_⟩
    · rw [len_tl, len_tl, line_eq]; exact h.1
    · rw [add_sOf]; exact h.2
  · rename_i a b
    split at h
    · rename_i xs ys e1 e2
      exact op_cat pins s σ H _ _ v u Q I rx ry ⟨a, b, xs, ys, rfl, rfl, e1, e2, by rw [line_eq]; exact h.1, h.2⟩
    · rename_i xs ys e1 e2
      exact op_catT pins s σ H _ _ v u Q I rx ry ⟨a, b, xs, ys, rfl, rfl, SqT.of e1, SqT.of e2, h.1, by rw [line_eq]; exact h.2.2.1, fun z => absurd z h.2.1, fun _ => h.2.2.2⟩
    · exact h.elim
  · exact h.elim
theorem op_mulX : OpR X (binaryOp .Mult) rMulX := by
  intro pins s σ H x y v u Q I rx ry h
  unfold rMulX at h
  split at h
  · obtain ⟨t, rfl⟩ := rx
    obtain ⟨t', rfl⟩ := ry
    exact mul_int ⟨.int _, H, I.tok _, ⟨_, rfl⟩, h.2⟩ h.1
  · rename_i a j
    obtain ⟨t, rfl⟩ := rx
    obtain ⟨t', rfl⟩ := ry
    obtain ⟨h1, h2, h3, h4⟩ := h
    refine PySem.SB.mul (mulOk_s h1 h2 h3) fun t'' k => ?_
    rw [repC_mul]
    exact ⟨.str _, H, I.tok _, ⟨_, rfl⟩, h4⟩
  · rename_i a j
    split at h
    · rename_i xs e
      obtain ⟨h1, h2, h3, h4⟩ := h
      have h6 : xs.length * j.toNat ≤ 100000 * 100 := Nat.mul_le_mul h3 (by omega)
      exact op_rep pins s σ H _ _ v u Q I rx ry ⟨a, j, xs, rfl, rfl, e, by omega, by omega, by rw [line_eq]; show _ ≤ 16777216; omega, h4⟩
    · exact h.elim
  · exact h.elim
theorem op_intX {op : Operator} {r : R2} {C : Int → Int → Prop} {g : Int → Int → V} (ho : OpR X (binaryOp op) (rI C g)) (hr : ∀ x y H Q, r x y H Q → ∃ i j, x = .int i ∧ y = .int j ∧ C i j ∧ Q (g i j) H) : OpR X (binaryOp op) r :=
  fun pins s σ H x y v u Q I rx ry h => ho pins s σ H x y v u Q I rx ry (hr x y H Q h)
theorem op_bin (o : Operator) : OpR X (binaryOp o) (rBin o) := by
  cases o with
  | Add => exact op_addX
  | Mult => exact op_mulX
  | Sub =>
    intro pins s σ H x y v u Q I rx ry h
    unfold rBin rSubX at h
    simp only at h
    split at h
    · exact op_sub pins s σ H _ _ v u Q I rx ry ⟨_, _, rfl, rfl, h⟩
    · exact h.elim
  | Mod =>
    refine op_intX op_mod fun x y H Q h => ?_
    unfold rBin rModX at h
    simp only at h
    split at h
    · exact ⟨_, _, rfl, rfl, h.1, h.2⟩
    · exact h.elim
  | FloorDiv =>
    refine op_intX op_fdiv fun x y H Q h => ?_
    unfold rBin rDivX at h
    simp only at h
    split at h
    · exact ⟨_, _, rfl, rfl, h.1, h.2⟩
    · exact h.elim
  | Pow =>
    refine op_intX op_pow fun x y H Q h => ?_
    unfold rBin rPowX at h
    simp only at h
    split at h
    · exact ⟨_, _, rfl, rfl, h.1, h.2⟩
    · exact h.elim
  | _ => intro pins s σ H x y v u Q I rx ry h; exact (show False from h).elim

theorem op_ordX {op : CmpOp} {f : Int → Int → Bool} {g : Cs → Cs → Bool} (hi : OpR X (compareOp op) (rI0 fun i j => .bl (f i j)))
    (hs : OpR X (compareOp op) (fun x y H Q => ∃ i j, x = .str i ∧ y = .str j ∧ Q (.bl (g (tl i) (tl j))) H)) : OpR X (compareOp op) (rOrd f g) := by
  intro pins s σ H x y v u Q I rx ry h
  unfold rOrd at h
  split at h
  · exact hi pins s σ H _ _ v u Q I rx ry ⟨_, _, rfl, rfl, h⟩
  · exact hs pins s σ H _ _ v u Q I rx ry ⟨_, _, rfl, rfl, h⟩
  · exact h.elim
theorem op_eqX (hu : X.A.units + 64 < cLine) : OpR X (compareOp .Eq) (rEqX X.K) := by
  intro pins s σ H x y v u Q I rx ry h
  unfold rEqX at h
  split at h
  · rename_i e
    exact op_eq pins s σ H _ _ v u Q I rx ry ⟨e, h⟩
  · exact op_eqD hu pins s σ H _ _ v u Q I rx ry h
theorem op_neX (hu : X.A.units + 64 < cLine) : OpR X (compareOp .NotEq) (rNeX X.K) := by
  intro pins s σ H x y v u Q I rx ry h
  unfold rNeX at h
  split at h
  · rename_i e
    exact op_ne pins s σ H _ _ v u Q I rx ry ⟨e, h⟩
  · exact op_neD hu pins s σ H _ _ v u Q I rx ry h
theorem op_isX : OpR X (compareOp .Is) (rIsX false) := by
  intro pins s σ H x y v u Q I rx ry h
  unfold rIsX at h
  simp only [Bool.false_xor] at h
  split at h
  · exact op_isBl pins s σ H _ _ v u Q I rx ry ⟨_, _, rfl, rfl, h⟩
  · exact op_isN pins s σ H _ _ v u Q I rx ry ⟨rfl, h⟩
  · exact h.elim
theorem op_notX : OpR X (compareOp .IsNot) (rIsX true) := by
  intro pins s σ H x y v u Q I rx ry h
  unfold rIsX at h
  simp only [Bool.true_xor] at h
  split at h
  · exact op_notBl pins s σ H _ _ v u Q I rx ry ⟨_, _, rfl, rfl, h⟩
  · exact op_notN pins s σ H _ _ v u Q I rx ry ⟨rfl, h⟩
  · exact h.elim
theorem one_of {a : Str} {c : Nat} (e : tl a = [c]) : a = ⟨#[c]⟩ := by
  have h := congrArg sOf e
  exact h
theorem op_inX (hu : X.A.units + 1 < cLine) : OpR X (compareOp .In) (rInX X.K false) := by
  intro pins s σ H x y v u Q I rx ry h
  unfold rInX at h
  simp only [Bool.false_xor] at h
  split at h
  · split at h
    · rename_i c e
      exact op_in_sign pins s σ H _ _ v u Q I rx ry ⟨c, _, by rw [one_of e], rfl, h⟩
    · exact h.elim
  · rename_i _ _ p
    split at h
    · rename_i xs e
      exact op_in_seq pins s σ H _ _ v u Q I rx ry ⟨p, xs, rfl, .inl (SqL.of e), h.1, h.2.1, h.2.2⟩
    · rename_i xs e
      exact op_in_seq pins s σ H _ _ v u Q I rx ry ⟨p, xs, rfl, .inr (SqT.of e), h.1, h.2.1, h.2.2⟩
    · obtain ⟨o, g, q⟩ := h
      obtain rfl : u = Value.ref p := ry
      exact d_in hu I g rx fun s3 I3 => ⟨.bl o.isSome, H, I3, rfl, q⟩
  · exact h.elim
theorem op_ninX (hu : X.A.units + 1 < cLine) : OpR X (compareOp .NotIn) (rInX X.K true) := by
  intro pins s σ H x y v u Q I rx ry h
  unfold rInX at h
  simp only [Bool.true_xor] at h
  split at h
  · split at h
    · rename_i c e
      exact op_notIn_sign pins s σ H _ _ v u Q I rx ry ⟨c, _, by rw [one_of e], rfl, h⟩
    · exact h.elim
  · rename_i _ _ p
    split at h
    · rename_i xs e
      exact op_notIn_seq pins s σ H _ _ v u Q I rx ry ⟨p, xs, rfl, .inl (SqL.of e), h.1, h.2.1, h.2.2⟩
    · rename_i xs e
      exact op_notIn_seq pins s σ H _ _ v u Q I rx ry ⟨p, xs, rfl, .inr (SqT.of e), h.1, h.2.1, h.2.2⟩
    · obtain ⟨o, g, q⟩ := h
      obtain rfl : u = Value.ref p := ry
      exact d_notIn hu I g rx fun s3 I3 => ⟨.bl (!o.isSome), H, I3, rfl, q⟩
  · exact h.elim
theorem op_cmp (hu : X.A.units + 64 < cLine) (o : CmpOp) : OpR X (compareOp o) (rCmp X.K o) := by
  cases o with
  | Eq => exact op_eqX hu
  | NotEq => exact op_neX hu
  | Lt => exact op_ordX (g := fun a b => decide (a < b)) op_lt op_lt_str
  | LtE => exact op_ordX (g := fun a b => !decide (b < a)) op_le op_le_str
  | Gt => exact op_ordX (g := fun a b => decide (b < a)) op_gt op_gt_str
  | GtE => exact op_ordX (g := fun a b => !decide (a < b)) op_ge op_ge_str
  | Is => exact op_isX
  | IsNot => exact op_notX
  | In => exact op_inX (by omega)
  | NotIn => exact op_ninX (by omega)
theorem ix_dict (hu : X.A.units + 1 < cLine) : IxR X (fun x y H Q => ∃ p v, x = .ref p ∧ DGet H p y (some v) ∧ Q v H) := by
  intro value slice pins s σ H x y v u Q I rx ry h hs
  obtain ⟨p, z, rfl, g, q⟩ := h
  obtain rfl : v = Value.ref p := rx
  exact tail_any (dict_typeIs I g) PySem.F.slot_dict_getitem.lookup (d_getItem hu I g ry fun w' s3 I3 rw' => ⟨z, H, I3, rw', q⟩) hs
theorem ix_X (hu : X.A.units + 1 < cLine) : IxR X (rIxX X.K) := by
  intro value slice pins s σ H x y v u Q I rx ry h hs
  unfold rIxX at h
  split at h
  · rename_i z i
    obtain ⟨h1, h2⟩ := h
    split at h2
    · rename_i c e
      exact ix_str value slice pins s σ H _ _ v u Q I rx ry ⟨z, i, c, rfl, rfl, by rw [line_eq, len_tl]; exact h1, e, h2⟩ hs
    · exact h2.elim
  · rename_i _ _ p
    split at h
    · rename_i xs e
      split at h
      · split at h
        · rename_i _ i _ z ez
          rcases seqH_sq (K := X.K) e with hq | hq
          · exact ix_list value slice pins s σ H _ _ v u Q I rx ry ⟨p, xs, i, z, rfl, rfl, hq, ez, h⟩ hs
          · exact ix_tup value slice pins s σ H _ _ v u Q I rx ry ⟨p, xs, i, z, rfl, rfl, hq, ez, h⟩ hs
        · exact h.elim
      · exact h.elim
    · obtain ⟨z, g, q⟩ := h
      exact ix_dict hu value slice pins s σ H _ _ v u Q I rx ry ⟨p, z, rfl, g, q⟩ hs
  · exact h.elim
theorem un_negX : UnR X (unaryOp .USub) rNegX := by
  intro pins s σ H x v Q I rx h
  unfold rNegX at h
  split at h
  · exact un_neg pins s σ H _ v Q I rx ⟨_, rfl, h⟩
  · exact h.elim
theorem cutS_C (z : Str) (lo hi : Option Int) : cutS z lo hi = sOf (cutC (tl z) lo hi) := by
  unfold cutS cutC
  rw [len_tl]
  rfl
theorem sl_X : SlR X (rSlX X.K) := by
  intro pins s σ H x v vl vu lo hi sl Q I rx hs pl pu h
  unfold rSlX at h
  split at h
  · rename_i z
    exact sl_str pins s σ H _ v vl vu lo hi sl Q I rx hs pl pu ⟨z, rfl, by rw [line_eq, len_tl]; exact h.1, by rw [cutS_C]; exact h.2⟩
  · rename_i p
    split at h
    · rename_i xs e
      exact sl_list pins s σ H _ v vl vu lo hi sl Q I rx hs pl pu ⟨p, xs, rfl, lstH_sq e, h⟩
    · exact sl_tup pins s σ H _ v vl vu lo hi sl Q I rx hs pl pu (by
        obtain ⟨xs, h1, h2, h3⟩ := h
        exact ⟨p, xs, rfl, h1, h2, h3⟩)
  · exact h.elim
end
end Rf
set_option Elab.async false
set_option autoImplicit false
set_option linter.all false
set_option maxRecDepth 100000
set_option maxHeartbeats 4000000
/-! A small syntax with names resolved, its reading, a checker against the program's own text, and soundness. -/
namespace Rf
open PySem PySem.Spec PyProof.Rows L2 C8
open SX C8 in
abbrev InsC := @C8.InsC

/-! ### built-in functions, classes, methods -/
inductive BF where
  | len | all | any | abs | isi | min2 | max2
  deriving DecidableEq
inductive TF where
  | int | str
  deriving DecidableEq
inductive BM where
  | append | extend | join | startswith | index
  deriving DecidableEq
def BF.name : BF → Str
  | .len => "len" | .all => "all" | .any => "any" | .abs => "abs" | .isi => "isinstance" | .min2 => "min" | .max2 => "max"
def BF.id : BF → String
  | .len => "len" | .all => "all" | .any => "any" | .abs => "abs" | .isi => "isinstance" | .min2 => "min" | .max2 => "max"
def TF.name : TF → Str
  | .int => "int" | .str => "str"
def TF.id : TF → String
  | .int => "int" | .str => "str"
def BM.name : BM → Str
  | .append => "append" | .extend => "extend" | .join => "join" | .startswith => "startswith" | .index => "index"
def BM.ty : BM → String
  | .append => "list" | .extend => "list" | .join => "str" | .startswith => "str" | .index => "str"

mutual
inductive RE where
  | var (i : Nat) | int (i : Int) | bl (b : Bool) | non | str (x : Str)
  | gc (i : Nat) | gf (i : Nat) | ty (n : String)
  | bin (o : Operator) (a b : RE) | neg (a : RE)
  | cmp (o : CmpOp) (a b : RE) | chain (o o' : CmpOp) (a b c : RE)
  | andV (a b : RE) | orV (a b : RE) | notV (a : RE)
  | ifE (t : RT) (a b : RE)
  | call (i : Nat) (as : RA) | cb (f : BF) (as : RA) | ct (f : TF) (as : RA) | mt (m : BM) (o : RE) (as : RA)
  | ix (a b : RE) | sl (a : RE) (lo hi : RO)
  | lst (as : RA) | tup (as : RA) | dnew
  | lc (own : List (Str × Nat)) (tg : Nat) (it : RI) (c : RC) (e : RE)
  | callE (f : RE) (as : RA)
inductive RA where
  | nil | cons (a : RE) (r : RA)
inductive RO where
  | no | yes (a : RE)
inductive RT where
  | tru (e : RE) | cmp (o : CmpOp) (a b : RE) | chain (o o' : CmpOp) (a b c : RE) | and (a b : RT) | or (a b : RT) | not (a : RT)
inductive RC where
  | no | yes (t : RT)
inductive RI where
  | any (e : RE) | range1 (a : RE) | range2 (a b : RE)
end

/-- the static side: names by slot, the scope, callees, constants, free names, own errors -/
structure Ct where
  N : List Str
  sc : Scope
  fns : List Str
  gs : List Str
  fr : List Str
  ex : List Str
/-- the dynamic side -/
structure Dn where
  K : PySem.W.Frag
  W : WX
  sp : List Sp
  fa : List Addr
  gv : List V
  ex : List Addr

/-! ### readings -/
def spAt (D : Dn) (i : Nat) : Sp := (D.sp[i]?).getD fun _ _ _ _ => False
def gvAt (D : Dn) (i : Nat) : TE := fun _ H Q => match D.gv[i]? with
  | some v => Q v H
  | none => False
def faAt (D : Dn) (i : Nat) : TE := fun _ H Q => match D.fa[i]? with
  | some a => Q (.ref a) H
  | none => False
def rVar (i : Nat) : TE := fun σ H Q => match σ[i]? with
  | some (some v) => Q v H
  | _ => False
def trX (K : PySem.W.Frag) (x : V) (H : Hp) (Q : Bool → Hp → Prop) : Prop := match x with
  | .non => Q false H
  | .bl b => Q b H
  | .int i => Q (i != 0) H
  | .str y => (tl y).length ≤ line ∧ Q (!(tl y).isEmpty) H
  | .ref p => (match H p with
    | some (.dK kvs) => Q (!kvs.isEmpty) H
    | _ => (match seqH H p with
      | some xs => Q (!xs.isEmpty) H
      | none => False))
  | _ => False
def rLenX : List V → Hp → VK → Prop := fun xs H Q => match xs with
  | [.str y] => (tl y).length ≤ line ∧ Q (.int (tl y).length) H
  | [.ref p] => (match H p with
    | some (.dK kvs) => Q (.int kvs.length) H
    | _ => (match seqH H p with
      | some xs => Q (.int xs.length) H
      | none => False))
  | _ => False
/-- a list of bools -/
def blsOf : List V → Option (List Bool)
  | [] => some []
  | .bl b :: r => (blsOf r).map (b :: ·)
  | _ :: _ => none
def rAllX (f : List Bool → Bool) : List V → Hp → VK → Prop := fun xs H Q => match xs with
  | [.ref p] => (match (lstH H p).bind blsOf with
    | some bs => Q (.bl (f bs)) H
    | none => False)
  | _ => False
/-- isinstance: the type of a value, a class's value -/
def tyK (K : PySem.W.Frag) (H : Hp) (x : V) (k : Value → Prop) : Prop := match x with
  | .non => k (.type "NoneType")
  | .bl _ => k (.type "bool")
  | .int _ => k (.type "int")
  | .str _ => k (.type "str")
  | .ref p => (match H p with
    | some (.lst _) => k (.type "list")
    | some (.tup _) => k (.type "tuple")
    | some (.dK _) => k (.type "dict")
    | some (.dT _) => k (.type "dict")
    | some (.frz _ (.lst _)) => k (.type "list")
    | some (.ins C _ _) => InsC K C ∧ k (.ref C)
    | some (.ext φ) => ∃ (D : Addr) (d : Option Addr), φ = exvP (.ref D) d p ∧ ExcC K D ∧ (match d with
      | none => True
      | some dx => ∃ fs, H dx = some (.xd fs)) ∧ k (.ref D)
    | _ => False)
  | _ => False
def clK (x : V) (k : Value → Prop) : Prop := match x with
  | .ty n => k (.type n)
  | .ref C => k (.ref C)
  | _ => False
def rIsiX (K : PySem.W.Frag) : List V → Hp → VK → Prop := fun xs H Q => match xs with
  | [x, c] => tyK K H x fun t => clK c fun u => ∃ b, PySem.W.kitOne K t u = some b ∧ Q (.bl b) H
  | _ => False
def rAbsX : List V → Hp → VK → Prop := fun xs H Q => match xs with
  | [.int i] => Q (.int (i.natAbs : Int)) H
  | _ => False
def rMinX : List V → Hp → VK → Prop := fun xs H Q => match xs with
  | [.int i, .int j] => Q (.int (min i j)) H
  | _ => False
def rMaxX : List V → Hp → VK → Prop := fun xs H Q => match xs with
  | [.int i, .int j] => Q (.int (max i j)) H
  | _ => False
def rBF (K : PySem.W.Frag) : BF → List V → Hp → VK → Prop
  | .len => rLenX | .all => rAllX (·.all id) | .any => rAllX (·.any id) | .abs => rAbsX | .isi => rIsiX K | .min2 => rMinX | .max2 => rMaxX
def rIntX : List V → Hp → VK → Prop := fun xs H Q => match xs with
  | [.int i] => Q (.int i) H
  | [.bl b] => Q (.int (if b then 1 else 0)) H
  | [.str a] => ∃ n, PySem.intText? a = some n ∧ (tl a).length ≤ 640 ∧ Q (.int n) H
  | _ => False
def rStrX : List V → Hp → VK → Prop := fun xs H Q => match xs with
  | [.int i] => i.natAbs.log2 < 1920 ∧ Q (.str (toString i)) H
  | _ => False
def rTF : TF → List V → Hp → VK → Prop
  | .int => rIntX | .str => rStrX
/-- a list of texts -/
def strsOf : List V → Option (List Cs)
  | [] => some []
  | .str b :: r => (strsOf r).map (tl b :: ·)
  | _ :: _ => none
def joinC (S : Cs) : List Cs → Cs
  | [] => []
  | [a] => a
  | a :: b :: r => a ++ S ++ joinC S (b :: r)
def rJoinX : V → List V → Hp → VK → Prop := fun x xs H Q => match x, xs with
  | .str a, [.ref p] => (match (seqH H p).bind strsOf with
    | some ys => ((ys.map List.length).sum + ys.length * (tl a).length ≤ line) ∧ Q (.str (sOf (joinC (tl a) ys))) H
    | none => False)
  | _, _ => False
def rStartX : V → List V → Hp → VK → Prop := fun x xs H Q => match x, xs with
  | .str a, [.str b] => Q (.bl (decide ((tl a).take (tl b).length = tl b))) H
  | _, _ => False
/-- the place of one sign in a text where it is -/
def rIndexSX : V → List V → Hp → VK → Prop := fun x xs H Q => match x, xs with
  | .str a, [.str b] => (match tl b with
    | [c] => c ∈ tl a ∧ Q (.int ((tl a).idxOf c : Nat)) H
    | _ => False)
  | _, _ => False
def rAppX : V → List V → Hp → VK → Prop := fun x vs H Q => match x, vs with
  | .ref l, [y] => (match H l with
    | some (.lst xs) => xs.length < line ∧ Q .non (upd H l (.lst (xs ++ [y])))
    | _ => False)
  | _, _ => False
def rExtX : V → List V → Hp → VK → Prop := fun x vs H Q => match x, vs with
  | .ref l, [.ref b] => (match H l, H b with
    | some (.lst xs), some (.lst zs) => xs.length + zs.length ≤ line ∧ Q .non (upd H l (.lst (xs ++ zs)))
    | _, _ => False)
  | _, _ => False
def rBM : BM → V → List V → Hp → VK → Prop
  | .append => rAppX | .extend => rExtX | .join => rJoinX | .startswith => rStartX | .index => rIndexSX
def iAny (K : PySem.W.Frag) (te : TE) : TI := fun σ H R => te σ H fun x H1 => match x with
  | .str y => R (Its y) H1
  | .ref a => (match H1 a with
    | some (.lst _) => R (Itl K a) H1
    | some (.frz _ (.lst _)) => R (Itl K a) H1
    | some (.frz o (.dK kvs)) => R (Itk a o kvs) H1
    | some (.frz o (.dT kvs)) => R (Itkt a o kvs) H1
    | _ => ∃ xs, SqT K H1 a xs ∧ R (Itt K a) H1)
  | _ => False
def blkD (D : Dn) : Dn := { D with W := fun _ _ _ _ => False }
mutual
def wpE (D : Dn) : RE → TE
  | .var i => rVar i
  | .int i => tC (.int i)
  | .bl b => tC (.bl b)
  | .non => tC .non
  | .str x => tC (.str x)
  | .gc i => gvAt D i
  | .gf i => faAt D i
  | .ty n => tC (.ty n)
  | .bin o a b => tOp (rBin o) (wpE D a) (wpE D b)
  | .neg a => tUn rNegX (wpE D a)
  | .cmp o a b => tOp (rCmp D.K o) (wpE D a) (wpE D b)
  | .chain o o' a b c => tChain (rCmp D.K o) (rCmp D.K o') (wpE D a) (wpE D b) (wpE D c)
  | .andV a b => tAndV (wpE D a) (wpE D b)
  | .orV a b => tOrV (wpE D a) (wpE D b)
  | .notV a => fun σ H Q => wpE D a σ H fun x H1 => trX D.K x H1 fun k H2 => Q (.bl (!k)) H2
  | .ifE t a b => tIf (wpT D t) (wpE D a) (wpE D b)
  | .call i as => tCallS (spAt D i) (WE D.W) (wpA D as)
  | .cb f as => tCB (rBF D.K f) (wpA D as)
  | .ct f as => tCB (rTF f) (wpA D as)
  | .mt m o as => tBM D.K m.ty (rBM m) (wpE D o) (wpA D as)
  | .ix a b => tOp (rIxX D.K) (wpE D a) (wpE D b)
  | .sl a lo hi => tSl (rSlX D.K) (wpE D a) (wpO D lo) (wpO D hi)
  | .lst as => tLst (wpA D as)
  | .tup as => tTup (wpA D as)
  | .dnew => tDNewK
  | .lc own tg it c e => tLc (wpI D it) (gName tg) (wpC (blkD D) c) (wpE (blkD D) e) (own.map (·.2))
  | .callE f as => fun σ H Q => wpE D f σ H fun x H1 => ∃ (j : Nat) (fa : Addr), D.fa[j]? = some fa ∧ x = .ref fa ∧ wpA D as σ H1 fun vs H2 => spAt D j vs H2 Q (WE D.W σ)
def wpA (D : Dn) : RA → TA
  | .nil => tNil
  | .cons a r => tCons (wpE D a) (wpA D r)
def wpO (D : Dn) : RO → TO
  | .no => tNoPart
  | .yes a => tPart (wpE D a)
def wpT (D : Dn) : RT → TT
  | .tru e => fun σ H Q => wpE D e σ H fun x H1 => trX D.K x H1 Q
  | .cmp o a b => tTest (tOp (rCmp D.K o) (wpE D a) (wpE D b))
  | .chain o o' a b c => tTest (tChain (rCmp D.K o) (rCmp D.K o') (wpE D a) (wpE D b) (wpE D c))
  | .and a b => tAnd (wpT D a) (wpT D b)
  | .or a b => tOr (wpT D a) (wpT D b)
  | .not a => tNot (wpT D a)
def wpC (D : Dn) : RC → TT
  | .no => tYes
  | .yes t => wpT D t
def wpI (D : Dn) : RI → TI
  | .any e => iAny D.K (wpE D e)
  | .range1 a => iRng1 (tCons (wpE D a) tNil)
  | .range2 a b => iRng2 (tCons (wpE D a) (tCons (wpE D b) tNil))
end

/-! ### the checker -/
def visB (sc : Scope) (x : Str) : Bool := match sc.names.lookup x with
  | some .local => true | some .cell => true | some .free => true | _ => false
def glB (sc : Scope) (x : Str) : Bool := match sc.names.lookup x with
  | some .globalImplicit => true | _ => false
def locB (sc : Scope) (x : Str) : Bool := match sc.names.lookup x with
  | some .local => true | some .cell => true | _ => false
def noDb (x : Str) : Bool := !(x == ("__debug__" : Str)) && !(x == ("__classdict__" : Str)) && !(decide (x = ("__name__" : Str)))
def noStar : Expr → Bool
  | .Starred _ _ => false
  | _ => true
def noSlice : Expr → Bool
  | .Slice _ _ none _ => false
  | _ => true
def noComp : Expr → Bool
  | .ListComp .. => false | .SetComp .. => false | .DictComp .. => false
  | _ => true
def noSuper : Expr → Bool
  | .Call (.Name _ _) [] [] _ => false
  | _ => true
def plainT : Expr → Bool
  | .UnaryOp .Not _ _ => false | .BoolOp .. => false | .IfExp .. => false | .Compare .. => false
  | _ => true
def noSet : Expr → Bool
  | .Set .. => false
  | _ => true
def lookS (l : List Str) (i : Nat) (x : Str) : Bool := decide (l[i]? = some x)
mutual
def ckE (C : Ct) : RE → Expr → Bool
  | .var i, .Name x _ => lookS C.N i x && (visB C.sc x && noDb x)
  | .int i, .Constant (.int j) _ _ => decide (i = j)
  | .bl i, .Constant (.bool j) _ _ => decide (i = j)
  | .non, .Constant .none _ _ => true
  | .str i, .Constant (.str j) _ _ => decide (i = j)
  | .gc i, .Name x _ => lookS C.gs i x && (glB C.sc x && noDb x)
  | .gf i, .Name x _ => lookS C.fns i x && (glB C.sc x && noDb x)
  | .ty n, .Name x _ => decide (x = Str.ofString n) && (glB C.sc x && (noDb x && (decide (x ∈ C.fr) && decide (bootBuiltins x = some (.type n)))))
  | .bin o a b, .BinOp l op r _ => decide (op = o) && (ckE C a l && ckE C b r)
  | .neg a, .UnaryOp op r _ => decide (op = .USub) && ckE C a r
  | .cmp o a b, .Compare l [op] [r] _ => decide (op = o) && (!behindInMarks op r && (ckE C a l && ckE C b r))
  | .chain o o' a b c, .Compare l [op, op'] [m, r] _ => decide (op = o) && (decide (op' = o') && (!lastMarks [op, op'] [m, r] && (ckE C a l && (ckE C b m && ckE C c r))))
  | .andV a b, .BoolOp .And [x, y] _ => ckE C a x && ckE C b y
  | .andV a b, .BoolOp .And (x :: y :: z :: r) p => ckE C a x && ckE C b (.BoolOp .And (y :: z :: r) p)
  | .orV a b, .BoolOp .Or [x, y] _ => ckE C a x && ckE C b y
  | .orV a b, .BoolOp .Or (x :: y :: z :: r) p => ckE C a x && ckE C b (.BoolOp .Or (y :: z :: r) p)
  | .notV a, .UnaryOp .Not x _ => ckE C a x
  | .ifE t a b, .IfExp c x y _ => ckT C t c && (ckE C a x && ckE C b y)
  | .call i as, .Call (.Name x _) (e :: es) [] _ => lookS C.fns i x && (glB C.sc x && (noDb x && ckA C as (e :: es)))
  | .cb f as, .Call (.Name x _) (e :: es) [] _ => decide (x = f.name) && (glB C.sc x && (noDb x && (decide (x ∈ C.fr) && ckA C as (e :: es))))
  | .ct f as, .Call (.Name x _) (e :: es) [] _ => decide (x = f.name) && (glB C.sc x && (noDb x && (decide (x ∈ C.fr) && ckA C as (e :: es))))
  | .mt m o as, .Call (.Attribute o' x ap) (e :: es) [] cp => decide (x = m.name) && (noSuper o' && ((ap.endLine == cp.line) && (decide ((e :: es).length < 30) && (ckE C o o' && ckA C as (e :: es)))))
  | .ix a b, .Subscript x y _ => noSlice y && (ckE C a x && ckE C b y)
  | .sl a lo hi, .Subscript x (.Slice l h none _) _ => ckE C a x && (ckO C lo l && ckO C hi h)
  | .lst as, .List es _ => ckA C as es
  | .tup as, .Tuple es _ _ => ckA C as es
  | .dnew, .Dict [] [] _ => true
  | .lc own tg it c e, .ListComp elt [⟨.Name x _, iter, ifs, k⟩] scope _ => decide (k = 0) && (blkC C.N C.sc scope own && (lookS C.N tg x && (locB scope x && (noSet iter && (ckI C it iter && (ckC { C with sc := scope } c ifs && ckE { C with sc := scope } e elt))))))
  | .callE f as, .Call (.Subscript fv fi p) (e :: es) [] _ => ckE C f (.Subscript fv fi p) && ckA C as (e :: es)
  | _, _ => false
def ckA (C : Ct) : RA → List Expr → Bool
  | .nil, [] => true
  | .cons a r, e :: es => noStar e && (ckE C a e && ckA C r es)
  | _, _ => false
def ckO (C : Ct) : RO → Option Expr → Bool
  | .no, none => true
  | .yes a, some e => ckE C a e
  | _, _ => false
def ckT (C : Ct) : RT → Expr → Bool
  | .tru a, e => plainT e && ckE C a e
  | .cmp o a b, .Compare l [op] [r] _ => decide (op = o) && (!behindInMarks op r && (ckE C a l && ckE C b r))
  | .chain o o' a b c, .Compare l [op, op'] [m, r] _ => decide (op = o) && (decide (op' = o') && (!lastMarks [op, op'] [m, r] && (ckE C a l && (ckE C b m && ckE C c r))))
  | .and a b, .BoolOp .And [x, y] _ => ckT C a x && ckT C b y
  | .and a b, .BoolOp .And (x :: y :: z :: r) p => ckT C a x && ckT C b (.BoolOp .And (y :: z :: r) p)
  | .or a b, .BoolOp .Or [x, y] _ => ckT C a x && ckT C b y
  | .or a b, .BoolOp .Or (x :: y :: z :: r) p => ckT C a x && ckT C b (.BoolOp .Or (y :: z :: r) p)
  | .not t, .UnaryOp .Not x _ => ckT C t x
  | _, _ => false
def ckC (C : Ct) : RC → List Expr → Bool
  | .no, [] => true
  | .yes t, [e] => ckT C t e
  | _, _ => false
def ckI (C : Ct) : RI → Expr → Bool
  | .any a, e => ckE C a e
  | .range1 a, .Call (.Name x _) [e] [] _ => decide (x = ("range" : Str)) && (glB C.sc x && (decide (x ∈ C.fr) && (noStar e && ckE C a e)))
  | .range2 a b, .Call (.Name x _) [e, e'] [] _ => decide (x = ("range" : Str)) && (glB C.sc x && (decide (x ∈ C.fr) && (noStar e && (noStar e' && (ckE C a e && ckE C b e')))))
  | _, _ => false
end
end Rf
set_option Elab.async false
set_option autoImplicit false
set_option linter.all false
set_option maxRecDepth 100000
set_option maxHeartbeats 4000000
/-! The built-ins' rules by values. -/
namespace Rf
open PySem PySem.Spec PyProof.Rows L2 C8

theorem startsC (a b : Str) : Txt.startswith a b = decide ((tl a).take (tl b).length = tl b) := by
  by_cases hb : TL.tl b = []
  · have e1 : tl b = [] := hb
    have e2 : b.length = 0 := by rw [len_tl, e1] <;> rfl
    have e3 : b = sOf [] := by rw [← e1, sOf_tl]
    subst e3
    rw [e1]
    have z : Txt.startswith a (sOf []) = true := by
      unfold Txt.startswith
      rw [Bool.and_eq_true]
      refine ⟨by simp [e2], ?_⟩
      unfold Builtin.Str.subAt
      simp [e2]
      rfl
    rw [z]
    simp
  · have h := TL.at_iff (x := a) (y := b) hb 0
    rw [List.drop_zero] at h
    have e : (Txt.startswith a b = true) ↔ StrLaws.At a b a.length 0 := by
      unfold Txt.startswith StrLaws.At
      rw [Bool.and_eq_true, decide_eq_true_iff]
    have p : (TL.pre (TL.tl b) (TL.tl a) = true) ↔ (tl a).take (tl b).length = tl b := by
      show ((TL.tl a).take (TL.tl b).length == TL.tl b) = true ↔ _
      rw [beq_iff_eq]
      exact Iff.rfl
    rw [Bool.eq_iff_iff, decide_eq_true_iff]
    exact e.trans (h.trans p)
theorem joinC_L (S : Cs) : ∀ l : List Cs, TL.joinL S l = joinC S l
  | [] => rfl
  | [_] => rfl
  | a :: b :: r => by
    show a ++ (S ++ TL.joinL S (b :: r)) = a ++ S ++ joinC S (b :: r)
    rw [joinC_L S (b :: r), List.append_assoc]
theorem join_C (a : Str) (ys : List Str) : Txt.join a ys = sOf (joinC (tl a) (ys.map tl)) := by
  apply str_eq.mpr
  rw [TL.join_eq]
  have h := TL.tl_join a ys
  rw [joinC_L] at h
  exact h
theorem strsOf_map : ∀ {xs : List V} {ys : List Cs}, strsOf xs = some ys → xs = (ys.map sOf).map V.str
  | [], ys, h => by cases h; rfl
  | .str b :: r, ys, h => by
    unfold strsOf at h
    obtain ⟨zs, hz, rfl⟩ := Option.map_eq_some_iff.mp h
    rw [strsOf_map hz]
    simp
  | .non :: r, ys, h => by cases h
  | .bl _ :: r, ys, h => by cases h
  | .int _ :: r, ys, h => by cases h
  | .byt _ :: r, ys, h => by cases h
  | .flt _ :: r, ys, h => by cases h
  | .ref _ :: r, ys, h => by cases h
  | .ty _ :: r, ys, h => by cases h
theorem blsOf_map : ∀ {xs : List V} {ys : List Bool}, blsOf xs = some ys → xs = ys.map V.bl
  | [], ys, h => by cases h; rfl
  | .bl b :: r, ys, h => by
    unfold blsOf at h
    obtain ⟨zs, hz, rfl⟩ := Option.map_eq_some_iff.mp h
    rw [blsOf_map hz]
    simp
  | .non :: r, ys, h => by cases h
  | .str _ :: r, ys, h => by cases h
  | .int _ :: r, ys, h => by cases h
  | .byt _ :: r, ys, h => by cases h
  | .flt _ :: r, ys, h => by cases h
  | .ref _ :: r, ys, h => by cases h
  | .ty _ :: r, ys, h => by cases h
theorem at_one {x : Str} {c i : Nat} : StrLaws.At x (sOf [c]) x.length i ↔ (tl x)[i]? = some c := by
  have h := TL.at_iff (x := x) (y := sOf [c]) (by show ([c] : List Nat) ≠ []; simp) i
  refine h.trans ?_
  show (((tl x).drop i).take 1 == [c]) = true ↔ _
  rw [beq_iff_eq, List.take_one, List.head?_drop]
  cases e : (tl x)[i]? with
  | none => simp
  | some d => simp
theorem occ_one (x : Str) (c : Nat) (h : c ∈ tl x) : ∃ r, Builtin.Str.occurrences x (sOf [c]) 0 x.length 1 = (tl x).idxOf c :: r := by
  have hl := List.idxOf_lt_length_of_mem h
  have hg : (tl x)[(tl x).idxOf c]? = some c := by
    rw [List.getElem?_eq_getElem hl]
    simp
  rcases StrLaws.occ_head x (sOf [c]) 1 (Nat.le_refl 1) with ⟨_, hn⟩ | ⟨i, r, e, ha, hn⟩
  · exact absurd (at_one.mpr hg) (hn _)
  · refine ⟨r, ?_⟩
    rw [e]
    congr 1
    have hi := at_one.mp ha
    have h1 : ¬ (tl x).idxOf c < i := fun z => hn _ z (at_one.mpr hg)
    have h2 : ¬ i < (tl x).idxOf c := fun z => by
      have q := List.not_of_lt_findIdx (p := (· == c)) (xs := tl x) z
      have hi2 : i < (tl x).length := (List.getElem?_eq_some_iff.mp hi).1
      have hi3 : (tl x)[i] = c := (List.getElem?_eq_some_iff.mp hi).2
      rw [hi3] at q
      simp at q
    omega

section
variable {X : Cx}
theorem kis {n m : String} {b : Bool} {K : PySem.W.Frag} (h : kitB n m = some b) : PySem.W.kitOne K (.type n) (Value.type m) = some b := kit_ty h
theorem c_len : CallR X (.builtin "len") rLenX := by
  intro pins s σ H xs us Q I r h
  unfold rLenX at h
  split at h
  · rename_i y
    exact call_len pins s σ H _ us Q I r ⟨_, _, rfl, ⟨by rw [len_tl, line_eq]; exact h.1, (len_tl y).symm⟩, h.2⟩
  · rename_i p
    split at h
    · rename_i kvs e
      exact call_lenD pins s σ H _ us Q I r ⟨p, kvs, rfl, e, h⟩
    · split at h
      · rename_i xs e
        exact call_len pins s σ H _ us Q I r ⟨_, _, rfl, (seqH_sq e).imp (fun z => ⟨_, z, rfl⟩) (fun z => ⟨_, z, rfl⟩), h⟩
      · exact h.elim
  · exact h.elim
theorem c_all (hc : X.calm = true) : CallR X (.builtin "all") (rAllX (·.all id)) := by
  intro pins s σ H xs us Q I r h
  unfold rAllX at h
  split at h
  · rename_i p
    split at h
    · rename_i bs e
      obtain ⟨xs, e1, e2⟩ := Option.bind_eq_some_iff.mp e
      exact cr_all hc pins s σ H _ us Q I r ⟨p, bs, rfl, by rw [← blsOf_map e2]; exact lstH_sq e1, h⟩
    · exact h.elim
  · exact h.elim
theorem c_any (hc : X.calm = true) : CallR X (.builtin "any") (rAllX (·.any id)) := by
  intro pins s σ H xs us Q I r h
  unfold rAllX at h
  split at h
  · rename_i p
    split at h
    · rename_i bs e
      obtain ⟨xs, e1, e2⟩ := Option.bind_eq_some_iff.mp e
      exact cr_any hc pins s σ H _ us Q I r ⟨p, bs, rfl, by rw [← blsOf_map e2]; exact lstH_sq e1, h⟩
    · exact h.elim
  · exact h.elim
theorem c_abs : CallR X (.builtin "abs") rAbsX := by
  intro pins s σ H xs us Q I r h
  unfold rAbsX at h
  split at h
  · rename_i i
    exact call_abs pins s σ H _ us Q I r ⟨i, rfl, by
      have e : (if i < 0 then -i else i) = (i.natAbs : Int) := by split <;> omega
      rw [e]; exact h⟩
  · exact h.elim
theorem c_min (hc : X.calm = true) : CallR X (.builtin "min") rMinX := by
  intro pins s σ H xs us Q I r h
  unfold rMinX at h
  split at h
  · rename_i i j
    exact call_min2 hc pins s σ H _ us Q I r ⟨i, j, rfl, by
      have e : (if j < i then j else i) = min i j := by omega
      rw [e]; exact h⟩
  · exact h.elim
theorem c_max (hc : X.calm = true) : CallR X (.builtin "max") rMaxX := by
  intro pins s σ H xs us Q I r h
  unfold rMaxX at h
  split at h
  · rename_i i j
    exact call_max2 hc pins s σ H _ us Q I r ⟨i, j, rfl, by
      have e : (if j > i then j else i) = max i j := by omega
      rw [e]; exact h⟩
  · exact h.elim
theorem c_isi : CallR X (.builtin "isinstance") (rIsiX X.K) := by
  intro pins s σ H xs us Q I r h
  unfold rIsiX at h
  split at h
  · rename_i x c
    obtain ⟨u1, u2, rfl, r1, r2⟩ := vals2 r
    have cl : ∀ {k : Value → Prop}, clK c k → k u2 := fun {k} z => by
      unfold clK at z
      split at z
      · rename_i n
        have e : u2 = Value.type n := r2
        rw [e]; exact z
      · rename_i C
        have e : u2 = Value.ref C := r2
        rw [e]; exact z
      · exact z.elim
    have go : ∀ (t : Value), TyX X.K H x t → (clK c fun u => ∃ b, PySem.W.kitOne X.K t u = some b ∧ Q (.bl b) H) → wpAny (model X.prog X.w) X.A (PySem.call (.builtin "isinstance") [u1, u2]) (EP X pins σ Q) X.xe s := fun t ty hb => by
      obtain ⟨b, hk, q⟩ := cl hb
      obtain ⟨P, Z, p, hx⟩ := kit_of I r1 ty
      exact PySem.W.kia_one Z I.kIn p hk hx fun tk => ⟨.bl b, H, I.tok tk, rfl, q⟩
    unfold tyK at h
    split at h
    · exact go _ (.base .non) h
    · exact go _ (.base (.bl _)) h
    · exact go _ (.base (.int _)) h
    · exact go _ (.base (.str _)) h
    · rename_i p
      split at h
      · rename_i e; exact go _ (.base (.lst e)) h
      · rename_i e; exact go _ (.base (.tup e)) h
      · rename_i e; exact go _ (.base (.dK e)) h
      · rename_i e; exact go _ (.base (.dT e)) h
      · rename_i e; exact go _ (.base (.frz e)) h
      · rename_i e
        obtain ⟨c1, h⟩ := h
        exact go _ (.base (.ins e c1.cl c1.ha c1.hn c1.htk c1.hm)) h
      · rename_i φ e
        obtain ⟨D, d, ep, EC, hd, hk⟩ := h
        obtain ⟨b, hk, q⟩ := cl hk
        obtain ⟨q1, _, _⟩ := (show ObjOk X.prog X.w H s.heap p (.ext φ) from I.hok p _ e)
        rw [ep] at q1
        obtain ⟨oe, vs, g1, g2, g3⟩ := q1
        cases r1
        have hc : (PySem.W.clsIn X.K D).isSome = true := by
          obtain ⟨cd, hcd, _⟩ := PySem.W.any_some EC.hd
          rw [hcd]
          rfl
        have J : ∃ od, PySem.W.InstAt s.heap p oe D od := by
          obtain ⟨oc, odd, oda, osl⟩ := oe
          obtain ⟨z1, z2⟩ := g2
          dsimp only at z1 z2 g3
          subst z1 z2 g3
          cases odd with
          | none => exact ⟨none, g1, rfl, rfl, trivial⟩
          | some dx =>
            obtain ⟨fs, hx⟩ := hd
            obtain ⟨ob, ho⟩ := objOk_get (I.hok dx _ hx)
            exact ⟨some ob, g1, rfl, rfl, ho⟩
        obtain ⟨od, J⟩ := J
        exact PySem.W.kia_one (PySem.W.kitx_exc hc EC.hg EC.hk EC.hs EC.ha EC.hn EC.ht EC.hm) I.kIn J hk (fun z => nomatch z) fun tk => ⟨.bl b, H, I.tok tk, rfl, q⟩
      · exact h.elim
    · exact h.elim
  · exact h.elim
theorem c_int : CallR X (.type "int") rIntX := by
  intro pins s σ H xs us Q I r h
  unfold rIntX at h
  split at h
  · exact call_int1 pins s σ H _ us Q I r (.inl ⟨_, rfl, h⟩)
  · exact call_int1 pins s σ H _ us Q I r (.inr ⟨_, rfl, h⟩)
  · rename_i a
    obtain ⟨n, h1, h2, h3⟩ := h
    exact call_int_str pins s σ H _ us Q I r ⟨a, n, rfl, h1, by rw [len_tl]; exact h2, h3⟩
  · exact h.elim
theorem c_str : CallR X (.type "str") rStrX := by
  intro pins s σ H xs us Q I r h
  unfold rStrX at h
  split at h
  · exact call_str_int pins s σ H _ us Q I r ⟨_, rfl, h.1, h.2⟩
  · exact h.elim
theorem m_join : MtR X "str.join" rJoinX := by
  intro pins s σ H x xs v us Q I rx rs h
  unfold rJoinX at h
  split at h
  · rename_i a p
    split at h
    · rename_i ys e
      obtain ⟨zs, e1, e2⟩ := Option.bind_eq_some_iff.mp e
      have e3 := strsOf_map e2
      have m1 : (ys.map sOf).map tl = ys := by
        rw [List.map_map]
        show ys.map (fun y => tl (sOf y)) = ys
        simp
      refine mt_join pins s σ H _ _ v us Q I rx rs ⟨a, p, ys.map sOf, rfl, rfl, by rw [← e3]; exact seqH_sq e1, ?_, ?_⟩
      · rw [List.map_map, List.length_map, len_tl]
        have e4 : ys.map ((fun x => x.length) ∘ sOf) = ys.map List.length := by
          apply List.map_congr_left
          intro y _
          exact sOf_len y
        rw [e4]
        exact h.1
      · rw [join_C, m1]
        exact h.2
    · exact h.elim
  · exact h.elim
theorem m_start : MtR X "str.startswith" rStartX := by
  intro pins s σ H x xs v us Q I rx rs h
  unfold rStartX at h
  split at h
  · exact mt_startswith pins s σ H _ _ v us Q I rx rs ⟨_, _, rfl, rfl, by rw [startsC]; exact h⟩
  · exact h.elim
theorem m_index : MtR X "str.index" rIndexSX := by
  intro pins s σ H x xs v us Q I rx rs h
  unfold rIndexSX at h
  split at h
  · rename_i a b
    split at h
    · rename_i c e
      obtain ⟨t, rfl⟩ := rx
      obtain ⟨u, rfl, ru⟩ := vals1 rs
      obtain ⟨t2, rfl⟩ := ru
      obtain ⟨r, ho⟩ := occ_one a c h.1
      have eb : b = sOf [c] := by rw [← e, sOf_tl]
      subst eb
      exact PySem.SC.index ho ⟨.int _, H, I.tok _, ⟨_, rfl⟩, h.2⟩
    · exact h.elim
  · exact h.elim
theorem m_append : MtR X "list.append" rAppX := by
  intro pins s σ H x xs v us Q I rx rs h
  unfold rAppX at h
  split at h
  · rename_i l y
    split at h
    · rename_i zs e
      exact mt_append pins s σ H _ _ v us Q I rx rs ⟨l, zs, y, rfl, rfl, e, by rw [line_eq]; exact h.1, h.2⟩
    · exact h.elim
  · exact h.elim
theorem m_extend : MtR X "list.extend" rExtX := by
  intro pins s σ H x xs v us Q I rx rs h
  unfold rExtX at h
  split at h
  · rename_i l b
    split at h
    · rename_i zs ws e1 e2
      exact mt_extend pins s σ H _ _ v us Q I rx rs ⟨l, b, zs, ws, rfl, rfl, e1, e2, by rw [line_eq]; exact h.1, h.2⟩
    · exact h.elim
  · exact h.elim
end
end Rf
set_option Elab.async false
set_option autoImplicit false
set_option linter.all false
set_option maxRecDepth 100000
set_option maxHeartbeats 4000000
/-! Soundness of the readings of expressions. -/
namespace Rf
open PySem PySem.Spec PyProof.Rows L2

/-! ### small facts of the text -/
theorem and2 {a b : Bool} (h : (a && b) = true) : a = true ∧ b = true := Bool.and_eq_true_iff.mp h
theorem star_cons {e : Expr} {es : List Expr} (env : Env) (h : noStar e = true) : starEach (e :: es) env = (false, eval e env) :: starEach es env := by
  cases e <;> first | rfl | cases h
theorem ix_plain {b : Expr} (h : noSlice b = true) : PlainIx b := by
  intro o i
  cases b with
  | Slice l u st p => cases st <;> first | rfl | cases h
  | _ => rfl
theorem base_plain {o : Expr} {x : Str} {env : Env} {w : Sem Value} (h : noSuper o = true) : attributeBase o x env w = w := by
  cases o with
  | Call f as ks p =>
    cases f with
    | Name y q =>
      cases as with
      | nil => cases ks <;> first | rfl | cases h
      | cons _ _ => rfl
    | _ => rfl
  | _ => rfl
theorem tru_plain {e : Expr} (env : Env) (h : plainT e = true) : ∀ whole, isTrue e env whole = (do let v ← whole; standAt e.pos; holding [v] (truthy v)) := by
  intro w
  cases e with
  | UnaryOp op x p => cases op <;> first | rfl | cases h
  | BoolOp _ _ _ => cases h
  | IfExp _ _ _ _ => cases h
  | Compare _ _ _ _ => cases h
  | _ => rfl
theorem fold_plain {e : Expr} {env : Env} (h : noSet e = true) : ∀ x, foldedSetIterable e env x = pure x := by
  intro x
  cases e <;> first | rfl | cases h
theorem lookS_ok {l : List Str} {i : Nat} {x : Str} (h : lookS l i x = true) : l[i]? = some x := of_decide_eq_true h
theorem noDb_ok {x : Str} (h : noDb x = true) : (x == ("__debug__" : Str)) = false ∧ (x == ("__classdict__" : Str)) = false ∧ x ≠ "__name__" := by
  unfold noDb at h
  rw [Bool.and_eq_true, Bool.and_eq_true] at h
  obtain ⟨⟨h1, h2⟩, h3⟩ := h
  exact ⟨by simpa using h1, by simpa using h2, of_decide_eq_false (by simpa using h3)⟩

/-! ### the context is as the static and dynamic sides say -/
structure XOk (X : Cx) (C : Ct) (D : Dn) : Prop where
  N : X.N = C.N
  nd : C.N.Nodup
  vis : ∀ x, visB C.sc x = true → Vis X.env.scope x
  gl : ∀ x, glB C.sc x = true → Gl X x
  loc : ∀ x, locB C.sc x = true → Loc X.env.scope x ∧ (X.fn x = true ∨ X.env.scope.names.lookup x = some .local)
  scp : ∀ scope own, blkC C.N C.sc scope own = true → BlkOk X.N X.env.scope scope own
  K : X.K = D.K
  calm : X.calm = true
  tk : Takes X D.W
  rm : Room 0 X.A
  fn : ∀ (i : Nat) (x : Str), C.fns[i]? = some x → ∃ (s : Sp) (f : Addr) (fd : FuncData) (ps : List Str) (k : Nat), D.sp[i]? = some s ∧ D.fa[i]? = some f ∧ X.mg x = some (.ref f) ∧ PySem.W.keepIn X.K (.ref f) = true ∧ FnOk X.prog X.w X.K X.mg X.base (L2.CX X.prog X.w) k f fd ps s ∧ Room k X.A ∧ Binds X.K fd ps []
  fl : D.sp.length = C.fns.length ∧ D.fa.length = C.fns.length
  gs : ∀ (i : Nat) (x : Str), C.gs[i]? = some x → ∃ (v : V) (u : Value), D.gv[i]? = some v ∧ X.mg x = some u ∧ RelV v u
  fr : ∀ x, x ∈ C.fr → X.mg x = none

theorem look_rel {sc : Scope} {env : Env} {x : Str} {k : NameKind} (hk : k ≠ .free) (h : sc.names.lookup x = some k) : (relabel sc env).names.lookup x = some k :=
  lookup_relS_keep (sc := env.scope) hk h
theorem look_free {env : Env} : ∀ {names : List (Str × NameKind)} {x : Str}, names.lookup x = some .free →
    (names.map fun (n, k) => if (k == NameKind.free && env.scope.kind == .function && env.kindOf n == some .cell) then (n, NameKind.cell) else (n, k)).lookup x = some .free ∨
    (names.map fun (n, k) => if (k == NameKind.free && env.scope.kind == .function && env.kindOf n == some .cell) then (n, NameKind.cell) else (n, k)).lookup x = some .cell
  | (n, k) :: r, x, h => by
    have ih := @look_free env r x
    rw [List.map_cons]
    cases hx : x == n with
    | true =>
      rw [List.lookup_cons, hx] at h
      cases h
      by_cases hc : (NameKind.free == NameKind.free && env.scope.kind == .function && env.kindOf n == some .cell) = true
      · right
        show List.lookup x ((if (NameKind.free == NameKind.free && env.scope.kind == .function && env.kindOf n == some .cell) = true then (n, NameKind.cell) else (n, NameKind.free)) :: _) = _
        rw [if_pos hc, List.lookup_cons, hx]
      · left
        show List.lookup x ((if (NameKind.free == NameKind.free && env.scope.kind == .function && env.kindOf n == some .cell) = true then (n, NameKind.cell) else (n, NameKind.free)) :: _) = _
        rw [if_neg hc, List.lookup_cons, hx]
    | false =>
      rw [List.lookup_cons, hx] at h
      have e : ∀ b : Bool, List.lookup x ((if b = true then (n, NameKind.cell) else (n, k)) :: (r.map fun (n, k) => if (k == NameKind.free && env.scope.kind == .function && env.kindOf n == some .cell) then (n, NameKind.cell) else (n, k))) =
          (r.map fun (n, k) => if (k == NameKind.free && env.scope.kind == .function && env.kindOf n == some .cell) then (n, NameKind.cell) else (n, k)).lookup x := by
        intro b
        cases b with
        | true => rw [if_pos rfl, List.lookup_cons, hx]
        | false => rw [if_neg Bool.false_ne_true, List.lookup_cons, hx]
      have e2 := e (k == NameKind.free && env.scope.kind == .function && env.kindOf n == some .cell)
      rw [e2]
      exact ih h
theorem XOk.blk {X : Cx} {C : Ct} {D : Dn} (h : XOk X C D) (scope : Scope) (s : Shared) (H : Hp) (a : Addr) (cl : List (Str × Addr)) (fp : List Addr) :
    XOk (X.blk s H scope (compEnvC scope cl a X.env) fp) { C with sc := scope } (blkD D) where
  N := h.N
  nd := h.nd
  vis := fun x hx => by
    show Vis (relabel scope X.env) x
    unfold visB at hx
    split at hx
    · rename_i e; exact .inl (look_rel (by decide) e)
    · rename_i e; exact .inr (.inl (look_rel (by decide) e))
    · rename_i e
      rcases look_free (env := X.env) e with z | z
      · exact .inr (.inr z)
      · exact .inr (.inl z)
    · cases hx
  gl := fun x hx => by
    show (relabel scope X.env).names.lookup x = some .globalImplicit
    unfold glB at hx
    split at hx
    · rename_i e; exact look_rel (by decide) e
    · cases hx
  loc := fun x hx => by
    unfold locB at hx
    split at hx
    · rename_i e; exact ⟨.inl (look_rel (by decide) e), .inr (look_rel (by decide) e)⟩
    · rename_i e; exact ⟨.inr (look_rel (by decide) e), .inl (by show (scope.names.lookup x == some .cell) = true; rw [e] <;> rfl)⟩
    · cases hx
  scp := fun sc own hb => by
    obtain ⟨b1, b2, b3, b4, b5⟩ := blkOk_by hb
    have eN : X.N = C.N := h.N
    refine ⟨b1, b2, by rw [show (X.blk s H scope (compEnvC scope cl a X.env) fp).N = C.N from eN]; exact b3, fun y hy e => ?_, by rw [show (X.blk s H scope (compEnvC scope cl a X.env) fp).N = C.N from eN]; exact b5⟩
    show (relabel scope X.env).names.lookup y.1 = some .cell ∨ (relabel scope X.env).names.lookup y.1 = some .free
    rcases b4 y hy e with z | z
    · exact .inl (look_rel (by decide) z)
    · exact (look_free (env := X.env) z).symm
  K := h.K
  calm := h.calm
  tk := takes0
  rm := h.rm
  fn := h.fn
  fl := h.fl
  gs := h.gs
  fr := h.fr

section
variable {X : Cx} {C : Ct} {D : Dn}
theorem pe_mono {e : Expr} {t t' : TE} (h : PE X e t) (hi : ∀ σ H Q, t' σ H Q → t σ H Q) : PE X e t' := ⟨fun pins s σ H Q I q => h.run pins s σ H Q I (hi σ H Q q)⟩
theorem pt_mono {e : Expr} {t t' : TT} (h : PT X e t) (hi : ∀ σ H Q, t' σ H Q → t σ H Q) : PT X e t' := ⟨fun pins s σ H Q I q => h.run pins s σ H Q I (hi σ H Q q)⟩
theorem rVar_var {i : Nat} {σ : L2.St} {H : Hp} {Q : VK} (h : rVar i σ H Q) : tVar i σ H Q := by
  unfold rVar at h
  split at h
  · rename_i v e; exact ⟨v, e, h⟩
  · exact h.elim
theorem c_blt (h : XOk X C D) (f : BF) : CallR X (.builtin f.id) (rBF D.K f) := by
  have hK := h.K
  cases f with
  | len => exact c_len
  | all => exact c_all h.calm
  | any => exact c_any h.calm
  | abs => exact c_abs
  | isi => rw [← hK]; exact c_isi
  | min2 => exact c_min h.calm
  | max2 => exact c_max h.calm
theorem b_blt (f : BF) : bootBuiltins f.name = some (.builtin f.id) := by cases f <;> decide +kernel
theorem c_typ (f : TF) : CallR X (.type f.id) (rTF f) := by
  cases f with
  | int => exact c_int
  | str => exact c_str
theorem b_typ (f : TF) : bootBuiltins f.name = some (.type f.id) := by cases f <;> decide +kernel
theorem truX : TruR X (trX X.K) := by
  intro pins s σ H x v Q I rx h
  unfold trX at h
  split at h
  · exact tru_ok pins s σ H _ v Q I rx ⟨_, rfl, h⟩
  · exact tru_ok pins s σ H _ v Q I rx ⟨_, rfl, h⟩
  · exact tru_ok pins s σ H _ v Q I rx ⟨_, rfl, h⟩
  · rename_i y
    refine tru_ok pins s σ H _ v Q I rx ⟨!(tl y).isEmpty, ⟨by rw [len_tl, line_eq]; exact h.1, ?_⟩, h.2⟩
    rw [len_tl]
    cases tl y with
    | nil => rfl
    | cons a r => simp; omega
  · rename_i p
    split at h
    · rename_i kvs e
      exact tru_ok pins s σ H _ v Q I rx ⟨_, .inr (.inr ⟨kvs, e, rfl⟩), h⟩
    · split at h
      · rename_i xs e
        rcases seqH_sq (K := X.K) e with z | z
        · exact tru_ok pins s σ H _ v Q I rx ⟨_, .inl ⟨xs, z, rfl⟩, h⟩
        · exact tru_ok pins s σ H _ v Q I rx ⟨_, .inr (.inl ⟨xs, z, rfl⟩), h⟩
      · exact h.elim
  · exact h.elim
theorem pt_tru {e : Expr} {te : TE} (he : PE X e te) (hp : plainT e = true) : PT X e (fun σ H Q => te σ H fun x H1 => trX X.K x H1 Q) := by
  refine ⟨fun pins s σ H Q I h => ?_⟩
  exact isTrue_plain (thn (he.run pins s σ H _ I h) fun v s1 ⟨x, H1, I1, r1, q1⟩ => truX pins s1 σ H1 x v Q I1 r1 q1) (tru_plain X.env hp _)
theorem pi_any {tg e : Expr} {te : TE} (he : PE X e te) : PI X tg e (iAny X.K te) := by
  refine ⟨fun pins s σ H R I h => ?_⟩
  refine thn (he.run pins s σ H _ I h) fun v s1 ⟨x, H1, I1, r1, q1⟩ => ?_
  dsimp only at q1
  split at q1
  · rename_i y
    obtain ⟨t, rfl⟩ := r1
    cases ha : y.cps.all (· < 128) with
    | false => exact wpAny_pyIter_wide ha (pi_one (tk := s1.toks) I1 _ (turn_str _ y t "str_iterator" (.inr rfl)) ⟨_, Heap.get?_push_size _ rfl, rfl, rfl⟩ q1)
    | true => exact wpAny_pyIter_ascii ha (pi_one (tk := s1.toks) I1 _ (turn_str _ y t "str_ascii_iterator" (.inl rfl)) ⟨_, Heap.get?_push_size _ rfl, rfl, rfl⟩ q1)
  · rename_i a
    cases r1
    have lst : ∀ {xs : List V}, SqL X.K H1 a xs → R (Itl X.K a) H1 → wpAny (model X.prog X.w) X.A (pyIter (.ref a)) (PIE X pins σ tg R) X.xe s1 := fun hq q => by
      obtain ⟨its, rv, p, hz⟩ := I1.list hq
      exact wpAny_pyIter_list p.isList (pi_one (tk := s1.toks) I1 _ (turn_list a _) ⟨_, Heap.get?_push_size _ rfl, rfl, rfl⟩ q)
    split at q1
    · rename_i xs e; exact lst (SqL.of e) q1
    · rename_i o xs e; exact lst (.inl (.inr ⟨o, e⟩)) q1
    · rename_i o kvs hd
      obtain ⟨hs, hgd, hx, es, ep, vs, hdt, hsz, kv, hm⟩ := I1.frzK hd
      refine iter_keys hs hgd hx hdt (pi_one (tk := s1.toks) I1 _ (turn_keys _ hdt) ⟨_, Heap.get?_push_size _ rfl, rfl, ?_⟩ q1)
      rw [hsz] <;> rfl
    · rename_i o kvs hd
      obtain ⟨hs, hgd, hx, es, ep, hdt, hsz, ent⟩ := I1.frzT hd
      refine iter_keys hs hgd hx hdt (pi_one (tk := s1.toks) I1 _ (turn_keysT _ hdt) ⟨_, Heap.get?_push_size _ rfl, rfl, ?_⟩ q1)
      rw [hsz] <;> rfl
    · obtain ⟨xs, hq, q⟩ := q1
      obtain ⟨its, rv, p, hz⟩ := I1.tuple hq
      exact wpAny_pyIter_tuple (show s1.heap.IsTuple a its.toArray from p) (pi_one (tk := s1.toks) I1 _ (turn_tuple a _) ⟨_, Heap.get?_push_size _ rfl, rfl, rfl⟩ q)
  · exact q1.elim
theorem bm_facts (m : BM) : ∃ id, PlainAttrs m.ty ∧ Slot m.ty m.name id ∧ typeOf (.builtin id) = pure (.type "method_descriptor") ∧ ∀ X : Cx, MtR X id (rBM m) := by
  cases m with
  | append => exact ⟨_, PySem.F.plainAttrs_list, PySem.F.slot_list_append, PySem.F.type_list_append, fun X => m_append⟩
  | extend => exact ⟨_, PySem.F.plainAttrs_list, PySem.F.slot_list_extend, PySem.F.type_list_extend, fun X => m_extend⟩
  | join => exact ⟨_, PySem.F.plainAttrs_str, PySem.F.slot_str_join, PySem.F.type_str_join, fun X => m_join⟩
  | startswith => exact ⟨_, PySem.F.plainAttrs_str, PySem.F.slot_str_startswith, PySem.F.type_str_startswith, fun X => m_start⟩
  | index => exact ⟨_, PySem.F.plainAttrs_str, PySem.F.slot_str_index, PySem.F.type_str_index, fun X => m_index⟩
theorem bt_star (pos : Pos) (env : Env) : ∀ {as : RA} {es : List Expr}, ckA C as es = true → (backTo pos (starEach es env)).any (·.1) = false ∧ (backTo pos (starEach es env)).all (fun x => !x.1) = true
  | .nil, [], _ => ⟨rfl, rfl⟩
  | .cons a r, e :: es, h => by
    unfold ckA at h
    obtain ⟨h1, h2⟩ := and2 h
    obtain ⟨h3, h4⟩ := and2 h2
    obtain ⟨i1, i2⟩ := bt_star pos env h4
    rw [star_cons env h1]
    unfold backTo at i1 i2 ⊢
    rw [List.map_cons, List.any_cons, List.all_cons, i1, i2]
    exact ⟨rfl, rfl⟩
  | .nil, _ :: _, h => by unfold ckA at h; cases h
  | .cons _ _, [], h => by unfold ckA at h; cases h
theorem star_ca (env : Env) {as : RA} {e : Expr} {es : List Expr} (h : ckA C as (e :: es) = true) : starEach (e :: es) env = (false, eval e env) :: starEach es env := by
  cases as with
  | nil => unfold ckA at h; cases h
  | cons a r =>
    unfold ckA at h
    exact star_cons env (and2 h).1
theorem rest_ca {as : RA} {e : Expr} {es : List Expr} (h : ckA C as (e :: es) = true) : ∃ r, ckA C r es = true := by
  cases as with
  | nil => unfold ckA at h; cases h
  | cons a r =>
    unfold ckA at h
    exact ⟨r, (and2 (and2 h).2).2⟩
end
end Rf
set_option Elab.async false
set_option autoImplicit false
set_option linter.all false
set_option maxRecDepth 100000
set_option maxHeartbeats 4000000
namespace Rf
open PySem PySem.Spec PyProof.Rows L2
theorem no {p : Prop} (h : false = true) : p := absurd h Bool.false_ne_true
theorem sp_of {X : Cx} {C : Ct} {D : Dn} (o : XOk X C D) {i : Nat} {x : Str} (h : C.fns[i]? = some x) : ∃ (f : Addr) (fd : FuncData) (ps : List Str) (k : Nat), D.fa[i]? = some f ∧ X.mg x = some (.ref f) ∧ PySem.W.keepIn X.K (.ref f) = true ∧
    FnOk X.prog X.w X.K X.mg X.base (L2.CX X.prog X.w) k f fd ps (spAt D i) ∧ Room k X.A ∧ Binds X.K fd ps [] := by
  obtain ⟨s, f, fd, ps, k, h1, h2, h3, h4, h5, h6, h7⟩ := o.fn i x h
  refine ⟨f, fd, ps, k, h2, h3, h4, ?_, h6, h7⟩
  have e : spAt D i = s := by unfold spAt; rw [h1] <;> rfl
  rw [e]
  exact h5
mutual
theorem soundE : ∀ (r : RE) {e : Expr} {X : Cx} {C : Ct} {D : Dn}, XOk X C D → ckE C r e = true → PE X e (wpE D r)
  | .var i, e, X, C, D, o, h => by
    cases e with
    | Name x p =>
      have h : (lookS C.N i x && (visB C.sc x && noDb x)) = true := h
      obtain ⟨h1, h2⟩ := and2 h
      obtain ⟨h2, h3⟩ := and2 h2
      obtain ⟨d1, d2, _⟩ := noDb_ok h3
      exact pe_mono (pe_var (by rw [o.N]; exact lookS_ok h1) (o.vis x h2) d1 d2) fun _ _ _ => rVar_var
    | _ => exact no h
  | .int i, e, X, C, D, o, h => by
    cases e with
    | Constant c k p =>
      cases c with
      | int j =>
        have e : i = j := of_decide_eq_true h
        subst e
        exact pe_int
      | _ => exact no h
    | _ => exact no h
  | .bl i, e, X, C, D, o, h => by
    cases e with
    | Constant c k p =>
      cases c with
      | bool j =>
        have e : i = j := of_decide_eq_true h
        subst e
        exact pe_bl
      | _ => exact no h
    | _ => exact no h
  | .non, e, X, C, D, o, h => by
    cases e with
    | Constant c k p =>
      cases c with
      | none => exact pe_non
      | _ => exact no h
    | _ => exact no h
  | .str i, e, X, C, D, o, h => by
    cases e with
    | Constant c k p =>
      cases c with
      | str j =>
        have e : i = j := of_decide_eq_true h
        subst e
        exact pe_str
      | _ => exact no h
    | _ => exact no h
  | .gc i, e, X, C, D, o, h => by
    cases e with
    | Name x p =>
      have h : (lookS C.gs i x && (glB C.sc x && noDb x)) = true := h
      obtain ⟨h1, h2⟩ := and2 h
      obtain ⟨h2, h3⟩ := and2 h2
      obtain ⟨d1, d2, _⟩ := noDb_ok h3
      obtain ⟨v, u, g1, g2, g3⟩ := o.gs i x (lookS_ok h1)
      refine pe_mono (pe_glob (o.gl x h2) g2 g3 d1) fun σ H Q q => ?_
      have q : gvAt D i σ H Q := q
      unfold gvAt at q
      rw [g1] at q
      exact q
    | _ => exact no h
  | .gf i, e, X, C, D, o, h => by
    cases e with
    | Name x p =>
      have h : (lookS C.fns i x && (glB C.sc x && noDb x)) = true := h
      obtain ⟨h1, h2⟩ := and2 h
      obtain ⟨h2, h3⟩ := and2 h2
      obtain ⟨d1, d2, _⟩ := noDb_ok h3
      obtain ⟨f, fd, ps, k, g1, g2, _⟩ := sp_of o (lookS_ok h1)
      refine pe_mono (pe_glob (v := .ref f) (o.gl x h2) g2 rfl d1) fun σ H Q q => ?_
      have q : faAt D i σ H Q := q
      unfold faAt at q
      rw [g1] at q
      exact q
    | _ => exact no h
  | .ty n, e, X, C, D, o, h => by
    cases e with
    | Name x p =>
      have h : (decide (x = Str.ofString n) && (glB C.sc x && (noDb x && (decide (x ∈ C.fr) && decide (bootBuiltins x = some (.type n)))))) = true := h
      obtain ⟨_, h2⟩ := and2 h
      obtain ⟨h2, h3⟩ := and2 h2
      obtain ⟨h3, h4⟩ := and2 h3
      obtain ⟨h4, h5⟩ := and2 h4
      obtain ⟨d1, d2, d3⟩ := noDb_ok h3
      exact pe_bltn (v := .ty n) (o.gl x h2) (o.fr x (of_decide_eq_true h4)) (of_decide_eq_true h5) rfl d3 d1
    | _ => exact no h
  | .bin op a b, e, X, C, D, o, h => by
    cases e with
    | BinOp l op' r p =>
      have h : (decide (op' = op) && (ckE C a l && ckE C b r)) = true := h
      obtain ⟨h1, h2⟩ := and2 h
      obtain ⟨h2, h3⟩ := and2 h2
      have e : op' = op := of_decide_eq_true h1
      subst e
      exact pe_op (op_bin op') (soundE a o h2) (soundE b o h3)
    | _ => exact no h
  | .neg a, e, X, C, D, o, h => by
    cases e with
    | UnaryOp op x p =>
      have h : (decide (op = .USub) && ckE C a x) = true := h
      obtain ⟨h1, h2⟩ := and2 h
      have e : op = .USub := of_decide_eq_true h1
      subst e
      exact pe_un un_negX (soundE a o h2)
    | _ => exact no h
  | .cmp op a b, e, X, C, D, o, h => by
    cases e with
    | Compare l ops rs p =>
      cases ops with
      | nil => exact no h
      | cons op' ops =>
        cases ops with
        | cons _ _ => exact no h
        | nil =>
          cases rs with
          | nil => exact no h
          | cons r rs =>
            cases rs with
            | cons _ _ => exact no h
            | nil =>
              have h : (decide (op' = op) && (!behindInMarks op' r && (ckE C a l && ckE C b r))) = true := h
              obtain ⟨h1, h2⟩ := and2 h
              obtain ⟨h2, h3⟩ := and2 h2
              obtain ⟨h3, h4⟩ := and2 h3
              have e : op' = op := of_decide_eq_true h1
              subst e
              have hu := o.rm.units
              have z := op_cmp (X := X) hu op'
              rw [o.K] at z
              exact pe_cmpR z (soundE a o h3) (soundE b o h4) (by simpa using h2)
    | _ => exact no h
  | .chain op op2 a b c, e, X, C, D, o, h => by
    cases e with
    | Compare l ops rs p =>
      match ops, rs, h with
      | [o1, o2], [m, r], h =>
        have h : (decide (o1 = op) && (decide (o2 = op2) && (!lastMarks [o1, o2] [m, r] && (ckE C a l && (ckE C b m && ckE C c r))))) = true := h
        obtain ⟨h1, h2⟩ := and2 h
        obtain ⟨h2, h3⟩ := and2 h2
        obtain ⟨h3, h4⟩ := and2 h3
        obtain ⟨h4, h5⟩ := and2 h4
        obtain ⟨h5, h6⟩ := and2 h5
        have e : o1 = op := of_decide_eq_true h1
        have e2 : o2 = op2 := of_decide_eq_true h2
        subst e e2
        have hu := o.rm.units
        have z1 := op_cmp (X := X) hu o1
        have z2 := op_cmp (X := X) hu o2
        rw [o.K] at z1 z2
        exact pe_chain z1 z2 (soundE a o h4) (soundE b o h5) (soundE c o h6) (by simpa using h3)
      | [], _, h => exact no h
      | [_], _, h => exact no h
      | _ :: _ :: _ :: _, _, h => exact no h
      | [_, _], [], h => exact no h
      | [_, _], [_], h => exact no h
      | [_, _], _ :: _ :: _ :: _, h => exact no h
    | _ => exact no h
  | .andV a b, e, X, C, D, o, h => by
    cases e with
    | BoolOp op vs p =>
      cases op with
      | Or => exact no h
      | And =>
        match vs, h with
        | [x, y], h =>
          obtain ⟨h1, h2⟩ := and2 (show (ckE C a x && ckE C b y) = true from h)
          exact pe_and (soundE a o h1) (pe_one (soundE b o h2))
        | x :: y :: z :: r, h =>
          obtain ⟨h1, h2⟩ := and2 (show (ckE C a x && ckE C b (.BoolOp .And (y :: z :: r) p)) = true from h)
          exact pe_and (soundE a o h1) (soundE b o h2)
        | [], h => exact no h
        | [_], h => exact no h
    | _ => exact no h
  | .orV a b, e, X, C, D, o, h => by
    cases e with
    | BoolOp op vs p =>
      cases op with
      | And => exact no h
      | Or =>
        match vs, h with
        | [x, y], h =>
          obtain ⟨h1, h2⟩ := and2 (show (ckE C a x && ckE C b y) = true from h)
          exact pe_or (soundE a o h1) (pe_one (soundE b o h2))
        | x :: y :: z :: r, h =>
          obtain ⟨h1, h2⟩ := and2 (show (ckE C a x && ckE C b (.BoolOp .Or (y :: z :: r) p)) = true from h)
          exact pe_or (soundE a o h1) (soundE b o h2)
        | [], h => exact no h
        | [_], h => exact no h
    | _ => exact no h
  | .notV a, e, X, C, D, o, h => by
    cases e with
    | UnaryOp op x p =>
      cases op with
      | Not =>
        have he := soundE a o (show ckE C a x = true from h)
        refine ⟨fun pins s σ H Q I q => ?_⟩
        refine UnaryOp_ (thn (he.run pins s σ H _ I q) fun v s1 ⟨y, H1, I1, r1, q1⟩ => not_of ?_)
        rw [← o.K] at q1
        refine thn (truX pins s1 σ H1 y v _ I1 r1 q1) fun k s2 ⟨H2, I2, q2⟩ => ⟨.bl (!k), H2, I2, rfl, q2⟩
      | _ => exact no h
    | _ => exact no h
  | .ifE t a b, e, X, C, D, o, h => by
    cases e with
    | IfExp c x y p =>
      obtain ⟨h1, h2⟩ := and2 (show (ckT C t c && (ckE C a x && ckE C b y)) = true from h)
      obtain ⟨h2, h3⟩ := and2 h2
      exact pe_ifExp (soundT t o h1) (soundE a o h2) (soundE b o h3)
    | _ => exact no h
  | .call i as, e, X, C, D, o, h => by
    cases e with
    | Call f es ks p =>
      cases f with
      | Name x q =>
        match es, ks, h with
        | e :: es, [], h =>
          obtain ⟨h1, h2⟩ := and2 (show (lookS C.fns i x && (glB C.sc x && (noDb x && ckA C as (e :: es)))) = true from h)
          obtain ⟨h2, h3⟩ := and2 h2
          obtain ⟨h3, h4⟩ := and2 h3
          obtain ⟨d1, d2, d3⟩ := noDb_ok h3
          obtain ⟨f, fd, ps, k, g1, g2, g3, g4, g5, g6⟩ := sp_of o (lookS_ok h1)
          obtain ⟨r, hr⟩ := rest_ca h4
          exact pe_callS g4 g5 (o.gl x h2) g2 g3 g6 (fun σ => passAt o.tk σ) (soundA as o h4) d1 (star_ca X.env h4) (bt_star p X.env hr).1
        | [], _, h => exact no h
        | _ :: _, _ :: _, h => exact no h
      | _ => exact no h
    | _ => exact no h
  | .cb f as, e, X, C, D, o, h => by
    cases e with
    | Call g es ks p =>
      cases g with
      | Name x q =>
        match es, ks, h with
        | e :: es, [], h =>
          obtain ⟨h1, h2⟩ := and2 (show (decide (x = f.name) && (glB C.sc x && (noDb x && (decide (x ∈ C.fr) && ckA C as (e :: es))))) = true from h)
          obtain ⟨h2, h3⟩ := and2 h2
          obtain ⟨h3, h4⟩ := and2 h3
          obtain ⟨h4, h5⟩ := and2 h4
          obtain ⟨d1, d2, d3⟩ := noDb_ok h3
          have ex : x = f.name := of_decide_eq_true h1
          obtain ⟨r, hr⟩ := rest_ca h5
          exact pe_callB (c_blt o f) (o.gl x h2) (o.fr x (of_decide_eq_true h4)) (by rw [ex]; exact b_blt f) (soundA as o h5) d3 d1 (star_ca X.env h5) (bt_star p X.env hr).1
        | [], _, h => exact no h
        | _ :: _, _ :: _, h => exact no h
      | _ => exact no h
    | _ => exact no h
  | .ct f as, e, X, C, D, o, h => by
    cases e with
    | Call g es ks p =>
      cases g with
      | Name x q =>
        match es, ks, h with
        | e :: es, [], h =>
          obtain ⟨h1, h2⟩ := and2 (show (decide (x = f.name) && (glB C.sc x && (noDb x && (decide (x ∈ C.fr) && ckA C as (e :: es))))) = true from h)
          obtain ⟨h2, h3⟩ := and2 h2
          obtain ⟨h3, h4⟩ := and2 h3
          obtain ⟨h4, h5⟩ := and2 h4
          obtain ⟨d1, d2, d3⟩ := noDb_ok h3
          have ex : x = f.name := of_decide_eq_true h1
          obtain ⟨r, hr⟩ := rest_ca h5
          exact pe_callTy (c_typ f) (o.gl x h2) (o.fr x (of_decide_eq_true h4)) (by rw [ex]; exact b_typ f) (soundA as o h5) d3 d1 (star_ca X.env h5) (bt_star p X.env hr).1
        | [], _, h => exact no h
        | _ :: _, _ :: _, h => exact no h
      | _ => exact no h
    | _ => exact no h
  | .mt m a as, e, X, C, D, o, h => by
    cases e with
    | Call g es ks cp =>
      cases g with
      | Attribute b x ap =>
        match es, ks, h with
        | e :: es, [], h =>
          obtain ⟨h1, h2⟩ := and2 (show (decide (x = m.name) && (noSuper b && ((ap.endLine == cp.line) && (decide ((e :: es).length < 30) && (ckE C a b && ckA C as (e :: es)))))) = true from h)
          obtain ⟨h2, h3⟩ := and2 h2
          obtain ⟨h3, h4⟩ := and2 h3
          obtain ⟨h4, h5⟩ := and2 h4
          obtain ⟨h5, h6⟩ := and2 h5
          have ex : x = m.name := of_decide_eq_true h1
          subst ex
          obtain ⟨id, f1, f2, f3, f4⟩ := bm_facts m
          obtain ⟨r, hr⟩ := rest_ca h6
          have hl : (e :: es).length < 30 := of_decide_eq_true h4
          have z := pe_bm (X := X) f1 f2 f3 (f4 X) (soundE a o h5) (soundA as o h6) (base_plain h2) (by
            rw [(bt_star cp X.env h6).2]
            show (true && true && decide ((e :: es).length + 0 + 0 < 30)) = true
            rw [decide_eq_true (show (e :: es).length + 0 + 0 < 30 from hl)]
            rfl) h3 (star_ca X.env h6) (bt_star cp X.env hr).1
          rw [o.K] at z
          exact z
        | [], _, h => exact no h
        | _ :: _, _ :: _, h => exact no h
      | _ => exact no h
    | _ => exact no h
  | .ix a b, e, X, C, D, o, h => by
    cases e with
    | Subscript x y p =>
      obtain ⟨h1, h2⟩ := and2 (show (noSlice y && (ckE C a x && ckE C b y)) = true from h)
      obtain ⟨h2, h3⟩ := and2 h2
      have z := ix_X (X := X) (by have := o.rm.units; omega)
      rw [o.K] at z
      exact pe_ix z (soundE a o h2) (soundE b o h3) (ix_plain h1)
    | _ => exact no h
  | .sl a lo hi, e, X, C, D, o, h => by
    cases e with
    | Subscript x y p =>
      cases y with
      | Slice l u st q =>
        cases st with
        | none =>
          obtain ⟨h1, h2⟩ := and2 (show (ckE C a x && (ckO C lo l && ckO C hi u)) = true from h)
          obtain ⟨h2, h3⟩ := and2 h2
          have z := sl_X (X := X)
          rw [o.K] at z
          exact pe_slice z (soundE a o h1) (soundO lo o h2) (soundO hi o h3)
        | some _ => exact no h
      | _ => exact no h
    | _ => exact no h
  | .lst as, e, X, C, D, o, h => by
    cases e with
    | List es p => exact pe_lst (soundA as o h)
    | _ => exact no h
  | .tup as, e, X, C, D, o, h => by
    cases e with
    | Tuple es k p => exact pe_tup (soundA as o h)
    | _ => exact no h
  | .dnew, e, X, C, D, o, h => by
    cases e with
    | Dict ks vs p =>
      match ks, vs, h with
      | [], [], _ => exact pe_dnewK
      | _ :: _, _, h => exact no h
      | [], _ :: _, h => exact no h
    | _ => exact no h
  | .lc own tg it c r, e, X, C, D, o, h => by
    cases e with
    | ListComp elt gs scope p =>
      match gs, h with
      | [⟨t, iter, ifs, k⟩], h =>
        cases t with
          | Name x q =>
            obtain ⟨h0, h1⟩ := and2 (show (decide (k = 0) && (blkC C.N C.sc scope own && (lookS C.N tg x && (locB scope x && (noSet iter && (ckI C it iter && (ckC { C with sc := scope } c ifs && ckE { C with sc := scope } r elt))))))) = true from h)
            obtain ⟨h1, h2⟩ := and2 h1
            obtain ⟨h2, h3⟩ := and2 h2
            obtain ⟨h3, h4⟩ := and2 h3
            obtain ⟨h4, h5⟩ := and2 h4
            obtain ⟨h5, h6⟩ := and2 h5
            obtain ⟨h6, h7⟩ := and2 h6
            have ek : k = 0 := of_decide_eq_true h0
            subst ek
            exact pe_lc o.calm (by rw [o.N]; exact o.nd) (soundI it o h5) (o.scp scope own h1)
              (fun s H a cl fp => by
                have ob := o.blk scope s H a cl fp
                obtain ⟨l1, l2⟩ := ob.loc x h3
                exact pg_name (by rw [ob.N]; exact ob.nd) (by rw [ob.N]; exact lookS_ok h2) l1 l2)
              (fun s H a cl fp => soundC c (o.blk scope s H a cl fp) h6) (fun s H a cl fp => soundE r (o.blk scope s H a cl fp) h7) (fold_plain h4)
          | _ => exact no h
      | [], h => exact no h
      | _ :: _ :: _, h => exact no (by
          rename_i g1 g2 g3
          obtain ⟨t, iter, ifs, k⟩ := g1
          cases t <;> exact h)
    | _ => exact no h
  | .callE f as, e, X, C, D, o, h => by
    cases e with
    | Call g es ks p =>
      cases g with
      | Subscript fv fi fp =>
        match es, ks, h with
        | e :: es, [], h =>
          obtain ⟨h1, h2⟩ := and2 (show (ckE C f (.Subscript fv fi fp) && ckA C as (e :: es)) = true from h)
          have hf := soundE f o h1
          have ha := soundA as o h2
          obtain ⟨r, hr⟩ := rest_ca h2
          refine ⟨fun pins s σ H Q I q => ?_⟩
          refine Call_ (thn (hf.run pins s σ H _ I q) fun v s1 ⟨x, H1, I1, r1, j, fa, hj, ex, q1⟩ => ?_)
          subst ex
          cases r1
          have hl : j < C.fns.length := by
            rw [← o.fl.2]
            exact (List.getElem?_eq_some_iff.mp hj).1
          obtain ⟨fa', fd, ps, k, g1, g2, g3, g4, g5, g6⟩ := sp_of o (List.getElem?_eq_getElem hl)
          rw [hj] at g1
          cases g1
          refine PySem.W.callWith_K (h₀ := X.base) I1.ok.mod.kin g3 (thn (ha.run p pins s1 σ H1 _ I1 q1) fun us s2 ⟨vs, H2, I2, r2, q2⟩ => ⟨I2.kIn, ?_⟩) (star_ca X.env h2) (bt_star p X.env hr).1
          exact run_fnS (E := WE D.W) g4 g5 g6 (passAt o.tk σ) I2 r2 q2
        | [], _, h => exact no h
        | _ :: _, _ :: _, h => exact no h
      | _ => exact no h
    | _ => exact no h
theorem soundA : ∀ (r : RA) {es : List Expr} {X : Cx} {C : Ct} {D : Dn}, XOk X C D → ckA C r es = true → PA X es (wpA D r)
  | .nil, [], X, C, D, o, h => pa_nil
  | .nil, _ :: _, X, C, D, o, h => no h
  | .cons a r, [], X, C, D, o, h => no h
  | .cons a r, e :: es, X, C, D, o, h => by
    obtain ⟨h1, h2⟩ := and2 (show (noStar e && (ckE C a e && ckA C r es)) = true from h)
    obtain ⟨h2, h3⟩ := and2 h2
    exact pa_cons (soundE a o h2) (soundA r o h3) (star_cons X.env h1)
theorem soundO : ∀ (r : RO) {e : Option Expr} {X : Cx} {C : Ct} {D : Dn}, XOk X C D → ckO C r e = true → PO X e (wpO D r)
  | .no, none, X, C, D, o, h => po_none
  | .no, some _, X, C, D, o, h => no h
  | .yes a, none, X, C, D, o, h => no h
  | .yes a, some e, X, C, D, o, h => po_some (soundE a o h)
theorem soundT : ∀ (r : RT) {e : Expr} {X : Cx} {C : Ct} {D : Dn}, XOk X C D → ckT C r e = true → PT X e (wpT D r)
  | .tru a, e, X, C, D, o, h => by
    obtain ⟨h1, h2⟩ := and2 (show (plainT e && ckE C a e) = true from h)
    have z := pt_tru (soundE a o h2) h1
    rw [o.K] at z
    exact z
  | .cmp op a b, e, X, C, D, o, h => by
    cases e with
    | Compare l ops rs p =>
      match ops, rs, h with
      | [op'], [r], h =>
        obtain ⟨h1, h2⟩ := and2 (show (decide (op' = op) && (!behindInMarks op' r && (ckE C a l && ckE C b r))) = true from h)
        obtain ⟨h2, h3⟩ := and2 h2
        obtain ⟨h3, h4⟩ := and2 h3
        have e : op' = op := of_decide_eq_true h1
        subst e
        have z := op_cmp (X := X) o.rm.units op'
        rw [o.K] at z
        exact pt_cmpR z (soundE a o h3) (soundE b o h4) (by simpa using h2)
      | [], _, h => exact no h
      | _ :: _ :: _, _, h => exact no h
      | [_], [], h => exact no h
      | [_], _ :: _ :: _, h => exact no h
    | _ => exact no h
  | .chain op op2 a b c, e, X, C, D, o, h => by
    cases e with
    | Compare l ops rs p =>
      match ops, rs, h with
      | [o1, o2], [m, r], h =>
        obtain ⟨h1, h2⟩ := and2 (show (decide (o1 = op) && (decide (o2 = op2) && (!lastMarks [o1, o2] [m, r] && (ckE C a l && (ckE C b m && ckE C c r))))) = true from h)
        obtain ⟨h2, h3⟩ := and2 h2
        obtain ⟨h3, h4⟩ := and2 h3
        obtain ⟨h4, h5⟩ := and2 h4
        obtain ⟨h5, h6⟩ := and2 h5
        have e : o1 = op := of_decide_eq_true h1
        have e2 : o2 = op2 := of_decide_eq_true h2
        subst e e2
        have z1 := op_cmp (X := X) o.rm.units o1
        have z2 := op_cmp (X := X) o.rm.units o2
        rw [o.K] at z1 z2
        exact pt_chain z1 z2 (soundE a o h4) (soundE b o h5) (soundE c o h6) (by simpa using h3)
      | [], _, h => exact no h
      | [_], _, h => exact no h
      | _ :: _ :: _ :: _, _, h => exact no h
      | [_, _], [], h => exact no h
      | [_, _], [_], h => exact no h
      | [_, _], _ :: _ :: _ :: _, h => exact no h
    | _ => exact no h
  | .and a b, e, X, C, D, o, h => by
    cases e with
    | BoolOp op vs p =>
      cases op with
      | Or => exact no h
      | And =>
        match vs, h with
        | [x, y], h =>
          obtain ⟨h1, h2⟩ := and2 (show (ckT C a x && ckT C b y) = true from h)
          exact (pw_and (soundT a o h1) (pw_and1 (soundT b o h2))).pt
        | x :: y :: z :: r, h =>
          obtain ⟨h1, h2⟩ := and2 (show (ckT C a x && ckT C b (.BoolOp .And (y :: z :: r) p)) = true from h)
          have hb := soundW b o h2
          exact (pw_and (soundT a o h1) hb).pt
        | [], h => exact no h
        | [_], h => exact no h
    | _ => exact no h
  | .or a b, e, X, C, D, o, h => by
    cases e with
    | BoolOp op vs p =>
      cases op with
      | And => exact no h
      | Or =>
        match vs, h with
        | [x, y], h =>
          obtain ⟨h1, h2⟩ := and2 (show (ckT C a x && ckT C b y) = true from h)
          exact (pw_or (soundT a o h1) (pw_or1 (soundT b o h2))).pt
        | x :: y :: z :: r, h =>
          obtain ⟨h1, h2⟩ := and2 (show (ckT C a x && ckT C b (.BoolOp .Or (y :: z :: r) p)) = true from h)
          have hb := soundW b o h2
          exact (pw_or (soundT a o h1) hb).pt
        | [], h => exact no h
        | [_], h => exact no h
    | _ => exact no h
  | .not t, e, X, C, D, o, h => by
    cases e with
    | UnaryOp op x p =>
      cases op with
      | Not => exact pt_not (soundT t o (show ckT C t x = true from h))
      | _ => exact no h
    | _ => exact no h
/-- and, or, whatever stands around -/
theorem soundW : ∀ (r : RT) {op : BoolOp} {vs : List Expr} {p : Pos} {X : Cx} {C : Ct} {D : Dn}, XOk X C D → ckT C r (.BoolOp op vs p) = true → PW X (.BoolOp op vs p) (wpT D r)
  | .tru a, op, vs, p, X, C, D, o, h => by
    obtain ⟨h1, h2⟩ := and2 (show (plainT (.BoolOp op vs p) && ckE C a (.BoolOp op vs p)) = true from h)
    exact no h1
  | .cmp op a b, _, vs, p, X, C, D, o, h => no h
  | .chain op op2 a b c, _, vs, p, X, C, D, o, h => no h
  | .not t, op, vs, p, X, C, D, o, h => no h
  | .and a b, op, vs, p, X, C, D, o, h => by
    cases op with
    | Or => exact no h
    | And =>
      match vs, h with
      | [x, y], h =>
        obtain ⟨h1, h2⟩ := and2 (show (ckT C a x && ckT C b y) = true from h)
        exact pw_and (soundT a o h1) (pw_and1 (soundT b o h2))
      | x :: y :: z :: r, h =>
        obtain ⟨h1, h2⟩ := and2 (show (ckT C a x && ckT C b (.BoolOp .And (y :: z :: r) p)) = true from h)
        exact pw_and (soundT a o h1) (soundW b o h2)
      | [], h => exact no h
      | [_], h => exact no h
  | .or a b, op, vs, p, X, C, D, o, h => by
    cases op with
    | And => exact no h
    | Or =>
      match vs, h with
      | [x, y], h =>
        obtain ⟨h1, h2⟩ := and2 (show (ckT C a x && ckT C b y) = true from h)
        exact pw_or (soundT a o h1) (pw_or1 (soundT b o h2))
      | x :: y :: z :: r, h =>
        obtain ⟨h1, h2⟩ := and2 (show (ckT C a x && ckT C b (.BoolOp .Or (y :: z :: r) p)) = true from h)
        exact pw_or (soundT a o h1) (soundW b o h2)
      | [], h => exact no h
      | [_], h => exact no h
theorem soundC : ∀ (r : RC) {es : List Expr} {X : Cx} {C : Ct} {D : Dn}, XOk X C D → ckC C r es = true → PTs X es (wpC D r)
  | .no, [], X, C, D, o, h => pts_nil
  | .no, _ :: _, X, C, D, o, h => no h
  | .yes t, [], X, C, D, o, h => no h
  | .yes t, [e], X, C, D, o, h => pts_one (soundT t o h)
  | .yes t, _ :: _ :: _, X, C, D, o, h => no h
theorem soundI : ∀ (r : RI) {e : Expr} {tg : Expr} {X : Cx} {C : Ct} {D : Dn}, XOk X C D → ckI C r e = true → PI X tg e (wpI D r)
  | .any a, e, tg, X, C, D, o, h => by
    have z := pi_any (tg := tg) (soundE a o (show ckE C a e = true from h))
    rw [o.K] at z
    exact z
  | .range1 a, e, tg, X, C, D, o, h => by
    cases e with
    | Call g es ks p =>
      cases g with
      | Name x q =>
        match es, ks, h with
        | [e], [], h =>
          obtain ⟨h1, h2⟩ := and2 (show (decide (x = ("range" : Str)) && (glB C.sc x && (decide (x ∈ C.fr) && (noStar e && ckE C a e)))) = true from h)
          obtain ⟨h2, h3⟩ := and2 h2
          obtain ⟨h3, h4⟩ := and2 h3
          obtain ⟨h4, h5⟩ := and2 h4
          have ex : x = ("range" : Str) := of_decide_eq_true h1
          subst ex
          exact pi_range1 (o.gl _ h2) (o.fr _ (of_decide_eq_true h3)) (pa_cons (soundE a o h5) pa_nil (star_cons X.env h4)) (star_cons X.env h4)
        | [], _, h => exact no h
        | [_], _ :: _, h => exact no h
        | _ :: _ :: _, _, h => exact no h
      | _ => exact no h
    | _ => exact no h
  | .range2 a b, e, tg, X, C, D, o, h => by
    cases e with
    | Call g es ks p =>
      cases g with
      | Name x q =>
        match es, ks, h with
        | [e, e'], [], h =>
          obtain ⟨h1, h2⟩ := and2 (show (decide (x = ("range" : Str)) && (glB C.sc x && (decide (x ∈ C.fr) && (noStar e && (noStar e' && (ckE C a e && ckE C b e')))))) = true from h)
          obtain ⟨h2, h3⟩ := and2 h2
          obtain ⟨h3, h4⟩ := and2 h3
          obtain ⟨h4, h5⟩ := and2 h4
          obtain ⟨h5, h6⟩ := and2 h5
          obtain ⟨h6, h7⟩ := and2 h6
          have ex : x = ("range" : Str) := of_decide_eq_true h1
          subst ex
          have s2 := star_cons (es := []) X.env h5
          exact pi_range2 (o.gl _ h2) (o.fr _ (of_decide_eq_true h3)) (pa_cons (soundE a o h6) (pa_cons (soundE b o h7) pa_nil s2) (star_cons X.env h4)) (by rw [star_cons X.env h4, s2] <;> rfl) s2
        | [], _, h => exact no h
        | [_], _, h => exact no h
        | [_, _], _ :: _, h => exact no h
        | _ :: _ :: _ :: _, _, h => exact no h
      | _ => exact no h
    | _ => exact no h
end
end Rf
set_option Elab.async false
set_option autoImplicit false
set_option linter.all false
set_option maxRecDepth 100000
set_option maxHeartbeats 4000000
/-! try: body, except C as n: y = n, the error kept behind it as a tracked object. -/
namespace Rf
open PySem PySem.Spec PyProof.Rows L2
section
variable {X : Cx} {pins : List (Addr × Obj)} {σ : L2.St} {H : Hp} {s : Shared}
/-- a thing that stands and is not tracked, not ours and not of the entry, is tracked from here on -/
theorem track {a : Addr} {o : HO} (I : Inv X pins σ H s) (hn : H a = none) (h0 : X.s_0.heap.get? a = none) (nL : a ≠ X.env.locals)
    (nC : ∀ x c, X.env.cells.lookup x = some c → c ≠ a) (nP : ∀ p ∈ X.pn ++ pins, p.1 ≠ a) (new : ObjOk X.prog X.w (upd H a o) s.heap a o) : Inv X pins σ (upd H a o) s := by
  have z0 : ∀ b ob, X.s_0.heap.get? b = some ob → b ≠ a := fun b ob e q => by
    rw [q, h0] at e
    cases e
  have zT : ∀ b u, H b = some u → b ≠ a := fun b u e q => by
    rw [q, hn] at e
    cases e
  have B := I.base
  refine { ok := I.ok, os := I.os, bare := I.bare, base := ?_, loc := I.loc, cell := I.cell, free := ?_, freeC := ?_, pin := ?_, hok := ?_, len := I.len }
  · refine { keep := B.keep, slot := B.slot, free := ?_, there := B.there, tups := ?_, frzs := ?_, tbls := ?_ }
    · intro b ob e n hx
      rw [upd_ne (z0 b ob e)]
      exact B.free b ob e n hx
    · intro b xs e
      have q := B.tups b xs e
      rw [upd_ne (zT b _ q)]
      exact q
    · intro b ob u e
      have q := B.frzs b ob u e
      rw [upd_ne (zT b _ q)]
      exact q
    · intro b ps e
      obtain ⟨m, q⟩ := B.tbls b ps e
      exact ⟨m, by rw [upd_ne (zT b _ q)]; exact q⟩
  · rw [upd_ne (Ne.symm nL)]
    exact I.free
  · intro x c e
    rw [upd_ne (nC x c e)]
    exact I.freeC x c e
  · intro p hp
    obtain ⟨e, n, r1, r2, r3⟩ := I.pin p hp
    exact ⟨e, by rw [upd_ne (nP p hp)]; exact n, r1, r2, r3⟩
  · intro b u e
    by_cases hb : b = a
    · rw [hb, upd_same] at e
      cases e
      rw [hb]
      exact new
    · rw [upd_ne hb] at e
      refine (I.hok b u e).stay (fun _ _ _ q => q) (fun c q => ?_) fun c xs q => ?_
      · rw [upd_ne (zT c _ q)]
        exact q
      · rw [upd_ne (zT c _ q)]
        exact q
end
/-- what the clause wishes: slot i is the clause's name, slot j the name that keeps the error -/
def wKeep (K : PySem.W.Frag) (c : Value) (i j : Nat) (Wout : WX) (D : Ends) : WX := fun cls d σ H =>
  ∃ b, PySem.W.exmOne K cls c = some b ∧ (b = true → ∀ a, H a = none → D.nx (((σ.set i (some (.ref a))).set j (some (.ref a))).set i none) (upd H a (ExV cls d a))) ∧ (b = false → Wout cls d σ H)
section
variable {X : Cx} {x n y : Str} {c : Value} {i j : Nat} {body : List Stmt} {np pos pos' py pn' ap : Pos} {tb : WX → TS} {Wout : WX}
theorem ps_try_keep (hs : X.stack = X.env :: X.outer) (hf : X.env.frame = some X.env.locals) (hex : X.ex = []) (hN : X.N.Nodup) (hi : X.N[i]? = some n) (hj : X.N[j]? = some y) (hln : X.env.kindOf n = some .local) (hly : X.env.kindOf y = some .local)
    (hij : i ≠ j) (hdn : (n == ("__debug__" : Str)) = false) (hdc : (n == ("__classdict__" : Str)) = false) (hc : Names X x c) (tk : Takes X Wout)
    (hb : ∀ (W : WX) (pn : List (Addr × Obj)) (xe : Value → Shared → Prop), Takes (X.tr pn xe) W → PassesOwn (model X.prog X.w) X.A X.env xe → PSs (X.tr pn xe) body (tb W)) :
    PS X (.Try body [.ExceptHandler (some (.Name x np)) (some n) [.Assign [.Name y py] (.Name n pn') ap] pos'] [] [] pos) (fun D σ H => tb (wKeep X.K c i j Wout D) D σ H) := by
  refine ⟨fun pins s σ H D I h => ?_⟩
  have ok := I.ok
  have hfr : X.A.frames = some (X.env :: X.outer) := by
    rw [ok.frames, hs]
  refine wpAny_Try_except ?_
  have run := (hb (wKeep X.K c i j Wout D) (X.pn ++ pins) _ (fun u s' xx => ?_) (PassesOwn.looking (K := fun e s₂ => wpAny (model X.prog X.w) X.A (setFlight e none)
    (fun _ s₃ => wpAny (model X.prog X.w) X.A (handleBy e X.env [.ExceptHandler (some (.Name x np)) (some n) [.Assign [.Name y py] (.Name n pn') ap] pos']) (SP X pins D) X.xe s₃) X.xe s₂) (E₁ := X.xe))).run [] s σ H D (I.toTry _) h
  · refine wpAny_mono run (fun f s1 hsp => ?_) fun e s1 he => he
    cases f with
    | next =>
      obtain ⟨σ', H', J', q⟩ := hsp
      exact wpAny_execs_nil ⟨σ', H', J'.ofTry ok, q⟩
    | ret v =>
      obtain ⟨z, σ', H', J', r, q⟩ := hsp
      exact ⟨z, σ', H', J'.ofTry ok, r, q⟩
    | brk =>
      obtain ⟨σ', H', J', q⟩ := hsp
      exact ⟨σ', H', J'.ofTry ok, q⟩
    | cont =>
      obtain ⟨σ', H', J', q⟩ := hsp
      exact ⟨σ', H', J'.ofTry ok, q⟩
  -- caught
  obtain ⟨a, B, sI, pins', σ', H', cls, d, rfl, J', nb, up, sky, na, os, ag, b, hb1, hyes, hno⟩ := xx
  have J : Inv X pins σ' H' sI := J'.ofTry ok
  rw [hs] at sky
  show wpAny (model X.prog X.w) X.A (noteFrame (.ref a) X.env) _ _ _
  refine Sky.land Zc.steady hfr hf sky fun h3 fl3 up3 => ?_
  have J3 : Inv X pins σ' H' { s' with heap := h3 } := J.landed nb fl3.1 (up.trans up3) os ag
  obtain ⟨oe3, vs3, he3, hz3, hd3⟩ := fl3.there
  have nfr : a ∉ frs (X.env :: X.outer) := fun hm => by
    obtain ⟨_, o', e', hnf⟩ := fl3.2.2.1.mem hm
    rw [he3] at e'
    cases e'
    exact hnf _ hd3
  have nL : a ≠ X.env.locals := fun z => nfr (List.mem_filterMap.mpr ⟨X.env, List.mem_cons_self, by rw [hf, z]⟩)
  have nF : a ∉ X.fs := fun hm => by
    obtain ⟨e, he, q⟩ := List.mem_filterMap.mp hm
    exact nfr (List.mem_filterMap.mpr ⟨e, List.mem_cons_of_mem _ he, q⟩)
  have nI : sI.heap.get? a = none := by
    cases e : sI.heap.get? a with
    | none => rfl
    | some o =>
      have q := nb a o e (by rw [hs]; exact nfr)
      rw [fl3.2.1] at q
      cases q
  have n0 : X.s_0.heap.get? a = none := by
    cases e : X.s_0.heap.get? a with
    | none => rfl
    | some o =>
      obtain ⟨o', q⟩ := J.base.there a o e (by rw [hex]; exact fun z => nomatch z)
      rw [nI] at q
      cases q
  have nP : ∀ p ∈ X.pn ++ pins, p.1 ≠ a := fun p hp z => by
    have q := (J.pin p hp).1
    rw [z, nI] at q
    cases q
  have S3 := J3.suite he3 hd3 na nL nF
  refine wpAny_handleBy_cons (codeAny_handlers_test ?_) (by intro q; cases q)
  have LT : PySem.W.Looks (model X.prog X.w) h3 (typeOf (.ref a)) cls := fun A Q E s k q => wpAny_typeOf_ref (k _ _ he3) (by rw [hz3.1]; exact q)
  have LM := PySem.W.exm_one (M := model X.prog X.w) (J3.kIn) LT hb1
  have test : ∀ {Q : Value → Shared → Prop} {E : Value → Shared → Prop}, Q c { s' with heap := h3 } →
      wpAny (model X.prog X.w) (X.A.mark (some (.ref a))) (eval (.Name x np) X.env) Q E { s' with heap := h3 } := fun {Q E} q => by
    obtain ⟨hg, hdbg, hm | ⟨hm, hv, hnn⟩⟩ := hc
    · exact ld_glob (X := X.suite a ((a, oe3) :: (X.pn ++ pins))) S3 hg hm q hdbg
    · exact ld_blt (X := X.suite a ((a, oe3) :: (X.pn ++ pins))) S3 hg hm hv q hnn hdbg
  refine test (LM.here ?_)
  cases b with
  | false =>
    show wpAny _ X.A (handleBy (.ref a) X.env []) _ _ _
    refine wpAny_handleBy_nil ?_
    obtain ⟨k1, k2, k3, oe, vs, T, oT, ts', he, hz, hd, h1, hr⟩ := id fl3
    unfold PySem.passOn
    refine wpAny_bind (wpAny_field he hd h1 ?_)
    rw [if_neg (show ¬ ((Value.ref T == Value.none) = true) from by simp)]
    have fin : wpAny (model X.prog X.w) X.A (setFlight (.ref a) X.env.frame) (fun _ s4 => wpAny (model X.prog X.w) X.A (throw (.ref a) : Sem Flow) (SP X pins D) X.xe s4) X.xe { s' with heap := h3 } := by
      rw [hf]
      refine HandSPX.setFlight_upZ fl3 fun h4 hh4 up4 => wpAny_throw (tk _ _ ?_)
      exact ⟨a, B, sI, pins, σ', H', cls, d, rfl, J, nb, (up.trans up3).trans up4, .inr (.inr (by rw [hs]; exact hh4)), na, os, ag, hno rfl⟩
    first
      | exact wpAny_bind (wpAny_pure (wpAny_bind fin))
      | exact wpAny_bind fin
  | true =>
    refine codeAny_handlers_suite_as ?_
    refine HandSPX.lands_againZ fl3 fun h4 fl4 up4 => ?_
    have J4 : Inv X pins σ' H' { s' with heap := h4 } := J.landed nb fl4.1 ((up.trans up3).trans up4) os ag
    obtain ⟨oe4, vs4, he4, hz4, hd4⟩ := fl4.there
    have S4 := J4.suite he4 hd4 na nL nF
    refine store_ok (X := X.suite a ((a, oe4) :: (X.pn ++ pins))) (v := .ref a) S4 hN hi (.inl hln) rfl (fun s5 S5 => ?_) (.inr hln)
    have st : PSs (X.suite a ((a, oe4) :: (X.pn ++ pins))) [.Assign [.Name y py] (.Name n pn') ap] (tAsg (tVar i) (gName j)) :=
      pss_one (ps_set hN hj (.inl hly) (pe_var hi (.inl hln) hdn hdc) rfl (.inr hly))
    have hiN : i < σ'.length := by
      rw [J.len]
      exact (List.getElem?_eq_some_iff.mp hi).1
    have want : (tAsg (tVar i) (gName j)) { nx := fun σ6 H6 => σ6 = (σ'.set i (some (.ref a))).set j (some (.ref a)) ∧ H6 = H', rt := fun _ _ => False } (σ'.set i (some (.ref a))) H' :=
      ⟨.ref a, by rw [List.getElem?_set_self hiN], rfl, rfl⟩
    refine wpAny_mono (st.run [] s5 _ H' _ S5 want) (fun f s6 hsp => ?_) fun _ _ z => False.elim z
    cases f with
    | next =>
      obtain ⟨σ6, H6, S6, e1, e2⟩ := hsp
      subst e1 e2
      have p6 := S6.pin (a, oe4) (List.mem_append_left _ List.mem_cons_self)
      have J6 := S6.unsuite ok
      have T6 := track (o := ExV cls d a) J6 na n0 nL (fun x c e z => by
        obtain ⟨v, o, ho, hdat⟩ := J6.cell x c e
        rw [z] at ho
        have e2 := p6.1
        rw [ho] at e2
        cases e2
        rw [hdat] at hd4
        cases hd4) nP (exv_ok ⟨oe4, vs4, p6.1, hz4, hd4⟩)
      exact gone_ok T6 hN hi hln fun s7 J7 => ⟨_, _, J7, hyes rfl a na⟩
    | brk => obtain ⟨_, _, _, z⟩ := hsp; exact z.elim
    | cont => obtain ⟨_, _, _, z⟩ := hsp; exact z.elim
    | ret u => obtain ⟨_, _, _, _, _, z⟩ := hsp; exact z.elim
end
end Rf
set_option Elab.async false
set_option autoImplicit false
set_option linter.all false
set_option maxRecDepth 100000
set_option maxHeartbeats 4000000
/-! Statements: syntax, reading, checker, soundness; a def's promise by its reading. -/
namespace Rf
open PySem PySem.Spec PyProof.Rows L2
mutual
inductive RS where
  | set (i : Nat) (e : RE) | ret (e : RE) | retN | ifs (t : RT) (a b : RSs) | fr (tg : Nat) (it : RI) (b : RSs) | wh (t : RT) (b : RSs)
  | ex (e : RE) | raise (i : Nat) | tryK (c i j : Nat) (b : RSs) | brk | cnt | pass
inductive RSs where
  | nil | cons (a : RS) (r : RSs)
end
def tRaiseX (D : Dn) (i : Nat) : TS := fun _ σ H => match D.ex[i]? with
  | some a => D.W (.ref a) none σ H
  | none => False
mutual
def wpS (D : Dn) : RS → TS
  | .set i e => tAsg (wpE D e) (gName i)
  | .ret e => tRet (wpE D e)
  | .retN => tRetN
  | .ifs t a b => tIfS (wpT D t) (wpSs D a) (wpSs D b)
  | .fr tg it b => tFor (wpI D it) (gName tg) (wpSs D b)
  | .wh t b => tWhile (wpT D t) (wpSs D b)
  | .ex e => tDrop (wpE D e)
  | .raise i => tRaiseX D i
  | .tryK c i j b => fun E σ H => match D.ex[c]? with
    | some a => wpSs { D with W := wKeep D.K (.ref a) i j D.W E } b E σ H
    | none => False
  | .brk => tBreak
  | .cnt => tCont
  | .pass => tNext
def wpSs (D : Dn) : RSs → TS
  | .nil => tNext
  | .cons a r => tSeq (wpS D a) (wpSs D r)
end
def kindB (sc : Scope) (x : Str) : Bool := match sc.names.lookup x with
  | some .local => true | _ => false
/-- whether a comprehension is stored by its own end -/
def swB (sc : Scope) (v : Expr) (x : Str) (p : Pos) : Bool := match v with
  | .ListComp _ _ s vp => kindB sc x && ((p.line == vp.line) && !(s.names.any fun (n, k) => n == x && (k == .local || k == .cell)))
  | _ => false
/-- no comprehension but of a list -/
def lcOnly : Expr → Bool
  | .SetComp .. => false | .DictComp .. => false
  | _ => true
def oneGen : Expr → Bool
  | .ListComp _ [_] _ _ => true
  | _ => false
/-- raise X('..') -/
def raiseOf : Stmt → Option Str
  | .Raise (some (.Call (.Name x _) [.Constant (.str _) _ _] [] _)) none _ => some x
  | _ => none
theorem raiseOf_ok {st : Stmt} {x : Str} (h : raiseOf st = some x) : ∃ xp m k kp cp p, st = .Raise (some (.Call (.Name x xp) [.Constant (.str m) k kp] [] cp)) none p := by
  unfold raiseOf at h
  split at h
  · cases h
    exact ⟨_, _, _, _, _, _, rfl⟩
  · cases h
/-- try: body, except X as n: y = n -/
def tryOf : Stmt → Option (List Stmt × Str × Str × Str)
  | .Try body [.ExceptHandler (some (.Name x _)) (some n) [.Assign [.Name y _] (.Name m _) _] _] [] [] _ => if m = n then some (body, x, n, y) else none
  | _ => none
theorem tryOf_ok {st : Stmt} {q : List Stmt × Str × Str × Str} (h : tryOf st = some q) :
    ∃ np py pm ap hp p, st = .Try q.1 [.ExceptHandler (some (.Name q.2.1 np)) (some q.2.2.1) [.Assign [.Name q.2.2.2 py] (.Name q.2.2.1 pm) ap] hp] [] [] p := by
  unfold tryOf at h
  split at h
  · split at h
    · rename_i e
      cases h
      subst e
      exact ⟨_, _, _, _, _, _, rfl⟩
    · cases h
  · cases h
mutual
def ckS (C : Ct) : RS → Stmt → Bool
  | .set i e, .Assign [.Name x p] v _ => lookS C.N i x && (locB C.sc x && (lcOnly v && (ckE C e v && (!swB C.sc v x p || oneGen v))))
  | .ret e, .Return (some v) _ => ckE C e v
  | .retN, .Return none _ => true
  | .ifs t a b, .If c x y _ => ckT C t c && (ckSs C a x && ckSs C b y)
  | .fr tg it b, .For (.Name x _) iter body [] _ => lookS C.N tg x && (locB C.sc x && (noSet iter && (ckI C it iter && ckSs C b body)))
  | .wh t b, .While c body [] _ => ckT C t c && ckSs C b body
  | .ex e, .Expr v _ => noComp v && ckE C e v
  | .raise i, st => match raiseOf st with
    | some x => lookS C.ex i x && (glB C.sc x && noDb x)
    | none => false
  | .tryK c i j b, st => match tryOf st with
    | some (body, x, n, y) => lookS C.ex c x && (glB C.sc x && (noDb x && (lookS C.N i n && (lookS C.N j y && (kindB C.sc n && (kindB C.sc y && (!decide (i = j) && (noDb n && ckSs C b body))))))))
    | none => false
  | .brk, .Break _ => true
  | .cnt, .Continue _ => true
  | .pass, .Pass _ => true
  | _, _ => false
def ckSs (C : Ct) : RSs → List Stmt → Bool
  | .nil, [] => true
  | .cons a r, st :: sts => ckS C a st && ckSs C r sts
  | _, _ => false
end
/-- the context of a def's body (or a try's) -/
structure XOkS (X : Cx) (C : Ct) (D : Dn) : Prop where
  e : XOk X C D
  sce : X.env.scope = C.sc
  knd : C.sc.kind = .function
  fnn : ∀ x, X.fn x = true
  stk : X.stack = X.env :: X.outer
  frm : X.env.frame = some X.env.locals
  exn : X.ex = []
  pass : PassesOwn (model X.prog X.w) X.A X.env X.xe
  exs : ∀ (i : Nat) (x : Str), C.ex[i]? = some x → ∃ a : Addr, D.ex[i]? = some a ∧ X.mg x = some (.ref a) ∧ PySem.W.excIn X.K a He.veBase "ValueError.__new__" = true ∧ PySem.W.keepIn X.K (.ref a) = true ∧ Raises X (.ref a)
theorem XOkS.tr {X : Cx} {C : Ct} {D : Dn} (h : XOkS X C D) {W : WX} {pn : List (Addr × Obj)} {xe : Value → Shared → Prop} (tk : Takes (X.tr pn xe) W) (ps : PassesOwn (model X.prog X.w) X.A X.env xe) : XOkS (X.tr pn xe) C { D with W := W } :=
  ⟨⟨h.e.N, h.e.nd, h.e.vis, h.e.gl, h.e.loc, h.e.scp, h.e.K, h.e.calm, tk, h.e.rm, h.e.fn, h.e.fl, h.e.gs, h.e.fr⟩, h.sce, h.knd, h.fnn, h.stk, h.frm, h.exn, ps, h.exs⟩
section
variable {X : Cx} {C : Ct} {D : Dn}
theorem kindB_ok {sc : Scope} {x : Str} (h : kindB sc x = true) : sc.names.lookup x = some .local := by
  unfold kindB at h
  split at h
  · assumption
  · cases h
theorem kindB_no {sc : Scope} {x : Str} (h : kindB sc x = false) : (sc.names.lookup x == some .local) = false := by
  unfold kindB at h
  split at h
  · cases h
  · rename_i q
    cases e : sc.names.lookup x with
    | none => rfl
    | some k => cases k <;> first | rfl | exact absurd e q
theorem sw_no {v : Expr} {x : Str} {p : Pos} {l : Nat} {env : Env} (hk : env.scope.kind = .function) (h1 : lcOnly v = true) (h2 : swB env.scope v x p = false) : swapsWith v (some (.Name x p)) l env = pure false := by
  cases v with
  | ListComp elt gs s vp =>
    have hb : env.blockKind = .function := by unfold Env.blockKind; rw [hk] <;> rfl
    have h2 : (kindB env.scope x && ((p.line == vp.line) && !(s.names.any fun (n, k) => n == x && (k == .local || k == .cell)))) = false := h2
    unfold swapsWith
    simp only [hb]
    show (pure (((ScopeKind.function == ScopeKind.function) && (env.scope.names.lookup x == some .local) && (p.line == vp.line)) && !(s.names.any fun (n, k) => n == x && (k == .local || k == .cell))) : Sem Bool) = pure false
    congr 1
    cases e : kindB env.scope x with
    | false =>
      rw [kindB_no e]
      simp
    | true =>
      rw [e, Bool.true_and] at h2
      rw [kindB_ok e]
      cases e3 : (p.line == vp.line) with
      | false => rfl
      | true =>
        rw [e3, Bool.true_and] at h2
        rw [h2]
        rfl
  | SetComp _ _ _ _ => cases h1
  | DictComp _ _ _ _ _ => cases h1
  | _ => rfl
theorem sw_drop {v : Expr} {l : Nat} {env : Env} (h : noComp v = true) : swapsWith v none l env = pure false := by
  cases v <;> first | rfl | cases h
mutual
theorem soundS : ∀ (r : RS) {st : Stmt} {X : Cx} {C : Ct} {D : Dn}, XOkS X C D → ckS C r st = true → PS X st (wpS D r)
  | .set i e, st, X, C, D, o, h => by
    cases st with
    | Assign ts v p =>
      match ts, h with
      | [t], h =>
        cases t with
        | Name x q =>
          obtain ⟨h1, h2⟩ := and2 (show (lookS C.N i x && (locB C.sc x && (lcOnly v && (ckE C e v && (!swB C.sc v x q || oneGen v))))) = true from h)
          obtain ⟨h2, h3⟩ := and2 h2
          obtain ⟨h3, h4⟩ := and2 h3
          obtain ⟨h4, h5⟩ := and2 h4
          have hk : X.env.scope.kind = .function := by rw [o.sce]; exact o.knd
          obtain ⟨l1, l2⟩ := o.e.loc x h2
          have hN : X.N[i]? = some x := by rw [o.e.N]; exact lookS_ok h1
          have nd : X.N.Nodup := by rw [o.e.N]; exact o.e.nd
          cases hsw : swB C.sc v x q with
          | false => exact ps_set nd hN l1 (soundE e o.e h4) (sw_no hk h3 (by rw [o.sce]; exact hsw)) l2
          | true =>
            cases v with
            | ListComp elt gs s vp =>
              have hs : (kindB C.sc x && ((q.line == vp.line) && !(s.names.any fun (n, k) => n == x && (k == .local || k == .cell)))) = true := hsw
              obtain ⟨s1, s2⟩ := and2 hs
              obtain ⟨s2, s3⟩ := and2 s2
              have hl : X.env.scope.names.lookup x = some .local := by rw [o.sce]; exact kindB_ok s1
              have sw : ∀ l, swapsWith (.ListComp elt gs s vp) (some (.Name x q)) l X.env = pure true := fun l => sw_true hk hl s2 (by simpa using s3)
              cases e with
              | lc own tg it c r =>
                match gs, h4, sw with
                | [⟨t, iter, ifs, k⟩], h4, sw =>
                  cases t with
                    | Name y q2 =>
                      obtain ⟨g0, g1⟩ := and2 (show (decide (k = 0) && (blkC C.N C.sc s own && (lookS C.N tg y && (locB s y && (noSet iter && (ckI C it iter && (ckC { C with sc := s } c ifs && ckE { C with sc := s } r elt))))))) = true from h4)
                      obtain ⟨g1, g2⟩ := and2 g1
                      obtain ⟨g2, g3⟩ := and2 g2
                      obtain ⟨g3, g4⟩ := and2 g3
                      obtain ⟨g4, g5⟩ := and2 g4
                      obtain ⟨g5, g6⟩ := and2 g5
                      obtain ⟨g6, g7⟩ := and2 g6
                      have ek : k = 0 := of_decide_eq_true g0
                      subst ek
                      exact ps_setLc o.e.calm nd hN hl (sw _) (soundI it o.e g5) (o.e.scp s own g1)
                        (fun s' H a cl fp => by
                          have ob := o.e.blk s s' H a cl fp
                          obtain ⟨l1, l2⟩ := ob.loc y g3
                          exact pg_name (by rw [ob.N]; exact ob.nd) (by rw [ob.N]; exact lookS_ok g2) l1 l2)
                        (fun s' H a cl fp => soundC c (o.e.blk s s' H a cl fp) g6) (fun s' H a cl fp => soundE r (o.e.blk s s' H a cl fp) g7) (fold_plain g4)
                    | _ => exact no h4
                | [], h4, sw => exact no h4
                | ⟨t, iter, ifs, k⟩ :: _ :: _, h4, sw => exact no (by cases t <;> exact h4)
              | _ => exact no h4
            | _ => cases hsw
        | _ => exact no h
      | [], h => exact no h
      | t :: _ :: _, h => exact no (by cases t <;> exact h)
    | _ => exact no h
  | .ret e, st, X, C, D, o, h => by
    cases st with
    | Return v p =>
      cases v with
      | none => exact no h
      | some v => exact ps_ret (soundE e o.e (show ckE C e v = true from h))
    | _ => exact no h
  | .retN, st, X, C, D, o, h => by
    cases st with
    | Return v p =>
      cases v with
      | none => exact ps_retN
      | some v => exact no h
    | _ => exact no h
  | .ifs t a b, st, X, C, D, o, h => by
    cases st with
    | If c x y p =>
      obtain ⟨h1, h2⟩ := and2 (show (ckT C t c && (ckSs C a x && ckSs C b y)) = true from h)
      obtain ⟨h2, h3⟩ := and2 h2
      exact ps_if (soundT t o.e h1) (soundSs a o h2) (soundSs b o h3)
    | _ => exact no h
  | .fr tg it b, st, X, C, D, o, h => by
    cases st with
    | For t iter body orelse p =>
      cases t with
      | Name x q =>
        cases orelse with
        | cons _ _ => exact no h
        | nil =>
          obtain ⟨h1, h2⟩ := and2 (show (lookS C.N tg x && (locB C.sc x && (noSet iter && (ckI C it iter && ckSs C b body)))) = true from h)
          obtain ⟨h2, h3⟩ := and2 h2
          obtain ⟨h3, h4⟩ := and2 h3
          obtain ⟨h4, h5⟩ := and2 h4
          obtain ⟨l1, l2⟩ := o.e.loc x h2
          exact ps_for o.pass o.e.calm (soundI it o.e h4) (pg_name (by rw [o.e.N]; exact o.e.nd) (by rw [o.e.N]; exact lookS_ok h1) l1 l2) (soundSs b o h5) (fold_plain h3)
      | _ => exact no h
    | _ => exact no h
  | .wh t b, st, X, C, D, o, h => by
    cases st with
    | While c body orelse p =>
      cases orelse with
      | cons _ _ => exact no h
      | nil =>
        obtain ⟨h1, h2⟩ := and2 (show (ckT C t c && ckSs C b body) = true from h)
        exact ps_while o.pass (soundT t o.e h1) (soundSs b o h2)
    | _ => exact no h
  | .ex e, st, X, C, D, o, h => by
    cases st with
    | Expr v p =>
      obtain ⟨h1, h2⟩ := and2 (show (noComp v && ckE C e v) = true from h)
      exact ps_expr (soundE e o.e h2) (sw_drop h1)
    | _ => exact no h
  | .raise i, st, X, C, D, o, h => by
    have h : (match raiseOf st with
      | some x => lookS C.ex i x && (glB C.sc x && noDb x)
      | none => false) = true := h
    cases e : raiseOf st with
    | none => rw [e] at h; exact no h
    | some x =>
      rw [e] at h
      obtain ⟨xp, m, k, kp, cp, p, rfl⟩ := raiseOf_ok e
      obtain ⟨h1, h2⟩ := and2 h
      obtain ⟨h2, h3⟩ := and2 h2
      obtain ⟨a, e1, e2, e3, e4, e5⟩ := o.exs i x (lookS_ok h1)
      have z := ps_raise (pos := p) o.e.calm o.e.tk (pmk_own (p := xp) (p2 := kp) (pos := cp) (m := m) (j := k) PySem.F.excBase_ValueError e3 e2 e4 e5 (o.e.gl x h2) (noDb_ok h3).1)
      refine ⟨fun pins s σ H E I q => z.run pins s σ H E I ?_⟩
      have q : tRaiseX D i E σ H := q
      unfold tRaiseX at q
      rw [e1] at q
      exact q
  | .tryK c i j b, st, X, C, D, o, h => by
    have g : (match tryOf st with
      | some (body, x, n, y) => lookS C.ex c x && (glB C.sc x && (noDb x && (lookS C.N i n && (lookS C.N j y && (kindB C.sc n && (kindB C.sc y && (!decide (i = j) && (noDb n && ckSs C b body))))))))
      | none => false) = true := h
    cases e : tryOf st with
    | none => rw [e] at g; exact no g
    | some q =>
      obtain ⟨body, x, n, y⟩ := q
      rw [e] at g
      obtain ⟨np, py, pm, ap, hp, p, rfl⟩ := tryOf_ok e
      obtain ⟨h1, h2⟩ := and2 (show (lookS C.ex c x && (glB C.sc x && (noDb x && (lookS C.N i n && (lookS C.N j y && (kindB C.sc n && (kindB C.sc y && (!decide (i = j) && (noDb n && ckSs C b body))))))))) = true from g)
      obtain ⟨h2, h3⟩ := and2 h2
      obtain ⟨h3, h4⟩ := and2 h3
      obtain ⟨h4, h5⟩ := and2 h4
      obtain ⟨h5, h6⟩ := and2 h5
      obtain ⟨h6, h7⟩ := and2 h6
      obtain ⟨h7, h8⟩ := and2 h7
      obtain ⟨h8, h9⟩ := and2 h8
      obtain ⟨h9, h10⟩ := and2 h9
      obtain ⟨a, e1, e2, e3, e4, e5⟩ := o.exs c x (lookS_ok h1)
      have hij : i ≠ j := by simpa using h8
      have kn : X.env.kindOf n = some .local := by
        show X.env.scope.names.lookup n = _
        rw [o.sce]
        exact kindB_ok h6
      have ky : X.env.kindOf y = some .local := by
        show X.env.scope.names.lookup y = _
        rw [o.sce]
        exact kindB_ok h7
      have z := ps_try_keep (np := np) (py := py) (pn' := pm) (ap := ap) (pos' := hp) (pos := p) (tb := fun W => wpSs { D with W := W } b) (Wout := D.W) (c := .ref a) o.stk o.frm o.exn (by rw [o.e.N]; exact o.e.nd) (by rw [o.e.N]; exact lookS_ok h4) (by rw [o.e.N]; exact lookS_ok h5) kn ky hij (noDb_ok h9).1 (noDb_ok h9).2.1
        ⟨o.e.gl x h2, (noDb_ok h3).1, .inl e2⟩ o.e.tk fun W pn xe tk ps => soundSs b (o.tr tk ps) h10
      refine ⟨fun pins s σ H E I q => z.run pins s σ H E I ?_⟩
      have q : (match D.ex[c]? with
        | some a => wpSs { D with W := wKeep D.K (.ref a) i j D.W E } b E σ H
        | none => False) := q
      rw [e1] at q
      show wpSs { D with W := wKeep X.K (.ref a) i j D.W E } b E σ H
      rw [o.e.K]
      exact q
  | .brk, st, X, C, D, o, h => by
    cases st with
    | Break p => exact ps_break
    | _ => exact no h
  | .cnt, st, X, C, D, o, h => by
    cases st with
    | Continue p => exact ps_continue
    | _ => exact no h
  | .pass, st, X, C, D, o, h => by
    cases st with
    | Pass p => exact ps_pass
    | _ => exact no h
theorem soundSs : ∀ (r : RSs) {sts : List Stmt} {X : Cx} {C : Ct} {D : Dn}, XOkS X C D → ckSs C r sts = true → PSs X sts (wpSs D r)
  | .nil, [], X, C, D, o, h => pss_nil
  | .nil, _ :: _, X, C, D, o, h => no h
  | .cons a r, [], X, C, D, o, h => no h
  | .cons a r, st :: sts, X, C, D, o, h => by
    obtain ⟨h1, h2⟩ := and2 (show (ckS C a st && ckSs C r sts) = true from h)
    exact pss_cons (soundS a o h1) (soundSs r o h2)
end
end
end Rf
set_option Elab.async false
set_option autoImplicit false
set_option linter.all false
set_option maxRecDepth 100000
set_option maxHeartbeats 4000000
/-! A def keeps its promise; the frame: what a call doesn't look at stays. -/
namespace Rf
open PySem PySem.Spec PyProof.Rows L2

/-! ### tables -/
structure Gb where
  sp : List Sp
  fa : List Addr
  gv : List V
  ex : List Addr
def dn (K : PySem.W.Frag) (E : XK) (G : Gb) : Dn := { K := K, W := fun cls d _ H => E cls d H, sp := G.sp, fa := G.fa, gv := G.gv, ex := G.ex }
structure GOk (P : Program) (w : World) (K : PySem.W.Frag) (mg : Str → Option Value) (base : Heap) (k : Nat) (C : Ct) (G : Gb) : Prop where
  fn : ∀ (i : Nat) (x : Str), C.fns[i]? = some x → ∃ (s : Sp) (f : Addr) (fd : FuncData) (ps : List Str), G.sp[i]? = some s ∧ G.fa[i]? = some f ∧ mg x = some (.ref f) ∧ PySem.W.keepIn K (.ref f) = true ∧ FnOk P w K mg base (L2.CX P w) k f fd ps s ∧ Binds K fd ps []
  fl : G.sp.length = C.fns.length ∧ G.fa.length = C.fns.length
  gs : ∀ (i : Nat) (x : Str), C.gs[i]? = some x → ∃ (v : V) (u : Value), G.gv[i]? = some v ∧ mg x = some u ∧ RelV v u
  fr : ∀ x, x ∈ C.fr → mg x = none
  exs : ∀ (i : Nat) (x : Str), C.ex[i]? = some x → ∃ a : Addr, G.ex[i]? = some a ∧ mg x = some (.ref a) ∧ PySem.W.excIn K a He.veBase "ValueError.__new__" = true ∧ PySem.W.keepIn K (.ref a) = true ∧
    PySem.W.subIn K (.ref a) (.type "BaseException") = some true ∧ PySem.W.typeIn K (.ref a) = some (.type "type")
def scB (N ps : List Str) (sc : Scope) : Bool := (match sc.kind with
  | .function => true
  | _ => false) && (!sc.isCoroutine && (!sc.isGenerator && (decide N.Nodup && (decide (N.take ps.length = ps) && (ps.all (locB sc) && sc.names.all fun y => !decide (y.2 = .free))))))
def defB (C : Ct) (ps : List Str) (rs : RSs) (body : List Stmt) : Bool := scB C.N ps C.sc && ckSs C rs body
theorem scB_ok {N ps : List Str} {sc : Scope} (h : scB N ps sc = true) : FnScope N ps sc := by
  unfold scB at h
  obtain ⟨h1, h2⟩ := and2 h
  obtain ⟨h2, h3⟩ := and2 h2
  obtain ⟨h3, h4⟩ := and2 h3
  obtain ⟨h4, h5⟩ := and2 h4
  obtain ⟨h5, h6⟩ := and2 h5
  obtain ⟨h6, h7⟩ := and2 h6
  refine ⟨?_, by simpa using h2, by simpa using h3, of_decide_eq_true h4, of_decide_eq_true h5, fun x hx => ?_, fun y hy => ?_⟩
  · split at h1
    · assumption
    · cases h1
  · have q := List.all_eq_true.mp h6 x hx
    unfold locB at q
    split at q
    · exact .inl (by assumption)
    · exact .inr (by assumption)
    · cases q
  · have q := List.all_eq_true.mp h7 y hy
    simpa using q
section
variable {P : Program} {w : World} {K : PySem.W.Frag} {mg : Str → Option Value} {base : Heap}
theorem ctx_ok {C : Ct} {G : Gb} {k : Nat} {ps : List Str} (S : FnScope C.N ps C.sc) (g : GOk P w K mg base k C G) (qual : Str) (f : Addr) (cdv : Value) (A : Around) (outer : List Env) (s : Shared) (H : Hp) (E : XK)
    (hr : Room k (A.deeper (envOfC qual C.sc s.heap.objs.size f cdv))) : XOkS (cxOf (L2.CX P w) P w K mg base C.N qual C.sc f cdv A outer s H E) C (dn K E G) := by
  refine ⟨⟨rfl, S.nd, fun x hx => ?_, fun x hx => ?_, fun x hx => ?_, fun sc own hb => blkOk_by hb, rfl, rfl, takes_of rfl rfl rfl rfl, hr.mono (Nat.zero_le _), fun i x hx => ?_, g.fl, g.gs, g.fr⟩, rfl, S.kind, fun _ => rfl, rfl, rfl, rfl, passes_of rfl, fun i x hx => ?_⟩
  · unfold visB at hx
    split at hx
    · exact .inl (by assumption)
    · exact .inr (.inl (by assumption))
    · exact .inr (.inr (by assumption))
    · cases hx
  · unfold glB at hx
    split at hx
    · assumption
    · cases hx
  · unfold locB at hx
    split at hx
    · exact ⟨.inl (by assumption), .inl rfl⟩
    · exact ⟨.inr (by assumption), .inl rfl⟩
    · cases hx
  · obtain ⟨s', f', fd', ps', h1, h2, h3, h4, h5, h6⟩ := g.fn i x hx
    exact ⟨s', f', fd', ps', k, h1, h2, h3, h4, h5, hr, h6⟩
  · obtain ⟨a, h1, h2, h3, h4, h5, h6⟩ := g.exs i x hx
    exact ⟨a, h1, h2, h3, h4, raises_own h5 h6⟩
/-- THE RULE for a def -/
theorem def_ok {x qual : Str} {params : Arguments} {body : List Stmt} {dvs : List V} {kws : List (Str × V)} {f : Addr} {fd : FuncData} {C : Ct} {G : Gb} {k : Nat} {ps : List Str} {rs : RSs} {sp : Sp}
    (F : FunD K x qual params body C.sc dvs kws f fd) (ck : defB C ps rs body = true) (len : ∀ vs H Q E, sp vs H Q E → vs.length = ps.length) (g : GOk P w K mg base k C G)
    (sem : ∀ vs H Q E, sp vs H Q E → wpSs (dn K E G) rs { nx := fun _ H' => Q .non H', rt := Q } (start C.N vs) H) : FnOk P w K mg base (L2.CX P w) (k + 1) f fd ps sp := by
  obtain ⟨c1, c2⟩ := and2 ck
  have S := scB_ok c1
  exact F.ok S len fun cdv A outer s H vs Q E hr h => ⟨_, soundSs rs (ctx_ok S g qual f cdv A outer s H E hr) c2, sem vs H Q E h⟩
end

/-! ### the frame -/
def flatO : HO → Bool
  | .lst _ => true | .tup _ => true | .dK _ => true
  | .frz _ (.lst _) => true | .frz _ (.tup _) => true | .frz _ (.dK _) => true
  | _ => false
theorem flat_any {P : Program} {w : World} {H H' : Hp} {h : Heap} {a : Addr} {o : HO} (f : flatO o = true) (x : ObjOk P w H h a o) : ObjOk P w H' h a o := by
  cases o with
  | lst _ => exact x
  | tup _ => exact x
  | dK _ => exact x
  | frz ob u =>
    cases u with
    | lst _ => exact x
    | tup _ => exact x
    | dK _ => exact x
    | _ => cases f
  | _ => cases f
/-- H at the places p alone -/
def rst (H : Hp) (p : Addr → Bool) : Hp := fun b => if p b = true then H b else none
theorem rst_y {H : Hp} {p : Addr → Bool} {b : Addr} (h : p b = true) : rst H p b = H b := if_pos h
theorem rst_n {H : Hp} {p : Addr → Bool} {b : Addr} (h : p b = false) : rst H p b = none := if_neg (by rw [h]; decide)
theorem rst_none {H : Hp} {p : Addr → Bool} {b : Addr} (h : H b = none) : rst H p b = none := by
  unfold rst
  rw [h]
  split <;> rfl
def SubOk (H : Hp) (p : Addr → Bool) : Prop := ∀ b o, p b = true → H b = some o → flatO o = true
/-- behind the call: what stood at p as it is now, the new things at q, all else as it was -/
def join (H : Hp) (p q : Addr → Bool) (H1 : Hp) : Hp := fun b => if ((p b && (H b).isSome) || q b) = true then H1 b else H b
def JoinOk (H : Hp) (p q : Addr → Bool) (H1 : Hp) : Prop := ∀ b, ((p b && (H b).isSome) || q b) = true → ∃ o, H1 b = some o ∧ flatO o = true
section
variable {P : Program} {w : World} {H H1 : Hp} {h h' B : Heap} {p q : Addr → Bool} {fs : List Addr}
theorem sub_hok (ok : HOk P w H h) (s : SubOk H p) : HOk P w (rst H p) h := fun a o e => by
  cases hp : p a with
  | false => rw [rst_n hp] at e; cases e
  | true =>
    rw [rst_y hp] at e
    exact flat_any (s a o hp e) (ok a o e)
theorem sel_no {b : Addr} {o : Obj} (s : SubOk H p) (j : JoinOk H p q H1) (fr : ∀ b o, h.get? b = some o → rst H p b = none → H1 b = none) (e : h.get? b = some o) (n : rst H p b = none) : ((p b && (H b).isSome) || q b) = false := by
  cases hb : ((p b && (H b).isSome) || q b) with
  | false => rfl
  | true =>
    obtain ⟨o1, e1, _⟩ := j b hb
    rw [fr b o e n] at e1
    cases e1
theorem out_of {b : Addr} {u : HO} (e : H b = some u) (hf : ((p b && (H b).isSome) || q b) = false) : p b = false := by
  rw [e] at hf
  cases hp : p b with
  | false => rfl
  | true => rw [hp] at hf; cases hf
theorem join_hok (ok : HOk P w H h) (s : SubOk H p) (j : JoinOk H p q H1) (hfs : ∀ b ∈ fs, H b = none) (fr : ∀ b o, h.get? b = some o → rst H p b = none → H1 b = none)
    (kp : ∀ b o, h.get? b = some o → rst H p b = none → b ∉ fs → B.get? b = some o) (tups : ∀ b xs, rst H p b = some (.tup xs) → H1 b = some (.tup xs)) (ok1 : HOk P w H1 B) : HOk P w (join H p q H1) B := fun b u e => by
  have tg : ∀ c o, H c = some o → ∃ ob, h.get? c = some ob := fun c o z => objOk_get (ok c o z)
  have tupJ : ∀ c xs, H c = some (.tup xs) → join H p q H1 c = some (.tup xs) := fun c xs z => by
    unfold join
    split
    · cases hp : p c with
      | true => exact tups c xs (by rw [rst_y hp]; exact z)
      | false =>
        rename_i hs
        obtain ⟨ob, ho⟩ := tg c _ z
        rw [sel_no s j fr ho (rst_n hp)] at hs
        cases hs
    · exact z
  unfold join at e
  split at e
  · rename_i hs
    obtain ⟨o, e1, f⟩ := j b hs
    rw [e1] at e
    cases e
    exact flat_any f (ok1 b _ e1)
  · rename_i hs
    have hs : ((p b && (H b).isSome) || q b) = false := by simpa using hs
    have hp := out_of e hs
    refine (ok b u e).stay (fun c v hc r => ?_) (fun c r => ?_) tupJ
    · have np : p c = false := by
        rcases hc with z | z
        · rw [z]; exact hp
        · cases hq : p c with
          | false => rfl
          | true => have y := s c _ hq z; cases y
      have nf : c ∉ fs := fun hm => by
        have y := hfs c hm
        rcases hc with z | z
        · rw [z, e] at y; cases y
        · rw [z] at y; cases y
      exact kp c v r (rst_n np) nf
    · have np : p c = false := by
        cases hq : p c with
        | false => rfl
        | true => have y := s c _ hq r; cases y
      obtain ⟨ob, ho⟩ := tg c _ r
      unfold join
      rw [if_neg (by rw [sel_no s j fr ho (rst_n np)]; decide)]
      exact r
end
theorem FnOk.frame {P : Program} {w : World} {K : PySem.W.Frag} {mg : Str → Option Value} {base : Heap} {k : Nat} {f : Addr} {fd : FuncData} {ps : List Str} {sp : Sp} (F : FnOk P w K mg base (L2.CX P w) k f fd ps sp) :
    FnOk P w K mg base (L2.CX P w) k f fd ps (fun vs H Q E => ∃ p : Addr → Bool, SubOk H p ∧ sp vs (rst H p) (fun v H1 => ∃ q, JoinOk H p q H1 ∧ Q v (join H p q H1)) (fun c d H1 => ∃ q, JoinOk H p q H1 ∧ E c d (join H p q H1))) := by
  refine ⟨fun vs H Q E ⟨p, _, h⟩ => F.len _ _ _ _ h, fun A outer s H args us vs Q E hr e0 hb r ⟨p, sb, h⟩ => ?_⟩
  have e1 : Env0 P w K mg base A outer s (rst H p) := ⟨e0.frames, e0.mod, fun b o e => ⟨(e0.bs b o e).1, rst_none (e0.bs b o e).2⟩, e0.bsz, e0.funs, fun b hb => rst_none (e0.frf b hb), sub_hok e0.hok sb, e0.bare⟩
  have tg : ∀ c o, H c = some o → ∃ ob, s.heap.get? c = some ob := fun c o z => objOk_get (e0.hok c o z)
  refine codeAny_mono (F.run A outer s (rst H p) args us vs _ _ hr e1 hb r h) fun res s' hq => ?_
  cases res with
  | error e =>
    obtain ⟨a, B, H1, cls, d, rfl, fl, hok, ub, na, os, ag, q, j, hE⟩ := hq
    have fr : ∀ b o, s.heap.get? b = some o → rst H p b = none → H1 b = none := ub.free
    have nj : join H p q H1 a = none := by
      unfold join
      split
      · exact na
      · cases z : H a with
        | none => rfl
        | some o =>
          rename_i hs
          have hs : ((p a && (H a).isSome) || q a) = false := by simpa using hs
          obtain ⟨ob, ho⟩ := tg a o z
          have nf : a ∉ frs outer := fun hm => by
            rw [e0.frf a hm] at z
            cases z
          have y := ub.keep a ob ho (rst_n (out_of z hs)) nf
          rw [fl.2.1] at y
          cases y
    refine ⟨a, B, join H p q H1, cls, d, rfl, fl, join_hok e0.hok sb j e0.frf fr ub.keep ub.tups hok, ⟨fun b o e n hf => ub.keep b o e (rst_none n) hf, ub.slot, fun b o e n => ?_, ub.there, fun b xs e => ?_, fun b o u e => ?_, fun b ts e => ?_⟩, nj, os, ag, hE⟩
    · unfold join
      rw [if_neg (by rw [sel_no sb j fr e (rst_none n)]; decide)]
      exact n
    · unfold join
      split
      · cases hp : p b with
        | true => exact ub.tups b xs (by rw [rst_y hp]; exact e)
        | false =>
          rename_i hs
          obtain ⟨ob, ho⟩ := tg b _ e
          rw [sel_no sb j fr ho (rst_n hp)] at hs
          cases hs
      · exact e
    · unfold join
      split
      · cases hp : p b with
        | true => exact ub.frzs b o u (by rw [rst_y hp]; exact e)
        | false =>
          rename_i hs
          obtain ⟨ob, ho⟩ := tg b _ e
          rw [sel_no sb j fr ho (rst_n hp)] at hs
          cases hs
      · exact e
    · have hp : p b = false := by
        cases hp : p b with
        | false => rfl
        | true => have y := sb b _ hp e; cases y
      obtain ⟨ob, ho⟩ := tg b _ e
      refine ⟨#[], ?_⟩
      unfold join
      rw [if_neg (by rw [sel_no sb j fr ho (rst_n hp)]; decide), e]
      simp
  | ok fl =>
    cases fl with
    | next => exact False.elim hq
    | brk => exact False.elim hq
    | cont => exact False.elim hq
    | ret u =>
      obtain ⟨v, H1, os, bare, un, hok, rv, q, j, hQ⟩ := hq
      have fr : ∀ b o, s.heap.get? b = some o → rst H p b = none → H1 b = none := fun b o e n => un.free b o e n (by simp)
      have kp : ∀ b o, s.heap.get? b = some o → rst H p b = none → b ∉ frs outer → s'.heap.get? b = some o := fun b o e n hf => un.keep b o e n hf (by simp)
      refine ⟨v, join H p q H1, os, bare, ⟨fun b o e n hf _ => kp b o e (rst_none n) hf, fun b o e n hf hx => un.slot b o e (rst_none n) hf hx, fun b o e n _ => ?_, un.there, fun b xs e => ?_, fun b o u e => ?_, fun b ts e => ?_⟩, join_hok e0.hok sb j e0.frf fr kp un.tups hok, rv, hQ⟩
      · unfold join
        rw [if_neg (by rw [sel_no sb j fr e (rst_none n)]; decide)]
        exact n
      · unfold join
        split
        · cases hp : p b with
          | true => exact un.tups b xs (by rw [rst_y hp]; exact e)
          | false =>
            rename_i hs
            obtain ⟨ob, ho⟩ := tg b _ e
            rw [sel_no sb j fr ho (rst_n hp)] at hs
            cases hs
        · exact e
      · unfold join
        split
        · cases hp : p b with
          | true => exact un.frzs b o u (by rw [rst_y hp]; exact e)
          | false =>
            rename_i hs
            obtain ⟨ob, ho⟩ := tg b _ e
            rw [sel_no sb j fr ho (rst_n hp)] at hs
            cases hs
        · exact e
      · have hp : p b = false := by
          cases hp : p b with
          | false => rfl
          | true => have y := sb b _ hp e; cases y
        obtain ⟨ob, ho⟩ := tg b _ e
        refine ⟨#[], ?_⟩
        unfold join
        rw [if_neg (by rw [sel_no sb j fr ho (rst_n hp)]; decide), e]
        simp
end Rf
namespace Rf
open PySem PySem.Spec PyProof.Rows L2
theorem join_same {H H1 : Hp} {p : Addr → Bool} (s : SubOk H p) (e : Same (rst H p) H1) : JoinOk H p (fun _ => false) H1 ∧ join H p (fun _ => false) H1 = H := by
  have key : ∀ b, ((p b && (H b).isSome) || false) = true → ∃ o, H b = some o ∧ p b = true ∧ H1 b = some o := fun b hb => by
    rw [Bool.or_false, Bool.and_eq_true] at hb
    obtain ⟨o, ho⟩ := Option.isSome_iff_exists.mp hb.2
    exact ⟨o, ho, hb.1, e b o (by rw [rst_y hb.1]; exact ho)⟩
  refine ⟨fun b hb => ?_, ?_⟩
  · obtain ⟨o, h1, h2, h3⟩ := key b hb
    exact ⟨o, h3, s b o h2 h1⟩
  · funext b
    unfold join
    split
    · rename_i hb
      obtain ⟨o, h1, h2, h3⟩ := key b hb
      rw [h1, h3]
    · rfl
section
variable {P : Program} {w : World} {K : PySem.W.Frag} {mg : Str → Option Value} {base : Heap} {k : Nat} {f : Addr} {fd : FuncData} {ps : List Str}
/-- a def that answers by a value and leaves nothing that matters -/
theorem FnOk.exact {R : List V → Hp → V → Prop} (F : FnOk P w K mg base (L2.CX P w) k f fd ps (fun vs H Q _ => ∃ r, R vs H r ∧ ∀ H', Same H H' → Q r H'))
    (loc : ∀ vs H r, R vs H r → ∃ p, SubOk H p ∧ R vs (rst H p) r) : FnOk P w K mg base (L2.CX P w) k f fd ps (fun vs H Q _ => ∃ r, R vs H r ∧ Q r H) :=
  (Rf.FnOk.frame F).imp fun vs H Q E ⟨r, hR, hQ⟩ => by
    obtain ⟨p, s, hp⟩ := loc vs H r hR
    refine ⟨p, s, r, hp, fun H' e => ?_⟩
    obtain ⟨j, je⟩ := join_same s e
    exact ⟨_, j, by rw [je]; exact hQ⟩
/-- the same of a def that may refuse instead (errors without a field) -/
theorem FnOk.exactX {R : List V → Hp → V → Prop} {RE : List V → Hp → Value → Prop} (F : FnOk P w K mg base (L2.CX P w) k f fd ps (fun vs H Q E => (∃ r, R vs H r ∧ ∀ H', Same H H' → Q r H') ∨ (∃ c, RE vs H c ∧ ∀ H', Same H H' → E c none H')))
    (loc : ∀ vs H r, R vs H r → ∃ p, SubOk H p ∧ R vs (rst H p) r) (locE : ∀ vs H r, RE vs H r → ∃ p, SubOk H p ∧ RE vs (rst H p) r) :
    FnOk P w K mg base (L2.CX P w) k f fd ps (fun vs H Q E => (∃ r, R vs H r ∧ Q r H) ∨ (∃ c, RE vs H c ∧ E c none H)) :=
  (Rf.FnOk.frame F).imp fun vs H Q E hh => by
    rcases hh with ⟨r, hR, hQ⟩ | ⟨r, hR, hQ⟩
    · obtain ⟨p, s, hp⟩ := loc vs H r hR
      refine ⟨p, s, .inl ⟨r, hp, fun H' e => ?_⟩⟩
      obtain ⟨j, je⟩ := join_same s e
      exact ⟨_, j, by rw [je]; exact hQ⟩
    · obtain ⟨p, s, hp⟩ := locE vs H r hR
      refine ⟨p, s, .inr ⟨r, hp, fun H' e => ?_⟩⟩
      obtain ⟨j, je⟩ := join_same s e
      exact ⟨_, j, by rw [je]; exact hQ⟩
end
theorem Same.up {H H' : Hp} {p : Addr} {o : HO} (e : Same H H') (h : H' p = none) : Same H (upd H' p o) := fun b u hb => by
  rw [upd_ne (ne_of_none (e b u hb) h)]
  exact e b u hb
/-- a change of a new thing -/
theorem Same.mut {H H' : Hp} {p : Addr} {o : HO} (e : Same H H') (h : H p = none) : Same H (upd H' p o) := fun b u hb => by
  rw [upd_ne (ne_of_none hb h)]
  exact e b u hb
/-- nothing is looked at -/
theorem sub0 (H : Hp) : SubOk H fun _ => false := fun _ _ h => by cases h
end Rf
set_option Elab.async false
set_option autoImplicit false
set_option linter.all false
set_option maxRecDepth 100000
set_option maxHeartbeats 4000000
/-! Pure promises; loops and comprehensions over texts and ranges; flat lists compared. -/
namespace Rf
open PySem PySem.Spec PyProof.Rows L2
/-- a def that answers by a value found from its arguments alone -/
def spP (f : List V → Option V) : Sp := fun vs H Q _ => match f vs with
  | some r => Q r H
  | none => False
/-- the same where the heap is looked at -/
def spK (f : List V → Hp → Option V) : Sp := fun vs H Q _ => match f vs H with
  | some r => Q r H
  | none => False
section
variable {P : Program} {w : World} {K : PySem.W.Frag} {mg : Str → Option Value} {base : Heap}
theorem def_pure {x qual : Str} {params : Arguments} {body : List Stmt} {dvs : List V} {kws : List (Str × V)} {f : Addr} {fd : FuncData} {C : Ct} {G : Gb} {k : Nat} {ps : List Str} {rs : RSs} (g : List V → Option V)
    (F : FunD K x qual params body C.sc dvs kws f fd) (ck : defB C ps rs body = true) (go : GOk P w K mg base k C G) (len : ∀ vs r, g vs = some r → vs.length = ps.length)
    (sem : ∀ vs r H Q E, g vs = some r → (∀ H', Same H H' → Q r H') → wpSs (dn K E G) rs { nx := fun _ H' => Q .non H', rt := Q } (start C.N vs) H) : FnOk P w K mg base (L2.CX P w) (k + 1) f fd ps (spP g) := by
  have F1 : FnOk P w K mg base (L2.CX P w) (k + 1) f fd ps (fun vs H Q _ => ∃ r, g vs = some r ∧ ∀ H', Same H H' → Q r H') :=
    def_ok F ck (fun vs H Q E ⟨r, h, _⟩ => len vs r h) go fun vs H Q E ⟨r, h, hq⟩ => sem vs r H Q E h hq
  refine (FnOk.exact (R := fun vs H r => g vs = some r) F1 fun vs H r h => ⟨fun _ => false, sub0 H, h⟩).imp fun vs H Q E h => ?_
  unfold spP at h
  cases e : g vs with
  | none => rw [e] at h; exact h.elim
  | some r => rw [e] at h; exact ⟨r, rfl, h⟩
theorem def_kind {x qual : Str} {params : Arguments} {body : List Stmt} {dvs : List V} {kws : List (Str × V)} {f : Addr} {fd : FuncData} {C : Ct} {G : Gb} {k : Nat} {ps : List Str} {rs : RSs} (g : List V → Hp → Option V)
    (F : FunD K x qual params body C.sc dvs kws f fd) (ck : defB C ps rs body = true) (go : GOk P w K mg base k C G) (len : ∀ vs H r, g vs H = some r → vs.length = ps.length)
    (loc : ∀ vs H r, g vs H = some r → ∃ p, SubOk H p ∧ g vs (rst H p) = some r)
    (sem : ∀ vs r H Q E, g vs H = some r → (∀ H', Same H H' → Q r H') → wpSs (dn K E G) rs { nx := fun _ H' => Q .non H', rt := Q } (start C.N vs) H) : FnOk P w K mg base (L2.CX P w) (k + 1) f fd ps (spK g) := by
  have F1 : FnOk P w K mg base (L2.CX P w) (k + 1) f fd ps (fun vs H Q _ => ∃ r, g vs H = some r ∧ ∀ H', Same H H' → Q r H') :=
    def_ok F ck (fun vs H Q E ⟨r, h, _⟩ => len vs H r h) go fun vs H Q E ⟨r, h, hq⟩ => sem vs r H Q E h hq
  refine (FnOk.exact (R := fun vs H r => g vs H = some r) F1 loc).imp fun vs H Q E h => ?_
  unfold spK at h
  cases e : g vs H with
  | none => rw [e] at h; exact h.elim
  | some r => rw [e] at h; exact ⟨r, rfl, h⟩
end

/-! ### a text, sign by sign -/
theorem its_at {x : Str} {i : Nat} {c : Nat} : x.cps[i]? = some c ↔ (tl x)[i]? = some c := by
  unfold tl
  rw [Array.getElem?_toList]
theorem its_sz (x : Str) : x.cps.size = (tl x).length := by
  unfold tl
  simp
theorem take_fm {f : Nat → Option V} {l : List Nat} {i : Nat} {c : Nat} (h : l[i]? = some c) : (l.take (i + 1)).filterMap f = (l.take i).filterMap f ++ (f c).toList := by
  rw [List.take_add_one, h, List.filterMap_append]
  congr 1
theorem fm_len {f : Nat → Option V} {l : List Nat} {i n : Nat} (h : l.length ≤ n) (hi : i < l.length) : ((l.take i).filterMap f).length < n :=
  Nat.lt_of_le_of_lt (Nat.le_trans (List.length_filterMap_le _ _) (by rw [List.length_take]; omega)) (Nat.lt_of_lt_of_le hi h)
/-- a comprehension over a text; f: what a sign gives -/
theorem lc_str {x : Str} {g : TG} {tt : TT} {te : TE} {vs : List Nat} {σ : L2.St} {H1 : Hp} {D : Addr} {Qd : Hp → Prop} (f : Nat → Option V) (hl : (tl x).length ≤ line)
    (hs : ∀ c acc (Nx : Hp → Prop), c ∈ tl x → acc.length < sizeLine → Nx (upd H1 D (.lst (acc ++ (f c).toList))) → g (.str (sOf [c])) (wipe σ vs) (upd H1 D (.lst acc)) fun σ2 H2 => wipe σ2 vs = wipe σ vs ∧ tt σ2 H2 fun b H3 =>
      if b = true then te σ2 H3 fun y H4 => ∃ acc, H4 D = some (.lst acc) ∧ acc.length < sizeLine ∧ Nx (upd H4 D (.lst (acc ++ [y]))) else Nx H3) (hd : Qd (upd H1 D (.lst ((tl x).filterMap f)))) :
    ∃ W : Nat → Nat → Hp → Prop, (∃ m, W 0 m (upd H1 D (.lst []))) ∧ ∀ i m H, W i m H →
      ((Its x).stop i H ∧ Qd H) ∨ ((Its x).go i H ∧ ∃ Nx : Hp → Prop, (∀ H', Nx H' → ∃ m', m' < m ∧ W (i + 1) m' H') ∧ ∀ v H', (Its x).yld i H v H' → g v (wipe σ vs) H' fun σ2 H2 => wipe σ2 vs = wipe σ vs ∧ tt σ2 H2 fun b H3 =>
        if b = true then te σ2 H3 fun y H4 => ∃ acc, H4 D = some (.lst acc) ∧ acc.length < sizeLine ∧ Nx (upd H4 D (.lst (acc ++ [y]))) else Nx H3) := by
  refine ⟨fun i m H => m = (tl x).length - i ∧ i ≤ (tl x).length ∧ H = upd H1 D (.lst (((tl x).take i).filterMap f)), ⟨(tl x).length, by simp, Nat.zero_le _, by simp⟩, ?_⟩
  rintro i m H ⟨rfl, hi, rfl⟩
  by_cases hlt : i < (tl x).length
  · refine .inr ⟨by rw [← its_sz] at hlt; exact hlt, fun H' => H' = upd H1 D (.lst (((tl x).take (i + 1)).filterMap f)), fun H' p' => ⟨(tl x).length - (i + 1), by omega, rfl, hlt, p'⟩, fun v H' y => ?_⟩
    obtain ⟨e, c, hc, ev⟩ := y
    subst e
    subst ev
    have hc' := its_at.mp hc
    refine hs c _ _ (List.mem_of_getElem? hc') (fm_len (by rw [line_eq]; exact hl) hlt) ?_
    show upd H1 D _ = upd H1 D _
    rw [take_fm hc']
  · have e : i = (tl x).length := by omega
    refine .inl ⟨by rw [e, ← its_sz]; exact Nat.le_refl _, ?_⟩
    rw [e, List.take_length]
    exact hd
/-- a loop over a text; Pv by the signs that lie behind -/
theorem for_str {x : Str} {g : TG} {tb : TS} {D : Ends} {σ : L2.St} {H : Hp} (Pv : Cs → L2.St → Hp → Prop) (h0 : Pv [] σ H)
    (hs : ∀ pre c post σ H, tl x = pre ++ c :: post → Pv pre σ H → g (.str (sOf [c])) σ H fun σ2 H2 => tb { D with nx := Pv (pre ++ [c]), ct := Pv (pre ++ [c]), bk := D.nx } σ2 H2) (hd : ∀ σ H, Pv (tl x) σ H → D.nx σ H) :
    ∃ W : Nat → Nat → L2.St → Hp → Prop, (∃ m, W 0 m σ H) ∧ ∀ i m σ H, W i m σ H →
      ((Its x).stop i H ∧ D.nx σ H) ∨ ((Its x).go i H ∧ ∃ N : L2.St → Hp → Prop, (∀ σ' H', N σ' H' → ∃ m', m' < m ∧ W (i + 1) m' σ' H') ∧ ∀ v H', (Its x).yld i H v H' → g v σ H' fun σ2 H2 => tb { D with nx := N, ct := N, bk := D.nx } σ2 H2) := by
  refine ⟨fun i m σ H => m = (tl x).length - i ∧ i ≤ (tl x).length ∧ Pv ((tl x).take i) σ H, ⟨(tl x).length, by simp, Nat.zero_le _, by simpa using h0⟩, ?_⟩
  rintro i m σ H ⟨rfl, hi, p⟩
  by_cases hlt : i < (tl x).length
  · refine .inr ⟨by rw [← its_sz] at hlt; exact hlt, Pv ((tl x).take (i + 1)), fun σ' H' p' => ⟨(tl x).length - (i + 1), by omega, rfl, hlt, p'⟩, fun v H' y => ?_⟩
    obtain ⟨e, c, hc, ev⟩ := y
    subst e
    subst ev
    have hc' := its_at.mp hc
    have es : (tl x).take (i + 1) = (tl x).take i ++ [c] := by
      rw [List.take_add_one, hc']
      rfl
    rw [es]
    refine hs _ c ((tl x).drop (i + 1)) σ H' ?_ p
    have q := List.take_append_drop (i + 1) (tl x)
    rw [es, List.append_assoc] at q
    exact q.symm
  · have e : i = (tl x).length := by omega
    refine .inl ⟨by rw [e, ← its_sz]; exact Nat.le_refl _, hd σ H ?_⟩
    rw [e, List.take_length] at p
    exact p
/-- a comprehension over a range; f: what a number gives -/
theorem lc_rng {lo : Int} {n : Nat} {g : TG} {tt : TT} {te : TE} {vs : List Nat} {σ : L2.St} {H1 : Hp} {D : Addr} {Qd : Hp → Prop} (f : Nat → Option V) (hl : n ≤ line)
    (hs : ∀ i acc (Nx : Hp → Prop), i < n → acc.length < sizeLine → Nx (upd H1 D (.lst (acc ++ (f i).toList))) → g (.int (lo + i)) (wipe σ vs) (upd H1 D (.lst acc)) fun σ2 H2 => wipe σ2 vs = wipe σ vs ∧ tt σ2 H2 fun b H3 =>
      if b = true then te σ2 H3 fun y H4 => ∃ acc, H4 D = some (.lst acc) ∧ acc.length < sizeLine ∧ Nx (upd H4 D (.lst (acc ++ [y]))) else Nx H3) (hd : Qd (upd H1 D (.lst ((List.range n).filterMap f)))) :
    ∃ W : Nat → Nat → Hp → Prop, (∃ m, W 0 m (upd H1 D (.lst []))) ∧ ∀ i m H, W i m H →
      ((Itr lo n).stop i H ∧ Qd H) ∨ ((Itr lo n).go i H ∧ ∃ Nx : Hp → Prop, (∀ H', Nx H' → ∃ m', m' < m ∧ W (i + 1) m' H') ∧ ∀ v H', (Itr lo n).yld i H v H' → g v (wipe σ vs) H' fun σ2 H2 => wipe σ2 vs = wipe σ vs ∧ tt σ2 H2 fun b H3 =>
        if b = true then te σ2 H3 fun y H4 => ∃ acc, H4 D = some (.lst acc) ∧ acc.length < sizeLine ∧ Nx (upd H4 D (.lst (acc ++ [y]))) else Nx H3) := by
  refine lc_range (fun i H => H = upd H1 D (.lst ((List.range i).filterMap f))) (by simp) (fun i H hi e => ?_) fun H e => by subst e; exact hd
  subst e
  refine hs i _ _ hi (Nat.lt_of_le_of_lt (Nat.le_trans (List.length_filterMap_le _ _) (by rw [List.length_range]; exact Nat.le_refl i)) (by rw [line_eq]; omega)) ?_
  show upd H1 D _ = upd H1 D _
  rw [List.range_succ, List.filterMap_append]
  congr 4

/-! ### flat lists compared -/
def pd : V → PyData
  | .bl b => .bool b | .int i => .int i | .str s => .str s | _ => .none
def okF : V → Bool
  | .non => true | .bl _ => true | .int _ => true | .str s => PyData.strOk s | _ => false
theorem dp_flat {K : PySem.W.Frag} {H : Hp} {v : V} (h : okF v = true) : Dp K H v (pd v) := by
  cases v with
  | non => exact .non
  | bl b => exact .bl b
  | int i => exact .int i
  | str s => exact .str s
  | _ => cases h
theorem dpAll_flat {K : PySem.W.Frag} {H : Hp} : ∀ {xs : List V}, xs.all okF = true → DpAll K H xs (xs.map pd)
  | [], _ => .nil
  | x :: xs, h => by
    rw [List.all_cons, Bool.and_eq_true] at h
    exact .cons (dp_flat h.1) (dpAll_flat h.2)
theorem lay_flat : ∀ {xs : List V}, xs.all okF = true → PyData.canLayAll0 (xs.map pd) = true ∧ PyData.depthAll (xs.map pd) = 0
  | [], _ => ⟨rfl, rfl⟩
  | x :: xs, h => by
    rw [List.all_cons, Bool.and_eq_true] at h
    obtain ⟨h1, h2⟩ := lay_flat h.2
    rw [List.map_cons]
    unfold PyData.canLayAll0 PyData.depthAll
    rw [h1, h2]
    cases x with
    | non => exact ⟨by simp [pd, PyData.canLay0], by simp [pd, PyData.depth]⟩
    | bl b => exact ⟨by simp [pd, PyData.canLay0], by simp [pd, PyData.depth]⟩
    | int i => exact ⟨by simp [pd, PyData.canLay0], by simp [pd, PyData.depth]⟩
    | str s =>
      have q : PyData.strOk s = true := h.1
      exact ⟨by simp [pd, PyData.canLay0, q], by simp [pd, PyData.depth]⟩
    | _ => cases h.1
theorem shaped_flat {xs : List V} (h : xs.all okF = true) : SeqAt.shaped (.list (xs.map pd)) = true := by
  obtain ⟨h1, h2⟩ := lay_flat h
  unfold SeqAt.shaped
  rw [Bool.and_eq_true]
  refine ⟨by unfold PyData.canLay0; exact h1, ?_⟩
  unfold PyData.depth
  rw [h2]
  decide
theorem rNe_flat {K : PySem.W.Frag} {H : Hp} {p q : Addr} {xs ys : List V} {Q : VK} (h1 : lstH H p = some xs) (h2 : lstH H q = some ys) (f1 : xs.all okF = true) (f2 : ys.all okF = true) (hq : Q (.bl (!PyData.eqvAll (xs.map pd) (ys.map pd))) H) : rNeX K (.ref p) (.ref q) H Q :=
  ⟨_, _, .lst (lstH_sq h1) (dpAll_flat f1), .lst (lstH_sq h2) (dpAll_flat f2), shaped_flat f1, shaped_flat f2, by unfold PyData.eqv; exact hq⟩
theorem rEq_flat {K : PySem.W.Frag} {H : Hp} {p q : Addr} {xs ys : List V} {Q : VK} (h1 : lstH H p = some xs) (h2 : lstH H q = some ys) (f1 : xs.all okF = true) (f2 : ys.all okF = true) (hq : Q (.bl (PyData.eqvAll (xs.map pd) (ys.map pd))) H) : rEqX K (.ref p) (.ref q) H Q :=
  ⟨_, _, .lst (lstH_sq h1) (dpAll_flat f1), .lst (lstH_sq h2) (dpAll_flat f2), shaped_flat f1, shaped_flat f2, by unfold PyData.eqv; exact hq⟩
theorem lst_upd {H : Hp} {p : Addr} {xs : List V} : lstH (upd H p (.lst xs)) p = some xs := by
  unfold lstH
  rw [upd_same]
/-- a heap with a new thing, seen from elsewhere -/
theorem upd_new {H : Hp} {p q : Addr} {o u : HO} (h : upd H p o q = none) : upd (upd H p o) q u p = some o := by
  rw [upd_ne (fun e => ?_), upd_same]
  rw [← e, upd_same] at h
  cases h
theorem bls_map {f : Nat → Bool} : ∀ l : List Nat, blsOf (l.filterMap fun c => some (V.bl (f c))) = some (l.map f)
  | [] => rfl
  | c :: r => by
    show (blsOf (r.filterMap fun c => some (V.bl (f c)))).map (f c :: ·) = _
    rw [bls_map r]
    rfl
end Rf
set_option Elab.async false
set_option autoImplicit false
set_option linter.all false
set_option maxRecDepth 100000
set_option maxHeartbeats 4000000
/-! From the head's facts to the tables of a def. -/
namespace Rf
open PySem PySem.Spec PyProof.Rows L2
/-- a def that keeps its promise, where it stands -/
def OkAt (P : Program) (w : World) (K : PySem.W.Frag) (mg : Str → Option Value) (base : Heap) (k : Nat) (x : Str) (ps : List Str) (s : Sp) : Prop :=
  ∃ fd, mg x = some (.ref (He.ga K x)) ∧ PySem.W.keepIn K (.ref (He.ga K x)) = true ∧ FnOk P w K mg base (L2.CX P w) k (He.ga K x) fd ps s ∧ Binds K fd ps []
section
variable {P : Program} {w : World} {K : PySem.W.Frag} {mg : Str → Option Value} {base : Heap} {k : Nat}
theorem OkAt.up {j : Nat} {x : Str} {ps : List Str} {s : Sp} (h : OkAt P w K mg base j x ps s) (l : j ≤ k) : OkAt P w K mg base k x ps s := by
  obtain ⟨fd, h1, h2, h3, h4⟩ := h
  exact ⟨fd, h1, h2, h3.mono l, h4⟩
inductive FnL (P : Program) (w : World) (K : PySem.W.Frag) (mg : Str → Option Value) (base : Heap) (k : Nat) : List Str → List Sp → List Addr → Prop
  | nil : FnL P w K mg base k [] [] []
  | cons {x : Str} {ps : List Str} {s : Sp} {j : Nat} {xs : List Str} {ss : List Sp} {fs : List Addr} (h : OkAt P w K mg base j x ps s) (l : j ≤ k) (t : FnL P w K mg base k xs ss fs) : FnL P w K mg base k (x :: xs) (s :: ss) (He.ga K x :: fs)
inductive GvL (mg : Str → Option Value) : List Str → List V → Prop
  | nil : GvL mg [] []
  | cons {x : Str} {v : V} {u : Value} {xs : List Str} {vs : List V} (h : mg x = some u) (r : RelV v u) (t : GvL mg xs vs) : GvL mg (x :: xs) (v :: vs)
inductive ExL (K : PySem.W.Frag) (mg : Str → Option Value) : List Str → List Addr → Prop
  | nil : ExL K mg [] []
  | cons {x : Str} {xs : List Str} {as : List Addr} (h : mg x = some (.ref (He.ga K x))) (c : (He.Fa.exc x).ok K = true) (t : ExL K mg xs as) : ExL K mg (x :: xs) (He.ga K x :: as)
theorem FnL.at_ {xs : List Str} {ss : List Sp} {fs : List Addr} (h : FnL P w K mg base k xs ss fs) : ∀ (i : Nat) (x : Str), xs[i]? = some x → ∃ (s : Sp) (f : Addr) (fd : FuncData) (ps : List Str), ss[i]? = some s ∧ fs[i]? = some f ∧ mg x = some (.ref f) ∧ PySem.W.keepIn K (.ref f) = true ∧ FnOk P w K mg base (L2.CX P w) k f fd ps s ∧ Binds K fd ps [] := by
  induction h with
  | nil => intro i x h; cases h
  | cons h l t ih =>
    intro i y hy
    cases i with
    | zero =>
      cases hy
      obtain ⟨fd, h1, h2, h3, h4⟩ := h
      exact ⟨_, _, fd, _, rfl, rfl, h1, h2, h3.mono l, h4⟩
    | succ i => exact ih i y hy
theorem FnL.len {xs : List Str} {ss : List Sp} {fs : List Addr} (h : FnL P w K mg base k xs ss fs) : ss.length = xs.length ∧ fs.length = xs.length := by
  induction h with
  | nil => exact ⟨rfl, rfl⟩
  | cons h l t ih => exact ⟨by rw [List.length_cons, List.length_cons, ih.1], by rw [List.length_cons, List.length_cons, ih.2]⟩
theorem GvL.at_ {xs : List Str} {vs : List V} (h : GvL mg xs vs) : ∀ (i : Nat) (x : Str), xs[i]? = some x → ∃ (v : V) (u : Value), vs[i]? = some v ∧ mg x = some u ∧ RelV v u := by
  induction h with
  | nil => intro i x h; cases h
  | cons h r t ih =>
    intro i y hy
    cases i with
    | zero => cases hy; exact ⟨_, _, rfl, h, r⟩
    | succ i => exact ih i y hy
theorem ExL.at_ {xs : List Str} {as : List Addr} (h : ExL K mg xs as) : ∀ (i : Nat) (x : Str), xs[i]? = some x → ∃ a : Addr, as[i]? = some a ∧ mg x = some (.ref a) ∧ PySem.W.excIn K a He.veBase "ValueError.__new__" = true ∧ PySem.W.keepIn K (.ref a) = true ∧
    PySem.W.subIn K (.ref a) (.type "BaseException") = some true ∧ PySem.W.typeIn K (.ref a) = some (.type "type") := by
  induction h with
  | nil => intro i x h; cases h
  | cons h c t ih =>
    intro i y hy
    cases i with
    | zero =>
      cases hy
      obtain ⟨c1, c2, c3, c4⟩ := He.exc_ok c
      exact ⟨_, rfl, h, c1, c2, c3, c4⟩
    | succ i => exact ih i y hy
theorem GOk.of {C : Ct} {G : Gb} (f : FnL P w K mg base k C.fns G.sp G.fa) (g : GvL mg C.gs G.gv) (r : ∀ x, x ∈ C.fr → mg x = none) (e : ExL K mg C.ex G.ex) : GOk P w K mg base k C G :=
  ⟨f.at_, f.len, g.at_, r, e.at_⟩
/-- a def that never lets an error out, told without one -/
theorem FnOk.cx0 {f : Addr} {fd : FuncData} {ps : List Str} {sp : Sp} (F : FnOk P w K mg base (L2.CX P w) k f fd ps sp) (h : ∀ vs H Q E, sp vs H Q E → sp vs H Q fun _ _ _ => False) : FnOk P w K mg base CX0 k f fd ps sp :=
  ⟨F.len, fun A outer s H args us vs Q E hr e0 hb r hs => codeAny_mono (F.run A outer s H args us vs Q (fun _ _ _ => False) hr e0 hb r (h _ _ _ _ hs)) fun res s' hq => by
    cases res with
    | error e =>
      obtain ⟨a, B, H1, cls, d, _, _, _, _, _, _, _, z⟩ := hq
      exact z.elim
    | ok fl => cases fl <;> exact hq⟩
end
/-! ### more facts of K -/
def kB (K : PySem.W.Frag) (x y : Value) (b : Bool) : Bool := decide (PySem.W.kitOne K x y = some b)
theorem kB_ok {K : PySem.W.Frag} {x y : Value} {b : Bool} (h : kB K x y b = true) : PySem.W.kitOne K x y = some b := of_decide_eq_true h
def excB (K : PySem.W.Frag) (D : Addr) : Bool := He.eqO (PySem.W.findIn K (.ref D) "__getattribute__") (some (some (.builtin "BaseException.__getattribute__"))) && (He.eqO (PySem.W.findIn K (.ref D) "__getattr__") (some none) &&
  (decide (PySem.W.subIn K (.ref D) (.type "BaseException") = some true) && (PySem.W.hasDictIn K D && (He.eqO (PySem.W.findIn K (.ref D) "__class__") (some (some (.builtin "object.__class__"))) &&
  (He.eqO (PySem.W.specialIn K (.builtin "object.__class__") "__get__") (some (some (.builtin "getset_descriptor.__get__"))) && (decide (PySem.W.takesIn K (.builtin "object.__class__") = some true) && decide (PySem.W.mroIn K D (.type "object") = some true)))))))
theorem excB_ok {K : PySem.W.Frag} {D : Addr} (h : excB K D = true) : ExcC K D := by
  unfold excB at h
  simp only [Bool.and_eq_true] at h
  obtain ⟨h1, h2, h3, h4, h5, h6, h7, h8⟩ := h
  exact ⟨He.eqO_ok h1, He.eqO_ok h2, of_decide_eq_true h3, h4, He.eqO_ok h5, He.eqO_ok h6, of_decide_eq_true h7, of_decide_eq_true h8⟩
def noListB (K : PySem.W.Frag) : Bool := K.all fun p => !decide (p.2.cls = .type "list")
theorem noList_ok {K : PySem.W.Frag} (h : noListB K = true) {a : Addr} {o : Obj} (e : K.lookup a = some o) : o.cls ≠ .type "list" := fun z => by
  have q := List.all_eq_true.mp h (a, o) (He.lookup_mem e)
  rw [decide_eq_true (show (a, o).2.cls = .type "list" from z)] at q
  cases q
end Rf
set_option Elab.async false
set_option autoImplicit false
set_option linter.all false
set_option maxRecDepth 100000
set_option maxHeartbeats 4000000
namespace K01
open PySem PySem.Spec PyProof.Rows L2 Rf
def N_is_name : List Str := ["thing", "sign"]
def rs_is_name : RSs :=
  .cons (.ifs (.or (.not (.tru (.cb .isi (.cons (.var 0) (.cons (.ty "str") .nil))))) (.not (.chain .LtE .LtE (.int 1) (.cb .len (.cons (.var 0) .nil)) (.gc 0))))
    (.cons (.ret (.bl false)) .nil)
    (.nil))
  (.cons (.ret (.cb .all (.cons (.lc [("sign", 1)] 1 (.any (.var 0)) (.no) (.cmp .In (.var 1) (.gc 1))) .nil))) .nil)
def rh_is_name_0 : RS := .ifs (.or (.not (.tru (.cb .isi (.cons (.var 0) (.cons (.ty "str") .nil))))) (.not (.chain .LtE .LtE (.int 1) (.cb .len (.cons (.var 0) .nil)) (.gc 0))))
  (.cons (.ret (.bl false)) .nil)
  (.nil)
def rh_is_name_1 : RS := .ret (.cb .all (.cons (.lc [("sign", 1)] 1 (.any (.var 0)) (.no) (.cmp .In (.var 1) (.gc 1))) .nil))
def rt_is_name_2 : RSs := .nil
def rt_is_name_1 : RSs := .cons rh_is_name_1 rt_is_name_2
def rt_is_name_0 : RSs := .cons rh_is_name_0 rt_is_name_1
theorem rs_is_name_cut : rs_is_name = rt_is_name_0 := rfl
def N_is_number : List Str := ["thing"]
def rs_is_number : RSs :=
  .cons (.ret (.andV (.cb .isi (.cons (.var 0) (.cons (.ty "int") .nil))) (.andV (.notV (.cb .isi (.cons (.var 0) (.cons (.ty "bool") .nil)))) (.chain .Lt .Lt (.bin .Sub (.int 0) (.gc 0)) (.var 0) (.gc 0))))) .nil
def N_need_name : List Str := ["thing"]
def rs_need_name : RSs :=
  .cons (.ifs (.not (.tru (.call 0 (.cons (.var 0) .nil))))
    (.cons (.raise 0) .nil)
    (.nil)) .nil
def N_need_number : List Str := ["thing"]
def rs_need_number : RSs :=
  .cons (.ifs (.not (.tru (.call 0 (.cons (.var 0) .nil))))
    (.cons (.raise 0) .nil)
    (.nil)) .nil
def N_number_text : List Str := ["number"]
def rs_number_text : RSs :=
  .cons (.ret (.ct .str (.cons (.var 0) .nil))) .nil
def N_number_of : List Str := ["text", "body", "sign"]
def rs_number_of : RSs :=
  .cons (.set 1 (.ifE (.tru (.mt .startswith (.var 0) (.cons (.str "-") .nil))) (.sl (.var 0) (.yes (.int 1)) (.no)) (.var 0)))
  (.cons (.ifs (.or (.not (.chain .LtE .LtE (.int 1) (.cb .len (.cons (.var 1) .nil)) (.gc 1))) (.not (.tru (.cb .all (.cons (.lc [("sign", 2)] 2 (.any (.var 1)) (.no) (.cmp .In (.var 2) (.gc 0))) .nil)))))
    (.cons (.ret (.non)) .nil)
    (.nil))
  (.cons (.ifs (.and (.cmp .Eq (.ix (.var 1) (.int 0)) (.str "0")) (.cmp .NotEq (.var 0) (.str "0")))
    (.cons (.ret (.non)) .nil)
    (.nil))
  (.cons (.ret (.ct .int (.cons (.var 0) .nil))) .nil)))
def rh_number_of_0 : RS := .set 1 (.ifE (.tru (.mt .startswith (.var 0) (.cons (.str "-") .nil))) (.sl (.var 0) (.yes (.int 1)) (.no)) (.var 0))
def rh_number_of_1 : RS := .ifs (.or (.not (.chain .LtE .LtE (.int 1) (.cb .len (.cons (.var 1) .nil)) (.gc 1))) (.not (.tru (.cb .all (.cons (.lc [("sign", 2)] 2 (.any (.var 1)) (.no) (.cmp .In (.var 2) (.gc 0))) .nil)))))
  (.cons (.ret (.non)) .nil)
  (.nil)
def rh_number_of_2 : RS := .ifs (.and (.cmp .Eq (.ix (.var 1) (.int 0)) (.str "0")) (.cmp .NotEq (.var 0) (.str "0")))
  (.cons (.ret (.non)) .nil)
  (.nil)
def rh_number_of_3 : RS := .ret (.ct .int (.cons (.var 0) .nil))
def rt_number_of_4 : RSs := .nil
def rt_number_of_3 : RSs := .cons rh_number_of_3 rt_number_of_4
def rt_number_of_2 : RSs := .cons rh_number_of_2 rt_number_of_3
def rt_number_of_1 : RSs := .cons rh_number_of_1 rt_number_of_2
def rt_number_of_0 : RSs := .cons rh_number_of_0 rt_number_of_1
theorem rs_number_of_cut : rs_number_of = rt_number_of_0 := rfl
def N_law_mixed : List Str := ["_law_cell", "_law_k", "_law_number_here"]
def rs_law_mixed : RSs :=
  .cons (.set 2 (.bin .Mod (.bin .Mult (.bin .Add (.bin .Add (.bin .Add (.bin .Mod (.var 0) (.int 1000000007)) (.bin .Mult (.bin .Mult (.int 7919) (.var 1)) (.var 1))) (.bin .Mult (.int 31) (.var 1))) (.int 17)) (.int 48271)) (.int 2147483647)))
  (.cons (.ret (.bin .FloorDiv (.bin .Mod (.bin .Mult (.var 2) (.bin .Add (.bin .Mod (.var 2) (.int 65521)) (.int 16807))) (.int 2147483629)) (.int 4))) .nil)
def rh_law_mixed_0 : RS := .set 2 (.bin .Mod (.bin .Mult (.bin .Add (.bin .Add (.bin .Add (.bin .Mod (.var 0) (.int 1000000007)) (.bin .Mult (.bin .Mult (.int 7919) (.var 1)) (.var 1))) (.bin .Mult (.int 31) (.var 1))) (.int 17)) (.int 48271)) (.int 2147483647))
def rh_law_mixed_1 : RS := .ret (.bin .FloorDiv (.bin .Mod (.bin .Mult (.var 2) (.bin .Add (.bin .Mod (.var 2) (.int 65521)) (.int 16807))) (.int 2147483629)) (.int 4))
def rt_law_mixed_2 : RSs := .nil
def rt_law_mixed_1 : RSs := .cons rh_law_mixed_1 rt_law_mixed_2
def rt_law_mixed_0 : RSs := .cons rh_law_mixed_0 rt_law_mixed_1
theorem rs_law_mixed_cut : rs_law_mixed = rt_law_mixed_0 := rfl
def N_law_number : List Str := ["_law_script", "_law_k", "_law_cell"]
def rs_law_number : RSs :=
  .cons (.set 2 (.int 0))
  (.cons (.ifs (.cmp .Gt (.cb .len (.cons (.var 0) .nil)) (.int 0))
    (.cons (.set 2 (.ix (.var 0) (.bin .Mod (.var 1) (.cb .len (.cons (.var 0) .nil))))) .nil)
    (.nil))
  (.cons (.ret (.call 0 (.cons (.var 2) (.cons (.var 1) .nil)))) .nil))
def rh_law_number_0 : RS := .set 2 (.int 0)
def rh_law_number_1 : RS := .ifs (.cmp .Gt (.cb .len (.cons (.var 0) .nil)) (.int 0))
  (.cons (.set 2 (.ix (.var 0) (.bin .Mod (.var 1) (.cb .len (.cons (.var 0) .nil))))) .nil)
  (.nil)
def rh_law_number_2 : RS := .ret (.call 0 (.cons (.var 2) (.cons (.var 1) .nil)))
def rt_law_number_3 : RSs := .nil
def rt_law_number_2 : RSs := .cons rh_law_number_2 rt_law_number_3
def rt_law_number_1 : RSs := .cons rh_law_number_1 rt_law_number_2
def rt_law_number_0 : RSs := .cons rh_law_number_0 rt_law_number_1
theorem rs_law_number_cut : rs_law_number = rt_law_number_0 := rfl
def N_law_kind : List Str := ["_law_e", "_law_found"]
def rs_law_kind : RSs :=
  .cons (.set 1 (.bin .Add (.bin .Mult (.lst (.cons (.str "name") .nil)) (.ct .int (.cons (.cb .isi (.cons (.var 0) (.cons (.gc 0) .nil))) .nil))) (.bin .Mult (.lst (.cons (.str "number") .nil)) (.ct .int (.cons (.cb .isi (.cons (.var 0) (.cons (.gc 1) .nil))) .nil)))))
  (.cons (.set 1 (.bin .Add (.bin .Add (.var 1) (.bin .Mult (.lst (.cons (.str "thing") .nil)) (.ct .int (.cons (.cb .isi (.cons (.var 0) (.cons (.gc 2) .nil))) .nil)))) (.bin .Mult (.lst (.cons (.str "tie") .nil)) (.ct .int (.cons (.cb .isi (.cons (.var 0) (.cons (.gc 3) .nil))) .nil)))))
  (.cons (.set 1 (.bin .Add (.bin .Add (.var 1) (.bin .Mult (.lst (.cons (.str "twice") .nil)) (.ct .int (.cons (.cb .isi (.cons (.var 0) (.cons (.gc 4) .nil))) .nil)))) (.bin .Mult (.lst (.cons (.str "many") .nil)) (.ct .int (.cons (.cb .isi (.cons (.var 0) (.cons (.gc 5) .nil))) .nil)))))
  (.cons (.set 1 (.bin .Add (.bin .Add (.var 1) (.bin .Mult (.lst (.cons (.str "word") .nil)) (.ct .int (.cons (.cb .isi (.cons (.var 0) (.cons (.gc 6) .nil))) .nil)))) (.bin .Mult (.lst (.cons (.str "question") .nil)) (.ct .int (.cons (.cb .isi (.cons (.var 0) (.cons (.gc 7) .nil))) .nil)))))
  (.cons (.set 1 (.bin .Add (.bin .Add (.var 1) (.bin .Mult (.lst (.cons (.str "plan") .nil)) (.ct .int (.cons (.cb .isi (.cons (.var 0) (.cons (.gc 8) .nil))) .nil)))) (.bin .Mult (.lst (.cons (.str "line") .nil)) (.ct .int (.cons (.cb .isi (.cons (.var 0) (.cons (.gc 9) .nil))) .nil)))))
  (.cons (.ret (.mt .join (.str "/") (.cons (.bin .Add (.var 1) (.bin .Mult (.lst (.cons (.str "base") .nil)) (.ct .int (.cons (.notV (.cb .isi (.cons (.var 0) (.cons (.ty "ValueError") .nil)))) .nil)))) .nil))) .nil)))))
def rh_law_kind_0 : RS := .set 1 (.bin .Add (.bin .Mult (.lst (.cons (.str "name") .nil)) (.ct .int (.cons (.cb .isi (.cons (.var 0) (.cons (.gc 0) .nil))) .nil))) (.bin .Mult (.lst (.cons (.str "number") .nil)) (.ct .int (.cons (.cb .isi (.cons (.var 0) (.cons (.gc 1) .nil))) .nil))))
def rh_law_kind_1 : RS := .set 1 (.bin .Add (.bin .Add (.var 1) (.bin .Mult (.lst (.cons (.str "thing") .nil)) (.ct .int (.cons (.cb .isi (.cons (.var 0) (.cons (.gc 2) .nil))) .nil)))) (.bin .Mult (.lst (.cons (.str "tie") .nil)) (.ct .int (.cons (.cb .isi (.cons (.var 0) (.cons (.gc 3) .nil))) .nil))))
def rh_law_kind_2 : RS := .set 1 (.bin .Add (.bin .Add (.var 1) (.bin .Mult (.lst (.cons (.str "twice") .nil)) (.ct .int (.cons (.cb .isi (.cons (.var 0) (.cons (.gc 4) .nil))) .nil)))) (.bin .Mult (.lst (.cons (.str "many") .nil)) (.ct .int (.cons (.cb .isi (.cons (.var 0) (.cons (.gc 5) .nil))) .nil))))
def rh_law_kind_3 : RS := .set 1 (.bin .Add (.bin .Add (.var 1) (.bin .Mult (.lst (.cons (.str "word") .nil)) (.ct .int (.cons (.cb .isi (.cons (.var 0) (.cons (.gc 6) .nil))) .nil)))) (.bin .Mult (.lst (.cons (.str "question") .nil)) (.ct .int (.cons (.cb .isi (.cons (.var 0) (.cons (.gc 7) .nil))) .nil))))
def rh_law_kind_4 : RS := .set 1 (.bin .Add (.bin .Add (.var 1) (.bin .Mult (.lst (.cons (.str "plan") .nil)) (.ct .int (.cons (.cb .isi (.cons (.var 0) (.cons (.gc 8) .nil))) .nil)))) (.bin .Mult (.lst (.cons (.str "line") .nil)) (.ct .int (.cons (.cb .isi (.cons (.var 0) (.cons (.gc 9) .nil))) .nil))))
def rh_law_kind_5 : RS := .ret (.mt .join (.str "/") (.cons (.bin .Add (.var 1) (.bin .Mult (.lst (.cons (.str "base") .nil)) (.ct .int (.cons (.notV (.cb .isi (.cons (.var 0) (.cons (.ty "ValueError") .nil)))) .nil)))) .nil))
def rt_law_kind_6 : RSs := .nil
def rt_law_kind_5 : RSs := .cons rh_law_kind_5 rt_law_kind_6
def rt_law_kind_4 : RSs := .cons rh_law_kind_4 rt_law_kind_5
def rt_law_kind_3 : RSs := .cons rh_law_kind_3 rt_law_kind_4
def rt_law_kind_2 : RSs := .cons rh_law_kind_2 rt_law_kind_3
def rt_law_kind_1 : RSs := .cons rh_law_kind_1 rt_law_kind_2
def rt_law_kind_0 : RSs := .cons rh_law_kind_0 rt_law_kind_1
theorem rs_law_kind_cut : rs_law_kind = rt_law_kind_0 := rfl
def N_law_whole : List Str := ["_law_thing"]
def rs_law_whole : RSs :=
  .cons (.ret (.andV (.cb .isi (.cons (.var 0) (.cons (.ty "int") .nil))) (.notV (.cb .isi (.cons (.var 0) (.cons (.ty "bool") .nil)))))) .nil
def N_law_figures : List Str := ["_law_number_here", "_law_left", "_law_text"]
def rs_law_figures : RSs :=
  .cons (.set 1 (.cb .abs (.cons (.var 0) .nil)))
  (.cons (.set 2 (.str ""))
  (.cons (.wh (.or (.cmp .Gt (.var 1) (.int 0)) (.cmp .Eq (.var 2) (.str "")))
    (.cons (.set 2 (.bin .Add (.ix (.str "0123456789") (.bin .Mod (.var 1) (.int 10))) (.var 2)))
    (.cons (.set 1 (.bin .FloorDiv (.var 1) (.int 10))) .nil)))
  (.cons (.ret (.bin .Add (.bin .Mult (.str "-") (.ct .int (.cons (.cmp .Lt (.var 0) (.int 0)) .nil))) (.var 2))) .nil)))
def rh_law_figures_0 : RS := .set 1 (.cb .abs (.cons (.var 0) .nil))
def rh_law_figures_1 : RS := .set 2 (.str "")
def rh_law_figures_2 : RS := .wh (.or (.cmp .Gt (.var 1) (.int 0)) (.cmp .Eq (.var 2) (.str "")))
  (.cons (.set 2 (.bin .Add (.ix (.str "0123456789") (.bin .Mod (.var 1) (.int 10))) (.var 2)))
  (.cons (.set 1 (.bin .FloorDiv (.var 1) (.int 10))) .nil))
def rh_law_figures_3 : RS := .ret (.bin .Add (.bin .Mult (.str "-") (.ct .int (.cons (.cmp .Lt (.var 0) (.int 0)) .nil))) (.var 2))
def rt_law_figures_4 : RSs := .nil
def rt_law_figures_3 : RSs := .cons rh_law_figures_3 rt_law_figures_4
def rt_law_figures_2 : RSs := .cons rh_law_figures_2 rt_law_figures_3
def rt_law_figures_1 : RSs := .cons rh_law_figures_1 rt_law_figures_2
def rt_law_figures_0 : RSs := .cons rh_law_figures_0 rt_law_figures_1
theorem rs_law_figures_cut : rs_law_figures = rt_law_figures_0 := rfl
def N_law_read : List Str := ["_law_text", "_law_body", "_law_found", "_law_sign"]
def rs_law_read : RSs :=
  .cons (.set 1 (.var 0))
  (.cons (.ifs (.cmp .Eq (.sl (.var 0) (.no) (.yes (.int 1))) (.str "-"))
    (.cons (.set 1 (.sl (.var 0) (.yes (.int 1)) (.no))) .nil)
    (.nil))
  (.cons (.ifs (.or (.not (.chain .LtE .LtE (.int 1) (.cb .len (.cons (.var 1) .nil)) (.int 60))) (.cmp .NotEq (.lc [("_law_sign", 3)] 3 (.any (.var 1)) (.yes (.cmp .NotIn (.var 3) (.str "0123456789"))) (.var 3)) (.lst (.nil))))
    (.cons (.ret (.non)) .nil)
    (.nil))
  (.cons (.set 2 (.int 0))
  (.cons (.fr 3 (.any (.var 1))
    (.cons (.set 2 (.bin .Add (.bin .Mult (.int 10) (.var 2)) (.mt .index (.str "0123456789") (.cons (.var 3) .nil)))) .nil))
  (.cons (.ifs (.or (.cmp .NotEq (.call 0 (.cons (.var 2) .nil)) (.var 1)) (.and (.cmp .Eq (.var 2) (.int 0)) (.cmp .NotEq (.var 1) (.var 0))))
    (.cons (.ret (.non)) .nil)
    (.nil))
  (.cons (.ret (.ix (.lst (.cons (.var 2) (.cons (.bin .Sub (.int 0) (.var 2)) .nil))) (.ct .int (.cons (.cmp .NotEq (.var 1) (.var 0)) .nil)))) .nil))))))
def rh_law_read_0 : RS := .set 1 (.var 0)
def rh_law_read_1 : RS := .ifs (.cmp .Eq (.sl (.var 0) (.no) (.yes (.int 1))) (.str "-"))
  (.cons (.set 1 (.sl (.var 0) (.yes (.int 1)) (.no))) .nil)
  (.nil)
def rh_law_read_2 : RS := .ifs (.or (.not (.chain .LtE .LtE (.int 1) (.cb .len (.cons (.var 1) .nil)) (.int 60))) (.cmp .NotEq (.lc [("_law_sign", 3)] 3 (.any (.var 1)) (.yes (.cmp .NotIn (.var 3) (.str "0123456789"))) (.var 3)) (.lst (.nil))))
  (.cons (.ret (.non)) .nil)
  (.nil)
def rh_law_read_3 : RS := .set 2 (.int 0)
def rh_law_read_4 : RS := .fr 3 (.any (.var 1))
  (.cons (.set 2 (.bin .Add (.bin .Mult (.int 10) (.var 2)) (.mt .index (.str "0123456789") (.cons (.var 3) .nil)))) .nil)
def rh_law_read_5 : RS := .ifs (.or (.cmp .NotEq (.call 0 (.cons (.var 2) .nil)) (.var 1)) (.and (.cmp .Eq (.var 2) (.int 0)) (.cmp .NotEq (.var 1) (.var 0))))
  (.cons (.ret (.non)) .nil)
  (.nil)
def rh_law_read_6 : RS := .ret (.ix (.lst (.cons (.var 2) (.cons (.bin .Sub (.int 0) (.var 2)) .nil))) (.ct .int (.cons (.cmp .NotEq (.var 1) (.var 0)) .nil)))
def rt_law_read_7 : RSs := .nil
def rt_law_read_6 : RSs := .cons rh_law_read_6 rt_law_read_7
def rt_law_read_5 : RSs := .cons rh_law_read_5 rt_law_read_6
def rt_law_read_4 : RSs := .cons rh_law_read_4 rt_law_read_5
def rt_law_read_3 : RSs := .cons rh_law_read_3 rt_law_read_4
def rt_law_read_2 : RSs := .cons rh_law_read_2 rt_law_read_3
def rt_law_read_1 : RSs := .cons rh_law_read_1 rt_law_read_2
def rt_law_read_0 : RSs := .cons rh_law_read_0 rt_law_read_1
theorem rs_law_read_cut : rs_law_read = rt_law_read_0 := rfl
def N_law_bent : List Str := ["_law_text", "_law_cell", "_law_at", "_law_sign"]
def rs_law_bent : RSs :=
  .cons (.set 2 (.bin .Mod (.bin .FloorDiv (.var 1) (.int 8)) (.bin .Add (.cb .len (.cons (.var 0) .nil)) (.int 1))))
  (.cons (.set 3 (.ix (.str "0123456789-+ .a:") (.bin .Mod (.bin .FloorDiv (.var 1) (.int 512)) (.int 16))))
  (.cons (.ifs (.cmp .Eq (.bin .Mod (.var 1) (.int 8)) (.int 0))
    (.cons (.ret (.bin .Add (.bin .Add (.sl (.var 0) (.no) (.yes (.var 2))) (.var 3)) (.sl (.var 0) (.yes (.var 2)) (.no)))) .nil)
    (.nil))
  (.cons (.ifs (.cmp .Eq (.bin .Mod (.var 1) (.int 8)) (.int 1))
    (.cons (.ret (.bin .Add (.sl (.var 0) (.no) (.yes (.var 2))) (.sl (.var 0) (.yes (.bin .Add (.var 2) (.int 1))) (.no)))) .nil)
    (.nil))
  (.cons (.ifs (.cmp .Eq (.bin .Mod (.var 1) (.int 8)) (.int 2))
    (.cons (.ret (.bin .Add (.bin .Add (.sl (.var 0) (.no) (.yes (.var 2))) (.var 3)) (.sl (.var 0) (.yes (.bin .Add (.var 2) (.int 1))) (.no)))) .nil)
    (.nil))
  (.cons (.ifs (.cmp .Eq (.bin .Mod (.var 1) (.int 8)) (.int 3))
    (.cons (.ret (.bin .Add (.str "-") (.var 0))) .nil)
    (.nil))
  (.cons (.ifs (.cmp .Eq (.bin .Mod (.var 1) (.int 8)) (.int 4))
    (.cons (.ret (.bin .Add (.bin .Mult (.str "0") (.bin .Mod (.bin .FloorDiv (.var 1) (.int 8)) (.int 3))) (.var 0))) .nil)
    (.nil))
  (.cons (.ifs (.cmp .Eq (.bin .Mod (.var 1) (.int 8)) (.int 5))
    (.cons (.ret (.bin .Mult (.str "9") (.bin .Add (.int 58) (.bin .Mod (.bin .FloorDiv (.var 1) (.int 8)) (.int 5))))) .nil)
    (.nil))
  (.cons (.ret (.var 0)) .nil))))))))
def rh_law_bent_0 : RS := .set 2 (.bin .Mod (.bin .FloorDiv (.var 1) (.int 8)) (.bin .Add (.cb .len (.cons (.var 0) .nil)) (.int 1)))
def rh_law_bent_1 : RS := .set 3 (.ix (.str "0123456789-+ .a:") (.bin .Mod (.bin .FloorDiv (.var 1) (.int 512)) (.int 16)))
def rh_law_bent_2 : RS := .ifs (.cmp .Eq (.bin .Mod (.var 1) (.int 8)) (.int 0))
  (.cons (.ret (.bin .Add (.bin .Add (.sl (.var 0) (.no) (.yes (.var 2))) (.var 3)) (.sl (.var 0) (.yes (.var 2)) (.no)))) .nil)
  (.nil)
def rh_law_bent_3 : RS := .ifs (.cmp .Eq (.bin .Mod (.var 1) (.int 8)) (.int 1))
  (.cons (.ret (.bin .Add (.sl (.var 0) (.no) (.yes (.var 2))) (.sl (.var 0) (.yes (.bin .Add (.var 2) (.int 1))) (.no)))) .nil)
  (.nil)
def rh_law_bent_4 : RS := .ifs (.cmp .Eq (.bin .Mod (.var 1) (.int 8)) (.int 2))
  (.cons (.ret (.bin .Add (.bin .Add (.sl (.var 0) (.no) (.yes (.var 2))) (.var 3)) (.sl (.var 0) (.yes (.bin .Add (.var 2) (.int 1))) (.no)))) .nil)
  (.nil)
def rh_law_bent_5 : RS := .ifs (.cmp .Eq (.bin .Mod (.var 1) (.int 8)) (.int 3))
  (.cons (.ret (.bin .Add (.str "-") (.var 0))) .nil)
  (.nil)
def rh_law_bent_6 : RS := .ifs (.cmp .Eq (.bin .Mod (.var 1) (.int 8)) (.int 4))
  (.cons (.ret (.bin .Add (.bin .Mult (.str "0") (.bin .Mod (.bin .FloorDiv (.var 1) (.int 8)) (.int 3))) (.var 0))) .nil)
  (.nil)
def rh_law_bent_7 : RS := .ifs (.cmp .Eq (.bin .Mod (.var 1) (.int 8)) (.int 5))
  (.cons (.ret (.bin .Mult (.str "9") (.bin .Add (.int 58) (.bin .Mod (.bin .FloorDiv (.var 1) (.int 8)) (.int 5))))) .nil)
  (.nil)
def rh_law_bent_8 : RS := .ret (.var 0)
def rt_law_bent_9 : RSs := .nil
def rt_law_bent_8 : RSs := .cons rh_law_bent_8 rt_law_bent_9
def rt_law_bent_7 : RSs := .cons rh_law_bent_7 rt_law_bent_8
def rt_law_bent_6 : RSs := .cons rh_law_bent_6 rt_law_bent_7
def rt_law_bent_5 : RSs := .cons rh_law_bent_5 rt_law_bent_6
def rt_law_bent_4 : RSs := .cons rh_law_bent_4 rt_law_bent_5
def rt_law_bent_3 : RSs := .cons rh_law_bent_3 rt_law_bent_4
def rt_law_bent_2 : RSs := .cons rh_law_bent_2 rt_law_bent_3
def rt_law_bent_1 : RSs := .cons rh_law_bent_1 rt_law_bent_2
def rt_law_bent_0 : RSs := .cons rh_law_bent_0 rt_law_bent_1
theorem rs_law_bent_cut : rs_law_bent = rt_law_bent_0 := rfl
def N_law_word : List Str := ["_law_cell", "_law_k", "_law_letters", "_law_word_here", "_law_at", "_law_j"]
def rs_law_word : RSs :=
  .cons (.set 2 (.str "abcdefghijklmnopqrstuvwxyz"))
  (.cons (.set 3 (.mt .join (.str "") (.cons (.lc [("_law_j", 5)] 5 (.range1 (.bin .Add (.int 1) (.bin .Mod (.var 0) (.int 9)))) (.no) (.ix (.var 2) (.bin .Mod (.call 0 (.cons (.var 0) (.cons (.bin .Add (.bin .Mult (.int 3) (.var 1)) (.var 5)) .nil))) (.int 26)))) .nil)))
  (.cons (.set 4 (.bin .Mod (.bin .FloorDiv (.var 0) (.int 9)) (.cb .len (.cons (.var 3) .nil))))
  (.cons (.ifs (.cmp .Eq (.bin .Mod (.bin .FloorDiv (.var 0) (.int 81)) (.int 3)) (.int 1))
    (.cons (.set 3 (.bin .Add (.bin .Add (.sl (.var 3) (.no) (.yes (.var 4))) (.ix (.str "AZ0 _-.{") (.bin .Mod (.bin .FloorDiv (.var 0) (.int 243)) (.int 8)))) (.sl (.var 3) (.yes (.bin .Add (.var 4) (.int 1))) (.no)))) .nil)
    (.nil))
  (.cons (.ret (.var 3)) .nil))))
def rh_law_word_0 : RS := .set 2 (.str "abcdefghijklmnopqrstuvwxyz")
def rh_law_word_1 : RS := .set 3 (.mt .join (.str "") (.cons (.lc [("_law_j", 5)] 5 (.range1 (.bin .Add (.int 1) (.bin .Mod (.var 0) (.int 9)))) (.no) (.ix (.var 2) (.bin .Mod (.call 0 (.cons (.var 0) (.cons (.bin .Add (.bin .Mult (.int 3) (.var 1)) (.var 5)) .nil))) (.int 26)))) .nil))
def rh_law_word_2 : RS := .set 4 (.bin .Mod (.bin .FloorDiv (.var 0) (.int 9)) (.cb .len (.cons (.var 3) .nil)))
def rh_law_word_3 : RS := .ifs (.cmp .Eq (.bin .Mod (.bin .FloorDiv (.var 0) (.int 81)) (.int 3)) (.int 1))
  (.cons (.set 3 (.bin .Add (.bin .Add (.sl (.var 3) (.no) (.yes (.var 4))) (.ix (.str "AZ0 _-.{") (.bin .Mod (.bin .FloorDiv (.var 0) (.int 243)) (.int 8)))) (.sl (.var 3) (.yes (.bin .Add (.var 4) (.int 1))) (.no)))) .nil)
  (.nil)
def rh_law_word_4 : RS := .ret (.var 3)
def rt_law_word_5 : RSs := .nil
def rt_law_word_4 : RSs := .cons rh_law_word_4 rt_law_word_5
def rt_law_word_3 : RSs := .cons rh_law_word_3 rt_law_word_4
def rt_law_word_2 : RSs := .cons rh_law_word_2 rt_law_word_3
def rt_law_word_1 : RSs := .cons rh_law_word_1 rt_law_word_2
def rt_law_word_0 : RSs := .cons rh_law_word_0 rt_law_word_1
theorem rs_law_word_cut : rs_law_word = rt_law_word_0 := rfl
def N_law_is_name : List Str := ["_law_word_here", "_law_sign"]
def rs_law_is_name : RSs :=
  .cons (.ret (.andV (.cmp .Lt (.cb .len (.cons (.var 0) .nil)) (.int 9)) (.cmp .Eq (.lc [("_law_sign", 1)] 1 (.any (.var 0)) (.yes (.cmp .NotIn (.var 1) (.str "abcdefghijklmnopqrstuvwxyz"))) (.var 1)) (.lst (.nil))))) .nil
def N_law_refused : List Str := ["_law_which", "_law_thing", "_law_error", "_law_told", "_law_e"]
def rs_law_refused : RSs :=
  .cons (.set 2 (.non))
  (.cons (.set 3 (.int 0))
  (.cons (.tryK 0 4 2
    (.cons (.set 3 (.callE (.ix (.lst (.cons (.gf 1) (.cons (.gf 0) .nil))) (.var 0)) (.cons (.var 1) .nil))) .nil))
  (.cons (.ifs (.cmp .IsNot (.var 2) (.non))
    (.cons (.ret (.call 2 (.cons (.var 2) .nil))) .nil)
    (.nil))
  (.cons (.ret (.ifE (.cmp .Is (.var 3) (.non)) (.str "") (.str "told"))) .nil))))
def rh_law_refused_0 : RS := .set 2 (.non)
def rh_law_refused_1 : RS := .set 3 (.int 0)
def rh_law_refused_2 : RS := .tryK 0 4 2
  (.cons (.set 3 (.callE (.ix (.lst (.cons (.gf 1) (.cons (.gf 0) .nil))) (.var 0)) (.cons (.var 1) .nil))) .nil)
def rh_law_refused_3 : RS := .ifs (.cmp .IsNot (.var 2) (.non))
  (.cons (.ret (.call 2 (.cons (.var 2) .nil))) .nil)
  (.nil)
def rh_law_refused_4 : RS := .ret (.ifE (.cmp .Is (.var 3) (.non)) (.str "") (.str "told"))
def rt_law_refused_5 : RSs := .nil
def rt_law_refused_4 : RSs := .cons rh_law_refused_4 rt_law_refused_5
def rt_law_refused_3 : RSs := .cons rh_law_refused_3 rt_law_refused_4
def rt_law_refused_2 : RSs := .cons rh_law_refused_2 rt_law_refused_3
def rt_law_refused_1 : RSs := .cons rh_law_refused_1 rt_law_refused_2
def rt_law_refused_0 : RSs := .cons rh_law_refused_0 rt_law_refused_1
theorem rs_law_refused_cut : rs_law_refused = rt_law_refused_0 := rfl
def N_law_number_right : List Str := ["_law_number_here", "_law_told"]
def rs_law_number_right : RSs :=
  .cons (.set 1 (.call 0 (.cons (.var 0) .nil)))
  (.cons (.ifs (.or (.not (.tru (.cb .isi (.cons (.var 1) (.cons (.ty "str") .nil))))) (.or (.cmp .NotEq (.var 1) (.call 2 (.cons (.var 0) .nil))) (.cmp .IsNot (.call 1 (.cons (.var 0) .nil)) (.bl true))))
    (.cons (.ret (.bl false)) .nil)
    (.nil))
  (.cons (.ret (.andV (.cmp .Eq (.call 3 (.cons (.int 1) (.cons (.var 0) .nil))) (.str "")) (.andV (.cmp .Is (.call 4 (.cons (.var 1) .nil)) (.bl false)) (.cmp .Eq (.call 3 (.cons (.int 0) (.cons (.var 0) .nil))) (.str "name"))))) .nil))
def rh_law_number_right_0 : RS := .set 1 (.call 0 (.cons (.var 0) .nil))
def rh_law_number_right_1 : RS := .ifs (.or (.not (.tru (.cb .isi (.cons (.var 1) (.cons (.ty "str") .nil))))) (.or (.cmp .NotEq (.var 1) (.call 2 (.cons (.var 0) .nil))) (.cmp .IsNot (.call 1 (.cons (.var 0) .nil)) (.bl true))))
  (.cons (.ret (.bl false)) .nil)
  (.nil)
def rh_law_number_right_2 : RS := .ret (.andV (.cmp .Eq (.call 3 (.cons (.int 1) (.cons (.var 0) .nil))) (.str "")) (.andV (.cmp .Is (.call 4 (.cons (.var 1) .nil)) (.bl false)) (.cmp .Eq (.call 3 (.cons (.int 0) (.cons (.var 0) .nil))) (.str "name"))))
def rt_law_number_right_3 : RSs := .nil
def rt_law_number_right_2 : RSs := .cons rh_law_number_right_2 rt_law_number_right_3
def rt_law_number_right_1 : RSs := .cons rh_law_number_right_1 rt_law_number_right_2
def rt_law_number_right_0 : RSs := .cons rh_law_number_right_0 rt_law_number_right_1
theorem rs_law_number_right_cut : rs_law_number_right = rt_law_number_right_0 := rfl
def N_law_text_right : List Str := ["_law_text", "_law_found", "_law_due"]
def rs_law_text_right : RSs :=
  .cons (.set 1 (.call 0 (.cons (.var 0) .nil)))
  (.cons (.set 2 (.call 1 (.cons (.var 0) .nil)))
  (.cons (.ifs (.cmp .Is (.var 2) (.non))
    (.cons (.ret (.cmp .Is (.var 1) (.non))) .nil)
    (.nil))
  (.cons (.ret (.andV (.call 2 (.cons (.var 1) .nil)) (.cmp .Eq (.var 1) (.var 2)))) .nil)))
def rh_law_text_right_0 : RS := .set 1 (.call 0 (.cons (.var 0) .nil))
def rh_law_text_right_1 : RS := .set 2 (.call 1 (.cons (.var 0) .nil))
def rh_law_text_right_2 : RS := .ifs (.cmp .Is (.var 2) (.non))
  (.cons (.ret (.cmp .Is (.var 1) (.non))) .nil)
  (.nil)
def rh_law_text_right_3 : RS := .ret (.andV (.call 2 (.cons (.var 1) .nil)) (.cmp .Eq (.var 1) (.var 2)))
def rt_law_text_right_4 : RSs := .nil
def rt_law_text_right_3 : RSs := .cons rh_law_text_right_3 rt_law_text_right_4
def rt_law_text_right_2 : RSs := .cons rh_law_text_right_2 rt_law_text_right_3
def rt_law_text_right_1 : RSs := .cons rh_law_text_right_1 rt_law_text_right_2
def rt_law_text_right_0 : RSs := .cons rh_law_text_right_0 rt_law_text_right_1
theorem rs_law_text_right_cut : rs_law_text_right = rt_law_text_right_0 := rfl
def N_law_things_right : List Str := ["_law_cell", "_law_number_here", "_law_far", "_law_odd"]
def rs_law_things_right : RSs :=
  .cons (.set 2 (.bin .Add (.bin .Pow (.int 10) (.int 60)) (.bin .Mod (.var 1) (.bin .Pow (.int 10) (.int 9)))))
  (.cons (.set 3 (.ix (.lst (.cons (.non) (.cons (.bl true) (.cons (.bl false) (.cons (.str "5") (.cons (.lst (.cons (.int 5) .nil)) (.cons (.tup (.cons (.int 5) .nil)) (.cons (.dnew) (.cons (.var 2) (.cons (.bin .Sub (.int 0) (.var 2)) (.cons (.bin .Pow (.int 10) (.int 60)) (.cons (.bin .Sub (.int 0) (.bin .Pow (.int 10) (.int 60))) .nil)))))))))))) (.bin .Mod (.var 0) (.int 11))))
  (.cons (.ifs (.or (.cmp .IsNot (.call 1 (.cons (.var 3) .nil)) (.bl false)) (.cmp .NotEq (.call 0 (.cons (.int 1) (.cons (.var 3) .nil))) (.str "number")))
    (.cons (.ret (.bl false)) .nil)
    (.nil))
  (.cons (.set 3 (.ix (.lst (.cons (.non) (.cons (.bl true) (.cons (.int 5) (.cons (.str "") (.cons (.lst (.cons (.str "ab") .nil)) (.cons (.tup (.cons (.str "ab") .nil)) (.cons (.dnew) (.cons (.str "abcdefghi") (.cons (.str "aB") (.cons (.str "a b") (.cons (.str "a1") .nil)))))))))))) (.bin .Mod (.bin .FloorDiv (.var 0) (.int 11)) (.int 11))))
  (.cons (.ret (.andV (.cmp .Is (.call 2 (.cons (.var 3) .nil)) (.bl false)) (.cmp .Eq (.call 0 (.cons (.int 0) (.cons (.var 3) .nil))) (.str "name")))) .nil))))
def rh_law_things_right_0 : RS := .set 2 (.bin .Add (.bin .Pow (.int 10) (.int 60)) (.bin .Mod (.var 1) (.bin .Pow (.int 10) (.int 9))))
def rh_law_things_right_1 : RS := .set 3 (.ix (.lst (.cons (.non) (.cons (.bl true) (.cons (.bl false) (.cons (.str "5") (.cons (.lst (.cons (.int 5) .nil)) (.cons (.tup (.cons (.int 5) .nil)) (.cons (.dnew) (.cons (.var 2) (.cons (.bin .Sub (.int 0) (.var 2)) (.cons (.bin .Pow (.int 10) (.int 60)) (.cons (.bin .Sub (.int 0) (.bin .Pow (.int 10) (.int 60))) .nil)))))))))))) (.bin .Mod (.var 0) (.int 11)))
def rh_law_things_right_2 : RS := .ifs (.or (.cmp .IsNot (.call 1 (.cons (.var 3) .nil)) (.bl false)) (.cmp .NotEq (.call 0 (.cons (.int 1) (.cons (.var 3) .nil))) (.str "number")))
  (.cons (.ret (.bl false)) .nil)
  (.nil)
def rh_law_things_right_3 : RS := .set 3 (.ix (.lst (.cons (.non) (.cons (.bl true) (.cons (.int 5) (.cons (.str "") (.cons (.lst (.cons (.str "ab") .nil)) (.cons (.tup (.cons (.str "ab") .nil)) (.cons (.dnew) (.cons (.str "abcdefghi") (.cons (.str "aB") (.cons (.str "a b") (.cons (.str "a1") .nil)))))))))))) (.bin .Mod (.bin .FloorDiv (.var 0) (.int 11)) (.int 11)))
def rh_law_things_right_4 : RS := .ret (.andV (.cmp .Is (.call 2 (.cons (.var 3) .nil)) (.bl false)) (.cmp .Eq (.call 0 (.cons (.int 0) (.cons (.var 3) .nil))) (.str "name")))
def rt_law_things_right_5 : RSs := .nil
def rt_law_things_right_4 : RSs := .cons rh_law_things_right_4 rt_law_things_right_5
def rt_law_things_right_3 : RSs := .cons rh_law_things_right_3 rt_law_things_right_4
def rt_law_things_right_2 : RSs := .cons rh_law_things_right_2 rt_law_things_right_3
def rt_law_things_right_1 : RSs := .cons rh_law_things_right_1 rt_law_things_right_2
def rt_law_things_right_0 : RSs := .cons rh_law_things_right_0 rt_law_things_right_1
theorem rs_law_things_right_cut : rs_law_things_right = rt_law_things_right_0 := rfl
def N_law : List Str := ["_law_script", "_law_k", "_law_cell", "_law_number_here", "_law_text", "_law_word_here", "_law_due"]
def rs_law : RSs :=
  .cons (.fr 1 (.range1 (.bin .Add (.int 4) (.cb .min2 (.cons (.cb .len (.cons (.var 0) .nil)) (.cons (.int 59) .nil)))))
    (.cons (.set 2 (.call 0 (.cons (.var 0) (.cons (.bin .Add (.bin .Mult (.int 3) (.var 1)) (.int 1)) .nil))))
    (.cons (.set 3 (.bin .Mod (.call 0 (.cons (.var 0) (.cons (.var 1) .nil))) (.ix (.lst (.cons (.int 10) (.cons (.int 100) (.cons (.int 1000) (.cons (.bin .Pow (.int 10) (.int 5)) (.cons (.bin .Pow (.int 10) (.int 9)) .nil)))))) (.bin .Mod (.var 2) (.int 5)))))
    (.cons (.ifs (.cmp .Lt (.var 1) (.cb .len (.cons (.var 0) .nil)))
      (.cons (.set 3 (.ix (.lst (.cons (.bin .Mod (.ix (.var 0) (.var 1)) (.bin .Pow (.int 10) (.int 60))) (.cons (.var 3) (.cons (.bin .Sub (.int 0) (.bin .Mod (.ix (.var 0) (.var 1)) (.bin .Pow (.int 10) (.int 60)))) .nil)))) (.bin .Mod (.bin .FloorDiv (.var 2) (.int 9)) (.int 3)))) .nil)
      (.nil))
    (.cons (.ifs (.cmp .Eq (.var 1) (.int 1))
      (.cons (.set 3 (.ix (.lst (.cons (.int 0) (.cons (.bin .Sub (.bin .Pow (.int 10) (.int 60)) (.int 1)) (.cons (.bin .Sub (.int 1) (.bin .Pow (.int 10) (.int 60))) (.cons (.neg (.int 1)) .nil))))) (.bin .Mod (.var 2) (.int 4)))) .nil)
      (.nil))
    (.cons (.set 4 (.call 1 (.cons (.call 2 (.cons (.var 3) .nil)) (.cons (.bin .FloorDiv (.var 2) (.int 27)) .nil))))
    (.cons (.set 5 (.call 3 (.cons (.call 0 (.cons (.var 0) (.cons (.bin .Add (.bin .Mult (.int 3) (.var 1)) (.int 2)) .nil))) (.cons (.var 1) .nil))))
    (.cons (.ifs (.or (.not (.tru (.call 5 (.cons (.var 3) .nil)))) (.or (.not (.tru (.call 4 (.cons (.call 2 (.cons (.var 3) .nil)) .nil)))) (.not (.tru (.call 4 (.cons (.var 4) .nil))))))
      (.cons (.ret (.bl false)) .nil)
      (.nil))
    (.cons (.ifs (.or (.not (.tru (.call 4 (.cons (.call 1 (.cons (.var 4) (.cons (.call 0 (.cons (.var 0) (.cons (.bin .Mult (.int 5) (.var 1)) .nil))) .nil))) .nil)))) (.not (.tru (.call 6 (.cons (.var 2) (.cons (.var 3) .nil))))))
      (.cons (.ret (.bl false)) .nil)
      (.nil))
    (.cons (.set 6 (.call 7 (.cons (.var 5) .nil)))
    (.cons (.ifs (.cmp .NotEq (.lst (.cons (.call 9 (.cons (.var 5) .nil)) (.cons (.cmp .Eq (.call 8 (.cons (.int 0) (.cons (.var 5) .nil))) (.str "")) .nil))) (.lst (.cons (.var 6) (.cons (.var 6) .nil))))
      (.cons (.ret (.bl false)) .nil)
      (.nil)) .nil)))))))))))
  (.cons (.ret (.andV (.cmp .Is (.call 10 (.cons (.str "") .nil)) (.non)) (.cmp .Is (.call 10 (.cons (.str "-") .nil)) (.non)))) .nil)
def rh_law_0_0 : RS := .set 2 (.call 0 (.cons (.var 0) (.cons (.bin .Add (.bin .Mult (.int 3) (.var 1)) (.int 1)) .nil)))
def rh_law_0_1 : RS := .set 3 (.bin .Mod (.call 0 (.cons (.var 0) (.cons (.var 1) .nil))) (.ix (.lst (.cons (.int 10) (.cons (.int 100) (.cons (.int 1000) (.cons (.bin .Pow (.int 10) (.int 5)) (.cons (.bin .Pow (.int 10) (.int 9)) .nil)))))) (.bin .Mod (.var 2) (.int 5))))
def rh_law_0_2 : RS := .ifs (.cmp .Lt (.var 1) (.cb .len (.cons (.var 0) .nil)))
  (.cons (.set 3 (.ix (.lst (.cons (.bin .Mod (.ix (.var 0) (.var 1)) (.bin .Pow (.int 10) (.int 60))) (.cons (.var 3) (.cons (.bin .Sub (.int 0) (.bin .Mod (.ix (.var 0) (.var 1)) (.bin .Pow (.int 10) (.int 60)))) .nil)))) (.bin .Mod (.bin .FloorDiv (.var 2) (.int 9)) (.int 3)))) .nil)
  (.nil)
def rh_law_0_3 : RS := .ifs (.cmp .Eq (.var 1) (.int 1))
  (.cons (.set 3 (.ix (.lst (.cons (.int 0) (.cons (.bin .Sub (.bin .Pow (.int 10) (.int 60)) (.int 1)) (.cons (.bin .Sub (.int 1) (.bin .Pow (.int 10) (.int 60))) (.cons (.neg (.int 1)) .nil))))) (.bin .Mod (.var 2) (.int 4)))) .nil)
  (.nil)
def rh_law_0_4 : RS := .set 4 (.call 1 (.cons (.call 2 (.cons (.var 3) .nil)) (.cons (.bin .FloorDiv (.var 2) (.int 27)) .nil)))
def rh_law_0_5 : RS := .set 5 (.call 3 (.cons (.call 0 (.cons (.var 0) (.cons (.bin .Add (.bin .Mult (.int 3) (.var 1)) (.int 2)) .nil))) (.cons (.var 1) .nil)))
def rh_law_0_6 : RS := .ifs (.or (.not (.tru (.call 5 (.cons (.var 3) .nil)))) (.or (.not (.tru (.call 4 (.cons (.call 2 (.cons (.var 3) .nil)) .nil)))) (.not (.tru (.call 4 (.cons (.var 4) .nil))))))
  (.cons (.ret (.bl false)) .nil)
  (.nil)
def rh_law_0_7 : RS := .ifs (.or (.not (.tru (.call 4 (.cons (.call 1 (.cons (.var 4) (.cons (.call 0 (.cons (.var 0) (.cons (.bin .Mult (.int 5) (.var 1)) .nil))) .nil))) .nil)))) (.not (.tru (.call 6 (.cons (.var 2) (.cons (.var 3) .nil))))))
  (.cons (.ret (.bl false)) .nil)
  (.nil)
def rh_law_0_8 : RS := .set 6 (.call 7 (.cons (.var 5) .nil))
def rh_law_0_9 : RS := .ifs (.cmp .NotEq (.lst (.cons (.call 9 (.cons (.var 5) .nil)) (.cons (.cmp .Eq (.call 8 (.cons (.int 0) (.cons (.var 5) .nil))) (.str "")) .nil))) (.lst (.cons (.var 6) (.cons (.var 6) .nil))))
  (.cons (.ret (.bl false)) .nil)
  (.nil)
def rt_law_0_10 : RSs := .nil
def rt_law_0_9 : RSs := .cons rh_law_0_9 rt_law_0_10
def rt_law_0_8 : RSs := .cons rh_law_0_8 rt_law_0_9
def rt_law_0_7 : RSs := .cons rh_law_0_7 rt_law_0_8
def rt_law_0_6 : RSs := .cons rh_law_0_6 rt_law_0_7
def rt_law_0_5 : RSs := .cons rh_law_0_5 rt_law_0_6
def rt_law_0_4 : RSs := .cons rh_law_0_4 rt_law_0_5
def rt_law_0_3 : RSs := .cons rh_law_0_3 rt_law_0_4
def rt_law_0_2 : RSs := .cons rh_law_0_2 rt_law_0_3
def rt_law_0_1 : RSs := .cons rh_law_0_1 rt_law_0_2
def rt_law_0_0 : RSs := .cons rh_law_0_0 rt_law_0_1
def rh_law_0 : RS := .fr 1 (.range1 (.bin .Add (.int 4) (.cb .min2 (.cons (.cb .len (.cons (.var 0) .nil)) (.cons (.int 59) .nil))))) rt_law_0_0
def rh_law_1 : RS := .ret (.andV (.cmp .Is (.call 10 (.cons (.str "") .nil)) (.non)) (.cmp .Is (.call 10 (.cons (.str "-") .nil)) (.non)))
def rt_law_2 : RSs := .nil
def rt_law_1 : RSs := .cons rh_law_1 rt_law_2
def rt_law_0 : RSs := .cons rh_law_0 rt_law_1
theorem rs_law_cut : rs_law = rt_law_0 := rfl
end K01
set_option Elab.async false
set_option autoImplicit false
set_option linter.all false
set_option maxRecDepth 100000
set_option maxHeartbeats 4000000
namespace K01
open PySem PySem.Spec PyProof.Rows L2 Rf
def topS (i : Nat) : Stmt := PySem.Challenge.pw_askweave_k01_words.main.body.getD i (.Pass ⟨0, 0, 0, 0⟩)
def C_is_name : Ct := { N := N_is_name, sc := defScope (topS 18), fns := [], gs := ["MOST_LETTERS", "LETTERS"], fr := ["len", "isinstance", "str", "all"], ex := [] }
theorem ck_is_name : defB C_is_name ["thing"] rs_is_name (defBody (topS 18)) = true := by decide +kernel
def C_is_number : Ct := { N := N_is_number, sc := defScope (topS 19), fns := [], gs := ["BEYOND"], fr := ["isinstance", "bool", "int"], ex := [] }
theorem ck_is_number : defB C_is_number ["thing"] rs_is_number (defBody (topS 19)) = true := by decide +kernel
def C_need_name : Ct := { N := N_need_name, sc := defScope (topS 20), fns := ["is_name"], gs := [], fr := [], ex := ["BadName"] }
theorem ck_need_name : defB C_need_name ["thing"] rs_need_name (defBody (topS 20)) = true := by decide +kernel
def C_need_number : Ct := { N := N_need_number, sc := defScope (topS 21), fns := ["is_number"], gs := [], fr := [], ex := ["BadNumber"] }
theorem ck_need_number : defB C_need_number ["thing"] rs_need_number (defBody (topS 21)) = true := by decide +kernel
def C_number_text : Ct := { N := N_number_text, sc := defScope (topS 22), fns := [], gs := [], fr := ["str"], ex := [] }
theorem ck_number_text : defB C_number_text ["number"] rs_number_text (defBody (topS 22)) = true := by decide +kernel
def C_number_of : Ct := { N := N_number_of, sc := defScope (topS 23), fns := [], gs := ["FIGURES", "MOST_FIGURES"], fr := ["all", "len", "int"], ex := [] }
theorem ck_number_of : defB C_number_of ["text"] rs_number_of (defBody (topS 23)) = true := by decide +kernel
def C_law_mixed : Ct := { N := N_law_mixed, sc := defScope (topS 25), fns := [], gs := [], fr := [], ex := [] }
theorem ck_law_mixed : defB C_law_mixed ["_law_cell", "_law_k"] rs_law_mixed (defBody (topS 25)) = true := by decide +kernel
def C_law_number : Ct := { N := N_law_number, sc := defScope (topS 26), fns := ["_law_mixed"], gs := [], fr := ["len"], ex := [] }
theorem ck_law_number : defB C_law_number ["_law_script", "_law_k"] rs_law_number (defBody (topS 26)) = true := by decide +kernel
def C_law_kind : Ct := { N := N_law_kind, sc := defScope (topS 27), fns := [], gs := ["BadName", "BadNumber", "NoThing", "NoTie", "Twice", "TooMany", "BadWord", "BadQuestion", "BadPlan", "BadLine"], fr := ["int", "isinstance", "ValueError"], ex := [] }
theorem ck_law_kind : defB C_law_kind ["_law_e"] rs_law_kind (defBody (topS 27)) = true := by decide +kernel
def C_law_whole : Ct := { N := N_law_whole, sc := defScope (topS 28), fns := [], gs := [], fr := ["isinstance", "bool", "int"], ex := [] }
theorem ck_law_whole : defB C_law_whole ["_law_thing"] rs_law_whole (defBody (topS 28)) = true := by decide +kernel
def C_law_figures : Ct := { N := N_law_figures, sc := defScope (topS 29), fns := [], gs := [], fr := ["abs", "int"], ex := [] }
theorem ck_law_figures : defB C_law_figures ["_law_number_here"] rs_law_figures (defBody (topS 29)) = true := by decide +kernel
def C_law_read : Ct := { N := N_law_read, sc := defScope (topS 30), fns := ["_law_figures"], gs := [], fr := ["len", "int"], ex := [] }
theorem ck_law_read : defB C_law_read ["_law_text"] rs_law_read (defBody (topS 30)) = true := by decide +kernel
def C_law_bent : Ct := { N := N_law_bent, sc := defScope (topS 31), fns := [], gs := [], fr := ["len"], ex := [] }
theorem ck_law_bent : defB C_law_bent ["_law_text", "_law_cell"] rs_law_bent (defBody (topS 31)) = true := by decide +kernel
def C_law_word : Ct := { N := N_law_word, sc := defScope (topS 32), fns := ["_law_mixed"], gs := [], fr := ["range", "len"], ex := [] }
theorem ck_law_word : defB C_law_word ["_law_cell", "_law_k"] rs_law_word (defBody (topS 32)) = true := by decide +kernel
def C_law_is_name : Ct := { N := N_law_is_name, sc := defScope (topS 33), fns := [], gs := [], fr := ["len"], ex := [] }
theorem ck_law_is_name : defB C_law_is_name ["_law_word_here"] rs_law_is_name (defBody (topS 33)) = true := by decide +kernel
def C_law_refused : Ct := { N := N_law_refused, sc := defScope (topS 34), fns := ["need_number", "need_name", "_law_kind"], gs := [], fr := [], ex := ["WeaveError"] }
theorem ck_law_refused : defB C_law_refused ["_law_which", "_law_thing"] rs_law_refused (defBody (topS 34)) = true := by decide +kernel
def C_law_number_right : Ct := { N := N_law_number_right, sc := defScope (topS 35), fns := ["number_text", "is_number", "_law_figures", "_law_refused", "is_name"], gs := [], fr := ["isinstance", "str"], ex := [] }
theorem ck_law_number_right : defB C_law_number_right ["_law_number_here"] rs_law_number_right (defBody (topS 35)) = true := by decide +kernel
def C_law_text_right : Ct := { N := N_law_text_right, sc := defScope (topS 36), fns := ["number_of", "_law_read", "_law_whole"], gs := [], fr := [], ex := [] }
theorem ck_law_text_right : defB C_law_text_right ["_law_text"] rs_law_text_right (defBody (topS 36)) = true := by decide +kernel
def C_law_things_right : Ct := { N := N_law_things_right, sc := defScope (topS 37), fns := ["_law_refused", "is_number", "is_name"], gs := [], fr := [], ex := [] }
theorem ck_law_things_right : defB C_law_things_right ["_law_cell", "_law_number_here"] rs_law_things_right (defBody (topS 37)) = true := by decide +kernel
def C_law : Ct := { N := N_law, sc := defScope (topS 38), fns := ["_law_number", "_law_bent", "_law_figures", "_law_word", "_law_text_right", "_law_number_right", "_law_things_right", "_law_is_name", "_law_refused", "is_name", "number_of"], gs := [], fr := ["range", "min", "len"], ex := [] }
theorem ck_law : defB C_law ["_law_script"] rs_law (defBody (topS 38)) = true := by decide +kernel
end K01
set_option Elab.async false
set_option autoImplicit false
set_option linter.all false
set_option maxRecDepth 100000
set_option maxHeartbeats 4000000
namespace K01
open PySem PySem.Spec PyProof.Rows L2 Rf
local macro_rules | `(tactic| walk_at "rf") => `(tactic| try simp only [Rf.wpSs, Rf.wpS, wpE, wpA, wpT, wpO, wpC, wpI, tSeq, tNext, tAsg, tRet, tRetN, tIfS, tDrop, tBreak, tCont, gName, tOp, tUn, tC, tTest, tChain, tAnd, tOr, tNot, tAndV, tOrV, tIf, tCB, tBM, tSl, tPart, tNoPart, tLst, tTup, tCons, tNil, tCallS, rVar, gvAt, faAt, spAt, tRaiseX, dn, blkD, rBin, rAddX, rSubX, rMulX, rModX, rDivX, rPowX, rCmp, rLtX, rLeX, rGtX, rGeX, rOrd, rIsX, rBF, rLenX, rIsiX, tyK, clK, rAbsX, rMinX, rMaxX, rTF, rIntX, rStrX, rBM, rStartX, rNegX, trX, L2.start, List.getElem?_cons_zero, List.getElem?_cons_succ, List.set_cons_zero, List.set_cons_succ, List.map_cons, List.map_nil, List.length_cons, List.length_nil, List.replicate, List.append_eq, List.cons_append, List.nil_append, Nat.reduceAdd, Nat.reduceSub, Nat.zero_add, Option.getD_some, WE, V.bl.injEq, exists_eq_left', tYes, if_true, Bool.not_true, Bool.not_false, Bool.false_eq_true, if_false, upd_same, iAny, rEqX, scal, tWhile, wipe, List.foldl_cons, List.foldl_nil, spP, spK, rIxX, rSlX, lst_upd, Option.bind_some, decide_eq_true_eq, Bool.not_eq_eq_eq_not, decide_eq_false_iff_not, rInX, tl_sOf, sOf_tl, Option.toList_some, Option.toList_none, List.append_nil, true_and, and_true, Bool.true_eq_false, upd_upd, Bool.false_xor, Bool.true_xor, beq_iff_eq, Bool.and_eq_true, reduceCtorEq])
/-- what K says of the kinds of value -/
structure KT (K : PySem.W.Frag) : Prop where
  ss : PySem.W.kitOne K (.type "str") (.type "str") = some true
  ns : PySem.W.kitOne K (.type "NoneType") (.type "str") = some false
  bs : PySem.W.kitOne K (.type "bool") (.type "str") = some false
  is : PySem.W.kitOne K (.type "int") (.type "str") = some false
  ls : PySem.W.kitOne K (.type "list") (.type "str") = some false
  ts : PySem.W.kitOne K (.type "tuple") (.type "str") = some false
  ds : PySem.W.kitOne K (.type "dict") (.type "str") = some false
  si : PySem.W.kitOne K (.type "str") (.type "int") = some false
  ni : PySem.W.kitOne K (.type "NoneType") (.type "int") = some false
  bi : PySem.W.kitOne K (.type "bool") (.type "int") = some true
  ii : PySem.W.kitOne K (.type "int") (.type "int") = some true
  li : PySem.W.kitOne K (.type "list") (.type "int") = some false
  ti : PySem.W.kitOne K (.type "tuple") (.type "int") = some false
  di : PySem.W.kitOne K (.type "dict") (.type "int") = some false
  bb : PySem.W.kitOne K (.type "bool") (.type "bool") = some true
  ib : PySem.W.kitOne K (.type "int") (.type "bool") = some false
def kindOk (H : Hp) : V → Bool
  | .non => true | .bl _ => true | .int _ => true | .str s => decide ((tl s).length ≤ line)
  | .ref a => (match H a with
    | some (.lst _) => true | some (.tup _) => true | some (.dK _) => true | _ => false)
  | _ => false
theorem kind_ref {H : Hp} {a : Addr} (h : kindOk H (.ref a) = true) : (∃ xs, H a = some (.lst xs)) ∨ (∃ xs, H a = some (.tup xs)) ∨ (∃ xs, H a = some (.dK xs)) := by
  unfold kindOk at h
  dsimp only at h
  split at h
  · exact .inl ⟨_, by assumption⟩
  · exact .inr (.inl ⟨_, by assumption⟩)
  · exact .inr (.inr ⟨_, by assumption⟩)
  · cases h
theorem kind_loc {H : Hp} {v : V} (h : kindOk H v = true) : ∃ p, SubOk H p ∧ kindOk (rst H p) v = true := by
  cases v with
  | ref a =>
    refine ⟨fun b => decide (b = a), fun b o e q => ?_, ?_⟩
    · have e : b = a := of_decide_eq_true e
      subst e
      rcases kind_ref h with ⟨xs, z⟩ | ⟨xs, z⟩ | ⟨xs, z⟩ <;> (rw [z] at q; cases q; rfl)
    · unfold kindOk at h ⊢
      have e : rst H (fun b => decide (b = a)) a = H a := rst_y (by simp)
      dsimp only at h ⊢
      rw [e]
      exact h
  | _ => exact ⟨fun _ => false, sub0 H, h⟩
def LET : Str := "abcdefghijklmnopqrstuvwxyz"
def FIG : Str := "0123456789"
def isName (l : Cs) : Bool := decide (1 ≤ l.length ∧ l.length ≤ 8) && l.all fun c => decide (c ∈ tl LET)
def isNameV : V → Bool
  | .str s => isName (tl s)
  | _ => false
def g_is_name : List V → Hp → Option V
  | [v], H => if kindOk H v = true then some (.bl (isNameV v)) else none
  | _, _ => none
theorem exn {b : Bool} {p : Bool → Prop} : (∃ c, b = !c ∧ p c) ↔ p (!b) := by
  constructor
  · rintro ⟨c, rfl, h⟩
    rw [Bool.not_not]
    exact h
  · intro h
    exact ⟨!b, (Bool.not_not b).symm, h⟩
theorem one_arg {vs : List V} {f : List V → Hp → Option V} {H : Hp} {r : V} (h : f vs H = some r) (h0 : f [] H = none) (h2 : ∀ a b c, f (a :: b :: c) H = none) : ∃ v, vs = [v] := by
  match vs with
  | [v] => exact ⟨v, rfl⟩
  | [] => rw [h0] at h; cases h
  | a :: b :: c => rw [h2] at h; cases h
theorem sem_is_name {K : PySem.W.Frag} (kt : KT K) (vs : List V) (r : V) (H : Hp) (Q : VK) (E : XK) (h : g_is_name vs H = some r) (hQ : ∀ H', Same H H' → Q r H') :
    Rf.wpSs (dn K E ⟨[], [], [.int 8, .str LET], []⟩) rs_is_name { nx := fun _ H' => Q .non H', rt := Q } (L2.start N_is_name vs) H := by
  obtain ⟨v, rfl⟩ := one_arg h rfl fun a b c => by unfold g_is_name; rfl
  unfold rs_is_name N_is_name
  have hk : kindOk H v = true := by
    simp only [g_is_name] at h
    split at h
    · assumption
    · cases h
  cases v with
  | str s =>
    simp only [g_is_name, if_pos hk, isNameV] at h
    cases h
    have hl : (tl s).length ≤ line := by simpa [kindOk] using hk
    walk_at "rf"
    simp only [kt.ss, Option.some.injEq, exists_eq_left', exn]
    walk_at "rf"
    refine ⟨hl, ?_⟩
    split
    · rename_i h1
      split
      · rename_i h2
        have e : isName (tl s) = false := by
          unfold isName
          rw [decide_eq_false (by omega)]
          rfl
        have q := hQ H fun _ _ z => z
        rw [e] at q
        exact q
      · rename_i h2
        intro D hD
        refine lc_str (fun c => some (.bl (decide (c ∈ tl LET)))) hl (fun c acc Nx hc ha hN => ?_) ?_
        · walk_at "rf"
          exact ⟨acc, rfl, ha, by simpa only [Option.toList_some] using hN⟩
        · simp only [rAllX, lst_upd, Option.bind_some, bls_map]
          have e : isName (tl s) = ((tl s).map fun c => decide (c ∈ tl LET)).all id := by
            unfold isName
            rw [decide_eq_true (by omega), List.all_map]
            rfl
          rw [← e]
          exact hQ _ (fun b o hb => by rw [upd_ne (ne_of_none hb hD)]; exact hb)
    · rename_i h1
      have e : isName (tl s) = false := by
        unfold isName
        rw [decide_eq_false (by omega)]
        rfl
      have q := hQ H fun _ _ z => z
      rw [e] at q
      exact q
  | ref a =>
    simp only [g_is_name, if_pos hk, isNameV] at h
    cases h
    have q := hQ H fun _ _ z => z
    rcases kind_ref hk with ⟨xs, z⟩ | ⟨xs, z⟩ | ⟨xs, z⟩
    · walk_at "rf"
      simp only [z, kt.ls, Option.some.injEq, exists_eq_left', exn]
      exact q
    · walk_at "rf"
      simp only [z, kt.ts, Option.some.injEq, exists_eq_left', exn]
      exact q
    · walk_at "rf"
      simp only [z, kt.ds, Option.some.injEq, exists_eq_left', exn]
      exact q
  | non =>
    simp only [g_is_name, if_pos hk, isNameV] at h
    cases h
    have q := hQ H fun _ _ z => z
    walk_at "rf"
    simp only [kt.ns, Option.some.injEq, exists_eq_left', exn]
    exact q
  | bl b =>
    simp only [g_is_name, if_pos hk, isNameV] at h
    cases h
    have q := hQ H fun _ _ z => z
    walk_at "rf"
    simp only [kt.bs, Option.some.injEq, exists_eq_left', exn]
    exact q
  | int b =>
    simp only [g_is_name, if_pos hk, isNameV] at h
    cases h
    have q := hQ H fun _ _ z => z
    walk_at "rf"
    simp only [kt.is, Option.some.injEq, exists_eq_left', exn]
    exact q
  | _ => cases hk
/-! ### is_number -/
def BEY : Int := 10 ^ 60
def isNum : V → Bool
  | .int i => decide (0 - BEY < i ∧ i < BEY)
  | _ => false
def g_is_number : List V → Hp → Option V
  | [v], H => if kindOk H v = true then some (.bl (isNum v)) else none
  | _, _ => none
theorem sem_is_number {K : PySem.W.Frag} (kt : KT K) (vs : List V) (r : V) (H : Hp) (Q : VK) (E : XK) (h : g_is_number vs H = some r) (hQ : ∀ H', Same H H' → Q r H') :
    Rf.wpSs (dn K E ⟨[], [], [.int BEY], []⟩) rs_is_number { nx := fun _ H' => Q .non H', rt := Q } (L2.start N_is_number vs) H := by
  obtain ⟨v, rfl⟩ := one_arg h rfl fun a b c => by unfold g_is_number; rfl
  unfold rs_is_number N_is_number
  have hk : kindOk H v = true := by
    simp only [g_is_number] at h
    split at h
    · assumption
    · cases h
  simp only [g_is_number, if_pos hk] at h
  cases h
  have q := hQ H fun _ _ z => z
  cases v with
  | ref a =>
    rcases kind_ref hk with ⟨xs, z⟩ | ⟨xs, z⟩ | ⟨xs, z⟩
    · walk_at "rf"
      simp only [z, kt.li, Option.some.injEq, exists_eq_left', exn]
      walk_at "rf"
      exact q
    · walk_at "rf"
      simp only [z, kt.ti, Option.some.injEq, exists_eq_left', exn]
      walk_at "rf"
      exact q
    · walk_at "rf"
      simp only [z, kt.di, Option.some.injEq, exists_eq_left', exn]
      walk_at "rf"
      exact q
  | str s =>
    walk_at "rf"
    simp only [kt.si, Option.some.injEq, exists_eq_left', exn]
    walk_at "rf"
    exact q
  | non =>
    walk_at "rf"
    simp only [kt.ni, Option.some.injEq, exists_eq_left', exn]
    walk_at "rf"
    exact q
  | bl b =>
    walk_at "rf"
    simp only [kt.bi, kt.bb, Option.some.injEq, exists_eq_left', exn]
    walk_at "rf"
    exact q
  | int i =>
    walk_at "rf"
    simp only [kt.ii, kt.ib, Option.some.injEq, exists_eq_left', exn]
    walk_at "rf"
    have e : isNum (.int i) = if 0 - BEY < i then decide (i < BEY) else false := by
      unfold isNum
      dsimp only
      by_cases a : 0 - BEY < i <;> by_cases b : i < BEY <;> simp [a, b]
    rw [e] at q
    split at q
    · rename_i a
      rw [if_pos a]
      exact q
    · rename_i a
      rw [if_neg a]
      exact q
  | _ => cases hk
end K01
set_option Elab.async false
set_option autoImplicit false
set_option linter.all false
set_option maxRecDepth 100000
set_option maxHeartbeats 4000000
/-! Figures and their readings, in plain terms. -/
namespace K01
open PySem PySem.Spec PyProof.Rows L2 Rf
def figs (n : Int) : Cs := (if n < 0 then [45] else []) ++ TL.numL n.natAbs
theorem tl_toString (i : Int) : Rf.tl (Str.ofString (toString i)) = figs i := by
  unfold figs
  by_cases h : i < 0
  · rw [if_pos h]
    obtain ⟨n, rfl⟩ : ∃ n : Nat, i = Int.negSucc n := by
      cases i with
      | ofNat n => exact absurd h (by simp)
      | negSucc n => exact ⟨n, rfl⟩
    show TL.tl (Str.ofString (toString (Int.negSucc n))) = [45] ++ TL.numL (n + 1)
    have e : toString (Int.negSucc n) = "-" ++ toString ((n + 1 : Nat) : Int) := rfl
    rw [e, TL.tl_ofString, ← TL.tl_num, TL.tl_ofString, String.toList_append, List.map_append]
    rfl
  · rw [if_neg h]
    obtain ⟨n, rfl⟩ : ∃ n : Nat, i = (n : Int) := ⟨i.toNat, by omega⟩
    exact TL.tl_num n
def isDig (c : Nat) : Bool := decide (48 ≤ c) && decide (c ≤ 57)
def dval (b : Cs) : Nat := NumText.digitsVal b
def bodyOf (t : Cs) : Cs := if t.take 1 = [45] then t.drop 1 else t
def badB (b : Cs) : Bool := !(decide (1 ≤ b.length ∧ b.length ≤ 60)) || !(b.all isDig)
def numOf (t : Cs) : Option Int :=
  if badB (bodyOf t) = true then none
  else if (bodyOf t)[0]? = some 48 ∧ t ≠ [48] then none
  else some (if t.take 1 = [45] then -(dval (bodyOf t) : Int) else dval (bodyOf t))
def readL (t : Cs) : Option Int :=
  if badB (bodyOf t) = true then none
  else if figs (dval (bodyOf t)) ≠ bodyOf t ∨ (dval (bodyOf t) = 0 ∧ bodyOf t ≠ t) then none
  else some (if bodyOf t ≠ t then -(dval (bodyOf t) : Int) else dval (bodyOf t))
theorem dval_snoc (p : Cs) (c : Nat) : dval (p ++ [c]) = dval p * 10 + (c - 48) := by
  unfold dval NumText.digitsVal
  rw [List.foldl_append]
  rfl
theorem figs_nat (n : Nat) : figs (n : Int) = TL.numL n := by
  unfold figs
  rw [if_neg (by omega), Int.natAbs_natCast]
  rfl
theorem dig_of {l : Cs} (h : l.all isDig = true) {c : Nat} (hc : c ∈ l) : 48 ≤ c ∧ c ≤ 57 := by
  have q := List.all_eq_true.mp h c hc
  unfold isDig at q
  simpa using q
theorem dval_num : ∀ (n : Nat) (b : Cs), b.length = n → b ≠ [] → b.all isDig = true → b[0]? ≠ some 48 → TL.numL (dval b) = b ∧ 1 ≤ dval b := by
  intro n
  induction n with
  | zero => intro b h0 h1; exact absurd (List.eq_nil_of_length_eq_zero h0) h1
  | succ n ih =>
    intro b hl hne hd h0
    obtain ⟨p, c, rfl⟩ : ∃ p c, b = p ++ [c] := ⟨b.dropLast, b.getLast hne, (List.dropLast_concat_getLast hne).symm⟩
    have hc := dig_of hd (List.mem_append_right p (List.mem_singleton.mpr rfl))
    have hp : p.all isDig = true := by
      rw [List.all_append, Bool.and_eq_true] at hd
      exact hd.1
    rw [dval_snoc]
    by_cases e : p = []
    · subst e
      have hn : c ≠ 48 := fun z => h0 (by rw [z]; rfl)
      have z : dval [] = 0 := rfl
      rw [z, TL.numL_lt (by omega)]
      refine ⟨?_, by omega⟩
      have e2 : 48 + (0 * 10 + (c - 48)) = c := by omega
      rw [e2]
      rfl
    · have lp : p.length = n := by
        rw [List.length_append] at hl
        simpa using hl
      have h0' : p[0]? ≠ some 48 := fun z => h0 (by
        rw [List.getElem?_append_left (List.length_pos_iff.mpr e)]
        exact z)
      obtain ⟨i1, i2⟩ := ih p lp e hp h0'
      rw [TL.numL_step (by omega)]
      have e1 : (dval p * 10 + (c - 48)) / 10 = dval p := by omega
      have e2 : 48 + (dval p * 10 + (c - 48)) % 10 = c := by omega
      rw [e1, e2, i1]
      exact ⟨rfl, by omega⟩
theorem num_lead : ∀ n : Nat, (TL.numL n)[0]? = some 48 → n = 0 := by
  intro n
  induction n using Nat.strongRecOn with
  | ind n ih =>
    intro h
    by_cases l : n < 10
    · rw [TL.numL_lt l] at h
      have e : 48 + n = 48 := by simpa using h
      omega
    · rw [TL.numL_step (by omega), List.getElem?_append_left (List.length_pos_iff.mpr (TL.numL_ne _))] at h
      have := ih (n / 10) (by omega) h
      omega
theorem take1 {t : Cs} (h : t.take 1 = [45]) : t = 45 :: t.drop 1 := by
  have q := List.take_append_drop 1 t
  rw [h] at q
  exact q.symm
theorem body_ne {t : Cs} : bodyOf t ≠ t ↔ t.take 1 = [45] := by
  unfold bodyOf
  by_cases h : t.take 1 = [45]
  · rw [if_pos h]
    refine ⟨fun _ => h, fun _ e => ?_⟩
    have q := congrArg List.length (take1 h)
    rw [e] at q
    simp at q
  · rw [if_neg h]
    exact ⟨fun z => absurd rfl z, fun z => absurd z h⟩
theorem read_num (t : Cs) : readL t = numOf t := by
  unfold readL numOf
  by_cases hb : badB (bodyOf t) = true
  · rw [if_pos hb, if_pos hb]
  · rw [if_neg hb, if_neg hb]
    have hb' : badB (bodyOf t) = false := by simpa using hb
    unfold badB at hb'
    rw [Bool.or_eq_false_iff] at hb'
    have hl : 1 ≤ (bodyOf t).length ∧ (bodyOf t).length ≤ 60 := by simpa using hb'.1
    have hd : (bodyOf t).all isDig = true := by simpa using hb'.2
    have hne : bodyOf t ≠ [] := fun e => by rw [e] at hl; simp at hl
    rw [figs_nat]
    by_cases h0 : (bodyOf t)[0]? = some 48
    · by_cases h1 : bodyOf t = [48]
      · by_cases h2 : t = [48]
        · subst h2
          rfl
        · have z : dval (bodyOf t) = 0 := by rw [h1]; rfl
          rw [if_pos (Or.inr ⟨z, by rw [h1]; exact fun e => h2 e.symm⟩), if_pos ⟨h0, h2⟩]
      · have h2 : t ≠ [48] := fun e => h1 (by rw [e]; rfl)
        rw [if_pos (Or.inl fun e => ?_), if_pos ⟨h0, h2⟩]
        have z := num_lead _ (by rw [e]; exact h0)
        rw [z] at e
        exact h1 (by rw [← e]; exact TL.numL_lt (by decide))
    · obtain ⟨h1, h2⟩ := dval_num _ _ rfl hne hd h0
      have k1 : ¬ (TL.numL (dval (bodyOf t)) ≠ bodyOf t ∨ (dval (bodyOf t) = 0 ∧ bodyOf t ≠ t)) := fun z => by
        rcases z with z | z
        · exact z h1
        · omega
      have k2 : ¬ ((bodyOf t)[0]? = some 48 ∧ t ≠ [48]) := fun z => h0 z.1
      rw [if_neg k1, if_neg k2]
      by_cases h3 : t.take 1 = [45]
      · rw [if_pos h3, if_pos (body_ne.mpr h3)]
      · rw [if_neg h3, if_neg (fun z => h3 (body_ne.mp z))]
/-- int(text) where number_of reads it -/
theorem int_num {t : Cs} {v : Int} (h : numOf t = some v) : PySem.intText? (sOf t) = some v ∧ t.length ≤ 61 := by
  unfold numOf at h
  by_cases hb : badB (bodyOf t) = true
  · rw [if_pos hb] at h
    cases h
  · rw [if_neg hb] at h
    split at h
    · cases h
    · have hb' : badB (bodyOf t) = false := by simpa using hb
      unfold badB at hb'
      rw [Bool.or_eq_false_iff] at hb'
      have hl : 1 ≤ (bodyOf t).length ∧ (bodyOf t).length ≤ 60 := by simpa using hb'.1
      have hd : (bodyOf t).all isDig = true := by simpa using hb'.2
      have hne : bodyOf t ≠ [] := fun e => by rw [e] at hl; simp at hl
      have had : NumText.AllDigits (bodyOf t) := fun c hc => dig_of hd hc
      by_cases h3 : t.take 1 = [45]
      · rw [if_pos h3] at h
        cases h
        have e : bodyOf t = t.drop 1 := by unfold bodyOf; rw [if_pos h3]
        have et := take1 h3
        have el : t.length ≤ 61 := by
          have q := congrArg List.length et
          rw [e] at hl
          rw [List.length_cons] at q
          omega
        refine ⟨?_, el⟩
        rw [e] at had hne ⊢
        exact intText_neg (x := sOf t) et had hne (by rw [sOf_len]; omega)
      · rw [if_neg h3] at h
        cases h
        have e : bodyOf t = t := by unfold bodyOf; rw [if_neg h3]
        rw [e] at had hne hl ⊢
        exact ⟨intText_digits (x := sOf t) had hne (by rw [sOf_len]; omega), by omega⟩
end K01
set_option Elab.async false
set_option autoImplicit false
set_option linter.all false
set_option maxRecDepth 100000
set_option maxHeartbeats 4000000
namespace K01
open PySem PySem.Spec PyProof.Rows L2 Rf
local macro_rules | `(tactic| walk_at "rf") => `(tactic| try simp only [Rf.wpSs, Rf.wpS, wpE, wpA, wpT, wpO, wpC, wpI, tSeq, tNext, tAsg, tRet, tRetN, tIfS, tDrop, tBreak, tCont, gName, tOp, tUn, tC, tTest, tChain, tAnd, tOr, tNot, tAndV, tOrV, tIf, tCB, tBM, tSl, tPart, tNoPart, tLst, tTup, tCons, tNil, tCallS, rVar, gvAt, faAt, spAt, tRaiseX, dn, blkD, rBin, rAddX, rSubX, rMulX, rModX, rDivX, rPowX, rCmp, rLtX, rLeX, rGtX, rGeX, rOrd, rIsX, rBF, rLenX, rIsiX, tyK, clK, rAbsX, rMinX, rMaxX, rTF, rIntX, rStrX, rBM, rStartX, rNegX, trX, L2.start, List.getElem?_cons_zero, List.getElem?_cons_succ, List.set_cons_zero, List.set_cons_succ, List.map_cons, List.map_nil, List.length_cons, List.length_nil, List.replicate, List.append_eq, List.cons_append, List.nil_append, Nat.reduceAdd, Nat.reduceSub, Nat.zero_add, Option.getD_some, WE, V.bl.injEq, exists_eq_left', tYes, if_true, Bool.not_true, Bool.not_false, Bool.false_eq_true, if_false, upd_same, iAny, rEqX, scal, tWhile, wipe, List.foldl_cons, List.foldl_nil, spP, spK, rIxX, rSlX, lst_upd, Option.bind_some, decide_eq_true_eq, Bool.not_eq_eq_eq_not, decide_eq_false_iff_not, rInX, tl_sOf, sOf_tl, Option.toList_some, Option.toList_none, List.append_nil, true_and, and_true, Bool.true_eq_false, upd_upd, Bool.false_xor, Bool.true_xor, beq_iff_eq, Bool.and_eq_true, reduceCtorEq])
/-! ### the law's own small defs -/
def sml (k : Int) : Bool := decide (-(2 ^ 64) < k) && decide (k < 2 ^ 64)
theorem sml_of {k : Int} (h : sml k = true) : -(2 ^ 64) < k ∧ k < 2 ^ 64 := by
  unfold sml at h
  simpa using h
def mixA (c k : Int) : Int := (c % 1000000007 + 7919 * k * k + 31 * k + 17) * 48271 % 2147483647
def mixed (c k : Int) : Int := mixA c k * (mixA c k % 65521 + 16807) % 2147483629 / 4
def g_mixed : List V → Option V
  | [.int c, .int k] => if sml k = true then some (.int (mixed c k)) else none
  | _ => none
theorem mixA_bd (c k : Int) : 0 ≤ mixA c k ∧ mixA c k < 2147483647 := by
  unfold mixA
  exact ⟨Int.emod_nonneg _ (by decide), Int.emod_lt_of_pos _ (by decide)⟩
theorem mixed_bd (c k : Int) : 0 ≤ mixed c k ∧ mixed c k < 2147483629 := by
  unfold mixed
  have h1 := Int.emod_nonneg (mixA c k * (mixA c k % 65521 + 16807)) (show (2147483629 : Int) ≠ 0 by decide)
  have h2 := Int.emod_lt_of_pos (mixA c k * (mixA c k % 65521 + 16807)) (show (0 : Int) < 2147483629 by decide)
  omega
theorem sem_mixed {K : PySem.W.Frag} (vs : List V) (r : V) (H : Hp) (Q : VK) (E : XK) (h : g_mixed vs = some r) (hQ : ∀ H', Same H H' → Q r H') :
    Rf.wpSs (dn K E ⟨[], [], [], []⟩) rs_law_mixed { nx := fun _ H' => Q .non H', rt := Q } (L2.start N_law_mixed vs) H := by
  unfold g_mixed at h
  split at h
  · rename_i c k
    split at h
    · rename_i hk
      cases h
      have hk := sml_of hk
      unfold rs_law_mixed N_law_mixed
      walk_at "rf"
      have hm := mixA_bd c k
      exact ⟨by decide, .l ⟨by decide, by decide⟩, .r hk, .l ⟨by decide, by decide⟩, .r ⟨by decide, by decide⟩, by decide, by decide, .l ⟨by show _ < mixA c k; omega, by show mixA c k < _; omega⟩, by decide, ⟨by decide, by decide⟩, hQ H fun _ _ z => z⟩
    · cases h
  · cases h
/-! the script -/
def intsOf : List V → Option (List Int)
  | [] => some []
  | .int i :: r => (intsOf r).map (i :: ·)
  | _ :: _ => none
theorem ints_map : ∀ {xs : List V} {ns : List Int}, intsOf xs = some ns → xs = ns.map V.int
  | [], ns, h => by cases h; rfl
  | x :: r, ns, h => by
    cases x with
    | int i =>
      unfold intsOf at h
      cases e : intsOf r with
      | none => rw [e] at h; cases h
      | some ms =>
        rw [e] at h
        cases h
        rw [ints_map e]
        rfl
    | _ => cases h
theorem map_ints : ∀ ns : List Int, intsOf (ns.map V.int) = some ns
  | [] => rfl
  | i :: r => by
    show (intsOf (r.map V.int)).map (i :: ·) = _
    rw [map_ints r]
    rfl
def scr (H : Hp) (a : Addr) : Option (List Int) := match H a with
  | some (.frz _ (.lst xs)) => intsOf xs
  | _ => none
theorem scr_of {H : Hp} {a : Addr} {ns : List Int} (h : scr H a = some ns) : ∃ o, H a = some (.frz o (.lst (ns.map V.int))) := by
  unfold scr at h
  split at h
  · rename_i o xs e
    rw [ints_map h] at e
    exact ⟨o, e⟩
  · cases h
theorem scr_up {H H' : Hp} {a : Addr} {ns : List Int} (e : Same H H') (h : scr H a = some ns) : scr H' a = some ns := by
  obtain ⟨o, z⟩ := scr_of h
  unfold scr
  rw [e a _ z]
  exact map_ints ns
theorem scr_seq {H : Hp} {a : Addr} {ns : List Int} (h : scr H a = some ns) : seqH H a = some (ns.map V.int) := by
  obtain ⟨o, z⟩ := scr_of h
  unfold seqH
  rw [z]
theorem scr_dk {α : Type} {H : Hp} {a : Addr} {ns : List Int} (h : scr H a = some ns) (f : List (Key × V) → α) (g : α) : (match H a with | some (.dK kvs) => f kvs | _ => g) = g := by
  obtain ⟨o, z⟩ := scr_of h
  rw [z]
theorem scr_loc {H : Hp} {a : Addr} {ns : List Int} (h : scr H a = some ns) : ∃ p, SubOk H p ∧ scr (rst H p) a = some ns := by
  obtain ⟨o, z⟩ := scr_of h
  refine ⟨fun b => decide (b = a), fun b u e q => ?_, ?_⟩
  · have e : b = a := of_decide_eq_true e
    subst e
    rw [z] at q
    cases q
    rfl
  · unfold scr
    rw [rst_y (by simp), z]
    exact map_ints ns
def cellAt (ns : List Int) (k : Int) : Int := if 0 < ns.length then (atI ns (k % ns.length)).getD 0 else 0
def number (ns : List Int) (k : Int) : Int := mixed (cellAt ns k) k
def g_number : List V → Hp → Option V
  | [.ref a, .int k], H => if sml k = true then (scr H a).map fun ns => .int (number ns k) else none
  | _, _ => none
theorem atI_some {α : Type} {xs : List α} {i : Int} (h0 : 0 ≤ i) (h1 : i < xs.length) : ∃ v, atI xs i = some v ∧ xs[i.toNat]? = some v := by
  unfold atI ixN
  rw [if_pos h0, if_pos h1]
  have h : i.toNat < xs.length := by omega
  exact ⟨xs[i.toNat], by simp [h], by simp [h]⟩
theorem atI_map {α β : Type} (f : α → β) (xs : List α) (i : Int) : atI (xs.map f) i = (atI xs i).map f := by
  unfold atI
  rw [List.length_map]
  cases ixN xs.length i with
  | none => rfl
  | some j =>
    show (xs.map f)[j]? = (xs[j]?).map f
    rw [List.getElem?_map]
theorem g_number_sh {vs : List V} {H : Hp} {r : V} (h : g_number vs H = some r) : ∃ a k ns, vs = [.ref a, .int k] ∧ sml k = true ∧ scr H a = some ns ∧ r = .int (number ns k) := by
  unfold g_number at h
  split at h
  · split at h
    · rename_i hk
      cases hs : scr _ _ with
      | none => rw [hs] at h; cases h
      | some ns =>
        rw [hs] at h
        cases h
        exact ⟨_, _, ns, rfl, hk, hs, rfl⟩
    · cases h
  · cases h
theorem sem_number {K : PySem.W.Frag} {fA : List Addr} (vs : List V) (r : V) (H : Hp) (Q : VK) (E : XK) (h : g_number vs H = some r) (hQ : ∀ H', Same H H' → Q r H') :
    Rf.wpSs (dn K E ⟨[spP g_mixed], fA, [], []⟩) rs_law_number { nx := fun _ H' => Q .non H', rt := Q } (L2.start N_law_number vs) H := by
  obtain ⟨a, k, ns, rfl, hk, hs, rfl⟩ := g_number_sh h
  have q := hQ H fun _ _ z => z
  unfold number cellAt at q
  unfold rs_law_number N_law_number
  walk_at "rf"
  obtain ⟨o, z⟩ := scr_of hs
  simp only [z, scr_seq hs, List.length_map]
  walk_at "rf"
  split
  · rename_i hp
    have hp' : 0 < ns.length := by omega
    rw [if_pos hp'] at q
    have h0 := Int.emod_nonneg k (show (ns.length : Int) ≠ 0 by omega)
    have h1 := Int.emod_lt_of_pos k hp
    obtain ⟨v, hv, _⟩ := atI_some (xs := ns) h0 h1
    rw [hv] at q
    simp only [z, scr_seq hs, List.length_map, atI_map, hv, Option.map_some]
    refine ⟨hp, ?_⟩
    simp only [g_mixed, hk, if_true]
    exact q
  · rename_i hp
    rw [if_neg (by omega)] at q
    simp only [g_mixed, hk, if_true]
    exact q
def wholeV : V → Bool
  | .int _ => true
  | _ => false
def g_whole : List V → Option V
  | [.int _] => some (.bl true)
  | _ => none
theorem sem_whole {K : PySem.W.Frag} (kt : KT K) (vs : List V) (r : V) (H : Hp) (Q : VK) (E : XK) (h : g_whole vs = some r) (hQ : ∀ H', Same H H' → Q r H') :
    Rf.wpSs (dn K E ⟨[], [], [], []⟩) rs_law_whole { nx := fun _ H' => Q .non H', rt := Q } (L2.start N_law_whole vs) H := by
  unfold g_whole at h
  split at h
  · cases h
    have q := hQ H fun _ _ z => z
    unfold rs_law_whole N_law_whole
    walk_at "rf"
    simp only [kt.ii, kt.ib, Option.some.injEq, exists_eq_left', exn, if_true, Bool.not_false]
    exact q
  · cases h
end K01
set_option Elab.async false
set_option autoImplicit false
set_option linter.all false
set_option maxRecDepth 100000
set_option maxHeartbeats 4000000
namespace K01
open PySem PySem.Spec PyProof.Rows L2 Rf
theorem vstr_eq {a b : Str} : (V.str a = V.str b) = (Rf.tl a = Rf.tl b) := by
  rw [V.str.injEq, Rf.str_eq]
theorem tl_dash : Rf.tl "-" = [45] := by decide +kernel
theorem tl_zero : Rf.tl "0" = [48] := by decide +kernel
theorem tl_empty : Rf.tl "" = [] := by decide +kernel
theorem tl_sOf2 (l : Cs) : Rf.tl (sOf l) = l := by cases l <;> rfl
theorem sOf_tl2 (s : Str) : sOf (Rf.tl s) = s := by cases s <;> rfl
local macro_rules | `(tactic| walk_at "rf") => `(tactic| try simp only [Rf.wpSs, Rf.wpS, wpE, wpA, wpT, wpO, wpC, wpI, tSeq, tNext, tAsg, tRet, tRetN, tIfS, tDrop, tBreak, tCont, gName, tOp, tUn, tC, tTest, tChain, tAnd, tOr, tNot, tAndV, tOrV, tIf, tCB, tBM, tSl, tPart, tNoPart, tLst, tTup, tCons, tNil, tCallS, rVar, gvAt, faAt, spAt, tRaiseX, dn, blkD, rBin, rAddX, rSubX, rMulX, rModX, rDivX, rPowX, rCmp, rLtX, rLeX, rGtX, rGeX, rOrd, rIsX, rBF, rLenX, rIsiX, tyK, clK, rAbsX, rMinX, rMaxX, rTF, rIntX, rStrX, rBM, rStartX, rNegX, trX, L2.start, List.getElem?_cons_zero, List.getElem?_cons_succ, List.set_cons_zero, List.set_cons_succ, List.map_cons, List.map_nil, List.length_cons, List.length_nil, List.replicate, List.append_eq, List.cons_append, List.nil_append, Nat.reduceAdd, Nat.reduceSub, Nat.zero_add, Option.getD_some, WE, V.bl.injEq, exists_eq_left', tYes, if_true, Bool.not_true, Bool.not_false, Bool.false_eq_true, if_false, upd_same, iAny, rEqX, scal, tWhile, wipe, List.foldl_cons, List.foldl_nil, spP, spK, rIxX, rSlX, lst_upd, Option.bind_some, decide_eq_true_eq, Bool.not_eq_eq_eq_not, decide_eq_false_iff_not, rInX, tl_sOf2, sOf_tl2, Option.toList_some, Option.toList_none, List.append_nil, true_and, and_true, Bool.true_eq_false, upd_upd, Bool.false_xor, Bool.true_xor, beq_iff_eq, Bool.and_eq_true, reduceCtorEq, rNeX, V.int.injEq, vstr_eq, tyV, BM.ty, tl_dash, tl_zero, tl_empty, List.length_singleton])
def headR : RSs → RS
  | .cons a _ => a
  | .nil => .pass
def tailR : RSs → RSs
  | .cons _ r => r
  | .nil => .nil
/-! ### need_name, need_number -/
def S_need (f : V → Bool) (c : Addr) : Sp := fun vs H Q E => match vs with
  | [v] => kindOk H v = true ∧ (if f v = true then Q .non H else E (.ref c) none H)
  | _ => False
theorem sem_need_name {K : PySem.W.Frag} {fA : List Addr} {c : Addr} (vs : List V) (H : Hp) (Q : VK) (E : XK) (h : S_need isNameV c vs H Q E) :
    Rf.wpSs (dn K E ⟨[spK g_is_name], fA, [], [c]⟩) rs_need_name { nx := fun _ H' => Q .non H', rt := Q } (L2.start N_need_name vs) H := by
  unfold S_need at h
  split at h
  · obtain ⟨hk, h⟩ := h
    unfold rs_need_name N_need_name
    walk_at "rf"
    simp only [g_is_name, if_pos hk]
    walk_at "rf"
    split
    · rename_i e
      rw [if_neg (by rw [e]; decide)] at h
      exact h
    · rename_i e
      rw [if_pos (by simpa using e)] at h
      exact h
  · exact h.elim
theorem sem_need_number {K : PySem.W.Frag} {fA : List Addr} {c : Addr} (vs : List V) (H : Hp) (Q : VK) (E : XK) (h : S_need isNum c vs H Q E) :
    Rf.wpSs (dn K E ⟨[spK g_is_number], fA, [], [c]⟩) rs_need_number { nx := fun _ H' => Q .non H', rt := Q } (L2.start N_need_number vs) H := by
  unfold S_need at h
  split at h
  · obtain ⟨hk, h⟩ := h
    unfold rs_need_number N_need_number
    walk_at "rf"
    simp only [g_is_number, if_pos hk]
    walk_at "rf"
    split
    · rename_i e
      rw [if_neg (by rw [e]; decide)] at h
      exact h
    · rename_i e
      rw [if_pos (by simpa using e)] at h
      exact h
  · exact h.elim
/-! ### number_text, number_of -/
def g_text : List V → Option V
  | [.int i] => if isNum (.int i) = true then some (.str (sOf (figs i))) else none
  | _ => none
theorem num_abs {i : Int} (h : isNum (.int i) = true) : i.natAbs < 10 ^ 60 := by
  unfold isNum BEY at h
  have q := of_decide_eq_true h
  omega
theorem abs_num {i : Int} (h : i.natAbs < 10 ^ 60) : isNum (.int i) = true := by
  unfold isNum BEY
  exact decide_eq_true (by omega)
theorem log_ok {n : Nat} (h : n < 10 ^ 60) : n.log2 < 1920 := by
  by_cases e : n = 0
  · subst e; decide
  · rw [Nat.log2_lt e]
    exact Nat.lt_trans h (by decide +kernel)
theorem text_figs (i : Int) : Str.ofString (toString i) = sOf (figs i) := Rf.str_eq.mpr (by rw [tl_toString, Rf.tl_sOf])
theorem sem_number_text {K : PySem.W.Frag} (vs : List V) (r : V) (H : Hp) (Q : VK) (E : XK) (h : g_text vs = some r) (hQ : ∀ H', Same H H' → Q r H') :
    Rf.wpSs (dn K E ⟨[], [], [], []⟩) rs_number_text { nx := fun _ H' => Q .non H', rt := Q } (L2.start N_number_text vs) H := by
  unfold g_text at h
  split at h
  · split at h
    · rename_i hn
      cases h
      have q := hQ H fun _ _ z => z
      unfold rs_number_text N_number_text
      walk_at "rf"
      refine ⟨log_ok (num_abs hn), ?_⟩
      rw [← text_figs] at q
      exact q
    · cases h
  · cases h
theorem cut1 (z : Cs) : cutC z (some 1) none = z.drop 1 := by
  unfold cutC
  rw [HT.sIx_none, show (some (1 : Int)) = some ((1 : Nat) : Int) from rfl, HT.sIx_nat]
  by_cases h : 1 ≤ z.length
  · rw [Nat.min_eq_left h, List.take_of_length_le (by rw [List.length_drop]; exact Nat.le_refl _)]
  · have e : z = [] := List.eq_nil_of_length_eq_zero (by omega)
    subst e
    rfl
theorem cut0 (z : Cs) (n : Int) (h : 0 ≤ n) : cutC z none (some n) = z.take n.toNat := by
  unfold cutC
  rw [HT.sIx_none, show n = ((n.toNat : Nat) : Int) by omega, HT.sIx_nat, List.drop_zero, Int.toNat_natCast, Nat.sub_zero]
  by_cases h : n.toNat ≤ z.length
  · rw [Nat.min_eq_left h]
  · rw [Nat.min_eq_right (by omega), List.take_length, List.take_of_length_le (by omega)]
theorem fig_mem (c : Nat) : decide (c ∈ Rf.tl FIG) = isDig c := by
  have e : Rf.tl FIG = [48, 49, 50, 51, 52, 53, 54, 55, 56, 57] := by decide +kernel
  rw [e]
  unfold isDig
  by_cases h : 48 ≤ c ∧ c ≤ 57
  · have q : c = 48 ∨ c = 49 ∨ c = 50 ∨ c = 51 ∨ c = 52 ∨ c = 53 ∨ c = 54 ∨ c = 55 ∨ c = 56 ∨ c = 57 := by omega
    rcases q with e | e | e | e | e | e | e | e | e | e <;> subst e <;> decide
  · have q : c ∉ [48, 49, 50, 51, 52, 53, 54, 55, 56, 57] := fun m => h (by simp at m; omega)
    rw [decide_eq_false q]
    by_cases a : 48 ≤ c
    · have b : ¬ c ≤ 57 := fun b => h ⟨a, b⟩
      rw [decide_eq_false b, Bool.and_false]
    · rw [decide_eq_false a, Bool.false_and]
def optV : Option Int → V
  | some i => .int i
  | none => .non
def g_number_of : List V → Option V
  | [.str t] => if (Rf.tl t).length ≤ 1000 then some (optV (numOf (Rf.tl t))) else none
  | _ => none
theorem at0 (b : Cs) (c : Nat) (r : Cs) (h : b = c :: r) : atI b 0 = some c := by
  subst h
  unfold atI ixN
  rw [if_pos (by decide), if_pos (by rw [List.length_cons]; omega)]
  rfl
theorem sem_number_of {K : PySem.W.Frag} (vs : List V) (r : V) (H : Hp) (Q : VK) (E : XK) (h : g_number_of vs = some r) (hQ : ∀ H', Same H H' → Q r H') :
    Rf.wpSs (dn K E ⟨[], [], [.str FIG, .int 60], []⟩) rs_number_of { nx := fun _ H' => Q .non H', rt := Q } (L2.start N_number_of vs) H := by
  unfold g_number_of at h
  split at h
  · rename_i t
    split at h
    · rename_i hl
      cases h
      have ll : (Rf.tl t).length ≤ line := Nat.le_trans hl (by decide)
      have bl : (bodyOf (Rf.tl t)).length ≤ 1000 := by
        unfold bodyOf
        split
        · rw [List.length_drop]; omega
        · exact hl
      have bll : (bodyOf (Rf.tl t)).length ≤ line := Nat.le_trans bl (by decide)
      have key : Rf.wpSs (dn K E ⟨[], [], [.str FIG, .int 60], []⟩) (tailR rs_number_of) { nx := fun _ H' => Q .non H', rt := Q } [some (.str t), some (.str (sOf (bodyOf (Rf.tl t)))), none] H := by
        unfold rs_number_of
        simp only [tailR]
        walk_at "rf"
        refine ⟨bll, ?_⟩
        have bad : badB (bodyOf (Rf.tl t)) = true → Q .non H ∧ ∀ H', Same H H' → Q .non H' := fun hb => by
          have e : numOf (Rf.tl t) = none := by unfold numOf; rw [if_pos hb]
          rw [e] at hQ
          exact ⟨hQ H fun _ _ z => z, hQ⟩
        split
        · rename_i h1
          have h1 : 1 ≤ (bodyOf (Rf.tl t)).length := by omega
          split
          · rename_i h2
            have h2 : ¬ (bodyOf (Rf.tl t)).length ≤ 60 := by omega
            refine (bad ?_).1
            unfold badB
            rw [decide_eq_false (by omega)]
            rfl
          · rename_i h2
            have h2 : (bodyOf (Rf.tl t)).length ≤ 60 := by omega
            intro D hD
            have sm : ∀ xs, Same H (upd H D (.lst xs)) := fun xs b o hb => by rw [upd_ne (ne_of_none hb hD)]; exact hb
            refine lc_str (fun c => some (.bl (decide (c ∈ Rf.tl FIG)))) bll (fun c acc Nx hc ha hN => ?_) ?_
            · walk_at "rf"
              exact ⟨acc, rfl, ha, by simpa only [Option.toList_some] using hN⟩
            · simp only [rAllX, lst_upd, Option.bind_some, bls_map]
              walk_at "rf"
              have ea : ((bodyOf (Rf.tl t)).map fun c => decide (c ∈ Rf.tl FIG)).all id = (bodyOf (Rf.tl t)).all isDig := by
                rw [List.all_map]
                congr 1
                funext c
                exact fig_mem c
              simp only [ea]
              split
              · rename_i h3
                refine (bad ?_).2 _ (sm _)
                unfold badB
                rw [h3, Bool.not_false, Bool.or_true]
              · rename_i h3
                have h3 : (bodyOf (Rf.tl t)).all isDig = true := by simpa using h3
                have hb : badB (bodyOf (Rf.tl t)) = false := by
                  unfold badB
                  rw [h3, decide_eq_true (by omega)]
                  rfl
                obtain ⟨c, rr, er⟩ : ∃ c rr, bodyOf (Rf.tl t) = c :: rr := by
                  cases z : bodyOf (Rf.tl t) with
                  | nil => rw [z] at h1; simp at h1
                  | cons c rr => exact ⟨c, rr, rfl⟩
                rw [at0 _ c rr er]
                have hQ0 := hQ
                simp only [numOf, er, List.getElem?_cons_zero, Option.some.injEq, Bool.false_eq_true, if_false] at hQ
                refine ⟨bll, ?_⟩
                dsimp only
                have e1 : ([c] = [48]) = (c = 48) := by simp
                rw [er] at hb
                simp only [hb, Bool.false_eq_true, if_false] at hQ
                have int_ok : ∀ v, numOf (Rf.tl t) = some v → Q (.int v) (upd H D (.lst ((bodyOf (Rf.tl t)).filterMap fun c => some (.bl (decide (c ∈ Rf.tl FIG)))))) → ∃ n, intText? t = some n ∧ (Rf.tl t).length ≤ 640 ∧ Q (.int n) (upd H D (.lst ((bodyOf (Rf.tl t)).filterMap fun c => some (.bl (decide (c ∈ Rf.tl FIG)))))) := fun v hv q => by
                  obtain ⟨i1, i2⟩ := int_num hv
                  exact ⟨v, i1, Nat.le_trans i2 (by decide), q⟩
                have nv : ¬ (c = 48 ∧ Rf.tl t ≠ [48]) → ∃ v, numOf (Rf.tl t) = some v := fun hc => by
                  unfold numOf
                  rw [er, if_neg (by rw [hb]; decide)]
                  rw [if_neg (by simpa using hc)]
                  exact ⟨_, rfl⟩
                have fin : ¬ (c = 48 ∧ Rf.tl t ≠ [48]) → ∃ n, intText? t = some n ∧ (Rf.tl t).length ≤ 640 ∧ Q (.int n) (upd H D (.lst ((bodyOf (Rf.tl t)).filterMap fun c => some (.bl (decide (c ∈ Rf.tl FIG)))))) := fun hc => by
                  obtain ⟨v, hv⟩ := nv hc
                  refine int_ok v hv ?_
                  have q := hQ0 _ (sm ((bodyOf (Rf.tl t)).filterMap fun c => some (.bl (decide (c ∈ Rf.tl FIG)))))
                  rw [hv] at q
                  exact q
                simp only [e1]
                by_cases hc : c = 48
                · rw [if_pos hc]
                  by_cases ht : Rf.tl t = [48]
                  · simp only [ht, decide_true, exn, Bool.not_true, Bool.false_eq_true, if_false]
                    have z := fin fun z => z.2 ht
                    rw [ht] at z
                    exact z
                  · simp only [ht, decide_false, exn, Bool.not_false, if_true]
                    have q := hQ _ (sm ((bodyOf (Rf.tl t)).filterMap fun c => some (.bl (decide (c ∈ Rf.tl FIG)))))
                    rw [if_pos ⟨hc, ht⟩] at q
                    exact q
                · rw [if_neg hc]
                  exact fin fun z => hc z.1
        · rename_i h1
          have h1 : ¬ 1 ≤ (bodyOf (Rf.tl t)).length := by omega
          refine (bad ?_).1
          unfold badB
          rw [decide_eq_false (by omega)]
          rfl
      have e : rs_number_of = .cons (headR rs_number_of) (tailR rs_number_of) := rfl
      rw [e]
      generalize tailR rs_number_of = r at key ⊢
      unfold headR rs_number_of N_number_of
      walk_at "rf"
      split
      · rename_i h3
        refine ⟨ll, ?_⟩
        rw [cut1]
        have e : bodyOf (Rf.tl t) = (Rf.tl t).drop 1 := by unfold bodyOf; rw [if_pos h3]
        rw [← e]
        exact key
      · rename_i h3
        have e : bodyOf (Rf.tl t) = Rf.tl t := by unfold bodyOf; rw [if_neg h3]
        rw [e] at key
        exact key
    · cases h
  · cases h
end K01
set_option Elab.async false
set_option autoImplicit false
set_option linter.all false
set_option maxRecDepth 100000
set_option maxHeartbeats 4000000
namespace K01
open PySem PySem.Spec PyProof.Rows L2 Rf
local macro_rules | `(tactic| walk_at "rf") => `(tactic| try simp only [Rf.wpSs, Rf.wpS, wpE, wpA, wpT, wpO, wpC, wpI, tSeq, tNext, tAsg, tRet, tRetN, tIfS, tDrop, tBreak, tCont, gName, tOp, tUn, tC, tTest, tChain, tAnd, tOr, tNot, tAndV, tOrV, tIf, tCB, tBM, tSl, tPart, tNoPart, tLst, tTup, tCons, tNil, tCallS, rVar, gvAt, faAt, spAt, tRaiseX, dn, blkD, rBin, rAddX, rSubX, rMulX, rModX, rDivX, rPowX, rCmp, rLtX, rLeX, rGtX, rGeX, rOrd, rIsX, rBF, rLenX, rIsiX, tyK, clK, rAbsX, rMinX, rMaxX, rTF, rIntX, rStrX, rBM, rStartX, rNegX, trX, L2.start, List.getElem?_cons_zero, List.getElem?_cons_succ, List.set_cons_zero, List.set_cons_succ, List.map_cons, List.map_nil, List.length_cons, List.length_nil, List.replicate, List.append_eq, List.cons_append, List.nil_append, Nat.reduceAdd, Nat.reduceSub, Nat.zero_add, Option.getD_some, WE, V.bl.injEq, exists_eq_left', exn, tYes, if_true, Bool.not_true, Bool.not_false, Bool.false_eq_true, if_false, upd_same, iAny, rEqX, scal, tWhile, wipe, List.foldl_cons, List.foldl_nil, spP, spK, rIxX, rSlX, lst_upd, Option.bind_some, decide_eq_true_eq, Bool.not_eq_eq_eq_not, decide_eq_false_iff_not, rInX, tl_sOf2, sOf_tl2, Option.toList_some, Option.toList_none, List.append_nil, true_and, and_true, Bool.true_eq_false, upd_upd, Bool.false_xor, Bool.true_xor, beq_iff_eq, Bool.and_eq_true, reduceCtorEq, rNeX, V.int.injEq, vstr_eq, tyV, BM.ty, tl_dash, tl_zero, tl_empty, List.length_singleton])
/-! ### _law_figures -/
theorem figC (d : Int) (h0 : 0 ≤ d) (h1 : d < 10) : atI (Rf.tl "0123456789") d = some (48 + d.toNat) := by
  obtain ⟨n, rfl⟩ : ∃ n : Nat, d = (n : Int) := ⟨d.toNat, by omega⟩
  have hn : n < 10 := by omega
  have key : ∀ m : Nat, m < 10 → atI (Rf.tl "0123456789") (m : Int) = some (48 + m) := by decide +kernel
  rw [key n hn, Int.toNat_natCast]
theorem lenF : (Rf.tl "0123456789").length = 10 := by decide +kernel
def g_figs : List V → Option V := g_text
theorem rep1 (l : Cs) : repC 1 l = l := by
  unfold repC
  simp
theorem rep0 (l : Cs) : repC 0 l = [] := by
  unfold repC
  simp
theorem sem_figs {K : PySem.W.Frag} (vs : List V) (r : V) (H : Hp) (Q : VK) (E : XK) (h : g_text vs = some r) (hQ : ∀ H', Same H H' → Q r H') :
    Rf.wpSs (dn K E ⟨[], [], [], []⟩) rs_law_figures { nx := fun _ H' => Q .non H', rt := Q } (L2.start N_law_figures vs) H := by
  unfold g_text at h
  split at h
  · rename_i n
    split at h
    · rename_i hn
      cases h
      have q := hQ H fun _ _ z => z
      have hm := num_abs hn
      unfold rs_law_figures N_law_figures
      walk_at "rf"
      have hlen : (TL.numL n.natAbs).length ≤ 60 := TL.numL_len (by decide) hm
      refine ⟨fun m σ H' => H' = H ∧ ∃ (l : Nat) (x : Cs), σ = [some (.int n), some (.int (l : Int)), some (.str (sOf x))] ∧ m = l + (if x = [] then 1 else 0) ∧ ((x = [] ∧ l = n.natAbs) ∨ (x ≠ [] ∧ l = 0 ∧ x = TL.numL n.natAbs) ∨ (x ≠ [] ∧ 0 < l ∧ TL.numL l ++ x = TL.numL n.natAbs)),
        ⟨_, rfl, n.natAbs, [], rfl, rfl, .inl ⟨rfl, rfl⟩⟩, ?_⟩
      rintro m σ H' ⟨rfl, l, x, rfl, rfl, hx⟩
      walk_at "rf"
      have go : ¬ (l = 0 ∧ x ≠ []) → ∃ N : L2.St → Hp → Prop, (∀ σ' H1, N σ' H1 → ∃ m' < l + (if x = [] then 1 else 0), H1 = H' ∧ ∃ (l' : Nat) (x' : Cs), σ' = [some (.int n), some (.int (l' : Int)), some (.str (sOf x'))] ∧ m' = l' + (if x' = [] then 1 else 0) ∧ ((x' = [] ∧ l' = n.natAbs) ∨ (x' ≠ [] ∧ l' = 0 ∧ x' = TL.numL n.natAbs) ∨ (x' ≠ [] ∧ 0 < l' ∧ TL.numL l' ++ x' = TL.numL n.natAbs))) ∧
          (0 < (10 : Int) ∧ (Rf.tl "0123456789").length ≤ line ∧ match atI (Rf.tl "0123456789") ((l : Int) % 10) with
            | some c => 1 + x.length ≤ line ∧ (0 < (10 : Int) ∧ (10 : Int) < 1073741824) ∧ N [some (.int n), some (.int ((l : Int) / 10)), some (.str (sOf (c :: x)))] H'
            | none => False) := fun hg => by
        have h10 : ((l : Int) % 10).toNat = l % 10 := by omega
        refine ⟨fun σ' H1 => σ' = [some (.int n), some (.int ((l / 10 : Nat) : Int)), some (.str (sOf ((48 + l % 10) :: x)))] ∧ H1 = H', ?_, by decide, by rw [lenF]; decide, ?_⟩
        · rintro σ' H1 ⟨rfl, rfl⟩
          refine ⟨l / 10, ?_, rfl, l / 10, (48 + l % 10) :: x, rfl, by simp, ?_⟩
          · by_cases hz : x = []
            · rw [if_pos hz]; omega
            · have : l ≠ 0 := fun z => hg ⟨z, hz⟩
              omega
          · have ne : (48 + l % 10) :: x ≠ [] := by simp
            rcases hx with ⟨rfl, e⟩ | ⟨h1, h2, _⟩ | ⟨h1, h2, h3⟩
            · by_cases l10 : l < 10
              · refine .inr (.inl ⟨ne, by omega, ?_⟩)
                rw [← e, TL.numL_lt l10, Nat.mod_eq_of_lt l10]
              · refine .inr (.inr ⟨ne, by omega, ?_⟩)
                rw [← e, TL.numL_step (n := l) (by omega)]
            · exact absurd ⟨h2, h1⟩ hg
            · by_cases l10 : l < 10
              · refine .inr (.inl ⟨ne, by omega, ?_⟩)
                rw [← h3, TL.numL_lt l10, Nat.mod_eq_of_lt l10]
                rfl
              · refine .inr (.inr ⟨ne, by omega, ?_⟩)
                rw [← h3, TL.numL_step (n := l) (by omega), List.append_assoc]
                rfl
        · rw [figC _ (by omega) (by omega), h10]
          dsimp only
          have lx : x.length ≤ 60 := by
            rcases hx with ⟨rfl, e⟩ | ⟨h1, h2, h3⟩ | ⟨h1, h2, h3⟩
            · simp
            · rw [h3]; exact hlen
            · have z := congrArg List.length h3
              rw [List.length_append] at z
              omega
          exact ⟨by show _ ≤ 16777216; omega, ⟨by decide, by decide⟩, by rw [Int.natCast_ediv]; rfl, rfl⟩
      have done : l = 0 → x ≠ [] → Q (.str (sOf (repC (if n < 0 then 1 else 0) [45] ++ x))) H' := fun h1 h2 => by
        rcases hx with ⟨e, _⟩ | ⟨_, _, h3⟩ | ⟨_, h4, _⟩
        · exact absurd e h2
        · unfold figs at q
          rw [h3]
          split
          · rename_i hn0
            rw [if_pos hn0] at q
            rw [rep1]
            exact q
          · rename_i hn0
            rw [if_neg hn0] at q
            rw [rep0]
            exact q
        · omega
      have lx0 : ∀ e : x ≠ [], l = 0 → x.length ≤ 60 := fun e e2 => by
        rcases hx with ⟨z, _⟩ | ⟨_, _, h3⟩ | ⟨_, h4, _⟩
        · exact absurd z e
        · rw [h3]; exact hlen
        · omega
      split
      · rename_i h1
        exact go fun z => by omega
      · rename_i h1
        split
        · rename_i h2
          have z := go fun z => z.2 h2
          rw [if_pos h2] at z
          exact z
        · rename_i h2
          have l0 : l = 0 := by omega
          have z := lx0 h2 l0
          refine ⟨by split <;> decide, by split <;> decide, by decide, ?_, done l0 h2⟩
          split
          · rw [rep1]; show 1 + _ ≤ 16777216; omega
          · rw [rep0]; show 0 + _ ≤ 16777216; omega
    · cases h
  · cases h
/-! ### _law_bent -/
def BND : Str := "0123456789-+ .a:"
def atD (l : Cs) (i : Int) : Nat := (atI l i).getD 0
theorem atD_some {l : Cs} {i : Int} (h0 : 0 ≤ i) (h1 : i < l.length) : atI l i = some (atD l i) := by
  obtain ⟨v, hv, _⟩ := atI_some (xs := l) h0 h1
  unfold atD
  rw [hv]
  rfl
def bent (t : Cs) (cell : Int) : Cs :=
  let p := cell / 8 % ((t.length : Int) + 1)
  let c := atD (Rf.tl BND) (cell / 512 % 16)
  if cell % 8 = 0 then cutC t none (some p) ++ [c] ++ cutC t (some p) none
  else if cell % 8 = 1 then cutC t none (some p) ++ cutC t (some (p + 1)) none
  else if cell % 8 = 2 then cutC t none (some p) ++ [c] ++ cutC t (some (p + 1)) none
  else if cell % 8 = 3 then 45 :: t
  else if cell % 8 = 4 then repC (cell / 8 % 3) [48] ++ t
  else if cell % 8 = 5 then repC (58 + cell / 8 % 5) [57]
  else t
def g_bent : List V → Option V
  | [.str t, .int cell] => if (Rf.tl t).length ≤ 900 then some (.str (sOf (bent (Rf.tl t) cell))) else none
  | _ => none
theorem cutC_len (z : Cs) (lo hi : Option Int) : (cutC z lo hi).length ≤ z.length := by
  unfold cutC
  rw [List.length_take, List.length_drop]
  omega
theorem lenB : (Rf.tl BND).length = 16 := by decide +kernel
theorem tl_nine : Rf.tl "9" = [57] := by decide +kernel
theorem repC_len (n : Int) (l : Cs) : (repC n l).length = n.toNat * l.length := by
  unfold repC
  induction n.toNat with
  | zero => simp
  | succ m ih => rw [List.replicate_succ, List.flatten_cons, List.length_append, ih, Nat.succ_mul, Nat.add_comm]
theorem sem_bent {K : PySem.W.Frag} (vs : List V) (r : V) (H : Hp) (Q : VK) (E : XK) (h : g_bent vs = some r) (hQ : ∀ H', Same H H' → Q r H') :
    Rf.wpSs (dn K E ⟨[], [], [], []⟩) rs_law_bent { nx := fun _ H' => Q .non H', rt := Q } (L2.start N_law_bent vs) H := by
  unfold g_bent at h
  split at h
  · rename_i t cell
    split at h
    · rename_i hl
      cases h
      have q := hQ H fun _ _ z => z
      have ll : (Rf.tl t).length ≤ line := Nat.le_trans hl (by decide)
      have m0 := Int.emod_nonneg (cell / 512) (show (16 : Int) ≠ 0 by decide)
      have m1 := Int.emod_lt_of_pos (cell / 512) (show (0 : Int) < 16 by decide)
      have ha : atI (Rf.tl "0123456789-+ .a:") (cell / 512 % 16) = some (atD (Rf.tl BND) (cell / 512 % 16)) := atD_some m0 (by show _ < ((Rf.tl BND).length : Int); rw [lenB]; exact m1)
      unfold rs_law_bent N_law_bent
      walk_at "rf"
      refine ⟨⟨by decide, by decide⟩, ll, by omega, ⟨by decide, by decide⟩, by decide, by show (Rf.tl BND).length ≤ line; rw [lenB]; decide, ?_⟩
      rw [ha]
      unfold bent at q
      dsimp only at q
      walk_at "rf"
      have c1 := cutC_len (Rf.tl t) none (some (cell / 8 % ((Rf.tl t).length + 1)))
      have c2 := cutC_len (Rf.tl t) (some (cell / 8 % ((Rf.tl t).length + 1))) none
      have c3 := cutC_len (Rf.tl t) (some (cell / 8 % ((Rf.tl t).length + 1) + 1)) none
      have d1 := Int.emod_nonneg (cell / 8) (show (3 : Int) ≠ 0 by decide)
      have d2 := Int.emod_lt_of_pos (cell / 8) (show (0 : Int) < 3 by decide)
      have d3 := Int.emod_nonneg (cell / 8) (show (5 : Int) ≠ 0 by decide)
      have d4 := Int.emod_lt_of_pos (cell / 8) (show (0 : Int) < 5 by decide)
      refine ⟨by decide, ?_⟩
      split
      · rename_i z
        rw [if_pos z] at q
        exact ⟨ll, by show _ ≤ 16777216; omega, ll, by show _ ≤ 16777216; rw [List.length_append, List.length_singleton]; omega, q⟩
      · rename_i z
        rw [if_neg z] at q
        refine ⟨by decide, ?_⟩
        split
        · rename_i z
          rw [if_pos z] at q
          exact ⟨ll, ll, by show _ ≤ 16777216; omega, q⟩
        · rename_i z
          rw [if_neg z] at q
          refine ⟨by decide, ?_⟩
          split
          · rename_i z
            rw [if_pos z] at q
            exact ⟨ll, by show _ ≤ 16777216; omega, ll, by show _ ≤ 16777216; rw [List.length_append, List.length_singleton]; omega, q⟩
          · rename_i z
            rw [if_neg z] at q
            refine ⟨by decide, ?_⟩
            split
            · rename_i z
              rw [if_pos z] at q
              exact ⟨by show _ ≤ 16777216; omega, q⟩
            · rename_i z
              rw [if_neg z] at q
              refine ⟨by decide, ?_⟩
              split
              · rename_i z
                rw [if_pos z] at q
                exact ⟨⟨by decide, by decide⟩, by decide, by omega, by omega, by decide, by rw [repC_len, List.length_singleton]; show _ ≤ 16777216; omega, q⟩
              · rename_i z
                rw [if_neg z] at q
                refine ⟨by decide, ?_⟩
                split
                · rename_i z
                  rw [if_pos z] at q
                  rw [tl_nine]
                  exact ⟨⟨by decide, by decide⟩, by decide, by omega, by omega, by decide, q⟩
                · rename_i z
                  rw [if_neg z] at q
                  exact q
    · cases h
  · cases h
/-! ### _law_is_name -/
def chOk (l : Cs) : Bool := l.all fun c => decide (c < 1114112)
def lawName (l : Cs) : Bool := decide (l.length < 9) && l.all fun c => decide (c ∈ Rf.tl LET)
def g_lname : List V → Option V
  | [.str t] => if (Rf.tl t).length ≤ 900 ∧ chOk (Rf.tl t) = true then some (.bl (lawName (Rf.tl t))) else none
  | _ => none
theorem filt_ok {l : Cs} {f : Nat → Bool} (h : chOk l = true) : (l.filterMap fun c => if f c = true then none else some (V.str (sOf [c]))).all okF = true := by
  rw [List.all_eq_true]
  intro v hv
  obtain ⟨c, hc, e⟩ := List.mem_filterMap.mp hv
  split at e
  · cases e
  · cases e
    have q := List.all_eq_true.mp h c hc
    show PyData.strOk (sOf [c]) = true
    unfold PyData.strOk sOf
    simpa using q
theorem filt_nil {l : Cs} {f : Nat → Bool} : (l.filterMap fun c => if f c = true then none else some (V.str (sOf [c]))) = [] ↔ l.all f = true := by
  rw [List.filterMap_eq_nil_iff, List.all_eq_true]
  constructor
  · intro h c hc
    have q := h c hc
    split at q
    · assumption
    · cases q
  · intro h c hc
    rw [if_pos (h c hc)]
theorem eqv_nil (xs : List V) : PyData.eqvAll (xs.map pd) (([] : List V).map pd) = decide (xs = []) := by
  cases xs with
  | nil => simp [PyData.eqvAll]
  | cons x r => simp [PyData.eqvAll]
theorem lstH_of {H : Hp} {p : Addr} {xs : List V} (h : H p = some (.lst xs)) : lstH H p = some xs := by
  unfold lstH
  rw [h]
theorem sem_lname {K : PySem.W.Frag} (vs : List V) (r : V) (H : Hp) (Q : VK) (E : XK) (h : g_lname vs = some r) (hQ : ∀ H', Same H H' → Q r H') :
    Rf.wpSs (dn K E ⟨[], [], [], []⟩) rs_law_is_name { nx := fun _ H' => Q .non H', rt := Q } (L2.start N_law_is_name vs) H := by
  unfold g_lname at h
  split at h
  · rename_i t
    split at h
    · rename_i hl
      obtain ⟨hl, hc⟩ := hl
      cases h
      have q := hQ H fun _ _ z => z
      have ll : (Rf.tl t).length ≤ line := Nat.le_trans hl (by decide)
      unfold rs_law_is_name N_law_is_name
      walk_at "rf"
      refine ⟨ll, ?_⟩
      unfold lawName at hQ q
      split
      · rename_i h1
        rw [decide_eq_true (by omega), Bool.true_and] at hQ q
        intro D hD
        have sm : ∀ xs, Same H (upd H D (.lst xs)) := fun xs b o hb => by rw [upd_ne (ne_of_none hb hD)]; exact hb
        refine lc_str (fun c => if decide (c ∈ Rf.tl LET) = true then none else some (.str (sOf [c]))) ll (fun c acc Nx hc ha hN => ?_) ?_
        · walk_at "rf"
          by_cases hm : decide (c ∈ Rf.tl LET) = true
          · rw [if_pos hm, Option.toList_none, List.append_nil] at hN
            rw [if_neg (fun z => z (of_decide_eq_true hm))]
            exact hN
          · rw [if_neg hm, Option.toList_some] at hN
            have nm : ¬ c ∈ Rf.tl (Str.ofString "abcdefghijklmnopqrstuvwxyz") := fun z => hm (decide_eq_true z)
            rw [if_pos nm]
            exact ⟨acc, rfl, ha, hN⟩
        · walk_at "rf"
          refine ⟨Nat.zero_le _, fun p hp => ?_⟩
          have e := filt_ok (f := fun c => decide (c ∈ Rf.tl LET)) hc
          have sm2 : Same H (upd (upd H D (.lst ((Rf.tl t).filterMap fun c => if decide (c ∈ Rf.tl LET) = true then none else some (V.str (sOf [c]))))) p (.lst [])) := Same.up (sm _) (by simpa only [decide_eq_true_eq] using hp)
          have hp : upd H D (.lst ((Rf.tl t).filterMap fun c => if decide (c ∈ Rf.tl LET) = true then none else some (V.str (sOf [c])))) p = none := by simpa only [decide_eq_true_eq] using hp
          have q2 := hQ _ sm2
          have e3 : (PyData.eqvAll (((Rf.tl t).filterMap fun c => if decide (c ∈ Rf.tl LET) = true then none else some (V.str (sOf [c]))).map pd) (([] : List V).map pd)) = (Rf.tl t).all fun c => decide (c ∈ Rf.tl LET) := by
            rw [eqv_nil]
            have z := filt_nil (l := Rf.tl t) (f := fun c => decide (c ∈ Rf.tl LET))
            by_cases w : (Rf.tl t).all (fun c => decide (c ∈ Rf.tl LET)) = true
            · rw [w, decide_eq_true (z.mpr w)]
            · rw [decide_eq_false (fun y => w (z.mp y))]
              exact (by simpa using w : _ = false).symm
          have g := rEq_flat (K := K) (Q := Q) (p := D) (q := p) (lstH_of (upd_new hp)) lst_upd e rfl (by rw [e3]; exact q2)
          simpa only [rEqX, scal, decide_eq_true_eq] using g
      · rename_i h1
        rw [decide_eq_false (by omega), Bool.false_and] at q
        exact q
    · cases h
  · cases h
end K01
set_option Elab.async false
set_option autoImplicit false
set_option linter.all false
set_option maxRecDepth 100000
set_option maxHeartbeats 4000000
namespace K01
open PySem PySem.Spec PyProof.Rows L2 Rf
local macro_rules | `(tactic| walk_at "rf") => `(tactic| try simp only [Rf.wpSs, Rf.wpS, wpE, wpA, wpT, wpO, wpC, wpI, tSeq, tNext, tAsg, tRet, tRetN, tIfS, tDrop, tBreak, tCont, gName, tOp, tUn, tC, tTest, tChain, tAnd, tOr, tNot, tAndV, tOrV, tIf, tCB, tBM, tSl, tPart, tNoPart, tLst, tTup, tCons, tNil, tCallS, rVar, gvAt, faAt, spAt, tRaiseX, dn, blkD, rBin, rAddX, rSubX, rMulX, rModX, rDivX, rPowX, rCmp, rLtX, rLeX, rGtX, rGeX, rOrd, rIsX, rBF, rLenX, rIsiX, tyK, clK, rAbsX, rMinX, rMaxX, rTF, rIntX, rStrX, rBM, rStartX, rIndexSX, rNegX, trX, L2.start, List.getElem?_cons_zero, List.getElem?_cons_succ, List.set_cons_zero, List.set_cons_succ, List.map_cons, List.map_nil, List.length_cons, List.length_nil, List.replicate, List.append_eq, List.cons_append, List.nil_append, Nat.reduceAdd, Nat.reduceSub, Nat.zero_add, Option.getD_some, WE, V.bl.injEq, exists_eq_left', exn, tYes, if_true, Bool.not_true, Bool.not_false, Bool.false_eq_true, if_false, upd_same, iAny, rEqX, scal, tWhile, wipe, List.foldl_cons, List.foldl_nil, spP, spK, rIxX, rSlX, lst_upd, Option.bind_some, decide_eq_true_eq, Bool.not_eq_eq_eq_not, decide_eq_false_iff_not, rInX, tl_sOf2, sOf_tl2, Option.toList_some, Option.toList_none, List.append_nil, true_and, and_true, Bool.true_eq_false, upd_upd, Bool.false_xor, Bool.true_xor, beq_iff_eq, Bool.and_eq_true, reduceCtorEq, rNeX, V.int.injEq, vstr_eq, tyV, BM.ty, tl_dash, tl_zero, tl_empty, List.length_singleton])
/-! ### _law_read -/
def g_read : List V → Option V
  | [.str t] => if (Rf.tl t).length ≤ 1000 ∧ chOk (Rf.tl t) = true then some (optV (numOf (Rf.tl t))) else none
  | _ => none
theorem dval_lt : ∀ (n : Nat) (b : Cs), b.length = n → b.all isDig = true → dval b < 10 ^ n := by
  intro n
  induction n with
  | zero =>
    intro b h _
    rw [List.eq_nil_of_length_eq_zero h]
    decide
  | succ n ih =>
    intro b hl hd
    have hne : b ≠ [] := fun e => by rw [e] at hl; simp at hl
    obtain ⟨p, c, rfl⟩ : ∃ p c, b = p ++ [c] := ⟨b.dropLast, b.getLast hne, (List.dropLast_concat_getLast hne).symm⟩
    have hc := dig_of hd (List.mem_append_right p (List.mem_singleton.mpr rfl))
    have hp : p.all isDig = true := by
      rw [List.all_append, Bool.and_eq_true] at hd
      exact hd.1
    have lp : p.length = n := by
      rw [List.length_append] at hl
      simpa using hl
    have i1 := ih p lp hp
    rw [dval_snoc, Nat.pow_succ]
    omega
theorem body_ok {t : Cs} (h : chOk t = true) : chOk (bodyOf t) = true := by
  unfold bodyOf
  split
  · unfold chOk at h ⊢
    rw [List.all_eq_true] at h ⊢
    exact fun c hc => h c (List.mem_of_mem_drop hc)
  · exact h
theorem idx_fig {c : Nat} (h : isDig c = true) : c ∈ Rf.tl "0123456789" ∧ (((Rf.tl "0123456789").idxOf c : Nat) : Int) = ((c - 48 : Nat) : Int) := by
  have e : Rf.tl "0123456789" = [48, 49, 50, 51, 52, 53, 54, 55, 56, 57] := by decide +kernel
  rw [e]
  unfold isDig at h
  have q : 48 ≤ c ∧ c ≤ 57 := by simpa using h
  have q : c = 48 ∨ c = 49 ∨ c = 50 ∨ c = 51 ∨ c = 52 ∨ c = 53 ∨ c = 54 ∨ c = 55 ∨ c = 56 ∨ c = 57 := by omega
  rcases q with e | e | e | e | e | e | e | e | e | e <;> subst e <;> decide
theorem fig_mem2 (c : Nat) : (c ∈ Rf.tl (Str.ofString "0123456789")) ↔ isDig c = true := by
  have q := fig_mem c
  constructor
  · intro h
    rw [← q]
    exact decide_eq_true h
  · intro h
    rw [← q] at h
    exact of_decide_eq_true h
theorem seq_upd {H : Hp} {p : Addr} {xs : List V} : seqH (upd H p (.lst xs)) p = some xs := by
  unfold seqH
  rw [upd_same]
theorem sem_read {K : PySem.W.Frag} {fA : List Addr} {gt : List V → Option V} (hgt : ∀ i, isNum (.int i) = true → gt [.int i] = some (.str (sOf (figs i)))) (vs : List V) (r : V) (H : Hp) (Q : VK) (E : XK) (h : g_read vs = some r) (hQ : ∀ H', Same H H' → Q r H') :
    Rf.wpSs (dn K E ⟨[spP gt], fA, [], []⟩) rs_law_read { nx := fun _ H' => Q .non H', rt := Q } (L2.start N_law_read vs) H := by
  unfold g_read at h
  split at h
  · rename_i t
    split at h
    · rename_i hl
      obtain ⟨hl, hc⟩ := hl
      cases h
      have ll : (Rf.tl t).length ≤ line := Nat.le_trans hl (by decide)
      have bl : (bodyOf (Rf.tl t)).length ≤ 1000 := by
        unfold bodyOf
        split
        · rw [List.length_drop]; omega
        · exact hl
      have bll : (bodyOf (Rf.tl t)).length ≤ line := Nat.le_trans bl (by decide)
      rw [← read_num] at hQ
      have bad : badB (bodyOf (Rf.tl t)) = true → ∀ H', Same H H' → Q .non H' := fun hb => by
        have e : readL (Rf.tl t) = none := by unfold readL; rw [if_pos hb]
        rw [e] at hQ
        exact hQ
      -- behind the loop
      have key3 : badB (bodyOf (Rf.tl t)) = false → ∀ H' s, Same H H' → Rf.wpSs (dn K E ⟨[spP gt], fA, [], []⟩) rt_law_read_5 { nx := fun _ H' => Q .non H', rt := Q } [some (.str t), some (.str (sOf (bodyOf (Rf.tl t)))), some (.int (dval (bodyOf (Rf.tl t)))), s] H' := by
        intro hb H' s sm
        have hb' := hb
        unfold badB at hb'
        rw [Bool.or_eq_false_iff] at hb'
        have hlb : 1 ≤ (bodyOf (Rf.tl t)).length ∧ (bodyOf (Rf.tl t)).length ≤ 60 := by simpa using hb'.1
        have hd : (bodyOf (Rf.tl t)).all isDig = true := by simpa using hb'.2
        have hv : isNum (.int (dval (bodyOf (Rf.tl t)))) = true := abs_num (by
          rw [Int.natAbs_natCast]
          exact Nat.lt_of_lt_of_le (dval_lt _ _ rfl hd) (Nat.pow_le_pow_right (by decide) hlb.2))
        unfold rt_law_read_5 rt_law_read_6 rt_law_read_7 rh_law_read_5 rh_law_read_6
        walk_at "rf"
        simp only [hgt _ hv]
        walk_at "rf"
        simp only [seq_upd]
        unfold readL at hQ
        rw [if_neg (by rw [hb]; decide)] at hQ
        split
        · rename_i h1
          rw [if_pos (.inl h1)] at hQ
          exact hQ _ sm
        · rename_i h1
          have last : ¬ (dval (bodyOf (Rf.tl t)) = 0 ∧ bodyOf (Rf.tl t) ≠ Rf.tl t) → 2 ≤ sizeLine ∧ ∀ p, H' p = none → match atI [V.int (dval (bodyOf (Rf.tl t))), V.int (0 - (dval (bodyOf (Rf.tl t)) : Int))] (if ¬ bodyOf (Rf.tl t) = Rf.tl t then 1 else 0) with
              | some v => Q v (upd H' p (.lst [V.int (dval (bodyOf (Rf.tl t))), V.int (0 - (dval (bodyOf (Rf.tl t)) : Int))]))
              | none => False := fun h2 => by
            have h3 : ¬ (figs (dval (bodyOf (Rf.tl t)) : Int) ≠ bodyOf (Rf.tl t) ∨ (dval (bodyOf (Rf.tl t)) = 0 ∧ bodyOf (Rf.tl t) ≠ Rf.tl t)) := fun z => z.elim h1 h2
            rw [if_neg h3] at hQ
            refine ⟨by rw [line_eq]; decide, fun p hp => ?_⟩
            have q := hQ _ (Same.up (o := .lst [V.int (dval (bodyOf (Rf.tl t))), V.int (0 - (dval (bodyOf (Rf.tl t)) : Int))]) sm hp)
            by_cases h4 : bodyOf (Rf.tl t) = Rf.tl t
            · rw [if_neg (fun z => z h4)] at q ⊢
              exact q
            · rw [if_pos h4] at q ⊢
              rw [← Int.zero_sub] at q
              exact q
          split
          · rename_i h2
            split
            · rename_i h3
              rw [if_pos (.inr ⟨by omega, h3⟩)] at hQ
              exact hQ _ sm
            · rename_i h3
              have z := last fun z => h3 z.2
              rw [if_neg h3] at z
              exact z
          · rename_i h2
            exact last fun z => h2 (by rw [z.1]; rfl)
      have key2 : ∀ s, Rf.wpSs (dn K E ⟨[spP gt], fA, [], []⟩) rt_law_read_2 { nx := fun _ H' => Q .non H', rt := Q } [some (.str t), some (.str (sOf (bodyOf (Rf.tl t)))), none, s] H := by
        intro s
        unfold rt_law_read_2 rt_law_read_3 rt_law_read_4 rh_law_read_2 rh_law_read_3 rh_law_read_4
        walk_at "rf"
        refine ⟨bll, ?_⟩
        split
        · rename_i h1
          split
          · rename_i h2
            refine bad ?_ _ fun _ _ z => z
            unfold badB
            rw [decide_eq_false (by omega)]
            rfl
          · rename_i h2
            intro D hD
            have sm : ∀ xs, Same H (upd H D (.lst xs)) := fun xs b o hb => by rw [upd_ne (ne_of_none hb hD)]; exact hb
            refine lc_str (fun c => if isDig c = true then none else some (.str (sOf [c]))) bll (fun c acc Nx hc ha hN => ?_) ?_
            · walk_at "rf"
              by_cases hm : isDig c = true
              · rw [if_pos hm, Option.toList_none, List.append_nil] at hN
                rw [if_neg (fun z => z ((fig_mem2 c).mpr hm))]
                exact hN
              · rw [if_neg hm, Option.toList_some] at hN
                have nm : ¬ c ∈ Rf.tl (Str.ofString "0123456789") := fun z => hm ((fig_mem2 c).mp z)
                rw [if_pos nm]
                exact ⟨acc, rfl, ha, hN⟩
            · simp only [tl_sOf2]
              refine ⟨Nat.zero_le _, fun p hp => ?_⟩
              have e := filt_ok (f := isDig) (body_ok hc)
              refine ⟨_, _, .lst (lstH_sq (lstH_of (upd_new hp))) (dpAll_flat e), .lst (lstH_sq lst_upd) (dpAll_flat (xs := []) rfl), shaped_flat e, shaped_flat (xs := []) rfl, ?_⟩
              have sm2 := Same.up (o := .lst []) (sm _) hp
              have e3 : PyData.eqv (.list (((bodyOf (Rf.tl t)).filterMap fun c => if isDig c = true then none else some (V.str (sOf [c]))).map pd)) (.list (([] : List V).map pd)) = (bodyOf (Rf.tl t)).all isDig := by
                unfold PyData.eqv
                rw [eqv_nil]
                have z := filt_nil (l := bodyOf (Rf.tl t)) (f := isDig)
                by_cases w : (bodyOf (Rf.tl t)).all isDig = true
                · rw [w, decide_eq_true (z.mpr w)]
                · rw [decide_eq_false (fun y => w (z.mp y))]
                  exact (by simpa using w : _ = false).symm
              simp only [e3]
              split
              · rename_i h3
                refine bad ?_ _ sm2
                unfold badB
                rw [h3, Bool.not_false, Bool.or_true]
              · rename_i h3
                have h3 : (bodyOf (Rf.tl t)).all isDig = true := by simpa using h3
                have hb : badB (bodyOf (Rf.tl t)) = false := by
                  unfold badB
                  rw [h3, decide_eq_true (by omega)]
                  rfl
                refine for_str (fun pre σ H' => H' = upd (upd H D (.lst ((bodyOf (Rf.tl t)).filterMap fun c => if isDig c = true then none else some (V.str (sOf [c]))))) p (.lst []) ∧ ∃ s, σ = [some (.str t), some (.str (sOf (bodyOf (Rf.tl t)))), some (.int (dval pre)), s]) ⟨rfl, s, rfl⟩ ?_ ?_
                · rintro pre c post σ H' hp ⟨rfl, s, rfl⟩
                  have hcd : isDig c = true := List.all_eq_true.mp h3 c (by
                    have hp : bodyOf (Rf.tl t) = pre ++ c :: post := hp
                    rw [hp]; simp)
                  obtain ⟨i1, i2⟩ := idx_fig hcd
                  walk_at "rf"
                  refine ⟨.l ⟨by decide, by decide⟩, i1, some (.str (sOf [c])), ?_⟩
                  rw [i2, dval_snoc]
                  have ez : (10 : Int) * (dval pre : Int) + ((c - 48 : Nat) : Int) = ((dval pre * 10 + (c - 48) : Nat) : Int) := by omega
                  rw [ez]
                · rintro σ H' ⟨rfl, s, rfl⟩
                  exact key3 hb _ s sm2
        · rename_i h1
          refine bad ?_ _ fun _ _ z => z
          unfold badB
          rw [decide_eq_false (by omega)]
          rfl
      rw [rs_law_read_cut]
      unfold rt_law_read_0 rt_law_read_1 rh_law_read_0 rh_law_read_1 N_law_read
      walk_at "rf"
      refine ⟨ll, ?_⟩
      rw [cut0 _ _ (by decide)]
      split
      · rename_i h3
        have h3 := h3
        simp only [Int.toNat_one] at h3
        have e : bodyOf (Rf.tl t) = (Rf.tl t).drop 1 := by unfold bodyOf; rw [if_pos h3]
        rw [cut1, ← e]
        exact ⟨ll, key2 _⟩
      · rename_i h3
        have h3 := h3
        simp only [Int.toNat_one] at h3
        have e : bodyOf (Rf.tl t) = Rf.tl t := by unfold bodyOf; rw [if_neg h3]
        rw [e] at key2
        exact key2 _
    · cases h
  · cases h
end K01
set_option Elab.async false
set_option autoImplicit false
set_option linter.all false
set_option maxRecDepth 100000
set_option maxHeartbeats 4000000
namespace K01
open PySem PySem.Spec PyProof.Rows L2 Rf
local macro_rules | `(tactic| walk_at "rf") => `(tactic| try simp only [Rf.wpSs, Rf.wpS, wpE, wpA, wpT, wpO, wpC, wpI, tSeq, tNext, tAsg, tRet, tRetN, tIfS, tDrop, tBreak, tCont, gName, tOp, tUn, tC, tTest, tChain, tAnd, tOr, tNot, tAndV, tOrV, tIf, tCB, tBM, tSl, tPart, tNoPart, tLst, tTup, tCons, tNil, tCallS, rVar, gvAt, faAt, spAt, tRaiseX, dn, blkD, rBin, rAddX, rSubX, rMulX, rModX, rDivX, rPowX, rCmp, rLtX, rLeX, rGtX, rGeX, rOrd, rIsX, rBF, rLenX, rIsiX, tyK, clK, rAbsX, rMinX, rMaxX, rTF, rIntX, rStrX, rBM, rStartX, rIndexSX, rNegX, trX, L2.start, List.getElem?_cons_zero, List.getElem?_cons_succ, List.set_cons_zero, List.set_cons_succ, List.map_cons, List.map_nil, List.length_cons, List.length_nil, List.replicate, List.append_eq, List.cons_append, List.nil_append, Nat.reduceAdd, Nat.reduceSub, Nat.zero_add, Option.getD_some, WE, V.bl.injEq, exists_eq_left', exn, tYes, if_true, Bool.not_true, Bool.not_false, Bool.false_eq_true, if_false, upd_same, iAny, rEqX, scal, tWhile, wipe, List.foldl_cons, List.foldl_nil, spP, spK, rIxX, rSlX, lst_upd, Option.bind_some, decide_eq_true_eq, Bool.not_eq_eq_eq_not, decide_eq_false_iff_not, rInX, tl_sOf2, sOf_tl2, Option.toList_some, Option.toList_none, List.append_nil, true_and, and_true, Bool.true_eq_false, upd_upd, Bool.false_xor, Bool.true_xor, beq_iff_eq, Bool.and_eq_true, reduceCtorEq, rNeX, V.int.injEq, vstr_eq, tyV, BM.ty, tl_dash, tl_zero, tl_empty, List.length_singleton])
/-! ### _law_word -/
def wordB (cell k : Int) : Cs := (List.range (1 + cell % 9).toNat).map fun (j : Nat) => atD (Rf.tl LET) (mixed cell (3 * k + (j : Int)) % 26)
def ODD : Str := "AZ0 _-.{"
def word (cell k : Int) : Cs :=
  if cell / 81 % 3 = 1 then cutC (wordB cell k) none (some (cell / 9 % ((wordB cell k).length : Int))) ++ [atD (Rf.tl ODD) (cell / 243 % 8)] ++ cutC (wordB cell k) (some (cell / 9 % ((wordB cell k).length : Int) + 1)) none
  else wordB cell k
def g_word : List V → Option V
  | [.int cell, .int k] => if decide (0 ≤ k ∧ k < 1000) = true then some (.str (sOf (word cell k))) else none
  | _ => none
theorem lenL : (Rf.tl LET).length = 26 := by decide +kernel
theorem lenO : (Rf.tl ODD).length = 8 := by decide +kernel
theorem wordB_len (cell k : Int) : 1 ≤ (wordB cell k).length ∧ (wordB cell k).length ≤ 9 := by
  unfold wordB
  rw [List.length_map, List.length_range]
  have h1 := Int.emod_nonneg cell (show (9 : Int) ≠ 0 by decide)
  have h2 := Int.emod_lt_of_pos cell (show (0 : Int) < 9 by decide)
  omega
theorem strs_map : ∀ l : List Nat, strsOf (l.map fun c => V.str (sOf [c])) = some (l.map fun c => [c])
  | [] => rfl
  | c :: r => by
    show (strsOf (r.map fun c => V.str (sOf [c]))).map ([c] :: ·) = _
    rw [strs_map r]
    rfl
theorem join_map : ∀ l : List Nat, joinC [] (l.map fun c => [c]) = l
  | [] => rfl
  | [c] => rfl
  | a :: b :: r => by
    show [a] ++ [] ++ joinC [] ((b :: r).map fun c => [c]) = _
    rw [join_map (b :: r)]
    rfl
theorem sum_map : ∀ l : List Nat, ((l.map fun c => [c]).map List.length).sum = l.length
  | [] => rfl
  | c :: r => by
    show 1 + ((r.map fun c => [c]).map List.length).sum = _
    rw [sum_map r, List.length_cons]
    omega
theorem sem_word {K : PySem.W.Frag} {fA : List Addr} {gm : List V → Option V} (hgm : ∀ c k, sml k = true → gm [.int c, .int k] = some (.int (mixed c k))) (vs : List V) (r : V) (H : Hp) (Q : VK) (E : XK) (h : g_word vs = some r) (hQ : ∀ H', Same H H' → Q r H') :
    Rf.wpSs (dn K E ⟨[spP gm], fA, [], []⟩) rs_law_word { nx := fun _ H' => Q .non H', rt := Q } (L2.start N_law_word vs) H := by
  unfold g_word at h
  split at h
  · rename_i cell k
    split at h
    · rename_i hk
      have hk := of_decide_eq_true hk
      cases h
      obtain ⟨b1, b2⟩ := wordB_len cell k
      have key : ∀ H' s, Same H H' → Rf.wpSs (dn K E ⟨[spP gm], fA, [], []⟩) rt_law_word_2 { nx := fun _ H' => Q .non H', rt := Q } [some (.int cell), some (.int k), some (.str LET), some (.str (sOf (wordB cell k))), none, s] H' := by
        intro H' s sm
        have q := hQ H' sm
        have m0 := Int.emod_nonneg (cell / 243) (show (8 : Int) ≠ 0 by decide)
        have m1 := Int.emod_lt_of_pos (cell / 243) (show (0 : Int) < 8 by decide)
        have ha : atI (Rf.tl "AZ0 _-.{") (cell / 243 % 8) = some (atD (Rf.tl ODD) (cell / 243 % 8)) := atD_some m0 (by show _ < ((Rf.tl ODD).length : Int); rw [lenO]; exact m1)
        have c1 := cutC_len (wordB cell k) none (some (cell / 9 % ((wordB cell k).length : Int)))
        have c3 := cutC_len (wordB cell k) (some (cell / 9 % ((wordB cell k).length : Int) + 1)) none
        unfold rt_law_word_2 rt_law_word_3 rt_law_word_4 rt_law_word_5 rh_law_word_2 rh_law_word_3 rh_law_word_4
        unfold word at q
        walk_at "rf"
        refine ⟨⟨by decide, by decide⟩, by show _ ≤ 16777216; omega, by omega, ⟨by decide, by decide⟩, by decide, ?_⟩
        split
        · rename_i z
          rw [if_pos z] at q
          refine ⟨by show _ ≤ 16777216; omega, ⟨by decide, by decide⟩, by decide, by show (Rf.tl ODD).length ≤ line; rw [lenO]; decide, ?_⟩
          rw [ha]
          walk_at "rf"
          exact ⟨by show _ ≤ 16777216; omega, by show _ ≤ 16777216; omega, by show _ ≤ 16777216; rw [List.length_append, List.length_singleton]; omega, q⟩
        · rename_i z
          rw [if_neg z] at q
          exact q
      rw [rs_law_word_cut]
      unfold rt_law_word_0 rt_law_word_1 rh_law_word_0 rh_law_word_1 N_law_word
      walk_at "rf"
      have h1 := Int.emod_nonneg cell (show (9 : Int) ≠ 0 by decide)
      have h2 := Int.emod_lt_of_pos cell (show (0 : Int) < 9 by decide)
      refine ⟨by decide, _, rfl, by omega, by omega, ?_⟩
      intro D hD
      refine lc_rng (fun j => some (.str (sOf [atD (Rf.tl LET) (mixed cell (3 * k + (j : Int)) % 26)]))) (by show _ ≤ 16777216; omega) (fun j acc Nx hj ha hN => ?_) ?_
      · have hs : sml (3 * k + (j : Int)) = true := by
          unfold sml
          rw [Bool.and_eq_true, decide_eq_true_eq, decide_eq_true_eq]
          omega
        have p0 := Int.emod_nonneg (mixed cell (3 * k + (j : Int))) (show (26 : Int) ≠ 0 by decide)
        have p1 := Int.emod_lt_of_pos (mixed cell (3 * k + (j : Int))) (show (0 : Int) < 26 by decide)
        have hat : atI (Rf.tl "abcdefghijklmnopqrstuvwxyz") (mixed cell (3 * k + (j : Int)) % 26) = some (atD (Rf.tl LET) (mixed cell (3 * k + (j : Int)) % 26)) := atD_some p0 (by show _ < ((Rf.tl LET).length : Int); rw [lenL]; exact p1)
        walk_at "rf"
        simp only [Int.zero_add, hgm _ _ hs]
        walk_at "rf"
        refine ⟨.l ⟨by decide, by decide⟩, by decide, by show (Rf.tl LET).length ≤ line; rw [lenL]; decide, ?_⟩
        rw [hat]
        exact ⟨acc, rfl, ha, hN⟩
      · have sm : ∀ xs, Same H (upd H D (.lst xs)) := fun xs b o hb => by rw [upd_ne (ne_of_none hb hD)]; exact hb
        have em : (List.range (1 + cell % 9).toNat).filterMap (fun (j : Nat) => some (V.str (sOf [atD (Rf.tl LET) (mixed cell (3 * k + (j : Int)) % 26)]))) = (wordB cell k).map fun c => V.str (sOf [c]) := by
          unfold wordB
          rw [List.map_map]
          exact congrFun List.filterMap_eq_map' _
        rw [em]
        simp only [rJoinX, seq_upd, Option.bind_some, strs_map, tl_empty, join_map, sum_map, List.length_nil, Nat.mul_zero, Nat.add_zero]
        exact ⟨by show _ ≤ 16777216; omega, key _ _ (sm _)⟩
    · cases h
  · cases h
/-! ### _law_kind -/
def GL (D : Dn) (σ : L2.St) (H0 : Hp) (e : RE) (xs : List V) : Prop := ∀ H Q, Same H0 H → (∀ p H', Same H H' → H' p = some (.lst xs) → Q (.ref p) H') → wpE D e σ H Q
theorem same_trans {H H1 H2 : Hp} (a : Same H H1) (b : Same H1 H2) : Same H H2 := fun p o h => b p o (a p o h)
theorem same_new {H : Hp} {p : Addr} {o : HO} (h : H p = none) : Same H (upd H p o) := fun b u hb => by rw [upd_ne (ne_of_none hb h)]; exact hb
section
variable {D : Dn} {σ : L2.St} {H0 : Hp} {a B C : Addr} {i : Nat} {s : Str} {b : Bool} {xs ys : List V} {e1 e2 : RE}
theorem gl_item (h0 : σ[0]? = some (some (.ref a))) (ha : H0 a = some (ExV (.ref B) none a)) (hB : ExcC D.K B) (hi : D.gv[i]? = some (.ref C)) (hk : PySem.W.kitOne D.K (.ref B) (.ref C) = some b) :
    GL D σ H0 (.bin .Mult (.lst (.cons (.str s) .nil)) (.ct .int (.cons (.cb .isi (.cons (.var 0) (.cons (.gc i) .nil))) .nil))) (if b = true then [.str s] else []) := by
  intro H Q sm hQ
  have ha' := sm a _ ha
  walk_at "rf"
  refine ⟨by rw [line_eq]; decide, fun p hp => ?_⟩
  have ha2 := same_new (o := .lst [V.str s]) hp a _ ha'
  unfold ExV at ha2
  simp only [h0, hi, rVar, ha2]
  refine ⟨B, none, rfl, hB, trivial, b, hk, ?_⟩
  refine ⟨by split <;> decide, by split <;> decide, by decide, fun q hq => ?_⟩
  have sm2 := same_trans (same_new hp) (same_new (o := .lst (List.replicate (if b = true then (1 : Int) else 0).toNat [V.str s]).flatten) hq)
  refine hQ q _ sm2 ?_
  rw [upd_same]
  cases b <;> rfl
theorem gl_base (h0 : σ[0]? = some (some (.ref a))) (ha : H0 a = some (ExV (.ref B) none a)) (hB : ExcC D.K B) {t : String} (hk : PySem.W.kitOne D.K (.ref B) (.type t) = some b) :
    GL D σ H0 (.bin .Mult (.lst (.cons (.str s) .nil)) (.ct .int (.cons (.notV (.cb .isi (.cons (.var 0) (.cons (.ty t) .nil)))) .nil))) (if b = true then [] else [.str s]) := by
  intro H Q sm hQ
  have ha' := sm a _ ha
  walk_at "rf"
  refine ⟨by rw [line_eq]; decide, fun p hp => ?_⟩
  have ha2 := same_new (o := .lst [V.str s]) hp a _ ha'
  unfold ExV at ha2
  simp only [h0, rVar, ha2]
  refine ⟨B, none, rfl, hB, trivial, b, hk, ?_⟩
  refine ⟨by split <;> decide, by split <;> decide, by decide, fun q hq => ?_⟩
  have sm2 := same_trans (same_new hp) (same_new (o := .lst (List.replicate (if b = false then (1 : Int) else 0).toNat [V.str s]).flatten) hq)
  refine hQ q _ sm2 ?_
  rw [upd_same]
  cases b <;> rfl
theorem gl_add (h1 : GL D σ H0 e1 xs) (h2 : GL D σ H0 e2 ys) (hl : xs.length + ys.length ≤ line) : GL D σ H0 (.bin .Add e1 e2) (xs ++ ys) := by
  intro H Q sm hQ
  refine h1 H _ sm fun p H1 s1 hp => h2 H1 _ (same_trans sm s1) fun q H2 s2 hq => ?_
  simp only [rBin, rAddX, s2 p _ hp, hq]
  exact ⟨hl, fun r hr => hQ r _ (same_trans (same_trans s1 s2) (same_new hr)) upd_same⟩
theorem gl_var {p : Addr} (h : σ[i]? = some (some (.ref p))) (hp : H0 p = some (.lst xs)) : GL D σ H0 (.var i) xs := by
  intro H Q sm hQ
  simp only [wpE, rVar, h]
  exact hQ p H (fun _ _ z => z) (sm p _ hp)
theorem gl_set {r : RSs} {E : Ends} {H : Hp} {e : RE} (h : GL D σ H e xs) (k : ∀ p H', Same H H' → H' p = some (.lst xs) → Rf.wpSs D r E (σ.set i (some (.ref p))) H') : Rf.wpSs D (.cons (.set i e) r) E σ H := by
  simp only [Rf.wpSs, Rf.wpS, tSeq, tAsg, gName]
  exact h H _ (fun _ _ z => z) k
end
structure KK (K : PySem.W.Frag) (c : List Addr) (B : Addr) (b : Bool) : Prop where
  exc : ExcC K B
  k0 : ∀ x, c[0]? = some x → PySem.W.kitOne K (.ref B) (.ref x) = some b
  k1 : ∀ x, c[1]? = some x → PySem.W.kitOne K (.ref B) (.ref x) = some (!b)
  kr : ∀ i x, 2 ≤ i → c[i]? = some x → PySem.W.kitOne K (.ref B) (.ref x) = some false
  kv : PySem.W.kitOne K (.ref B) (.type "ValueError") = some true
def kname (b : Bool) : Str := if b = true then "name" else "number"
def S_kind (K : PySem.W.Frag) (c : List Addr) : Sp := fun vs H Q _ => ∃ a B b, vs = [.ref a] ∧ H a = some (ExV (.ref B) none a) ∧ KK K c B b ∧ ∀ H', Same H H' → Q (.str (kname b)) H'
theorem sem_kind {K : PySem.W.Frag} {c0 c1 c2 c3 c4 c5 c6 c7 c8 c9 : Addr} (vs : List V) (H : Hp) (Q : VK) (E : XK) (h : S_kind K [c0, c1, c2, c3, c4, c5, c6, c7, c8, c9] vs H Q E) :
    Rf.wpSs (dn K E ⟨[], [], [.ref c0, .ref c1, .ref c2, .ref c3, .ref c4, .ref c5, .ref c6, .ref c7, .ref c8, .ref c9], []⟩) rs_law_kind { nx := fun _ H' => Q .non H', rt := Q } (L2.start N_law_kind vs) H := by
  obtain ⟨a, B, b, rfl, ha, kk, hQ⟩ := h
  rw [rs_law_kind_cut]
  show Rf.wpSs _ _ _ [some (.ref a), none] H
  have ex : ExcC K B := kk.exc
  have ne : (if false = true then [V.str "x"] else []) = [] := rfl
  refine gl_set (gl_add (gl_item rfl ha ex rfl (kk.k0 _ rfl)) (gl_item rfl ha ex rfl (kk.k1 _ rfl)) (by cases b <;> decide)) fun p1 H1 s1 e1 => ?_
  have a1 := s1 a _ ha
  have e1 : H1 p1 = some (.lst [.str (kname b)]) := by cases b <;> exact e1
  show Rf.wpSs _ _ _ [some (.ref a), some (.ref p1)] H1
  refine gl_set (gl_add (gl_add (gl_var rfl e1) (gl_item rfl a1 ex rfl (kk.kr 2 _ (by decide) rfl)) (show (1 : Nat) ≤ 16777216 by decide)) (gl_item rfl a1 ex rfl (kk.kr 3 _ (by decide) rfl)) (show (1 : Nat) ≤ 16777216 by decide)) fun p2 H2 s2 e2 => ?_
  have a2 := s2 a _ a1
  have e2 : H2 p2 = some (.lst [.str (kname b)]) := e2
  show Rf.wpSs _ _ _ [some (.ref a), some (.ref p2)] H2
  refine gl_set (gl_add (gl_add (gl_var rfl e2) (gl_item rfl a2 ex rfl (kk.kr 4 _ (by decide) rfl)) (show (1 : Nat) ≤ 16777216 by decide)) (gl_item rfl a2 ex rfl (kk.kr 5 _ (by decide) rfl)) (show (1 : Nat) ≤ 16777216 by decide)) fun p3 H3 s3 e3 => ?_
  have a3 := s3 a _ a2
  have e3 : H3 p3 = some (.lst [.str (kname b)]) := e3
  show Rf.wpSs _ _ _ [some (.ref a), some (.ref p3)] H3
  refine gl_set (gl_add (gl_add (gl_var rfl e3) (gl_item rfl a3 ex rfl (kk.kr 6 _ (by decide) rfl)) (show (1 : Nat) ≤ 16777216 by decide)) (gl_item rfl a3 ex rfl (kk.kr 7 _ (by decide) rfl)) (show (1 : Nat) ≤ 16777216 by decide)) fun p4 H4 s4 e4 => ?_
  have a4 := s4 a _ a3
  have e4 : H4 p4 = some (.lst [.str (kname b)]) := e4
  show Rf.wpSs _ _ _ [some (.ref a), some (.ref p4)] H4
  refine gl_set (gl_add (gl_add (gl_var rfl e4) (gl_item rfl a4 ex rfl (kk.kr 8 _ (by decide) rfl)) (show (1 : Nat) ≤ 16777216 by decide)) (gl_item rfl a4 ex rfl (kk.kr 9 _ (by decide) rfl)) (show (1 : Nat) ≤ 16777216 by decide)) fun p5 H5 s5 e5 => ?_
  have a5 := s5 a _ a4
  have e5 : H5 p5 = some (.lst [.str (kname b)]) := e5
  show Rf.wpSs _ _ _ [some (.ref a), some (.ref p5)] H5
  have g := gl_add (gl_var (D := dn K E ⟨[], [], [.ref c0, .ref c1, .ref c2, .ref c3, .ref c4, .ref c5, .ref c6, .ref c7, .ref c8, .ref c9], []⟩) (σ := [some (.ref a), some (.ref p5)]) (i := 1) rfl e5) (gl_base (s := "base") (t := "ValueError") rfl a5 ex kk.kv) (show (1 : Nat) ≤ 16777216 by decide)
  unfold rt_law_kind_5 rt_law_kind_6 rh_law_kind_5
  simp only [Rf.wpSs, Rf.wpS, tSeq, tRet]
  unfold wpE
  simp only [tBM, BM.ty, wpE, tC, wpA, tCons, tNil]
  refine ⟨rfl, ?_⟩
  refine g H5 _ (fun _ _ z => z) fun p6 H6 s6 e6 => ?_
  have e6 : H6 p6 = some (.lst [.str (kname b)]) := e6
  have e7 : seqH H6 p6 = some [.str (kname b)] := by unfold seqH; rw [e6]
  simp only [rBM, rJoinX, e7, Option.bind_some, strsOf, Option.map_some, List.map_cons, List.map_nil, joinC]
  refine ⟨by cases b <;> decide, ?_⟩
  rw [sOf_tl2]
  exact hQ _ (same_trans (same_trans (same_trans (same_trans (same_trans s1 s2) s3) s4) s5) s6)
end K01
set_option Elab.async false
set_option autoImplicit false
set_option linter.all false
set_option maxRecDepth 100000
set_option maxHeartbeats 4000000
namespace K01
open PySem PySem.Spec PyProof.Rows L2 Rf
local macro_rules | `(tactic| walk_at "rf") => `(tactic| try simp only [Rf.wpSs, Rf.wpS, wpE, wpA, wpT, wpO, wpC, wpI, tSeq, tNext, tAsg, tRet, tRetN, tIfS, tDrop, tBreak, tCont, gName, tOp, tUn, tC, tTest, tChain, tAnd, tOr, tNot, tAndV, tOrV, tIf, tCB, tBM, tSl, tPart, tNoPart, tLst, tTup, tCons, tNil, tCallS, rVar, gvAt, faAt, spAt, tRaiseX, dn, blkD, wKeep, tDNewK, rBin, rAddX, rSubX, rMulX, rModX, rDivX, rPowX, rCmp, rLtX, rLeX, rGtX, rGeX, rOrd, rIsX, rBF, rLenX, rIsiX, tyK, clK, rAbsX, rMinX, rMaxX, rTF, rIntX, rStrX, rBM, rStartX, rIndexSX, rNegX, trX, L2.start, List.getElem?_cons_zero, List.getElem?_cons_succ, List.set_cons_zero, List.set_cons_succ, List.map_cons, List.map_nil, List.length_cons, List.length_nil, List.replicate, List.append_eq, List.cons_append, List.nil_append, Nat.reduceAdd, Nat.reduceSub, Nat.zero_add, Option.getD_some, WE, V.bl.injEq, exists_eq_left', exn, tYes, if_true, Bool.not_true, Bool.not_false, Bool.false_eq_true, if_false, upd_same, iAny, rEqX, scal, tWhile, wipe, List.foldl_cons, List.foldl_nil, spP, spK, rIxX, rSlX, lst_upd, Option.bind_some, decide_eq_true_eq, Bool.not_eq_eq_eq_not, decide_eq_false_iff_not, rInX, tl_sOf2, sOf_tl2, Option.toList_some, Option.toList_none, List.append_nil, true_and, and_true, Bool.true_eq_false, upd_upd, Bool.false_xor, Bool.true_xor, beq_iff_eq, Bool.and_eq_true, reduceCtorEq, rNeX, V.int.injEq, vstr_eq, tyV, BM.ty, tl_dash, tl_zero, tl_empty, List.length_singleton])
/-! ### _law_refused -/
def g_refused : List V → Hp → Option V
  | [.int w, v], H => if kindOk H v = true then (if w = 0 then some (.str (if isNameV v = true then "" else "name")) else if w = 1 then some (.str (if isNum v = true then "" else "number")) else none) else none
  | _, _ => none
structure RX (K : PySem.W.Frag) (cs : List Addr) (we cN cM : Addr) : Prop where
  kN : KK K cs cN true
  kM : KK K cs cM false
  eN : PySem.W.exmOne K (.ref cN) (.ref we) = some true
  eM : PySem.W.exmOne K (.ref cM) (.ref we) = some true
theorem kind_up {H : Hp} {v : V} {p : Addr} {o : HO} (hp : H p = none) (h : kindOk H v = true) : kindOk (upd H p o) v = true := by
  cases v with
  | ref a =>
    unfold kindOk at h ⊢
    dsimp only at h ⊢
    have ne : a ≠ p := fun e => by
      rw [e, hp] at h
      cases h
    rw [upd_ne ne]
    exact h
  | _ => exact h
theorem g_refused_sh {vs : List V} {H : Hp} {r : V} (h : g_refused vs H = some r) : ∃ v, kindOk H v = true ∧ ((vs = [.int 0, v] ∧ r = .str (if isNameV v = true then "" else "name")) ∨ (vs = [.int 1, v] ∧ r = .str (if isNum v = true then "" else "number"))) := by
  unfold g_refused at h
  split at h
  · split at h
    · rename_i hk
      split at h
      · rename_i e
        subst e
        cases h
        exact ⟨_, hk, .inl ⟨rfl, rfl⟩⟩
      · split at h
        · rename_i e
          subst e
          cases h
          exact ⟨_, hk, .inr ⟨rfl, rfl⟩⟩
        · cases h
    · cases h
  · cases h
theorem sem_refused {K : PySem.W.Frag} {cs : List Addr} {we cN cM f0 f1 f2 : Addr} (rx : RX K cs we cN cM) (vs : List V) (r : V) (H : Hp) (Q : VK) (E : XK) (h : g_refused vs H = some r) (hQ : ∀ H', Same H H' → Q r H') :
    Rf.wpSs (dn K E ⟨[S_need isNum cM, S_need isNameV cN, S_kind K cs], [f0, f1, f2], [], [we]⟩) rs_law_refused { nx := fun _ H' => Q .non H', rt := Q } (L2.start N_law_refused vs) H := by
  obtain ⟨v, hk, h⟩ := g_refused_sh h
  -- nothing told
  have keyN : r = .str "" → ∀ H' w s, Same H H' → Rf.wpSs (dn K E ⟨[S_need isNum cM, S_need isNameV cN, S_kind K cs], [f0, f1, f2], [], [we]⟩) rt_law_refused_3 { nx := fun _ H' => Q .non H', rt := Q } [some w, some v, some .non, some .non, s] H' := by
    intro e H' w s sm
    subst e
    unfold rt_law_refused_3 rt_law_refused_4 rt_law_refused_5 rh_law_refused_3 rh_law_refused_4
    walk_at "rf"
    first
      | exact hQ _ sm
      | (simp; exact hQ _ sm)
  -- an error kept
  have keyE : ∀ b B, KK K cs B b → r = .str (kname b) → ∀ H' w x a, Same H H' → H' a = some (ExV (.ref B) none a) → Rf.wpSs (dn K E ⟨[S_need isNum cM, S_need isNameV cN, S_kind K cs], [f0, f1, f2], [], [we]⟩) rt_law_refused_3 { nx := fun _ H' => Q .non H', rt := Q } [some w, some v, some (.ref a), some x, none] H' := by
    intro b B kk e H' w x a sm ha
    subst e
    unfold rt_law_refused_3 rt_law_refused_4 rt_law_refused_5 rh_law_refused_3 rh_law_refused_4
    walk_at "rf"
    simp only [S_kind]
    rw [if_pos (fun z => z)]
    exact ⟨a, B, b, rfl, ha, kk, fun H2 s2 => hQ _ (same_trans sm s2)⟩
  rw [rs_law_refused_cut]
  unfold rt_law_refused_0 rt_law_refused_1 rt_law_refused_2 rh_law_refused_0 rh_law_refused_1 rh_law_refused_2 N_law_refused
  rcases h with ⟨rfl, e⟩ | ⟨rfl, e⟩
  · walk_at "rf"
    refine ⟨by rw [line_eq]; decide, fun p hp => ?_⟩
    simp only [seq_upd]
    rw [show atI [V.ref f1, V.ref f0] 0 = some (.ref f1) from rfl]
    dsimp only
    refine ⟨1, f1, rfl, rfl, ?_⟩
    simp only [List.getElem?_cons_zero, List.getElem?_cons_succ, Option.getD_some, S_need]
    refine ⟨kind_up hp hk, ?_⟩
    by_cases hn : isNameV v = true
    · rw [if_pos hn] at e ⊢
      exact keyN e _ _ _ (same_new hp)
    · rw [if_neg hn] at e ⊢
      exact ⟨true, rx.eN, fun _ a ha => keyE true cN rx.kN e _ _ _ a (same_trans (same_new hp) (same_new ha)) upd_same, fun z => nomatch z⟩
  · walk_at "rf"
    refine ⟨by rw [line_eq]; decide, fun p hp => ?_⟩
    simp only [seq_upd]
    rw [show atI [V.ref f1, V.ref f0] 1 = some (.ref f0) from rfl]
    dsimp only
    refine ⟨0, f0, rfl, rfl, ?_⟩
    simp only [List.getElem?_cons_zero, List.getElem?_cons_succ, Option.getD_some, S_need]
    refine ⟨kind_up hp hk, ?_⟩
    by_cases hn : isNum v = true
    · rw [if_pos hn] at e ⊢
      exact keyN e _ _ _ (same_new hp)
    · rw [if_neg hn] at e ⊢
      exact ⟨true, rx.eM, fun _ a ha => keyE false cM rx.kM e _ _ _ a (same_trans (same_new hp) (same_new ha)) upd_same, fun z => nomatch z⟩
/-! ### _law_number_right, _law_text_right, _law_things_right -/
def g_nright : List V → Option V
  | [.int n] => if isNum (.int n) = true then some (.bl true) else none
  | _ => none
theorem figs_head (n : Int) : ∃ c r, figs n = c :: r ∧ (c = 45 ∨ (48 ≤ c ∧ c ≤ 57)) := by
  unfold figs
  split
  · exact ⟨45, _, rfl, .inl rfl⟩
  · cases e : TL.numL n.natAbs with
    | nil => exact absurd e (TL.numL_ne _)
    | cons c r =>
      have q := TL.numL_digits n.natAbs c (by rw [e]; exact List.mem_cons_self)
      exact ⟨c, r, rfl, .inr q⟩
theorem figs_noname (n : Int) : isName (figs n) = false := by
  obtain ⟨c, r, e, h⟩ := figs_head n
  rw [e]
  have hc : decide (c ∈ Rf.tl LET) = false := decide_eq_false fun m => by
    have key : ∀ x ∈ Rf.tl LET, 97 ≤ x := by decide +kernel
    have := key c m
    omega
  unfold isName
  rw [List.all_cons, hc, Bool.false_and, Bool.and_false]
theorem figs_len {n : Int} (h : isNum (.int n) = true) : (figs n).length ≤ 61 := by
  have q : (TL.numL n.natAbs).length ≤ 60 := TL.numL_len (by decide) (num_abs h)
  unfold figs
  rw [List.length_append]
  split <;> simp <;> omega
theorem sem_nright {K : PySem.W.Frag} (kt : KT K) {fA : List Addr} {gt gf : List V → Option V} {gn gi gr : List V → Hp → Option V}
    (hgt : ∀ i, isNum (.int i) = true → gt [.int i] = some (.str (sOf (figs i)))) (hgf : ∀ i, isNum (.int i) = true → gf [.int i] = some (.str (sOf (figs i))))
    (hgi : ∀ v H, kindOk H v = true → gi [v] H = some (.bl (isNum v))) (hgn : ∀ v H, kindOk H v = true → gn [v] H = some (.bl (isNameV v)))
    (hgr0 : ∀ v H, kindOk H v = true → gr [.int 0, v] H = some (.str (if isNameV v = true then "" else "name"))) (hgr1 : ∀ v H, kindOk H v = true → gr [.int 1, v] H = some (.str (if isNum v = true then "" else "number")))
    (vs : List V) (r : V) (H : Hp) (Q : VK) (E : XK) (h : g_nright vs = some r) (hQ : ∀ H', Same H H' → Q r H') :
    Rf.wpSs (dn K E ⟨[spP gt, spK gi, spP gf, spK gr, spK gn], fA, [], []⟩) rs_law_number_right { nx := fun _ H' => Q .non H', rt := Q } (L2.start N_law_number_right vs) H := by
  unfold g_nright at h
  split at h
  · rename_i n
    split at h
    · rename_i hn
      cases h
      have q := hQ H fun _ _ z => z
      have k1 : kindOk H (.int n) = true := rfl
      have k2 : kindOk H (.str (sOf (figs n))) = true := decide_eq_true (by rw [tl_sOf2]; exact Nat.le_trans (figs_len hn) (by decide))
      have nn : isNameV (.str (sOf (figs n))) = false := by
        show isName (Rf.tl (sOf (figs n))) = false
        rw [tl_sOf2]
        exact figs_noname n
      have n0 : isNameV (.int n) = false := rfl
      unfold rs_law_number_right N_law_number_right
      walk_at "rf"
      simp only [hgt _ hn]
      walk_at "rf"
      simp only [kt.ss, Option.some.injEq, exists_eq_left']
      walk_at "rf"
      simp only [hgf _ hn, hgi _ _ k1, hn, hgr1 _ _ k1, hgr0 _ _ k1, n0, hgn _ _ k2, nn]
      walk_at "rf"
      simpa using q
    · cases h
  · cases h
def g_tright : List V → Option V
  | [.str t] => if (Rf.tl t).length ≤ 1000 ∧ chOk (Rf.tl t) = true then some (.bl true) else none
  | _ => none
theorem sem_tright {K : PySem.W.Frag} {fA : List Addr} {gno grd gw : List V → Option V} (h1 : ∀ t, (Rf.tl t).length ≤ 1000 → gno [.str t] = some (optV (numOf (Rf.tl t)))) (h2 : ∀ t, (Rf.tl t).length ≤ 1000 → chOk (Rf.tl t) = true → grd [.str t] = some (optV (numOf (Rf.tl t))))
    (h3 : ∀ n, gw [.int n] = some (.bl true)) (vs : List V) (r : V) (H : Hp) (Q : VK) (E : XK) (h : g_tright vs = some r) (hQ : ∀ H', Same H H' → Q r H') :
    Rf.wpSs (dn K E ⟨[spP gno, spP grd, spP gw], fA, [], []⟩) rs_law_text_right { nx := fun _ H' => Q .non H', rt := Q } (L2.start N_law_text_right vs) H := by
  unfold g_tright at h
  split at h
  · rename_i t
    split at h
    · rename_i hl
      cases h
      have q := hQ H fun _ _ z => z
      unfold rs_law_text_right N_law_text_right
      walk_at "rf"
      simp only [h1 _ hl.1, h2 _ hl.1 hl.2]
      cases numOf (Rf.tl t) with
      | none =>
        simp only [optV]
        walk_at "rf"
        simpa using q
      | some n =>
        simp only [optV]
        walk_at "rf"
        simp only [h3]
        walk_at "rf"
        simpa using q
    · cases h
  · cases h
def g_things : List V → Option V
  | [.int _, .int _] => some (.bl true)
  | _ => none
theorem mod_lt (c : Int) (n : Nat) (h : 0 < n) : ∃ i : Nat, i < n ∧ c % (n : Int) = (i : Int) := by
  have h1 := Int.emod_nonneg c (show (n : Int) ≠ 0 by omega)
  have h2 := Int.emod_lt_of_pos c (show (0 : Int) < (n : Int) by omega)
  exact ⟨(c % (n : Int)).toNat, by omega, by omega⟩
theorem dec_name (s : Str) (h : (Rf.tl s).length ≤ line) (h2 : isName (Rf.tl s) = false) (H : Hp) : kindOk H (.str s) = true ∧ isNameV (.str s) = false := ⟨decide_eq_true h, h2⟩
theorem kind_lst {H : Hp} {p : Addr} {xs : List V} (h : H p = some (.lst xs)) : kindOk H (.ref p) = true := by
  unfold kindOk
  dsimp only
  rw [h]
theorem kind_tup {H : Hp} {p : Addr} {xs : List V} (h : H p = some (.tup xs)) : kindOk H (.ref p) = true := by
  unfold kindOk
  dsimp only
  rw [h]
theorem kind_dk {H : Hp} {p : Addr} {xs : List (Key × V)} (h : H p = some (.dK xs)) : kindOk H (.ref p) = true := by
  unfold kindOk
  dsimp only
  rw [h]
theorem cases11 {i : Nat} (h : i < 11) : i = 0 ∨ i = 1 ∨ i = 2 ∨ i = 3 ∨ i = 4 ∨ i = 5 ∨ i = 6 ∨ i = 7 ∨ i = 8 ∨ i = 9 ∨ i = 10 := by omega
theorem far_no {i : Int} (h : i < BEY → ¬ (0 - BEY < i)) : isNum (.int i) = false := decide_eq_false fun z => h z.2 z.1
theorem kind_str {H : Hp} {s : Str} (h : decide ((Rf.tl s).length ≤ line) = true) : kindOk H (.str s) = true := h
theorem sem_things {K : PySem.W.Frag} {fA : List Addr} {gn gi gr : List V → Hp → Option V}
    (hgi : ∀ v H, kindOk H v = true → gi [v] H = some (.bl (isNum v))) (hgn : ∀ v H, kindOk H v = true → gn [v] H = some (.bl (isNameV v)))
    (hgr0 : ∀ v H, kindOk H v = true → gr [.int 0, v] H = some (.str (if isNameV v = true then "" else "name"))) (hgr1 : ∀ v H, kindOk H v = true → gr [.int 1, v] H = some (.str (if isNum v = true then "" else "number")))
    (vs : List V) (r : V) (H : Hp) (Q : VK) (E : XK) (h : g_things vs = some r) (hQ : ∀ H', Same H H' → Q r H') :
    Rf.wpSs (dn K E ⟨[spK gr, spK gi, spK gn], fA, [], []⟩) rs_law_things_right { nx := fun _ H' => Q .non H', rt := Q } (L2.start N_law_things_right vs) H := by
  unfold g_things at h
  split at h
  · rename_i c n
    cases h
    -- the last two statements, whatever stands in _law_far, _law_odd
    have key4 : ∀ H' v x, Same H H' → kindOk H' v = true → isNameV v = false → Rf.wpSs (dn K E ⟨[spK gr, spK gi, spK gn], fA, [], []⟩) rt_law_things_right_4 { nx := fun _ H' => Q .non H', rt := Q } [some (.int c), some (.int n), some x, some v] H' := by
      intro H' v x sm hk hn
      unfold rt_law_things_right_4 rt_law_things_right_5 rh_law_things_right_4
      walk_at "rf"
      simp only [hgn _ _ hk, hgr0 _ _ hk, hn]
      walk_at "rf"
      simpa using hQ _ sm
    have key2 : ∀ H' v x, Same H H' → kindOk H' v = true → isNum v = false → (∀ H2 w, Same H H2 → Rf.wpSs (dn K E ⟨[spK gr, spK gi, spK gn], fA, [], []⟩) rt_law_things_right_3 { nx := fun _ H' => Q .non H', rt := Q } [some (.int c), some (.int n), some x, some w] H2) → Rf.wpSs (dn K E ⟨[spK gr, spK gi, spK gn], fA, [], []⟩) rt_law_things_right_2 { nx := fun _ H' => Q .non H', rt := Q } [some (.int c), some (.int n), some x, some v] H' := by
      intro H' v x sm hk hn k3
      unfold rt_law_things_right_2 rh_law_things_right_2
      walk_at "rf"
      simp only [hgi _ _ hk, hgr1 _ _ hk, hn]
      walk_at "rf"
      have z := k3 _ v sm
      simp
      exact z
    have key3 : ∀ H' x w, Same H H' → Rf.wpSs (dn K E ⟨[spK gr, spK gi, spK gn], fA, [], []⟩) rt_law_things_right_3 { nx := fun _ H' => Q .non H', rt := Q } [some (.int c), some (.int n), some x, some w] H' := by
      intro H' x w sm
      unfold rt_law_things_right_3 rh_law_things_right_3
      walk_at "rf"
      refine ⟨by rw [line_eq]; decide, fun p hp => ⟨by rw [line_eq]; decide, fun p1 hp1 p2 hp2 => ⟨by rw [line_eq]; decide, fun p3 hp3 => ⟨⟨by decide, by decide⟩, by decide, ?_⟩⟩⟩⟩
      have s1 := same_new (o := .lst [V.str "ab"]) hp
      have s2 := same_new (o := .tup [V.str "ab"]) hp1
      have s3 := same_new (o := .dK []) hp2
      have s4 := same_new (o := .lst [V.non, V.bl true, V.int 5, V.str "", V.ref p, V.ref p1, V.ref p2, V.str "abcdefghi", V.str "aB", V.str "a b", V.str "a1"]) hp3
      obtain ⟨i, hi, e⟩ := mod_lt (c / 11) 11 (by decide)
      have at_ : ∃ v, atI [V.non, V.bl true, V.int 5, V.str "", V.ref p, V.ref p1, V.ref p2, V.str "abcdefghi", V.str "aB", V.str "a b", V.str "a1"] (i : Int) = some v ∧ kindOk (upd (upd (upd (upd H' p (.lst [V.str "ab"])) p1 (.tup [V.str "ab"])) p2 (.dK [])) p3 (.lst [V.non, V.bl true, V.int 5, V.str "", V.ref p, V.ref p1, V.ref p2, V.str "abcdefghi", V.str "aB", V.str "a b", V.str "a1"])) v = true ∧ isNameV v = false := by
        rcases cases11 hi with rfl | rfl | rfl | rfl | rfl | rfl | rfl | rfl | rfl | rfl | rfl
        · exact ⟨_, rfl, rfl, rfl⟩
        · exact ⟨_, rfl, rfl, rfl⟩
        · exact ⟨_, rfl, rfl, rfl⟩
        · exact ⟨_, rfl, kind_str (by decide +kernel), by decide +kernel⟩
        · exact ⟨_, rfl, kind_lst (s4 _ _ (s3 _ _ (s2 _ _ upd_same))), rfl⟩
        · exact ⟨_, rfl, kind_tup (s4 _ _ (s3 _ _ upd_same)), rfl⟩
        · exact ⟨_, rfl, kind_dk (s4 _ _ upd_same), rfl⟩
        · exact ⟨_, rfl, kind_str (by decide +kernel), by decide +kernel⟩
        · exact ⟨_, rfl, kind_str (by decide +kernel), by decide +kernel⟩
        · exact ⟨_, rfl, kind_str (by decide +kernel), by decide +kernel⟩
        · exact ⟨_, rfl, kind_str (by decide +kernel), by decide +kernel⟩
      obtain ⟨v, ev, k1, k2⟩ := at_
      rw [show c / 11 % 11 = (i : Int) from e]
      simp only [seq_upd]
      rw [ev]
      exact key4 _ v x (same_trans (same_trans (same_trans (same_trans sm s1) s2) s3) s4) k1 k2
    rw [rs_law_things_right_cut]
    unfold rt_law_things_right_0 rt_law_things_right_1 rh_law_things_right_0 rh_law_things_right_1 N_law_things_right
    walk_at "rf"
    have cp : CPow 10 60 := ⟨by decide, by decide, by decide⟩
    have f0 : (0 : Int) ≤ n % 10 ^ Int.toNat 9 := Int.emod_nonneg _ (by decide)
    have eB : (10 : Int) ^ Int.toNat 60 = BEY := rfl
    generalize ew : n % 10 ^ Int.toNat 9 = w at f0 ⊢
    rw [eB]
    have hB : 0 < BEY := by decide
    refine ⟨cp, ⟨by decide, by decide, by decide⟩, by decide, by rw [line_eq]; decide, fun p hp => ⟨by rw [line_eq]; decide, fun p1 hp1 p2 hp2 => ⟨cp, cp, by rw [line_eq]; decide, fun p3 hp3 => ⟨by decide, ?_⟩⟩⟩⟩
    have s1 := same_new (o := .lst [V.int 5]) hp
    have s2 := same_new (o := .tup [V.int 5]) hp1
    have s3 := same_new (o := .dK []) hp2
    have s4 := same_new (o := .lst [V.non, V.bl true, V.bl false, V.str "5", V.ref p, V.ref p1, V.ref p2, V.int (BEY + w), V.int (0 - (BEY + w)), V.int BEY, V.int (0 - BEY)]) hp3
    obtain ⟨i, hi, e⟩ := mod_lt c 11 (by decide)
    have at_ : ∃ v, atI [V.non, V.bl true, V.bl false, V.str "5", V.ref p, V.ref p1, V.ref p2, V.int (BEY + w), V.int (0 - (BEY + w)), V.int BEY, V.int (0 - BEY)] (i : Int) = some v ∧ kindOk (upd (upd (upd (upd H p (.lst [V.int 5])) p1 (.tup [V.int 5])) p2 (.dK [])) p3 (.lst [V.non, V.bl true, V.bl false, V.str "5", V.ref p, V.ref p1, V.ref p2, V.int (BEY + w), V.int (0 - (BEY + w)), V.int BEY, V.int (0 - BEY)])) v = true ∧ isNum v = false := by
      rcases cases11 hi with rfl | rfl | rfl | rfl | rfl | rfl | rfl | rfl | rfl | rfl | rfl
      · exact ⟨_, rfl, rfl, rfl⟩
      · exact ⟨_, rfl, rfl, rfl⟩
      · exact ⟨_, rfl, rfl, rfl⟩
      · exact ⟨_, rfl, kind_str (by decide +kernel), rfl⟩
      · exact ⟨_, rfl, kind_lst (s4 _ _ (s3 _ _ (s2 _ _ upd_same))), rfl⟩
      · exact ⟨_, rfl, kind_tup (s4 _ _ (s3 _ _ upd_same)), rfl⟩
      · exact ⟨_, rfl, kind_dk (s4 _ _ upd_same), rfl⟩
      · exact ⟨_, rfl, rfl, far_no (by omega)⟩
      · exact ⟨_, rfl, rfl, far_no (by omega)⟩
      · exact ⟨_, rfl, rfl, far_no (by omega)⟩
      · exact ⟨_, rfl, rfl, far_no (by omega)⟩
    obtain ⟨v, ev, k1, k2⟩ := at_
    rw [show c % 11 = (i : Int) from e]
    simp only [seq_upd]
    rw [ev]
    exact key2 _ v _ (same_trans (same_trans (same_trans s1 s2) s3) s4) k1 k2 fun H2 w' sm => key3 H2 _ w' sm
  · cases h
end K01
set_option Elab.async false
set_option autoImplicit false
set_option linter.all false
set_option maxRecDepth 100000
set_option maxHeartbeats 4000000
namespace K01
open PySem PySem.Spec PyProof.Rows L2 Rf
local macro_rules | `(tactic| walk_at "rf") => `(tactic| try simp only [Rf.wpSs, Rf.wpS, wpE, wpA, wpT, wpO, wpC, wpI, tSeq, tNext, tAsg, tRet, tRetN, tIfS, tDrop, tBreak, tCont, gName, tOp, tUn, tC, tTest, tChain, tAnd, tOr, tNot, tAndV, tOrV, tIf, tCB, tBM, tSl, tPart, tNoPart, tLst, tTup, tCons, tNil, tCallS, rVar, gvAt, faAt, spAt, tRaiseX, dn, blkD, wKeep, tDNewK, rBin, rAddX, rSubX, rMulX, rModX, rDivX, rPowX, rCmp, rLtX, rLeX, rGtX, rGeX, rOrd, rIsX, rBF, rLenX, rIsiX, tyK, clK, rAbsX, rMinX, rMaxX, rTF, rIntX, rStrX, rBM, rStartX, rIndexSX, rNegX, trX, L2.start, List.getElem?_cons_zero, List.getElem?_cons_succ, List.set_cons_zero, List.set_cons_succ, List.map_cons, List.map_nil, List.length_cons, List.length_nil, List.replicate, List.append_eq, List.cons_append, List.nil_append, Nat.reduceAdd, Nat.reduceSub, Nat.zero_add, Option.getD_some, WE, V.bl.injEq, exists_eq_left', exn, tYes, if_true, Bool.not_true, Bool.not_false, Bool.false_eq_true, if_false, upd_same, iAny, rEqX, scal, tWhile, wipe, List.foldl_cons, List.foldl_nil, spP, spK, rIxX, rSlX, lst_upd, Option.bind_some, decide_eq_true_eq, Bool.not_eq_eq_eq_not, decide_eq_false_iff_not, rInX, tl_sOf2, sOf_tl2, Option.toList_some, Option.toList_none, List.append_nil, true_and, and_true, Bool.true_eq_false, upd_upd, Bool.false_xor, Bool.true_xor, beq_iff_eq, Bool.and_eq_true, reduceCtorEq, rNeX, V.int.injEq, vstr_eq, tyV, BM.ty, tl_dash, tl_zero, tl_empty, List.length_singleton])
/-! ### law -/
theorem ch_of {l : Cs} (h : ∀ c ∈ l, c < 1114112) : chOk l = true := List.all_eq_true.mpr fun c hc => decide_eq_true (h c hc)
theorem ch_mem {l : Cs} (h : chOk l = true) : ∀ c ∈ l, c < 1114112 := fun c hc => of_decide_eq_true (List.all_eq_true.mp h c hc)
theorem figs_ch (n : Int) : chOk (figs n) = true := ch_of fun c hc => by
  unfold figs at hc
  rcases List.mem_append.mp hc with h | h
  · split at h
    · have : c = 45 := by simpa using h
      omega
    · cases h
  · have := TL.numL_digits n.natAbs c h
    omega
theorem atD_ch {l : Cs} {i : Int} (h : ∀ c ∈ l, c < 1114112) : atD l i < 1114112 := by
  unfold atD
  cases e : atI l i with
  | none => decide
  | some c =>
    refine h c ?_
    unfold atI at e
    cases q : ixN l.length i with
    | none => rw [q] at e; cases e
    | some j => rw [q] at e; exact List.mem_of_getElem? e
theorem cut_mem {z : Cs} {lo hi : Option Int} {c : Nat} (h : c ∈ cutC z lo hi) : c ∈ z := List.mem_of_mem_drop (List.mem_of_mem_take h)
theorem rep_mem {n : Int} {l : Cs} {c : Nat} (h : c ∈ repC n l) : c ∈ l := by
  unfold repC at h
  obtain ⟨m, hm, hc⟩ := List.mem_flatten.mp h
  rw [List.eq_of_mem_replicate hm] at hc
  exact hc
theorem bnd_ch : ∀ c ∈ Rf.tl BND, c < 1114112 := by decide +kernel
theorem bent_ok {t : Cs} (c : Int) (h : chOk t = true) (hl : t.length ≤ 500) : chOk (bent t c) = true ∧ (bent t c).length ≤ t.length + 62 := by
  have hm := ch_mem h
  have c1 := cutC_len t none (some (c / 8 % ((t.length : Int) + 1)))
  have c2 := cutC_len t (some (c / 8 % ((t.length : Int) + 1))) none
  have c3 := cutC_len t (some (c / 8 % ((t.length : Int) + 1) + 1)) none
  have d1 := Int.emod_nonneg (c / 8) (show (3 : Int) ≠ 0 by decide)
  have d2 := Int.emod_lt_of_pos (c / 8) (show (0 : Int) < 3 by decide)
  have d3 := Int.emod_nonneg (c / 8) (show (5 : Int) ≠ 0 by decide)
  have d4 := Int.emod_lt_of_pos (c / 8) (show (0 : Int) < 5 by decide)
  -- the length of the two parts
  have hp : (cutC t none (some (c / 8 % ((t.length : Int) + 1)))).length + (cutC t (some (c / 8 % ((t.length : Int) + 1))) none).length ≤ t.length + 1 := by
    have z0 := Int.emod_nonneg (c / 8) (show ((t.length : Int) + 1) ≠ 0 by omega)
    have z1 := Int.emod_lt_of_pos (c / 8) (show (0 : Int) < (t.length : Int) + 1 by omega)
    generalize c / 8 % ((t.length : Int) + 1) = p at z0 z1
    obtain ⟨m, rfl⟩ : ∃ m : Nat, p = (m : Int) := ⟨p.toNat, by omega⟩
    unfold cutC
    simp only [HT.sIx_none, HT.sIx_nat, List.length_take, List.length_drop]
    omega
  have hp3 : (cutC t none (some (c / 8 % ((t.length : Int) + 1)))).length + (cutC t (some (c / 8 % ((t.length : Int) + 1) + 1)) none).length ≤ t.length + 1 := by
    have z0 := Int.emod_nonneg (c / 8) (show ((t.length : Int) + 1) ≠ 0 by omega)
    have z1 := Int.emod_lt_of_pos (c / 8) (show (0 : Int) < (t.length : Int) + 1 by omega)
    generalize c / 8 % ((t.length : Int) + 1) = p at z0 z1
    obtain ⟨m, rfl⟩ : ∃ m : Nat, p = (m : Int) := ⟨p.toNat, by omega⟩
    unfold cutC
    rw [show ((m : Int) + 1) = ((m + 1 : Nat) : Int) by omega]
    simp only [HT.sIx_none, HT.sIx_nat, List.length_take, List.length_drop]
    omega
  unfold bent
  dsimp only
  split
  · refine ⟨ch_of fun x hx => ?_, by simp only [List.length_append, List.length_singleton]; omega⟩
    rcases List.mem_append.mp hx with hx | hx
    · rcases List.mem_append.mp hx with hx | hx
      · exact hm _ (cut_mem hx)
      · rw [List.mem_singleton.mp hx]; exact atD_ch bnd_ch
    · exact hm _ (cut_mem hx)
  split
  · refine ⟨ch_of fun x hx => ?_, by simp only [List.length_append]; omega⟩
    rcases List.mem_append.mp hx with hx | hx
    · exact hm _ (cut_mem hx)
    · exact hm _ (cut_mem hx)
  split
  · refine ⟨ch_of fun x hx => ?_, by simp only [List.length_append, List.length_singleton]; omega⟩
    rcases List.mem_append.mp hx with hx | hx
    · rcases List.mem_append.mp hx with hx | hx
      · exact hm _ (cut_mem hx)
      · rw [List.mem_singleton.mp hx]; exact atD_ch bnd_ch
    · exact hm _ (cut_mem hx)
  split
  · refine ⟨ch_of fun x hx => ?_, by simp only [List.length_cons]; omega⟩
    rcases List.mem_cons.mp hx with hx | hx
    · rw [hx]; decide
    · exact hm _ hx
  split
  · refine ⟨ch_of fun x hx => ?_, by rw [List.length_append, repC_len, List.length_singleton]; omega⟩
    rcases List.mem_append.mp hx with hx | hx
    · rw [List.mem_singleton.mp (rep_mem hx)]; decide
    · exact hm _ hx
  split
  · refine ⟨ch_of fun x hx => ?_, by rw [repC_len, List.length_singleton]; omega⟩
    rw [List.mem_singleton.mp (rep_mem hx)]; decide
  · exact ⟨h, by omega⟩
theorem wordB_ch (cell k : Int) : ∀ c ∈ wordB cell k, c < 1114112 := fun c hc => by
  unfold wordB at hc
  obtain ⟨j, _, rfl⟩ := List.mem_map.mp hc
  exact atD_ch (by decide +kernel)
theorem word_ok (cell k : Int) : chOk (word cell k) = true ∧ 1 ≤ (word cell k).length ∧ (word cell k).length ≤ 20 := by
  obtain ⟨b1, b2⟩ := wordB_len cell k
  have hm := wordB_ch cell k
  unfold word
  split
  · have c1 := cutC_len (wordB cell k) none (some (cell / 9 % ((wordB cell k).length : Int)))
    have c3 := cutC_len (wordB cell k) (some (cell / 9 % ((wordB cell k).length : Int) + 1)) none
    refine ⟨ch_of fun x hx => ?_, by simp only [List.length_append, List.length_singleton]; omega, by simp only [List.length_append, List.length_singleton]; omega⟩
    rcases List.mem_append.mp hx with hx | hx
    · rcases List.mem_append.mp hx with hx | hx
      · exact hm _ (cut_mem hx)
      · rw [List.mem_singleton.mp hx]; exact atD_ch (by decide +kernel)
    · exact hm _ (cut_mem hx)
  · exact ⟨ch_of hm, b1, by omega⟩
theorem name_eq {l : Cs} (h : 1 ≤ l.length) : isName l = lawName l := by
  unfold isName lawName
  congr 1
  by_cases z : l.length ≤ 8
  · rw [decide_eq_true (by omega), decide_eq_true (by omega)]
  · rw [decide_eq_false (by omega), decide_eq_false (by omega)]
theorem num_in {i : Int} (h : 0 - BEY < i ∧ i < BEY) : isNum (.int i) = true := decide_eq_true h
theorem for_rng {D : Dn} {e : RE} {tg : Nat} {b : RSs} {E : Ends} {σ : L2.St} {H : Hp} (j : Int) (j0 : -(2 ^ 62) ≤ j) (j1 : j < 2 ^ 62) (he : ∀ R : VK, R (.int j) H → wpE D e σ H R) (Pv : Nat → L2.St → Hp → Prop) (h0 : Pv 0 σ H)
    (hs : ∀ (i : Nat) σ H, i < j.toNat → Pv i σ H → Rf.wpSs D b { E with nx := Pv (i + 1), ct := Pv (i + 1), bk := E.nx } (σ.set tg (some (.int (i : Int)))) H) (hd : ∀ σ H, Pv j.toNat σ H → E.nx σ H) : Rf.wpS D (.fr tg (.range1 e) b) E σ H := by
  simp only [Rf.wpS, wpI]
  refine he _ ⟨j, rfl, j0, j1, for_range (D := E) Pv h0 (fun i σ H hi p => ?_) hd⟩
  rw [Int.zero_add]
  exact hs i σ H hi p
structure LX (gN gr gi : List V → Hp → Option V) (gB gF gW gT gR gTh gL gO : List V → Option V) : Prop where
  hN : ∀ a k ns H, scr H a = some ns → sml k = true → gN [.ref a, .int k] H = some (.int (number ns k))
  hB : ∀ t c, t.length ≤ 900 → gB [.str (sOf t), .int c] = some (.str (sOf (bent t c)))
  hF : ∀ i, isNum (.int i) = true → gF [.int i] = some (.str (sOf (figs i)))
  hW : ∀ c k, 0 ≤ k → k < 1000 → gW [.int c, .int k] = some (.str (sOf (word c k)))
  hT : ∀ t, t.length ≤ 1000 → chOk t = true → gT [.str (sOf t)] = some (.bl true)
  hR : ∀ n, isNum (.int n) = true → gR [.int n] = some (.bl true)
  hTh : ∀ c n, gTh [.int c, .int n] = some (.bl true)
  hL : ∀ t, t.length ≤ 900 → chOk t = true → gL [.str (sOf t)] = some (.bl (lawName t))
  hr : ∀ v H, kindOk H v = true → gr [.int 0, v] H = some (.str (if isNameV v = true then "" else "name"))
  hi : ∀ v H, kindOk H v = true → gi [v] H = some (.bl (isNameV v))
  hO : ∀ t, (Rf.tl t).length ≤ 1000 → gO [.str t] = some (optV (numOf (Rf.tl t)))
section
variable {K : PySem.W.Frag} {fA : List Addr} {gN gr gi : List V → Hp → Option V} {gB gF gW gT gR gTh gL gO : List V → Option V}
theorem law_4 (X : LX gN gr gi gB gF gW gT gR gTh gL gO) {a : Addr} {ns : List Int} {H H' : Hp} {E : XK} {D : Ends} {k cell n : Int} {s4 s5 s6 : Option V} (hs : scr H a = some ns) (sm : Same H H') (hn : isNum (.int n) = true) (k0 : 0 ≤ k) (k1 : k < 100)
    (hnx : ∀ H2 s4 s5 s6, Same H H2 → D.nx [some (.ref a), some (.int k), some (.int cell), some (.int n), s4, s5, s6] H2) :
    Rf.wpSs (dn K E ⟨[spK gN, spP gB, spP gF, spP gW, spP gT, spP gR, spP gTh, spP gL, spK gr, spK gi, spP gO], fA, [], []⟩) rt_law_0_4 D [some (.ref a), some (.int k), some (.int cell), some (.int n), s4, s5, s6] H' := by
  have hs' := scr_up sm hs
  have sk : ∀ z, 0 ≤ z → z < 1000 → sml z = true := fun z h1 h2 => by
    unfold sml
    rw [Bool.and_eq_true, decide_eq_true_eq, decide_eq_true_eq]
    omega
  have fl := figs_len hn
  obtain ⟨o1, o2⟩ := bent_ok (cell / 27) (figs_ch n) (by omega)
  obtain ⟨o3, o4⟩ := bent_ok (number ns (5 * k)) o1 (by omega)
  obtain ⟨w1, w2, w3⟩ := word_ok (number ns (3 * k + 2)) k
  have e0 := X.hF n hn
  have e1 := X.hB (figs n) (cell / 27) (by omega)
  have e2 := X.hN a (3 * k + 2) ns H' hs' (sk _ (by omega) (by omega))
  have e3 := X.hW (number ns (3 * k + 2)) k k0 (by omega)
  have e4 := X.hR n hn
  have e5 := X.hT (figs n) (by omega) (figs_ch n)
  have e6 := X.hT _ (by omega) o1
  have e7 := X.hN a (5 * k) ns H' hs' (sk _ (by omega) (by omega))
  have e8 := X.hB (bent (figs n) (cell / 27)) (number ns (5 * k)) (by omega)
  have e9 := X.hT _ (by omega) o3
  have e10 := X.hTh cell n
  have e11 := X.hL (word (number ns (3 * k + 2)) k) (by omega) w1
  have kw : kindOk H' (.str (sOf (word (number ns (3 * k + 2)) k))) = true := decide_eq_true (by rw [tl_sOf2]; show _ ≤ 16777216; omega)
  have en : isNameV (.str (sOf (word (number ns (3 * k + 2)) k))) = lawName (word (number ns (3 * k + 2)) k) := by
    show isName (Rf.tl (sOf _)) = _
    rw [tl_sOf2]
    exact name_eq w2
  have e12 := X.hi _ H' kw
  have e13 := X.hr _ H' kw
  rw [en] at e12 e13
  generalize word (number ns (3 * k + 2)) k = wd at *
  generalize number ns (3 * k + 2) = c3 at *
  generalize bent (bent (figs n) (cell / 27)) (number ns (5 * k)) = b2 at *
  generalize number ns (5 * k) = c5 at *
  generalize bent (figs n) (cell / 27) = b1 at *
  unfold rt_law_0_4 rt_law_0_5 rt_law_0_6 rt_law_0_7 rt_law_0_8 rt_law_0_9 rt_law_0_10 rh_law_0_4 rh_law_0_5 rh_law_0_6 rh_law_0_7 rh_law_0_8 rh_law_0_9
  walk_at "rf"
  try simp only [e0, e1, e2, e3, e4, e5, e6, e7, e8, e9, e10, e11, e12, e13]
  walk_at "rf"
  try simp only [e0, e1, e2, e3, e4, e5, e6, e7, e8, e9, e10, e11, e12, e13]
  walk_at "rf"
  try simp only [e0, e1, e2, e3, e4, e5, e6, e7, e8, e9, e10, e11, e12, e13]
  walk_at "rf"
  have ed : ∀ b : Bool, decide (Rf.tl (if b = true then Str.ofString "" else Str.ofString "name") = []) = b := by
    intro b
    cases b
    · decide +kernel
    · decide +kernel
  simp only [ed]
  refine ⟨⟨by decide, by decide⟩, .l ⟨by decide, by decide⟩, .l ⟨by decide, by decide⟩, by rw [line_eq]; decide, fun p hp => ⟨by rw [line_eq]; decide, fun p1 hp1 => ?_⟩⟩
  refine ⟨_, _, .lst (lstH_sq (lstH_of (upd_new hp1))) (dpAll_flat rfl), .lst (lstH_sq lst_upd) (dpAll_flat rfl), shaped_flat rfl, shaped_flat rfl, ?_⟩
  have ee : PyData.eqv (.list ([V.bl (lawName wd), V.bl (lawName wd)].map pd)) (.list ([V.bl (lawName wd), V.bl (lawName wd)].map pd)) = true := by
    simp [PyData.eqv, PyData.eqvAll, pd]
  rw [ee, if_neg (by decide)]
  exact hnx _ _ _ _ (same_trans (same_trans sm (same_new hp)) (same_new hp1))
theorem law_2 (X : LX gN gr gi gB gF gW gT gR gTh gL gO) {a : Addr} {ns : List Int} {H H' : Hp} {E : XK} {D : Ends} {k cell n : Int} {s4 s5 s6 : Option V} (hs : scr H a = some ns) (sm : Same H H') (hn : isNum (.int n) = true) (k0 : 0 ≤ k) (k1 : k < 100)
    (hnx : ∀ H2 n s4 s5 s6, Same H H2 → D.nx [some (.ref a), some (.int k), some (.int cell), some (.int n), s4, s5, s6] H2) :
    Rf.wpSs (dn K E ⟨[spK gN, spP gB, spP gF, spP gW, spP gT, spP gR, spP gTh, spP gL, spK gr, spK gi, spP gO], fA, [], []⟩) rt_law_0_2 D [some (.ref a), some (.int k), some (.int cell), some (.int n), s4, s5, s6] H' := by
  have key4 : ∀ H2 m s4 s5 s6, Same H H2 → isNum (.int m) = true → Rf.wpSs (dn K E ⟨[spK gN, spP gB, spP gF, spP gW, spP gT, spP gR, spP gTh, spP gL, spK gr, spK gi, spP gO], fA, [], []⟩) rt_law_0_4 D [some (.ref a), some (.int k), some (.int cell), some (.int m), s4, s5, s6] H2 :=
    fun H2 m s4 s5 s6 s h => law_4 X hs s h k0 k1 fun H2 s4 s5 s6 q => hnx H2 m s4 s5 s6 q
  have key3 : ∀ H2 m s4 s5 s6, Same H H2 → isNum (.int m) = true → Rf.wpSs (dn K E ⟨[spK gN, spP gB, spP gF, spP gW, spP gT, spP gR, spP gTh, spP gL, spK gr, spK gi, spP gO], fA, [], []⟩) rt_law_0_3 D [some (.ref a), some (.int k), some (.int cell), some (.int m), s4, s5, s6] H2 := by
    intro H2 m s4 s5 s6 sm hm
    have cp : CPow 10 60 := ⟨by decide, by decide, by decide⟩
    have eB : (10 : Int) ^ Int.toNat 60 = BEY := rfl
    unfold rt_law_0_3 rh_law_0_3
    walk_at "rf"
    split
    · rw [eB]
      refine ⟨cp, cp, by rw [line_eq]; decide, fun p hp => ⟨by decide, ?_⟩⟩
      simp only [seq_upd]
      obtain ⟨i, hi, e⟩ := mod_lt cell 4 (by decide)
      rw [show cell % 4 = (i : Int) from e]
      have hB : 1 < BEY := by decide
      have at_ : ∃ v, atI [V.int 0, V.int (BEY - 1), V.int (1 - BEY), V.int (-1)] (i : Int) = some (.int v) ∧ isNum (.int v) = true := by
        have q : i = 0 ∨ i = 1 ∨ i = 2 ∨ i = 3 := by omega
        rcases q with rfl | rfl | rfl | rfl
        · exact ⟨_, rfl, num_in (by omega)⟩
        · exact ⟨_, rfl, num_in (by omega)⟩
        · exact ⟨_, rfl, num_in (by omega)⟩
        · exact ⟨_, rfl, num_in (by omega)⟩
      obtain ⟨v, ev, hv⟩ := at_
      rw [ev]
      exact key4 _ v _ _ _ (same_trans sm (same_new hp)) hv
    · exact key4 _ m _ _ _ sm hm
  have hs' := scr_up sm hs
  obtain ⟨o, z⟩ := scr_of hs'
  have cp : CPow 10 60 := ⟨by decide, by decide, by decide⟩
  have eB : (10 : Int) ^ Int.toNat 60 = BEY := rfl
  unfold rt_law_0_2 rh_law_0_2
  walk_at "rf"
  simp only [z, scr_seq hs', List.length_map]
  walk_at "rf"
  split
  · rename_i hk
    obtain ⟨x, hx, _⟩ := atI_some (xs := ns) k0 hk
    simp only [scr_seq hs', atI_map, hx, Option.map_some, eB]
    have hB : 0 < BEY := by decide
    have x0 := Int.emod_nonneg x (show BEY ≠ 0 by omega)
    have x1 := Int.emod_lt_of_pos x hB
    refine ⟨cp, hB, cp, hB, by rw [line_eq]; decide, fun p hp => ⟨⟨by decide, by decide⟩, by decide, ?_⟩⟩
    simp only [seq_upd]
    obtain ⟨i, hi, e⟩ := mod_lt (cell / 9) 3 (by decide)
    rw [show cell / 9 % 3 = (i : Int) from e]
    have at_ : ∃ v, atI [V.int (x % BEY), V.int n, V.int (0 - x % BEY)] (i : Int) = some (.int v) ∧ isNum (.int v) = true := by
      have q : i = 0 ∨ i = 1 ∨ i = 2 := by omega
      rcases q with rfl | rfl | rfl
      · exact ⟨_, rfl, num_in (by omega)⟩
      · exact ⟨_, rfl, hn⟩
      · exact ⟨_, rfl, num_in (by omega)⟩
    obtain ⟨v, ev, hv⟩ := at_
    rw [ev]
    exact key3 _ v _ _ _ (same_trans sm (same_new hp)) hv
  · exact key3 _ n _ _ _ sm hn
theorem law_0 (X : LX gN gr gi gB gF gW gT gR gTh gL gO) {a : Addr} {ns : List Int} {H H' : Hp} {E : XK} {D : Ends} {k : Int} {s2 s3 s4 s5 s6 : Option V} (hs : scr H a = some ns) (sm : Same H H') (k0 : 0 ≤ k) (k1 : k < 100)
    (hnx : ∀ H2 c n s4 s5 s6, Same H H2 → D.nx [some (.ref a), some (.int k), some (.int c), some (.int n), s4, s5, s6] H2) :
    Rf.wpSs (dn K E ⟨[spK gN, spP gB, spP gF, spP gW, spP gT, spP gR, spP gTh, spP gL, spK gr, spK gi, spP gO], fA, [], []⟩) rt_law_0_0 D [some (.ref a), some (.int k), s2, s3, s4, s5, s6] H' := by
  have key2 : ∀ H2 c n s4 s5 s6, Same H H2 → isNum (.int n) = true → Rf.wpSs (dn K E ⟨[spK gN, spP gB, spP gF, spP gW, spP gT, spP gR, spP gTh, spP gL, spK gr, spK gi, spP gO], fA, [], []⟩) rt_law_0_2 D [some (.ref a), some (.int k), some (.int c), some (.int n), s4, s5, s6] H2 :=
    fun H2 c n s4 s5 s6 s h => law_2 X hs s h k0 k1 fun H2 n s4 s5 s6 q => hnx H2 c n s4 s5 s6 q
  have hs' := scr_up sm hs
  have sk : ∀ z, 0 ≤ z → z < 1000 → sml z = true := fun z h1 h2 => by
    unfold sml
    rw [Bool.and_eq_true, decide_eq_true_eq, decide_eq_true_eq]
    omega
  have e1 := X.hN a (3 * k + 1) ns H' hs' (sk _ (by omega) (by omega))
  have e2 := X.hN a k ns H' hs' (sk _ k0 (by omega))
  generalize number ns (3 * k + 1) = c at *
  generalize number ns k = m at *
  unfold rt_law_0_0 rt_law_0_1 rh_law_0_0 rh_law_0_1
  walk_at "rf"
  simp only [e1, e2]
  walk_at "rf"
  have p5 : (10 : Int) ^ Int.toNat 5 = 100000 := by decide
  have p9 : (10 : Int) ^ Int.toNat 9 = 1000000000 := by decide
  rw [p5, p9]
  refine ⟨.l ⟨by decide, by decide⟩, ⟨by decide, by decide, by decide⟩, ⟨by decide, by decide, by decide⟩, by rw [line_eq]; decide, fun p hp => ⟨by decide, ?_⟩⟩
  simp only [seq_upd]
  obtain ⟨i, hi, e⟩ := mod_lt c 5 (by decide)
  rw [show c % 5 = (i : Int) from e]
  have at_ : ∃ v, atI [V.int 10, V.int 100, V.int 1000, V.int 100000, V.int 1000000000] (i : Int) = some (.int v) ∧ 0 < v ∧ v ≤ 1000000000 := by
    have q : i = 0 ∨ i = 1 ∨ i = 2 ∨ i = 3 ∨ i = 4 := by omega
    rcases q with rfl | rfl | rfl | rfl | rfl
    · exact ⟨_, rfl, by decide, by decide⟩
    · exact ⟨_, rfl, by decide, by decide⟩
    · exact ⟨_, rfl, by decide, by decide⟩
    · exact ⟨_, rfl, by decide, by decide⟩
    · exact ⟨_, rfl, by decide, by decide⟩
  obtain ⟨v, ev, v0, v1⟩ := at_
  rw [ev]
  have x0 := Int.emod_nonneg m (show v ≠ 0 by omega)
  have x1 := Int.emod_lt_of_pos m v0
  have hB : 1000000000 < BEY := by decide
  exact ⟨v0, key2 _ c _ _ _ _ (same_trans sm (same_new hp)) (num_in (by omega))⟩
def S_law : Sp := fun vs H Q _ => ∃ a ns, vs = [.ref a] ∧ scr H a = some ns ∧ ∀ H', Q (.bl true) H'
theorem sem_law (X : LX gN gr gi gB gF gW gT gR gTh gL gO) (vs : List V) (H : Hp) (Q : VK) (E : XK) (h : S_law vs H Q E) :
    Rf.wpSs (dn K E ⟨[spK gN, spP gB, spP gF, spP gW, spP gT, spP gR, spP gTh, spP gL, spK gr, spK gi, spP gO], fA, [], []⟩) rs_law { nx := fun _ H' => Q .non H', rt := Q } (L2.start N_law vs) H := by
  obtain ⟨a, ns, rfl, hs, hQ⟩ := h
  obtain ⟨o, z⟩ := scr_of hs
  rw [rs_law_cut]
  unfold rt_law_0 rh_law_0
  have hl : (0 : Int) ≤ min (ns.length : Int) 59 ∧ min (ns.length : Int) 59 ≤ 59 := by omega
  show Rf.wpS _ _ _ [some (.ref a), none, none, none, none, none, none] H
  refine for_rng (4 + min (ns.length : Int) 59) (by omega) (by omega) (fun R hR => ?_) (fun _ σ H' => Same H H' ∧ ∃ s1 s2 s3 s4 s5 s6, σ = [some (.ref a), s1, s2, s3, s4, s5, s6]) ⟨fun _ _ z => z, _, _, _, _, _, _, rfl⟩ ?_ ?_
  · walk_at "rf"
    simp only [z, scr_seq hs, List.length_map]
    exact hR
  · rintro i σ H' hi ⟨sm, s1, s2, s3, s4, s5, s6, rfl⟩
    show Rf.wpSs _ _ _ [some (.ref a), some (.int (i : Int)), s2, s3, s4, s5, s6] H'
    exact law_0 X hs sm (by omega) (by omega) fun H2 c n s4 s5 s6 q => ⟨q, _, _, _, _, _, _, rfl⟩
  · rintro σ H' ⟨sm, s1, s2, s3, s4, s5, s6, rfl⟩
    have e1 := X.hO "" (by decide +kernel)
    have e2 := X.hO "-" (by decide +kernel)
    have n1 : optV (numOf (Rf.tl "")) = .non := by rw [tl_empty]; rfl
    have n2 : optV (numOf (Rf.tl "-")) = .non := by rw [tl_dash]; rfl
    rw [n1] at e1
    rw [n2] at e2
    dsimp only
    unfold rt_law_1 rt_law_2 rh_law_1
    walk_at "rf"
    simp only [e1, e2]
    walk_at "rf"
    simpa using hQ H'
end
end K01
set_option Elab.async false
set_option autoImplicit false
set_option linter.all false
set_option maxRecDepth 100000
set_option maxHeartbeats 0
namespace K01
open PySem PySem.Spec PyProof.Rows L2 Rf
theorem len1 {vs : List V} {H : Hp} {r : V} {g : List V → Hp → Option V} (h : g vs H = some r) (h0 : g [] H = none) (h2 : ∀ a b c, g (a :: b :: c) H = none) : vs.length = 1 := by
  obtain ⟨v, rfl⟩ := one_arg h h0 h2
  rfl
theorem loc_is_name (vs : List V) (H : Hp) (r : V) (h : g_is_name vs H = some r) : ∃ p, SubOk H p ∧ g_is_name vs (rst H p) = some r := by
  obtain ⟨v, rfl⟩ := one_arg h rfl fun a b c => by unfold g_is_name; rfl
  simp only [g_is_name] at h
  split at h
  · rename_i hk
    obtain ⟨p, s, k⟩ := kind_loc hk
    exact ⟨p, s, by simp only [g_is_name]; rw [if_pos k]; exact h⟩
  · cases h
theorem loc_is_number (vs : List V) (H : Hp) (r : V) (h : g_is_number vs H = some r) : ∃ p, SubOk H p ∧ g_is_number vs (rst H p) = some r := by
  obtain ⟨v, rfl⟩ := one_arg h rfl fun a b c => by unfold g_is_number; rfl
  simp only [g_is_number] at h
  split at h
  · rename_i hk
    obtain ⟨p, s, k⟩ := kind_loc hk
    exact ⟨p, s, by simp only [g_is_number]; rw [if_pos k]; exact h⟩
  · cases h
theorem loc_number (vs : List V) (H : Hp) (r : V) (h : g_number vs H = some r) : ∃ p, SubOk H p ∧ g_number vs (rst H p) = some r := by
  obtain ⟨a, k, ns, rfl, hk, hs, rfl⟩ := g_number_sh h
  obtain ⟨p, s, e⟩ := scr_loc hs
  exact ⟨p, s, by simp only [g_number]; rw [if_pos hk, e]; rfl⟩
theorem loc_refused (vs : List V) (H : Hp) (r : V) (h : g_refused vs H = some r) : ∃ p, SubOk H p ∧ g_refused vs (rst H p) = some r := by
  obtain ⟨v, hk, h1⟩ := g_refused_sh h
  obtain ⟨p, s, k⟩ := kind_loc hk
  rcases h1 with ⟨rfl, rfl⟩ | ⟨rfl, rfl⟩
  · exact ⟨p, s, by simp only [g_refused]; rw [if_pos k]; rfl⟩
  · exact ⟨p, s, by simp only [g_refused]; rw [if_pos k]; rfl⟩
theorem lenk_is_name (vs : List V) (H : Hp) (r : V) (h : g_is_name vs H = some r) : vs.length = 1 := len1 h rfl fun a b c => by unfold g_is_name; rfl
theorem lenk_is_number (vs : List V) (H : Hp) (r : V) (h : g_is_number vs H = some r) : vs.length = 1 := len1 h rfl fun a b c => by unfold g_is_number; rfl
theorem lenk_number (vs : List V) (H : Hp) (r : V) (h : g_number vs H = some r) : vs.length = 2 := by
  obtain ⟨a, k, ns, rfl, _⟩ := g_number_sh h
  rfl
theorem lenk_refused (vs : List V) (H : Hp) (r : V) (h : g_refused vs H = some r) : vs.length = 2 := by
  obtain ⟨v, hk, ⟨rfl, _⟩ | ⟨rfl, _⟩⟩ := g_refused_sh h
  · rfl
  · rfl
theorem len_g_text (vs : List V) (r : V) (h : g_text vs = some r) : vs.length = 1 := by
  unfold g_text at h
  split at h
  · rfl
  · cases h
theorem len_g_number_of (vs : List V) (r : V) (h : g_number_of vs = some r) : vs.length = 1 := by
  unfold g_number_of at h
  split at h
  · rfl
  · cases h
theorem len_g_mixed (vs : List V) (r : V) (h : g_mixed vs = some r) : vs.length = 2 := by
  unfold g_mixed at h
  split at h
  · rfl
  · cases h
theorem len_g_whole (vs : List V) (r : V) (h : g_whole vs = some r) : vs.length = 1 := by
  unfold g_whole at h
  split at h
  · rfl
  · cases h
theorem len_g_read (vs : List V) (r : V) (h : g_read vs = some r) : vs.length = 1 := by
  unfold g_read at h
  split at h
  · rfl
  · cases h
theorem len_g_bent (vs : List V) (r : V) (h : g_bent vs = some r) : vs.length = 2 := by
  unfold g_bent at h
  split at h
  · rfl
  · cases h
theorem len_g_word (vs : List V) (r : V) (h : g_word vs = some r) : vs.length = 2 := by
  unfold g_word at h
  split at h
  · rfl
  · cases h
theorem len_g_lname (vs : List V) (r : V) (h : g_lname vs = some r) : vs.length = 1 := by
  unfold g_lname at h
  split at h
  · rfl
  · cases h
theorem len_g_nright (vs : List V) (r : V) (h : g_nright vs = some r) : vs.length = 1 := by
  unfold g_nright at h
  split at h
  · rfl
  · cases h
theorem len_g_tright (vs : List V) (r : V) (h : g_tright vs = some r) : vs.length = 1 := by
  unfold g_tright at h
  split at h
  · rfl
  · cases h
theorem len_g_things (vs : List V) (r : V) (h : g_things vs = some r) : vs.length = 2 := by
  unfold g_things at h
  split at h
  · rfl
  · cases h
theorem len_need (f : V → Bool) (c : Addr) (vs : List V) (H : Hp) (Q : VK) (E : XK) (h : S_need f c vs H Q E) : vs.length = 1 := by
  unfold S_need at h
  split at h
  · rfl
  · exact h.elim
theorem len_kind {K : PySem.W.Frag} (c : List Addr) (vs : List V) (H : Hp) (Q : VK) (E : XK) (h : S_kind K c vs H Q E) : vs.length = 1 := by
  obtain ⟨a, B, b, rfl, _⟩ := h
  rfl
theorem len_law (vs : List V) (H : Hp) (Q : VK) (E : XK) (h : S_law vs H Q E) : vs.length = 1 := by
  obtain ⟨a, ns, rfl, _⟩ := h
  rfl
section
variable {P : Program} {w : World} {K : PySem.W.Frag} {mg : Str → Option Value} {base : Heap}
theorem hgt : ∀ i, isNum (.int i) = true → g_text [.int i] = some (.str (sOf (figs i))) := fun i h => by simp only [g_text, h, if_true]
theorem hgm : ∀ c k, sml k = true → g_mixed [.int c, .int k] = some (.int (mixed c k)) := fun c k h => by simp only [g_mixed, h, if_true]
theorem hgi : ∀ v H, kindOk H v = true → g_is_number [v] H = some (.bl (isNum v)) := fun v H h => by simp only [g_is_number, h, if_true]
theorem hgn : ∀ v H, kindOk H v = true → g_is_name [v] H = some (.bl (isNameV v)) := fun v H h => by simp only [g_is_name, h, if_true]
theorem hgr0 : ∀ v H, kindOk H v = true → g_refused [.int 0, v] H = some (.str (if isNameV v = true then "" else "name")) := fun v H h => by simp only [g_refused, h, if_true]
theorem hgr1 : ∀ v H, kindOk H v = true → g_refused [.int 1, v] H = some (.str (if isNum v = true then "" else "number")) := fun v H h => by simp only [g_refused, h, if_true]; rfl
theorem hno : ∀ t, (Rf.tl t).length ≤ 1000 → g_number_of [.str t] = some (optV (numOf (Rf.tl t))) := fun t h => by simp only [g_number_of, if_pos h]
theorem hrd : ∀ t, (Rf.tl t).length ≤ 1000 → chOk (Rf.tl t) = true → g_read [.str t] = some (optV (numOf (Rf.tl t))) := fun t h h2 => by simp only [g_read, if_pos (And.intro h h2)]
theorem hgw : ∀ n, g_whole [.int n] = some (.bl true) := fun n => rfl
theorem lx : LX g_number g_refused g_is_name g_bent g_text g_word g_tright g_nright g_things g_lname g_number_of where
  hN := fun a k ns H hs hk => by simp only [g_number, hk, if_true, hs, Option.map_some]
  hB := fun t c h => by simp only [g_bent, Rf.tl_sOf]; exact if_pos h
  hF := hgt
  hW := fun c k h1 h2 => by simp only [g_word, decide_eq_true (And.intro h1 h2), if_true]
  hT := fun t h1 h2 => by simp only [g_tright, Rf.tl_sOf]; exact if_pos (And.intro h1 h2)
  hR := fun n h => by simp only [g_nright, h, if_true]
  hTh := fun c n => rfl
  hL := fun t h1 h2 => by simp only [g_lname, Rf.tl_sOf]; exact if_pos (And.intro h1 h2)
  hr := hgr0
  hi := hgn
  hO := hno
theorem go_is_name {k : Nat} (hk : 1 ≤ k + 1) (v_MOST_LETTERS : ∃ t, mg "MOST_LETTERS" = some (.int (8) t)) (v_LETTERS : ∃ t, mg "LETTERS" = some (.str LET t)) (r_len : mg "len" = none) (r_isinstance : mg "isinstance" = none) (r_str : mg "str" = none) (r_all : mg "all" = none) : GOk P w K mg base k C_is_name ⟨[], [], [.int 8, .str LET], []⟩ := by
  obtain ⟨t_MOST_LETTERS, w_MOST_LETTERS⟩ := v_MOST_LETTERS
  obtain ⟨t_LETTERS, w_LETTERS⟩ := v_LETTERS
  refine GOk.of (.nil) (.cons w_MOST_LETTERS ⟨_, rfl⟩ (.cons w_LETTERS ⟨_, rfl⟩ (.nil))) (?_) (.nil)
  exact fun x hx => by
    have hx : x = Str.ofString "len" ∨ x = Str.ofString "isinstance" ∨ x = Str.ofString "str" ∨ x = Str.ofString "all" := by simpa [C_is_name] using hx
    rcases hx with rfl | rfl | rfl | rfl
    · exact r_len
    · exact r_isinstance
    · exact r_str
    · exact r_all
theorem ok_is_name {fd : FuncData} (kt : KT K) (v_MOST_LETTERS : ∃ t, mg "MOST_LETTERS" = some (.int (8) t)) (v_LETTERS : ∃ t, mg "LETTERS" = some (.str LET t)) (r_len : mg "len" = none) (r_isinstance : mg "isinstance" = none) (r_str : mg "str" = none) (r_all : mg "all" = none) (m : mg "is_name" = some (.ref (He.ga K "is_name"))) (F : FunD K "is_name" "is_name" (defArgs (topS 18)) (defBody (topS 18)) (defScope (topS 18)) [] [] (He.ga K "is_name") fd) : OkAt P w K mg base 1 "is_name" ["thing"] (spK g_is_name) := by
  have go := go_is_name (P := P) (w := w) (K := K) (mg := mg) (base := base) (k := 0) (by decide) v_MOST_LETTERS v_LETTERS r_len r_isinstance r_str r_all
  exact ⟨fd, m, F.kp, def_kind g_is_name F ck_is_name go lenk_is_name loc_is_name fun vs r H Q E h hq => sem_is_name kt vs r H Q E h hq, F.bindsN fun _ _ _ _ _ _ us hl => match us, hl with | [_], _ => rfl⟩
theorem go_is_number {k : Nat} (hk : 1 ≤ k + 1) (v_BEYOND : ∃ t, mg "BEYOND" = some (.int (BEY) t)) (r_isinstance : mg "isinstance" = none) (r_bool : mg "bool" = none) (r_int : mg "int" = none) : GOk P w K mg base k C_is_number ⟨[], [], [.int BEY], []⟩ := by
  obtain ⟨t_BEYOND, w_BEYOND⟩ := v_BEYOND
  refine GOk.of (.nil) (.cons w_BEYOND ⟨_, rfl⟩ (.nil)) (?_) (.nil)
  exact fun x hx => by
    have hx : x = Str.ofString "isinstance" ∨ x = Str.ofString "bool" ∨ x = Str.ofString "int" := by simpa [C_is_number] using hx
    rcases hx with rfl | rfl | rfl
    · exact r_isinstance
    · exact r_bool
    · exact r_int
theorem ok_is_number {fd : FuncData} (kt : KT K) (v_BEYOND : ∃ t, mg "BEYOND" = some (.int (BEY) t)) (r_isinstance : mg "isinstance" = none) (r_bool : mg "bool" = none) (r_int : mg "int" = none) (m : mg "is_number" = some (.ref (He.ga K "is_number"))) (F : FunD K "is_number" "is_number" (defArgs (topS 19)) (defBody (topS 19)) (defScope (topS 19)) [] [] (He.ga K "is_number") fd) : OkAt P w K mg base 1 "is_number" ["thing"] (spK g_is_number) := by
  have go := go_is_number (P := P) (w := w) (K := K) (mg := mg) (base := base) (k := 0) (by decide) v_BEYOND r_isinstance r_bool r_int
  exact ⟨fd, m, F.kp, def_kind g_is_number F ck_is_number go lenk_is_number loc_is_number fun vs r H Q E h hq => sem_is_number kt vs r H Q E h hq, F.bindsN fun _ _ _ _ _ _ us hl => match us, hl with | [_], _ => rfl⟩
theorem go_need_name {k : Nat} (hk : 2 ≤ k + 1) (h_is_name : OkAt P w K mg base 1 "is_name" ["thing"] (spK g_is_name)) (e_BadName : mg "BadName" = some (.ref (He.ga K "BadName"))) (x_BadName : (He.Fa.exc "BadName").ok K = true) : GOk P w K mg base k C_need_name ⟨[(spK g_is_name)], [He.ga K "is_name"], [], [He.ga K "BadName"]⟩ := by
  refine GOk.of (.cons h_is_name (by omega) (.nil)) (.nil) (?_) (.cons e_BadName x_BadName (.nil))
  exact fun x hx => by cases hx
theorem ok_need_name {fd : FuncData} (h_is_name : OkAt P w K mg base 1 "is_name" ["thing"] (spK g_is_name)) (e_BadName : mg "BadName" = some (.ref (He.ga K "BadName"))) (x_BadName : (He.Fa.exc "BadName").ok K = true) (m : mg "need_name" = some (.ref (He.ga K "need_name"))) (F : FunD K "need_name" "need_name" (defArgs (topS 20)) (defBody (topS 20)) (defScope (topS 20)) [] [] (He.ga K "need_name") fd) : OkAt P w K mg base 2 "need_name" ["thing"] (S_need isNameV (He.ga K "BadName")) := by
  have go := go_need_name (P := P) (w := w) (K := K) (mg := mg) (base := base) (k := 1) (by decide) h_is_name e_BadName x_BadName
  exact ⟨fd, m, F.kp, def_ok F ck_need_name (len_need _ _) go fun vs H Q E h => sem_need_name vs H Q E h, F.bindsN fun _ _ _ _ _ _ us hl => match us, hl with | [_], _ => rfl⟩
theorem go_need_number {k : Nat} (hk : 2 ≤ k + 1) (h_is_number : OkAt P w K mg base 1 "is_number" ["thing"] (spK g_is_number)) (e_BadNumber : mg "BadNumber" = some (.ref (He.ga K "BadNumber"))) (x_BadNumber : (He.Fa.exc "BadNumber").ok K = true) : GOk P w K mg base k C_need_number ⟨[(spK g_is_number)], [He.ga K "is_number"], [], [He.ga K "BadNumber"]⟩ := by
  refine GOk.of (.cons h_is_number (by omega) (.nil)) (.nil) (?_) (.cons e_BadNumber x_BadNumber (.nil))
  exact fun x hx => by cases hx
theorem ok_need_number {fd : FuncData} (h_is_number : OkAt P w K mg base 1 "is_number" ["thing"] (spK g_is_number)) (e_BadNumber : mg "BadNumber" = some (.ref (He.ga K "BadNumber"))) (x_BadNumber : (He.Fa.exc "BadNumber").ok K = true) (m : mg "need_number" = some (.ref (He.ga K "need_number"))) (F : FunD K "need_number" "need_number" (defArgs (topS 21)) (defBody (topS 21)) (defScope (topS 21)) [] [] (He.ga K "need_number") fd) : OkAt P w K mg base 2 "need_number" ["thing"] (S_need isNum (He.ga K "BadNumber")) := by
  have go := go_need_number (P := P) (w := w) (K := K) (mg := mg) (base := base) (k := 1) (by decide) h_is_number e_BadNumber x_BadNumber
  exact ⟨fd, m, F.kp, def_ok F ck_need_number (len_need _ _) go fun vs H Q E h => sem_need_number vs H Q E h, F.bindsN fun _ _ _ _ _ _ us hl => match us, hl with | [_], _ => rfl⟩
theorem go_number_text {k : Nat} (hk : 1 ≤ k + 1) (r_str : mg "str" = none) : GOk P w K mg base k C_number_text ⟨[], [], [], []⟩ := by
  refine GOk.of (.nil) (.nil) (?_) (.nil)
  exact fun x hx => by
    have hx : x = Str.ofString "str" := by simpa [C_number_text] using hx
    rcases hx with rfl
    · exact r_str
theorem ok_number_text {fd : FuncData} (r_str : mg "str" = none) (m : mg "number_text" = some (.ref (He.ga K "number_text"))) (F : FunD K "number_text" "number_text" (defArgs (topS 22)) (defBody (topS 22)) (defScope (topS 22)) [] [] (He.ga K "number_text") fd) : OkAt P w K mg base 1 "number_text" ["number"] (spP g_text) := by
  have go := go_number_text (P := P) (w := w) (K := K) (mg := mg) (base := base) (k := 0) (by decide) r_str
  exact ⟨fd, m, F.kp, def_pure g_text F ck_number_text go len_g_text fun vs r H Q E h hq => sem_number_text vs r H Q E h hq, F.bindsN fun _ _ _ _ _ _ us hl => match us, hl with | [_], _ => rfl⟩
theorem go_number_of {k : Nat} (hk : 1 ≤ k + 1) (v_FIGURES : ∃ t, mg "FIGURES" = some (.str FIG t)) (v_MOST_FIGURES : ∃ t, mg "MOST_FIGURES" = some (.int (60) t)) (r_all : mg "all" = none) (r_len : mg "len" = none) (r_int : mg "int" = none) : GOk P w K mg base k C_number_of ⟨[], [], [.str FIG, .int 60], []⟩ := by
  obtain ⟨t_FIGURES, w_FIGURES⟩ := v_FIGURES
  obtain ⟨t_MOST_FIGURES, w_MOST_FIGURES⟩ := v_MOST_FIGURES
  refine GOk.of (.nil) (.cons w_FIGURES ⟨_, rfl⟩ (.cons w_MOST_FIGURES ⟨_, rfl⟩ (.nil))) (?_) (.nil)
  exact fun x hx => by
    have hx : x = Str.ofString "all" ∨ x = Str.ofString "len" ∨ x = Str.ofString "int" := by simpa [C_number_of] using hx
    rcases hx with rfl | rfl | rfl
    · exact r_all
    · exact r_len
    · exact r_int
theorem ok_number_of {fd : FuncData} (v_FIGURES : ∃ t, mg "FIGURES" = some (.str FIG t)) (v_MOST_FIGURES : ∃ t, mg "MOST_FIGURES" = some (.int (60) t)) (r_all : mg "all" = none) (r_len : mg "len" = none) (r_int : mg "int" = none) (m : mg "number_of" = some (.ref (He.ga K "number_of"))) (F : FunD K "number_of" "number_of" (defArgs (topS 23)) (defBody (topS 23)) (defScope (topS 23)) [] [] (He.ga K "number_of") fd) : OkAt P w K mg base 1 "number_of" ["text"] (spP g_number_of) := by
  have go := go_number_of (P := P) (w := w) (K := K) (mg := mg) (base := base) (k := 0) (by decide) v_FIGURES v_MOST_FIGURES r_all r_len r_int
  exact ⟨fd, m, F.kp, def_pure g_number_of F ck_number_of go len_g_number_of fun vs r H Q E h hq => sem_number_of vs r H Q E h hq, F.bindsN fun _ _ _ _ _ _ us hl => match us, hl with | [_], _ => rfl⟩
theorem go_law_mixed {k : Nat} (hk : 1 ≤ k + 1) : GOk P w K mg base k C_law_mixed ⟨[], [], [], []⟩ := by
  refine GOk.of (.nil) (.nil) (?_) (.nil)
  exact fun x hx => by cases hx
theorem ok_law_mixed {fd : FuncData} (m : mg "_law_mixed" = some (.ref (He.ga K "_law_mixed"))) (F : FunD K "_law_mixed" "_law_mixed" (defArgs (topS 25)) (defBody (topS 25)) (defScope (topS 25)) [] [] (He.ga K "_law_mixed") fd) : OkAt P w K mg base 1 "_law_mixed" ["_law_cell", "_law_k"] (spP g_mixed) := by
  have go := go_law_mixed (P := P) (w := w) (K := K) (mg := mg) (base := base) (k := 0) (by decide)
  exact ⟨fd, m, F.kp, def_pure g_mixed F ck_law_mixed go len_g_mixed fun vs r H Q E h hq => sem_mixed vs r H Q E h hq, F.bindsN fun _ _ _ _ _ _ us hl => match us, hl with | [_, _], _ => rfl⟩
theorem go_law_number {k : Nat} (hk : 2 ≤ k + 1) (h_law_mixed : OkAt P w K mg base 1 "_law_mixed" ["_law_cell", "_law_k"] (spP g_mixed)) (r_len : mg "len" = none) : GOk P w K mg base k C_law_number ⟨[(spP g_mixed)], [He.ga K "_law_mixed"], [], []⟩ := by
  refine GOk.of (.cons h_law_mixed (by omega) (.nil)) (.nil) (?_) (.nil)
  exact fun x hx => by
    have hx : x = Str.ofString "len" := by simpa [C_law_number] using hx
    rcases hx with rfl
    · exact r_len
theorem ok_law_number {fd : FuncData} (h_law_mixed : OkAt P w K mg base 1 "_law_mixed" ["_law_cell", "_law_k"] (spP g_mixed)) (r_len : mg "len" = none) (m : mg "_law_number" = some (.ref (He.ga K "_law_number"))) (F : FunD K "_law_number" "_law_number" (defArgs (topS 26)) (defBody (topS 26)) (defScope (topS 26)) [] [] (He.ga K "_law_number") fd) : OkAt P w K mg base 2 "_law_number" ["_law_script", "_law_k"] (spK g_number) := by
  have go := go_law_number (P := P) (w := w) (K := K) (mg := mg) (base := base) (k := 1) (by decide) h_law_mixed r_len
  exact ⟨fd, m, F.kp, def_kind g_number F ck_law_number go lenk_number loc_number fun vs r H Q E h hq => sem_number vs r H Q E h hq, F.bindsN fun _ _ _ _ _ _ us hl => match us, hl with | [_, _], _ => rfl⟩
theorem go_law_kind {k : Nat} (hk : 1 ≤ k + 1) (v_BadName : mg "BadName" = some (.ref (He.ga K "BadName"))) (v_BadNumber : mg "BadNumber" = some (.ref (He.ga K "BadNumber"))) (v_NoThing : mg "NoThing" = some (.ref (He.ga K "NoThing"))) (v_NoTie : mg "NoTie" = some (.ref (He.ga K "NoTie"))) (v_Twice : mg "Twice" = some (.ref (He.ga K "Twice"))) (v_TooMany : mg "TooMany" = some (.ref (He.ga K "TooMany"))) (v_BadWord : mg "BadWord" = some (.ref (He.ga K "BadWord"))) (v_BadQuestion : mg "BadQuestion" = some (.ref (He.ga K "BadQuestion"))) (v_BadPlan : mg "BadPlan" = some (.ref (He.ga K "BadPlan"))) (v_BadLine : mg "BadLine" = some (.ref (He.ga K "BadLine"))) (r_int : mg "int" = none) (r_isinstance : mg "isinstance" = none) (r_ValueError : mg "ValueError" = none) : GOk P w K mg base k C_law_kind ⟨[], [], [.ref (He.ga K "BadName"), .ref (He.ga K "BadNumber"), .ref (He.ga K "NoThing"), .ref (He.ga K "NoTie"), .ref (He.ga K "Twice"), .ref (He.ga K "TooMany"), .ref (He.ga K "BadWord"), .ref (He.ga K "BadQuestion"), .ref (He.ga K "BadPlan"), .ref (He.ga K "BadLine")], []⟩ := by
  refine GOk.of (.nil) (.cons v_BadName rfl (.cons v_BadNumber rfl (.cons v_NoThing rfl (.cons v_NoTie rfl (.cons v_Twice rfl (.cons v_TooMany rfl (.cons v_BadWord rfl (.cons v_BadQuestion rfl (.cons v_BadPlan rfl (.cons v_BadLine rfl (.nil))))))))))) (?_) (.nil)
  exact fun x hx => by
    have hx : x = Str.ofString "int" ∨ x = Str.ofString "isinstance" ∨ x = Str.ofString "ValueError" := by simpa [C_law_kind] using hx
    rcases hx with rfl | rfl | rfl
    · exact r_int
    · exact r_isinstance
    · exact r_ValueError
theorem ok_law_kind {fd : FuncData} (v_BadName : mg "BadName" = some (.ref (He.ga K "BadName"))) (v_BadNumber : mg "BadNumber" = some (.ref (He.ga K "BadNumber"))) (v_NoThing : mg "NoThing" = some (.ref (He.ga K "NoThing"))) (v_NoTie : mg "NoTie" = some (.ref (He.ga K "NoTie"))) (v_Twice : mg "Twice" = some (.ref (He.ga K "Twice"))) (v_TooMany : mg "TooMany" = some (.ref (He.ga K "TooMany"))) (v_BadWord : mg "BadWord" = some (.ref (He.ga K "BadWord"))) (v_BadQuestion : mg "BadQuestion" = some (.ref (He.ga K "BadQuestion"))) (v_BadPlan : mg "BadPlan" = some (.ref (He.ga K "BadPlan"))) (v_BadLine : mg "BadLine" = some (.ref (He.ga K "BadLine"))) (r_int : mg "int" = none) (r_isinstance : mg "isinstance" = none) (r_ValueError : mg "ValueError" = none) (m : mg "_law_kind" = some (.ref (He.ga K "_law_kind"))) (F : FunD K "_law_kind" "_law_kind" (defArgs (topS 27)) (defBody (topS 27)) (defScope (topS 27)) [] [] (He.ga K "_law_kind") fd) : OkAt P w K mg base 1 "_law_kind" ["_law_e"] (S_kind K [He.ga K "BadName", He.ga K "BadNumber", He.ga K "NoThing", He.ga K "NoTie", He.ga K "Twice", He.ga K "TooMany", He.ga K "BadWord", He.ga K "BadQuestion", He.ga K "BadPlan", He.ga K "BadLine"]) := by
  have go := go_law_kind (P := P) (w := w) (K := K) (mg := mg) (base := base) (k := 0) (by decide) v_BadName v_BadNumber v_NoThing v_NoTie v_Twice v_TooMany v_BadWord v_BadQuestion v_BadPlan v_BadLine r_int r_isinstance r_ValueError
  exact ⟨fd, m, F.kp, def_ok F ck_law_kind (len_kind _) go fun vs H Q E h => sem_kind vs H Q E h, F.bindsN fun _ _ _ _ _ _ us hl => match us, hl with | [_], _ => rfl⟩
theorem go_law_whole {k : Nat} (hk : 1 ≤ k + 1) (r_isinstance : mg "isinstance" = none) (r_bool : mg "bool" = none) (r_int : mg "int" = none) : GOk P w K mg base k C_law_whole ⟨[], [], [], []⟩ := by
  refine GOk.of (.nil) (.nil) (?_) (.nil)
  exact fun x hx => by
    have hx : x = Str.ofString "isinstance" ∨ x = Str.ofString "bool" ∨ x = Str.ofString "int" := by simpa [C_law_whole] using hx
    rcases hx with rfl | rfl | rfl
    · exact r_isinstance
    · exact r_bool
    · exact r_int
theorem ok_law_whole {fd : FuncData} (kt : KT K) (r_isinstance : mg "isinstance" = none) (r_bool : mg "bool" = none) (r_int : mg "int" = none) (m : mg "_law_whole" = some (.ref (He.ga K "_law_whole"))) (F : FunD K "_law_whole" "_law_whole" (defArgs (topS 28)) (defBody (topS 28)) (defScope (topS 28)) [] [] (He.ga K "_law_whole") fd) : OkAt P w K mg base 1 "_law_whole" ["_law_thing"] (spP g_whole) := by
  have go := go_law_whole (P := P) (w := w) (K := K) (mg := mg) (base := base) (k := 0) (by decide) r_isinstance r_bool r_int
  exact ⟨fd, m, F.kp, def_pure g_whole F ck_law_whole go len_g_whole fun vs r H Q E h hq => sem_whole kt vs r H Q E h hq, F.bindsN fun _ _ _ _ _ _ us hl => match us, hl with | [_], _ => rfl⟩
theorem go_law_figures {k : Nat} (hk : 1 ≤ k + 1) (r_abs : mg "abs" = none) (r_int : mg "int" = none) : GOk P w K mg base k C_law_figures ⟨[], [], [], []⟩ := by
  refine GOk.of (.nil) (.nil) (?_) (.nil)
  exact fun x hx => by
    have hx : x = Str.ofString "abs" ∨ x = Str.ofString "int" := by simpa [C_law_figures] using hx
    rcases hx with rfl | rfl
    · exact r_abs
    · exact r_int
theorem ok_law_figures {fd : FuncData} (r_abs : mg "abs" = none) (r_int : mg "int" = none) (m : mg "_law_figures" = some (.ref (He.ga K "_law_figures"))) (F : FunD K "_law_figures" "_law_figures" (defArgs (topS 29)) (defBody (topS 29)) (defScope (topS 29)) [] [] (He.ga K "_law_figures") fd) : OkAt P w K mg base 1 "_law_figures" ["_law_number_here"] (spP g_text) := by
  have go := go_law_figures (P := P) (w := w) (K := K) (mg := mg) (base := base) (k := 0) (by decide) r_abs r_int
  exact ⟨fd, m, F.kp, def_pure g_text F ck_law_figures go len_g_text fun vs r H Q E h hq => sem_figs vs r H Q E h hq, F.bindsN fun _ _ _ _ _ _ us hl => match us, hl with | [_], _ => rfl⟩
theorem go_law_read {k : Nat} (hk : 2 ≤ k + 1) (h_law_figures : OkAt P w K mg base 1 "_law_figures" ["_law_number_here"] (spP g_text)) (r_len : mg "len" = none) (r_int : mg "int" = none) : GOk P w K mg base k C_law_read ⟨[(spP g_text)], [He.ga K "_law_figures"], [], []⟩ := by
  refine GOk.of (.cons h_law_figures (by omega) (.nil)) (.nil) (?_) (.nil)
  exact fun x hx => by
    have hx : x = Str.ofString "len" ∨ x = Str.ofString "int" := by simpa [C_law_read] using hx
    rcases hx with rfl | rfl
    · exact r_len
    · exact r_int
theorem ok_law_read {fd : FuncData} (h_law_figures : OkAt P w K mg base 1 "_law_figures" ["_law_number_here"] (spP g_text)) (r_len : mg "len" = none) (r_int : mg "int" = none) (m : mg "_law_read" = some (.ref (He.ga K "_law_read"))) (F : FunD K "_law_read" "_law_read" (defArgs (topS 30)) (defBody (topS 30)) (defScope (topS 30)) [] [] (He.ga K "_law_read") fd) : OkAt P w K mg base 2 "_law_read" ["_law_text"] (spP g_read) := by
  have go := go_law_read (P := P) (w := w) (K := K) (mg := mg) (base := base) (k := 1) (by decide) h_law_figures r_len r_int
  exact ⟨fd, m, F.kp, def_pure g_read F ck_law_read go len_g_read fun vs r H Q E h hq => sem_read hgt vs r H Q E h hq, F.bindsN fun _ _ _ _ _ _ us hl => match us, hl with | [_], _ => rfl⟩
theorem go_law_bent {k : Nat} (hk : 1 ≤ k + 1) (r_len : mg "len" = none) : GOk P w K mg base k C_law_bent ⟨[], [], [], []⟩ := by
  refine GOk.of (.nil) (.nil) (?_) (.nil)
  exact fun x hx => by
    have hx : x = Str.ofString "len" := by simpa [C_law_bent] using hx
    rcases hx with rfl
    · exact r_len
theorem ok_law_bent {fd : FuncData} (r_len : mg "len" = none) (m : mg "_law_bent" = some (.ref (He.ga K "_law_bent"))) (F : FunD K "_law_bent" "_law_bent" (defArgs (topS 31)) (defBody (topS 31)) (defScope (topS 31)) [] [] (He.ga K "_law_bent") fd) : OkAt P w K mg base 1 "_law_bent" ["_law_text", "_law_cell"] (spP g_bent) := by
  have go := go_law_bent (P := P) (w := w) (K := K) (mg := mg) (base := base) (k := 0) (by decide) r_len
  exact ⟨fd, m, F.kp, def_pure g_bent F ck_law_bent go len_g_bent fun vs r H Q E h hq => sem_bent vs r H Q E h hq, F.bindsN fun _ _ _ _ _ _ us hl => match us, hl with | [_, _], _ => rfl⟩
theorem go_law_word {k : Nat} (hk : 2 ≤ k + 1) (h_law_mixed : OkAt P w K mg base 1 "_law_mixed" ["_law_cell", "_law_k"] (spP g_mixed)) (r_range : mg "range" = none) (r_len : mg "len" = none) : GOk P w K mg base k C_law_word ⟨[(spP g_mixed)], [He.ga K "_law_mixed"], [], []⟩ := by
  refine GOk.of (.cons h_law_mixed (by omega) (.nil)) (.nil) (?_) (.nil)
  exact fun x hx => by
    have hx : x = Str.ofString "range" ∨ x = Str.ofString "len" := by simpa [C_law_word] using hx
    rcases hx with rfl | rfl
    · exact r_range
    · exact r_len
theorem ok_law_word {fd : FuncData} (h_law_mixed : OkAt P w K mg base 1 "_law_mixed" ["_law_cell", "_law_k"] (spP g_mixed)) (r_range : mg "range" = none) (r_len : mg "len" = none) (m : mg "_law_word" = some (.ref (He.ga K "_law_word"))) (F : FunD K "_law_word" "_law_word" (defArgs (topS 32)) (defBody (topS 32)) (defScope (topS 32)) [] [] (He.ga K "_law_word") fd) : OkAt P w K mg base 2 "_law_word" ["_law_cell", "_law_k"] (spP g_word) := by
  have go := go_law_word (P := P) (w := w) (K := K) (mg := mg) (base := base) (k := 1) (by decide) h_law_mixed r_range r_len
  exact ⟨fd, m, F.kp, def_pure g_word F ck_law_word go len_g_word fun vs r H Q E h hq => sem_word hgm vs r H Q E h hq, F.bindsN fun _ _ _ _ _ _ us hl => match us, hl with | [_, _], _ => rfl⟩
theorem go_law_is_name {k : Nat} (hk : 1 ≤ k + 1) (r_len : mg "len" = none) : GOk P w K mg base k C_law_is_name ⟨[], [], [], []⟩ := by
  refine GOk.of (.nil) (.nil) (?_) (.nil)
  exact fun x hx => by
    have hx : x = Str.ofString "len" := by simpa [C_law_is_name] using hx
    rcases hx with rfl
    · exact r_len
theorem ok_law_is_name {fd : FuncData} (r_len : mg "len" = none) (m : mg "_law_is_name" = some (.ref (He.ga K "_law_is_name"))) (F : FunD K "_law_is_name" "_law_is_name" (defArgs (topS 33)) (defBody (topS 33)) (defScope (topS 33)) [] [] (He.ga K "_law_is_name") fd) : OkAt P w K mg base 1 "_law_is_name" ["_law_word_here"] (spP g_lname) := by
  have go := go_law_is_name (P := P) (w := w) (K := K) (mg := mg) (base := base) (k := 0) (by decide) r_len
  exact ⟨fd, m, F.kp, def_pure g_lname F ck_law_is_name go len_g_lname fun vs r H Q E h hq => sem_lname vs r H Q E h hq, F.bindsN fun _ _ _ _ _ _ us hl => match us, hl with | [_], _ => rfl⟩
theorem go_law_refused {k : Nat} (hk : 3 ≤ k + 1) (h_need_number : OkAt P w K mg base 2 "need_number" ["thing"] (S_need isNum (He.ga K "BadNumber"))) (h_need_name : OkAt P w K mg base 2 "need_name" ["thing"] (S_need isNameV (He.ga K "BadName"))) (h_law_kind : OkAt P w K mg base 1 "_law_kind" ["_law_e"] (S_kind K [He.ga K "BadName", He.ga K "BadNumber", He.ga K "NoThing", He.ga K "NoTie", He.ga K "Twice", He.ga K "TooMany", He.ga K "BadWord", He.ga K "BadQuestion", He.ga K "BadPlan", He.ga K "BadLine"])) (e_WeaveError : mg "WeaveError" = some (.ref (He.ga K "WeaveError"))) (x_WeaveError : (He.Fa.exc "WeaveError").ok K = true) : GOk P w K mg base k C_law_refused ⟨[(S_need isNum (He.ga K "BadNumber")), (S_need isNameV (He.ga K "BadName")), (S_kind K [He.ga K "BadName", He.ga K "BadNumber", He.ga K "NoThing", He.ga K "NoTie", He.ga K "Twice", He.ga K "TooMany", He.ga K "BadWord", He.ga K "BadQuestion", He.ga K "BadPlan", He.ga K "BadLine"])], [He.ga K "need_number", He.ga K "need_name", He.ga K "_law_kind"], [], [He.ga K "WeaveError"]⟩ := by
  refine GOk.of (.cons h_need_number (by omega) (.cons h_need_name (by omega) (.cons h_law_kind (by omega) (.nil)))) (.nil) (?_) (.cons e_WeaveError x_WeaveError (.nil))
  exact fun x hx => by cases hx
theorem ok_law_refused {fd : FuncData} (rx : RX K [He.ga K "BadName", He.ga K "BadNumber", He.ga K "NoThing", He.ga K "NoTie", He.ga K "Twice", He.ga K "TooMany", He.ga K "BadWord", He.ga K "BadQuestion", He.ga K "BadPlan", He.ga K "BadLine"] (He.ga K "WeaveError") (He.ga K "BadName") (He.ga K "BadNumber")) (h_need_number : OkAt P w K mg base 2 "need_number" ["thing"] (S_need isNum (He.ga K "BadNumber"))) (h_need_name : OkAt P w K mg base 2 "need_name" ["thing"] (S_need isNameV (He.ga K "BadName"))) (h_law_kind : OkAt P w K mg base 1 "_law_kind" ["_law_e"] (S_kind K [He.ga K "BadName", He.ga K "BadNumber", He.ga K "NoThing", He.ga K "NoTie", He.ga K "Twice", He.ga K "TooMany", He.ga K "BadWord", He.ga K "BadQuestion", He.ga K "BadPlan", He.ga K "BadLine"])) (e_WeaveError : mg "WeaveError" = some (.ref (He.ga K "WeaveError"))) (x_WeaveError : (He.Fa.exc "WeaveError").ok K = true) (m : mg "_law_refused" = some (.ref (He.ga K "_law_refused"))) (F : FunD K "_law_refused" "_law_refused" (defArgs (topS 34)) (defBody (topS 34)) (defScope (topS 34)) [] [] (He.ga K "_law_refused") fd) : OkAt P w K mg base 3 "_law_refused" ["_law_which", "_law_thing"] (spK g_refused) := by
  have go := go_law_refused (P := P) (w := w) (K := K) (mg := mg) (base := base) (k := 2) (by decide) h_need_number h_need_name h_law_kind e_WeaveError x_WeaveError
  exact ⟨fd, m, F.kp, def_kind g_refused F ck_law_refused go lenk_refused loc_refused fun vs r H Q E h hq => sem_refused rx vs r H Q E h hq, F.bindsN fun _ _ _ _ _ _ us hl => match us, hl with | [_, _], _ => rfl⟩
theorem go_law_number_right {k : Nat} (hk : 4 ≤ k + 1) (h_number_text : OkAt P w K mg base 1 "number_text" ["number"] (spP g_text)) (h_is_number : OkAt P w K mg base 1 "is_number" ["thing"] (spK g_is_number)) (h_law_figures : OkAt P w K mg base 1 "_law_figures" ["_law_number_here"] (spP g_text)) (h_law_refused : OkAt P w K mg base 3 "_law_refused" ["_law_which", "_law_thing"] (spK g_refused)) (h_is_name : OkAt P w K mg base 1 "is_name" ["thing"] (spK g_is_name)) (r_isinstance : mg "isinstance" = none) (r_str : mg "str" = none) : GOk P w K mg base k C_law_number_right ⟨[(spP g_text), (spK g_is_number), (spP g_text), (spK g_refused), (spK g_is_name)], [He.ga K "number_text", He.ga K "is_number", He.ga K "_law_figures", He.ga K "_law_refused", He.ga K "is_name"], [], []⟩ := by
  refine GOk.of (.cons h_number_text (by omega) (.cons h_is_number (by omega) (.cons h_law_figures (by omega) (.cons h_law_refused (by omega) (.cons h_is_name (by omega) (.nil)))))) (.nil) (?_) (.nil)
  exact fun x hx => by
    have hx : x = Str.ofString "isinstance" ∨ x = Str.ofString "str" := by simpa [C_law_number_right] using hx
    rcases hx with rfl | rfl
    · exact r_isinstance
    · exact r_str
theorem ok_law_number_right {fd : FuncData} (kt : KT K) (h_number_text : OkAt P w K mg base 1 "number_text" ["number"] (spP g_text)) (h_is_number : OkAt P w K mg base 1 "is_number" ["thing"] (spK g_is_number)) (h_law_figures : OkAt P w K mg base 1 "_law_figures" ["_law_number_here"] (spP g_text)) (h_law_refused : OkAt P w K mg base 3 "_law_refused" ["_law_which", "_law_thing"] (spK g_refused)) (h_is_name : OkAt P w K mg base 1 "is_name" ["thing"] (spK g_is_name)) (r_isinstance : mg "isinstance" = none) (r_str : mg "str" = none) (m : mg "_law_number_right" = some (.ref (He.ga K "_law_number_right"))) (F : FunD K "_law_number_right" "_law_number_right" (defArgs (topS 35)) (defBody (topS 35)) (defScope (topS 35)) [] [] (He.ga K "_law_number_right") fd) : OkAt P w K mg base 4 "_law_number_right" ["_law_number_here"] (spP g_nright) := by
  have go := go_law_number_right (P := P) (w := w) (K := K) (mg := mg) (base := base) (k := 3) (by decide) h_number_text h_is_number h_law_figures h_law_refused h_is_name r_isinstance r_str
  exact ⟨fd, m, F.kp, def_pure g_nright F ck_law_number_right go len_g_nright fun vs r H Q E h hq => sem_nright kt hgt hgt hgi hgn hgr0 hgr1 vs r H Q E h hq, F.bindsN fun _ _ _ _ _ _ us hl => match us, hl with | [_], _ => rfl⟩
theorem go_law_text_right {k : Nat} (hk : 3 ≤ k + 1) (h_number_of : OkAt P w K mg base 1 "number_of" ["text"] (spP g_number_of)) (h_law_read : OkAt P w K mg base 2 "_law_read" ["_law_text"] (spP g_read)) (h_law_whole : OkAt P w K mg base 1 "_law_whole" ["_law_thing"] (spP g_whole)) : GOk P w K mg base k C_law_text_right ⟨[(spP g_number_of), (spP g_read), (spP g_whole)], [He.ga K "number_of", He.ga K "_law_read", He.ga K "_law_whole"], [], []⟩ := by
  refine GOk.of (.cons h_number_of (by omega) (.cons h_law_read (by omega) (.cons h_law_whole (by omega) (.nil)))) (.nil) (?_) (.nil)
  exact fun x hx => by cases hx
theorem ok_law_text_right {fd : FuncData} (h_number_of : OkAt P w K mg base 1 "number_of" ["text"] (spP g_number_of)) (h_law_read : OkAt P w K mg base 2 "_law_read" ["_law_text"] (spP g_read)) (h_law_whole : OkAt P w K mg base 1 "_law_whole" ["_law_thing"] (spP g_whole)) (m : mg "_law_text_right" = some (.ref (He.ga K "_law_text_right"))) (F : FunD K "_law_text_right" "_law_text_right" (defArgs (topS 36)) (defBody (topS 36)) (defScope (topS 36)) [] [] (He.ga K "_law_text_right") fd) : OkAt P w K mg base 3 "_law_text_right" ["_law_text"] (spP g_tright) := by
  have go := go_law_text_right (P := P) (w := w) (K := K) (mg := mg) (base := base) (k := 2) (by decide) h_number_of h_law_read h_law_whole
  exact ⟨fd, m, F.kp, def_pure g_tright F ck_law_text_right go len_g_tright fun vs r H Q E h hq => sem_tright hno hrd hgw vs r H Q E h hq, F.bindsN fun _ _ _ _ _ _ us hl => match us, hl with | [_], _ => rfl⟩
theorem go_law_things_right {k : Nat} (hk : 4 ≤ k + 1) (h_law_refused : OkAt P w K mg base 3 "_law_refused" ["_law_which", "_law_thing"] (spK g_refused)) (h_is_number : OkAt P w K mg base 1 "is_number" ["thing"] (spK g_is_number)) (h_is_name : OkAt P w K mg base 1 "is_name" ["thing"] (spK g_is_name)) : GOk P w K mg base k C_law_things_right ⟨[(spK g_refused), (spK g_is_number), (spK g_is_name)], [He.ga K "_law_refused", He.ga K "is_number", He.ga K "is_name"], [], []⟩ := by
  refine GOk.of (.cons h_law_refused (by omega) (.cons h_is_number (by omega) (.cons h_is_name (by omega) (.nil)))) (.nil) (?_) (.nil)
  exact fun x hx => by cases hx
theorem ok_law_things_right {fd : FuncData} (h_law_refused : OkAt P w K mg base 3 "_law_refused" ["_law_which", "_law_thing"] (spK g_refused)) (h_is_number : OkAt P w K mg base 1 "is_number" ["thing"] (spK g_is_number)) (h_is_name : OkAt P w K mg base 1 "is_name" ["thing"] (spK g_is_name)) (m : mg "_law_things_right" = some (.ref (He.ga K "_law_things_right"))) (F : FunD K "_law_things_right" "_law_things_right" (defArgs (topS 37)) (defBody (topS 37)) (defScope (topS 37)) [] [] (He.ga K "_law_things_right") fd) : OkAt P w K mg base 4 "_law_things_right" ["_law_cell", "_law_number_here"] (spP g_things) := by
  have go := go_law_things_right (P := P) (w := w) (K := K) (mg := mg) (base := base) (k := 3) (by decide) h_law_refused h_is_number h_is_name
  exact ⟨fd, m, F.kp, def_pure g_things F ck_law_things_right go len_g_things fun vs r H Q E h hq => sem_things hgi hgn hgr0 hgr1 vs r H Q E h hq, F.bindsN fun _ _ _ _ _ _ us hl => match us, hl with | [_, _], _ => rfl⟩
theorem go_law {k : Nat} (hk : 5 ≤ k + 1) (h_law_number : OkAt P w K mg base 2 "_law_number" ["_law_script", "_law_k"] (spK g_number)) (h_law_bent : OkAt P w K mg base 1 "_law_bent" ["_law_text", "_law_cell"] (spP g_bent)) (h_law_figures : OkAt P w K mg base 1 "_law_figures" ["_law_number_here"] (spP g_text)) (h_law_word : OkAt P w K mg base 2 "_law_word" ["_law_cell", "_law_k"] (spP g_word)) (h_law_text_right : OkAt P w K mg base 3 "_law_text_right" ["_law_text"] (spP g_tright)) (h_law_number_right : OkAt P w K mg base 4 "_law_number_right" ["_law_number_here"] (spP g_nright)) (h_law_things_right : OkAt P w K mg base 4 "_law_things_right" ["_law_cell", "_law_number_here"] (spP g_things)) (h_law_is_name : OkAt P w K mg base 1 "_law_is_name" ["_law_word_here"] (spP g_lname)) (h_law_refused : OkAt P w K mg base 3 "_law_refused" ["_law_which", "_law_thing"] (spK g_refused)) (h_is_name : OkAt P w K mg base 1 "is_name" ["thing"] (spK g_is_name)) (h_number_of : OkAt P w K mg base 1 "number_of" ["text"] (spP g_number_of)) (r_range : mg "range" = none) (r_min : mg "min" = none) (r_len : mg "len" = none) : GOk P w K mg base k C_law ⟨[(spK g_number), (spP g_bent), (spP g_text), (spP g_word), (spP g_tright), (spP g_nright), (spP g_things), (spP g_lname), (spK g_refused), (spK g_is_name), (spP g_number_of)], [He.ga K "_law_number", He.ga K "_law_bent", He.ga K "_law_figures", He.ga K "_law_word", He.ga K "_law_text_right", He.ga K "_law_number_right", He.ga K "_law_things_right", He.ga K "_law_is_name", He.ga K "_law_refused", He.ga K "is_name", He.ga K "number_of"], [], []⟩ := by
  refine GOk.of (.cons h_law_number (by omega) (.cons h_law_bent (by omega) (.cons h_law_figures (by omega) (.cons h_law_word (by omega) (.cons h_law_text_right (by omega) (.cons h_law_number_right (by omega) (.cons h_law_things_right (by omega) (.cons h_law_is_name (by omega) (.cons h_law_refused (by omega) (.cons h_is_name (by omega) (.cons h_number_of (by omega) (.nil)))))))))))) (.nil) (?_) (.nil)
  exact fun x hx => by
    have hx : x = Str.ofString "range" ∨ x = Str.ofString "min" ∨ x = Str.ofString "len" := by simpa [C_law] using hx
    rcases hx with rfl | rfl | rfl
    · exact r_range
    · exact r_min
    · exact r_len
theorem ok_law {fd : FuncData} (h_law_number : OkAt P w K mg base 2 "_law_number" ["_law_script", "_law_k"] (spK g_number)) (h_law_bent : OkAt P w K mg base 1 "_law_bent" ["_law_text", "_law_cell"] (spP g_bent)) (h_law_figures : OkAt P w K mg base 1 "_law_figures" ["_law_number_here"] (spP g_text)) (h_law_word : OkAt P w K mg base 2 "_law_word" ["_law_cell", "_law_k"] (spP g_word)) (h_law_text_right : OkAt P w K mg base 3 "_law_text_right" ["_law_text"] (spP g_tright)) (h_law_number_right : OkAt P w K mg base 4 "_law_number_right" ["_law_number_here"] (spP g_nright)) (h_law_things_right : OkAt P w K mg base 4 "_law_things_right" ["_law_cell", "_law_number_here"] (spP g_things)) (h_law_is_name : OkAt P w K mg base 1 "_law_is_name" ["_law_word_here"] (spP g_lname)) (h_law_refused : OkAt P w K mg base 3 "_law_refused" ["_law_which", "_law_thing"] (spK g_refused)) (h_is_name : OkAt P w K mg base 1 "is_name" ["thing"] (spK g_is_name)) (h_number_of : OkAt P w K mg base 1 "number_of" ["text"] (spP g_number_of)) (r_range : mg "range" = none) (r_min : mg "min" = none) (r_len : mg "len" = none) (m : mg "law" = some (.ref (He.ga K "law"))) (F : FunD K "law" "law" (defArgs (topS 38)) (defBody (topS 38)) (defScope (topS 38)) [] [] (He.ga K "law") fd) : OkAt P w K mg base 5 "law" ["_law_script"] S_law := by
  have go := go_law (P := P) (w := w) (K := K) (mg := mg) (base := base) (k := 4) (by decide) h_law_number h_law_bent h_law_figures h_law_word h_law_text_right h_law_number_right h_law_things_right h_law_is_name h_law_refused h_is_name h_number_of r_range r_min r_len
  exact ⟨fd, m, F.kp, def_ok F ck_law len_law go fun vs H Q E h => sem_law lx vs H Q E h, F.bindsN fun _ _ _ _ _ _ us hl => match us, hl with | [_], _ => rfl⟩
end
def fas0 : List He.Fa := [.glo "is_name", .glo "is_number", .glo "need_name", .glo "need_number", .glo "number_text", .glo "number_of", .glo "_law_mixed", .glo "_law_number", .glo "_law_kind", .glo "_law_whole", .glo "_law_figures", .glo "_law_read"]
def fas1 : List He.Fa := [.glo "_law_bent", .glo "_law_word", .glo "_law_is_name", .glo "_law_refused", .glo "_law_number_right", .glo "_law_text_right", .glo "_law_things_right", .glo "law", .glo "WeaveError", .glo "BadName", .glo "BadNumber", .glo "NoThing"]
def fas2 : List He.Fa := [.glo "NoTie", .glo "Twice", .glo "TooMany", .glo "BadWord", .glo "BadQuestion", .glo "BadPlan", .glo "BadLine", .exc "WeaveError", .exc "BadName", .exc "BadNumber", .free "len", .free "isinstance"]
def fas3 : List He.Fa := [.free "str", .free "all", .int "MOST_LETTERS" (8), .str "LETTERS" LET, .free "bool", .free "int", .int "BEYOND" (BEY), .str "FIGURES" FIG, .int "MOST_FIGURES" (60), .free "ValueError", .free "abs", .free "range"]
def fas4 : List He.Fa := [.free "min", .exm "BadName" "WeaveError" true, .exm "BadNumber" "WeaveError" true]
def fas : List He.Fa := fas0 ++ fas1 ++ fas2 ++ fas3 ++ fas4
def dfs0 : List He.DefD := [⟨("is_name", none), "is_name", "is_name", defArgs (topS 18), defBody (topS 18), defScope (topS 18), [], []⟩, ⟨("is_number", none), "is_number", "is_number", defArgs (topS 19), defBody (topS 19), defScope (topS 19), [], []⟩, ⟨("need_name", none), "need_name", "need_name", defArgs (topS 20), defBody (topS 20), defScope (topS 20), [], []⟩, ⟨("need_number", none), "need_number", "need_number", defArgs (topS 21), defBody (topS 21), defScope (topS 21), [], []⟩, ⟨("number_text", none), "number_text", "number_text", defArgs (topS 22), defBody (topS 22), defScope (topS 22), [], []⟩, ⟨("number_of", none), "number_of", "number_of", defArgs (topS 23), defBody (topS 23), defScope (topS 23), [], []⟩]
def dfs1 : List He.DefD := [⟨("_law_mixed", none), "_law_mixed", "_law_mixed", defArgs (topS 25), defBody (topS 25), defScope (topS 25), [], []⟩, ⟨("_law_number", none), "_law_number", "_law_number", defArgs (topS 26), defBody (topS 26), defScope (topS 26), [], []⟩, ⟨("_law_kind", none), "_law_kind", "_law_kind", defArgs (topS 27), defBody (topS 27), defScope (topS 27), [], []⟩, ⟨("_law_whole", none), "_law_whole", "_law_whole", defArgs (topS 28), defBody (topS 28), defScope (topS 28), [], []⟩, ⟨("_law_figures", none), "_law_figures", "_law_figures", defArgs (topS 29), defBody (topS 29), defScope (topS 29), [], []⟩, ⟨("_law_read", none), "_law_read", "_law_read", defArgs (topS 30), defBody (topS 30), defScope (topS 30), [], []⟩]
def dfs2 : List He.DefD := [⟨("_law_bent", none), "_law_bent", "_law_bent", defArgs (topS 31), defBody (topS 31), defScope (topS 31), [], []⟩, ⟨("_law_word", none), "_law_word", "_law_word", defArgs (topS 32), defBody (topS 32), defScope (topS 32), [], []⟩, ⟨("_law_is_name", none), "_law_is_name", "_law_is_name", defArgs (topS 33), defBody (topS 33), defScope (topS 33), [], []⟩, ⟨("_law_refused", none), "_law_refused", "_law_refused", defArgs (topS 34), defBody (topS 34), defScope (topS 34), [], []⟩, ⟨("_law_number_right", none), "_law_number_right", "_law_number_right", defArgs (topS 35), defBody (topS 35), defScope (topS 35), [], []⟩, ⟨("_law_text_right", none), "_law_text_right", "_law_text_right", defArgs (topS 36), defBody (topS 36), defScope (topS 36), [], []⟩]
def dfs3 : List He.DefD := [⟨("_law_things_right", none), "_law_things_right", "_law_things_right", defArgs (topS 37), defBody (topS 37), defScope (topS 37), [], []⟩, ⟨("law", none), "law", "law", defArgs (topS 38), defBody (topS 38), defScope (topS 38), [], []⟩]
def dfs : List He.DefD := dfs0 ++ dfs1 ++ dfs2 ++ dfs3
def ktB (K : PySem.W.Frag) : Bool := kB K (.type "str") (.type "str") true && (kB K (.type "NoneType") (.type "str") false && (kB K (.type "bool") (.type "str") false && (kB K (.type "int") (.type "str") false && (kB K (.type "list") (.type "str") false && (kB K (.type "tuple") (.type "str") false && (kB K (.type "dict") (.type "str") false && (kB K (.type "str") (.type "int") false && (kB K (.type "NoneType") (.type "int") false && (kB K (.type "bool") (.type "int") true && (kB K (.type "int") (.type "int") true && (kB K (.type "list") (.type "int") false && (kB K (.type "tuple") (.type "int") false && (kB K (.type "dict") (.type "int") false && (kB K (.type "bool") (.type "bool") true && (kB K (.type "int") (.type "bool") false)))))))))))))))
theorem ktB_ok {K : PySem.W.Frag} (h : ktB K = true) : KT K := by
  unfold ktB at h
  simp only [Bool.and_eq_true] at h
  obtain ⟨h0, h1, h2, h3, h4, h5, h6, h7, h8, h9, h10, h11, h12, h13, h14, h15⟩ := h
  exact ⟨kB_ok h0, kB_ok h1, kB_ok h2, kB_ok h3, kB_ok h4, kB_ok h5, kB_ok h6, kB_ok h7, kB_ok h8, kB_ok h9, kB_ok h10, kB_ok h11, kB_ok h12, kB_ok h13, kB_ok h14, kB_ok h15⟩
def kkB (K : PySem.W.Frag) (B : Addr) (b : Bool) : Bool := excB K B && (kB K (.ref B) (.ref (He.ga K "BadName")) b && (kB K (.ref B) (.ref (He.ga K "BadNumber")) (!b) && (kB K (.ref B) (.ref (He.ga K "NoThing")) false && (kB K (.ref B) (.ref (He.ga K "NoTie")) false && (kB K (.ref B) (.ref (He.ga K "Twice")) false && (kB K (.ref B) (.ref (He.ga K "TooMany")) false && (kB K (.ref B) (.ref (He.ga K "BadWord")) false && (kB K (.ref B) (.ref (He.ga K "BadQuestion")) false && (kB K (.ref B) (.ref (He.ga K "BadPlan")) false && (kB K (.ref B) (.ref (He.ga K "BadLine")) false && (kB K (.ref B) (.type "ValueError") true)))))))))))
theorem kkB_ok {K : PySem.W.Frag} {B : Addr} {b : Bool} (h : kkB K B b = true) : KK K [He.ga K "BadName", He.ga K "BadNumber", He.ga K "NoThing", He.ga K "NoTie", He.ga K "Twice", He.ga K "TooMany", He.ga K "BadWord", He.ga K "BadQuestion", He.ga K "BadPlan", He.ga K "BadLine"] B b := by
  unfold kkB at h
  simp only [Bool.and_eq_true] at h
  obtain ⟨h0, h1, h2, h3, h4, h5, h6, h7, h8, h9, h10, hv⟩ := h
  refine ⟨excB_ok h0, fun x e => ?_, fun x e => ?_, fun i x l e => ?_, kB_ok hv⟩
  · cases e; exact kB_ok h1
  · cases e; exact kB_ok h2
  · match i, l, e with
    | 2, _, e => cases e; exact kB_ok h3
    | 3, _, e => cases e; exact kB_ok h4
    | 4, _, e => cases e; exact kB_ok h5
    | 5, _, e => cases e; exact kB_ok h6
    | 6, _, e => cases e; exact kB_ok h7
    | 7, _, e => cases e; exact kB_ok h8
    | 8, _, e => cases e; exact kB_ok h9
    | 9, _, e => cases e; exact kB_ok h10
    | n + 10, _, e => cases e
def exK (K : PySem.W.Frag) : Bool := ktB K && (kkB K (He.ga K "BadName") true && (kkB K (He.ga K "BadNumber") false && noListB K))
def names0 : List PySem.Str := [PySem.Str.ofString "WeaveError", PySem.Str.ofString "BadName", PySem.Str.ofString "BadNumber", PySem.Str.ofString "NoThing", PySem.Str.ofString "NoTie", PySem.Str.ofString "Twice", PySem.Str.ofString "TooMany", PySem.Str.ofString "BadWord", PySem.Str.ofString "BadQuestion", PySem.Str.ofString "BadPlan", PySem.Str.ofString "BadLine", PySem.Str.ofString "LETTERS"]
def names1 : List PySem.Str := [PySem.Str.ofString "FIGURES", PySem.Str.ofString "MOST_LETTERS", PySem.Str.ofString "MOST_FIGURES", PySem.Str.ofString "BEYOND", PySem.Str.ofString "is_name", PySem.Str.ofString "is_number", PySem.Str.ofString "need_name", PySem.Str.ofString "need_number", PySem.Str.ofString "number_text", PySem.Str.ofString "number_of", PySem.Str.ofString "_law_mixed", PySem.Str.ofString "_law_number"]
def names2 : List PySem.Str := [PySem.Str.ofString "_law_kind", PySem.Str.ofString "_law_whole", PySem.Str.ofString "_law_figures", PySem.Str.ofString "_law_read", PySem.Str.ofString "_law_bent", PySem.Str.ofString "_law_word", PySem.Str.ofString "_law_is_name", PySem.Str.ofString "_law_refused", PySem.Str.ofString "_law_number_right", PySem.Str.ofString "_law_text_right", PySem.Str.ofString "_law_things_right"]
def names : List PySem.Str := names0 ++ names1 ++ names2
abbrev R : PySem.W.OpenRow := PySem.W.OpenLaw.row PySem.Challenge.rw_askweave_k01_words
abbrev hk : PySem.W.Hook := He.hookX 4 fas dfs [] [] exK
noncomputable def ob (s : PySem.W.SharedT) : He.AlX := He.obsX 4 fas dfs [] [] exK (HandSHeadRun.getT s)
theorem ob_eq (s : PySem.W.SharedT) : ob s = hk.obs s.abs := He.obsX_eq (HandSHeadRun.getT_eq s)
theorem run (w : World) : HandSHeadRun.RunEq R (PySem.W.view R.prog [38]) hk ob 3500 names w := by
  intro os
  kernel_rfl

theorem facts {P : Program} {w : World} {K : PySem.W.Frag} {h : Heap} {mg : Str → Option Value} {f : Addr} (X : K.In h) (G : h.Ns mainGlobals mg) (hfa : mg ("law" : Str) = some (.ref f)) (cx : He.SaysX fas dfs [] [] exK w h K) :
    ∃ fd : FuncData, (∀ (s : Shared) (v : Value), BindsTo s fd ⟨[v], []⟩ [("_law_script", v)]) ∧ noListB K = true ∧ ∀ base : Heap, K.In base → base.Ns mainGlobals mg → FnOk P w K mg base CX0 5 f fd ["_law_script"] S_law := by
  have c : He.SaysD fas dfs K := cx.t.d
  have m1 := cx.more
  unfold exK at m1
  simp only [Bool.and_eq_true] at m1
  obtain ⟨k1, k2, k3, k4⟩ := m1
  have kt := ktB_ok k1
  have rx : RX K [He.ga K "BadName", He.ga K "BadNumber", He.ga K "NoThing", He.ga K "NoTie", He.ga K "Twice", He.ga K "TooMany", He.ga K "BadWord", He.ga K "BadQuestion", He.ga K "BadPlan", He.ga K "BadLine"] (He.ga K "WeaveError") (He.ga K "BadName") (He.ga K "BadNumber") := ⟨kkB_ok k2, kkB_ok k3, He.exm_ok (c.fact 49 (f := .exm "BadName" "WeaveError" true) rfl), He.exm_ok (c.fact 50 (f := .exm "BadNumber" "WeaveError" true) rfl)⟩
  have m_is_name := He.glo_ok X G (c.fact 0 (f := .glo "is_name") rfl)
  have m_is_number := He.glo_ok X G (c.fact 1 (f := .glo "is_number") rfl)
  have m_need_name := He.glo_ok X G (c.fact 2 (f := .glo "need_name") rfl)
  have m_need_number := He.glo_ok X G (c.fact 3 (f := .glo "need_number") rfl)
  have m_number_text := He.glo_ok X G (c.fact 4 (f := .glo "number_text") rfl)
  have m_number_of := He.glo_ok X G (c.fact 5 (f := .glo "number_of") rfl)
  have m_law_mixed := He.glo_ok X G (c.fact 6 (f := .glo "_law_mixed") rfl)
  have m_law_number := He.glo_ok X G (c.fact 7 (f := .glo "_law_number") rfl)
  have m_law_kind := He.glo_ok X G (c.fact 8 (f := .glo "_law_kind") rfl)
  have m_law_whole := He.glo_ok X G (c.fact 9 (f := .glo "_law_whole") rfl)
  have m_law_figures := He.glo_ok X G (c.fact 10 (f := .glo "_law_figures") rfl)
  have m_law_read := He.glo_ok X G (c.fact 11 (f := .glo "_law_read") rfl)
  have m_law_bent := He.glo_ok X G (c.fact 12 (f := .glo "_law_bent") rfl)
  have m_law_word := He.glo_ok X G (c.fact 13 (f := .glo "_law_word") rfl)
  have m_law_is_name := He.glo_ok X G (c.fact 14 (f := .glo "_law_is_name") rfl)
  have m_law_refused := He.glo_ok X G (c.fact 15 (f := .glo "_law_refused") rfl)
  have m_law_number_right := He.glo_ok X G (c.fact 16 (f := .glo "_law_number_right") rfl)
  have m_law_text_right := He.glo_ok X G (c.fact 17 (f := .glo "_law_text_right") rfl)
  have m_law_things_right := He.glo_ok X G (c.fact 18 (f := .glo "_law_things_right") rfl)
  have m_law := He.glo_ok X G (c.fact 19 (f := .glo "law") rfl)
  have m_WeaveError := He.glo_ok X G (c.fact 20 (f := .glo "WeaveError") rfl)
  have m_BadName := He.glo_ok X G (c.fact 21 (f := .glo "BadName") rfl)
  have m_BadNumber := He.glo_ok X G (c.fact 22 (f := .glo "BadNumber") rfl)
  have m_NoThing := He.glo_ok X G (c.fact 23 (f := .glo "NoThing") rfl)
  have m_NoTie := He.glo_ok X G (c.fact 24 (f := .glo "NoTie") rfl)
  have m_Twice := He.glo_ok X G (c.fact 25 (f := .glo "Twice") rfl)
  have m_TooMany := He.glo_ok X G (c.fact 26 (f := .glo "TooMany") rfl)
  have m_BadWord := He.glo_ok X G (c.fact 27 (f := .glo "BadWord") rfl)
  have m_BadQuestion := He.glo_ok X G (c.fact 28 (f := .glo "BadQuestion") rfl)
  have m_BadPlan := He.glo_ok X G (c.fact 29 (f := .glo "BadPlan") rfl)
  have m_BadLine := He.glo_ok X G (c.fact 30 (f := .glo "BadLine") rfl)
  have x_WeaveError : (He.Fa.exc "WeaveError").ok K = true := c.fact 31 rfl
  have x_BadName : (He.Fa.exc "BadName").ok K = true := c.fact 32 rfl
  have x_BadNumber : (He.Fa.exc "BadNumber").ok K = true := c.fact 33 rfl
  have r_len := He.free_ok X G (c.fact 34 (f := .free "len") rfl)
  have r_isinstance := He.free_ok X G (c.fact 35 (f := .free "isinstance") rfl)
  have r_str := He.free_ok X G (c.fact 36 (f := .free "str") rfl)
  have r_all := He.free_ok X G (c.fact 37 (f := .free "all") rfl)
  have v_MOST_LETTERS := He.int_ok X G (c.fact 38 (f := .int "MOST_LETTERS" (8)) rfl)
  have v_LETTERS := He.str_ok X G (c.fact 39 (f := .str "LETTERS" LET) rfl)
  have r_bool := He.free_ok X G (c.fact 40 (f := .free "bool") rfl)
  have r_int := He.free_ok X G (c.fact 41 (f := .free "int") rfl)
  have v_BEYOND := He.int_ok X G (c.fact 42 (f := .int "BEYOND" (BEY)) rfl)
  have v_FIGURES := He.str_ok X G (c.fact 43 (f := .str "FIGURES" FIG) rfl)
  have v_MOST_FIGURES := He.int_ok X G (c.fact 44 (f := .int "MOST_FIGURES" (60)) rfl)
  have r_ValueError := He.free_ok X G (c.fact 45 (f := .free "ValueError") rfl)
  have r_abs := He.free_ok X G (c.fact 46 (f := .free "abs") rfl)
  have r_range := He.free_ok X G (c.fact 47 (f := .free "range") rfl)
  have r_min := He.free_ok X G (c.fact 48 (f := .free "min") rfl)
  obtain ⟨fd_is_name, F_is_name⟩ := c.def_ 0 (d := ⟨("is_name", none), "is_name", "is_name", defArgs (topS 18), defBody (topS 18), defScope (topS 18), [], []⟩) rfl
  obtain ⟨fd_is_number, F_is_number⟩ := c.def_ 1 (d := ⟨("is_number", none), "is_number", "is_number", defArgs (topS 19), defBody (topS 19), defScope (topS 19), [], []⟩) rfl
  obtain ⟨fd_need_name, F_need_name⟩ := c.def_ 2 (d := ⟨("need_name", none), "need_name", "need_name", defArgs (topS 20), defBody (topS 20), defScope (topS 20), [], []⟩) rfl
  obtain ⟨fd_need_number, F_need_number⟩ := c.def_ 3 (d := ⟨("need_number", none), "need_number", "need_number", defArgs (topS 21), defBody (topS 21), defScope (topS 21), [], []⟩) rfl
  obtain ⟨fd_number_text, F_number_text⟩ := c.def_ 4 (d := ⟨("number_text", none), "number_text", "number_text", defArgs (topS 22), defBody (topS 22), defScope (topS 22), [], []⟩) rfl
  obtain ⟨fd_number_of, F_number_of⟩ := c.def_ 5 (d := ⟨("number_of", none), "number_of", "number_of", defArgs (topS 23), defBody (topS 23), defScope (topS 23), [], []⟩) rfl
  obtain ⟨fd_law_mixed, F_law_mixed⟩ := c.def_ 6 (d := ⟨("_law_mixed", none), "_law_mixed", "_law_mixed", defArgs (topS 25), defBody (topS 25), defScope (topS 25), [], []⟩) rfl
  obtain ⟨fd_law_number, F_law_number⟩ := c.def_ 7 (d := ⟨("_law_number", none), "_law_number", "_law_number", defArgs (topS 26), defBody (topS 26), defScope (topS 26), [], []⟩) rfl
  obtain ⟨fd_law_kind, F_law_kind⟩ := c.def_ 8 (d := ⟨("_law_kind", none), "_law_kind", "_law_kind", defArgs (topS 27), defBody (topS 27), defScope (topS 27), [], []⟩) rfl
  obtain ⟨fd_law_whole, F_law_whole⟩ := c.def_ 9 (d := ⟨("_law_whole", none), "_law_whole", "_law_whole", defArgs (topS 28), defBody (topS 28), defScope (topS 28), [], []⟩) rfl
  obtain ⟨fd_law_figures, F_law_figures⟩ := c.def_ 10 (d := ⟨("_law_figures", none), "_law_figures", "_law_figures", defArgs (topS 29), defBody (topS 29), defScope (topS 29), [], []⟩) rfl
  obtain ⟨fd_law_read, F_law_read⟩ := c.def_ 11 (d := ⟨("_law_read", none), "_law_read", "_law_read", defArgs (topS 30), defBody (topS 30), defScope (topS 30), [], []⟩) rfl
  obtain ⟨fd_law_bent, F_law_bent⟩ := c.def_ 12 (d := ⟨("_law_bent", none), "_law_bent", "_law_bent", defArgs (topS 31), defBody (topS 31), defScope (topS 31), [], []⟩) rfl
  obtain ⟨fd_law_word, F_law_word⟩ := c.def_ 13 (d := ⟨("_law_word", none), "_law_word", "_law_word", defArgs (topS 32), defBody (topS 32), defScope (topS 32), [], []⟩) rfl
  obtain ⟨fd_law_is_name, F_law_is_name⟩ := c.def_ 14 (d := ⟨("_law_is_name", none), "_law_is_name", "_law_is_name", defArgs (topS 33), defBody (topS 33), defScope (topS 33), [], []⟩) rfl
  obtain ⟨fd_law_refused, F_law_refused⟩ := c.def_ 15 (d := ⟨("_law_refused", none), "_law_refused", "_law_refused", defArgs (topS 34), defBody (topS 34), defScope (topS 34), [], []⟩) rfl
  obtain ⟨fd_law_number_right, F_law_number_right⟩ := c.def_ 16 (d := ⟨("_law_number_right", none), "_law_number_right", "_law_number_right", defArgs (topS 35), defBody (topS 35), defScope (topS 35), [], []⟩) rfl
  obtain ⟨fd_law_text_right, F_law_text_right⟩ := c.def_ 17 (d := ⟨("_law_text_right", none), "_law_text_right", "_law_text_right", defArgs (topS 36), defBody (topS 36), defScope (topS 36), [], []⟩) rfl
  obtain ⟨fd_law_things_right, F_law_things_right⟩ := c.def_ 18 (d := ⟨("_law_things_right", none), "_law_things_right", "_law_things_right", defArgs (topS 37), defBody (topS 37), defScope (topS 37), [], []⟩) rfl
  obtain ⟨fd_law, F_law⟩ := c.def_ 19 (d := ⟨("law", none), "law", "law", defArgs (topS 38), defBody (topS 38), defScope (topS 38), [], []⟩) rfl
  have e := hfa.symm.trans m_law
  cases e
  have bA := FunD.bindsA (ps := ["_law_script"]) F_law fun _ _ _ _ _ _ us hl => match us, hl with | [_], _ => rfl
  refine ⟨fd_law, fun s v => bA s [v] rfl, k4, fun base _ _ => ?_⟩
  have ok_is_name' := ok_is_name (P := P) (w := w) (base := base) kt v_MOST_LETTERS v_LETTERS r_len r_isinstance r_str r_all m_is_name F_is_name
  have ok_is_number' := ok_is_number (P := P) (w := w) (base := base) kt v_BEYOND r_isinstance r_bool r_int m_is_number F_is_number
  have ok_need_name' := ok_need_name (P := P) (w := w) (base := base) ok_is_name' m_BadName x_BadName m_need_name F_need_name
  have ok_need_number' := ok_need_number (P := P) (w := w) (base := base) ok_is_number' m_BadNumber x_BadNumber m_need_number F_need_number
  have ok_number_text' := ok_number_text (P := P) (w := w) (base := base) r_str m_number_text F_number_text
  have ok_number_of' := ok_number_of (P := P) (w := w) (base := base) v_FIGURES v_MOST_FIGURES r_all r_len r_int m_number_of F_number_of
  have ok_law_mixed' := ok_law_mixed (P := P) (w := w) (base := base) m_law_mixed F_law_mixed
  have ok_law_number' := ok_law_number (P := P) (w := w) (base := base) ok_law_mixed' r_len m_law_number F_law_number
  have ok_law_kind' := ok_law_kind (P := P) (w := w) (base := base) m_BadName m_BadNumber m_NoThing m_NoTie m_Twice m_TooMany m_BadWord m_BadQuestion m_BadPlan m_BadLine r_int r_isinstance r_ValueError m_law_kind F_law_kind
  have ok_law_whole' := ok_law_whole (P := P) (w := w) (base := base) kt r_isinstance r_bool r_int m_law_whole F_law_whole
  have ok_law_figures' := ok_law_figures (P := P) (w := w) (base := base) r_abs r_int m_law_figures F_law_figures
  have ok_law_read' := ok_law_read (P := P) (w := w) (base := base) ok_law_figures' r_len r_int m_law_read F_law_read
  have ok_law_bent' := ok_law_bent (P := P) (w := w) (base := base) r_len m_law_bent F_law_bent
  have ok_law_word' := ok_law_word (P := P) (w := w) (base := base) ok_law_mixed' r_range r_len m_law_word F_law_word
  have ok_law_is_name' := ok_law_is_name (P := P) (w := w) (base := base) r_len m_law_is_name F_law_is_name
  have ok_law_refused' := ok_law_refused (P := P) (w := w) (base := base) rx ok_need_number' ok_need_name' ok_law_kind' m_WeaveError x_WeaveError m_law_refused F_law_refused
  have ok_law_number_right' := ok_law_number_right (P := P) (w := w) (base := base) kt ok_number_text' ok_is_number' ok_law_figures' ok_law_refused' ok_is_name' r_isinstance r_str m_law_number_right F_law_number_right
  have ok_law_text_right' := ok_law_text_right (P := P) (w := w) (base := base) ok_number_of' ok_law_read' ok_law_whole' m_law_text_right F_law_text_right
  have ok_law_things_right' := ok_law_things_right (P := P) (w := w) (base := base) ok_law_refused' ok_is_number' ok_is_name' m_law_things_right F_law_things_right
  have go := go_law (P := P) (w := w) (K := K) (mg := mg) (base := base) (k := 4) (by decide) ok_law_number' ok_law_bent' ok_law_figures' ok_law_word' ok_law_text_right' ok_law_number_right' ok_law_things_right' ok_law_is_name' ok_law_refused' ok_is_name' ok_number_of' r_range r_min r_len
  exact FnOk.cx0 (def_ok F_law ck_law len_law go fun vs H Q E h => sem_law lx vs H Q E h) fun vs H Q E h => h
end K01
open PySem PySem.W PySem.Calls PyProof.Rows in
theorem PySem.Challenge.cw_askweave_k01_words_holds : PySem.Challenge.rw_askweave_k01_words.Holds := by
  w_on; o_law
  refine HandSHeadRun.head_any (r := OpenLaw.row PySem.Challenge.rw_askweave_k01_words) (q := view (OpenLaw.row PySem.Challenge.rw_askweave_k01_words).prog [38]) (H := K01.hk) (ob := K01.ob) (M := 3500) (loose := K01.names) (d := HandSHeadRun.topDef (OpenLaw.row PySem.Challenge.rw_askweave_k01_words).prog 38) (kwd := []) K01.ob_eq
    (by kernel_rfl) (fun s => by kernel_rfl) K01.run (by kernel_rfl) (by kernel_rfl) (by kernel_rfl) (by rfl) (by first | assumption | decide +kernel) (by decide +kernel) ⟨rfl, rfl, rfl, rfl, rfl, by decide +kernel⟩ ?hw ?hc
  case hw => w_witness2
  case hc =>
    refine L2.walk_ofE (l := PySem.Challenge.rw_askweave_k01_words) (n := 63) (k := 5) (x := "_law_script") (CX := L2.CX0) rfl (by decide) (by kernel_rfl) ⟨rfl, by decide, by decide⟩ ?F (fun _ _ _ _ z => z)
    intro w mg fa h Y G hmg0
    obtain ⟨K, KX, c⟩ := Y
    have hmg : mg ("law" : PySem.Str) = some (.ref fa) := by
      have e : (HandSHeadRun.topDef (OpenLaw.row PySem.Challenge.rw_askweave_k01_words).prog 38).name = ("law" : PySem.Str) := by kernel_rfl
      rw [← e]
      exact hmg0
    obtain ⟨fd, hb, nl, hF⟩ := K01.facts (P := (PySem.Challenge.rw_askweave_k01_words).prog) (w := w) KX G hmg c
    refine ⟨K, fd, K01.S_law, KX, hb, fun H a ns hl hO hS => ⟨a, ns, rfl, ?_, fun _ => rfl⟩, hF⟩
    rcases hS with (hS | ⟨o, hS⟩) | ⟨o, its, n, e, ec, _⟩
    · rcases hO a with z | ⟨_, _, z⟩
      · rw [z] at hS; cases hS
      · rw [z] at hS; cases hS
    · unfold K01.scr
      rw [hS]
      exact K01.map_ints ns
    · exact absurd ec (Rf.noList_ok nl e)
