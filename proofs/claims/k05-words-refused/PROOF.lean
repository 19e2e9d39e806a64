import PyProof.Rows.All
import Wide.All
import OpenK.AllK
import Wide.FinOn
import HandS.ForMost
import HandS.ForExc
import HandS.Style
import HandS.StrMore
import HandS.IsInst
import HandS.Wide
import HandS.ExcIs
import KE.KExcIs
import HandS.Codes
import KE.GoesMore
import HandS.Zip
import HandS.HeadHook4
import HandS.ExcInit
import HandS.HeadEnd
import HandS.Walk
import HandS.EndBits
import HandS.Head0
import HandS.Head1
import HandS.Head2
import HandS.HeadHook1
import HandS.HeadHook2
import PySem.Challenge.RW_askweave_k05_words_refused
set_option Elab.async false
set_option autoImplicit false
set_option linter.all false
set_option maxRecDepth 100000
set_option maxHeartbeats 4000000
/-! Values by values: what each operator, call, method does, told by the shapes of its values. -/
namespace Rf
open PySem PySem.Spec PyProof.Rows L2

/-! ### texts as lists of code points -/
abbrev Cs := List Nat
def sOf (l : Cs) : Str := ⟨l.toArray⟩
def tl (s : Str) : Cs := s.cps.toList
@[simp] theorem tl_sOf (l : Cs) : tl (sOf l) = l := rfl
@[simp] theorem sOf_tl (s : Str) : sOf (tl s) = s := rfl
theorem sOf_inj {a b : Cs} (h : sOf a = sOf b) : a = b := congrArg tl h
@[simp] theorem sOf_eq {a b : Cs} : (sOf a = sOf b) ↔ a = b := ⟨sOf_inj, fun h => h ▸ rfl⟩
theorem str_eq {a b : Str} : a = b ↔ tl a = tl b := ⟨fun h => h ▸ rfl, fun h => by
  have e := congrArg sOf h
  exact e⟩
theorem len_tl (s : Str) : s.length = (tl s).length := by
  show s.cps.size = s.cps.toList.length
  simp
theorem sOf_len (l : Cs) : (sOf l).length = l.length := by
  show l.toArray.size = l.length
  simp
theorem add_sOf (a b : Str) : a ++ b = sOf (tl a ++ tl b) := by
  show (⟨a.cps ++ b.cps⟩ : Str) = ⟨(a.cps.toList ++ b.cps.toList).toArray⟩
  congr 1
  simp
abbrev line : Nat := 16777216
theorem line_eq : sizeLine = line := sizeLine_eq

/-! ### lookups -/
/-- the items of a list or a tuple that stands in H -/
def seqH (H : Hp) (a : Addr) : Option (List V) := match H a with
  | some (.lst xs) => some xs
  | some (.tup xs) => some xs
  | some (.frz _ (.lst xs)) => some xs
  | some (.frz _ (.tup xs)) => some xs
  | _ => none
theorem seqH_sq {K : PySem.W.Frag} {H : Hp} {a : Addr} {xs : List V} (h : seqH H a = some xs) : SqL K H a xs ∨ SqT K H a xs := by
  unfold seqH at h
  split at h
  · rename_i e; cases h; exact .inl (.inl (.inl e))
  · rename_i e; cases h; exact .inr (.inl (.inl e))
  · rename_i e; cases h; exact .inl (.inl (.inr ⟨_, e⟩))
  · rename_i e; cases h; exact .inr (.inl (.inr ⟨_, e⟩))
  · cases h
/-- a list alone -/
def lstH (H : Hp) (a : Addr) : Option (List V) := match H a with
  | some (.lst xs) => some xs
  | some (.frz _ (.lst xs)) => some xs
  | _ => none
theorem lstH_sq {K : PySem.W.Frag} {H : Hp} {a : Addr} {xs : List V} (h : lstH H a = some xs) : SqL K H a xs := by
  unfold lstH at h
  split at h
  · rename_i e; cases h; exact .inl (.inl e)
  · rename_i e; cases h; exact .inl (.inr ⟨_, e⟩)
  · cases h

/-- what is known of a caught error that is kept: its class, its own dict -/
def exvP (cls : Value) (d : Option Addr) (a : Addr) : Heap → Prop := fun h => ∃ (oe : Obj) (vs : Array Value), h.get? a = some oe ∧ Zc cls d oe ∧ oe.data = .fields vs
def ExV (cls : Value) (d : Option Addr) (a : Addr) : HO := .ext (exvP cls d a)
theorem exv_ok {P : Program} {w : World} {H : Hp} {h : Heap} {a : Addr} {cls : Value} {d : Option Addr} (q : exvP cls d a h) : ObjOk P w H h a (ExV cls d a) := by
  obtain ⟨oe, vs, e, z, dd⟩ := id q
  exact ⟨q, ⟨oe, e⟩, fun h1 h2 ⟨o, v, e1, z1, d1⟩ k => ⟨o, v, k o e1, z1, d1⟩⟩
/-! ### operators -/
/-- the size of a product -/
def IMul (i j : Int) : Prop := IntMulOk i j
theorem IMul.l {i j : Int} (h : -(2 ^ 64) < i ∧ i < 2 ^ 64) : IMul i j := .of_left (intBits_le_64 h.1 h.2)
theorem IMul.r {i j : Int} (h : -(2 ^ 64) < j ∧ j < 2 ^ 64) : IMul i j := .of_right (intBits_le_64 h.1 h.2)
def repC (n : Int) (l : Cs) : Cs := (List.replicate n.toNat l).flatten
def rAddX : R2 := fun x y H Q => match x, y with
  | .int i, .int j => Q (.int (i + j)) H
  | .str a, .str b => (tl a).length + (tl b).length ≤ line ∧ Q (.str (sOf (tl a ++ tl b))) H
  | .ref a, .ref b => (match H a, H b with
    | some (.lst xs), some (.lst ys) => xs.length + ys.length ≤ line ∧ ∀ p, H p = none → Q (.ref p) (upd H p (.lst (xs ++ ys)))
    | some (.tup xs), some (.tup ys) => xs ≠ [] ∧ ys ≠ [] ∧ xs.length + ys.length ≤ line ∧ ∀ p, H p = none → Q (.ref p) (upd H p (.tup (xs ++ ys)))
    | _, _ => False)
  | _, _ => False
def rMulX : R2 := fun x y H Q => match x, y with
  | .int i, .int j => IMul i j ∧ Q (.int (i * j)) H
  | .str a, .int j => -100 ≤ j ∧ j ≤ 100 ∧ (tl a).length ≤ 100000 ∧ Q (.str (sOf (repC j (tl a)))) H
  | .ref a, .int j => (match H a with
    | some (.lst xs) => -100 ≤ j ∧ j ≤ 100 ∧ xs.length ≤ 100000 ∧ ∀ p, H p = none → Q (.ref p) (upd H p (.lst (List.replicate j.toNat xs).flatten))
    | _ => False)
  | _, _ => False
def rSubX : R2 := fun x y H Q => match x, y with
  | .int i, .int j => Q (.int (i - j)) H
  | _, _ => False
def rModX : R2 := fun x y H Q => match x, y with
  | .int i, .int j => 0 < j ∧ Q (.int (i % j)) H
  | _, _ => False
def rDivX : R2 := fun x y H Q => match x, y with
  | .int i, .int j => (0 < j ∧ j < 1073741824) ∧ Q (.int (i / j)) H
  | _, _ => False
def rPowX : R2 := fun x y H Q => match x, y with
  | .int i, .int j => CPow i j ∧ Q (.int (i ^ j.toNat)) H
  | _, _ => False
def rNoX : R2 := fun _ _ _ _ => False
def rBin : Operator → R2
  | .Add => rAddX | .Sub => rSubX | .Mult => rMulX | .Mod => rModX | .FloorDiv => rDivX | .Pow => rPowX
  | _ => rNoX


/-! comparisons -/
def rEqX (K : PySem.W.Frag) : R2 := fun x y H Q => match scal x y with
  | true => Q (.bl (decide (x = y))) H
  | false => ∃ d e, Dp K H x d ∧ Dp K H y e ∧ SeqAt.shaped d = true ∧ SeqAt.shaped e = true ∧ Q (.bl (PyData.eqv d e)) H
def rNeX (K : PySem.W.Frag) : R2 := fun x y H Q => match scal x y with
  | true => Q (.bl (!decide (x = y))) H
  | false => ∃ d e, Dp K H x d ∧ Dp K H y e ∧ SeqAt.shaped d = true ∧ SeqAt.shaped e = true ∧ Q (.bl (!PyData.eqv d e)) H
def rOrd (f : Int → Int → Bool) (g : Cs → Cs → Bool) : R2 := fun x y H Q => match x, y with
  | .int i, .int j => Q (.bl (f i j)) H
  | .str a, .str b => Q (.bl (g (tl a) (tl b))) H
  | _, _ => False
def rLtX : R2 := rOrd (fun i j => decide (i < j)) (fun a b => decide (a < b))
def rLeX : R2 := rOrd (fun i j => decide (i ≤ j)) (fun a b => !decide (b < a))
def rGtX : R2 := rOrd (fun i j => decide (j < i)) (fun a b => decide (b < a))
def rGeX : R2 := rOrd (fun i j => decide (j ≤ i)) (fun a b => !decide (a < b))
def rIsX (n : Bool) : R2 := fun x y H Q => match x, y with
  | .bl a, .bl b => Q (.bl (n.xor (decide (a = b)))) H
  | _, .non => Q (.bl (n.xor (decide (x = .non)))) H
  | _, _ => False
/-- in: a sign in a text, a value in a list or a tuple of flat things, a key in a dict -/
def rInX (K : PySem.W.Frag) (n : Bool) : R2 := fun x y H Q =>
  (∃ a b c, x = .str a ∧ y = .str b ∧ tl a = [c] ∧ Q (.bl (n.xor (decide (c ∈ tl b)))) H) ∨
  (∃ p xs, y = .ref p ∧ (SqL K H p xs ∨ SqT K H p xs) ∧ flatV x = true ∧ xs.all flatV = true ∧ Q (.bl (n.xor (inV x xs))) H) ∨
  ∃ p o, y = .ref p ∧ DGet H p x o ∧ Q (.bl (n.xor o.isSome)) H
def rCmp (K : PySem.W.Frag) : CmpOp → R2
  | .Eq => rEqX K | .NotEq => rNeX K | .Lt => rLtX | .LtE => rLeX | .Gt => rGtX | .GtE => rGeX
  | .Is => rIsX false | .IsNot => rIsX true | .In => rInX K false | .NotIn => rInX K true
/-- a[b] -/
def rIxX (K : PySem.W.Frag) : R2 := fun x y H Q =>
  (∃ z i c, x = .str z ∧ y = .int i ∧ (tl z).length ≤ line ∧ atI (tl z) i = some c ∧ Q (.str (sOf [c])) H) ∨
  (∃ p xs i w, x = .ref p ∧ y = .int i ∧ (SqL K H p xs ∨ SqT K H p xs) ∧ atI xs i = some w ∧ Q w H) ∨
  ∃ p v, x = .ref p ∧ DGet H p y (some v) ∧ Q v H
def rNegX : V → Hp → VK → Prop := fun x H Q => match x with
  | .int i => Q (.int (-i)) H
  | _ => False
/-- a slice -/
def cutC (z : Cs) (lo hi : Option Int) : Cs := (z.drop (HT.sIx z.length 0 lo)).take (HT.sIx z.length z.length hi - HT.sIx z.length 0 lo)
def rSlX (K : PySem.W.Frag) : V → Option Int → Option Int → Hp → VK → Prop := fun x lo hi H Q =>
  (∃ z, x = .str z ∧ (tl z).length ≤ line ∧ Q (.str (sOf (cutC (tl z) lo hi))) H) ∨
  (∃ p xs, x = .ref p ∧ SqL K H p xs ∧ ∀ q, H q = none → Q (.ref q) (upd H q (.lst (cutV xs lo hi)))) ∨
  ∃ p xs, x = .ref p ∧ SqT K H p xs ∧ ¬ (HT.sIx xs.length 0 lo = 0 ∧ HT.sIx xs.length xs.length hi = xs.length) ∧ ∀ q, H q = none → Q (.ref q) (upd H q (.tup (cutV xs lo hi)))

section
variable {X : Cx} {pins : List (Addr × Obj)} {σ : L2.St} {H : Hp} {s : Shared} {Q : VK}
theorem opS {a b : Str} (I : Inv X pins σ H s) (q : Q (.str a) H) (e : a = b) (t : Tok) (k : Nat) : EP X pins σ Q (.str b t) { s with toks := k } := by
  subst e
  exact ⟨.str a, H, I.tok _, ⟨_, rfl⟩, q⟩
theorem foldl_app (n : Nat) (a : Array Nat) : ∀ (z : Array Nat), ((List.replicate n a).foldl (· ++ ·) z).toList = z.toList ++ (List.replicate n a.toList).flatten := by
  induction n with
  | zero => intro z; simp
  | succ n ih =>
    intro z
    rw [List.replicate_succ, List.foldl_cons, ih, List.replicate_succ, List.flatten_cons, Array.toList_append, List.append_assoc]
theorem repC_mul {a : Str} {j : Int} : Txt.mul a j = sOf (repC j (tl a)) := by
  unfold Txt.mul repC
  by_cases h1 : j < 1
  · rw [if_pos h1]
    have e : j.toNat = 0 := by omega
    rw [e]
    rfl
  · rw [if_neg h1]
    by_cases h2 : (j == 1 || a.length == 0) = true
    · rw [if_pos h2]
      rw [Bool.or_eq_true] at h2
      rcases h2 with h2 | h2
      · have e : j = 1 := by simpa using h2
        subst e
        show a = sOf (List.replicate 1 (tl a)).flatten
        simp
      · have e : a.length = 0 := by simpa using h2
        rw [len_tl] at e
        have e2 : tl a = [] := List.length_eq_zero_iff.mp e
        rw [e2]
        have e3 : a = sOf [] := by rw [← e2, sOf_tl]
        rw [e3]
        congr 1
        induction j.toNat with
        | zero => rfl
        | succ n ih => rw [List.replicate_succ, List.flatten_cons, ← ih] <;> rfl
    · rw [if_neg h2]
      apply str_eq.mpr
      show ((List.replicate j.toNat a.cps).foldl (· ++ ·) #[]).toList = _
      rw [foldl_app]
      rfl
theorem mulOk_s {a : Str} {j : Int} (h1 : -100 ≤ j) (h2 : j ≤ 100) (h3 : (tl a).length ≤ 100000) : PySem.MulOk a j := by
  refine ⟨by simp; omega, fun h4 h5 => ?_, fun h4 h5 => ?_⟩
  · rw [len_tl]
    have h6 : (100000 : Int) ≤ (2 ^ 63 - 1) / j := by
      rw [Int.le_ediv_iff_mul_le (by omega)]
      have : (100000 : Int) * j ≤ 100000 * 100 := Int.mul_le_mul_of_nonneg_left h2 (by decide)
      have h8 : (100000 : Int) * 100 ≤ 2 ^ 63 - 1 := by decide
      omega
    omega
  · rw [len_tl]
    have h6 : (tl a).length * j.toNat ≤ 100000 * 100 := Nat.mul_le_mul h3 (by omega)
    show decide _ = false
    apply decide_eq_false
    have : sizeLine = 16777216 := sizeLine_eq
    omega
theorem op_addX : OpR X (binaryOp .Add) rAddX := by
  intro pins s σ H x y v u Q I rx ry h
  unfold rAddX at h
  split at h
  · exact op_add pins s σ H _ _ v u Q I rx ry ⟨_, _, rfl, rfl, h⟩
  · rename_i a b
    refine op_add_str pins s σ H _ _ v u Q I rx ry ⟨a, b, rfl, rfl, ?_, ?_⟩
    · rw [len_tl, len_tl, line_eq]; exact h.1
    · rw [add_sOf]; exact h.2
  · rename_i a b
    split at h
    · rename_i xs ys e1 e2
      exact op_cat pins s σ H _ _ v u Q I rx ry ⟨a, b, xs, ys, rfl, rfl, e1, e2, by rw [line_eq]; exact h.1, h.2⟩
    · rename_i xs ys e1 e2
      exact op_catT pins s σ H _ _ v u Q I rx ry ⟨a, b, xs, ys, rfl, rfl, SqT.of e1, SqT.of e2, h.1, by rw [line_eq]; exact h.2.2.1, fun z => absurd z h.2.1, fun _ => h.2.2.2⟩
    · exact h.elim
  · exact h.elim
theorem op_mulX : OpR X (binaryOp .Mult) rMulX := by
  intro pins s σ H x y v u Q I rx ry h
  unfold rMulX at h
  split at h
  · obtain ⟨t, rfl⟩ := rx
    obtain ⟨t', rfl⟩ := ry
    exact mul_int ⟨.int _, H, I.tok _, ⟨_, rfl⟩, h.2⟩ h.1
  · rename_i a j
    obtain ⟨t, rfl⟩ := rx
    obtain ⟨t', rfl⟩ := ry
    obtain ⟨h1, h2, h3, h4⟩ := h
    refine PySem.SB.mul (mulOk_s h1 h2 h3) fun t'' k => ?_
    rw [repC_mul]
    exact ⟨.str _, H, I.tok _, ⟨_, rfl⟩, h4⟩
  · rename_i a j
    split at h
    · rename_i xs e
      obtain ⟨h1, h2, h3, h4⟩ := h
      have h6 : xs.length * j.toNat ≤ 100000 * 100 := Nat.mul_le_mul h3 (by omega)
      exact op_rep pins s σ H _ _ v u Q I rx ry ⟨a, j, xs, rfl, rfl, e, by omega, by omega, by rw [line_eq]; show _ ≤ 16777216; omega, h4⟩
    · exact h.elim
  · exact h.elim
theorem op_intX {op : Operator} {r : R2} {C : Int → Int → Prop} {g : Int → Int → V} (ho : OpR X (binaryOp op) (rI C g)) (hr : ∀ x y H Q, r x y H Q → ∃ i j, x = .int i ∧ y = .int j ∧ C i j ∧ Q (g i j) H) : OpR X (binaryOp op) r :=
  fun pins s σ H x y v u Q I rx ry h => ho pins s σ H x y v u Q I rx ry (hr x y H Q h)
theorem op_bin (o : Operator) : OpR X (binaryOp o) (rBin o) := by
  cases o with
  | Add => exact op_addX
  | Mult => exact op_mulX
  | Sub =>
    intro pins s σ H x y v u Q I rx ry h
    unfold rBin rSubX at h
    simp only at h
    split at h
    · exact op_sub pins s σ H _ _ v u Q I rx ry ⟨_, _, rfl, rfl, h⟩
    · exact h.elim
  | Mod =>
    refine op_intX op_mod fun x y H Q h => ?_
    unfold rBin rModX at h
    simp only at h
    split at h
    · exact ⟨_, _, rfl, rfl, h.1, h.2⟩
    · exact h.elim
  | FloorDiv =>
    refine op_intX op_fdiv fun x y H Q h => ?_
    unfold rBin rDivX at h
    simp only at h
    split at h
    · exact ⟨_, _, rfl, rfl, h.1, h.2⟩
    · exact h.elim
  | Pow =>
    refine op_intX op_pow fun x y H Q h => ?_
    unfold rBin rPowX at h
    simp only at h
    split at h
    · exact ⟨_, _, rfl, rfl, h.1, h.2⟩
    · exact h.elim
  | _ => intro pins s σ H x y v u Q I rx ry h; exact (show False from h).elim

theorem op_ordX {op : CmpOp} {f : Int → Int → Bool} {g : Cs → Cs → Bool} (hi : OpR X (compareOp op) (rI0 fun i j => .bl (f i j)))
    (hs : OpR X (compareOp op) (fun x y H Q => ∃ i j, x = .str i ∧ y = .str j ∧ Q (.bl (g (tl i) (tl j))) H)) : OpR X (compareOp op) (rOrd f g) := by
  intro pins s σ H x y v u Q I rx ry h
  unfold rOrd at h
  split at h
  · exact hi pins s σ H _ _ v u Q I rx ry ⟨_, _, rfl, rfl, h⟩
  · exact hs pins s σ H _ _ v u Q I rx ry ⟨_, _, rfl, rfl, h⟩
  · exact h.elim
theorem op_eqX (hu : X.A.units + 64 < cLine) : OpR X (compareOp .Eq) (rEqX X.K) := by
  intro pins s σ H x y v u Q I rx ry h
  unfold rEqX at h
  split at h
  · rename_i e
    exact op_eq pins s σ H _ _ v u Q I rx ry ⟨e, h⟩
  · exact op_eqD hu pins s σ H _ _ v u Q I rx ry h
theorem op_neX (hu : X.A.units + 64 < cLine) : OpR X (compareOp .NotEq) (rNeX X.K) := by
  intro pins s σ H x y v u Q I rx ry h
  unfold rNeX at h
  split at h
  · rename_i e
    exact op_ne pins s σ H _ _ v u Q I rx ry ⟨e, h⟩
  · exact op_neD hu pins s σ H _ _ v u Q I rx ry h
theorem op_isX : OpR X (compareOp .Is) (rIsX false) := by
  intro pins s σ H x y v u Q I rx ry h
  unfold rIsX at h
  simp only [Bool.false_xor] at h
  split at h
  · exact op_isBl pins s σ H _ _ v u Q I rx ry ⟨_, _, rfl, rfl, h⟩
  · exact op_isN pins s σ H _ _ v u Q I rx ry ⟨rfl, h⟩
  · exact h.elim
theorem op_notX : OpR X (compareOp .IsNot) (rIsX true) := by
  intro pins s σ H x y v u Q I rx ry h
  unfold rIsX at h
  simp only [Bool.true_xor] at h
  split at h
  · exact op_notBl pins s σ H _ _ v u Q I rx ry ⟨_, _, rfl, rfl, h⟩
  · exact op_notN pins s σ H _ _ v u Q I rx ry ⟨rfl, h⟩
  · exact h.elim
theorem one_of {a : Str} {c : Nat} (e : tl a = [c]) : a = ⟨#[c]⟩ := by
  have h := congrArg sOf e
  exact h
theorem op_inX (hu : X.A.units + 1 < cLine) : OpR X (compareOp .In) (rInX X.K false) := by
  intro pins s σ H x y v u Q I rx ry h
  unfold rInX at h
  simp only [Bool.false_xor] at h
  rcases h with ⟨a, b, c, rfl, rfl, e, h⟩ | ⟨p, xs, rfl, h1, h2, h3, h4⟩ | ⟨p, o, rfl, g, q⟩
  · exact op_in_sign pins s σ H _ _ v u Q I rx ry ⟨c, _, by rw [one_of e], rfl, h⟩
  · exact op_in_seq pins s σ H _ _ v u Q I rx ry ⟨p, xs, rfl, h1, h2, h3, h4⟩
  · obtain rfl : u = Value.ref p := ry
    exact d_in hu I g rx fun s3 I3 => ⟨.bl o.isSome, H, I3, rfl, q⟩
theorem op_ninX (hu : X.A.units + 1 < cLine) : OpR X (compareOp .NotIn) (rInX X.K true) := by
  intro pins s σ H x y v u Q I rx ry h
  unfold rInX at h
  simp only [Bool.true_xor] at h
  rcases h with ⟨a, b, c, rfl, rfl, e, h⟩ | ⟨p, xs, rfl, h1, h2, h3, h4⟩ | ⟨p, o, rfl, g, q⟩
  · exact op_notIn_sign pins s σ H _ _ v u Q I rx ry ⟨c, _, by rw [one_of e], rfl, h⟩
  · exact op_notIn_seq pins s σ H _ _ v u Q I rx ry ⟨p, xs, rfl, h1, h2, h3, h4⟩
  · obtain rfl : u = Value.ref p := ry
    exact d_notIn hu I g rx fun s3 I3 => ⟨.bl (!o.isSome), H, I3, rfl, q⟩
theorem op_cmp (hu : X.A.units + 64 < cLine) (o : CmpOp) : OpR X (compareOp o) (rCmp X.K o) := by
  cases o with
  | Eq => exact op_eqX hu
  | NotEq => exact op_neX hu
  | Lt => exact op_ordX (g := fun a b => decide (a < b)) op_lt op_lt_str
  | LtE => exact op_ordX (g := fun a b => !decide (b < a)) op_le op_le_str
  | Gt => exact op_ordX (g := fun a b => decide (b < a)) op_gt op_gt_str
  | GtE => exact op_ordX (g := fun a b => !decide (a < b)) op_ge op_ge_str
  | Is => exact op_isX
  | IsNot => exact op_notX
  | In => exact op_inX (by omega)
  | NotIn => exact op_ninX (by omega)
theorem ix_dict (hu : X.A.units + 1 < cLine) : IxR X (fun x y H Q => ∃ p v, x = .ref p ∧ DGet H p y (some v) ∧ Q v H) := by
  intro value slice pins s σ H x y v u Q I rx ry h hs
  obtain ⟨p, z, rfl, g, q⟩ := h
  obtain rfl : v = Value.ref p := rx
  exact tail_any (dict_typeIs I g) PySem.F.slot_dict_getitem.lookup (d_getItem hu I g ry fun w' s3 I3 rw' => ⟨z, H, I3, rw', q⟩) hs
theorem ix_X (hu : X.A.units + 1 < cLine) : IxR X (rIxX X.K) := by
  intro value slice pins s σ H x y v u Q I rx ry h hs
  unfold rIxX at h
  rcases h with ⟨z, i, c, rfl, rfl, h1, e, h2⟩ | ⟨p, xs, i, w, rfl, rfl, hq | hq, e, h2⟩ | ⟨p, z, rfl, g, q⟩
  · exact ix_str value slice pins s σ H _ _ v u Q I rx ry ⟨z, i, c, rfl, rfl, by rw [line_eq, len_tl]; exact h1, e, h2⟩ hs
  · exact ix_list value slice pins s σ H _ _ v u Q I rx ry ⟨p, xs, i, w, rfl, rfl, hq, e, h2⟩ hs
  · exact ix_tup value slice pins s σ H _ _ v u Q I rx ry ⟨p, xs, i, w, rfl, rfl, hq, e, h2⟩ hs
  · exact ix_dict hu value slice pins s σ H _ _ v u Q I rx ry ⟨p, z, rfl, g, q⟩ hs
theorem un_negX : UnR X (unaryOp .USub) rNegX := by
  intro pins s σ H x v Q I rx h
  unfold rNegX at h
  split at h
  · exact un_neg pins s σ H _ v Q I rx ⟨_, rfl, h⟩
  · exact h.elim
theorem cutS_C (z : Str) (lo hi : Option Int) : cutS z lo hi = sOf (cutC (tl z) lo hi) := by
  unfold cutS cutC
  rw [len_tl]
  rfl
theorem sl_X : SlR X (rSlX X.K) := by
  intro pins s σ H x v vl vu lo hi sl Q I rx hs pl pu h
  unfold rSlX at h
  rcases h with ⟨z, rfl, h1, h2⟩ | ⟨p, xs, rfl, h1, h2⟩ | ⟨p, xs, rfl, h1, h2, h3⟩
  · exact sl_str pins s σ H _ v vl vu lo hi sl Q I rx hs pl pu ⟨z, rfl, by rw [line_eq, len_tl]; exact h1, by rw [cutS_C]; exact h2⟩
  · exact sl_list pins s σ H _ v vl vu lo hi sl Q I rx hs pl pu ⟨p, xs, rfl, h1, h2⟩
  · exact sl_tup pins s σ H _ v vl vu lo hi sl Q I rx hs pl pu ⟨p, xs, rfl, h1, h2, h3⟩
end
end Rf
set_option Elab.async false
set_option autoImplicit false
set_option linter.all false
set_option maxRecDepth 100000
set_option maxHeartbeats 4000000
/-! A small syntax with names resolved, its reading, a checker against the program's own text, and soundness. -/
namespace Rf
open PySem PySem.Spec PyProof.Rows L2 C8
open SX C8 in
abbrev InsC := @C8.InsC

/-! ### built-in functions, classes, methods -/
inductive BF where
  | len | all | any | abs | isi | min2 | max2 | sum
  deriving DecidableEq
inductive TF where
  | int | str | list | tuple
  deriving DecidableEq
inductive BM where
  | append | extend | join | startswith | index
  deriving DecidableEq
def BF.name : BF → Str
  | .len => "len" | .all => "all" | .any => "any" | .abs => "abs" | .isi => "isinstance" | .min2 => "min" | .max2 => "max" | .sum => "sum"
def BF.id : BF → String
  | .len => "len" | .all => "all" | .any => "any" | .abs => "abs" | .isi => "isinstance" | .min2 => "min" | .max2 => "max" | .sum => "sum"
def TF.name : TF → Str
  | .int => "int" | .str => "str" | .list => "list" | .tuple => "tuple"
def TF.id : TF → String
  | .int => "int" | .str => "str" | .list => "list" | .tuple => "tuple"
def BM.name : BM → Str
  | .append => "append" | .extend => "extend" | .join => "join" | .startswith => "startswith" | .index => "index"
def BM.ty : BM → String
  | .append => "list" | .extend => "list" | .join => "str" | .startswith => "str" | .index => "str"

/-! ### own objects -/
/-- the fields of an own object -/
def insH (H : Hp) (a : Addr) : Option (Addr × Addr × List (Str × V)) := match H a with
  | some (.ins C dx fs) => some (C, dx, fs)
  | _ => none
theorem insH_ok {H : Hp} {a C dx : Addr} {fs : List (Str × V)} (h : insH H a = some (C, dx, fs)) : H a = some (.ins C dx fs) := by
  unfold insH at h
  split at h
  · cases h; assumption
  · cases h
theorem insH_of {H : Hp} {a C dx : Addr} {fs : List (Str × V)} (h : H a = some (.ins C dx fs)) : insH H a = some (C, dx, fs) := by
  unfold insH
  rw [h]
def tFldX (K : PySem.W.Frag) (ta : TE) (f : Str) : TE := fun σ H Q => ta σ H fun x H1 => match x with
  | .ref a => (match insH H1 a with
    | some (C, _, fs) => Cls K C ∧ NoAttr K C f ∧ (match fs.lookup f with
      | some v => Q v H1
      | none => False)
    | none => ∃ (D dx : Addr) (fs : List (Str × V)) (v : V), H1 a = some (.ext (exvP (.ref D) (some dx) a)) ∧ H1 dx = some (.xd fs) ∧ ExcC K D ∧ NoAttr K D f ∧ fs.lookup f = some v ∧ Q v H1)
  | _ => False
/-- what the tables say of a class's method -/
abbrev Me := Addr → Str → Option Sp
def tOwn (me : Me) (E : L2.St → XK) (m : Str) (ta : TE) (t : TA) : TE := fun σ H Q => ta σ H fun x H1 => match x with
  | .ref a => (match insH H1 a with
    | some (C, _, fs) => fs.lookup m = none ∧ (match me C m with
      | some sp => t σ H1 fun vs H2 => sp (.ref a :: vs) H2 Q (E σ)
      | none => False)
    | none => False)
  | _ => False
def tSFldX (K : PySem.W.Frag) (ta tv : TE) (f : Str) : TS := fun D σ H => tv σ H fun y H1 => ta σ H1 fun x H2 => match x with
  | .ref a => (match insH H2 a with
    | some (C, dx, fs) => Cls K C ∧ NoAttr K C f ∧ fs.length < 1000 ∧ D.nx σ (upd H2 a (.ins C dx (putF f y fs)))
    | none => False)
  | _ => False
def tAFldX (K : PySem.W.Frag) (ta tv : TE) (rd : V → V → Hp → VK → Prop) (f : Str) : TS := fun D σ H => ta σ H fun x H1 => match x with
  | .ref a => (match insH H1 a with
    | some (C, _, fs) => Cls K C ∧ NoAttr K C f ∧ (match fs.lookup f with
      | some v => tv σ H1 fun y H2 => rd v y H2 fun z H3 => (match insH H3 a with
        | some (C', dx', fs') => C' = C ∧ fs'.length < 1000 ∧ D.nx σ (upd H3 a (.ins C dx' (putF f z fs')))
        | none => False)
      | none => False)
    | none => False)
  | _ => False
/-- C(..): __init__'s promise at the new object -/
def tMakeX (C : Addr) (sp : Sp) (E : L2.St → XK) (t : TA) : TE := fun σ H Q => t σ H fun vs H1 => ∀ x dx, H1 x = none → H1 dx = none → dx ≠ x →
  sp (.ref x :: vs) (upd (upd H1 dx (.own x)) x (.ins C dx [])) (fun v H2 => v = .non ∧ Q (.ref x) H2) (E σ)

mutual
inductive RE where
  | var (i : Nat) | int (i : Int) | bl (b : Bool) | non | str (x : Str)
  | gc (i : Nat) | gf (i : Nat) | ty (n : String)
  | bin (o : Operator) (a b : RE) | neg (a : RE)
  | cmp (o : CmpOp) (a b : RE) | chain (o o' : CmpOp) (a b c : RE)
  | andV (a b : RE) | orV (a b : RE) | notV (a : RE)
  | ifE (t : RT) (a b : RE)
  | call (i : Nat) (as : RA) | cb (f : BF) (as : RA) | ct (f : TF) (as : RA) | mt (m : BM) (o : RE) (as : RA)
  | ix (a b : RE) | sl (a : RE) (lo hi : RO)
  | lst (as : RA) | tup (as : RA) | dnew
  | lc (own : List (Str × Nat)) (tg : Nat) (it : RI) (c : RC) (e : RE)
  | callE (f : RE) (as : RA)
  | hnd (e : RE) | lcT (own : List (Str × Nat)) (tgs : List Nat) (it : RI) (c : RC) (e : RE)
  | noE | fld (a : RE) (x : Str) | own (m : Str) (o : RE) (as : RA) | mk (i : Nat) (as : RA)
  | ddsp (ks : List Str) (as : RA)
inductive RA where
  | nil | cons (a : RE) (r : RA)
inductive RO where
  | no | yes (a : RE)
inductive RT where
  | tru (e : RE) | cmp (o : CmpOp) (a b : RE) | chain (o o' : CmpOp) (a b c : RE) | and (a b : RT) | or (a b : RT) | not (a : RT)
inductive RC where
  | no | yes (t : RT)
inductive RI where
  | any (e : RE) | range1 (a : RE) | range2 (a b : RE) | zip (a b : RE) | enum (a : RE)
end

/-- the static side: names by slot, the scope, callees, constants, free names, own errors -/
structure Ct where
  N : List Str
  sc : Scope
  fns : List Str
  gs : List Str
  fr : List Str
  ex : List Str
  mks : List Str
  exi : List Str := []
/-- the dynamic side -/
structure Dn where
  K : PySem.W.Frag
  W : WX
  sp : List Sp
  fa : List Addr
  gv : List V
  ex : List Addr
  me : Me
  mks : List (Addr × Sp)
  exi : List (Addr × Sp) := []

/-! ### readings -/
def spAt (D : Dn) (i : Nat) : Sp := (D.sp[i]?).getD fun _ _ _ _ => False
def gvAt (D : Dn) (i : Nat) : TE := fun _ H Q => match D.gv[i]? with
  | some v => Q v H
  | none => False
def faAt (D : Dn) (i : Nat) : TE := fun _ H Q => match D.fa[i]? with
  | some a => Q (.ref a) H
  | none => False
/-- a key's value, the other way round -/
def keyOf : V → Option Key
  | .int i => some (.inl i)
  | .str x => some (.inr x)
  | _ => none
theorem keyOf_ok {y : V} {k : Key} (h : keyOf y = some k) : y = kV k := by
  cases y with
  | int i => cases h; rfl
  | str x => cases h; rfl
  | _ => cases h
/-- d[y] = v of a dict with whole numbers or texts as keys -/
def rPutX (x y v : V) (H : Hp) (R : Hp → Prop) : Prop := match x with
  | .ref a => (match H a with
    | some (.dK kvs) => (match keyOf y with
      | some k => kvs.length < sizeLine ∧ R (upd H a (.dK (putK kvs k v)))
      | none => False)
    | _ => False)
  | _ => False
theorem rPutX_ok {x y v : V} {H : Hp} {R : Hp → Prop} (h : rPutX x y v H R) : ∃ a H4, x = .ref a ∧ DPut H a y v H4 ∧ R H4 := by
  unfold rPutX at h
  split at h
  · split at h
    · rename_i kvs e
      split at h
      · rename_i k ek
        have q := keyOf_ok ek
        subst q
        exact ⟨_, _, rfl, DPut.k e h.1, h.2⟩
      · exact h.elim
    · exact h.elim
  · exact h.elim
def tPutX (td ty tv : TE) : TS := fun D σ H => tv σ H fun v H1 => td σ H1 fun x H2 => ty σ H2 fun y H3 => rPutX x y v H3 fun H4 => D.nx σ H4
def tDispX (trs : List (TE × TE)) : TE := tDisp trs
def tNoE : TE := fun _ _ _ => False
def mkAt (D : Dn) (i : Nat) : Addr × Sp := (D.mks[i]?).getD (0, fun _ _ _ _ => False)
def rVar (i : Nat) : TE := fun σ H Q => match σ[i]? with
  | some (some v) => Q v H
  | _ => False
def trX (K : PySem.W.Frag) (x : V) (H : Hp) (Q : Bool → Hp → Prop) : Prop := match x with
  | .non => Q false H
  | .bl b => Q b H
  | .int i => Q (i != 0) H
  | .str y => (tl y).length ≤ line ∧ Q (!(tl y).isEmpty) H
  | .ref p => (∃ kvs, H p = some (.dK kvs) ∧ Q (!kvs.isEmpty) H) ∨ ∃ xs, (SqL K H p xs ∨ SqT K H p xs) ∧ Q (!xs.isEmpty) H
  | _ => False
def rLenX (K : PySem.W.Frag) : List V → Hp → VK → Prop := fun xs H Q =>
  (∃ y, xs = [.str y] ∧ (tl y).length ≤ line ∧ Q (.int (tl y).length) H) ∨ (∃ p kvs, xs = [.ref p] ∧ Rd H p (.dK kvs) ∧ Q (.int kvs.length) H) ∨
  ∃ p ys, xs = [.ref p] ∧ (SqL K H p ys ∨ SqT K H p ys) ∧ Q (.int ys.length) H
/-- a list of bools -/
def blsOf : List V → Option (List Bool)
  | [] => some []
  | .bl b :: r => (blsOf r).map (b :: ·)
  | _ :: _ => none
def rAllX (K : PySem.W.Frag) (f : List Bool → Bool) : List V → Hp → VK → Prop := fun xs H Q => ∃ p bs, xs = [.ref p] ∧ SqL K H p (bs.map V.bl) ∧ Q (.bl (f bs)) H
/-- isinstance: the type of a value, a class's value -/
def tyK (K : PySem.W.Frag) (H : Hp) (x : V) (k : Value → Prop) : Prop := match x with
  | .non => k (.type "NoneType")
  | .bl _ => k (.type "bool")
  | .int _ => k (.type "int")
  | .str _ => k (.type "str")
  | .ref p => (match H p with
    | some (.lst _) => k (.type "list")
    | some (.tup _) => k (.type "tuple")
    | some (.dK _) => k (.type "dict")
    | some (.dT _) => k (.type "dict")
    | some (.frz _ (.lst _)) => k (.type "list")
    | some (.frz _ (.dK _)) => k (.type "dict")
    | some (.ins C _ _) => InsC K C ∧ k (.ref C)
    | some (.ext φ) => ∃ (D : Addr) (d : Option Addr), φ = exvP (.ref D) d p ∧ ExcC K D ∧ (match d with
      | none => True
      | some dx => ∃ fs, H dx = some (.xd fs)) ∧ k (.ref D)
    | _ => False)
  | _ => False
def clK (x : V) (k : Value → Prop) : Prop := match x with
  | .ty n => k (.type n)
  | .ref C => k (.ref C)
  | _ => False
def clsL : List V → Option (List Value)
  | [] => some []
  | .ty n :: r => (clsL r).map (.type n :: ·)
  | .ref C :: r => (clsL r).map (.ref C :: ·)
  | _ :: _ => none
def rIsiX (K : PySem.W.Frag) : List V → Hp → VK → Prop := fun xs H Q => (match xs with
  | [x, c] => tyK K H x fun t => clK c fun u => ∃ b, PySem.W.kitOne K t u = some b ∧ Q (.bl b) H
  | _ => False) ∨ ∃ (x : V) (tp : Addr) (cs : List V) (us : List Value), xs = [x, .ref tp] ∧ H tp = some (.tup cs) ∧ clsL cs = some us ∧ tyK K H x fun t => ∃ b, PySem.W.kitAny K t us = some b ∧ Q (.bl b) H
def rAbsX : List V → Hp → VK → Prop := fun xs H Q => match xs with
  | [.int i] => Q (.int (i.natAbs : Int)) H
  | _ => False
def rMinX : List V → Hp → VK → Prop := fun xs H Q => match xs with
  | [.int i, .int j] => Q (.int (min i j)) H
  | _ => False
def rMaxX : List V → Hp → VK → Prop := fun xs H Q => match xs with
  | [.int i, .int j] => Q (.int (max i j)) H
  | _ => False
/-- a list of whole numbers -/
def intsV : List V → Option (List Int)
  | [] => some []
  | .int i :: r => (intsV r).map (i :: ·)
  | _ :: _ => none
theorem intsV_ok : ∀ {xs : List V} {ns : List Int}, intsV xs = some ns → xs = ns.map V.int
  | [], ns, h => by cases h; rfl
  | x :: r, ns, h => by
    cases x with
    | int i =>
      unfold intsV at h
      cases e : intsV r with
      | none => rw [e] at h; cases h
      | some ms =>
        rw [e] at h
        cases h
        rw [intsV_ok e]
        rfl
    | _ => cases h
theorem intsV_map : ∀ ns : List Int, intsV (ns.map V.int) = some ns
  | [] => rfl
  | i :: r => by
    show (intsV (r.map V.int)).map (i :: ·) = _
    rw [intsV_map r]
    rfl
def rSumX (K : PySem.W.Frag) : List V → Hp → VK → Prop := fun xs H Q => ∃ (p : Addr) (ns : List Int), xs = [.ref p] ∧ SqL K H p (ns.map V.int) ∧ Q (.int ns.sum) H
def rBF (K : PySem.W.Frag) : BF → List V → Hp → VK → Prop
  | .len => rLenX K | .all => rAllX K (·.all id) | .any => rAllX K (·.any id) | .abs => rAbsX | .isi => rIsiX K | .min2 => rMinX | .max2 => rMaxX | .sum => rSumX K
def rIntX : List V → Hp → VK → Prop := fun xs H Q => match xs with
  | [.int i] => Q (.int i) H
  | [.bl b] => Q (.int (if b then 1 else 0)) H
  | [.str a] => ∃ n, PySem.intText? a = some n ∧ (tl a).length ≤ 640 ∧ Q (.int n) H
  | _ => False
def rStrX : List V → Hp → VK → Prop := fun xs H Q => match xs with
  | [.int i] => i.natAbs.log2 < 1920 ∧ Q (.str (toString i)) H
  | _ => False
def rListX (K : PySem.W.Frag) : List V → Hp → VK → Prop := fun xs H Q => ∃ p ys, xs = [.ref p] ∧ (SqL K H p ys ∨ SqT K H p ys) ∧ ∀ l, H l = none → Q (.ref l) (upd H l (.lst ys))
def rTupleX (K : PySem.W.Frag) : List V → Hp → VK → Prop := fun xs H Q => ∃ p ys, xs = [.ref p] ∧ SqL K H p ys ∧ ∀ l, H l = none → Q (.ref l) (upd H l (.tup ys))
def rTF (K : PySem.W.Frag) : TF → List V → Hp → VK → Prop
  | .int => rIntX | .str => rStrX | .list => rListX K | .tuple => rTupleX K
/-- a list of texts -/
def strsOf : List V → Option (List Cs)
  | [] => some []
  | .str b :: r => (strsOf r).map (tl b :: ·)
  | _ :: _ => none
def joinC (S : Cs) : List Cs → Cs
  | [] => []
  | [a] => a
  | a :: b :: r => a ++ S ++ joinC S (b :: r)
def rJoinX (K : PySem.W.Frag) : V → List V → Hp → VK → Prop := fun x xs H Q => ∃ a p, ∃ ys : List Cs, x = .str a ∧ xs = [.ref p] ∧ (SqL K H p (ys.map fun y => V.str (sOf y)) ∨ SqT K H p (ys.map fun y => V.str (sOf y))) ∧
  ((ys.map List.length).sum + ys.length * (tl a).length ≤ line) ∧ Q (.str (sOf (joinC (tl a) ys))) H
def rStartX : V → List V → Hp → VK → Prop := fun x xs H Q => match x, xs with
  | .str a, [.str b] => Q (.bl (decide ((tl a).take (tl b).length = tl b))) H
  | _, _ => False
/-- the place of one sign in a text where it is -/
def rIndexSX : V → List V → Hp → VK → Prop := fun x xs H Q => match x, xs with
  | .str a, [.str b] => (match tl b with
    | [c] => c ∈ tl a ∧ Q (.int ((tl a).idxOf c : Nat)) H
    | _ => False)
  | _, _ => False
def rAppX : V → List V → Hp → VK → Prop := fun x vs H Q => match x, vs with
  | .ref l, [y] => (match H l with
    | some (.lst xs) => xs.length < line ∧ Q .non (upd H l (.lst (xs ++ [y])))
    | _ => False)
  | _, _ => False
def rExtX : V → List V → Hp → VK → Prop := fun x vs H Q => ∃ l b xs zs, x = .ref l ∧ vs = [.ref b] ∧ H l = some (.lst xs) ∧ (H b = some (.lst zs) ∨ H b = some (.tup zs)) ∧ xs.length + zs.length ≤ line ∧ Q .non (upd H l (.lst (xs ++ zs)))
def rBM (K : PySem.W.Frag) : BM → V → List V → Hp → VK → Prop
  | .append => rAppX | .extend => rExtX | .join => rJoinX K | .startswith => rStartX | .index => rIndexSX
def iAny (K : PySem.W.Frag) (te : TE) : TI := fun σ H R => te σ H fun x H1 => match x with
  | .str y => R (Its y) H1
  | .ref a => (match H1 a with
    | some (.lst _) => R (Itl K a) H1
    | some (.frz _ (.lst _)) => R (Itl K a) H1
    | some (.frz o (.dK kvs)) => R (Itk a o kvs) H1
    | some (.frz o (.dT kvs)) => R (Itkt a o kvs) H1
    | _ => ∃ xs, SqT K H1 a xs ∧ R (Itt K a) H1)
  | _ => False
/-- names by slot for the items of a tuple -/
def gNames : List Nat → TGs
  | [] => gNil
  | i :: r => gCons (gName i) (gNames r)
/-- a list (true) or a tuple (false) -/
def SqB (K : PySem.W.Frag) (k : Bool) (H : Hp) (a : Addr) (xs : List V) : Prop := match k with
  | true => SqL K H a xs
  | false => SqT K H a xs
/-- the items of two lists or tuples in new pairs -/
def ItzX (K : PySem.W.Frag) (k l : Bool) (a b : Addr) : It :=
  ⟨fun i H => ∃ (xs ys : List V) (x y : V), SqB K k H a xs ∧ SqB K l H b ys ∧ xs[i]? = some x ∧ ys[i]? = some y,
   fun i H v H' => ∃ p x y, v = .ref p ∧ H p = none ∧ H' = upd H p (.tup [x, y]) ∧ (∀ xs, SqB K k H a xs → xs[i]? = some x) ∧ ∀ ys, SqB K l H b ys → ys[i]? = some y,
   fun i H => ∃ xs ys : List V, SqB K k H a xs ∧ SqB K l H b ys ∧ i ≤ xs.length ∧ i ≤ ys.length ∧ (i = xs.length ∨ i = ys.length)⟩
def iZipX (K : PySem.W.Frag) (ta : TA) : TI := fun σ H R => ta σ H fun vs H1 => ∃ k l a b xs ys, vs = [.ref a, .ref b] ∧ SqB K k H1 a xs ∧ SqB K l H1 b ys ∧ R (ItzX K k l a b) H1
def blkD (D : Dn) : Dn := { D with W := fun _ _ _ _ => False }
mutual
def wpE (D : Dn) : RE → TE
  | .var i => rVar i
  | .int i => tC (.int i)
  | .bl b => tC (.bl b)
  | .non => tC .non
  | .str x => tC (.str x)
  | .gc i => gvAt D i
  | .gf i => faAt D i
  | .ty n => tC (.ty n)
  | .bin o a b => tOp (rBin o) (wpE D a) (wpE D b)
  | .neg a => tUn rNegX (wpE D a)
  | .cmp o a b => tOp (rCmp D.K o) (wpE D a) (wpE D b)
  | .chain o o' a b c => tChain (rCmp D.K o) (rCmp D.K o') (wpE D a) (wpE D b) (wpE D c)
  | .andV a b => tAndV (wpE D a) (wpE D b)
  | .orV a b => tOrV (wpE D a) (wpE D b)
  | .notV a => fun σ H Q => wpE D a σ H fun x H1 => trX D.K x H1 fun k H2 => Q (.bl (!k)) H2
  | .ifE t a b => tIf (wpT D t) (wpE D a) (wpE D b)
  | .call i as => tCallS (spAt D i) (WE D.W) (wpA D as)
  | .cb f as => tCB (rBF D.K f) (wpA D as)
  | .ct f as => tCB (rTF D.K f) (wpA D as)
  | .mt m o as => tBM D.K m.ty (rBM D.K m) (wpE D o) (wpA D as)
  | .ix a b => tOp (rIxX D.K) (wpE D a) (wpE D b)
  | .sl a lo hi => tSl (rSlX D.K) (wpE D a) (wpO D lo) (wpO D hi)
  | .lst as => tLst (wpA D as)
  | .tup as => tTup (wpA D as)
  | .dnew => tDNewK
  | .lc own tg it c e => tLc (wpI D it) (gName tg) (wpC (blkD D) c) (wpE (blkD D) e) (own.map (·.2))
  | .hnd e => wpE D e
  | .lcT own tgs it c e => tLc (wpI D it) (gTup D.K tgs.length (gNames tgs)) (wpC (blkD D) c) (wpE (blkD D) e) (own.map (·.2))
  | .callE f as => fun σ H Q => wpE D f σ H fun x H1 => ∃ (j : Nat) (fa : Addr), D.fa[j]? = some fa ∧ x = .ref fa ∧ wpA D as σ H1 fun vs H2 => spAt D j vs H2 Q (WE D.W σ)
  | .noE => tNoE
  | .fld a x => tFldX D.K (wpE D a) x
  | .own m o as => tOwn D.me (WE D.W) m (wpE D o) (wpA D as)
  | .mk i as => tMakeX (mkAt D i).1 (mkAt D i).2 (WE D.W) (wpA D as)
  | .ddsp ks as => tDisp (wpP D ks as)
def wpA (D : Dn) : RA → TA
  | .nil => tNil
  | .cons a r => tCons (wpE D a) (wpA D r)
def wpP (D : Dn) (ks : List Str) : RA → List (TE × TE)
  | .nil => []
  | .cons a r => (tC (.str (ks.headD Str.empty)), wpE D a) :: wpP D ks.tail r
def wpO (D : Dn) : RO → TO
  | .no => tNoPart
  | .yes a => tPart (wpE D a)
def wpT (D : Dn) : RT → TT
  | .tru e => fun σ H Q => wpE D e σ H fun x H1 => trX D.K x H1 Q
  | .cmp o a b => tTest (tOp (rCmp D.K o) (wpE D a) (wpE D b))
  | .chain o o' a b c => tTest (tChain (rCmp D.K o) (rCmp D.K o') (wpE D a) (wpE D b) (wpE D c))
  | .and a b => tAnd (wpT D a) (wpT D b)
  | .or a b => tOr (wpT D a) (wpT D b)
  | .not a => tNot (wpT D a)
def wpC (D : Dn) : RC → TT
  | .no => tYes
  | .yes t => wpT D t
def wpI (D : Dn) : RI → TI
  | .any e => iAny D.K (wpE D e)
  | .range1 a => iRng1 (tCons (wpE D a) tNil)
  | .range2 a b => iRng2 (tCons (wpE D a) (tCons (wpE D b) tNil))
  | .zip a b => iZipX D.K (tCons (wpE D a) (tCons (wpE D b) tNil))
  | .enum a => iEnum D.K (tCons (wpE D a) tNil)
end

/-! ### the checker -/
def visB (sc : Scope) (x : Str) : Bool := match sc.names.lookup x with
  | some .local => true | some .cell => true | some .free => true | _ => false
def glB (sc : Scope) (x : Str) : Bool := match sc.names.lookup x with
  | some .globalImplicit => true | _ => false
def locB (sc : Scope) (x : Str) : Bool := match sc.names.lookup x with
  | some .local => true | some .cell => true | _ => false
def noDb (x : Str) : Bool := !(x == ("__debug__" : Str)) && !(x == ("__classdict__" : Str)) && !(decide (x = ("__name__" : Str)))
def noStar : Expr → Bool
  | .Starred _ _ => false
  | _ => true
def noSlice : Expr → Bool
  | .Slice _ _ none _ => false
  | _ => true
def noComp : Expr → Bool
  | .ListComp .. => false | .SetComp .. => false | .DictComp .. => false
  | _ => true
def noSuper : Expr → Bool
  | .Call (.Name _ _) [] [] _ => false
  | _ => true
/-- keys that are texts -/
def keysB : List Str → List (Option Expr) → Bool
  | [], [] => true
  | x :: xs, some (.Constant (.str y) _ _) :: ks => decide (x = y) && keysB xs ks
  | _, _ => false
def noCallB : Expr → Bool
  | .Call .. => false
  | _ => true
def plainT : Expr → Bool
  | .UnaryOp .Not _ _ => false | .BoolOp .. => false | .IfExp .. => false | .Compare .. => false
  | _ => true
def noSet : Expr → Bool
  | .Set .. => false
  | _ => true
def lookS (l : List Str) (i : Nat) (x : Str) : Bool := decide (l[i]? = some x)
/-- the names of a tuple target -/
def tgB (N : List Str) (sc : Scope) : List Nat → List Expr → Bool
  | [], [] => true
  | i :: r, .Name x _ :: es => lookS N i x && (locB sc x && tgB N sc r es)
  | _, _ => false
mutual
def ckE (C : Ct) : RE → Expr → Bool
  | .var i, .Name x _ => lookS C.N i x && (visB C.sc x && noDb x)
  | .int i, .Constant (.int j) _ _ => decide (i = j)
  | .bl i, .Constant (.bool j) _ _ => decide (i = j)
  | .non, .Constant .none _ _ => true
  | .str i, .Constant (.str j) _ _ => decide (i = j)
  | .gc i, .Name x _ => lookS C.gs i x && (glB C.sc x && noDb x)
  | .gf i, .Name x _ => lookS C.fns i x && (glB C.sc x && noDb x)
  | .ty n, .Name x _ => decide (x = Str.ofString n) && (glB C.sc x && (noDb x && (decide (x ∈ C.fr) && decide (bootBuiltins x = some (.type n)))))
  | .bin o a b, .BinOp l op r _ => decide (op = o) && (ckE C a l && ckE C b r)
  | .neg a, .UnaryOp op r _ => decide (op = .USub) && ckE C a r
  | .cmp o a b, .Compare l [op] [r] _ => decide (op = o) && (!behindInMarks op r && (ckE C a l && ckE C b r))
  | .chain o o' a b c, .Compare l [op, op'] [m, r] _ => decide (op = o) && (decide (op' = o') && (!lastMarks [op, op'] [m, r] && (ckE C a l && (ckE C b m && ckE C c r))))
  | .andV a b, .BoolOp .And [x, y] _ => ckE C a x && ckE C b y
  | .andV a b, .BoolOp .And (x :: y :: z :: r) p => ckE C a x && ckE C b (.BoolOp .And (y :: z :: r) p)
  | .orV a b, .BoolOp .Or [x, y] _ => ckE C a x && ckE C b y
  | .orV a b, .BoolOp .Or (x :: y :: z :: r) p => ckE C a x && ckE C b (.BoolOp .Or (y :: z :: r) p)
  | .notV a, .UnaryOp .Not x _ => ckE C a x
  | .ifE t a b, .IfExp c x y _ => ckT C t c && (ckE C a x && ckE C b y)
  | .call i as, .Call (.Name x _) (e :: es) [] _ => lookS C.fns i x && (glB C.sc x && (noDb x && ckA C as (e :: es)))
  | .cb f as, .Call (.Name x _) (e :: es) [] _ => decide (x = f.name) && (glB C.sc x && (noDb x && (decide (x ∈ C.fr) && ckA C as (e :: es))))
  | .ct f as, .Call (.Name x _) (e :: es) [] _ => decide (x = f.name) && (glB C.sc x && (noDb x && (decide (x ∈ C.fr) && ckA C as (e :: es))))
  | .mt m o as, .Call (.Attribute o' x ap) (e :: es) [] cp => decide (x = m.name) && (noSuper o' && ((ap.endLine == cp.line) && (decide ((e :: es).length < 30) && (ckE C o o' && ckA C as (e :: es)))))
  | .ix a b, .Subscript x y _ => noSlice y && (ckE C a x && ckE C b y)
  | .sl a lo hi, .Subscript x (.Slice l h none _) _ => ckE C a x && (ckO C lo l && ckO C hi h)
  | .lst as, .List es _ => ckA C as es
  | .tup as, .Tuple es _ _ => ckA C as es
  | .dnew, .Dict [] [] _ => true
  | .lc own tg it c e, .ListComp elt [⟨.Name x _, iter, ifs, k⟩] scope _ => decide (k = 0) && (blkC C.N C.sc scope own && (lookS C.N tg x && (locB scope x && (noSet iter && (ckI C false it iter && (ckC { C with sc := scope } c ifs && ckE { C with sc := scope } e elt))))))
  | .hnd a, e => ckE C a e
  | .lcT own tgs it c e, .ListComp elt [⟨.Tuple elts _ _, iter, ifs, k⟩] scope _ => decide (k = 0) && (blkC C.N C.sc scope own && (tgB C.N scope tgs elts && (noSet iter && (ckI C true it iter && (ckC { C with sc := scope } c ifs && ckE { C with sc := scope } e elt)))))
  | .callE f as, .Call (.Subscript fv fi p) (e :: es) [] _ => ckE C f (.Subscript fv fi p) && ckA C as (e :: es)
  | .noE, _ => true
  | .fld a x, .Attribute o f _ => decide (f = x) && (noSuper o && ckE C a o)
  | .own m a as, .Call (.Attribute o x ap) es [] cp => decide (x = m) && (noSuper o && ((ap.endLine == cp.line) && (decide (es.length < 30) && (ckE C a o && ckA C as es))))
  | .ddsp ks as, .Dict (k :: keys) vals _ => keysB ks (k :: keys) && (decide ((k :: keys).length ≤ 15) && (decide ((k :: keys).length = vals.length) && ckA C as vals))
  | .mk i as, .Call (.Name x _) es [] _ => lookS C.mks i x && (glB C.sc x && (noDb x && ckA C as es))
  | _, _ => false
def ckA (C : Ct) : RA → List Expr → Bool
  | .nil, [] => true
  | .cons a r, e :: es => noStar e && (ckE C a e && ckA C r es)
  | _, _ => false
def ckO (C : Ct) : RO → Option Expr → Bool
  | .no, none => true
  | .yes a, some e => ckE C a e
  | _, _ => false
def ckT (C : Ct) : RT → Expr → Bool
  | .tru a, e => plainT e && ckE C a e
  | .cmp o a b, .Compare l [op] [r] _ => decide (op = o) && (!behindInMarks op r && (ckE C a l && ckE C b r))
  | .chain o o' a b c, .Compare l [op, op'] [m, r] _ => decide (op = o) && (decide (op' = o') && (!lastMarks [op, op'] [m, r] && (ckE C a l && (ckE C b m && ckE C c r))))
  | .and a b, .BoolOp .And [x, y] _ => ckT C a x && ckT C b y
  | .and a b, .BoolOp .And (x :: y :: z :: r) p => ckT C a x && ckT C b (.BoolOp .And (y :: z :: r) p)
  | .or a b, .BoolOp .Or [x, y] _ => ckT C a x && ckT C b y
  | .or a b, .BoolOp .Or (x :: y :: z :: r) p => ckT C a x && ckT C b (.BoolOp .Or (y :: z :: r) p)
  | .not t, .UnaryOp .Not x _ => ckT C t x
  | _, _ => false
def ckC (C : Ct) : RC → List Expr → Bool
  | .no, [] => true
  | .yes t, [e] => ckT C t e
  | _, _ => false
def ckI (C : Ct) (tup : Bool) : RI → Expr → Bool
  | .any a, e => ckE C a e
  | .range1 a, .Call (.Name x _) [e] [] _ => decide (x = ("range" : Str)) && (glB C.sc x && (decide (x ∈ C.fr) && (noStar e && ckE C a e)))
  | .range2 a b, .Call (.Name x _) [e, e'] [] _ => decide (x = ("range" : Str)) && (glB C.sc x && (decide (x ∈ C.fr) && (noStar e && (noStar e' && (ckE C a e && ckE C b e')))))
  | .zip a b, .Call (.Name x _) [e, e'] [] _ => tup && (decide (x = ("zip" : Str)) && (glB C.sc x && (decide (x ∈ C.fr) && (noStar e && (noStar e' && (ckE C a e && ckE C b e'))))))
  | .enum a, .Call (.Name x _) [e] [] _ => tup && (decide (x = ("enumerate" : Str)) && (glB C.sc x && (decide (x ∈ C.fr) && (noStar e && ckE C a e))))
  | _, _ => false
end
end Rf
set_option Elab.async false
set_option autoImplicit false
set_option linter.all false
set_option maxRecDepth 100000
set_option maxHeartbeats 4000000
/-! The built-ins' rules by values. -/
namespace Rf
open PySem PySem.Spec PyProof.Rows L2 C8

theorem startsC (a b : Str) : Txt.startswith a b = decide ((tl a).take (tl b).length = tl b) := by
  by_cases hb : TL.tl b = []
  · have e1 : tl b = [] := hb
    have e2 : b.length = 0 := by rw [len_tl, e1] <;> rfl
    have e3 : b = sOf [] := by rw [← e1, sOf_tl]
    subst e3
    rw [e1]
    have z : Txt.startswith a (sOf []) = true := by
      unfold Txt.startswith
      rw [Bool.and_eq_true]
      refine ⟨by simp [e2], ?_⟩
      unfold Builtin.Str.subAt
      simp [e2]
      rfl
    rw [z]
    simp
  · have h := TL.at_iff (x := a) (y := b) hb 0
    rw [List.drop_zero] at h
    have e : (Txt.startswith a b = true) ↔ StrLaws.At a b a.length 0 := by
      unfold Txt.startswith StrLaws.At
      rw [Bool.and_eq_true, decide_eq_true_iff]
    have p : (TL.pre (TL.tl b) (TL.tl a) = true) ↔ (tl a).take (tl b).length = tl b := by
      show ((TL.tl a).take (TL.tl b).length == TL.tl b) = true ↔ _
      rw [beq_iff_eq]
      exact Iff.rfl
    rw [Bool.eq_iff_iff, decide_eq_true_iff]
    exact e.trans (h.trans p)
theorem joinC_L (S : Cs) : ∀ l : List Cs, TL.joinL S l = joinC S l
  | [] => rfl
  | [_] => rfl
  | a :: b :: r => by
    show a ++ (S ++ TL.joinL S (b :: r)) = a ++ S ++ joinC S (b :: r)
    rw [joinC_L S (b :: r), List.append_assoc]
theorem join_C (a : Str) (ys : List Str) : Txt.join a ys = sOf (joinC (tl a) (ys.map tl)) := by
  apply str_eq.mpr
  rw [TL.join_eq]
  have h := TL.tl_join a ys
  rw [joinC_L] at h
  exact h
theorem strsOf_map : ∀ {xs : List V} {ys : List Cs}, strsOf xs = some ys → xs = (ys.map sOf).map V.str
  | [], ys, h => by cases h; rfl
  | .str b :: r, ys, h => by
    unfold strsOf at h
    obtain ⟨zs, hz, rfl⟩ := Option.map_eq_some_iff.mp h
    rw [strsOf_map hz]
    simp
  | .non :: r, ys, h => by cases h
  | .bl _ :: r, ys, h => by cases h
  | .int _ :: r, ys, h => by cases h
  | .byt _ :: r, ys, h => by cases h
  | .flt _ :: r, ys, h => by cases h
  | .ref _ :: r, ys, h => by cases h
  | .ty _ :: r, ys, h => by cases h
theorem blsOf_map : ∀ {xs : List V} {ys : List Bool}, blsOf xs = some ys → xs = ys.map V.bl
  | [], ys, h => by cases h; rfl
  | .bl b :: r, ys, h => by
    unfold blsOf at h
    obtain ⟨zs, hz, rfl⟩ := Option.map_eq_some_iff.mp h
    rw [blsOf_map hz]
    simp
  | .non :: r, ys, h => by cases h
  | .str _ :: r, ys, h => by cases h
  | .int _ :: r, ys, h => by cases h
  | .byt _ :: r, ys, h => by cases h
  | .flt _ :: r, ys, h => by cases h
  | .ref _ :: r, ys, h => by cases h
  | .ty _ :: r, ys, h => by cases h
theorem at_one {x : Str} {c i : Nat} : StrLaws.At x (sOf [c]) x.length i ↔ (tl x)[i]? = some c := by
  have h := TL.at_iff (x := x) (y := sOf [c]) (by show ([c] : List Nat) ≠ []; simp) i
  refine h.trans ?_
  show (((tl x).drop i).take 1 == [c]) = true ↔ _
  rw [beq_iff_eq, List.take_one, List.head?_drop]
  cases e : (tl x)[i]? with
  | none => simp
  | some d => simp
theorem occ_one (x : Str) (c : Nat) (h : c ∈ tl x) : ∃ r, Builtin.Str.occurrences x (sOf [c]) 0 x.length 1 = (tl x).idxOf c :: r := by
  have hl := List.idxOf_lt_length_of_mem h
  have hg : (tl x)[(tl x).idxOf c]? = some c := by
    rw [List.getElem?_eq_getElem hl]
    simp
  rcases StrLaws.occ_head x (sOf [c]) 1 (Nat.le_refl 1) with ⟨_, hn⟩ | ⟨i, r, e, ha, hn⟩
  · exact absurd (at_one.mpr hg) (hn _)
  · refine ⟨r, ?_⟩
    rw [e]
    congr 1
    have hi := at_one.mp ha
    have h1 : ¬ (tl x).idxOf c < i := fun z => hn _ z (at_one.mpr hg)
    have h2 : ¬ i < (tl x).idxOf c := fun z => by
      have q := List.not_of_lt_findIdx (p := (· == c)) (xs := tl x) z
      have hi2 : i < (tl x).length := (List.getElem?_eq_some_iff.mp hi).1
      have hi3 : (tl x)[i] = c := (List.getElem?_eq_some_iff.mp hi).2
      rw [hi3] at q
      simp at q
    omega

section
variable {X : Cx}
theorem kis {n m : String} {b : Bool} {K : PySem.W.Frag} (h : kitB n m = some b) : PySem.W.kitOne K (.type n) (Value.type m) = some b := kit_ty h
theorem c_len : CallR X (.builtin "len") (rLenX X.K) := by
  intro pins s σ H xs us Q I r h
  rcases h with ⟨y, rfl, h1, h2⟩ | ⟨p, kvs, rfl, e, h⟩ | ⟨p, ys, rfl, e, h⟩
  · exact call_len pins s σ H _ us Q I r ⟨_, _, rfl, ⟨by rw [len_tl, line_eq]; exact h1, (len_tl y).symm⟩, h2⟩
  · obtain ⟨u, rfl, ru⟩ := vals1 r
    obtain rfl : u = Value.ref p := ru
    exact d_len I e fun t s' I' => ⟨.int kvs.length, H, I', ⟨_, rfl⟩, h⟩
  · exact call_len pins s σ H _ us Q I r ⟨_, _, rfl, e.imp (fun z => ⟨_, z, rfl⟩) (fun z => ⟨_, z, rfl⟩), h⟩
theorem c_all (hc : X.calm = true) : CallR X (.builtin "all") (rAllX X.K (·.all id)) := by
  intro pins s σ H xs us Q I r h
  obtain ⟨p, bs, rfl, e, h⟩ := h
  exact cr_all hc pins s σ H _ us Q I r ⟨p, bs, rfl, e, h⟩
theorem c_any (hc : X.calm = true) : CallR X (.builtin "any") (rAllX X.K (·.any id)) := by
  intro pins s σ H xs us Q I r h
  obtain ⟨p, bs, rfl, e, h⟩ := h
  exact cr_any hc pins s σ H _ us Q I r ⟨p, bs, rfl, e, h⟩
theorem c_abs : CallR X (.builtin "abs") rAbsX := by
  intro pins s σ H xs us Q I r h
  unfold rAbsX at h
  split at h
  · rename_i i
    exact call_abs pins s σ H _ us Q I r ⟨i, rfl, by
      have e : (if i < 0 then -i else i) = (i.natAbs : Int) := by split <;> omega
      rw [e]; exact h⟩
  · exact h.elim
theorem c_min (hc : X.calm = true) : CallR X (.builtin "min") rMinX := by
  intro pins s σ H xs us Q I r h
  unfold rMinX at h
  split at h
  · rename_i i j
    exact call_min2 hc pins s σ H _ us Q I r ⟨i, j, rfl, by
      have e : (if j < i then j else i) = min i j := by omega
      rw [e]; exact h⟩
  · exact h.elim
theorem c_max (hc : X.calm = true) : CallR X (.builtin "max") rMaxX := by
  intro pins s σ H xs us Q I r h
  unfold rMaxX at h
  split at h
  · rename_i i j
    exact call_max2 hc pins s σ H _ us Q I r ⟨i, j, rfl, by
      have e : (if j > i then j else i) = max i j := by omega
      rw [e]; exact h⟩
  · exact h.elim
/-- what isinstance asks of a value's type -/
theorem tyK_kit {pins : List (Addr × Obj)} {σ : L2.St} {H : Hp} {s : Shared} {x : V} {u1 : Value} {k : Value → Prop} (I : Inv X pins σ H s) (r1 : RelV x u1) (h : tyK X.K H x k) :
    ∃ (t : Value) (P : Heap → Prop), PySem.W.KitX X.K u1 t P ∧ P s.heap ∧ u1 ≠ .builtin "__main__.__loader__#opaque" ∧ k t := by
  have go : ∀ (t : Value), TyX X.K H x t → k t → ∃ (t : Value) (P : Heap → Prop), PySem.W.KitX X.K u1 t P ∧ P s.heap ∧ u1 ≠ .builtin "__main__.__loader__#opaque" ∧ k t := fun t ty hb => by
    obtain ⟨P, Z, p, hx⟩ := kit_of I r1 ty
    exact ⟨t, P, Z, p, hx, hb⟩
  unfold tyK at h
  split at h
  · exact go _ (.base .non) h
  · exact go _ (.base (.bl _)) h
  · exact go _ (.base (.int _)) h
  · exact go _ (.base (.str _)) h
  · rename_i p
    split at h
    · rename_i e; exact go _ (.base (.lst e)) h
    · rename_i e; exact go _ (.base (.tup e)) h
    · rename_i e; exact go _ (.base (.dK e)) h
    · rename_i e; exact go _ (.base (.dT e)) h
    · rename_i e; exact go _ (.base (.frz e)) h
    · rename_i e; exact go _ (.fDict e) h
    · rename_i e
      obtain ⟨c1, h⟩ := h
      exact go _ (.base (.ins e c1.cl c1.ha c1.hn c1.htk c1.hm)) h
    · rename_i φ e
      obtain ⟨D, d, ep, EC, hd, hk⟩ := h
      obtain ⟨q1, _, _⟩ := (show ObjOk X.prog X.w H s.heap p (.ext φ) from I.hok p _ e)
      rw [ep] at q1
      obtain ⟨oe, vs, g1, g2, g3⟩ := q1
      cases r1
      have hc : (PySem.W.clsIn X.K D).isSome = true := by
        obtain ⟨cd, hcd, _⟩ := PySem.W.any_some EC.hd
        rw [hcd]
        rfl
      have J : ∃ od, PySem.W.InstAt s.heap p oe D od := by
        obtain ⟨oc, odd, oda, osl⟩ := oe
        obtain ⟨z1, z2⟩ := g2
        dsimp only at z1 z2 g3
        subst z1 z2 g3
        cases odd with
        | none => exact ⟨none, g1, rfl, rfl, trivial⟩
        | some dx =>
          obtain ⟨fs, hx⟩ := hd
          obtain ⟨ob, ho⟩ := objOk_get (I.hok dx _ hx)
          exact ⟨some ob, g1, rfl, rfl, ho⟩
      obtain ⟨od, J⟩ := J
      exact ⟨_, _, PySem.W.kitx_exc hc EC.hg EC.hk EC.hs EC.ha EC.hn EC.ht EC.hm, J, (fun z => nomatch z), hk⟩
    · exact h.elim
  · exact h.elim
theorem clsL_vals : ∀ {cs : List V} {us its : List Value}, clsL cs = some us → Vals cs its → its = us
  | [], us, its, e, r => by cases e; cases r; rfl
  | c :: r, us, its, e, rv => by
    cases rv with
    | cons h t =>
      cases c with
      | ty n =>
        obtain ⟨us', e1, rfl⟩ := Option.map_eq_some_iff.mp e
        rw [clsL_vals e1 t, show _ = Value.type n from h]
      | ref C =>
        obtain ⟨us', e1, rfl⟩ := Option.map_eq_some_iff.mp e
        rw [clsL_vals e1 t, show _ = Value.ref C from h]
      | _ => cases e
theorem c_isi : CallR X (.builtin "isinstance") (rIsiX X.K) := by
  intro pins s σ H xs us Q I r h
  rcases h with h | ⟨x, tp, cs, ts, rfl, hT, ec, h⟩
  · split at h
    · rename_i x c
      obtain ⟨u1, u2, rfl, r1, r2⟩ := vals2 r
      obtain ⟨t, P, Z, p, hx, hcl⟩ := tyK_kit I r1 h
      clear h
      have cl : ∀ {k : Value → Prop}, clK c k → k u2 := fun {k} z => by
        unfold clK at z
        split at z
        · rename_i n
          have e : u2 = Value.type n := r2
          rw [e]; exact z
        · rename_i C
          have e : u2 = Value.ref C := r2
          rw [e]; exact z
        · exact z.elim
      obtain ⟨b, hk, q⟩ := cl hcl
      exact PySem.W.kia_one Z I.kIn p hk hx fun tk => ⟨.bl b, H, I.tok tk, rfl, q⟩
    · exact h.elim
  · obtain ⟨u1, u2, rfl, r1, r2⟩ := vals2 r
    cases (show u2 = Value.ref tp from r2)
    obtain ⟨t, P, Z, p, hx, b, hk, q⟩ := tyK_kit I r1 h
    obtain ⟨_, its, rv, o, h1, h2, n, h3⟩ := (show ObjOk X.prog X.w H s.heap tp (.tup cs) from I.hok tp _ hT)
    have e3 := clsL_vals ec rv
    subst e3
    obtain ⟨oc, od, dt, sl⟩ := o
    simp only at h2 h3
    subst h2 h3
    exact PySem.W.kia_tup Z I.kIn p h1 hk hx fun tk => ⟨.bl b, H, I.tok tk, rfl, q⟩
theorem c_int : CallR X (.type "int") rIntX := by
  intro pins s σ H xs us Q I r h
  unfold rIntX at h
  split at h
  · exact call_int1 pins s σ H _ us Q I r (.inl ⟨_, rfl, h⟩)
  · exact call_int1 pins s σ H _ us Q I r (.inr ⟨_, rfl, h⟩)
  · rename_i a
    obtain ⟨n, h1, h2, h3⟩ := h
    exact call_int_str pins s σ H _ us Q I r ⟨a, n, rfl, h1, by rw [len_tl]; exact h2, h3⟩
  · exact h.elim
theorem c_str : CallR X (.type "str") rStrX := by
  intro pins s σ H xs us Q I r h
  unfold rStrX at h
  split at h
  · exact call_str_int pins s σ H _ us Q I r ⟨_, rfl, h.1, h.2⟩
  · exact h.elim
theorem m_join : MtR X "str.join" (rJoinX X.K) := by
  intro pins s σ H x xs v us Q I rx rs h
  obtain ⟨a, p, ys, rfl, rfl, e, h1, h2⟩ := h
  have m1 : (ys.map sOf).map tl = ys := by
    rw [List.map_map]
    show ys.map (fun y => tl (sOf y)) = ys
    simp
  have m2 : (ys.map sOf).map V.str = ys.map fun y => V.str (sOf y) := by
    rw [List.map_map]
    rfl
  refine mt_join pins s σ H _ _ v us Q I rx rs ⟨a, p, ys.map sOf, rfl, rfl, by rw [m2]; exact e, ?_, ?_⟩
  · rw [List.map_map, List.length_map, len_tl]
    have e4 : ys.map ((fun x => x.length) ∘ sOf) = ys.map List.length := by
      apply List.map_congr_left
      intro y _
      exact sOf_len y
    rw [e4]
    exact h1
  · rw [join_C, m1]
    exact h2
theorem m_start : MtR X "str.startswith" rStartX := by
  intro pins s σ H x xs v us Q I rx rs h
  unfold rStartX at h
  split at h
  · exact mt_startswith pins s σ H _ _ v us Q I rx rs ⟨_, _, rfl, rfl, by rw [startsC]; exact h⟩
  · exact h.elim
theorem m_index : MtR X "str.index" rIndexSX := by
  intro pins s σ H x xs v us Q I rx rs h
  unfold rIndexSX at h
  split at h
  · rename_i a b
    split at h
    · rename_i c e
      obtain ⟨t, rfl⟩ := rx
      obtain ⟨u, rfl, ru⟩ := vals1 rs
      obtain ⟨t2, rfl⟩ := ru
      obtain ⟨r, ho⟩ := occ_one a c h.1
      have eb : b = sOf [c] := by rw [← e, sOf_tl]
      subst eb
      exact PySem.SC.index ho ⟨.int _, H, I.tok _, ⟨_, rfl⟩, h.2⟩
    · exact h.elim
  · exact h.elim
theorem m_append : MtR X "list.append" rAppX := by
  intro pins s σ H x xs v us Q I rx rs h
  unfold rAppX at h
  split at h
  · rename_i l y
    split at h
    · rename_i zs e
      exact mt_append pins s σ H _ _ v us Q I rx rs ⟨l, zs, y, rfl, rfl, e, by rw [line_eq]; exact h.1, h.2⟩
    · exact h.elim
  · exact h.elim
theorem list_extend_tup (l : Addr) (items : Array Value) (n : Nat) (b : Addr) (items2 : Array Value) (n2 : Nat) (od : Option Addr) (sl : Array (Option Value)) (hs0 : ¬(!items.isEmpty && Builtin.List.listTooLong (items.size + items2.size)) = true) (hs1 : items.size ≤ sizeLine) (hs2 : items.size + items2.size ≤ sizeLine + 1) :
    Meets (Builtin.«list.extend» ⟨[.ref l, .ref b], []⟩) (fun _ R s => s.heap.get? l = some { cls := .type "list", dict := none, data := .seq items n, slots := #[] } ∧ s.heap.get? b = some { cls := .type "tuple", dict := od, data := .seq items2 n2, slots := sl } ∧ R (.ok (.ret Value.none)) { s with heap := s.heap.update l (Obj.mapSeq fun x => x ++ items2), toks := s.toks }) :=
  .of_wp fun prog w A R s h => by
    obtain ⟨hp, g, d, tk, os⟩ := s; obtain ⟨hl, hb, h⟩ := h; have f1 := PySem.AutoSeq1.idx_int; have f2 := PySem.AutoSeq1.sub_tuple_tuple; have f3 := PySem.AutoSeq1.sub_list_list; have f4 := PySem.AutoSeq1.sub_tuple_list; have f5 := PySem.AutoSeq1.sub_list_tuple
    have hz' : (items ++ items2).size ≤ sizeLine + 1 := by rw [Array.size_append]; exact hs2
    wp_walk using (wpAny_updateSeq hl rfl (hz := hs1) (_hz' := hz')), PySem.AutoSeq1.wpAny_loadPart' hl, PySem.AutoSeq1.wpAny_loadPart' hb; exact ⟨_, rfl, h⟩
theorem m_extend : MtR X "list.extend" rExtX := by
  intro pins s σ H x xs v us Q I rx rs h
  obtain ⟨l, b, zs, ws, rfl, rfl, e1, e2, h1, h2⟩ := h
  rcases e2 with e2 | e2
  · exact mt_extend pins s σ H _ _ v us Q I rx rs ⟨l, b, zs, ws, rfl, rfl, e1, e2, by rw [line_eq]; exact h1, h2⟩
  · cases rx
    obtain ⟨u, rfl, ru⟩ := rs.one
    cases ru
    obtain ⟨z, its, n, r, hl, e⟩ := I.lstM e1
    obtain ⟨z2, its2, r2, ob, p1, p2, n2, p3⟩ := (show ObjOk X.prog X.w H s.heap b (.tup ws) from I.hok b _ e2)
    have l1 : zs.length = its.length := r.length
    have l2 : ws.length = its2.length := r2.length
    have hsz : its.toArray.size + its2.toArray.size ≤ sizeLine := by rw [List.size_toArray, List.size_toArray, line_eq]; omega
    have hlong : ¬ (!its.toArray.isEmpty && Builtin.List.listTooLong (its.toArray.size + its2.toArray.size)) = true := by
      rw [notLongL hsz, Bool.and_false]
      exact Bool.false_ne_true
    obtain ⟨oc, odd, oda, osl⟩ := ob
    dsimp only at p2 p3
    subst p2 p3
    refine call_meets PySem.F.slot_list_extend ⟨_, e, rfl⟩ PySem.F.entry_list_extend (PySem.F.args_list_extend_2 _ _)
      (list_extend_tup l its.toArray n b its2.toArray n2 odd osl hlong (by rw [List.size_toArray]; omega) (by omega)) ⟨e, p1, ?_⟩
    refine ⟨.non, _, I.lset (its' := its ++ its2) e1 e (by simp) (r.append r2) ?_, rfl, h2⟩
    rw [List.length_append, line_eq]
    omega
end
end Rf
set_option Elab.async false
set_option autoImplicit false
set_option linter.all false
set_option maxRecDepth 100000
set_option maxHeartbeats 4000000
/-! Soundness of the readings of expressions. -/
namespace Rf
open PySem PySem.Spec PyProof.Rows L2

/-! ### small facts of the text -/
theorem and2 {a b : Bool} (h : (a && b) = true) : a = true ∧ b = true := Bool.and_eq_true_iff.mp h
theorem star_cons {e : Expr} {es : List Expr} (env : Env) (h : noStar e = true) : starEach (e :: es) env = (false, eval e env) :: starEach es env := by
  cases e <;> first | rfl | cases h
theorem ix_plain {b : Expr} (h : noSlice b = true) : PlainIx b := by
  intro o i
  cases b with
  | Slice l u st p => cases st <;> first | rfl | cases h
  | _ => rfl
theorem base_plain {o : Expr} {x : Str} {env : Env} {w : Sem Value} (h : noSuper o = true) : attributeBase o x env w = w := by
  cases o with
  | Call f as ks p =>
    cases f with
    | Name y q =>
      cases as with
      | nil => cases ks <;> first | rfl | cases h
      | cons _ _ => rfl
    | _ => rfl
  | _ => rfl
theorem tru_plain {e : Expr} (env : Env) (h : plainT e = true) : ∀ whole, isTrue e env whole = (do let v ← whole; standAt e.pos; holding [v] (truthy v)) := by
  intro w
  cases e with
  | UnaryOp op x p => cases op <;> first | rfl | cases h
  | BoolOp _ _ _ => cases h
  | IfExp _ _ _ _ => cases h
  | Compare _ _ _ _ => cases h
  | _ => rfl
theorem fold_plain {e : Expr} {env : Env} (h : noSet e = true) : ∀ x, foldedSetIterable e env x = pure x := by
  intro x
  cases e <;> first | rfl | cases h
theorem lookS_ok {l : List Str} {i : Nat} {x : Str} (h : lookS l i x = true) : l[i]? = some x := of_decide_eq_true h
theorem noDb_ok {x : Str} (h : noDb x = true) : (x == ("__debug__" : Str)) = false ∧ (x == ("__classdict__" : Str)) = false ∧ x ≠ "__name__" := by
  unfold noDb at h
  rw [Bool.and_eq_true, Bool.and_eq_true] at h
  obtain ⟨⟨h1, h2⟩, h3⟩ := h
  exact ⟨by simpa using h1, by simpa using h2, of_decide_eq_false (by simpa using h3)⟩

/-! ### the context is as the static and dynamic sides say -/
/-- what a table of methods must say -/
def MeOk (X : Cx) (me : Me) : Prop := ∀ C m sp, me C m = some sp → ∃ (f : Addr) (fd : FuncData) (ps : List Str) (k : Nat), Cls X.K C ∧ Meth X.K C m f ∧ FnOk X.prog X.w X.K X.mg X.base (L2.CX X.prog X.w) k f fd ps sp ∧ Room k X.A ∧ Binds X.K fd ps []
structure XOk (X : Cx) (C : Ct) (D : Dn) : Prop where
  N : X.N = C.N
  nd : C.N.Nodup
  vis : ∀ x, visB C.sc x = true → Vis X.env.scope x
  gl : ∀ x, glB C.sc x = true → Gl X x
  loc : ∀ x, locB C.sc x = true → Loc X.env.scope x ∧ (X.fn x = true ∨ X.env.scope.names.lookup x = some .local)
  scp : ∀ scope own, blkC C.N C.sc scope own = true → BlkOk X.N X.env.scope scope own
  K : X.K = D.K
  calm : X.calm = true
  tk : Takes X D.W
  rm : Room 0 X.A
  fn : ∀ (i : Nat) (x : Str), C.fns[i]? = some x → ∃ (s : Sp) (f : Addr) (fd : FuncData) (ps : List Str) (k : Nat), D.sp[i]? = some s ∧ D.fa[i]? = some f ∧ X.mg x = some (.ref f) ∧ PySem.W.keepIn X.K (.ref f) = true ∧ FnOk X.prog X.w X.K X.mg X.base (L2.CX X.prog X.w) k f fd ps s ∧ Room k X.A ∧ Binds X.K fd ps []
  fl : D.sp.length = C.fns.length ∧ D.fa.length = C.fns.length
  gs : ∀ (i : Nat) (x : Str), C.gs[i]? = some x → ∃ (v : V) (u : Value), D.gv[i]? = some v ∧ X.mg x = some u ∧ RelV v u
  fr : ∀ x, x ∈ C.fr → X.mg x = none
  me : MeOk X D.me
  mks : ∀ (i : Nat) (x : Str), C.mks[i]? = some x → ∃ (A : Addr) (s : Sp) (f : Addr) (fd : FuncData) (ps : List Str) (k : Nat), D.mks[i]? = some (A, s) ∧ X.mg x = some (.ref A) ∧ Mk X.K A f ∧ FnOk X.prog X.w X.K X.mg X.base (L2.CX X.prog X.w) k f fd ps s ∧ Room (k + 1) X.A ∧ Binds X.K fd ps []

theorem look_rel {sc : Scope} {env : Env} {x : Str} {k : NameKind} (hk : k ≠ .free) (h : sc.names.lookup x = some k) : (relabel sc env).names.lookup x = some k :=
  lookup_relS_keep (sc := env.scope) hk h
theorem look_free {env : Env} : ∀ {names : List (Str × NameKind)} {x : Str}, names.lookup x = some .free →
    (names.map fun (n, k) => if (k == NameKind.free && env.scope.kind == .function && env.kindOf n == some .cell) then (n, NameKind.cell) else (n, k)).lookup x = some .free ∨
    (names.map fun (n, k) => if (k == NameKind.free && env.scope.kind == .function && env.kindOf n == some .cell) then (n, NameKind.cell) else (n, k)).lookup x = some .cell
  | (n, k) :: r, x, h => by
    have ih := @look_free env r x
    rw [List.map_cons]
    cases hx : x == n with
    | true =>
      rw [List.lookup_cons, hx] at h
      cases h
      by_cases hc : (NameKind.free == NameKind.free && env.scope.kind == .function && env.kindOf n == some .cell) = true
      · right
        show List.lookup x ((if (NameKind.free == NameKind.free && env.scope.kind == .function && env.kindOf n == some .cell) = true then (n, NameKind.cell) else (n, NameKind.free)) :: _) = _
        rw [if_pos hc, List.lookup_cons, hx]
      · left
        show List.lookup x ((if (NameKind.free == NameKind.free && env.scope.kind == .function && env.kindOf n == some .cell) = true then (n, NameKind.cell) else (n, NameKind.free)) :: _) = _
        rw [if_neg hc, List.lookup_cons, hx]
    | false =>
      rw [List.lookup_cons, hx] at h
      have e : ∀ b : Bool, List.lookup x ((if b = true then (n, NameKind.cell) else (n, k)) :: (r.map fun (n, k) => if (k == NameKind.free && env.scope.kind == .function && env.kindOf n == some .cell) then (n, NameKind.cell) else (n, k))) =
          (r.map fun (n, k) => if (k == NameKind.free && env.scope.kind == .function && env.kindOf n == some .cell) then (n, NameKind.cell) else (n, k)).lookup x := by
        intro b
        cases b with
        | true => rw [if_pos rfl, List.lookup_cons, hx]
        | false => rw [if_neg Bool.false_ne_true, List.lookup_cons, hx]
      have e2 := e (k == NameKind.free && env.scope.kind == .function && env.kindOf n == some .cell)
      rw [e2]
      exact ih h
theorem XOk.blk {X : Cx} {C : Ct} {D : Dn} (h : XOk X C D) (scope : Scope) (s : Shared) (H : Hp) (a : Addr) (cl : List (Str × Addr)) (fp : List Addr) :
    XOk (X.blk s H scope (compEnvC scope cl a X.env) fp) { C with sc := scope } (blkD D) where
  N := h.N
  nd := h.nd
  vis := fun x hx => by
    show Vis (relabel scope X.env) x
    unfold visB at hx
    split at hx
    · rename_i e; exact .inl (look_rel (by decide) e)
    · rename_i e; exact .inr (.inl (look_rel (by decide) e))
    · rename_i e
      rcases look_free (env := X.env) e with z | z
      · exact .inr (.inr z)
      · exact .inr (.inl z)
    · cases hx
  gl := fun x hx => by
    show (relabel scope X.env).names.lookup x = some .globalImplicit
    unfold glB at hx
    split at hx
    · rename_i e; exact look_rel (by decide) e
    · cases hx
  loc := fun x hx => by
    unfold locB at hx
    split at hx
    · rename_i e; exact ⟨.inl (look_rel (by decide) e), .inr (look_rel (by decide) e)⟩
    · rename_i e; exact ⟨.inr (look_rel (by decide) e), .inl (by show (scope.names.lookup x == some .cell) = true; rw [e] <;> rfl)⟩
    · cases hx
  scp := fun sc own hb => by
    obtain ⟨b1, b2, b3, b4, b5⟩ := blkOk_by hb
    have eN : X.N = C.N := h.N
    refine ⟨b1, b2, by rw [show (X.blk s H scope (compEnvC scope cl a X.env) fp).N = C.N from eN]; exact b3, fun y hy e => ?_, by rw [show (X.blk s H scope (compEnvC scope cl a X.env) fp).N = C.N from eN]; exact b5⟩
    show (relabel scope X.env).names.lookup y.1 = some .cell ∨ (relabel scope X.env).names.lookup y.1 = some .free
    rcases b4 y hy e with z | z
    · exact .inl (look_rel (by decide) z)
    · exact (look_free (env := X.env) z).symm
  K := h.K
  calm := h.calm
  tk := takes0
  rm := h.rm
  fn := h.fn
  fl := h.fl
  me := h.me
  mks := h.mks
  gs := h.gs
  fr := h.fr

section
variable {X : Cx} {C : Ct} {D : Dn}
theorem pe_mono {e : Expr} {t t' : TE} (h : PE X e t) (hi : ∀ σ H Q, t' σ H Q → t σ H Q) : PE X e t' := ⟨fun pins s σ H Q I q => h.run pins s σ H Q I (hi σ H Q q)⟩
theorem pt_mono {e : Expr} {t t' : TT} (h : PT X e t) (hi : ∀ σ H Q, t' σ H Q → t σ H Q) : PT X e t' := ⟨fun pins s σ H Q I q => h.run pins s σ H Q I (hi σ H Q q)⟩
theorem rVar_var {i : Nat} {σ : L2.St} {H : Hp} {Q : VK} (h : rVar i σ H Q) : tVar i σ H Q := by
  unfold rVar at h
  split at h
  · rename_i v e; exact ⟨v, e, h⟩
  · exact h.elim
theorem c_sum (hc : X.calm = true) : CallR X (.builtin "sum") (rSumX X.K) := by
  intro pins s σ H xs us Q I r h
  obtain ⟨p, ns, rfl, e, h⟩ := h
  exact cr_sum hc pins s σ H _ us Q I r ⟨p, ns, rfl, e, h⟩
theorem c_blt (h : XOk X C D) (f : BF) : CallR X (.builtin f.id) (rBF D.K f) := by
  have hK := h.K
  rw [← hK]
  cases f with
  | len => exact c_len
  | all => exact c_all h.calm
  | any => exact c_any h.calm
  | abs => exact c_abs
  | isi => exact c_isi
  | min2 => exact c_min h.calm
  | max2 => exact c_max h.calm
  | sum => exact c_sum h.calm
theorem b_blt (f : BF) : bootBuiltins f.name = some (.builtin f.id) := by cases f <;> decide +kernel
theorem c_list : CallR X (.type "list") (rListX X.K) := by
  intro pins s σ H xs us Q I r h
  obtain ⟨p, ys, rfl, e, h⟩ := h
  exact call_list_of pins s σ H _ us Q I r ⟨p, ys, rfl, e, h⟩
theorem c_tuple : CallR X (.type "tuple") (rTupleX X.K) := by
  intro pins s σ H xs us Q I r h
  obtain ⟨p, ys, rfl, e, h⟩ := h
  exact call_tuple_of pins s σ H _ us Q I r ⟨p, ys, rfl, .inl ⟨e, h⟩⟩
theorem c_typ (h : XOk X C D) (f : TF) : CallR X (.type f.id) (rTF D.K f) := by
  have hK := h.K
  rw [← hK]
  cases f with
  | int => exact c_int
  | str => exact c_str
  | list => exact c_list
  | tuple => exact c_tuple
theorem b_typ (f : TF) : bootBuiltins f.name = some (.type f.id) := by cases f <;> decide +kernel
theorem truX : TruR X (trX X.K) := by
  intro pins s σ H x v Q I rx h
  unfold trX at h
  split at h
  · exact tru_ok pins s σ H _ v Q I rx ⟨_, rfl, h⟩
  · exact tru_ok pins s σ H _ v Q I rx ⟨_, rfl, h⟩
  · exact tru_ok pins s σ H _ v Q I rx ⟨_, rfl, h⟩
  · rename_i y
    refine tru_ok pins s σ H _ v Q I rx ⟨!(tl y).isEmpty, ⟨by rw [len_tl, line_eq]; exact h.1, ?_⟩, h.2⟩
    rw [len_tl]
    cases tl y with
    | nil => rfl
    | cons a r => simp; omega
  · rename_i p
    rcases h with ⟨kvs, e, h⟩ | ⟨xs, z | z, h⟩
    · exact tru_ok pins s σ H _ v Q I rx ⟨_, .inr (.inr ⟨kvs, e, rfl⟩), h⟩
    · exact tru_ok pins s σ H _ v Q I rx ⟨_, .inl ⟨xs, z, rfl⟩, h⟩
    · exact tru_ok pins s σ H _ v Q I rx ⟨_, .inr (.inl ⟨xs, z, rfl⟩), h⟩
  · exact h.elim
theorem pt_tru {e : Expr} {te : TE} (he : PE X e te) (hp : plainT e = true) : PT X e (fun σ H Q => te σ H fun x H1 => trX X.K x H1 Q) := by
  refine ⟨fun pins s σ H Q I h => ?_⟩
  exact isTrue_plain (thn (he.run pins s σ H _ I h) fun v s1 ⟨x, H1, I1, r1, q1⟩ => truX pins s1 σ H1 x v Q I1 r1 q1) (tru_plain X.env hp _)
theorem pi_any {tg e : Expr} {te : TE} (he : PE X e te) : PI X tg e (iAny X.K te) := by
  refine ⟨fun pins s σ H R I h => ?_⟩
  refine thn (he.run pins s σ H _ I h) fun v s1 ⟨x, H1, I1, r1, q1⟩ => ?_
  dsimp only at q1
  split at q1
  · rename_i y
    obtain ⟨t, rfl⟩ := r1
    cases ha : y.cps.all (· < 128) with
    | false => exact wpAny_pyIter_wide ha (pi_one (tk := s1.toks) I1 _ (turn_str _ y t "str_iterator" (.inr rfl)) ⟨_, Heap.get?_push_size _ rfl, rfl, rfl⟩ q1)
    | true => exact wpAny_pyIter_ascii ha (pi_one (tk := s1.toks) I1 _ (turn_str _ y t "str_ascii_iterator" (.inl rfl)) ⟨_, Heap.get?_push_size _ rfl, rfl, rfl⟩ q1)
  · rename_i a
    cases r1
    have lst : ∀ {xs : List V}, SqL X.K H1 a xs → R (Itl X.K a) H1 → wpAny (model X.prog X.w) X.A (pyIter (.ref a)) (PIE X pins σ tg R) X.xe s1 := fun hq q => by
      obtain ⟨its, rv, p, hz⟩ := I1.list hq
      exact wpAny_pyIter_list p.isList (pi_one (tk := s1.toks) I1 _ (turn_list a _) ⟨_, Heap.get?_push_size _ rfl, rfl, rfl⟩ q)
    split at q1
    · rename_i xs e; exact lst (SqL.of e) q1
    · rename_i o xs e; exact lst (.inl (.inr ⟨o, e⟩)) q1
    · rename_i o kvs hd
      obtain ⟨hs, hgd, hx, es, ep, vs, hdt, hsz, kv, hm⟩ := I1.frzK hd
      refine iter_keys hs hgd hx hdt (pi_one (tk := s1.toks) I1 _ (turn_keys _ hdt) ⟨_, Heap.get?_push_size _ rfl, rfl, ?_⟩ q1)
      rw [hsz] <;> rfl
    · rename_i o kvs hd
      obtain ⟨hs, hgd, hx, es, ep, hdt, hsz, ent⟩ := I1.frzT hd
      refine iter_keys hs hgd hx hdt (pi_one (tk := s1.toks) I1 _ (turn_keysT _ hdt) ⟨_, Heap.get?_push_size _ rfl, rfl, ?_⟩ q1)
      rw [hsz] <;> rfl
    · obtain ⟨xs, hq, q⟩ := q1
      obtain ⟨its, rv, p, hz⟩ := I1.tuple hq
      exact wpAny_pyIter_tuple (show s1.heap.IsTuple a its.toArray from p) (pi_one (tk := s1.toks) I1 _ (turn_tuple a _) ⟨_, Heap.get?_push_size _ rfl, rfl, rfl⟩ q)
  · exact q1.elim
theorem bm_facts (m : BM) : ∃ id, PlainAttrs m.ty ∧ Slot m.ty m.name id ∧ typeOf (.builtin id) = pure (.type "method_descriptor") ∧ ∀ X : Cx, MtR X id (rBM X.K m) := by
  cases m with
  | append => exact ⟨_, PySem.F.plainAttrs_list, PySem.F.slot_list_append, PySem.F.type_list_append, fun X => m_append⟩
  | extend => exact ⟨_, PySem.F.plainAttrs_list, PySem.F.slot_list_extend, PySem.F.type_list_extend, fun X => m_extend⟩
  | join => exact ⟨_, PySem.F.plainAttrs_str, PySem.F.slot_str_join, PySem.F.type_str_join, fun X => m_join⟩
  | startswith => exact ⟨_, PySem.F.plainAttrs_str, PySem.F.slot_str_startswith, PySem.F.type_str_startswith, fun X => m_start⟩
  | index => exact ⟨_, PySem.F.plainAttrs_str, PySem.F.slot_str_index, PySem.F.type_str_index, fun X => m_index⟩
theorem bt_star (pos : Pos) (env : Env) : ∀ {as : RA} {es : List Expr}, ckA C as es = true → (backTo pos (starEach es env)).any (·.1) = false ∧ (backTo pos (starEach es env)).all (fun x => !x.1) = true
  | .nil, [], _ => ⟨rfl, rfl⟩
  | .cons a r, e :: es, h => by
    unfold ckA at h
    obtain ⟨h1, h2⟩ := and2 h
    obtain ⟨h3, h4⟩ := and2 h2
    obtain ⟨i1, i2⟩ := bt_star pos env h4
    rw [star_cons env h1]
    unfold backTo at i1 i2 ⊢
    rw [List.map_cons, List.any_cons, List.all_cons, i1, i2]
    exact ⟨rfl, rfl⟩
  | .nil, _ :: _, h => by unfold ckA at h; cases h
  | .cons _ _, [], h => by unfold ckA at h; cases h
theorem star_ca (env : Env) {as : RA} {e : Expr} {es : List Expr} (h : ckA C as (e :: es) = true) : starEach (e :: es) env = (false, eval e env) :: starEach es env := by
  cases as with
  | nil => unfold ckA at h; cases h
  | cons a r =>
    unfold ckA at h
    exact star_cons env (and2 h).1
theorem rest_ca {as : RA} {e : Expr} {es : List Expr} (h : ckA C as (e :: es) = true) : ∃ r, ckA C r es = true := by
  cases as with
  | nil => unfold ckA at h; cases h
  | cons a r =>
    unfold ckA at h
    exact ⟨r, (and2 (and2 h).2).2⟩
end
end Rf
set_option Elab.async false
set_option autoImplicit false
set_option linter.all false
set_option maxRecDepth 100000
set_option maxHeartbeats 4000000
/-! zip of lists and tuples in any mix. -/
namespace Rf
open PySem PySem.Spec PyProof.Rows L2
/-- the iterator of a list or a tuple, and what it walks -/
def ItB (k : Bool) (it l : Addr) (i : Nat) (h : Heap) (xs : Array Value) : Prop := match k with
  | true => h.IsListIter it l i ∧ h.IsList l xs
  | false => h.IsTupleIter it l i ∧ h.IsTuple l xs
def ItO (k : Bool) (it l : Addr) (i : Nat) (h : Heap) : Prop := match k with
  | true => h.IsListIter it l i
  | false => h.IsTupleIter it l i
theorem ItO.at {k : Bool} {it l : Addr} {i : Nat} {h h' : Heap} (x : ItO k it l i h) (g : ∀ o, h.get? it = some o → h'.get? it = some o) : ItO k it l i h' := by
  cases k with
  | true => exact Heap.IsListIter.at x g
  | false => exact Heap.IsTupleIter.at x g
theorem ItO.there {k : Bool} {it l : Addr} {i : Nat} {h : Heap} (x : ItO k it l i h) : ∃ o, h.get? it = some o ∧ ∀ v, o.data ≠ .cell v := by
  cases k with
  | true => obtain ⟨o, e, _, d⟩ := x; exact ⟨o, e, fun v q => by rw [d] at q; cases q⟩
  | false => obtain ⟨o, e, _, d⟩ := x; exact ⟨o, e, fun v q => by rw [d] at q; cases q⟩
theorem drawsB {prog : Program} {w : World} {A : Around} (k : Bool) (hh : A.handled = none) (it l : Addr) (hne : l ≠ it) (items : Array Value) :
    Draws prog w A it [it, l] items.size (fun i v => items[i]? = some v) (fun i h => ItB k it l i h items) := by
  cases k with
  | true => exact Draws.list hh it l hne items
  | false => exact Draws.tuple hh it l hne items
def SqO (k : Bool) (h : Heap) (a : Addr) (items : Array Value) : Prop := match k with
  | true => h.IsList a items
  | false => h.IsTuple a items
section
variable {X : Cx} {pins : List (Addr × Obj)} {σ : L2.St} {H : Hp} {s : Shared} {a b : Addr} {xs ys : List V} {k l : Bool}
theorem sqB_at (I : Inv X pins σ H s) (q : SqB X.K k H a xs) : ∃ its : List Value, Vals xs its ∧ SqO k s.heap a its.toArray ∧ a < s.heap.objs.size := by
  cases k with
  | true => obtain ⟨its, rv, p, _⟩ := I.list q; exact ⟨its, rv, p.isList, p.lt⟩
  | false =>
    obtain ⟨its, rv, p, _⟩ := I.tuple q
    obtain ⟨o, ho, _⟩ := id p
    exact ⟨its, rv, p, Heap.lt_size ho⟩
theorem sqB_inj (I : Inv X pins σ H s) {zs : List V} (q : SqB X.K k H a xs) (r : SqB X.K k H a zs) : xs = zs := by
  cases k with
  | true => exact I.list_inj q r
  | false => exact I.tuple_inj q r
end
theorem turn_zipX {P : Program} {w : World} {K : PySem.W.Frag} {elts : List Expr} {kk : Nat} {tpos : Pos} {k l : Bool} {a b z t u i j : Addr} (N : ZipApart z t u i j a b) :
    Turn P w K (.Tuple elts kk tpos) (ItzX K k l a b) [z, t, u, i, j] z (fun n h => IsZip h z t u .none ∧ IsTupOf2 h t (.ref i) (.ref j) ∧ (∃ x y, IsTupOf2 h u x y) ∧ ItO k i a n h ∧ ItO l j b n h) where
  mem := by simp
  obj := fun n h st c hc => by
    obtain ⟨q1, q2, ⟨x, y, q3⟩, q4, q5⟩ := st
    have m : c = z ∨ c = t ∨ c = u ∨ c = i ∨ c = j := by simpa using hc
    rcases m with m | m | m | m | m <;> subst m
    · exact ⟨_, q1, fun v q => nomatch q⟩
    · exact ⟨_, q2, fun v q => nomatch q⟩
    · exact ⟨_, q3, fun v q => nomatch q⟩
    · exact q4.there
    · exact q5.there
  keep := fun n h h' st g => by
    obtain ⟨q1, q2, ⟨x, y, q3⟩, q4, q5⟩ := st
    exact ⟨g z (by simp) _ q1, g t (by simp) _ q2, ⟨x, y, g u (by simp) _ q3⟩, q4.at fun o q => g i (by simp) o q, q5.at fun o q => g j (by simp) o q⟩
  item := by
    intro X hP hw hK hc n pins s σ H E I hf st hg
    subst hP hw hK
    obtain ⟨q1, q2, ⟨x0, y0, q3⟩, q4, q5⟩ := st
    obtain ⟨xs, ys, x, y, sx, sy, ex, ey⟩ := hg
    obtain ⟨us, ru, pu, _⟩ := sqB_at I sx
    obtain ⟨ws, rw', pw, _⟩ := sqB_at I sy
    obtain ⟨x1, ex1, rx1⟩ := ru.get ex
    obtain ⟨y1, ey1, ry1⟩ := rw'.get ey
    have hh := I.ok.hd hc
    have hh1 : X.A.in1.handled = none := hh
    have l1 : n < us.toArray.size := by rw [List.size_toArray]; exact (List.getElem?_eq_some_iff.mp ex1).1
    have l2 : n < ws.toArray.size := by rw [List.size_toArray]; exact (List.getElem?_eq_some_iff.mp ey1).1
    have S : ZipSep2 z t u i j [i, a] [j, b] := ⟨N.TIz, N.TOz, N.TITO, N.TIi1, by simp, by simp [N.i1z.symm, N.l1z.symm], by simp [N.TOi1, N.l1TO.symm], N.TIi2, by simp, by simp [N.i2z.symm, N.l2z.symm], by simp [N.TOi2, N.l2TO.symm],
      by simp [N.i12, N.l2i1.symm], by simp [N.i12.symm, N.l1i2.symm]⟩
    have st1 : ItB k i a n s.heap us.toArray := by cases k <;> exact ⟨q4, pu⟩
    have st2 : ItB l j b n s.heap ws.toArray := by cases l <;> exact ⟨q5, pw⟩
    refine wpAny_pyNext_zipD2_item S (drawsB k hh1 i a N.l1i1 us.toArray) (drawsB l hh1 j b N.l2i2 ws.toArray) q1 q2 q3 st1 st2 l1 l2 fun v1 v2 h' tk e1 e2 z' u' st1' st2' nT nsz nk => ?_
    have zl : z < s.heap.objs.size := Heap.lt_size q1
    have e1' : x1 = v1 := by
      have m1 : us.toArray[n]? = some v1 := e1
      rw [List.getElem?_toArray, ex1] at m1
      exact Option.some.inj m1
    have e2' : y1 = v2 := by
      have m1 : ws.toArray[n]? = some v2 := e2
      rw [List.getElem?_toArray, ey1] at m1
      exact Option.some.inj m1
    subst e1' e2'
    refine ⟨_, rfl, wpAny_letOwnedTupleGo_zip (s := { s with heap := h', toks := tk }) z' fun h'' z'' sb => ?_⟩
    have nT2 : h''.get? s.heap.objs.size = some { cls := .type "tuple", data := .seq #[x1, y1] } := (sb.2 _ (Nat.ne_of_gt zl)).trans nT
    have new : ObjOk X.prog X.w (upd H s.heap.objs.size (.tup [x, y])) h'' s.heap.objs.size (.tup [x, y]) :=
      ⟨by show 2 ≤ sizeLine; decide, [x1, y1], .cons rx1 (.cons ry1 .nil), ⟨_, nT2, rfl, _, rfl⟩⟩
    have I1 : Inv X pins σ (upd H s.heap.objs.size (.tup [x, y])) { s with heap := h'', toks := tk } :=
      I.turnedNew (ch := [z, t, u, i, j]) (fun c o m q => (sb.2 c (fun m' => m (by simp [m']))).trans (nk c o (fun m' => m (by simp [m'])) (fun m' => m (by simp [m'])) (fun m' => m (by simp [m'])) (fun m' => m (by simp [m'])) q)) hf (Nat.le_refl _) new
    have s1 : ItO k i a (n + 1) h' := by cases k <;> exact st1'.1
    have s2 : ItO l j b (n + 1) h' := by cases l <;> exact st2'.1
    refine ⟨.ref s.heap.objs.size, _, I1, rfl, ⟨_, x, y, rfl, I.hok.fresh (Nat.le_refl _), rfl, fun zs m => by rw [sqB_inj I m sx]; exact ex, fun zs m => by rw [sqB_inj I m sy]; exact ey⟩,
      ⟨z'', (sb.2 _ N.TIz).trans (nk _ _ N.TIz N.TITO N.TIi1 N.TIi2 q2), ⟨x1, y1, (sb.2 _ N.TOz).trans u'⟩, s1.at fun o q => (sb.2 _ N.i1z).trans q, s2.at fun o q => (sb.2 _ N.i2z).trans q⟩, fun c m => ?_⟩
    have lt : c < s.heap.objs.size := by
      obtain ⟨oi, gi, _⟩ := q4.there
      obtain ⟨oj, gj, _⟩ := q5.there
      have m' : c = z ∨ c = t ∨ c = u ∨ c = i ∨ c = j := by simpa using m
      rcases m' with m' | m' | m' | m' | m' <;> subst m'
      · exact zl
      · exact Heap.lt_size q2
      · exact Heap.lt_size q3
      · exact Heap.lt_size gi
      · exact Heap.lt_size gj
    rw [upd_ne (Nat.ne_of_lt lt)]
    exact (hf c m).1
  done := by
    intro X hP hw hK hc n pins s σ H E I hf st hg
    subst hP hw hK
    obtain ⟨q1, q2, ⟨x0, y0, q3⟩, q4, q5⟩ := st
    obtain ⟨xs, ys, sx, sy, b1, b2, b3⟩ := hg
    obtain ⟨us, ru, pu, _⟩ := sqB_at I sx
    obtain ⟨ws, rw', pw, _⟩ := sqB_at I sy
    have hh1 : X.A.in1.handled = none := I.ok.hd hc
    have n1 : xs.length = us.toArray.size := by rw [List.size_toArray]; exact ru.length
    have n2 : ys.length = ws.toArray.size := by rw [List.size_toArray]; exact rw'.length
    have S : ZipSep2 z t u i j [i, a] [j, b] := ⟨N.TIz, N.TOz, N.TITO, N.TIi1, by simp, by simp [N.i1z.symm, N.l1z.symm], by simp [N.TOi1, N.l1TO.symm], N.TIi2, by simp, by simp [N.i2z.symm, N.l2z.symm], by simp [N.TOi2, N.l2TO.symm],
      by simp [N.i12, N.l2i1.symm], by simp [N.i12.symm, N.l1i2.symm]⟩
    have st1 : ItB k i a n s.heap us.toArray := by cases k <;> exact ⟨q4, pu⟩
    have st2 : ItB l j b n s.heap ws.toArray := by cases l <;> exact ⟨q5, pw⟩
    exact wpAny_pyNext_zipD2_end S (drawsB k hh1 i a N.l1i1 us.toArray) (drawsB l hh1 j b N.l2i2 ws.toArray) q1 q2 q3 st1 st2 (by omega) (by omega) (by omega) fun h' tk nk => ⟨rfl, I.turnedL (ch := [z, t, u, i, j]) (fun c o m q =>
      nk c o (fun m' => m (by simp [m'])) (fun m' => m (by simp [m'])) (fun m' => m (by simp [m'])) (fun m' => m (by simp [m'])) q) hf⟩
  self := fun A n s Q E st h => wpAny_pyIter_zip st.1 h
def beginB (k : Bool) (l : Addr) : Obj := match k with
  | true => { cls := .type "list_iterator", data := .fields #[.ref l, .int 0 0] }
  | false => { cls := .type "tuple_iterator", data := .fields #[.ref l, .int 0 0] }
theorem beginsB (k : Bool) (l : Addr) (items : Array Value) : Begins (.ref l) (beginB k l) (fun h => SqO k h l items) := by
  cases k with
  | true => exact begins_list l items
  | false => exact begins_tuple l items
theorem beginO {k : Bool} {it l : Addr} {h : Heap} (e : h.get? it = some (beginB k l)) : ItO k it l 0 h := by
  cases k with
  | true => exact ⟨_, e, rfl, rfl⟩
  | false => exact ⟨_, e, rfl, rfl⟩
theorem pi_zipX {X : Cx} {e e2 : Expr} {ta : TA} {p pos tpos : Pos} {elts : List Expr} {kk : Nat} (hg : Gl X "zip") (hm : X.mg "zip" = none) (ha : PA X [e, e2] ta)
    (hs : starEach [e, e2] X.env = (false, eval e X.env) :: starEach [e2] X.env) (hpl : (backTo pos (starEach [e2] X.env)).any (·.1) = false) :
    PI X (.Tuple elts kk tpos) (.Call (.Name "zip" p) [e, e2] [] pos) (iZipX X.K ta) := by
  refine ⟨fun pins s σ H R I h => ?_⟩
  refine Call_ (ld_blt I hg hm PyProof.Rows.boot_zip (PyProof.Rows.callWith_type1 (thn (ha.run pos pins s σ H _ I h) fun us s1 ⟨vs, H1, I1, r1, q1⟩ => ?_) hs hpl))
  obtain ⟨k, l, a, b, xs, ys, ev, sx, sy, q⟩ := q1
  subst ev
  obtain ⟨u1, u2, rfl, c1, c2⟩ := vals2 r1
  cases c1
  cases c2
  obtain ⟨us, ru, pu, lu⟩ := sqB_at I1 sx
  obtain ⟨ws, rw', pw, lw⟩ := sqB_at I1 sy
  refine zip_begins2 (beginsB k a us.toArray) (beginsB l b ws.toArray) pu pw fun h' z1 z2 z3 z4 z5 zs zk => wpAny_pyIter_zip z1 ?_
  have I2 : Inv X pins σ H1 { s1 with heap := h' } := I1.kept (t' := s1.toks) zk
  refine ⟨s1.heap.objs.size + 4, [s1.heap.objs.size + 4, s1.heap.objs.size + 2, s1.heap.objs.size + 3, s1.heap.objs.size, s1.heap.objs.size + 1], _, _, H1, rfl, I2, turn_zipX (PySem.W.ktu_apart s1.heap.objs.size a b lu lw),
    ⟨z1, z2, ⟨_, _, z3⟩, beginO z4, beginO z5⟩, fun c m => ?_, q⟩
  have le : s1.heap.objs.size ≤ c := by
    have m' : c = s1.heap.objs.size + 4 ∨ c = s1.heap.objs.size + 2 ∨ c = s1.heap.objs.size + 3 ∨ c = s1.heap.objs.size ∨ c = s1.heap.objs.size + 1 := by simpa using m
    rcases m' with m' | m' | m' | m' | m' <;> rw [m'] <;> first | exact Nat.le_add_right _ _ | exact Nat.le_refl _
  exact I1.fpOk le (I1.hok.fresh le)
end Rf
set_option Elab.async false
set_option autoImplicit false
set_option linter.all false
set_option maxRecDepth 100000
set_option maxHeartbeats 4000000
/-! Own objects: fields, methods by the object's class, making; for the mini syntax (rules, not yet in RfCore). -/
namespace Rf
open PySem PySem.Spec PyProof.Rows L2
section
variable {X : Cx} {CX : CXT} {k : Nat} {C f : Addr} {fd : FuncData} {ps : List Str} {sp : Sp} {E : L2.St → XK} {x m : Str} {p pos pos' apos tpos : Pos} {e o value : Expr} {es : List Expr} {ta tv : TE} {t : TA} {me : Me}
theorem pe_fldX {f : Str} (he : PE X e ta) (hb : attributeBase e f X.env (eval e X.env) = eval e X.env) : PE X (.Attribute e f pos) (tFldX X.K ta f) := by
  refine ⟨fun pins s σ H Q I h => ?_⟩
  refine attr_of hb (thn (he.run pins s σ H _ I h) fun u s1 ⟨x, H1, I1, rx, q⟩ => ?_)
  cases x with
  | ref a =>
    dsimp only at q
    split at q
    · rename_i C dx fs ei
      obtain ⟨c, n, q⟩ := q
      split at q
      · rename_i v l
        obtain rfl : u = Value.ref a := rx
        exact getattr_ok I1 (insH_ok ei) c n l fun u' s2 I2 ru => ⟨v, H1, I2, ru, q⟩
      · exact q.elim
    · obtain ⟨D, dx, fs, v, h1, h2, EC, na, l, q⟩ := q
      obtain rfl : u = Value.ref a := rx
      obtain ⟨⟨oe, vs, g1, g2, g3⟩, _, _⟩ := (show ObjOk X.prog X.w H1 s1.heap a (.ext (exvP (.ref D) (some dx) a)) from I1.hok a _ h1)
      obtain ⟨mA, ns, r⟩ := (show ∃ mA, s1.heap.Ns1 dx mA ∧ ∀ f, RelO (fs.lookup f) (mA f) from I1.hok dx _ h2)
      obtain ⟨od, ho, hl⟩ := lookIn_ns ns
      obtain ⟨u, hu, ru⟩ := RelO.some_of (v := v) (o := mA f) (by rw [← l]; exact r f)
      have J : PySem.W.InstAt s1.heap a oe D (some od) := by
        obtain ⟨oc, odd, oda, osl⟩ := oe
        obtain ⟨z1, z2⟩ := g2
        dsimp only at z1 z2 g3
        subst z1 z2 g3
        exact ⟨g1, rfl, rfl, ho⟩
      exact HandSPX.exc_get I1.kIn J EC.hg EC.hk EC.hs (PySem.W.findObj_own EC.hd na rfl (by rw [hl, hu])) (handed_of ru) ⟨v, H1, I1.tok _, ru, q⟩
  | _ => exact q.elim
theorem ps_sfldX {f : Str} (ha : PE X o ta) (hv : PE X value tv) (hs : swapsWith value (some (.Attribute o f pos')) pos.line X.env = pure false) : PS X (.Assign [.Attribute o f pos'] value pos) (tSFldX X.K ta tv f) := by
  refine ⟨fun pins s σ H D I h => ?_⟩
  refine plainObj_wpAny_Assign_Attribute (thn (hv.run pins s σ H _ I h) fun u s1 ⟨y, H1, I1, ry, q⟩ => thn (ha.run pins s1 σ H1 _ I1 q) fun ov s2 ⟨x, H2, I2, rx, q⟩ => ?_) hs
  cases x with
  | ref a =>
    dsimp only at q
    split at q
    · rename_i C dx fs ei
      obtain ⟨c, n, l, q⟩ := q
      obtain rfl : ov = Value.ref a := rx
      exact setattr_ok I2 (insH_ok ei) c n l ry fun s3 I3 => ⟨σ, _, I3, q⟩
    · exact q.elim
  | _ => exact q.elim
theorem ps_afldX {f : Str} {op : Operator} {rd : V → V → Hp → VK → Prop} (ha : PE X o ta) (hv : PE X value tv) (hop : InOp X op rd) : PS X (.AugAssign (.Attribute o f tpos) op value pos) (tAFldX X.K ta tv rd f) := by
  refine ⟨fun pins s σ H D I h => ?_⟩
  refine wpAny_AugAssign_AttributeAny (thn (ha.run pins s σ H _ I h) fun ov s1 ⟨x, H1, I1, rx, q⟩ => ?_)
  cases x with
  | ref a =>
    dsimp only at q
    split at q
    · rename_i C dx fs ei
      obtain ⟨c, n, q⟩ := q
      split at q
      · rename_i v l
        obtain rfl : ov = Value.ref a := rx
        refine getattr_ok I1 (insH_ok ei) c n l fun u s2 I2 ru => thn (hv.run pins s2 σ H1 _ I2 q) fun w3 s3 ⟨y, H2, I3, ry, q3⟩ => thn (hop pins s3 σ H2 v y u w3 _ I3 ru ry q3) fun w4 s4 ⟨z, H3, I4, rz, q4⟩ => ?_
        dsimp only at q4
        split at q4
        · rename_i C' dx' fs' ei'
          obtain ⟨rfl, l', q4⟩ := q4
          exact setattr_ok I4 (insH_ok ei') c n l' rz fun s5 I5 => ⟨σ, _, I5, q4⟩
        · exact q4.elim
      · exact q.elim
    · exact q.elim
  | _ => exact q.elim
theorem pe_own {pl : Sem Bool} (he : PE X o ta) (mo : MeOk X me) (hx : ∀ σ, PassesAt (L2.CX X.prog X.w) X σ (E σ)) (ha : PA X (e :: es) t)
    (hst : starEach (e :: es) X.env = (false, eval e X.env) :: starEach es X.env := by rfl) (hpl : (backTo pos (starEach es X.env)).any (·.1) = false := by rfl)
    (ht : eval (.Call (.Attribute o m apos) (e :: es) [] pos) X.env = (do
      let ov ← eval o X.env
      standAt apos.atName
      let (f, first) ← holding [ov] (getMethod ov m pl)
      callWith pos f first (backTo pos (starEach (e :: es) X.env)) (backToKw pos (keywordEach [] X.env)))) :
    PE X (.Call (.Attribute o m apos) (e :: es) [] pos) (tOwn me E m ta t) := by
  refine ⟨fun pins s σ H Q I h => ?_⟩
  refine PySem.W.methodCall_KW (pl := pl) (thn (he.run pins s σ H _ I h) fun u s1 ⟨x, H1, I1, rx, q⟩ => ?_) ht
  cases x with
  | ref a =>
    dsimp only at q
    split at q
    · rename_i C dx fs ei
      obtain ⟨l, q⟩ := q
      split at q
      · rename_i sp em
        obtain ⟨f, fd, ps, k, c, hm, F, hr, hb⟩ := mo C m sp em
        obtain rfl : u = Value.ref a := rx
        refine getmeth_ok I1 (insH_ok ei) c hm l ?_
        refine PySem.W.callWith_K (first := [.ref a]) (h₀ := X.base) I.ok.mod.kin hm.kp (thn (ha.run pos pins s1 σ H1 _ I1 q) fun us s2 ⟨vs, H2, I2, r, q2⟩ => ⟨I2.kIn, ?_⟩) hst hpl
        exact run_fnS (us := .ref a :: us) (vs := .ref a :: vs) F hr hb (hx σ) I2 (.cons rfl r) q2
      · exact q.elim
    · exact q.elim
  | _ => exact q.elim
theorem pe_own0 {pl : Sem Bool} (he : PE X o ta) (mo : MeOk X me) (hx : ∀ σ, PassesAt (L2.CX X.prog X.w) X σ (E σ))
    (ht : eval (.Call (.Attribute o m apos) [] [] pos) X.env = (do
      let ov ← eval o X.env
      standAt apos.atName
      let (f, first) ← holding [ov] (getMethod ov m pl)
      callWith pos f first (backTo pos (starEach [] X.env)) (backToKw pos (keywordEach [] X.env)))) :
    PE X (.Call (.Attribute o m apos) [] [] pos) (tOwn me E m ta tNil) := by
  refine ⟨fun pins s σ H Q I h => ?_⟩
  refine PySem.W.methodCall_KW (pl := pl) (thn (he.run pins s σ H _ I h) fun u s1 ⟨x, H1, I1, rx, q⟩ => ?_) ht
  cases x with
  | ref a =>
    dsimp only at q
    split at q
    · rename_i C dx fs ei
      obtain ⟨l, q⟩ := q
      split at q
      · rename_i sp em
        obtain ⟨f, fd, ps, k, c, hm, F, hr, hb⟩ := mo C m sp em
        obtain rfl : u = Value.ref a := rx
        refine getmeth_ok I1 (insH_ok ei) c hm l ?_
        exact PySem.W.callWith_K0 (first := [.ref a]) I1.kIn hm.kp (run_fnS (us := [.ref a]) (vs := [.ref a]) F hr hb (hx σ) I1 (.cons rfl .nil) q)
      · exact q.elim
    · exact q.elim
  | _ => exact q.elim
/-- a new object, its __init__ -/
theorem run_makeX {pins : List (Addr × Obj)} {σ : L2.St} {H : Hp} {s : Shared} {Q : VK} {us : List Value} {vs : List V} (M : Mk X.K C f) (F : FnOk X.prog X.w X.K X.mg X.base CX k f fd ps sp) (hr : Room (k + 1) X.A) (hb : Binds X.K fd ps [])
    (hx : PassesAt CX X σ (E σ)) (I : Inv X pins σ H s) (r : Vals vs us)
    (h : ∀ x dx, H x = none → H dx = none → dx ≠ x → sp (.ref x :: vs) (upd (upd H dx (.own x)) x (.ins C dx [])) (fun v H2 => v = .non ∧ Q (.ref x) H2) (E σ)) :
    wpAny (model X.prog X.w) X.A (call (.ref C) us) (EP X pins σ Q) X.xe s := by
  have hq := h (s.heap.objs.size + 1) s.heap.objs.size (I.hok.fresh (Nat.le_succ _)) (I.hok.fresh (Nat.le_refl _)) (Nat.ne_of_lt (Nat.lt_succ_self _))
  have I2 := Inv.made (C := C) I
  have r2 : Vals (V.ref (s.heap.objs.size + 1) :: vs) (Value.ref (s.heap.objs.size + 1) :: us) := .cons rfl r
  have hl : (Value.ref (s.heap.objs.size + 1) :: us).length = ps.length := by
    have e := r2.length
    rw [F.len _ _ _ _ hq] at e
    exact e.symm
  refine wpAny_call (make_map (f := f) I.kIn M.makes M.init (beq_iff_eq.mp M.fn) (codeAny_mono (F.run _ X.stack _ _ ⟨Value.ref (s.heap.objs.size + 1) :: us, []⟩ (Value.ref (s.heap.objs.size + 1) :: us) _ _ (E σ) (hr.make C us [])
    (I2.env0.make C us []) (by
      have b := hb _ (Value.ref (s.heap.objs.size + 1) :: us) I2.kIn (by rw [List.append_nil]; exact hl)
      rw [List.append_nil] at b
      exact b) r2 hq) fun r s' hq' => ?_))
  cases r with
  | error e => exact hx pins _ _ e s' I2 hq'
  | ok fl =>
    cases fl with
    | ret u =>
      obtain ⟨v, H', I3, rv, ev, q3⟩ := I2.after hq'
      subst ev
      exact ⟨rv, ⟨V.ref (s.heap.objs.size + 1), H', I3, rfl, q3⟩⟩
    | next => exact False.elim hq'
    | brk => exact False.elim hq'
    | cont => exact False.elim hq'
theorem pe_makeX (M : Mk X.K C f) (F : FnOk X.prog X.w X.K X.mg X.base CX k f fd ps sp) (hr : Room (k + 1) X.A) (hg : Gl X x) (hm : X.mg x = some (.ref C)) (hb : Binds X.K fd ps []) (hx : ∀ σ, PassesAt CX X σ (E σ))
    (ha : PA X (e :: es) t) (hdb : (x == ("__debug__" : Str)) = false := by decide) (he : starEach (e :: es) X.env = (false, eval e X.env) :: starEach es X.env := by rfl) (hpl : (backTo pos (starEach es X.env)).any (·.1) = false := by rfl) :
    PE X (.Call (.Name x p) (e :: es) [] pos) (tMakeX C sp E t) := by
  refine ⟨fun pins s σ H Q I h => ?_⟩
  refine wpAny_Call_Name_kw (ld_glob I hg hm ?_ hdb)
  refine PySem.W.callWith_K (h₀ := X.base) I.ok.mod.kin M.kp (thn (ha.run pos pins s σ H _ I h) fun us s1 ⟨vs, H1, I1, r, q⟩ => ⟨I1.kIn, ?_⟩) he hpl
  exact run_makeX M F hr hb (hx σ) I1 r q
theorem pe_makeX0 (M : Mk X.K C f) (F : FnOk X.prog X.w X.K X.mg X.base CX k f fd ps sp) (hr : Room (k + 1) X.A) (hg : Gl X x) (hm : X.mg x = some (.ref C)) (hb : Binds X.K fd ps []) (hx : ∀ σ, PassesAt CX X σ (E σ))
    (hdb : (x == ("__debug__" : Str)) = false := by decide) : PE X (.Call (.Name x p) [] [] pos) (tMakeX C sp E tNil) := by
  refine ⟨fun pins s σ H Q I h => ?_⟩
  refine wpAny_Call_Name_kw (ld_glob I hg hm ?_ hdb)
  exact PySem.W.callWith_K0 I.kIn M.kp (run_makeX (us := []) M F hr hb (hx σ) I .nil h)
end
theorem ht_own {o : Expr} {m : Str} {apos pos : Pos} {es : List Expr} {env : Env} (hb : attributeBase o m env (eval o env) = eval o env)
    (hform : methodCallForm (es.length + ([] : List Keyword).length) (backTo pos (starEach es env)) (backToKw pos (keywordEach [] env)) = true) (hline : (apos.endLine == pos.line) = true) : ∃ pl : Sem Bool, eval (.Call (.Attribute o m apos) es [] pos) env = (do
      let ov ← eval o env
      standAt apos.atName
      let (f, first) ← holding [ov] (getMethod ov m pl)
      callWith pos f first (backTo pos (starEach es env)) (backToKw pos (keywordEach [] env))) := by
  refine ⟨(do return (← importBound o env).getD true), ?_⟩
  rw [arm_eval_Call, hb]
  have hpos : methodCallPos true o env apos pos = pure pos := by unfold methodCallPos; simp [hline]
  unfold methodCall calleeOf
  rw [hform]
  simp only [hpos, if_true]
  rfl
end Rf
set_option Elab.async false
set_option autoImplicit false
set_option linter.all false
set_option maxRecDepth 100000
set_option maxHeartbeats 4000000
namespace Rf
open PySem PySem.Spec PyProof.Rows L2
theorem no {p : Prop} (h : false = true) : p := absurd h Bool.false_ne_true
theorem sp_of {X : Cx} {C : Ct} {D : Dn} (o : XOk X C D) {i : Nat} {x : Str} (h : C.fns[i]? = some x) : ∃ (f : Addr) (fd : FuncData) (ps : List Str) (k : Nat), D.fa[i]? = some f ∧ X.mg x = some (.ref f) ∧ PySem.W.keepIn X.K (.ref f) = true ∧
    FnOk X.prog X.w X.K X.mg X.base (L2.CX X.prog X.w) k f fd ps (spAt D i) ∧ Room k X.A ∧ Binds X.K fd ps [] := by
  obtain ⟨s, f, fd, ps, k, h1, h2, h3, h4, h5, h6, h7⟩ := o.fn i x h
  refine ⟨f, fd, ps, k, h2, h3, h4, ?_, h6, h7⟩
  have e : spAt D i = s := by unfold spAt; rw [h1] <;> rfl
  rw [e]
  exact h5
theorem keysB_all : ∀ {ks : List Str} {keys : List (Option Expr)}, keysB ks keys = true → keys.all (·.isSome) = true
  | [], [], _ => rfl
  | x :: xs, some (.Constant (.str y) _ _) :: ks, h => by
    obtain ⟨_, h2⟩ := and2 (show (decide (x = y) && keysB xs ks) = true from h)
    rw [List.all_cons, keysB_all h2]
    rfl
theorem tgs_ok {X : Cx} {C : Ct} {D : Dn} (o : XOk X C D) : ∀ {tgs : List Nat} {elts : List Expr}, tgB C.N C.sc tgs elts = true → PGs X elts (gNames tgs) ∧ (assignEach elts X.env).length = tgs.length ∧ (assignEach elts X.env).findIdx? (·.1) = none
  | [], [], _ => ⟨pgs_nil, rfl, rfl⟩
  | i :: r, e :: es, h => by
    cases e with
    | Name x p =>
      obtain ⟨h1, h2⟩ := and2 (show (lookS C.N i x && (locB C.sc x && tgB C.N C.sc r es)) = true from h)
      obtain ⟨h2, h3⟩ := and2 h2
      obtain ⟨l1, l2⟩ := o.loc x h2
      obtain ⟨z1, z2, z3⟩ := tgs_ok o h3
      have e1 : assignEach (.Name x p :: es) X.env = (false, assign (.Name x p) X.env) :: assignEach es X.env := rfl
      refine ⟨pgs_cons (pg_name (by rw [o.N]; exact o.nd) (by rw [o.N]; exact lookS_ok h1) l1 l2) z1 (by rw [e1] <;> rfl), by rw [e1, List.length_cons, z2]; rfl, by rw [e1, List.findIdx?_cons, z3]; rfl⟩
    | _ => exact no h
  | [], _ :: _, h => no h
  | _ :: _, [], h => no h
theorem tg_ok {X : Cx} {C : Ct} {D : Dn} (o : XOk X C D) {tgs : List Nat} {elts : List Expr} {tk : Nat} {tp : Pos} (h : tgB C.N C.sc tgs elts = true) : PG X (.Tuple elts tk tp) (gTup X.K tgs.length (gNames tgs)) := by
  obtain ⟨z1, z2, z3⟩ := tgs_ok o h
  exact pg_tup o.calm z1 z2 z3
mutual
theorem soundE : ∀ (r : RE) {e : Expr} {X : Cx} {C : Ct} {D : Dn}, XOk X C D → ckE C r e = true → PE X e (wpE D r)
  | .var i, e, X, C, D, o, h => by
    cases e with
    | Name x p =>
      have h : (lookS C.N i x && (visB C.sc x && noDb x)) = true := h
      obtain ⟨h1, h2⟩ := and2 h
      obtain ⟨h2, h3⟩ := and2 h2
      obtain ⟨d1, d2, _⟩ := noDb_ok h3
      exact pe_mono (pe_var (by rw [o.N]; exact lookS_ok h1) (o.vis x h2) d1 d2) fun _ _ _ => rVar_var
    | _ => exact no h
  | .int i, e, X, C, D, o, h => by
    cases e with
    | Constant c k p =>
      cases c with
      | int j =>
        have e : i = j := of_decide_eq_true h
        subst e
        exact pe_int
      | _ => exact no h
    | _ => exact no h
  | .bl i, e, X, C, D, o, h => by
    cases e with
    | Constant c k p =>
      cases c with
      | bool j =>
        have e : i = j := of_decide_eq_true h
        subst e
        exact pe_bl
      | _ => exact no h
    | _ => exact no h
  | .non, e, X, C, D, o, h => by
    cases e with
    | Constant c k p =>
      cases c with
      | none => exact pe_non
      | _ => exact no h
    | _ => exact no h
  | .str i, e, X, C, D, o, h => by
    cases e with
    | Constant c k p =>
      cases c with
      | str j =>
        have e : i = j := of_decide_eq_true h
        subst e
        exact pe_str
      | _ => exact no h
    | _ => exact no h
  | .gc i, e, X, C, D, o, h => by
    cases e with
    | Name x p =>
      have h : (lookS C.gs i x && (glB C.sc x && noDb x)) = true := h
      obtain ⟨h1, h2⟩ := and2 h
      obtain ⟨h2, h3⟩ := and2 h2
      obtain ⟨d1, d2, _⟩ := noDb_ok h3
      obtain ⟨v, u, g1, g2, g3⟩ := o.gs i x (lookS_ok h1)
      refine pe_mono (pe_glob (o.gl x h2) g2 g3 d1) fun σ H Q q => ?_
      have q : gvAt D i σ H Q := q
      unfold gvAt at q
      rw [g1] at q
      exact q
    | _ => exact no h
  | .gf i, e, X, C, D, o, h => by
    cases e with
    | Name x p =>
      have h : (lookS C.fns i x && (glB C.sc x && noDb x)) = true := h
      obtain ⟨h1, h2⟩ := and2 h
      obtain ⟨h2, h3⟩ := and2 h2
      obtain ⟨d1, d2, _⟩ := noDb_ok h3
      obtain ⟨f, fd, ps, k, g1, g2, _⟩ := sp_of o (lookS_ok h1)
      refine pe_mono (pe_glob (v := .ref f) (o.gl x h2) g2 rfl d1) fun σ H Q q => ?_
      have q : faAt D i σ H Q := q
      unfold faAt at q
      rw [g1] at q
      exact q
    | _ => exact no h
  | .ty n, e, X, C, D, o, h => by
    cases e with
    | Name x p =>
      have h : (decide (x = Str.ofString n) && (glB C.sc x && (noDb x && (decide (x ∈ C.fr) && decide (bootBuiltins x = some (.type n)))))) = true := h
      obtain ⟨_, h2⟩ := and2 h
      obtain ⟨h2, h3⟩ := and2 h2
      obtain ⟨h3, h4⟩ := and2 h3
      obtain ⟨h4, h5⟩ := and2 h4
      obtain ⟨d1, d2, d3⟩ := noDb_ok h3
      exact pe_bltn (v := .ty n) (o.gl x h2) (o.fr x (of_decide_eq_true h4)) (of_decide_eq_true h5) rfl d3 d1
    | _ => exact no h
  | .bin op a b, e, X, C, D, o, h => by
    cases e with
    | BinOp l op' r p =>
      have h : (decide (op' = op) && (ckE C a l && ckE C b r)) = true := h
      obtain ⟨h1, h2⟩ := and2 h
      obtain ⟨h2, h3⟩ := and2 h2
      have e : op' = op := of_decide_eq_true h1
      subst e
      exact pe_op (op_bin op') (soundE a o h2) (soundE b o h3)
    | _ => exact no h
  | .neg a, e, X, C, D, o, h => by
    cases e with
    | UnaryOp op x p =>
      have h : (decide (op = .USub) && ckE C a x) = true := h
      obtain ⟨h1, h2⟩ := and2 h
      have e : op = .USub := of_decide_eq_true h1
      subst e
      exact pe_un un_negX (soundE a o h2)
    | _ => exact no h
  | .cmp op a b, e, X, C, D, o, h => by
    cases e with
    | Compare l ops rs p =>
      cases ops with
      | nil => exact no h
      | cons op' ops =>
        cases ops with
        | cons _ _ => exact no h
        | nil =>
          cases rs with
          | nil => exact no h
          | cons r rs =>
            cases rs with
            | cons _ _ => exact no h
            | nil =>
              have h : (decide (op' = op) && (!behindInMarks op' r && (ckE C a l && ckE C b r))) = true := h
              obtain ⟨h1, h2⟩ := and2 h
              obtain ⟨h2, h3⟩ := and2 h2
              obtain ⟨h3, h4⟩ := and2 h3
              have e : op' = op := of_decide_eq_true h1
              subst e
              have hu := o.rm.units
              have z := op_cmp (X := X) hu op'
              rw [o.K] at z
              exact pe_cmpR z (soundE a o h3) (soundE b o h4) (by simpa using h2)
    | _ => exact no h
  | .chain op op2 a b c, e, X, C, D, o, h => by
    cases e with
    | Compare l ops rs p =>
      match ops, rs, h with
      | [o1, o2], [m, r], h =>
        have h : (decide (o1 = op) && (decide (o2 = op2) && (!lastMarks [o1, o2] [m, r] && (ckE C a l && (ckE C b m && ckE C c r))))) = true := h
        obtain ⟨h1, h2⟩ := and2 h
        obtain ⟨h2, h3⟩ := and2 h2
        obtain ⟨h3, h4⟩ := and2 h3
        obtain ⟨h4, h5⟩ := and2 h4
        obtain ⟨h5, h6⟩ := and2 h5
        have e : o1 = op := of_decide_eq_true h1
        have e2 : o2 = op2 := of_decide_eq_true h2
        subst e e2
        have hu := o.rm.units
        have z1 := op_cmp (X := X) hu o1
        have z2 := op_cmp (X := X) hu o2
        rw [o.K] at z1 z2
        exact pe_chain z1 z2 (soundE a o h4) (soundE b o h5) (soundE c o h6) (by simpa using h3)
      | [], _, h => exact no h
      | [_], _, h => exact no h
      | _ :: _ :: _ :: _, _, h => exact no h
      | [_, _], [], h => exact no h
      | [_, _], [_], h => exact no h
      | [_, _], _ :: _ :: _ :: _, h => exact no h
    | _ => exact no h
  | .andV a b, e, X, C, D, o, h => by
    cases e with
    | BoolOp op vs p =>
      cases op with
      | Or => exact no h
      | And =>
        match vs, h with
        | [x, y], h =>
          obtain ⟨h1, h2⟩ := and2 (show (ckE C a x && ckE C b y) = true from h)
          exact pe_and (soundE a o h1) (pe_one (soundE b o h2))
        | x :: y :: z :: r, h =>
          obtain ⟨h1, h2⟩ := and2 (show (ckE C a x && ckE C b (.BoolOp .And (y :: z :: r) p)) = true from h)
          exact pe_and (soundE a o h1) (soundE b o h2)
        | [], h => exact no h
        | [_], h => exact no h
    | _ => exact no h
  | .orV a b, e, X, C, D, o, h => by
    cases e with
    | BoolOp op vs p =>
      cases op with
      | And => exact no h
      | Or =>
        match vs, h with
        | [x, y], h =>
          obtain ⟨h1, h2⟩ := and2 (show (ckE C a x && ckE C b y) = true from h)
          exact pe_or (soundE a o h1) (pe_one (soundE b o h2))
        | x :: y :: z :: r, h =>
          obtain ⟨h1, h2⟩ := and2 (show (ckE C a x && ckE C b (.BoolOp .Or (y :: z :: r) p)) = true from h)
          exact pe_or (soundE a o h1) (soundE b o h2)
        | [], h => exact no h
        | [_], h => exact no h
    | _ => exact no h
  | .notV a, e, X, C, D, o, h => by
    cases e with
    | UnaryOp op x p =>
      cases op with
      | Not =>
        have he := soundE a o (show ckE C a x = true from h)
        refine ⟨fun pins s σ H Q I q => ?_⟩
        refine UnaryOp_ (thn (he.run pins s σ H _ I q) fun v s1 ⟨y, H1, I1, r1, q1⟩ => not_of ?_)
        rw [← o.K] at q1
        refine thn (truX pins s1 σ H1 y v _ I1 r1 q1) fun k s2 ⟨H2, I2, q2⟩ => ⟨.bl (!k), H2, I2, rfl, q2⟩
      | _ => exact no h
    | _ => exact no h
  | .ifE t a b, e, X, C, D, o, h => by
    cases e with
    | IfExp c x y p =>
      obtain ⟨h1, h2⟩ := and2 (show (ckT C t c && (ckE C a x && ckE C b y)) = true from h)
      obtain ⟨h2, h3⟩ := and2 h2
      exact pe_ifExp (soundT t o h1) (soundE a o h2) (soundE b o h3)
    | _ => exact no h
  | .call i as, e, X, C, D, o, h => by
    cases e with
    | Call f es ks p =>
      cases f with
      | Name x q =>
        match es, ks, h with
        | e :: es, [], h =>
          obtain ⟨h1, h2⟩ := and2 (show (lookS C.fns i x && (glB C.sc x && (noDb x && ckA C as (e :: es)))) = true from h)
          obtain ⟨h2, h3⟩ := and2 h2
          obtain ⟨h3, h4⟩ := and2 h3
          obtain ⟨d1, d2, d3⟩ := noDb_ok h3
          obtain ⟨f, fd, ps, k, g1, g2, g3, g4, g5, g6⟩ := sp_of o (lookS_ok h1)
          obtain ⟨r, hr⟩ := rest_ca h4
          exact pe_callS g4 g5 (o.gl x h2) g2 g3 g6 (fun σ => passAt o.tk σ) (soundA as o h4) d1 (star_ca X.env h4) (bt_star p X.env hr).1
        | [], _, h => exact no h
        | _ :: _, _ :: _, h => exact no h
      | _ => exact no h
    | _ => exact no h
  | .cb f as, e, X, C, D, o, h => by
    cases e with
    | Call g es ks p =>
      cases g with
      | Name x q =>
        match es, ks, h with
        | e :: es, [], h =>
          obtain ⟨h1, h2⟩ := and2 (show (decide (x = f.name) && (glB C.sc x && (noDb x && (decide (x ∈ C.fr) && ckA C as (e :: es))))) = true from h)
          obtain ⟨h2, h3⟩ := and2 h2
          obtain ⟨h3, h4⟩ := and2 h3
          obtain ⟨h4, h5⟩ := and2 h4
          obtain ⟨d1, d2, d3⟩ := noDb_ok h3
          have ex : x = f.name := of_decide_eq_true h1
          obtain ⟨r, hr⟩ := rest_ca h5
          exact pe_callB (c_blt o f) (o.gl x h2) (o.fr x (of_decide_eq_true h4)) (by rw [ex]; exact b_blt f) (soundA as o h5) d3 d1 (star_ca X.env h5) (bt_star p X.env hr).1
        | [], _, h => exact no h
        | _ :: _, _ :: _, h => exact no h
      | _ => exact no h
    | _ => exact no h
  | .ct f as, e, X, C, D, o, h => by
    cases e with
    | Call g es ks p =>
      cases g with
      | Name x q =>
        match es, ks, h with
        | e :: es, [], h =>
          obtain ⟨h1, h2⟩ := and2 (show (decide (x = f.name) && (glB C.sc x && (noDb x && (decide (x ∈ C.fr) && ckA C as (e :: es))))) = true from h)
          obtain ⟨h2, h3⟩ := and2 h2
          obtain ⟨h3, h4⟩ := and2 h3
          obtain ⟨h4, h5⟩ := and2 h4
          obtain ⟨d1, d2, d3⟩ := noDb_ok h3
          have ex : x = f.name := of_decide_eq_true h1
          obtain ⟨r, hr⟩ := rest_ca h5
          exact pe_callTy (c_typ o f) (o.gl x h2) (o.fr x (of_decide_eq_true h4)) (by rw [ex]; exact b_typ f) (soundA as o h5) d3 d1 (star_ca X.env h5) (bt_star p X.env hr).1
        | [], _, h => exact no h
        | _ :: _, _ :: _, h => exact no h
      | _ => exact no h
    | _ => exact no h
  | .mt m a as, e, X, C, D, o, h => by
    cases e with
    | Call g es ks cp =>
      cases g with
      | Attribute b x ap =>
        match es, ks, h with
        | e :: es, [], h =>
          obtain ⟨h1, h2⟩ := and2 (show (decide (x = m.name) && (noSuper b && ((ap.endLine == cp.line) && (decide ((e :: es).length < 30) && (ckE C a b && ckA C as (e :: es)))))) = true from h)
          obtain ⟨h2, h3⟩ := and2 h2
          obtain ⟨h3, h4⟩ := and2 h3
          obtain ⟨h4, h5⟩ := and2 h4
          obtain ⟨h5, h6⟩ := and2 h5
          have ex : x = m.name := of_decide_eq_true h1
          subst ex
          obtain ⟨id, f1, f2, f3, f4⟩ := bm_facts m
          obtain ⟨r, hr⟩ := rest_ca h6
          have hl : (e :: es).length < 30 := of_decide_eq_true h4
          have z := pe_bm (X := X) f1 f2 f3 (f4 X) (soundE a o h5) (soundA as o h6) (base_plain h2) (by
            rw [(bt_star cp X.env h6).2]
            show (true && true && decide ((e :: es).length + 0 + 0 < 30)) = true
            rw [decide_eq_true (show (e :: es).length + 0 + 0 < 30 from hl)]
            rfl) h3 (star_ca X.env h6) (bt_star cp X.env hr).1
          rw [o.K] at z
          exact z
        | [], _, h => exact no h
        | _ :: _, _ :: _, h => exact no h
      | _ => exact no h
    | _ => exact no h
  | .ix a b, e, X, C, D, o, h => by
    cases e with
    | Subscript x y p =>
      obtain ⟨h1, h2⟩ := and2 (show (noSlice y && (ckE C a x && ckE C b y)) = true from h)
      obtain ⟨h2, h3⟩ := and2 h2
      have z := ix_X (X := X) (by have := o.rm.units; omega)
      rw [o.K] at z
      exact pe_ix z (soundE a o h2) (soundE b o h3) (ix_plain h1)
    | _ => exact no h
  | .sl a lo hi, e, X, C, D, o, h => by
    cases e with
    | Subscript x y p =>
      cases y with
      | Slice l u st q =>
        cases st with
        | none =>
          obtain ⟨h1, h2⟩ := and2 (show (ckE C a x && (ckO C lo l && ckO C hi u)) = true from h)
          obtain ⟨h2, h3⟩ := and2 h2
          have z := sl_X (X := X)
          rw [o.K] at z
          exact pe_slice z (soundE a o h1) (soundO lo o h2) (soundO hi o h3)
        | some _ => exact no h
      | _ => exact no h
    | _ => exact no h
  | .lst as, e, X, C, D, o, h => by
    cases e with
    | List es p => exact pe_lst (soundA as o h)
    | _ => exact no h
  | .tup as, e, X, C, D, o, h => by
    cases e with
    | Tuple es k p => exact pe_tup (soundA as o h)
    | _ => exact no h
  | .dnew, e, X, C, D, o, h => by
    cases e with
    | Dict ks vs p =>
      match ks, vs, h with
      | [], [], _ => exact pe_dnewK
      | _ :: _, _, h => exact no h
      | [], _ :: _, h => exact no h
    | _ => exact no h
  | .lc own tg it c r, e, X, C, D, o, h => by
    cases e with
    | ListComp elt gs scope p =>
      match gs, h with
      | [⟨t, iter, ifs, k⟩], h =>
        cases t with
          | Name x q =>
            obtain ⟨h0, h1⟩ := and2 (show (decide (k = 0) && (blkC C.N C.sc scope own && (lookS C.N tg x && (locB scope x && (noSet iter && (ckI C false it iter && (ckC { C with sc := scope } c ifs && ckE { C with sc := scope } r elt))))))) = true from h)
            obtain ⟨h1, h2⟩ := and2 h1
            obtain ⟨h2, h3⟩ := and2 h2
            obtain ⟨h3, h4⟩ := and2 h3
            obtain ⟨h4, h5⟩ := and2 h4
            obtain ⟨h5, h6⟩ := and2 h5
            obtain ⟨h6, h7⟩ := and2 h6
            have ek : k = 0 := of_decide_eq_true h0
            subst ek
            exact pe_lc o.calm (by rw [o.N]; exact o.nd) (soundI it (tup := false) (fun z => nomatch z) o h5) (o.scp scope own h1)
              (fun s H a cl fp => by
                have ob := o.blk scope s H a cl fp
                obtain ⟨l1, l2⟩ := ob.loc x h3
                exact pg_name (by rw [ob.N]; exact ob.nd) (by rw [ob.N]; exact lookS_ok h2) l1 l2)
              (fun s H a cl fp => soundC c (o.blk scope s H a cl fp) h6) (fun s H a cl fp => soundE r (o.blk scope s H a cl fp) h7) (fold_plain h4)
          | _ => exact no h
      | [], h => exact no h
      | _ :: _ :: _, h => exact no (by
          rename_i g1 g2 g3
          obtain ⟨t, iter, ifs, k⟩ := g1
          cases t <;> exact h)
    | _ => exact no h
  | .hnd a, e, X, C, D, o, h => soundE a o (show ckE C a e = true by cases e <;> exact h)
  | .lcT own tgs it c r, e, X, C, D, o, h => by
    cases e with
    | ListComp elt gs scope p =>
      match gs, h with
      | [⟨t, iter, ifs, k⟩], h =>
        cases t with
          | Tuple elts tk tp =>
            obtain ⟨h0, h1⟩ := and2 (show (decide (k = 0) && (blkC C.N C.sc scope own && (tgB C.N scope tgs elts && (noSet iter && (ckI C true it iter && (ckC { C with sc := scope } c ifs && ckE { C with sc := scope } r elt)))))) = true from h)
            obtain ⟨h1, h2⟩ := and2 h1
            obtain ⟨h2, h3⟩ := and2 h2
            obtain ⟨h3, h4⟩ := and2 h3
            obtain ⟨h4, h5⟩ := and2 h4
            obtain ⟨h5, h6⟩ := and2 h5
            have ek : k = 0 := of_decide_eq_true h0
            subst ek
            exact pe_lc o.calm (by rw [o.N]; exact o.nd) (soundI it (fun _ => ⟨elts, tk, tp, rfl⟩) o h4) (o.scp scope own h1)
              (fun s H a cl fp => by
                have z := tg_ok (o.blk scope s H a cl fp) (tk := tk) (tp := tp) h2
                rw [(o.blk scope s H a cl fp).K] at z
                exact z)
              (fun s H a cl fp => soundC c (o.blk scope s H a cl fp) h5) (fun s H a cl fp => soundE r (o.blk scope s H a cl fp) h6) (fold_plain h3)
          | _ => exact no h
      | [], h => exact no h
      | _ :: _ :: _, h => exact no (by
          rename_i g1 g2 g3
          obtain ⟨t, iter, ifs, k⟩ := g1
          cases t <;> exact h)
    | _ => exact no h
  | .callE f as, e, X, C, D, o, h => by
    cases e with
    | Call g es ks p =>
      cases g with
      | Subscript fv fi fp =>
        match es, ks, h with
        | e :: es, [], h =>
          obtain ⟨h1, h2⟩ := and2 (show (ckE C f (.Subscript fv fi fp) && ckA C as (e :: es)) = true from h)
          have hf := soundE f o h1
          have ha := soundA as o h2
          obtain ⟨r, hr⟩ := rest_ca h2
          refine ⟨fun pins s σ H Q I q => ?_⟩
          refine Call_ (thn (hf.run pins s σ H _ I q) fun v s1 ⟨x, H1, I1, r1, j, fa, hj, ex, q1⟩ => ?_)
          subst ex
          cases r1
          have hl : j < C.fns.length := by
            rw [← o.fl.2]
            exact (List.getElem?_eq_some_iff.mp hj).1
          obtain ⟨fa', fd, ps, k, g1, g2, g3, g4, g5, g6⟩ := sp_of o (List.getElem?_eq_getElem hl)
          rw [hj] at g1
          cases g1
          refine PySem.W.callWith_K (h₀ := X.base) I1.ok.mod.kin g3 (thn (ha.run p pins s1 σ H1 _ I1 q1) fun us s2 ⟨vs, H2, I2, r2, q2⟩ => ⟨I2.kIn, ?_⟩) (star_ca X.env h2) (bt_star p X.env hr).1
          exact run_fnS (E := WE D.W) g4 g5 g6 (passAt o.tk σ) I2 r2 q2
        | [], _, h => exact no h
        | _ :: _, _ :: _, h => exact no h
      | _ => exact no h
    | _ => exact no h
  | .noE, e, X, C, D, o, h => ⟨fun _ _ _ _ _ _ z => z.elim⟩
  | .fld a f, e, X, C, D, o, h => by
    cases e with
    | Attribute b x p =>
      obtain ⟨h1, h2⟩ := and2 (show (decide (x = f) && (noSuper b && ckE C a b)) = true from h)
      obtain ⟨h2, h3⟩ := and2 h2
      have ex : x = f := of_decide_eq_true h1
      subst ex
      have z := pe_fldX (pos := p) (soundE a o h3) (base_plain (x := x) h2)
      rw [o.K] at z
      exact z
    | _ => exact no h
  | .own m a as, e, X, C, D, o, h => by
    cases e with
    | Call g es ks cp =>
      cases g with
      | Attribute b x ap =>
        match es, ks, h with
        | [], [], h =>
          obtain ⟨h1, h2⟩ := and2 (show (decide (x = m) && (noSuper b && ((ap.endLine == cp.line) && (decide (([] : List Expr).length < 30) && (ckE C a b && ckA C as []))))) = true from h)
          obtain ⟨h2, h3⟩ := and2 h2
          obtain ⟨hl, h3⟩ := and2 h3
          obtain ⟨h30, h3⟩ := and2 h3
          obtain ⟨h5, h4⟩ := and2 h3
          have ex : x = m := of_decide_eq_true h1
          subst ex
          obtain ⟨pl, ht⟩ := ht_own (m := x) (apos := ap) (pos := cp) (es := []) (env := X.env) (base_plain h2) rfl hl
          have ea : as = .nil := by cases as with
            | nil => rfl
            | cons _ _ => cases h4
          subst ea
          exact pe_own0 (soundE a o h5) o.me (fun σ => passAt o.tk σ) ht
        | e :: es, [], h =>
          obtain ⟨h1, h2⟩ := and2 (show (decide (x = m) && (noSuper b && ((ap.endLine == cp.line) && (decide ((e :: es).length < 30) && (ckE C a b && ckA C as (e :: es)))))) = true from h)
          obtain ⟨h2, h3⟩ := and2 h2
          obtain ⟨hl, h3⟩ := and2 h3
          obtain ⟨h30, h3⟩ := and2 h3
          obtain ⟨h3, h4⟩ := and2 h3
          have ex : x = m := of_decide_eq_true h1
          subst ex
          obtain ⟨pl, ht⟩ := ht_own (m := x) (apos := ap) (pos := cp) (es := e :: es) (env := X.env) (base_plain h2) (by
            unfold methodCallForm
            rw [(bt_star cp X.env h4).2]
            show (true && true && decide ((e :: es).length + 0 + 0 < 30)) = true
            rw [decide_eq_true (show (e :: es).length + 0 + 0 < 30 from of_decide_eq_true h30)]
            rfl) hl
          obtain ⟨r, hr⟩ := rest_ca h4
          exact pe_own (soundE a o h3) o.me (fun σ => passAt o.tk σ) (soundA as o h4) (star_ca X.env h4) (bt_star cp X.env hr).1 ht
        | [], _ :: _, h => exact no h
        | _ :: _, _ :: _, h => exact no h
      | _ => exact no h
    | _ => exact no h
  | .mk i as, e, X, C, D, o, h => by
    cases e with
    | Call f es ks p =>
      cases f with
      | Name x q =>
        match es, ks, h with
        | [], [], h =>
          obtain ⟨h1, h2⟩ := and2 (show (lookS C.mks i x && (glB C.sc x && (noDb x && ckA C as []))) = true from h)
          obtain ⟨h6, h7⟩ := and2 h2
          obtain ⟨h8, h4⟩ := and2 h7
          obtain ⟨d1, d2, d3⟩ := noDb_ok h8
          obtain ⟨A, s, f, fd, ps, k, g1, g2, g3, g4, g5, g6⟩ := o.mks i x (lookS_ok h1)
          have ea : as = .nil := by cases as with
            | nil => rfl
            | cons _ _ => cases h4
          subst ea
          have eA : mkAt D i = (A, s) := by unfold mkAt; rw [g1]; rfl
          have z := pe_makeX0 (X := X) (E := WE D.W) (p := q) (pos := p) g3 g4 g5 (o.gl x h6) g2 g6 (fun σ => passAt o.tk σ) d1
          show PE X _ (tMakeX (mkAt D i).1 (mkAt D i).2 (WE D.W) (wpA D .nil))
          rw [eA]
          exact z
        | e :: es, [], h =>
          obtain ⟨h1, h2⟩ := and2 (show (lookS C.mks i x && (glB C.sc x && (noDb x && ckA C as (e :: es)))) = true from h)
          obtain ⟨h2, h3⟩ := and2 h2
          obtain ⟨h3, h4⟩ := and2 h3
          obtain ⟨d1, d2, d3⟩ := noDb_ok h3
          obtain ⟨A, s, f, fd, ps, k, g1, g2, g3, g4, g5, g6⟩ := o.mks i x (lookS_ok h1)
          obtain ⟨r, hr⟩ := rest_ca h4
          have eA : mkAt D i = (A, s) := by unfold mkAt; rw [g1]; rfl
          have z := pe_makeX (X := X) (E := WE D.W) (p := q) (pos := p) g3 g4 g5 (o.gl x h2) g2 g6 (fun σ => passAt o.tk σ) (soundA as o h4) d1 (star_ca X.env h4) (bt_star p X.env hr).1
          show PE X _ (tMakeX (mkAt D i).1 (mkAt D i).2 (WE D.W) (wpA D as))
          rw [eA]
          exact z
        | [], _ :: _, h => exact no h
        | _ :: _, _ :: _, h => exact no h
      | _ => exact no h
    | _ => exact no h
  | .ddsp ks as, e, X, C, D, o, h => by
    cases e with
    | Dict keys vals p =>
      cases keys with
      | nil => exact no h
      | cons k keys =>
        obtain ⟨h1, h2⟩ := and2 (show (keysB ks (k :: keys) && (decide ((k :: keys).length ≤ 15) && (decide ((k :: keys).length = vals.length) && ckA C as vals))) = true from h)
        obtain ⟨h2, h3⟩ := and2 h2
        obtain ⟨h3, h4⟩ := and2 h3
        exact pe_disp (soundP as o h1 h4 (of_decide_eq_true h3)) (keysB_all h1) (of_decide_eq_true h3) (by simp) (of_decide_eq_true h2)
    | _ => exact no h
theorem soundP : ∀ (r : RA) {ks : List Str} {keys : List (Option Expr)} {es : List Expr} {p : Pos} {X : Cx} {C : Ct} {D : Dn}, XOk X C D → keysB ks keys = true → ckA C r es = true → keys.length = es.length → PPs X p keys es (wpP D ks r)
  | .nil, ks, keys, [], p, X, C, D, o, h1, h2, h3 => by
    have e : keys = [] := List.eq_nil_of_length_eq_zero h3
    subst e
    exact pps_nil
  | .nil, ks, keys, _ :: _, p, X, C, D, o, h1, h2, h3 => by cases h2
  | .cons a r, ks, keys, [], p, X, C, D, o, h1, h2, h3 => by cases h2
  | .cons a r, ks, keys, e :: es, p, X, C, D, o, h1, h2, h3 => by
    match ks, keys, h1 with
    | x :: xs, some (.Constant (.str y) _ _) :: keys, h1 =>
      obtain ⟨g1, g2⟩ := and2 (show (decide (x = y) && keysB xs keys) = true from h1)
      have ex : x = y := of_decide_eq_true g1
      subst ex
      obtain ⟨h4, h5⟩ := and2 (show (noStar e && (ckE C a e && ckA C r es)) = true from h2)
      obtain ⟨h5, h6⟩ := and2 h5
      exact pps_cons pe_str (soundE a o h5) (soundP r o g2 h6 (by simpa using h3))
    | [], [], h1 => simp at h3
theorem soundA : ∀ (r : RA) {es : List Expr} {X : Cx} {C : Ct} {D : Dn}, XOk X C D → ckA C r es = true → PA X es (wpA D r)
  | .nil, [], X, C, D, o, h => pa_nil
  | .nil, _ :: _, X, C, D, o, h => no h
  | .cons a r, [], X, C, D, o, h => no h
  | .cons a r, e :: es, X, C, D, o, h => by
    obtain ⟨h1, h2⟩ := and2 (show (noStar e && (ckE C a e && ckA C r es)) = true from h)
    obtain ⟨h2, h3⟩ := and2 h2
    exact pa_cons (soundE a o h2) (soundA r o h3) (star_cons X.env h1)
theorem soundO : ∀ (r : RO) {e : Option Expr} {X : Cx} {C : Ct} {D : Dn}, XOk X C D → ckO C r e = true → PO X e (wpO D r)
  | .no, none, X, C, D, o, h => po_none
  | .no, some _, X, C, D, o, h => no h
  | .yes a, none, X, C, D, o, h => no h
  | .yes a, some e, X, C, D, o, h => po_some (soundE a o h)
theorem soundT : ∀ (r : RT) {e : Expr} {X : Cx} {C : Ct} {D : Dn}, XOk X C D → ckT C r e = true → PT X e (wpT D r)
  | .tru a, e, X, C, D, o, h => by
    obtain ⟨h1, h2⟩ := and2 (show (plainT e && ckE C a e) = true from h)
    have z := pt_tru (soundE a o h2) h1
    rw [o.K] at z
    exact z
  | .cmp op a b, e, X, C, D, o, h => by
    cases e with
    | Compare l ops rs p =>
      match ops, rs, h with
      | [op'], [r], h =>
        obtain ⟨h1, h2⟩ := and2 (show (decide (op' = op) && (!behindInMarks op' r && (ckE C a l && ckE C b r))) = true from h)
        obtain ⟨h2, h3⟩ := and2 h2
        obtain ⟨h3, h4⟩ := and2 h3
        have e : op' = op := of_decide_eq_true h1
        subst e
        have z := op_cmp (X := X) o.rm.units op'
        rw [o.K] at z
        exact pt_cmpR z (soundE a o h3) (soundE b o h4) (by simpa using h2)
      | [], _, h => exact no h
      | _ :: _ :: _, _, h => exact no h
      | [_], [], h => exact no h
      | [_], _ :: _ :: _, h => exact no h
    | _ => exact no h
  | .chain op op2 a b c, e, X, C, D, o, h => by
    cases e with
    | Compare l ops rs p =>
      match ops, rs, h with
      | [o1, o2], [m, r], h =>
        obtain ⟨h1, h2⟩ := and2 (show (decide (o1 = op) && (decide (o2 = op2) && (!lastMarks [o1, o2] [m, r] && (ckE C a l && (ckE C b m && ckE C c r))))) = true from h)
        obtain ⟨h2, h3⟩ := and2 h2
        obtain ⟨h3, h4⟩ := and2 h3
        obtain ⟨h4, h5⟩ := and2 h4
        obtain ⟨h5, h6⟩ := and2 h5
        have e : o1 = op := of_decide_eq_true h1
        have e2 : o2 = op2 := of_decide_eq_true h2
        subst e e2
        have z1 := op_cmp (X := X) o.rm.units o1
        have z2 := op_cmp (X := X) o.rm.units o2
        rw [o.K] at z1 z2
        exact pt_chain z1 z2 (soundE a o h4) (soundE b o h5) (soundE c o h6) (by simpa using h3)
      | [], _, h => exact no h
      | [_], _, h => exact no h
      | _ :: _ :: _ :: _, _, h => exact no h
      | [_, _], [], h => exact no h
      | [_, _], [_], h => exact no h
      | [_, _], _ :: _ :: _ :: _, h => exact no h
    | _ => exact no h
  | .and a b, e, X, C, D, o, h => by
    cases e with
    | BoolOp op vs p =>
      cases op with
      | Or => exact no h
      | And =>
        match vs, h with
        | [x, y], h =>
          obtain ⟨h1, h2⟩ := and2 (show (ckT C a x && ckT C b y) = true from h)
          exact (pw_and (soundT a o h1) (pw_and1 (soundT b o h2))).pt
        | x :: y :: z :: r, h =>
          obtain ⟨h1, h2⟩ := and2 (show (ckT C a x && ckT C b (.BoolOp .And (y :: z :: r) p)) = true from h)
          have hb := soundW b o h2
          exact (pw_and (soundT a o h1) hb).pt
        | [], h => exact no h
        | [_], h => exact no h
    | _ => exact no h
  | .or a b, e, X, C, D, o, h => by
    cases e with
    | BoolOp op vs p =>
      cases op with
      | And => exact no h
      | Or =>
        match vs, h with
        | [x, y], h =>
          obtain ⟨h1, h2⟩ := and2 (show (ckT C a x && ckT C b y) = true from h)
          exact (pw_or (soundT a o h1) (pw_or1 (soundT b o h2))).pt
        | x :: y :: z :: r, h =>
          obtain ⟨h1, h2⟩ := and2 (show (ckT C a x && ckT C b (.BoolOp .Or (y :: z :: r) p)) = true from h)
          have hb := soundW b o h2
          exact (pw_or (soundT a o h1) hb).pt
        | [], h => exact no h
        | [_], h => exact no h
    | _ => exact no h
  | .not t, e, X, C, D, o, h => by
    cases e with
    | UnaryOp op x p =>
      cases op with
      | Not => exact pt_not (soundT t o (show ckT C t x = true from h))
      | _ => exact no h
    | _ => exact no h
/-- and, or, whatever stands around -/
theorem soundW : ∀ (r : RT) {op : BoolOp} {vs : List Expr} {p : Pos} {X : Cx} {C : Ct} {D : Dn}, XOk X C D → ckT C r (.BoolOp op vs p) = true → PW X (.BoolOp op vs p) (wpT D r)
  | .tru a, op, vs, p, X, C, D, o, h => by
    obtain ⟨h1, h2⟩ := and2 (show (plainT (.BoolOp op vs p) && ckE C a (.BoolOp op vs p)) = true from h)
    exact no h1
  | .cmp op a b, _, vs, p, X, C, D, o, h => no h
  | .chain op op2 a b c, _, vs, p, X, C, D, o, h => no h
  | .not t, op, vs, p, X, C, D, o, h => no h
  | .and a b, op, vs, p, X, C, D, o, h => by
    cases op with
    | Or => exact no h
    | And =>
      match vs, h with
      | [x, y], h =>
        obtain ⟨h1, h2⟩ := and2 (show (ckT C a x && ckT C b y) = true from h)
        exact pw_and (soundT a o h1) (pw_and1 (soundT b o h2))
      | x :: y :: z :: r, h =>
        obtain ⟨h1, h2⟩ := and2 (show (ckT C a x && ckT C b (.BoolOp .And (y :: z :: r) p)) = true from h)
        exact pw_and (soundT a o h1) (soundW b o h2)
      | [], h => exact no h
      | [_], h => exact no h
  | .or a b, op, vs, p, X, C, D, o, h => by
    cases op with
    | And => exact no h
    | Or =>
      match vs, h with
      | [x, y], h =>
        obtain ⟨h1, h2⟩ := and2 (show (ckT C a x && ckT C b y) = true from h)
        exact pw_or (soundT a o h1) (pw_or1 (soundT b o h2))
      | x :: y :: z :: r, h =>
        obtain ⟨h1, h2⟩ := and2 (show (ckT C a x && ckT C b (.BoolOp .Or (y :: z :: r) p)) = true from h)
        exact pw_or (soundT a o h1) (soundW b o h2)
      | [], h => exact no h
      | [_], h => exact no h
theorem soundC : ∀ (r : RC) {es : List Expr} {X : Cx} {C : Ct} {D : Dn}, XOk X C D → ckC C r es = true → PTs X es (wpC D r)
  | .no, [], X, C, D, o, h => pts_nil
  | .no, _ :: _, X, C, D, o, h => no h
  | .yes t, [], X, C, D, o, h => no h
  | .yes t, [e], X, C, D, o, h => pts_one (soundT t o h)
  | .yes t, _ :: _ :: _, X, C, D, o, h => no h
theorem soundI : ∀ (r : RI) {tup : Bool} {e : Expr} {tg : Expr} {X : Cx} {C : Ct} {D : Dn}, (tup = true → ∃ elts tk tp, tg = .Tuple elts tk tp) → XOk X C D → ckI C tup r e = true → PI X tg e (wpI D r)
  | .any a, tup, e, tg, X, C, D, ht, o, h => by
    have z := pi_any (tg := tg) (soundE a o (show ckE C a e = true from h))
    rw [o.K] at z
    exact z
  | .range1 a, tup, e, tg, X, C, D, ht, o, h => by
    cases e with
    | Call g es ks p =>
      cases g with
      | Name x q =>
        match es, ks, h with
        | [e], [], h =>
          obtain ⟨h1, h2⟩ := and2 (show (decide (x = ("range" : Str)) && (glB C.sc x && (decide (x ∈ C.fr) && (noStar e && ckE C a e)))) = true from h)
          obtain ⟨h2, h3⟩ := and2 h2
          obtain ⟨h3, h4⟩ := and2 h3
          obtain ⟨h4, h5⟩ := and2 h4
          have ex : x = ("range" : Str) := of_decide_eq_true h1
          subst ex
          exact pi_range1 (o.gl _ h2) (o.fr _ (of_decide_eq_true h3)) (pa_cons (soundE a o h5) pa_nil (star_cons X.env h4)) (star_cons X.env h4)
        | [], _, h => exact no h
        | [_], _ :: _, h => exact no h
        | _ :: _ :: _, _, h => exact no h
      | _ => exact no h
    | _ => exact no h
  | .range2 a b, tup, e, tg, X, C, D, ht, o, h => by
    cases e with
    | Call g es ks p =>
      cases g with
      | Name x q =>
        match es, ks, h with
        | [e, e'], [], h =>
          obtain ⟨h1, h2⟩ := and2 (show (decide (x = ("range" : Str)) && (glB C.sc x && (decide (x ∈ C.fr) && (noStar e && (noStar e' && (ckE C a e && ckE C b e')))))) = true from h)
          obtain ⟨h2, h3⟩ := and2 h2
          obtain ⟨h3, h4⟩ := and2 h3
          obtain ⟨h4, h5⟩ := and2 h4
          obtain ⟨h5, h6⟩ := and2 h5
          obtain ⟨h6, h7⟩ := and2 h6
          have ex : x = ("range" : Str) := of_decide_eq_true h1
          subst ex
          have s2 := star_cons (es := []) X.env h5
          exact pi_range2 (o.gl _ h2) (o.fr _ (of_decide_eq_true h3)) (pa_cons (soundE a o h6) (pa_cons (soundE b o h7) pa_nil s2) (star_cons X.env h4)) (by rw [star_cons X.env h4, s2] <;> rfl) s2
        | [], _, h => exact no h
        | [_], _, h => exact no h
        | [_, _], _ :: _, h => exact no h
        | _ :: _ :: _ :: _, _, h => exact no h
      | _ => exact no h
    | _ => exact no h
  | .zip a b, tup, e, tg, X, C, D, ht, o, h => by
    cases e with
    | Call g es ks p =>
      cases g with
      | Name x q =>
        match es, ks, h with
        | [e, e'], [], h =>
          obtain ⟨h0, h1⟩ := and2 (show (tup && (decide (x = ("zip" : Str)) && (glB C.sc x && (decide (x ∈ C.fr) && (noStar e && (noStar e' && (ckE C a e && ckE C b e'))))))) = true from h)
          obtain ⟨h1, h2⟩ := and2 h1
          obtain ⟨h2, h3⟩ := and2 h2
          obtain ⟨h3, h4⟩ := and2 h3
          obtain ⟨h4, h5⟩ := and2 h4
          obtain ⟨h5, h6⟩ := and2 h5
          obtain ⟨h6, h7⟩ := and2 h6
          have ex : x = ("zip" : Str) := of_decide_eq_true h1
          subst ex
          obtain ⟨elts, tk, tp, et⟩ := ht h0
          subst et
          have s2 := star_cons (es := []) X.env h5
          have z := pi_zipX (elts := elts) (kk := tk) (tpos := tp) (p := q) (pos := p) (o.gl _ h2) (o.fr _ (of_decide_eq_true h3)) (pa_cons (soundE a o h6) (pa_cons (soundE b o h7) pa_nil s2) (star_cons X.env h4)) (star_cons X.env h4) (by rw [s2] <;> rfl)
          rw [o.K] at z
          exact z
        | [], _, h => exact no h
        | [_], _, h => exact no h
        | [_, _], _ :: _, h => exact no h
        | _ :: _ :: _ :: _, _, h => exact no h
      | _ => exact no h
    | _ => exact no h
  | .enum a, tup, e, tg, X, C, D, ht, o, h => by
    cases e with
    | Call g es ks p =>
      cases g with
      | Name x q =>
        match es, ks, h with
        | [e], [], h =>
          obtain ⟨h0, h1⟩ := and2 (show (tup && (decide (x = ("enumerate" : Str)) && (glB C.sc x && (decide (x ∈ C.fr) && (noStar e && ckE C a e))))) = true from h)
          obtain ⟨h1, h2⟩ := and2 h1
          obtain ⟨h2, h3⟩ := and2 h2
          obtain ⟨h3, h4⟩ := and2 h3
          obtain ⟨h4, h5⟩ := and2 h4
          have ex : x = ("enumerate" : Str) := of_decide_eq_true h1
          subst ex
          obtain ⟨elts, tk, tp, et⟩ := ht h0
          subst et
          have z := pi_enum (elts := elts) (kk := tk) (tpos := tp) (p := q) (pos := p) (o.gl _ h2) (o.fr _ (of_decide_eq_true h3)) (pa_cons (soundE a o h5) pa_nil (star_cons X.env h4)) (star_cons X.env h4)
          rw [o.K] at z
          exact z
        | [], _, h => exact no h
        | [_], _ :: _, h => exact no h
        | _ :: _ :: _, _, h => exact no h
      | _ => exact no h
    | _ => exact no h
end
end Rf
set_option Elab.async false
set_option autoImplicit false
set_option linter.all false
set_option maxRecDepth 100000
set_option maxHeartbeats 4000000
/-! try: body, except C as n: y = n, the error kept behind it as a tracked object. -/
namespace Rf
open PySem PySem.Spec PyProof.Rows L2
section
variable {X : Cx} {pins : List (Addr × Obj)} {σ : L2.St} {H : Hp} {s : Shared}
/-- a thing that stands and is not tracked, not ours and not of the entry, is tracked from here on -/
theorem track {a : Addr} {o : HO} (I : Inv X pins σ H s) (hn : H a = none) (h0 : X.s_0.heap.get? a = none) (nL : a ≠ X.env.locals)
    (nC : ∀ x c, X.env.cells.lookup x = some c → c ≠ a) (nP : ∀ p ∈ X.pn ++ pins, p.1 ≠ a) (new : ObjOk X.prog X.w (upd H a o) s.heap a o) : Inv X pins σ (upd H a o) s := by
  have z0 : ∀ b ob, X.s_0.heap.get? b = some ob → b ≠ a := fun b ob e q => by
    rw [q, h0] at e
    cases e
  have zT : ∀ b u, H b = some u → b ≠ a := fun b u e q => by
    rw [q, hn] at e
    cases e
  have B := I.base
  refine { ok := I.ok, os := I.os, bare := I.bare, base := ?_, loc := I.loc, cell := I.cell, free := ?_, freeC := ?_, pin := ?_, hok := ?_, len := I.len }
  · refine { keep := B.keep, slot := B.slot, free := ?_, there := B.there, tups := ?_, frzs := ?_, tbls := ?_ }
    · intro b ob e n hx
      rw [upd_ne (z0 b ob e)]
      exact B.free b ob e n hx
    · intro b xs e
      have q := B.tups b xs e
      rw [upd_ne (zT b _ q)]
      exact q
    · intro b ob u e
      have q := B.frzs b ob u e
      rw [upd_ne (zT b _ q)]
      exact q
    · intro b ps e
      obtain ⟨m, q⟩ := B.tbls b ps e
      exact ⟨m, by rw [upd_ne (zT b _ q)]; exact q⟩
  · rw [upd_ne (Ne.symm nL)]
    exact I.free
  · intro x c e
    rw [upd_ne (nC x c e)]
    exact I.freeC x c e
  · intro p hp
    obtain ⟨e, n, r1, r2, r3⟩ := I.pin p hp
    exact ⟨e, by rw [upd_ne (nP p hp)]; exact n, r1, r2, r3⟩
  · intro b u e
    by_cases hb : b = a
    · rw [hb, upd_same] at e
      cases e
      rw [hb]
      exact new
    · rw [upd_ne hb] at e
      refine (I.hok b u e).stay (fun _ _ _ q => q) (fun c q => ?_) fun c xs q => ?_
      · rw [upd_ne (zT c _ q)]
        exact q
      · rw [upd_ne (zT c _ q)]
        exact q
end
/-- what the clause wishes: slot i is the clause's name, slot j the name that keeps the error -/
def wKeep (K : PySem.W.Frag) (c : Value) (i j : Nat) (Wout : WX) (D : Ends) : WX := fun cls d σ H =>
  ∃ b, PySem.W.exmOne K cls c = some b ∧ (b = true → ∀ a, H a = none → D.nx (((σ.set i (some (.ref a))).set j (some (.ref a))).set i none) (upd H a (ExV cls d a))) ∧ (b = false → Wout cls d σ H)
section
variable {X : Cx} {x n y : Str} {c : Value} {i j : Nat} {body : List Stmt} {np pos pos' py pn' ap : Pos} {tb : WX → TS} {Wout : WX}
theorem ps_try_keep (hs : X.stack = X.env :: X.outer) (hf : X.env.frame = some X.env.locals) (hex : X.ex = []) (hN : X.N.Nodup) (hi : X.N[i]? = some n) (hj : X.N[j]? = some y) (hln : X.env.kindOf n = some .local) (hly : X.env.kindOf y = some .local)
    (hij : i ≠ j) (hdn : (n == ("__debug__" : Str)) = false) (hdc : (n == ("__classdict__" : Str)) = false) (hc : Names X x c) (tk : Takes X Wout)
    (hb : ∀ (W : WX) (pn : List (Addr × Obj)) (xe : Value → Shared → Prop), Takes (X.tr pn xe) W → PassesOwn (model X.prog X.w) X.A X.env xe → PSs (X.tr pn xe) body (tb W)) :
    PS X (.Try body [.ExceptHandler (some (.Name x np)) (some n) [.Assign [.Name y py] (.Name n pn') ap] pos'] [] [] pos) (fun D σ H => tb (wKeep X.K c i j Wout D) D σ H) := by
  refine ⟨fun pins s σ H D I h => ?_⟩
  have ok := I.ok
  have hfr : X.A.frames = some (X.env :: X.outer) := by
    rw [ok.frames, hs]
  refine wpAny_Try_except ?_
  have run := (hb (wKeep X.K c i j Wout D) (X.pn ++ pins) _ (fun u s' xx => ?_) (PassesOwn.looking (K := fun e s₂ => wpAny (model X.prog X.w) X.A (setFlight e none)
    (fun _ s₃ => wpAny (model X.prog X.w) X.A (handleBy e X.env [.ExceptHandler (some (.Name x np)) (some n) [.Assign [.Name y py] (.Name n pn') ap] pos']) (SP X pins D) X.xe s₃) X.xe s₂) (E₁ := X.xe))).run [] s σ H D (I.toTry _) h
  · refine wpAny_mono run (fun f s1 hsp => ?_) fun e s1 he => he
    cases f with
    | next =>
      obtain ⟨σ', H', J', q⟩ := hsp
      exact wpAny_execs_nil ⟨σ', H', J'.ofTry ok, q⟩
    | ret v =>
      obtain ⟨z, σ', H', J', r, q⟩ := hsp
      exact ⟨z, σ', H', J'.ofTry ok, r, q⟩
    | brk =>
      obtain ⟨σ', H', J', q⟩ := hsp
      exact ⟨σ', H', J'.ofTry ok, q⟩
    | cont =>
      obtain ⟨σ', H', J', q⟩ := hsp
      exact ⟨σ', H', J'.ofTry ok, q⟩
  -- caught
  obtain ⟨a, B, sI, pins', σ', H', cls, d, rfl, J', nb, up, sky, na, os, ag, b, hb1, hyes, hno⟩ := xx
  have J : Inv X pins σ' H' sI := J'.ofTry ok
  rw [hs] at sky
  show wpAny (model X.prog X.w) X.A (noteFrame (.ref a) X.env) _ _ _
  refine Sky.land Zc.steady hfr hf sky fun h3 fl3 up3 => ?_
  have J3 : Inv X pins σ' H' { s' with heap := h3 } := J.landed nb fl3.1 (up.trans up3) os ag
  obtain ⟨oe3, vs3, he3, hz3, hd3⟩ := fl3.there
  have nfr : a ∉ frs (X.env :: X.outer) := fun hm => by
    obtain ⟨_, o', e', hnf⟩ := fl3.2.2.1.mem hm
    rw [he3] at e'
    cases e'
    exact hnf _ hd3
  have nL : a ≠ X.env.locals := fun z => nfr (List.mem_filterMap.mpr ⟨X.env, List.mem_cons_self, by rw [hf, z]⟩)
  have nF : a ∉ X.fs := fun hm => by
    obtain ⟨e, he, q⟩ := List.mem_filterMap.mp hm
    exact nfr (List.mem_filterMap.mpr ⟨e, List.mem_cons_of_mem _ he, q⟩)
  have nI : sI.heap.get? a = none := by
    cases e : sI.heap.get? a with
    | none => rfl
    | some o =>
      have q := nb a o e (by rw [hs]; exact nfr)
      rw [fl3.2.1] at q
      cases q
  have n0 : X.s_0.heap.get? a = none := by
    cases e : X.s_0.heap.get? a with
    | none => rfl
    | some o =>
      obtain ⟨o', q⟩ := J.base.there a o e (by rw [hex]; exact fun z => nomatch z)
      rw [nI] at q
      cases q
  have nP : ∀ p ∈ X.pn ++ pins, p.1 ≠ a := fun p hp z => by
    have q := (J.pin p hp).1
    rw [z, nI] at q
    cases q
  have S3 := J3.suite he3 hd3 na nL nF
  refine wpAny_handleBy_cons (codeAny_handlers_test ?_) (by intro q; cases q)
  have LT : PySem.W.Looks (model X.prog X.w) h3 (typeOf (.ref a)) cls := fun A Q E s k q => wpAny_typeOf_ref (k _ _ he3) (by rw [hz3.1]; exact q)
  have LM := PySem.W.exm_one (M := model X.prog X.w) (J3.kIn) LT hb1
  have test : ∀ {Q : Value → Shared → Prop} {E : Value → Shared → Prop}, Q c { s' with heap := h3 } →
      wpAny (model X.prog X.w) (X.A.mark (some (.ref a))) (eval (.Name x np) X.env) Q E { s' with heap := h3 } := fun {Q E} q => by
    obtain ⟨hg, hdbg, hm | ⟨hm, hv, hnn⟩⟩ := hc
    · exact ld_glob (X := X.suite a ((a, oe3) :: (X.pn ++ pins))) S3 hg hm q hdbg
    · exact ld_blt (X := X.suite a ((a, oe3) :: (X.pn ++ pins))) S3 hg hm hv q hnn hdbg
  refine test (LM.here ?_)
  cases b with
  | false =>
    show wpAny _ X.A (handleBy (.ref a) X.env []) _ _ _
    refine wpAny_handleBy_nil ?_
    obtain ⟨k1, k2, k3, oe, vs, T, oT, ts', he, hz, hd, h1, hr⟩ := id fl3
    unfold PySem.passOn
    refine wpAny_bind (wpAny_field he hd h1 ?_)
    rw [if_neg (show ¬ ((Value.ref T == Value.none) = true) from by simp)]
    have fin : wpAny (model X.prog X.w) X.A (setFlight (.ref a) X.env.frame) (fun _ s4 => wpAny (model X.prog X.w) X.A (throw (.ref a) : Sem Flow) (SP X pins D) X.xe s4) X.xe { s' with heap := h3 } := by
      rw [hf]
      refine HandSPX.setFlight_upZ fl3 fun h4 hh4 up4 => wpAny_throw (tk _ _ ?_)
      exact ⟨a, B, sI, pins, σ', H', cls, d, rfl, J, nb, (up.trans up3).trans up4, .inr (.inr (by rw [hs]; exact hh4)), na, os, ag, hno rfl⟩
    first
      | exact wpAny_bind (wpAny_pure (wpAny_bind fin))
      | exact wpAny_bind fin
  | true =>
    refine codeAny_handlers_suite_as ?_
    refine HandSPX.lands_againZ fl3 fun h4 fl4 up4 => ?_
    have J4 : Inv X pins σ' H' { s' with heap := h4 } := J.landed nb fl4.1 ((up.trans up3).trans up4) os ag
    obtain ⟨oe4, vs4, he4, hz4, hd4⟩ := fl4.there
    have S4 := J4.suite he4 hd4 na nL nF
    refine store_ok (X := X.suite a ((a, oe4) :: (X.pn ++ pins))) (v := .ref a) S4 hN hi (.inl hln) rfl (fun s5 S5 => ?_) (.inr hln)
    have st : PSs (X.suite a ((a, oe4) :: (X.pn ++ pins))) [.Assign [.Name y py] (.Name n pn') ap] (tAsg (tVar i) (gName j)) :=
      pss_one (ps_set hN hj (.inl hly) (pe_var hi (.inl hln) hdn hdc) rfl (.inr hly))
    have hiN : i < σ'.length := by
      rw [J.len]
      exact (List.getElem?_eq_some_iff.mp hi).1
    have want : (tAsg (tVar i) (gName j)) { nx := fun σ6 H6 => σ6 = (σ'.set i (some (.ref a))).set j (some (.ref a)) ∧ H6 = H', rt := fun _ _ => False } (σ'.set i (some (.ref a))) H' :=
      ⟨.ref a, by rw [List.getElem?_set_self hiN], rfl, rfl⟩
    refine wpAny_mono (st.run [] s5 _ H' _ S5 want) (fun f s6 hsp => ?_) fun _ _ z => False.elim z
    cases f with
    | next =>
      obtain ⟨σ6, H6, S6, e1, e2⟩ := hsp
      subst e1 e2
      have p6 := S6.pin (a, oe4) (List.mem_append_left _ List.mem_cons_self)
      have J6 := S6.unsuite ok
      have T6 := track (o := ExV cls d a) J6 na n0 nL (fun x c e z => by
        obtain ⟨v, o, ho, hdat⟩ := J6.cell x c e
        rw [z] at ho
        have e2 := p6.1
        rw [ho] at e2
        cases e2
        rw [hdat] at hd4
        cases hd4) nP (exv_ok ⟨oe4, vs4, p6.1, hz4, hd4⟩)
      exact gone_ok T6 hN hi hln fun s7 J7 => ⟨_, _, J7, hyes rfl a na⟩
    | brk => obtain ⟨_, _, _, z⟩ := hsp; exact z.elim
    | cont => obtain ⟨_, _, _, z⟩ := hsp; exact z.elim
    | ret u => obtain ⟨_, _, _, _, _, z⟩ := hsp; exact z.elim
end
end Rf
set_option Elab.async false
set_option autoImplicit false
set_option linter.all false
set_option maxRecDepth 100000
set_option maxHeartbeats 4000000
/-! Statements: syntax, reading, checker, soundness; a def's promise by its reading. -/
namespace Rf
open PySem PySem.Spec PyProof.Rows L2
def tNoS : TS := fun _ _ _ => False
/-- += or -= of whole numbers -/
def rInt2 (sub : Bool) : V → V → Hp → VK → Prop := fun x y H Q => match x, y with
  | .int i, .int j => Q (.int (if sub = true then i - j else i + j)) H
  | _, _ => False
theorem in_int2 {X : Cx} {b : Bool} : InOp X (if b = true then .Sub else .Add) (rInt2 b) := by
  intro pins s σ H x y u v Q I rx ry h
  cases x with
  | int i =>
    cases y with
    | int j =>
      cases b with
      | true => exact in_sub pins s σ H _ _ u v Q I rx ry ⟨i, j, rfl, rfl, h⟩
      | false => exact in_add pins s σ H _ _ u v Q I rx ry ⟨i, j, rfl, rfl, h⟩
    | _ => exact h.elim
  | _ => exact h.elim
mutual
inductive RS where
  | set (i : Nat) (e : RE) | ret (e : RE) | retN | ifs (t : RT) (a b : RSs) | fr (tg : Nat) (it : RI) (b : RSs) | wh (t : RT) (b : RSs)
  | ex (e : RE) | raise (i : Nat) | tryK (c i j : Nat) (b : RSs) | brk | cnt | pass
  | noS | sfld (o : RE) (x : Str) (e : RE) | afld (o : RE) (x : Str) (sub : Bool) (e : RE) | sst (o i e : RE)
  | setT (is : List Nat) (e : RE) | frT (tgs : List Nat) (it : RI) (b : RSs) | raiseE (i : Nat) (as : RA) | ost (o : RE) (f : Str) (e : RE) | frz (i : Nat)
inductive RSs where
  | nil | cons (a : RS) (r : RSs)
end
def tRaiseX (D : Dn) (i : Nat) : TS := fun _ σ H => match D.ex[i]? with
  | some a => D.W (.ref a) none σ H
  | none => False
mutual
def wpS (D : Dn) : RS → TS
  | .set i e => tAsg (wpE D e) (gName i)
  | .ret e => tRet (wpE D e)
  | .retN => tRetN
  | .ifs t a b => tIfS (wpT D t) (wpSs D a) (wpSs D b)
  | .fr tg it b => tFor (wpI D it) (gName tg) (wpSs D b)
  | .wh t b => tWhile (wpT D t) (wpSs D b)
  | .ex e => tDrop (wpE D e)
  | .raise i => tRaiseX D i
  | .tryK c i j b => fun E σ H => match D.ex[c]? with
    | some a => wpSs { D with W := wKeep D.K (.ref a) i j D.W E } b E σ H
    | none => False
  | .brk => tBreak
  | .cnt => tCont
  | .pass => tNext
  | .noS => tNoS
  | .sfld o x e => tSFldX D.K (wpE D o) (wpE D e) x
  | .sst o i e => tPutX (wpE D o) (wpE D i) (wpE D e)
  | .afld o x b e => tAFldX D.K (wpE D o) (wpE D e) (rInt2 b) x
  | .setT is e => tAsg (wpE D e) (gTup D.K is.length (gNames is))
  | .frT tgs it b => tFor (wpI D it) (gTup D.K tgs.length (gNames tgs)) (wpSs D b)
  | .raiseE i as => fun _ σ H => match D.exi[i]? with
    | some (A, sp) => tMkO A sp [] (wpA D as) σ H fun cls d H' => D.W cls d σ H'
    | none => False
  | .ost o f e => tOst D.K f (wpE D o) (wpE D e)
  | .frz _ => tNext
def wpSs (D : Dn) : RSs → TS
  | .nil => tNext
  | .cons a r => tSeq (wpS D a) (wpSs D r)
end
def kindB (sc : Scope) (x : Str) : Bool := match sc.names.lookup x with
  | some .local => true | _ => false
/-- whether a comprehension is stored by its own end -/
def swB (sc : Scope) (v : Expr) (x : Str) (p : Pos) : Bool := match v with
  | .ListComp _ _ s vp => kindB sc x && ((p.line == vp.line) && !(s.names.any fun (n, k) => n == x && (k == .local || k == .cell)))
  | _ => false
/-- no comprehension but of a list -/
def lcOnly : Expr → Bool
  | .SetComp .. => false | .DictComp .. => false
  | _ => true
def oneGen : Expr → Bool
  | .ListComp _ [_] _ _ => true
  | _ => false
/-- raise X('..') -/
def raiseOf : Stmt → Option Str
  | .Raise (some (.Call (.Name x _) [.Constant (.str _) _ _] [] _)) none _ => some x
  | _ => none
theorem raiseOf_ok {st : Stmt} {x : Str} (h : raiseOf st = some x) : ∃ xp m k kp cp p, st = .Raise (some (.Call (.Name x xp) [.Constant (.str m) k kp] [] cp)) none p := by
  unfold raiseOf at h
  split at h
  · cases h
    exact ⟨_, _, _, _, _, _, rfl⟩
  · cases h
/-- try: body, except X as n: y = n -/
def tryOf : Stmt → Option (List Stmt × Str × Str × Str)
  | .Try body [.ExceptHandler (some (.Name x _)) (some n) [.Assign [.Name y _] (.Name m _) _] _] [] [] _ => if m = n then some (body, x, n, y) else none
  | _ => none
theorem tryOf_ok {st : Stmt} {q : List Stmt × Str × Str × Str} (h : tryOf st = some q) :
    ∃ np py pm ap hp p, st = .Try q.1 [.ExceptHandler (some (.Name q.2.1 np)) (some q.2.2.1) [.Assign [.Name q.2.2.2 py] (.Name q.2.2.1 pm) ap] hp] [] [] p := by
  unfold tryOf at h
  split at h
  · split at h
    · rename_i e
      cases h
      subst e
      exact ⟨_, _, _, _, _, _, rfl⟩
    · cases h
  · cases h
/-- raise X(e, ..) -/
def raiseE : Stmt → Option (Str × Expr × List Expr)
  | .Raise (some (.Call (.Name x _) (e :: es) [] _)) none _ => some (x, e, es)
  | _ => none
theorem raiseE_ok {st : Stmt} {x : Str} {e : Expr} {es : List Expr} (h : raiseE st = some (x, e, es)) : ∃ xp cp p, st = .Raise (some (.Call (.Name x xp) (e :: es) [] cp)) none p := by
  unfold raiseE at h
  split at h
  · cases h
    exact ⟨_, _, _, rfl⟩
  · cases h
def noTup : Expr → Bool
  | .Tuple .. => false
  | _ => true
def ghost : RS → Bool
  | .frz _ => true
  | _ => false
mutual
def ckS (C : Ct) : RS → Stmt → Bool
  | .set i e, .Assign [.Name x p] v _ => lookS C.N i x && (locB C.sc x && (lcOnly v && (ckE C e v && (!swB C.sc v x p || oneGen v))))
  | .ret e, .Return (some v) _ => ckE C e v
  | .retN, .Return none _ => true
  | .ifs t a b, .If c x y _ => ckT C t c && (ckSs C a x && ckSs C b y)
  | .fr tg it b, .For (.Name x _) iter body [] _ => lookS C.N tg x && (locB C.sc x && (noSet iter && (ckI C false it iter && ckSs C b body)))
  | .wh t b, .While c body [] _ => ckT C t c && ckSs C b body
  | .ex e, .Expr v _ => noComp v && ckE C e v
  | .raise i, st => match raiseOf st with
    | some x => lookS C.ex i x && (glB C.sc x && noDb x)
    | none => false
  | .tryK c i j b, st => match tryOf st with
    | some (body, x, n, y) => lookS C.ex c x && (glB C.sc x && (noDb x && (lookS C.N i n && (lookS C.N j y && (kindB C.sc n && (kindB C.sc y && (!decide (i = j) && (noDb n && ckSs C b body))))))))
    | none => false
  | .brk, .Break _ => true
  | .cnt, .Continue _ => true
  | .pass, .Pass _ => true
  | .noS, _ => true
  | .sfld a x e, .Assign [.Attribute o f _] v _ => decide (f = x) && (noComp v && (ckE C a o && ckE C e v))
  | .sst a i e, .Assign [.Subscript o j _] v _ => noComp v && (ckE C a o && (ckE C i j && ckE C e v))
  | .afld a x b e, .AugAssign (.Attribute o f _) op v _ => decide (f = x) && (decide (op = if b = true then .Sub else .Add) && (ckE C a o && ckE C e v))
  | .setT is e, .Assign [.Tuple elts _ _] v _ => tgB C.N C.sc is elts && (noComp v && (noTup v && ckE C e v))
  | .frT tgs it b, .For (.Tuple elts _ _) iter body [] _ => tgB C.N C.sc tgs elts && (noSet iter && (ckI C true it iter && ckSs C b body))
  | .raiseE i as, st => match raiseE st with
    | some (x, e, es) => lookS C.exi i x && (glB C.sc x && (noDb x && ckA C as (e :: es)))
    | none => false
  | .ost a x e, .Assign [.Attribute o f _] v _ => decide (f = x) && (noComp v && (ckE C a o && ckE C e v))
  | _, _ => false
def ckSs (C : Ct) : RSs → List Stmt → Bool
  | .nil, [] => true
  | .cons (.frz _) r, sts => ckSs C r sts
  | .cons a r, st :: sts => ckS C a st && ckSs C r sts
  | _, _ => false
end
/-- the context of a def's body (or a try's) -/
structure XOkS (X : Cx) (C : Ct) (D : Dn) : Prop where
  e : XOk X C D
  sce : X.env.scope = C.sc
  knd : C.sc.kind = .function
  fnn : ∀ x, X.fn x = true
  stk : X.stack = X.env :: X.outer
  frm : X.env.frame = some X.env.locals
  exn : X.ex = []
  pass : PassesOwn (model X.prog X.w) X.A X.env X.xe
  exs : ∀ (i : Nat) (x : Str), C.ex[i]? = some x → ∃ a : Addr, D.ex[i]? = some a ∧ X.mg x = some (.ref a) ∧ PySem.W.excIn X.K a He.veBase "ValueError.__new__" = true ∧ PySem.W.keepIn X.K (.ref a) = true ∧ Raises X (.ref a)
  exis : ∀ (i : Nat) (x : Str), C.exi[i]? = some x → ∃ (A : Addr) (sp : Sp) (f : Addr) (fd : FuncData) (ps : List Str) (k : Nat), D.exi[i]? = some (A, sp) ∧ X.mg x = some (.ref A) ∧ OexC X.K A ∧ PySem.W.findIn X.K (.ref A) "__init__" = some (some (.ref f)) ∧
    PySem.W.typeIn X.K (.ref f) = some (.type "function") ∧ FnOk X.prog X.w X.K X.mg X.base (L2.CX X.prog X.w) k f fd ps sp ∧ Room (k + 1) X.A ∧ Binds X.K fd ps []
theorem XOkS.tr {X : Cx} {C : Ct} {D : Dn} (h : XOkS X C D) {W : WX} {pn : List (Addr × Obj)} {xe : Value → Shared → Prop} (tk : Takes (X.tr pn xe) W) (ps : PassesOwn (model X.prog X.w) X.A X.env xe) : XOkS (X.tr pn xe) C { D with W := W } :=
  ⟨⟨h.e.N, h.e.nd, h.e.vis, h.e.gl, h.e.loc, h.e.scp, h.e.K, h.e.calm, tk, h.e.rm, h.e.fn, h.e.fl, h.e.gs, h.e.fr, h.e.me, h.e.mks⟩, h.sce, h.knd, h.fnn, h.stk, h.frm, h.exn, ps, h.exs, h.exis⟩
section
variable {X : Cx} {C : Ct} {D : Dn}
theorem kindB_ok {sc : Scope} {x : Str} (h : kindB sc x = true) : sc.names.lookup x = some .local := by
  unfold kindB at h
  split at h
  · assumption
  · cases h
theorem kindB_no {sc : Scope} {x : Str} (h : kindB sc x = false) : (sc.names.lookup x == some .local) = false := by
  unfold kindB at h
  split at h
  · cases h
  · rename_i q
    cases e : sc.names.lookup x with
    | none => rfl
    | some k => cases k <;> first | rfl | exact absurd e q
theorem sw_no {v : Expr} {x : Str} {p : Pos} {l : Nat} {env : Env} (hk : env.scope.kind = .function) (h1 : lcOnly v = true) (h2 : swB env.scope v x p = false) : swapsWith v (some (.Name x p)) l env = pure false := by
  cases v with
  | ListComp elt gs s vp =>
    have hb : env.blockKind = .function := by unfold Env.blockKind; rw [hk] <;> rfl
    have h2 : (kindB env.scope x && ((p.line == vp.line) && !(s.names.any fun (n, k) => n == x && (k == .local || k == .cell)))) = false := h2
    unfold swapsWith
    simp only [hb]
    show (pure (((ScopeKind.function == ScopeKind.function) && (env.scope.names.lookup x == some .local) && (p.line == vp.line)) && !(s.names.any fun (n, k) => n == x && (k == .local || k == .cell))) : Sem Bool) = pure false
    congr 1
    cases e : kindB env.scope x with
    | false =>
      rw [kindB_no e]
      simp
    | true =>
      rw [e, Bool.true_and] at h2
      rw [kindB_ok e]
      cases e3 : (p.line == vp.line) with
      | false => rfl
      | true =>
        rw [e3, Bool.true_and] at h2
        rw [h2]
        rfl
  | SetComp _ _ _ _ => cases h1
  | DictComp _ _ _ _ _ => cases h1
  | _ => rfl
theorem sw_drop {v : Expr} {l : Nat} {env : Env} (h : noComp v = true) : swapsWith v none l env = pure false := by
  cases v <;> first | rfl | cases h
theorem ps_putX {X : Cx} {o i value : Expr} {td ty tv : TE} {pos pos' : Pos} (hu : X.A.units + 1 < cLine) (ho : PE X o td) (hi : PE X i ty) (hv : PE X value tv) (hs : swapsWith value (some (.Subscript o i pos')) pos.line X.env = pure false) :
    PS X (.Assign [.Subscript o i pos'] value pos) (tPutX td ty tv) := by
  refine ⟨fun pins s σ H D I h => ?_⟩
  refine wpAny_Assign_Subscript (thn (hv.run pins s σ H _ I h) fun r s1 ⟨v, H1, I1, rv, q1⟩ => thn (ho.run pins s1 σ H1 _ I1 q1) fun u s2 ⟨x, H2, I2, rx, q2⟩ => thn (hi.run pins s2 σ H2 _ I2 q2) fun iv s3 ⟨y, H3, I3, ry, q3⟩ => ?_) hs
  obtain ⟨a, H4, ex, g, q4⟩ := rPutX_ok q3
  subst ex
  obtain rfl : u = Value.ref a := rx
  exact d_setItem hu I3 g ry rv fun s4 I4 => ⟨σ, H4, I4, q4⟩
theorem sw_sub {v o i : Expr} {q : Pos} {l : Nat} {env : Env} (h : noComp v = true) : swapsWith v (some (.Subscript o i q)) l env = pure false := by
  cases v <;> first | rfl | cases h
theorem sw_attr {v o : Expr} {f : Str} {q : Pos} {l : Nat} {env : Env} (h : noComp v = true) : swapsWith v (some (.Attribute o f q)) l env = pure false := by
  cases v <;> first | rfl | cases h
/-- a comprehension that is stored by its own end -/
theorem setSw {C : Ct} {X : Cx} {D : Dn} (o : XOkS X C D) {i : Nat} {x : Str} {q : Pos} {v : Expr} {p : Pos} (nd : X.N.Nodup) (hN : X.N[i]? = some x) (hk : X.env.scope.kind = .function) (hsw : swB C.sc v x q = true) : ∀ {e : RE}, ckE C e v = true → PS X (.Assign [.Name x q] v p) (tAsg (wpE D e) (gName i)) := by
  cases v with
  | ListComp elt gs s vp =>
    have hs : (kindB C.sc x && ((q.line == vp.line) && !(s.names.any fun (n, k) => n == x && (k == .local || k == .cell)))) = true := hsw
    obtain ⟨s1, s2⟩ := and2 hs
    obtain ⟨s2, s3⟩ := and2 s2
    have hl : X.env.scope.names.lookup x = some .local := by rw [o.sce]; exact kindB_ok s1
    have sw : ∀ l, swapsWith (.ListComp elt gs s vp) (some (.Name x q)) l X.env = pure true := fun l => sw_true hk hl s2 (by simpa using s3)
    have key : ∀ (e : RE), ckE C e (.ListComp elt gs s vp) = true → PS X (.Assign [.Name x q] (.ListComp elt gs s vp) p) (tAsg (wpE D e) (gName i)) := by
      intro e
      induction e using RE.rec (motive_2 := fun _ => True) (motive_3 := fun _ => True) (motive_4 := fun _ => True) (motive_5 := fun _ => True) (motive_6 := fun _ => True) with
      | lc own tg it c r =>
        intro h4
        match gs, h4, sw with
        | [⟨t, iter, ifs, k⟩], h4, sw =>
          cases t with
            | Name y q2 =>
              obtain ⟨g0, g1⟩ := and2 (show (decide (k = 0) && (blkC C.N C.sc s own && (lookS C.N tg y && (locB s y && (noSet iter && (ckI C false it iter && (ckC { C with sc := s } c ifs && ckE { C with sc := s } r elt))))))) = true from h4)
              obtain ⟨g1, g2⟩ := and2 g1
              obtain ⟨g2, g3⟩ := and2 g2
              obtain ⟨g3, g4⟩ := and2 g3
              obtain ⟨g4, g5⟩ := and2 g4
              obtain ⟨g5, g6⟩ := and2 g5
              obtain ⟨g6, g7⟩ := and2 g6
              have ek : k = 0 := of_decide_eq_true g0
              subst ek
              exact ps_setLc o.e.calm nd hN hl (sw _) (soundI it (tup := false) (fun z => nomatch z) o.e g5) (o.e.scp s own g1)
                (fun s' H a cl fp => by
                  have ob := o.e.blk s s' H a cl fp
                  obtain ⟨l1, l2⟩ := ob.loc y g3
                  exact pg_name (by rw [ob.N]; exact ob.nd) (by rw [ob.N]; exact lookS_ok g2) l1 l2)
                (fun s' H a cl fp => soundC c (o.e.blk s s' H a cl fp) g6) (fun s' H a cl fp => soundE r (o.e.blk s s' H a cl fp) g7) (fold_plain g4)
            | _ => exact no h4
        | [], h4, sw => exact no h4
        | ⟨t, iter, ifs, k⟩ :: _ :: _, h4, sw => exact no (by cases t <;> exact h4)
      | lcT own tgs it c r =>
        intro h4
        match gs, h4, sw with
        | [⟨t, iter, ifs, k⟩], h4, sw =>
          cases t with
            | Tuple elts tk tp =>
              obtain ⟨g0, g1⟩ := and2 (show (decide (k = 0) && (blkC C.N C.sc s own && (tgB C.N s tgs elts && (noSet iter && (ckI C true it iter && (ckC { C with sc := s } c ifs && ckE { C with sc := s } r elt)))))) = true from h4)
              obtain ⟨g1, g2⟩ := and2 g1
              obtain ⟨g2, g3⟩ := and2 g2
              obtain ⟨g3, g4⟩ := and2 g3
              obtain ⟨g4, g5⟩ := and2 g4
              obtain ⟨g5, g6⟩ := and2 g5
              have ek : k = 0 := of_decide_eq_true g0
              subst ek
              exact ps_setLc o.e.calm nd hN hl (sw _) (soundI it (fun _ => ⟨elts, tk, tp, rfl⟩) o.e g4) (o.e.scp s own g1)
                (fun s' H a cl fp => by
                  have z := tg_ok (o.e.blk s s' H a cl fp) (tk := tk) (tp := tp) g2
                  rw [(o.e.blk s s' H a cl fp).K] at z
                  exact z)
                (fun s' H a cl fp => soundC c (o.e.blk s s' H a cl fp) g5) (fun s' H a cl fp => soundE r (o.e.blk s s' H a cl fp) g6) (fold_plain g3)
            | _ => exact no h4
        | [], h4, sw => exact no h4
        | ⟨t, iter, ifs, k⟩ :: _ :: _, h4, sw => exact no (by cases t <;> exact h4)
      | noE => exact fun _ => ⟨fun _ _ _ _ _ _ z => z.elim⟩
      | hnd e' ih => exact fun h4 => ih h4
      | _ => first | exact fun h4 => no h4 | exact trivial
    exact fun {e} h => key e h
  | _ => cases hsw
mutual
theorem soundS : ∀ (r : RS) {st : Stmt} {X : Cx} {C : Ct} {D : Dn}, XOkS X C D → ckS C r st = true → PS X st (wpS D r)
  | .set i e, st, X, C, D, o, h => by
    cases st with
    | Assign ts v p =>
      match ts, h with
      | [t], h =>
        cases t with
        | Name x q =>
          obtain ⟨h1, h2⟩ := and2 (show (lookS C.N i x && (locB C.sc x && (lcOnly v && (ckE C e v && (!swB C.sc v x q || oneGen v))))) = true from h)
          obtain ⟨h2, h3⟩ := and2 h2
          obtain ⟨h3, h4⟩ := and2 h3
          obtain ⟨h4, h5⟩ := and2 h4
          have hk : X.env.scope.kind = .function := by rw [o.sce]; exact o.knd
          obtain ⟨l1, l2⟩ := o.e.loc x h2
          have hN : X.N[i]? = some x := by rw [o.e.N]; exact lookS_ok h1
          have nd : X.N.Nodup := by rw [o.e.N]; exact o.e.nd
          cases hsw : swB C.sc v x q with
          | false => exact ps_set nd hN l1 (soundE e o.e h4) (sw_no hk h3 (by rw [o.sce]; exact hsw)) l2
          | true =>
            exact setSw o nd hN hk hsw h4
        | _ => exact no h
      | [], h => exact no h
      | t :: _ :: _, h => exact no (by cases t <;> exact h)
    | _ => exact no h
  | .ret e, st, X, C, D, o, h => by
    cases st with
    | Return v p =>
      cases v with
      | none => exact no h
      | some v => exact ps_ret (soundE e o.e (show ckE C e v = true from h))
    | _ => exact no h
  | .retN, st, X, C, D, o, h => by
    cases st with
    | Return v p =>
      cases v with
      | none => exact ps_retN
      | some v => exact no h
    | _ => exact no h
  | .ifs t a b, st, X, C, D, o, h => by
    cases st with
    | If c x y p =>
      obtain ⟨h1, h2⟩ := and2 (show (ckT C t c && (ckSs C a x && ckSs C b y)) = true from h)
      obtain ⟨h2, h3⟩ := and2 h2
      exact ps_if (soundT t o.e h1) (soundSs a o h2) (soundSs b o h3)
    | _ => exact no h
  | .fr tg it b, st, X, C, D, o, h => by
    cases st with
    | For t iter body orelse p =>
      cases t with
      | Name x q =>
        cases orelse with
        | cons _ _ => exact no h
        | nil =>
          obtain ⟨h1, h2⟩ := and2 (show (lookS C.N tg x && (locB C.sc x && (noSet iter && (ckI C false it iter && ckSs C b body)))) = true from h)
          obtain ⟨h2, h3⟩ := and2 h2
          obtain ⟨h3, h4⟩ := and2 h3
          obtain ⟨h4, h5⟩ := and2 h4
          obtain ⟨l1, l2⟩ := o.e.loc x h2
          exact ps_for o.pass o.e.calm (soundI it (tup := false) (fun z => nomatch z) o.e h4) (pg_name (by rw [o.e.N]; exact o.e.nd) (by rw [o.e.N]; exact lookS_ok h1) l1 l2) (soundSs b o h5) (fold_plain h3)
      | _ => exact no h
    | _ => exact no h
  | .wh t b, st, X, C, D, o, h => by
    cases st with
    | While c body orelse p =>
      cases orelse with
      | cons _ _ => exact no h
      | nil =>
        obtain ⟨h1, h2⟩ := and2 (show (ckT C t c && ckSs C b body) = true from h)
        exact ps_while o.pass (soundT t o.e h1) (soundSs b o h2)
    | _ => exact no h
  | .ex e, st, X, C, D, o, h => by
    cases st with
    | Expr v p =>
      obtain ⟨h1, h2⟩ := and2 (show (noComp v && ckE C e v) = true from h)
      exact ps_expr (soundE e o.e h2) (sw_drop h1)
    | _ => exact no h
  | .raise i, st, X, C, D, o, h => by
    have h : (match raiseOf st with
      | some x => lookS C.ex i x && (glB C.sc x && noDb x)
      | none => false) = true := h
    cases e : raiseOf st with
    | none => rw [e] at h; exact no h
    | some x =>
      rw [e] at h
      obtain ⟨xp, m, k, kp, cp, p, rfl⟩ := raiseOf_ok e
      obtain ⟨h1, h2⟩ := and2 h
      obtain ⟨h2, h3⟩ := and2 h2
      obtain ⟨a, e1, e2, e3, e4, e5⟩ := o.exs i x (lookS_ok h1)
      have z := ps_raise (pos := p) o.e.calm o.e.tk (pmk_own (p := xp) (p2 := kp) (pos := cp) (m := m) (j := k) PySem.F.excBase_ValueError e3 e2 e4 e5 (o.e.gl x h2) (noDb_ok h3).1)
      refine ⟨fun pins s σ H E I q => z.run pins s σ H E I ?_⟩
      have q : tRaiseX D i E σ H := q
      unfold tRaiseX at q
      rw [e1] at q
      exact q
  | .tryK c i j b, st, X, C, D, o, h => by
    have g : (match tryOf st with
      | some (body, x, n, y) => lookS C.ex c x && (glB C.sc x && (noDb x && (lookS C.N i n && (lookS C.N j y && (kindB C.sc n && (kindB C.sc y && (!decide (i = j) && (noDb n && ckSs C b body))))))))
      | none => false) = true := h
    cases e : tryOf st with
    | none => rw [e] at g; exact no g
    | some q =>
      obtain ⟨body, x, n, y⟩ := q
      rw [e] at g
      obtain ⟨np, py, pm, ap, hp, p, rfl⟩ := tryOf_ok e
      obtain ⟨h1, h2⟩ := and2 (show (lookS C.ex c x && (glB C.sc x && (noDb x && (lookS C.N i n && (lookS C.N j y && (kindB C.sc n && (kindB C.sc y && (!decide (i = j) && (noDb n && ckSs C b body))))))))) = true from g)
      obtain ⟨h2, h3⟩ := and2 h2
      obtain ⟨h3, h4⟩ := and2 h3
      obtain ⟨h4, h5⟩ := and2 h4
      obtain ⟨h5, h6⟩ := and2 h5
      obtain ⟨h6, h7⟩ := and2 h6
      obtain ⟨h7, h8⟩ := and2 h7
      obtain ⟨h8, h9⟩ := and2 h8
      obtain ⟨h9, h10⟩ := and2 h9
      obtain ⟨a, e1, e2, e3, e4, e5⟩ := o.exs c x (lookS_ok h1)
      have hij : i ≠ j := by simpa using h8
      have kn : X.env.kindOf n = some .local := by
        show X.env.scope.names.lookup n = _
        rw [o.sce]
        exact kindB_ok h6
      have ky : X.env.kindOf y = some .local := by
        show X.env.scope.names.lookup y = _
        rw [o.sce]
        exact kindB_ok h7
      have z := ps_try_keep (np := np) (py := py) (pn' := pm) (ap := ap) (pos' := hp) (pos := p) (tb := fun W => wpSs { D with W := W } b) (Wout := D.W) (c := .ref a) o.stk o.frm o.exn (by rw [o.e.N]; exact o.e.nd) (by rw [o.e.N]; exact lookS_ok h4) (by rw [o.e.N]; exact lookS_ok h5) kn ky hij (noDb_ok h9).1 (noDb_ok h9).2.1
        ⟨o.e.gl x h2, (noDb_ok h3).1, .inl e2⟩ o.e.tk fun W pn xe tk ps => soundSs b (o.tr tk ps) h10
      refine ⟨fun pins s σ H E I q => z.run pins s σ H E I ?_⟩
      have q : (match D.ex[c]? with
        | some a => wpSs { D with W := wKeep D.K (.ref a) i j D.W E } b E σ H
        | none => False) := q
      rw [e1] at q
      show wpSs { D with W := wKeep X.K (.ref a) i j D.W E } b E σ H
      rw [o.e.K]
      exact q
  | .brk, st, X, C, D, o, h => by
    cases st with
    | Break p => exact ps_break
    | _ => exact no h
  | .cnt, st, X, C, D, o, h => by
    cases st with
    | Continue p => exact ps_continue
    | _ => exact no h
  | .pass, st, X, C, D, o, h => by
    cases st with
    | Pass p => exact ps_pass
    | _ => exact no h
  | .noS, st, X, C, D, o, h => ⟨fun _ _ _ _ _ _ z => z.elim⟩
  | .sfld a x e, st, X, C, D, o, h => by
    cases st with
    | Assign ts v p =>
      match ts, h with
      | [t], h =>
        cases t with
        | Attribute b f q =>
          obtain ⟨h1, h2⟩ := and2 (show (decide (f = x) && (noComp v && (ckE C a b && ckE C e v))) = true from h)
          obtain ⟨h2, h3⟩ := and2 h2
          obtain ⟨h3, h4⟩ := and2 h3
          have ex : f = x := of_decide_eq_true h1
          subst ex
          have z := ps_sfldX (pos := p) (pos' := q) (f := f) (soundE a o.e h3) (soundE e o.e h4) (sw_attr h2)
          rw [o.e.K] at z
          exact z
        | _ => exact no h
      | [], h => exact no h
      | t :: _ :: _, h => cases t <;> exact no h
    | _ => exact no h
  | .afld a x b e, st, X, C, D, o, h => by
    cases st with
    | AugAssign t op v p =>
      cases t with
      | Attribute b' f q =>
        obtain ⟨h1, h2⟩ := and2 (show (decide (f = x) && (decide (op = if b = true then .Sub else .Add) && (ckE C a b' && ckE C e v))) = true from h)
        obtain ⟨h2, h3⟩ := and2 h2
        obtain ⟨h3, h4⟩ := and2 h3
        have ex : f = x := of_decide_eq_true h1
        subst ex
        have eo : op = if b = true then .Sub else .Add := of_decide_eq_true h2
        subst eo
        have z := ps_afldX (pos := p) (tpos := q) (f := f) (soundE a o.e h3) (soundE e o.e h4) (in_int2 (X := X) (b := b))
        rw [o.e.K] at z
        exact z
      | _ => exact no h
    | _ => exact no h
  | .sst a i e, st, X, C, D, o, h => by
    cases st with
    | Assign ts v p =>
      match ts, h with
      | [t], h =>
        cases t with
        | Subscript b j q =>
          obtain ⟨h1, h2⟩ := and2 (show (noComp v && (ckE C a b && (ckE C i j && ckE C e v))) = true from h)
          obtain ⟨h2, h3⟩ := and2 h2
          obtain ⟨h3, h4⟩ := and2 h3
          exact ps_putX (by have := o.e.rm.units; omega) (soundE a o.e h2) (soundE i o.e h3) (soundE e o.e h4) (sw_sub h1)
        | _ => exact no h
      | [], h => exact no h
      | t :: _ :: _, h => cases t <;> exact no h
    | _ => exact no h
  | .setT is e, st, X, C, D, o, h => by
    cases st with
    | Assign ts v p =>
      match ts, h with
      | [t], h =>
        cases t with
        | Tuple elts tk tp =>
          obtain ⟨h1, h2⟩ := and2 (show (tgB C.N C.sc is elts && (noComp v && (noTup v && ckE C e v))) = true from h)
          obtain ⟨h2, h3⟩ := and2 h2
          obtain ⟨h3, h4⟩ := and2 h3
          have z := tg_ok o.e (tk := tk) (tp := tp) h1
          rw [o.e.K] at z
          exact ps_asg (soundE e o.e h4) z (by cases v <;> first | rfl | cases h2) (by cases v <;> first | rfl | cases h3)
        | _ => exact no h
      | [], h => exact no h
      | t :: _ :: _, h => cases t <;> exact no h
    | _ => exact no h
  | .frT tgs it b, st, X, C, D, o, h => by
    cases st with
    | For t iter body orelse p =>
      cases t with
      | Tuple elts tk tp =>
        cases orelse with
        | cons _ _ => exact no h
        | nil =>
          obtain ⟨h1, h2⟩ := and2 (show (tgB C.N C.sc tgs elts && (noSet iter && (ckI C true it iter && ckSs C b body))) = true from h)
          obtain ⟨h2, h3⟩ := and2 h2
          obtain ⟨h3, h4⟩ := and2 h3
          have z := tg_ok o.e (tk := tk) (tp := tp) h1
          rw [o.e.K] at z
          exact ps_for o.pass o.e.calm (soundI it (fun _ => ⟨elts, tk, tp, rfl⟩) o.e h3) z (soundSs b o h4) (fold_plain h2)
      | _ => exact no h
    | _ => exact no h
  | .raiseE i as, st, X, C, D, o, h => by
    have h : (match raiseE st with
      | some (x, e, es) => lookS C.exi i x && (glB C.sc x && (noDb x && ckA C as (e :: es)))
      | none => false) = true := h
    cases e : raiseE st with
    | none => rw [e] at h; exact no h
    | some q =>
      obtain ⟨x, e1, es⟩ := q
      rw [e] at h
      obtain ⟨xp, cp, p, rfl⟩ := raiseE_ok e
      obtain ⟨h1, h2⟩ := and2 (show (lookS C.exi i x && (glB C.sc x && (noDb x && ckA C as (e1 :: es)))) = true from h)
      obtain ⟨h2, h3⟩ := and2 h2
      obtain ⟨h3, h4⟩ := and2 h3
      obtain ⟨A, sp, f, fd, ps, k, g1, g2, g3, g4, g5, g6, g7, g8⟩ := o.exis i x (lookS_ok h1)
      obtain ⟨r, hr⟩ := rest_ca h4
      have z := ps_raise (pos := p) o.e.calm o.e.tk (pmk_oex (p := xp) (pos := cp) (dvs := []) g3 g4 g5 g6 g7 g8 .nil (fun pins σ H s e s' I c => passAt takes0 σ pins H s e s' I c) (o.e.gl x h2) g2 (soundA as o.e h4) (noDb_ok h3).1 (star_ca X.env h4) (bt_star cp X.env hr).1)
      refine ⟨fun pins s σ H E I q => z.run pins s σ H E I ?_⟩
      have q : (match D.exi[i]? with
        | some (A, sp) => tMkO A sp [] (wpA D as) σ H fun cls d H' => D.W cls d σ H'
        | none => False) := q
      rw [g1] at q
      exact q
  | .ost a x e, st, X, C, D, o, h => by
    cases st with
    | Assign ts v p =>
      match ts, h with
      | [t], h =>
        cases t with
        | Attribute b f q =>
          obtain ⟨h1, h2⟩ := and2 (show (decide (f = x) && (noComp v && (ckE C a b && ckE C e v))) = true from h)
          obtain ⟨h2, h3⟩ := and2 h2
          obtain ⟨h3, h4⟩ := and2 h3
          have ex : f = x := of_decide_eq_true h1
          subst ex
          have z := ps_ost (pos := p) (p' := q) (f := f) (soundE a o.e h3) (soundE e o.e h4) (sw_attr h2)
          rw [o.e.K] at z
          exact z
        | _ => exact no h
      | [], h => exact no h
      | t :: _ :: _, h => cases t <;> exact no h
    | _ => exact no h
  | .frz _, st, X, C, D, o, h => no (by cases st <;> exact h)
theorem soundSs : ∀ (r : RSs) {sts : List Stmt} {X : Cx} {C : Ct} {D : Dn}, XOkS X C D → ckSs C r sts = true → PSs X sts (wpSs D r)
  | .nil, [], X, C, D, o, h => pss_nil
  | .nil, _ :: _, X, C, D, o, h => no h
  | .cons a r, sts, X, C, D, o, h => by
    by_cases hg : ghost a = true
    · cases a with
      | frz i =>
        have z := soundSs r o (show ckSs C r sts = true from h)
        exact z
      | _ => cases hg
    · cases sts with
      | nil => exact no (by cases a <;> first | exact h | exact absurd rfl hg)
      | cons st sts =>
        obtain ⟨h1, h2⟩ := and2 (show (ckS C a st && ckSs C r sts) = true by cases a <;> first | exact h | exact absurd rfl hg)
        exact pss_cons (soundS a o h1) (soundSs r o h2)
end
end
end Rf
set_option Elab.async false
set_option autoImplicit false
set_option linter.all false
set_option maxRecDepth 100000
set_option maxHeartbeats 4000000
/-! A def keeps its promise; the frame: what a call doesn't look at stays. -/
namespace Rf
open PySem PySem.Spec PyProof.Rows L2

/-! ### tables -/
structure Gb where
  sp : List Sp
  fa : List Addr
  gv : List V
  ex : List Addr
  me : Me := fun _ _ => none
  mks : List (Addr × Sp) := []
  exi : List (Addr × Sp) := []
def dn (K : PySem.W.Frag) (E : XK) (G : Gb) : Dn := { K := K, W := fun cls d _ H => E cls d H, sp := G.sp, fa := G.fa, gv := G.gv, ex := G.ex, me := G.me, mks := G.mks, exi := G.exi }
/-- what a table of methods must say, where the world is not yet at hand -/
def MeG (P : Program) (w : World) (K : PySem.W.Frag) (mg : Str → Option Value) (base : Heap) (k : Nat) (me : Me) : Prop := ∀ C m sp, me C m = some sp → ∃ (f : Addr) (fd : FuncData) (ps : List Str), Cls K C ∧ Meth K C m f ∧ FnOk P w K mg base (L2.CX P w) k f fd ps sp ∧ Binds K fd ps []
structure GOk (P : Program) (w : World) (K : PySem.W.Frag) (mg : Str → Option Value) (base : Heap) (k : Nat) (C : Ct) (G : Gb) : Prop where
  fn : ∀ (i : Nat) (x : Str), C.fns[i]? = some x → ∃ (s : Sp) (f : Addr) (fd : FuncData) (ps : List Str), G.sp[i]? = some s ∧ G.fa[i]? = some f ∧ mg x = some (.ref f) ∧ PySem.W.keepIn K (.ref f) = true ∧ FnOk P w K mg base (L2.CX P w) k f fd ps s ∧ Binds K fd ps []
  fl : G.sp.length = C.fns.length ∧ G.fa.length = C.fns.length
  gs : ∀ (i : Nat) (x : Str), C.gs[i]? = some x → ∃ (v : V) (u : Value), G.gv[i]? = some v ∧ mg x = some u ∧ RelV v u
  fr : ∀ x, x ∈ C.fr → mg x = none
  exs : ∀ (i : Nat) (x : Str), C.ex[i]? = some x → ∃ a : Addr, G.ex[i]? = some a ∧ mg x = some (.ref a) ∧ PySem.W.excIn K a He.veBase "ValueError.__new__" = true ∧ PySem.W.keepIn K (.ref a) = true ∧
    PySem.W.subIn K (.ref a) (.type "BaseException") = some true ∧ PySem.W.typeIn K (.ref a) = some (.type "type")
  me : MeG P w K mg base k G.me
  mks : ∀ (i : Nat) (x : Str), C.mks[i]? = some x → ∃ (A : Addr) (s : Sp) (f : Addr) (fd : FuncData) (ps : List Str) (j : Nat), j + 1 ≤ k ∧ G.mks[i]? = some (A, s) ∧ mg x = some (.ref A) ∧ Mk K A f ∧ FnOk P w K mg base (L2.CX P w) j f fd ps s ∧ Binds K fd ps []
  exis : ∀ (i : Nat) (x : Str), C.exi[i]? = some x → ∃ (A : Addr) (s : Sp) (f : Addr) (fd : FuncData) (ps : List Str) (j : Nat), j + 1 ≤ k ∧ G.exi[i]? = some (A, s) ∧ mg x = some (.ref A) ∧ OexC K A ∧ PySem.W.findIn K (.ref A) "__init__" = some (some (.ref f)) ∧
    PySem.W.typeIn K (.ref f) = some (.type "function") ∧ FnOk P w K mg base (L2.CX P w) j f fd ps s ∧ Binds K fd ps []
def scB (N ps : List Str) (sc : Scope) : Bool := (match sc.kind with
  | .function => true
  | _ => false) && (!sc.isCoroutine && (!sc.isGenerator && (decide N.Nodup && (decide (N.take ps.length = ps) && (ps.all (locB sc) && sc.names.all fun y => !decide (y.2 = .free))))))
def defB (C : Ct) (ps : List Str) (rs : RSs) (body : List Stmt) : Bool := scB C.N ps C.sc && ckSs C rs body
theorem scB_ok {N ps : List Str} {sc : Scope} (h : scB N ps sc = true) : FnScope N ps sc := by
  unfold scB at h
  obtain ⟨h1, h2⟩ := and2 h
  obtain ⟨h2, h3⟩ := and2 h2
  obtain ⟨h3, h4⟩ := and2 h3
  obtain ⟨h4, h5⟩ := and2 h4
  obtain ⟨h5, h6⟩ := and2 h5
  obtain ⟨h6, h7⟩ := and2 h6
  refine ⟨?_, by simpa using h2, by simpa using h3, of_decide_eq_true h4, of_decide_eq_true h5, fun x hx => ?_, fun y hy => ?_⟩
  · split at h1
    · assumption
    · cases h1
  · have q := List.all_eq_true.mp h6 x hx
    unfold locB at q
    split at q
    · exact .inl (by assumption)
    · exact .inr (by assumption)
    · cases q
  · have q := List.all_eq_true.mp h7 y hy
    simpa using q
section
variable {P : Program} {w : World} {K : PySem.W.Frag} {mg : Str → Option Value} {base : Heap}
theorem ctx_ok {C : Ct} {G : Gb} {k : Nat} {ps : List Str} (S : FnScope C.N ps C.sc) (g : GOk P w K mg base k C G) (qual : Str) (f : Addr) (cdv : Value) (A : Around) (outer : List Env) (s : Shared) (H : Hp) (E : XK)
    (hr : Room k (A.deeper (envOfC qual C.sc s.heap.objs.size f cdv))) : XOkS (cxOf (L2.CX P w) P w K mg base C.N qual C.sc f cdv A outer s H E) C (dn K E G) := by
  refine ⟨⟨rfl, S.nd, fun x hx => ?_, fun x hx => ?_, fun x hx => ?_, fun sc own hb => blkOk_by hb, rfl, rfl, takes_of rfl rfl rfl rfl, hr.mono (Nat.zero_le _), fun i x hx => ?_, g.fl, g.gs, g.fr, fun A m s e => ?_, fun i x hx => ?_⟩, rfl, S.kind, fun _ => rfl, rfl, rfl, rfl, passes_of rfl, fun i x hx => ?_, fun i x hx => ?_⟩
  · unfold visB at hx
    split at hx
    · exact .inl (by assumption)
    · exact .inr (.inl (by assumption))
    · exact .inr (.inr (by assumption))
    · cases hx
  · unfold glB at hx
    split at hx
    · assumption
    · cases hx
  · unfold locB at hx
    split at hx
    · exact ⟨.inl (by assumption), .inl rfl⟩
    · exact ⟨.inr (by assumption), .inl rfl⟩
    · cases hx
  · obtain ⟨s', f', fd', ps', h1, h2, h3, h4, h5, h6⟩ := g.fn i x hx
    exact ⟨s', f', fd', ps', k, h1, h2, h3, h4, h5, hr, h6⟩
  · obtain ⟨f', fd', ps', h1, h2, h3, h4⟩ := g.me A m s e
    exact ⟨f', fd', ps', k, h1, h2, h3, hr, h4⟩
  · obtain ⟨A, s', f', fd', ps', j, l, h1, h2, h3, h4, h5⟩ := g.mks i x hx
    exact ⟨A, s', f', fd', ps', j, h1, h2, h3, h4, hr.mono l, h5⟩
  · obtain ⟨a, h1, h2, h3, h4, h5, h6⟩ := g.exs i x hx
    exact ⟨a, h1, h2, h3, h4, raises_own h5 h6⟩
  · obtain ⟨A, s', f', fd', ps', j, l, h1, h2, h3, h4, h5, h6, h7⟩ := g.exis i x hx
    exact ⟨A, s', f', fd', ps', j, h1, h2, h3, h4, h5, h6, hr.mono l, h7⟩
/-- THE RULE for a def -/
theorem def_ok {x qual : Str} {params : Arguments} {body : List Stmt} {dvs : List V} {kws : List (Str × V)} {f : Addr} {fd : FuncData} {C : Ct} {G : Gb} {k : Nat} {ps : List Str} {rs : RSs} {sp : Sp}
    (F : FunD K x qual params body C.sc dvs kws f fd) (ck : defB C ps rs body = true) (len : ∀ vs H Q E, sp vs H Q E → vs.length = ps.length) (g : GOk P w K mg base k C G)
    (sem : ∀ vs H Q E, sp vs H Q E → wpSs (dn K E G) rs { nx := fun _ H' => Q .non H', rt := Q } (start C.N vs) H) : FnOk P w K mg base (L2.CX P w) (k + 1) f fd ps sp := by
  obtain ⟨c1, c2⟩ := and2 ck
  have S := scB_ok c1
  exact F.ok S len fun cdv A outer s H vs Q E hr h => ⟨_, soundSs rs (ctx_ok S g qual f cdv A outer s H E hr) c2, sem vs H Q E h⟩
end

/-! ### the frame -/
def flatO : HO → Bool
  | .lst _ => true | .tup _ => true | .dK _ => true
  | .frz _ (.lst _) => true | .frz _ (.tup _) => true | .frz _ (.dK _) => true
  | _ => false
theorem flat_any {P : Program} {w : World} {H H' : Hp} {h : Heap} {a : Addr} {o : HO} (f : flatO o = true) (x : ObjOk P w H h a o) : ObjOk P w H' h a o := by
  cases o with
  | lst _ => exact x
  | tup _ => exact x
  | dK _ => exact x
  | frz ob u =>
    cases u with
    | lst _ => exact x
    | tup _ => exact x
    | dK _ => exact x
    | _ => cases f
  | _ => cases f
/-- H at the places p alone -/
def rst (H : Hp) (p : Addr → Bool) : Hp := fun b => if p b = true then H b else none
theorem rst_y {H : Hp} {p : Addr → Bool} {b : Addr} (h : p b = true) : rst H p b = H b := if_pos h
theorem rst_n {H : Hp} {p : Addr → Bool} {b : Addr} (h : p b = false) : rst H p b = none := if_neg (by rw [h]; decide)
theorem rst_none {H : Hp} {p : Addr → Bool} {b : Addr} (h : H b = none) : rst H p b = none := by
  unfold rst
  rw [h]
  split <;> rfl
def SubOk (H : Hp) (p : Addr → Bool) : Prop := ∀ b o, p b = true → H b = some o → flatO o = true
/-- behind the call: what stood at p as it is now, the new things at q, all else as it was -/
def join (H : Hp) (p q : Addr → Bool) (H1 : Hp) : Hp := fun b => if ((p b && (H b).isSome) || q b) = true then H1 b else H b
def JoinOk (H : Hp) (p q : Addr → Bool) (H1 : Hp) : Prop := ∀ b, ((p b && (H b).isSome) || q b) = true → ∃ o, H1 b = some o ∧ flatO o = true
section
variable {P : Program} {w : World} {H H1 : Hp} {h h' B : Heap} {p q : Addr → Bool} {fs : List Addr}
theorem sub_hok (ok : HOk P w H h) (s : SubOk H p) : HOk P w (rst H p) h := fun a o e => by
  cases hp : p a with
  | false => rw [rst_n hp] at e; cases e
  | true =>
    rw [rst_y hp] at e
    exact flat_any (s a o hp e) (ok a o e)
theorem sel_no {b : Addr} {o : Obj} (s : SubOk H p) (j : JoinOk H p q H1) (fr : ∀ b o, h.get? b = some o → rst H p b = none → H1 b = none) (e : h.get? b = some o) (n : rst H p b = none) : ((p b && (H b).isSome) || q b) = false := by
  cases hb : ((p b && (H b).isSome) || q b) with
  | false => rfl
  | true =>
    obtain ⟨o1, e1, _⟩ := j b hb
    rw [fr b o e n] at e1
    cases e1
theorem out_of {b : Addr} {u : HO} (e : H b = some u) (hf : ((p b && (H b).isSome) || q b) = false) : p b = false := by
  rw [e] at hf
  cases hp : p b with
  | false => rfl
  | true => rw [hp] at hf; cases hf
theorem join_hok (ok : HOk P w H h) (s : SubOk H p) (j : JoinOk H p q H1) (hfs : ∀ b ∈ fs, H b = none) (fr : ∀ b o, h.get? b = some o → rst H p b = none → H1 b = none)
    (kp : ∀ b o, h.get? b = some o → rst H p b = none → b ∉ fs → B.get? b = some o) (tups : ∀ b xs, rst H p b = some (.tup xs) → H1 b = some (.tup xs)) (ok1 : HOk P w H1 B) : HOk P w (join H p q H1) B := fun b u e => by
  have tg : ∀ c o, H c = some o → ∃ ob, h.get? c = some ob := fun c o z => objOk_get (ok c o z)
  have tupJ : ∀ c xs, H c = some (.tup xs) → join H p q H1 c = some (.tup xs) := fun c xs z => by
    unfold join
    split
    · cases hp : p c with
      | true => exact tups c xs (by rw [rst_y hp]; exact z)
      | false =>
        rename_i hs
        obtain ⟨ob, ho⟩ := tg c _ z
        rw [sel_no s j fr ho (rst_n hp)] at hs
        cases hs
    · exact z
  unfold join at e
  split at e
  · rename_i hs
    obtain ⟨o, e1, f⟩ := j b hs
    rw [e1] at e
    cases e
    exact flat_any f (ok1 b _ e1)
  · rename_i hs
    have hs : ((p b && (H b).isSome) || q b) = false := by simpa using hs
    have hp := out_of e hs
    refine (ok b u e).stay (fun c v hc r => ?_) (fun c r => ?_) tupJ
    · have np : p c = false := by
        rcases hc with z | z
        · rw [z]; exact hp
        · cases hq : p c with
          | false => rfl
          | true => have y := s c _ hq z; cases y
      have nf : c ∉ fs := fun hm => by
        have y := hfs c hm
        rcases hc with z | z
        · rw [z, e] at y; cases y
        · rw [z] at y; cases y
      exact kp c v r (rst_n np) nf
    · have np : p c = false := by
        cases hq : p c with
        | false => rfl
        | true => have y := s c _ hq r; cases y
      obtain ⟨ob, ho⟩ := tg c _ r
      unfold join
      rw [if_neg (by rw [sel_no s j fr ho (rst_n np)]; decide)]
      exact r
end
theorem FnOk.frame {P : Program} {w : World} {K : PySem.W.Frag} {mg : Str → Option Value} {base : Heap} {k : Nat} {f : Addr} {fd : FuncData} {ps : List Str} {sp : Sp} (F : FnOk P w K mg base (L2.CX P w) k f fd ps sp) :
    FnOk P w K mg base (L2.CX P w) k f fd ps (fun vs H Q E => ∃ p : Addr → Bool, SubOk H p ∧ sp vs (rst H p) (fun v H1 => ∃ q, JoinOk H p q H1 ∧ Q v (join H p q H1)) (fun c d H1 => ∃ q, JoinOk H p q H1 ∧ E c d (join H p q H1))) := by
  refine ⟨fun vs H Q E ⟨p, _, h⟩ => F.len _ _ _ _ h, fun A outer s H args us vs Q E hr e0 hb r ⟨p, sb, h⟩ => ?_⟩
  have e1 : Env0 P w K mg base A outer s (rst H p) := ⟨e0.frames, e0.mod, fun b o e => ⟨(e0.bs b o e).1, rst_none (e0.bs b o e).2⟩, e0.bsz, e0.funs, fun b hb => rst_none (e0.frf b hb), sub_hok e0.hok sb, e0.bare⟩
  have tg : ∀ c o, H c = some o → ∃ ob, s.heap.get? c = some ob := fun c o z => objOk_get (e0.hok c o z)
  refine codeAny_mono (F.run A outer s (rst H p) args us vs _ _ hr e1 hb r h) fun res s' hq => ?_
  cases res with
  | error e =>
    obtain ⟨a, B, H1, cls, d, rfl, fl, hok, ub, na, os, ag, q, j, hE⟩ := hq
    have fr : ∀ b o, s.heap.get? b = some o → rst H p b = none → H1 b = none := ub.free
    have nj : join H p q H1 a = none := by
      unfold join
      split
      · exact na
      · cases z : H a with
        | none => rfl
        | some o =>
          rename_i hs
          have hs : ((p a && (H a).isSome) || q a) = false := by simpa using hs
          obtain ⟨ob, ho⟩ := tg a o z
          have nf : a ∉ frs outer := fun hm => by
            rw [e0.frf a hm] at z
            cases z
          have y := ub.keep a ob ho (rst_n (out_of z hs)) nf
          rw [fl.2.1] at y
          cases y
    refine ⟨a, B, join H p q H1, cls, d, rfl, fl, join_hok e0.hok sb j e0.frf fr ub.keep ub.tups hok, ⟨fun b o e n hf => ub.keep b o e (rst_none n) hf, ub.slot, fun b o e n => ?_, ub.there, fun b xs e => ?_, fun b o u e => ?_, fun b ts e => ?_⟩, nj, os, ag, hE⟩
    · unfold join
      rw [if_neg (by rw [sel_no sb j fr e (rst_none n)]; decide)]
      exact n
    · unfold join
      split
      · cases hp : p b with
        | true => exact ub.tups b xs (by rw [rst_y hp]; exact e)
        | false =>
          rename_i hs
          obtain ⟨ob, ho⟩ := tg b _ e
          rw [sel_no sb j fr ho (rst_n hp)] at hs
          cases hs
      · exact e
    · unfold join
      split
      · cases hp : p b with
        | true => exact ub.frzs b o u (by rw [rst_y hp]; exact e)
        | false =>
          rename_i hs
          obtain ⟨ob, ho⟩ := tg b _ e
          rw [sel_no sb j fr ho (rst_n hp)] at hs
          cases hs
      · exact e
    · have hp : p b = false := by
        cases hp : p b with
        | false => rfl
        | true => have y := sb b _ hp e; cases y
      obtain ⟨ob, ho⟩ := tg b _ e
      refine ⟨#[], ?_⟩
      unfold join
      rw [if_neg (by rw [sel_no sb j fr ho (rst_n hp)]; decide), e]
      simp
  | ok fl =>
    cases fl with
    | next => exact False.elim hq
    | brk => exact False.elim hq
    | cont => exact False.elim hq
    | ret u =>
      obtain ⟨v, H1, os, bare, un, hok, rv, q, j, hQ⟩ := hq
      have fr : ∀ b o, s.heap.get? b = some o → rst H p b = none → H1 b = none := fun b o e n => un.free b o e n (by simp)
      have kp : ∀ b o, s.heap.get? b = some o → rst H p b = none → b ∉ frs outer → s'.heap.get? b = some o := fun b o e n hf => un.keep b o e n hf (by simp)
      refine ⟨v, join H p q H1, os, bare, ⟨fun b o e n hf _ => kp b o e (rst_none n) hf, fun b o e n hf hx => un.slot b o e (rst_none n) hf hx, fun b o e n _ => ?_, un.there, fun b xs e => ?_, fun b o u e => ?_, fun b ts e => ?_⟩, join_hok e0.hok sb j e0.frf fr kp un.tups hok, rv, hQ⟩
      · unfold join
        rw [if_neg (by rw [sel_no sb j fr e (rst_none n)]; decide)]
        exact n
      · unfold join
        split
        · cases hp : p b with
          | true => exact un.tups b xs (by rw [rst_y hp]; exact e)
          | false =>
            rename_i hs
            obtain ⟨ob, ho⟩ := tg b _ e
            rw [sel_no sb j fr ho (rst_n hp)] at hs
            cases hs
        · exact e
      · unfold join
        split
        · cases hp : p b with
          | true => exact un.frzs b o u (by rw [rst_y hp]; exact e)
          | false =>
            rename_i hs
            obtain ⟨ob, ho⟩ := tg b _ e
            rw [sel_no sb j fr ho (rst_n hp)] at hs
            cases hs
        · exact e
      · have hp : p b = false := by
          cases hp : p b with
          | false => rfl
          | true => have y := sb b _ hp e; cases y
        obtain ⟨ob, ho⟩ := tg b _ e
        refine ⟨#[], ?_⟩
        unfold join
        rw [if_neg (by rw [sel_no sb j fr ho (rst_n hp)]; decide), e]
        simp
end Rf
namespace Rf
open PySem PySem.Spec PyProof.Rows L2
theorem join_same {H H1 : Hp} {p : Addr → Bool} (s : SubOk H p) (e : Same (rst H p) H1) : JoinOk H p (fun _ => false) H1 ∧ join H p (fun _ => false) H1 = H := by
  have key : ∀ b, ((p b && (H b).isSome) || false) = true → ∃ o, H b = some o ∧ p b = true ∧ H1 b = some o := fun b hb => by
    rw [Bool.or_false, Bool.and_eq_true] at hb
    obtain ⟨o, ho⟩ := Option.isSome_iff_exists.mp hb.2
    exact ⟨o, ho, hb.1, e b o (by rw [rst_y hb.1]; exact ho)⟩
  refine ⟨fun b hb => ?_, ?_⟩
  · obtain ⟨o, h1, h2, h3⟩ := key b hb
    exact ⟨o, h3, s b o h2 h1⟩
  · funext b
    unfold join
    split
    · rename_i hb
      obtain ⟨o, h1, h2, h3⟩ := key b hb
      rw [h1, h3]
    · rfl
section
variable {P : Program} {w : World} {K : PySem.W.Frag} {mg : Str → Option Value} {base : Heap} {k : Nat} {f : Addr} {fd : FuncData} {ps : List Str}
/-- a def that answers by a value and leaves nothing that matters -/
theorem FnOk.exact {R : List V → Hp → V → Prop} (F : FnOk P w K mg base (L2.CX P w) k f fd ps (fun vs H Q _ => ∃ r, R vs H r ∧ ∀ H', Same H H' → Q r H'))
    (loc : ∀ vs H r, R vs H r → ∃ p, SubOk H p ∧ R vs (rst H p) r) : FnOk P w K mg base (L2.CX P w) k f fd ps (fun vs H Q _ => ∃ r, R vs H r ∧ Q r H) :=
  (Rf.FnOk.frame F).imp fun vs H Q E ⟨r, hR, hQ⟩ => by
    obtain ⟨p, s, hp⟩ := loc vs H r hR
    refine ⟨p, s, r, hp, fun H' e => ?_⟩
    obtain ⟨j, je⟩ := join_same s e
    exact ⟨_, j, by rw [je]; exact hQ⟩
/-- the same of a def that may refuse instead (errors without a field) -/
theorem FnOk.exactX {R : List V → Hp → V → Prop} {RE : List V → Hp → Value → Prop} (F : FnOk P w K mg base (L2.CX P w) k f fd ps (fun vs H Q E => (∃ r, R vs H r ∧ ∀ H', Same H H' → Q r H') ∨ (∃ c, RE vs H c ∧ ∀ H', Same H H' → E c none H')))
    (loc : ∀ vs H r, R vs H r → ∃ p, SubOk H p ∧ R vs (rst H p) r) (locE : ∀ vs H r, RE vs H r → ∃ p, SubOk H p ∧ RE vs (rst H p) r) :
    FnOk P w K mg base (L2.CX P w) k f fd ps (fun vs H Q E => (∃ r, R vs H r ∧ Q r H) ∨ (∃ c, RE vs H c ∧ E c none H)) :=
  (Rf.FnOk.frame F).imp fun vs H Q E hh => by
    rcases hh with ⟨r, hR, hQ⟩ | ⟨r, hR, hQ⟩
    · obtain ⟨p, s, hp⟩ := loc vs H r hR
      refine ⟨p, s, .inl ⟨r, hp, fun H' e => ?_⟩⟩
      obtain ⟨j, je⟩ := join_same s e
      exact ⟨_, j, by rw [je]; exact hQ⟩
    · obtain ⟨p, s, hp⟩ := locE vs H r hR
      refine ⟨p, s, .inr ⟨r, hp, fun H' e => ?_⟩⟩
      obtain ⟨j, je⟩ := join_same s e
      exact ⟨_, j, by rw [je]; exact hQ⟩
end
theorem Same.up {H H' : Hp} {p : Addr} {o : HO} (e : Same H H') (h : H' p = none) : Same H (upd H' p o) := fun b u hb => by
  rw [upd_ne (ne_of_none (e b u hb) h)]
  exact e b u hb
/-- a change of a new thing -/
theorem Same.mut {H H' : Hp} {p : Addr} {o : HO} (e : Same H H') (h : H p = none) : Same H (upd H' p o) := fun b u hb => by
  rw [upd_ne (ne_of_none hb h)]
  exact e b u hb
/-- nothing is looked at -/
theorem sub0 (H : Hp) : SubOk H fun _ => false := fun _ _ h => by cases h
end Rf
set_option Elab.async false
set_option autoImplicit false
set_option linter.all false
set_option maxRecDepth 100000
set_option maxHeartbeats 4000000
/-! Pure promises; loops and comprehensions over texts and ranges; flat lists compared. -/
namespace Rf
open PySem PySem.Spec PyProof.Rows L2
/-- a def that answers by a value found from its arguments alone -/
def spP (f : List V → Option V) : Sp := fun vs H Q _ => match f vs with
  | some r => Q r H
  | none => False
/-- the same where the heap is looked at -/
def spK (f : List V → Hp → Option V) : Sp := fun vs H Q _ => match f vs H with
  | some r => Q r H
  | none => False
section
variable {P : Program} {w : World} {K : PySem.W.Frag} {mg : Str → Option Value} {base : Heap}
theorem def_pure {x qual : Str} {params : Arguments} {body : List Stmt} {dvs : List V} {kws : List (Str × V)} {f : Addr} {fd : FuncData} {C : Ct} {G : Gb} {k : Nat} {ps : List Str} {rs : RSs} (g : List V → Option V)
    (F : FunD K x qual params body C.sc dvs kws f fd) (ck : defB C ps rs body = true) (go : GOk P w K mg base k C G) (len : ∀ vs r, g vs = some r → vs.length = ps.length)
    (sem : ∀ vs r H Q E, g vs = some r → (∀ H', Same H H' → Q r H') → wpSs (dn K E G) rs { nx := fun _ H' => Q .non H', rt := Q } (start C.N vs) H) : FnOk P w K mg base (L2.CX P w) (k + 1) f fd ps (spP g) := by
  have F1 : FnOk P w K mg base (L2.CX P w) (k + 1) f fd ps (fun vs H Q _ => ∃ r, g vs = some r ∧ ∀ H', Same H H' → Q r H') :=
    def_ok F ck (fun vs H Q E ⟨r, h, _⟩ => len vs r h) go fun vs H Q E ⟨r, h, hq⟩ => sem vs r H Q E h hq
  refine (FnOk.exact (R := fun vs H r => g vs = some r) F1 fun vs H r h => ⟨fun _ => false, sub0 H, h⟩).imp fun vs H Q E h => ?_
  unfold spP at h
  cases e : g vs with
  | none => rw [e] at h; exact h.elim
  | some r => rw [e] at h; exact ⟨r, rfl, h⟩
theorem def_kind {x qual : Str} {params : Arguments} {body : List Stmt} {dvs : List V} {kws : List (Str × V)} {f : Addr} {fd : FuncData} {C : Ct} {G : Gb} {k : Nat} {ps : List Str} {rs : RSs} (g : List V → Hp → Option V)
    (F : FunD K x qual params body C.sc dvs kws f fd) (ck : defB C ps rs body = true) (go : GOk P w K mg base k C G) (len : ∀ vs H r, g vs H = some r → vs.length = ps.length)
    (loc : ∀ vs H r, g vs H = some r → ∃ p, SubOk H p ∧ g vs (rst H p) = some r)
    (sem : ∀ vs r H Q E, g vs H = some r → (∀ H', Same H H' → Q r H') → wpSs (dn K E G) rs { nx := fun _ H' => Q .non H', rt := Q } (start C.N vs) H) : FnOk P w K mg base (L2.CX P w) (k + 1) f fd ps (spK g) := by
  have F1 : FnOk P w K mg base (L2.CX P w) (k + 1) f fd ps (fun vs H Q _ => ∃ r, g vs H = some r ∧ ∀ H', Same H H' → Q r H') :=
    def_ok F ck (fun vs H Q E ⟨r, h, _⟩ => len vs H r h) go fun vs H Q E ⟨r, h, hq⟩ => sem vs r H Q E h hq
  refine (FnOk.exact (R := fun vs H r => g vs H = some r) F1 loc).imp fun vs H Q E h => ?_
  unfold spK at h
  cases e : g vs H with
  | none => rw [e] at h; exact h.elim
  | some r => rw [e] at h; exact ⟨r, rfl, h⟩
end

/-! ### a text, sign by sign -/
theorem its_at {x : Str} {i : Nat} {c : Nat} : x.cps[i]? = some c ↔ (tl x)[i]? = some c := by
  unfold tl
  rw [Array.getElem?_toList]
theorem its_sz (x : Str) : x.cps.size = (tl x).length := by
  unfold tl
  simp
theorem take_fm {f : Nat → Option V} {l : List Nat} {i : Nat} {c : Nat} (h : l[i]? = some c) : (l.take (i + 1)).filterMap f = (l.take i).filterMap f ++ (f c).toList := by
  rw [List.take_add_one, h, List.filterMap_append]
  congr 1
theorem fm_len {f : Nat → Option V} {l : List Nat} {i n : Nat} (h : l.length ≤ n) (hi : i < l.length) : ((l.take i).filterMap f).length < n :=
  Nat.lt_of_le_of_lt (Nat.le_trans (List.length_filterMap_le _ _) (by rw [List.length_take]; omega)) (Nat.lt_of_lt_of_le hi h)
/-- a comprehension over a text; f: what a sign gives -/
theorem lc_str {x : Str} {g : TG} {tt : TT} {te : TE} {vs : List Nat} {σ : L2.St} {H1 : Hp} {D : Addr} {Qd : Hp → Prop} (f : Nat → Option V) (hl : (tl x).length ≤ line)
    (hs : ∀ c acc (Nx : Hp → Prop), c ∈ tl x → acc.length < sizeLine → Nx (upd H1 D (.lst (acc ++ (f c).toList))) → g (.str (sOf [c])) (wipe σ vs) (upd H1 D (.lst acc)) fun σ2 H2 => wipe σ2 vs = wipe σ vs ∧ tt σ2 H2 fun b H3 =>
      if b = true then te σ2 H3 fun y H4 => ∃ acc, H4 D = some (.lst acc) ∧ acc.length < sizeLine ∧ Nx (upd H4 D (.lst (acc ++ [y]))) else Nx H3) (hd : Qd (upd H1 D (.lst ((tl x).filterMap f)))) :
    ∃ W : Nat → Nat → Hp → Prop, (∃ m, W 0 m (upd H1 D (.lst []))) ∧ ∀ i m H, W i m H →
      ((Its x).stop i H ∧ Qd H) ∨ ((Its x).go i H ∧ ∃ Nx : Hp → Prop, (∀ H', Nx H' → ∃ m', m' < m ∧ W (i + 1) m' H') ∧ ∀ v H', (Its x).yld i H v H' → g v (wipe σ vs) H' fun σ2 H2 => wipe σ2 vs = wipe σ vs ∧ tt σ2 H2 fun b H3 =>
        if b = true then te σ2 H3 fun y H4 => ∃ acc, H4 D = some (.lst acc) ∧ acc.length < sizeLine ∧ Nx (upd H4 D (.lst (acc ++ [y]))) else Nx H3) := by
  refine ⟨fun i m H => m = (tl x).length - i ∧ i ≤ (tl x).length ∧ H = upd H1 D (.lst (((tl x).take i).filterMap f)), ⟨(tl x).length, by simp, Nat.zero_le _, by simp⟩, ?_⟩
  rintro i m H ⟨rfl, hi, rfl⟩
  by_cases hlt : i < (tl x).length
  · refine .inr ⟨by rw [← its_sz] at hlt; exact hlt, fun H' => H' = upd H1 D (.lst (((tl x).take (i + 1)).filterMap f)), fun H' p' => ⟨(tl x).length - (i + 1), by omega, rfl, hlt, p'⟩, fun v H' y => ?_⟩
    obtain ⟨e, c, hc, ev⟩ := y
    subst e
    subst ev
    have hc' := its_at.mp hc
    refine hs c _ _ (List.mem_of_getElem? hc') (fm_len (by rw [line_eq]; exact hl) hlt) ?_
    show upd H1 D _ = upd H1 D _
    rw [take_fm hc']
  · have e : i = (tl x).length := by omega
    refine .inl ⟨by rw [e, ← its_sz]; exact Nat.le_refl _, ?_⟩
    rw [e, List.take_length]
    exact hd
/-- a loop over a text; Pv by the signs that lie behind -/
theorem for_str {x : Str} {g : TG} {tb : TS} {D : Ends} {σ : L2.St} {H : Hp} (Pv : Cs → L2.St → Hp → Prop) (h0 : Pv [] σ H)
    (hs : ∀ pre c post σ H, tl x = pre ++ c :: post → Pv pre σ H → g (.str (sOf [c])) σ H fun σ2 H2 => tb { D with nx := Pv (pre ++ [c]), ct := Pv (pre ++ [c]), bk := D.nx } σ2 H2) (hd : ∀ σ H, Pv (tl x) σ H → D.nx σ H) :
    ∃ W : Nat → Nat → L2.St → Hp → Prop, (∃ m, W 0 m σ H) ∧ ∀ i m σ H, W i m σ H →
      ((Its x).stop i H ∧ D.nx σ H) ∨ ((Its x).go i H ∧ ∃ N : L2.St → Hp → Prop, (∀ σ' H', N σ' H' → ∃ m', m' < m ∧ W (i + 1) m' σ' H') ∧ ∀ v H', (Its x).yld i H v H' → g v σ H' fun σ2 H2 => tb { D with nx := N, ct := N, bk := D.nx } σ2 H2) := by
  refine ⟨fun i m σ H => m = (tl x).length - i ∧ i ≤ (tl x).length ∧ Pv ((tl x).take i) σ H, ⟨(tl x).length, by simp, Nat.zero_le _, by simpa using h0⟩, ?_⟩
  rintro i m σ H ⟨rfl, hi, p⟩
  by_cases hlt : i < (tl x).length
  · refine .inr ⟨by rw [← its_sz] at hlt; exact hlt, Pv ((tl x).take (i + 1)), fun σ' H' p' => ⟨(tl x).length - (i + 1), by omega, rfl, hlt, p'⟩, fun v H' y => ?_⟩
    obtain ⟨e, c, hc, ev⟩ := y
    subst e
    subst ev
    have hc' := its_at.mp hc
    have es : (tl x).take (i + 1) = (tl x).take i ++ [c] := by
      rw [List.take_add_one, hc']
      rfl
    rw [es]
    refine hs _ c ((tl x).drop (i + 1)) σ H' ?_ p
    have q := List.take_append_drop (i + 1) (tl x)
    rw [es, List.append_assoc] at q
    exact q.symm
  · have e : i = (tl x).length := by omega
    refine .inl ⟨by rw [e, ← its_sz]; exact Nat.le_refl _, hd σ H ?_⟩
    rw [e, List.take_length] at p
    exact p
/-- a comprehension over a range; f: what a number gives -/
theorem lc_rng {lo : Int} {n : Nat} {g : TG} {tt : TT} {te : TE} {vs : List Nat} {σ : L2.St} {H1 : Hp} {D : Addr} {Qd : Hp → Prop} (f : Nat → Option V) (hl : n ≤ line)
    (hs : ∀ i acc (Nx : Hp → Prop), i < n → acc.length < sizeLine → Nx (upd H1 D (.lst (acc ++ (f i).toList))) → g (.int (lo + i)) (wipe σ vs) (upd H1 D (.lst acc)) fun σ2 H2 => wipe σ2 vs = wipe σ vs ∧ tt σ2 H2 fun b H3 =>
      if b = true then te σ2 H3 fun y H4 => ∃ acc, H4 D = some (.lst acc) ∧ acc.length < sizeLine ∧ Nx (upd H4 D (.lst (acc ++ [y]))) else Nx H3) (hd : Qd (upd H1 D (.lst ((List.range n).filterMap f)))) :
    ∃ W : Nat → Nat → Hp → Prop, (∃ m, W 0 m (upd H1 D (.lst []))) ∧ ∀ i m H, W i m H →
      ((Itr lo n).stop i H ∧ Qd H) ∨ ((Itr lo n).go i H ∧ ∃ Nx : Hp → Prop, (∀ H', Nx H' → ∃ m', m' < m ∧ W (i + 1) m' H') ∧ ∀ v H', (Itr lo n).yld i H v H' → g v (wipe σ vs) H' fun σ2 H2 => wipe σ2 vs = wipe σ vs ∧ tt σ2 H2 fun b H3 =>
        if b = true then te σ2 H3 fun y H4 => ∃ acc, H4 D = some (.lst acc) ∧ acc.length < sizeLine ∧ Nx (upd H4 D (.lst (acc ++ [y]))) else Nx H3) := by
  refine lc_range (fun i H => H = upd H1 D (.lst ((List.range i).filterMap f))) (by simp) (fun i H hi e => ?_) fun H e => by subst e; exact hd
  subst e
  refine hs i _ _ hi (Nat.lt_of_le_of_lt (Nat.le_trans (List.length_filterMap_le _ _) (by rw [List.length_range]; exact Nat.le_refl i)) (by rw [line_eq]; omega)) ?_
  show upd H1 D _ = upd H1 D _
  rw [List.range_succ, List.filterMap_append]
  congr 4

/-! ### flat lists compared -/
def pd : V → PyData
  | .bl b => .bool b | .int i => .int i | .str s => .str s | _ => .none
def okF : V → Bool
  | .non => true | .bl _ => true | .int _ => true | .str s => PyData.strOk s | _ => false
theorem dp_flat {K : PySem.W.Frag} {H : Hp} {v : V} (h : okF v = true) : Dp K H v (pd v) := by
  cases v with
  | non => exact .non
  | bl b => exact .bl b
  | int i => exact .int i
  | str s => exact .str s
  | _ => cases h
theorem dpAll_flat {K : PySem.W.Frag} {H : Hp} : ∀ {xs : List V}, xs.all okF = true → DpAll K H xs (xs.map pd)
  | [], _ => .nil
  | x :: xs, h => by
    rw [List.all_cons, Bool.and_eq_true] at h
    exact .cons (dp_flat h.1) (dpAll_flat h.2)
theorem lay_flat : ∀ {xs : List V}, xs.all okF = true → PyData.canLayAll0 (xs.map pd) = true ∧ PyData.depthAll (xs.map pd) = 0
  | [], _ => ⟨rfl, rfl⟩
  | x :: xs, h => by
    rw [List.all_cons, Bool.and_eq_true] at h
    obtain ⟨h1, h2⟩ := lay_flat h.2
    rw [List.map_cons]
    unfold PyData.canLayAll0 PyData.depthAll
    rw [h1, h2]
    cases x with
    | non => exact ⟨by simp [pd, PyData.canLay0], by simp [pd, PyData.depth]⟩
    | bl b => exact ⟨by simp [pd, PyData.canLay0], by simp [pd, PyData.depth]⟩
    | int i => exact ⟨by simp [pd, PyData.canLay0], by simp [pd, PyData.depth]⟩
    | str s =>
      have q : PyData.strOk s = true := h.1
      exact ⟨by simp [pd, PyData.canLay0, q], by simp [pd, PyData.depth]⟩
    | _ => cases h.1
theorem shaped_flat {xs : List V} (h : xs.all okF = true) : SeqAt.shaped (.list (xs.map pd)) = true := by
  obtain ⟨h1, h2⟩ := lay_flat h
  unfold SeqAt.shaped
  rw [Bool.and_eq_true]
  refine ⟨by unfold PyData.canLay0; exact h1, ?_⟩
  unfold PyData.depth
  rw [h2]
  decide
theorem rNe_flat {K : PySem.W.Frag} {H : Hp} {p q : Addr} {xs ys : List V} {Q : VK} (h1 : lstH H p = some xs) (h2 : lstH H q = some ys) (f1 : xs.all okF = true) (f2 : ys.all okF = true) (hq : Q (.bl (!PyData.eqvAll (xs.map pd) (ys.map pd))) H) : rNeX K (.ref p) (.ref q) H Q :=
  ⟨_, _, .lst (lstH_sq h1) (dpAll_flat f1), .lst (lstH_sq h2) (dpAll_flat f2), shaped_flat f1, shaped_flat f2, by unfold PyData.eqv; exact hq⟩
theorem rEq_flat {K : PySem.W.Frag} {H : Hp} {p q : Addr} {xs ys : List V} {Q : VK} (h1 : lstH H p = some xs) (h2 : lstH H q = some ys) (f1 : xs.all okF = true) (f2 : ys.all okF = true) (hq : Q (.bl (PyData.eqvAll (xs.map pd) (ys.map pd))) H) : rEqX K (.ref p) (.ref q) H Q :=
  ⟨_, _, .lst (lstH_sq h1) (dpAll_flat f1), .lst (lstH_sq h2) (dpAll_flat f2), shaped_flat f1, shaped_flat f2, by unfold PyData.eqv; exact hq⟩
theorem lst_upd {H : Hp} {p : Addr} {xs : List V} : lstH (upd H p (.lst xs)) p = some xs := by
  unfold lstH
  rw [upd_same]
/-- a heap with a new thing, seen from elsewhere -/
theorem upd_new {H : Hp} {p q : Addr} {o u : HO} (h : upd H p o q = none) : upd (upd H p o) q u p = some o := by
  rw [upd_ne (fun e => ?_), upd_same]
  rw [← e, upd_same] at h
  cases h
theorem bls_map {f : Nat → Bool} : ∀ l : List Nat, blsOf (l.filterMap fun c => some (V.bl (f c))) = some (l.map f)
  | [] => rfl
  | c :: r => by
    show (blsOf (r.filterMap fun c => some (V.bl (f c)))).map (f c :: ·) = _
    rw [bls_map r]
    rfl
end Rf
set_option Elab.async false
set_option autoImplicit false
set_option linter.all false
set_option maxRecDepth 100000
set_option maxHeartbeats 4000000
/-! From the head's facts to the tables of a def. -/
namespace Rf
open PySem PySem.Spec PyProof.Rows L2
/-- a def that keeps its promise, where it stands -/
def OkAt (P : Program) (w : World) (K : PySem.W.Frag) (mg : Str → Option Value) (base : Heap) (k : Nat) (x : Str) (ps : List Str) (s : Sp) : Prop :=
  ∃ fd, mg x = some (.ref (He.ga K x)) ∧ PySem.W.keepIn K (.ref (He.ga K x)) = true ∧ FnOk P w K mg base (L2.CX P w) k (He.ga K x) fd ps s ∧ Binds K fd ps []
section
variable {P : Program} {w : World} {K : PySem.W.Frag} {mg : Str → Option Value} {base : Heap} {k : Nat}
theorem OkAt.up {j : Nat} {x : Str} {ps : List Str} {s : Sp} (h : OkAt P w K mg base j x ps s) (l : j ≤ k) : OkAt P w K mg base k x ps s := by
  obtain ⟨fd, h1, h2, h3, h4⟩ := h
  exact ⟨fd, h1, h2, h3.mono l, h4⟩
inductive FnL (P : Program) (w : World) (K : PySem.W.Frag) (mg : Str → Option Value) (base : Heap) (k : Nat) : List Str → List Sp → List Addr → Prop
  | nil : FnL P w K mg base k [] [] []
  | cons {x : Str} {ps : List Str} {s : Sp} {j : Nat} {xs : List Str} {ss : List Sp} {fs : List Addr} (h : OkAt P w K mg base j x ps s) (l : j ≤ k) (t : FnL P w K mg base k xs ss fs) : FnL P w K mg base k (x :: xs) (s :: ss) (He.ga K x :: fs)
inductive GvL (mg : Str → Option Value) : List Str → List V → Prop
  | nil : GvL mg [] []
  | cons {x : Str} {v : V} {u : Value} {xs : List Str} {vs : List V} (h : mg x = some u) (r : RelV v u) (t : GvL mg xs vs) : GvL mg (x :: xs) (v :: vs)
inductive ExL (K : PySem.W.Frag) (mg : Str → Option Value) : List Str → List Addr → Prop
  | nil : ExL K mg [] []
  | cons {x : Str} {xs : List Str} {as : List Addr} (h : mg x = some (.ref (He.ga K x))) (c : (He.Fa.exc x).ok K = true) (t : ExL K mg xs as) : ExL K mg (x :: xs) (He.ga K x :: as)
theorem FnL.at_ {xs : List Str} {ss : List Sp} {fs : List Addr} (h : FnL P w K mg base k xs ss fs) : ∀ (i : Nat) (x : Str), xs[i]? = some x → ∃ (s : Sp) (f : Addr) (fd : FuncData) (ps : List Str), ss[i]? = some s ∧ fs[i]? = some f ∧ mg x = some (.ref f) ∧ PySem.W.keepIn K (.ref f) = true ∧ FnOk P w K mg base (L2.CX P w) k f fd ps s ∧ Binds K fd ps [] := by
  induction h with
  | nil => intro i x h; cases h
  | cons h l t ih =>
    intro i y hy
    cases i with
    | zero =>
      cases hy
      obtain ⟨fd, h1, h2, h3, h4⟩ := h
      exact ⟨_, _, fd, _, rfl, rfl, h1, h2, h3.mono l, h4⟩
    | succ i => exact ih i y hy
theorem FnL.len {xs : List Str} {ss : List Sp} {fs : List Addr} (h : FnL P w K mg base k xs ss fs) : ss.length = xs.length ∧ fs.length = xs.length := by
  induction h with
  | nil => exact ⟨rfl, rfl⟩
  | cons h l t ih => exact ⟨by rw [List.length_cons, List.length_cons, ih.1], by rw [List.length_cons, List.length_cons, ih.2]⟩
theorem GvL.at_ {xs : List Str} {vs : List V} (h : GvL mg xs vs) : ∀ (i : Nat) (x : Str), xs[i]? = some x → ∃ (v : V) (u : Value), vs[i]? = some v ∧ mg x = some u ∧ RelV v u := by
  induction h with
  | nil => intro i x h; cases h
  | cons h r t ih =>
    intro i y hy
    cases i with
    | zero => cases hy; exact ⟨_, _, rfl, h, r⟩
    | succ i => exact ih i y hy
theorem ExL.at_ {xs : List Str} {as : List Addr} (h : ExL K mg xs as) : ∀ (i : Nat) (x : Str), xs[i]? = some x → ∃ a : Addr, as[i]? = some a ∧ mg x = some (.ref a) ∧ PySem.W.excIn K a He.veBase "ValueError.__new__" = true ∧ PySem.W.keepIn K (.ref a) = true ∧
    PySem.W.subIn K (.ref a) (.type "BaseException") = some true ∧ PySem.W.typeIn K (.ref a) = some (.type "type") := by
  induction h with
  | nil => intro i x h; cases h
  | cons h c t ih =>
    intro i y hy
    cases i with
    | zero =>
      cases hy
      obtain ⟨c1, c2, c3, c4⟩ := He.exc_ok c
      exact ⟨_, rfl, h, c1, c2, c3, c4⟩
    | succ i => exact ih i y hy
inductive MkL (P : Program) (w : World) (K : PySem.W.Frag) (mg : Str → Option Value) (base : Heap) (k : Nat) : List Str → List (Addr × Sp) → Prop
  | nil : MkL P w K mg base k [] []
  | cons {x : Str} {s : Sp} {f : Addr} {fd : FuncData} {ps : List Str} {j : Nat} {xs : List Str} {ms : List (Addr × Sp)} (m : mg x = some (.ref (He.ga K x))) (M : Mk K (He.ga K x) f) (F : FnOk P w K mg base (L2.CX P w) j f fd ps s) (b : Binds K fd ps []) (l : j + 1 ≤ k)
      (t : MkL P w K mg base k xs ms) : MkL P w K mg base k (x :: xs) ((He.ga K x, s) :: ms)
theorem MkL.at_ {xs : List Str} {ms : List (Addr × Sp)} (h : MkL P w K mg base k xs ms) : ∀ (i : Nat) (x : Str), xs[i]? = some x → ∃ (A : Addr) (s : Sp) (f : Addr) (fd : FuncData) (ps : List Str) (j : Nat), j + 1 ≤ k ∧ ms[i]? = some (A, s) ∧ mg x = some (.ref A) ∧ Mk K A f ∧ FnOk P w K mg base (L2.CX P w) j f fd ps s ∧ Binds K fd ps [] := by
  induction h with
  | nil => intro i x h; cases h
  | cons m M F b l t ih =>
    intro i y hy
    cases i with
    | zero => cases hy; exact ⟨_, _, _, _, _, _, l, rfl, m, M, F, b⟩
    | succ i => exact ih i y hy
/-- own errors with an __init__ of their own -/
inductive ExiL (P : Program) (w : World) (K : PySem.W.Frag) (mg : Str → Option Value) (base : Heap) (k : Nat) : List Str → List (Addr × Sp) → Prop
  | nil : ExiL P w K mg base k [] []
  | cons {x : Str} {s : Sp} {f : Addr} {fd : FuncData} {ps : List Str} {j : Nat} {xs : List Str} {ms : List (Addr × Sp)} (m : mg x = some (.ref (He.ga K x))) (T : OexC K (He.ga K x)) (i : PySem.W.findIn K (.ref (He.ga K x)) "__init__" = some (some (.ref f)))
      (y : PySem.W.typeIn K (.ref f) = some (.type "function")) (F : FnOk P w K mg base (L2.CX P w) j f fd ps s) (b : Binds K fd ps []) (l : j + 1 ≤ k) (t : ExiL P w K mg base k xs ms) : ExiL P w K mg base k (x :: xs) ((He.ga K x, s) :: ms)
theorem ExiL.at_ {xs : List Str} {ms : List (Addr × Sp)} (h : ExiL P w K mg base k xs ms) : ∀ (i : Nat) (x : Str), xs[i]? = some x → ∃ (A : Addr) (s : Sp) (f : Addr) (fd : FuncData) (ps : List Str) (j : Nat), j + 1 ≤ k ∧ ms[i]? = some (A, s) ∧ mg x = some (.ref A) ∧ OexC K A ∧
    PySem.W.findIn K (.ref A) "__init__" = some (some (.ref f)) ∧ PySem.W.typeIn K (.ref f) = some (.type "function") ∧ FnOk P w K mg base (L2.CX P w) j f fd ps s ∧ Binds K fd ps [] := by
  induction h with
  | nil => intro i x h; cases h
  | cons m T i y F b l t ih =>
    intro n z hz
    cases n with
    | zero => cases hz; exact ⟨_, _, _, _, _, _, l, rfl, m, T, i, y, F, b⟩
    | succ n => exact ih n z hz
theorem meG_none : MeG P w K mg base k fun _ _ => none := fun _ _ _ h => by cases h
theorem GOk.of {C : Ct} {G : Gb} (f : FnL P w K mg base k C.fns G.sp G.fa) (g : GvL mg C.gs G.gv) (r : ∀ x, x ∈ C.fr → mg x = none) (e : ExL K mg C.ex G.ex) (m : MeG P w K mg base k G.me) (q : MkL P w K mg base k C.mks G.mks) (x : ExiL P w K mg base k C.exi G.exi) : GOk P w K mg base k C G :=
  ⟨f.at_, f.len, g.at_, r, e.at_, m, q.at_, x.at_⟩
/-- a def that never lets an error out, told without one -/
theorem FnOk.cx0 {f : Addr} {fd : FuncData} {ps : List Str} {sp : Sp} (F : FnOk P w K mg base (L2.CX P w) k f fd ps sp) (h : ∀ vs H Q E, sp vs H Q E → sp vs H Q fun _ _ _ => False) : FnOk P w K mg base CX0 k f fd ps sp :=
  ⟨F.len, fun A outer s H args us vs Q E hr e0 hb r hs => codeAny_mono (F.run A outer s H args us vs Q (fun _ _ _ => False) hr e0 hb r (h _ _ _ _ hs)) fun res s' hq => by
    cases res with
    | error e =>
      obtain ⟨a, B, H1, cls, d, _, _, _, _, _, _, _, z⟩ := hq
      exact z.elim
    | ok fl => cases fl <;> exact hq⟩
end
/-! ### more facts of K -/
def kB (K : PySem.W.Frag) (x y : Value) (b : Bool) : Bool := decide (PySem.W.kitOne K x y = some b)
theorem kB_ok {K : PySem.W.Frag} {x y : Value} {b : Bool} (h : kB K x y b = true) : PySem.W.kitOne K x y = some b := of_decide_eq_true h
def excB (K : PySem.W.Frag) (D : Addr) : Bool := He.eqO (PySem.W.findIn K (.ref D) "__getattribute__") (some (some (.builtin "BaseException.__getattribute__"))) && (He.eqO (PySem.W.findIn K (.ref D) "__getattr__") (some none) &&
  (decide (PySem.W.subIn K (.ref D) (.type "BaseException") = some true) && (PySem.W.hasDictIn K D && (He.eqO (PySem.W.findIn K (.ref D) "__class__") (some (some (.builtin "object.__class__"))) &&
  (He.eqO (PySem.W.specialIn K (.builtin "object.__class__") "__get__") (some (some (.builtin "getset_descriptor.__get__"))) && (decide (PySem.W.takesIn K (.builtin "object.__class__") = some true) && decide (PySem.W.mroIn K D (.type "object") = some true)))))))
theorem excB_ok {K : PySem.W.Frag} {D : Addr} (h : excB K D = true) : ExcC K D := by
  unfold excB at h
  simp only [Bool.and_eq_true] at h
  obtain ⟨h1, h2, h3, h4, h5, h6, h7, h8⟩ := h
  exact ⟨He.eqO_ok h1, He.eqO_ok h2, of_decide_eq_true h3, h4, He.eqO_ok h5, He.eqO_ok h6, of_decide_eq_true h7, of_decide_eq_true h8⟩
def noListB (K : PySem.W.Frag) : Bool := K.all fun p => !decide (p.2.cls = .type "list")
theorem noList_ok {K : PySem.W.Frag} (h : noListB K = true) {a : Addr} {o : Obj} (e : K.lookup a = some o) : o.cls ≠ .type "list" := fun z => by
  have q := List.all_eq_true.mp h (a, o) (He.lookup_mem e)
  rw [decide_eq_true (show (a, o).2.cls = .type "list" from z)] at q
  cases q
end Rf
set_option Elab.async false
set_option autoImplicit false
set_option linter.all false
set_option maxRecDepth 100000
set_option maxHeartbeats 4000000
/-! Values as trees, a store of the things that change, and how they stand in the heap. -/
namespace Rf
open PySem PySem.Spec PyProof.Rows L2
abbrev KC := Int ⊕ Cs
def kc : KC → Key
  | .inl i => .inl i
  | .inr c => .inr (sOf c)
theorem kc_inj {a b : KC} (h : kc a = kc b) : a = b := by
  cases a <;> cases b <;> simp [kc] at h
  · rw [h]
  · rw [h]
inductive PV where
  | non | bl (b : Bool) | int (i : Int) | str (x : Cs) | ty (n : String) | cl (a : Addr)
  | lst (xs : List PV) | tup (xs : List PV) | dic (kvs : List (KC × PV)) | dit (kvs : List (List KC × PV)) | ins (C : Addr) (fs : List (Str × PV)) | err (C : Addr) (fs : List (Str × PV))
abbrev Fg := PySem.W.Frag
/-- a tuple of the written part -/
def KTup (K : Fg) (a : Addr) (xs : List V) : Prop := ∃ (o : Obj) (its : Array Value) (n : Nat), K.lookup a = some o ∧ o.cls = .type "tuple" ∧ o.data = .seq its n ∧ its.size ≤ sizeLine ∧ Vals xs its.toList
mutual
inductive Rl (K : Fg) (F : Hp) : V → PV → Prop
  | non : Rl K F .non .non
  | bl (b : Bool) : Rl K F (.bl b) (.bl b)
  | int (i : Int) : Rl K F (.int i) (.int i)
  | str (c : Cs) : Rl K F (.str (sOf c)) (.str c)
  | ty (n : String) : Rl K F (.ty n) (.ty n)
  | cl (a : Addr) : Rl K F (.ref a) (.cl a)
  | lst {a : Addr} {vs : List V} {xs : List PV} (h : F a = some (.lst vs)) (r : RlL K F vs xs) : Rl K F (.ref a) (.lst xs)
  | tup {a : Addr} {vs : List V} {xs : List PV} (h : F a = some (.tup vs)) (r : RlL K F vs xs) : Rl K F (.ref a) (.tup xs)
  | dk {a : Addr} {kvs : List (Key × V)} {ks : List (KC × PV)} (h : F a = some (.dK kvs)) (r : RlK K F kvs ks) : Rl K F (.ref a) (.dic ks)
  | dt {a : Addr} {kvs : List (List Key × V)} {ks : List (List KC × PV)} (h : F a = some (.dT kvs)) (r : RlT K F kvs ks) : Rl K F (.ref a) (.dit ks)
  | ins {a C dx : Addr} {fs : List (Str × V)} {gs : List (Str × PV)} (h : F a = some (.ins C dx fs)) (r : RlF K F fs gs) : Rl K F (.ref a) (.ins C gs)
  | err0 {a C : Addr} (h : F a = some (.ext (exvP (.ref C) none a))) : Rl K F (.ref a) (.err C [])
  | err1 {a C dx : Addr} {fs : List (Str × V)} {gs : List (Str × PV)} (h : F a = some (.ext (exvP (.ref C) (some dx) a))) (hx : F dx = some (.xd fs)) (r : RlF K F fs gs) : Rl K F (.ref a) (.err C gs)
inductive RlL (K : Fg) (F : Hp) : List V → List PV → Prop
  | nil : RlL K F [] []
  | cons {v : V} {p : PV} {vs : List V} {ps : List PV} (h : Rl K F v p) (t : RlL K F vs ps) : RlL K F (v :: vs) (p :: ps)
inductive RlK (K : Fg) (F : Hp) : List (Key × V) → List (KC × PV) → Prop
  | nil : RlK K F [] []
  | cons {k : KC} {v : V} {p : PV} {vs : List (Key × V)} {ps : List (KC × PV)} (h : Rl K F v p) (t : RlK K F vs ps) : RlK K F ((kc k, v) :: vs) ((k, p) :: ps)
inductive RlT (K : Fg) (F : Hp) : List (List Key × V) → List (List KC × PV) → Prop
  | nil : RlT K F [] []
  | cons {k : List KC} {v : V} {p : PV} {vs : List (List Key × V)} {ps : List (List KC × PV)} (h : Rl K F v p) (t : RlT K F vs ps) : RlT K F ((k.map kc, v) :: vs) ((k, p) :: ps)
inductive RlF (K : Fg) (F : Hp) : List (Str × V) → List (Str × PV) → Prop
  | nil : RlF K F [] []
  | cons {f : Str} {v : V} {p : PV} {vs : List (Str × V)} {ps : List (Str × PV)} (h : Rl K F v p) (t : RlF K F vs ps) : RlF K F ((f, v) :: vs) ((f, p) :: ps)
end
section
variable {K : Fg} {F F' : Hp}
theorem Rl.mono (s : Same F F') {v : V} {p : PV} (h : Rl K F v p) : Rl K F' v p :=
  Rl.rec (motive_1 := fun v p _ => Rl K F' v p) (motive_2 := fun v p _ => RlL K F' v p) (motive_3 := fun v p _ => RlK K F' v p) (motive_4 := fun v p _ => RlT K F' v p) (motive_5 := fun v p _ => RlF K F' v p)
    .non .bl .int .str .ty .cl (fun h _ r => .lst (s _ _ h) r) (fun h _ r => .tup (s _ _ h) r) (fun h _ r => .dk (s _ _ h) r) (fun h _ r => .dt (s _ _ h) r) (fun h _ r => .ins (s _ _ h) r)
    (fun h => .err0 (s _ _ h)) (fun h hx _ r => .err1 (s _ _ h) (s _ _ hx) r) .nil (fun _ _ a b => .cons a b) .nil (fun _ _ a b => .cons a b) .nil (fun _ _ a b => .cons a b) .nil (fun _ _ a b => .cons a b) h
theorem RlL.pair : ∀ {vs : List V} {ps : List PV}, RlL K F vs ps → Paired (Rl K F) vs ps
  | [], [], _ => .nil
  | _ :: _, _ :: _, h => by cases h with | cons h t => exact .cons h t.pair
  | [], _ :: _, h => nomatch h
  | _ :: _, [], h => nomatch h
theorem RlL.of : ∀ {vs : List V} {ps : List PV}, Paired (Rl K F) vs ps → RlL K F vs ps
  | _, _, .nil => .nil
  | _, _, .cons h t => .cons h (RlL.of t)
theorem RlF.pair : ∀ {vs : List (Str × V)} {ps : List (Str × PV)}, RlF K F vs ps → Paired (fun p q => p.1 = q.1 ∧ Rl K F p.2 q.2) vs ps
  | [], [], _ => .nil
  | _ :: _, _ :: _, h => by cases h with | cons h t => exact .cons ⟨rfl, h⟩ t.pair
  | [], _ :: _, h => nomatch h
  | _ :: _, [], h => nomatch h
theorem RlF.of : ∀ {vs : List (Str × V)} {ps : List (Str × PV)}, Paired (fun p q => p.1 = q.1 ∧ Rl K F p.2 q.2) vs ps → RlF K F vs ps
  | _, _, .nil => .nil
  | (f, v) :: _, (g, p) :: _, .cons ⟨e, h⟩ t => by
    have e : f = g := e
    subst e
    exact .cons h (RlF.of t)
theorem RlK.pair : ∀ {vs : List (Key × V)} {ps : List (KC × PV)}, RlK K F vs ps → Paired (fun p q => p.1 = kc q.1 ∧ Rl K F p.2 q.2) vs ps
  | [], [], _ => .nil
  | _ :: _, _ :: _, h => by cases h with | cons h t => exact .cons ⟨rfl, h⟩ t.pair
  | [], _ :: _, h => nomatch h
  | _ :: _, [], h => nomatch h
theorem RlK.of : ∀ {vs : List (Key × V)} {ps : List (KC × PV)}, Paired (fun p q => p.1 = kc q.1 ∧ Rl K F p.2 q.2) vs ps → RlK K F vs ps
  | _, _, .nil => .nil
  | (f, v) :: _, (g, p) :: _, .cons ⟨e, h⟩ t => by
    have e : f = kc g := e
    subst e
    exact .cons h (RlK.of t)
theorem RlT.pair : ∀ {vs : List (List Key × V)} {ps : List (List KC × PV)}, RlT K F vs ps → Paired (fun p q => p.1 = q.1.map kc ∧ Rl K F p.2 q.2) vs ps
  | [], [], _ => .nil
  | _ :: _, _ :: _, h => by cases h with | cons h t => exact .cons ⟨rfl, h⟩ t.pair
  | [], _ :: _, h => nomatch h
  | _ :: _, [], h => nomatch h
theorem RlT.of : ∀ {vs : List (List Key × V)} {ps : List (List KC × PV)}, Paired (fun p q => p.1 = q.1.map kc ∧ Rl K F p.2 q.2) vs ps → RlT K F vs ps
  | _, _, .nil => .nil
  | (f, v) :: _, (g, p) :: _, .cons ⟨e, h⟩ t => by
    have e : f = g.map kc := e
    subst e
    exact .cons h (RlT.of t)
end

/-! ### the store -/
inductive AV where
  | pv (p : PV) | hnd (n : Nat)
inductive AO where
  | lst (xs : List AV) | dic (kvs : List (KC × AV)) | dit (kvs : List (List KC × AV)) | ins (C : Addr) (fs : List (Str × AV))
inductive SE where
  | live (o : AO) | lock (o : AO) | dead
abbrev Sto := List SE
def Rv (K : Fg) (A : List Addr) (F : Hp) : V → AV → Prop := fun v w => match w with
  | .pv p => Rl K F v p
  | .hnd n => ∃ a, v = .ref a ∧ A[n]? = some a
def Ro (K : Fg) (A : List Addr) (F : Hp) : HO → AO → Prop := fun h o => match o with
  | .lst xs => ∃ vs, h = .lst vs ∧ Paired (Rv K A F) vs xs
  | .dic ks => ∃ kvs, h = .dK kvs ∧ Paired (fun p q => p.1 = kc q.1 ∧ Rv K A F p.2 q.2) kvs ks
  | .dit ks => ∃ kvs, h = .dT kvs ∧ Paired (fun p q => p.1 = q.1.map kc ∧ Rv K A F p.2 q.2) kvs ks
  | .ins C gs => ∃ dx fs, h = .ins C dx fs ∧ Paired (fun p q => p.1 = q.1 ∧ Rv K A F p.2 q.2) fs gs
def isD : HO → Bool
  | .dK _ => true | .dT _ => true | _ => false
structure Ext (A : List Addr) (F : Hp) (A' : List Addr) (F' : Hp) : Prop where
  a : ∀ (n : Nat) (x : Addr), A[n]? = some x → A'[n]? = some x
  f : Same F F'
theorem Ext.refl {A : List Addr} {F : Hp} : Ext A F A F := ⟨fun _ _ h => h, fun _ _ h => h⟩
theorem Ext.trans {A A1 A2 : List Addr} {F F1 F2 : Hp} (h : Ext A F A1 F1) (g : Ext A1 F1 A2 F2) : Ext A F A2 F2 := ⟨fun n x e => g.a n x (h.a n x e), fun a o e => g.f a o (h.f a o e)⟩
structure StR (K : Fg) (A : List Addr) (F X : Hp) (S : Sto) (H : Hp) : Prop where
  len : A.length = S.length
  sub : ∀ a o, F a = some o → H a = some o ∨ (isD o = true ∧ ∃ ob, H a = some (.frz ob o))
  live : ∀ (n : Nat) o, S[n]? = some (.live o) → ∃ a ho, A[n]? = some a ∧ F a = none ∧ X a = none ∧ H a = some ho ∧ Ro K A F ho o
  lock : ∀ (n : Nat) o, S[n]? = some (.lock o) → ∃ a ob ho, A[n]? = some a ∧ F a = none ∧ X a = none ∧ H a = some (.frz ob ho) ∧ Ro K A F ho o
  inj : ∀ (n m : Nat) e e' a, S[n]? = some e → S[m]? = some e' → e ≠ .dead → e' ≠ .dead → A[n]? = some a → A[m]? = some a → n = m
  hid : ∀ a o, X a = some o → H a = some o ∧ F a = none
  tk : ∀ (a : Addr) (ks : List Key), H a = some (.tup (ks.map kV)) → F a = some (.tup (ks.map kV))
section
variable {K : Fg} {A A' : List Addr} {F F' X : Hp} {S : Sto} {H : Hp} {v : V} {w : AV}
theorem Rv.mono (e : Ext A F A' F') (h : Rv K A F v w) : Rv K A' F' v w := by
  cases w with
  | pv p => exact Rl.mono e.f h
  | hnd n => obtain ⟨a, h1, h2⟩ := h; exact ⟨a, h1, e.a n a h2⟩
theorem Paired.mono {α β : Type} {P Q : α → β → Prop} (h : ∀ a b, P a b → Q a b) {xs : List α} {ys : List β} (r : Paired P xs ys) : Paired Q xs ys := Paired.mapP r h
theorem Ro.mono (e : Ext A F A' F') {ho : HO} {o : AO} (h : Ro K A F ho o) : Ro K A' F' ho o := by
  cases o with
  | lst xs => obtain ⟨vs, h1, h2⟩ := h; exact ⟨vs, h1, h2.mono fun _ _ z => z.mono e⟩
  | dic ks => obtain ⟨vs, h1, h2⟩ := h; exact ⟨vs, h1, h2.mono fun _ _ z => ⟨z.1, z.2.mono e⟩⟩
  | dit ks => obtain ⟨vs, h1, h2⟩ := h; exact ⟨vs, h1, h2.mono fun _ _ z => ⟨z.1, z.2.mono e⟩⟩
  | ins C gs => obtain ⟨dx, fs, h1, h2⟩ := h; exact ⟨dx, fs, h1, h2.mono fun _ _ z => ⟨z.1, z.2.mono e⟩⟩
theorem StR.fnone (st : StR K A F X S H) {a : Addr} (h : H a = none) : F a = none := by
  cases e : F a with
  | none => rfl
  | some o =>
    rcases st.sub a o e with z | ⟨_, _, z⟩
    · rw [h] at z; cases z
    · rw [h] at z; cases z
theorem StR.xnone (st : StR K A F X S H) {a : Addr} (h : H a = none) : X a = none := by
  cases e : X a with
  | none => rfl
  | some o => have z := (st.hid a o e).1; rw [h] at z; cases z
/-- a new thing that never changes -/
theorem StR.tree (st : StR K A F X S H) {p : Addr} {ho : HO} (hp : H p = none) : StR K A (upd F p ho) X S (upd H p ho) ∧ Ext A F A (upd F p ho) := by
  have fp := st.fnone hp
  have ex : Ext A F A (upd F p ho) := ⟨fun _ _ h => h, fun a o e => by rw [upd_ne (ne_of_none e fp)]; exact e⟩
  refine ⟨⟨st.len, fun a o e => ?_, fun n o e => ?_, fun n o e => ?_, st.inj, fun a o e => ?_, fun a ks e => ?_⟩, ex⟩
  · by_cases h : a = p
    · subst h
      rw [upd_same] at e
      cases e
      exact .inl upd_same
    · rw [upd_ne h] at e ⊢
      exact st.sub a o e
  · obtain ⟨a, h1, e1, e2, e3, e4, e5⟩ := st.live n o e
    have ne : a ≠ p := ne_of_none e4 hp
    exact ⟨a, h1, e1, by rw [upd_ne ne]; exact e2, e3, by rw [upd_ne ne]; exact e4, e5.mono ex⟩
  · obtain ⟨a, ob, h1, e1, e2, e3, e4, e5⟩ := st.lock n o e
    have ne : a ≠ p := ne_of_none e4 hp
    exact ⟨a, ob, h1, e1, by rw [upd_ne ne]; exact e2, e3, by rw [upd_ne ne]; exact e4, e5.mono ex⟩
  · obtain ⟨h1, h2⟩ := st.hid a o e
    have ne : a ≠ p := ne_of_none h1 hp
    exact ⟨by rw [upd_ne ne]; exact h1, by rw [upd_ne ne]; exact h2⟩
  · by_cases h : a = p
    · subst h
      rw [upd_same] at e ⊢
      exact e
    · rw [upd_ne h] at e ⊢
      exact st.tk a ks e
def notTup : HO → Prop := fun h => ∀ xs, h ≠ .tup xs
theorem Ro.notTup {ho : HO} {o : AO} (h : Ro K A F ho o) : notTup ho := by
  intro xs z
  subst z
  cases o with
  | lst xs => obtain ⟨vs, h1, _⟩ := h; cases h1
  | dic ks => obtain ⟨vs, h1, _⟩ := h; cases h1
  | dit ks => obtain ⟨vs, h1, _⟩ := h; cases h1
  | ins C gs => obtain ⟨dx, fs, h1, _⟩ := h; cases h1
theorem get_app {α : Type} {l : List α} {x : α} {n : Nat} {y : α} (h : (l ++ [x])[n]? = some y) : l[n]? = some y ∨ n = l.length ∧ y = x := by
  by_cases hn : n < l.length
  · rw [List.getElem?_append_left hn] at h
    exact .inl h
  · rw [List.getElem?_append_right (by omega)] at h
    cases e : n - l.length with
    | zero => rw [e] at h; cases h; exact .inr ⟨by omega, rfl⟩
    | succ k => rw [e] at h; cases h
theorem get_app_l {α : Type} {l r : List α} {n : Nat} {y : α} (h : l[n]? = some y) : (l ++ r)[n]? = some y := by
  rw [List.getElem?_append_left (List.getElem?_eq_some_iff.mp h).1]
  exact h
/-- a new thing that may change -/
theorem StR.alloc (st : StR K A F X S H) {p : Addr} {ho : HO} {o : AO} (hp : H p = none) (r : Ro K A F ho o) : StR K (A ++ [p]) F X (S ++ [.live o]) (upd H p ho) ∧ Ext A F (A ++ [p]) F := by
  have fp := st.fnone hp
  have xp := st.xnone hp
  have ex : Ext A F (A ++ [p]) F := ⟨fun _ _ h => get_app_l h, fun a o e => e⟩
  have noA : ∀ (n : Nat) e, S[n]? = some e → e ≠ .dead → A[n]? ≠ some p := fun n e h1 h2 z => by
    cases e with
    | live o =>
      obtain ⟨a, ho, e1, _, _, e4, _⟩ := st.live n o h1
      rw [e1] at z; cases z
      rw [hp] at e4; cases e4
    | lock o =>
      obtain ⟨a, ob, ho, e1, _, _, e4, _⟩ := st.lock n o h1
      rw [e1] at z; cases z
      rw [hp] at e4; cases e4
    | dead => exact h2 rfl
  refine ⟨⟨by rw [List.length_append, List.length_append, st.len]; rfl, fun a o e => ?_, fun n o e => ?_, fun n o e => ?_, fun n m e e' a h1 h2 d1 d2 a1 a2 => ?_, fun a o e => ?_, fun a ks e => ?_⟩, ex⟩
  · rw [upd_ne (fun z => by subst z; rw [fp] at e; cases e)]
    exact st.sub a o e
  · rcases get_app e with e | ⟨en, z⟩
    · obtain ⟨a, h1, e1, e2, e3, e4, e5⟩ := st.live n o e
      exact ⟨a, h1, get_app_l e1, e2, e3, by rw [upd_ne (ne_of_none e4 hp)]; exact e4, e5.mono ex⟩
    · cases z
      exact ⟨p, ho, by rw [en, ← st.len, List.getElem?_append_right (Nat.le_refl _)]; simp, fp, xp, upd_same, r.mono ex⟩
  · rcases get_app e with e | ⟨e, z⟩
    · obtain ⟨a, ob, h1, e1, e2, e3, e4, e5⟩ := st.lock n o e
      exact ⟨a, ob, h1, get_app_l e1, e2, e3, by rw [upd_ne (ne_of_none e4 hp)]; exact e4, e5.mono ex⟩
    · cases z
  · rcases get_app h1 with h1 | ⟨h1, z1⟩
    · have l1 : n < A.length := by rw [st.len]; exact (List.getElem?_eq_some_iff.mp h1).1
      rw [List.getElem?_append_left l1] at a1
      rcases get_app h2 with h2 | ⟨h2, z2⟩
      · have l2 : m < A.length := by rw [st.len]; exact (List.getElem?_eq_some_iff.mp h2).1
        rw [List.getElem?_append_left l2] at a2
        exact st.inj n m e e' a h1 h2 d1 d2 a1 a2
      · rw [h2, ← st.len, List.getElem?_append_right (Nat.le_refl _)] at a2
        simp at a2
        subst a2
        exact absurd a1 (noA n e h1 d1)
    · rw [h1, ← st.len, List.getElem?_append_right (Nat.le_refl _)] at a1
      simp at a1
      subst a1
      rcases get_app h2 with h2 | ⟨h2, z2⟩
      · have l2 : m < A.length := by rw [st.len]; exact (List.getElem?_eq_some_iff.mp h2).1
        rw [List.getElem?_append_left l2] at a2
        exact absurd a2 (noA m e' h2 d2)
      · omega
  · obtain ⟨h1, h2⟩ := st.hid a o e
    exact ⟨by rw [upd_ne (ne_of_none h1 hp)]; exact h1, h2⟩
  · by_cases h : a = p
    · subst h
      rw [upd_same] at e
      cases e
      exact absurd rfl (r.notTup _)
    · rw [upd_ne h] at e
      exact st.tk a ks e
/-- a thing changes -/
theorem StR.write (st : StR K A F X S H) {n : Nat} {o o' : AO} {a : Addr} {ho' : HO} (hn : S[n]? = some (.live o)) (ha : A[n]? = some a) (r : Ro K A F ho' o') : StR K A F X (S.set n (.live o')) (upd H a ho') := by
  obtain ⟨b, ho, e1, fa, xa, hH, r0⟩ := st.live n o hn
  rw [ha] at e1
  cases e1
  have ln : n < S.length := (List.getElem?_eq_some_iff.mp hn).1
  have key : ∀ (m : Nat) e, (S.set n (.live o'))[m]? = some e → m = n ∧ e = .live o' ∨ m ≠ n ∧ S[m]? = some e := fun m e h => by
    by_cases z : n = m
    · subst z
      rw [List.getElem?_set_self ln] at h
      cases h
      exact .inl ⟨rfl, rfl⟩
    · rw [List.getElem?_set_ne z] at h
      exact .inr ⟨fun q => z q.symm, h⟩
  refine ⟨by rw [List.length_set]; exact st.len, fun b o e => ?_, fun m u e => ?_, fun m u e => ?_, fun m1 m2 u1 u2 b h1 h2 d1 d2 a1 a2 => ?_, fun b o e => ?_, fun b ks e => ?_⟩
  · rw [upd_ne (fun z => by subst z; rw [fa] at e; cases e)]
    exact st.sub b o e
  · rcases key m _ e with ⟨z, q⟩ | ⟨z, q⟩
    · cases q
      subst z
      exact ⟨a, ho', ha, fa, xa, upd_same, r⟩
    · obtain ⟨b, h1, e1, e2, e3, e4, e5⟩ := st.live m u q
      have ne : b ≠ a := fun y => z (st.inj m n _ _ a q hn (by simp) (by simp) (by rw [← y]; exact e1) ha)
      exact ⟨b, h1, e1, e2, e3, by rw [upd_ne ne]; exact e4, e5⟩
  · rcases key m _ e with ⟨z, q⟩ | ⟨z, q⟩
    · cases q
    · obtain ⟨b, ob, h1, e1, e2, e3, e4, e5⟩ := st.lock m u q
      have ne : b ≠ a := fun y => z (st.inj m n _ _ a q hn (by simp) (by simp) (by rw [← y]; exact e1) ha)
      exact ⟨b, ob, h1, e1, e2, e3, by rw [upd_ne ne]; exact e4, e5⟩
  · rcases key m1 _ h1 with ⟨z1, q1⟩ | ⟨z1, q1⟩
    · rcases key m2 _ h2 with ⟨z2, q2⟩ | ⟨z2, q2⟩
      · omega
      · subst z1
        exact st.inj m1 m2 _ u2 b hn q2 (by simp) d2 a1 a2
    · rcases key m2 _ h2 with ⟨z2, q2⟩ | ⟨z2, q2⟩
      · subst z2
        exact st.inj m1 m2 u1 _ b q1 hn d1 (by simp) a1 a2
      · exact st.inj m1 m2 u1 u2 b q1 q2 d1 d2 a1 a2
  · obtain ⟨h1, h2⟩ := st.hid b o e
    exact ⟨by rw [upd_ne (fun z => by subst z; rw [xa] at e; cases e)]; exact h1, h2⟩
  · by_cases h : b = a
    · subst h
      rw [upd_same] at e
      cases e
      exact absurd rfl (r.notTup _)
    · rw [upd_ne h] at e
      exact st.tk b ks e
/-- a thing is changed no more -/
theorem StR.freeze (st : StR K A F X S H) {n : Nat} {o : AO} (hn : S[n]? = some (.live o)) : ∃ a ho, A[n]? = some a ∧ Ro K A F ho o ∧ StR K A (upd F a ho) X (S.set n .dead) H ∧ Ext A F A (upd F a ho) ∧ upd F a ho a = some ho := by
  obtain ⟨a, ho, ha, fa, xa, hH, r0⟩ := st.live n o hn
  have ln : n < S.length := (List.getElem?_eq_some_iff.mp hn).1
  have ex : Ext A F A (upd F a ho) := ⟨fun _ _ h => h, fun b o e => by rw [upd_ne (ne_of_none e fa)]; exact e⟩
  have key : ∀ (m : Nat) e, (S.set n SE.dead)[m]? = some e → e ≠ .dead → m ≠ n ∧ S[m]? = some e := fun m e h d => by
    by_cases z : n = m
    · subst z
      rw [List.getElem?_set_self ln] at h
      cases h
      exact absurd rfl d
    · rw [List.getElem?_set_ne z] at h
      exact ⟨fun q => z q.symm, h⟩
  refine ⟨a, ho, ha, r0, ⟨by rw [List.length_set]; exact st.len, fun b o e => ?_, fun m u e => ?_, fun m u e => ?_, fun m1 m2 u1 u2 b h1 h2 d1 d2 a1 a2 => ?_, fun b o e => ?_, fun b ks e => ?_⟩, ex, upd_same⟩
  · by_cases h : b = a
    · subst h
      rw [upd_same] at e
      cases e
      exact .inl hH
    · rw [upd_ne h] at e
      exact st.sub b o e
  · obtain ⟨z, q⟩ := key m _ e (by simp)
    obtain ⟨b, h1, e1, e2, e3, e4, e5⟩ := st.live m u q
    have ne : b ≠ a := fun y => z (st.inj m n _ _ a q hn (by simp) (by simp) (by rw [← y]; exact e1) ha)
    exact ⟨b, h1, e1, by rw [upd_ne ne]; exact e2, e3, e4, e5.mono ex⟩
  · obtain ⟨z, q⟩ := key m _ e (by simp)
    obtain ⟨b, ob, h1, e1, e2, e3, e4, e5⟩ := st.lock m u q
    have ne : b ≠ a := fun y => z (st.inj m n _ _ a q hn (by simp) (by simp) (by rw [← y]; exact e1) ha)
    exact ⟨b, ob, h1, e1, by rw [upd_ne ne]; exact e2, e3, e4, e5.mono ex⟩
  · obtain ⟨z1, q1⟩ := key m1 _ h1 d1
    obtain ⟨z2, q2⟩ := key m2 _ h2 d2
    exact st.inj m1 m2 u1 u2 b q1 q2 d1 d2 a1 a2
  · obtain ⟨h1, h2⟩ := st.hid b o e
    exact ⟨h1, by rw [upd_ne (fun z => by subst z; rw [xa] at e; cases e)]; exact h2⟩
  · have q := st.tk b ks e
    rw [upd_ne (ne_of_none q fa)]
    exact q
/-- a place that is ours alone for a while -/
theorem StR.hide (st : StR K A F X S H) {D : Addr} {ho : HO} (hp : H D = none) (nt : notTup ho) : StR K A F (upd X D ho) S (upd H D ho) := by
  have fp := st.fnone hp
  refine ⟨st.len, fun a o e => ?_, fun n o e => ?_, fun n o e => ?_, st.inj, fun a o e => ?_, fun a ks e => ?_⟩
  · rw [upd_ne (fun z => by subst z; rw [fp] at e; cases e)]
    exact st.sub a o e
  · obtain ⟨a, h1, e1, e2, e3, e4, e5⟩ := st.live n o e
    have ne : a ≠ D := ne_of_none e4 hp
    exact ⟨a, h1, e1, e2, by rw [upd_ne ne]; exact e3, by rw [upd_ne ne]; exact e4, e5⟩
  · obtain ⟨a, ob, h1, e1, e2, e3, e4, e5⟩ := st.lock n o e
    have ne : a ≠ D := ne_of_none e4 hp
    exact ⟨a, ob, h1, e1, e2, by rw [upd_ne ne]; exact e3, by rw [upd_ne ne]; exact e4, e5⟩
  · by_cases h : a = D
    · subst h
      rw [upd_same] at e
      cases e
      exact ⟨upd_same, fp⟩
    · rw [upd_ne h] at e ⊢
      exact st.hid a o e
  · by_cases h : a = D
    · subst h
      rw [upd_same] at e
      cases e
      exact absurd rfl (nt _)
    · rw [upd_ne h] at e
      exact st.tk a ks e
/-- .. changed -/
theorem StR.rehide {D : Addr} {ho ho' : HO} (st : StR K A F (upd X D ho) S H) (nt : notTup ho') : StR K A F (upd X D ho') S (upd H D ho') := by
  obtain ⟨hD, fD⟩ := st.hid D ho upd_same
  have neL : ∀ a, upd X D ho a = none → a ≠ D := fun a h z => by
    rw [z, upd_same] at h
    cases h
  refine ⟨st.len, fun a o e => ?_, fun n o e => ?_, fun n o e => ?_, st.inj, fun a o e => ?_, fun a ks e => ?_⟩
  · rw [upd_ne (fun z => by subst z; rw [fD] at e; cases e)]
    exact st.sub a o e
  · obtain ⟨a, h1, e1, e2, e3, e4, e5⟩ := st.live n o e
    have ne := neL a e3
    rw [upd_ne ne] at e3
    exact ⟨a, h1, e1, e2, by rw [upd_ne ne]; exact e3, by rw [upd_ne ne]; exact e4, e5⟩
  · obtain ⟨a, ob, h1, e1, e2, e3, e4, e5⟩ := st.lock n o e
    have ne := neL a e3
    rw [upd_ne ne] at e3
    exact ⟨a, ob, h1, e1, e2, by rw [upd_ne ne]; exact e3, by rw [upd_ne ne]; exact e4, e5⟩
  · by_cases h : a = D
    · subst h
      rw [upd_same] at e
      cases e
      exact ⟨upd_same, fD⟩
    · rw [upd_ne h] at e
      obtain ⟨q1, q2⟩ := st.hid a o (by rw [upd_ne h]; exact e)
      exact ⟨by rw [upd_ne h]; exact q1, q2⟩
  · by_cases h : a = D
    · subst h
      rw [upd_same] at e
      cases e
      exact absurd rfl (nt _)
    · rw [upd_ne h] at e
      exact st.tk a ks e
/-- .. given out as a tree -/
theorem StR.unhideF {D : Addr} {ho : HO} (st : StR K A F (upd X D ho) S H) (xD : X D = none) : StR K A (upd F D ho) X S H ∧ Ext A F A (upd F D ho) := by
  obtain ⟨hD, fD⟩ := st.hid D ho upd_same
  have ex : Ext A F A (upd F D ho) := ⟨fun _ _ h => h, fun b o e => by rw [upd_ne (ne_of_none e fD)]; exact e⟩
  have neL : ∀ a, upd X D ho a = none → a ≠ D := fun a h z => by
    rw [z, upd_same] at h
    cases h
  refine ⟨⟨st.len, fun a o e => ?_, fun n o e => ?_, fun n o e => ?_, st.inj, fun a o e => ?_, fun a ks e => ?_⟩, ex⟩
  · by_cases h : a = D
    · subst h
      rw [upd_same] at e
      cases e
      exact .inl hD
    · rw [upd_ne h] at e
      exact st.sub a o e
  · obtain ⟨a, h1, e1, e2, e3, e4, e5⟩ := st.live n o e
    have ne := neL a e3
    rw [upd_ne ne] at e3
    exact ⟨a, h1, e1, by rw [upd_ne ne]; exact e2, e3, e4, e5.mono ex⟩
  · obtain ⟨a, ob, h1, e1, e2, e3, e4, e5⟩ := st.lock n o e
    have ne := neL a e3
    rw [upd_ne ne] at e3
    exact ⟨a, ob, h1, e1, by rw [upd_ne ne]; exact e2, e3, e4, e5.mono ex⟩
  · have ne : a ≠ D := fun z => by rw [z, xD] at e; cases e
    obtain ⟨q1, q2⟩ := st.hid a o (by rw [upd_ne ne]; exact e)
    exact ⟨q1, by rw [upd_ne ne]; exact q2⟩
  · have q := st.tk a ks e
    rw [upd_ne (ne_of_none q fD)]
    exact q
/-- .. given out as a thing that may change -/
theorem StR.unhideA {D : Addr} {ho : HO} {o : AO} (st : StR K A F (upd X D ho) S H) (xD : X D = none) (r : Ro K A F ho o) : StR K (A ++ [D]) F X (S ++ [.live o]) H ∧ Ext A F (A ++ [D]) F := by
  obtain ⟨hD, fD⟩ := st.hid D ho upd_same
  have ex : Ext A F (A ++ [D]) F := ⟨fun _ _ h => get_app_l h, fun a o e => e⟩
  have neL : ∀ a, upd X D ho a = none → a ≠ D := fun a h z => by
    rw [z, upd_same] at h
    cases h
  have noA : ∀ (n : Nat) e, S[n]? = some e → e ≠ .dead → A[n]? ≠ some D := fun n e h1 h2 z => by
    cases e with
    | live o =>
      obtain ⟨a, ho, e1, _, e3, e4, _⟩ := st.live n o h1
      rw [e1] at z; cases z
      exact neL _ e3 rfl
    | lock o =>
      obtain ⟨a, ob, ho, e1, _, e3, e4, _⟩ := st.lock n o h1
      rw [e1] at z; cases z
      exact neL _ e3 rfl
    | dead => exact h2 rfl
  refine ⟨⟨by rw [List.length_append, List.length_append, st.len]; rfl, st.sub, fun n o e => ?_, fun n o e => ?_, fun n m e e' a h1 h2 d1 d2 a1 a2 => ?_, fun a o e => ?_, st.tk⟩, ex⟩
  · rcases get_app e with e | ⟨en, z⟩
    · obtain ⟨a, h1, e1, e2, e3, e4, e5⟩ := st.live n o e
      rw [upd_ne (neL a e3)] at e3
      exact ⟨a, h1, get_app_l e1, e2, e3, e4, e5.mono ex⟩
    · cases z
      exact ⟨D, ho, by rw [en, ← st.len, List.getElem?_append_right (Nat.le_refl _)]; simp, fD, xD, hD, r.mono ex⟩
  · rcases get_app e with e | ⟨e, z⟩
    · obtain ⟨a, ob, h1, e1, e2, e3, e4, e5⟩ := st.lock n o e
      rw [upd_ne (neL a e3)] at e3
      exact ⟨a, ob, h1, get_app_l e1, e2, e3, e4, e5.mono ex⟩
    · cases z
  · rcases get_app h1 with h1 | ⟨h1, z1⟩
    · have l1 : n < A.length := by rw [st.len]; exact (List.getElem?_eq_some_iff.mp h1).1
      rw [List.getElem?_append_left l1] at a1
      rcases get_app h2 with h2 | ⟨h2, z2⟩
      · have l2 : m < A.length := by rw [st.len]; exact (List.getElem?_eq_some_iff.mp h2).1
        rw [List.getElem?_append_left l2] at a2
        exact st.inj n m e e' a h1 h2 d1 d2 a1 a2
      · rw [h2, ← st.len, List.getElem?_append_right (Nat.le_refl _)] at a2
        simp at a2
        subst a2
        exact absurd a1 (noA n e h1 d1)
    · rw [h1, ← st.len, List.getElem?_append_right (Nat.le_refl _)] at a1
      simp at a1
      subst a1
      rcases get_app h2 with h2 | ⟨h2, z2⟩
      · have l2 : m < A.length := by rw [st.len]; exact (List.getElem?_eq_some_iff.mp h2).1
        rw [List.getElem?_append_left l2] at a2
        exact absurd a2 (noA m e' h2 d2)
      · omega
  · have ne : a ≠ D := fun z => by rw [z, xD] at e; cases e
    exact st.hid a o (by rw [upd_ne ne]; exact e)
end
end Rf
set_option Elab.async false
set_option autoImplicit false
set_option linter.all false
set_option maxRecDepth 100000
set_option maxHeartbeats 4000000
/-! Operators on trees and things of the store, and that the heap's operators follow. -/
namespace Rf
open PySem PySem.Spec PyProof.Rows L2
abbrev AQ := AV → Sto → Prop
def pvs : List AV → Option (List PV)
  | [] => some []
  | .pv p :: r => (pvs r).map (p :: ·)
  | .hnd _ :: _ => none
def pvk {κ : Type} : List (κ × AV) → Option (List (κ × PV))
  | [] => some []
  | (k, .pv p) :: r => (pvk r).map ((k, p) :: ·)
  | (_, .hnd _) :: _ => none
def AO.pure : AO → Option PV
  | .lst xs => (pvs xs).map .lst
  | .dic ks => (pvk ks).map .dic
  | .dit ks => (pvk ks).map .dit
  | .ins C fs => (pvk fs).map (.ins C)
def alc (m : Bool) (o : AO) (S : Sto) (Q : AQ) : Prop := match m with
  | true => Q (.hnd S.length) (S ++ [.live o])
  | false => match o.pure with
    | some p => Q (.pv p) S
    | none => False
@[simp] theorem pvs_map : ∀ xs : List PV, pvs (xs.map AV.pv) = some xs
  | [] => rfl
  | x :: r => by
    show (pvs (r.map AV.pv)).map (x :: ·) = _
    rw [pvs_map r]
    rfl
def mk2 {κ : Type} (p : κ × PV) : κ × AV := (p.1, .pv p.2)
@[simp] theorem pvk_map {κ : Type} : ∀ xs : List (κ × PV), pvk (xs.map mk2) = some xs
  | [] => rfl
  | (k, x) :: r => by
    show (pvk (r.map mk2)).map ((k, x) :: ·) = _
    rw [pvk_map r]
    rfl
theorem pvs_ok : ∀ {xs : List AV} {ps : List PV}, pvs xs = some ps → xs = ps.map AV.pv
  | [], ps, h => by cases h; rfl
  | .pv p :: r, ps, h => by
    have h : (pvs r).map (p :: ·) = some ps := h
    obtain ⟨qs, e, rfl⟩ := Option.map_eq_some_iff.mp h
    rw [pvs_ok e]
    rfl
  | .hnd _ :: _, ps, h => by cases h
theorem pvk_ok {κ : Type} : ∀ {xs : List (κ × AV)} {ps : List (κ × PV)}, pvk xs = some ps → xs = ps.map mk2
  | [], ps, h => by cases h; rfl
  | (k, .pv p) :: r, ps, h => by
    have h : (pvk r).map ((k, p) :: ·) = some ps := h
    obtain ⟨qs, e, rfl⟩ := Option.map_eq_some_iff.mp h
    rw [pvk_ok e]
    rfl
  | (_, .hnd _) :: _, ps, h => by cases h
theorem pair_map {α β γ : Type} {R : α → β → Prop} {f : γ → β} : ∀ {xs : List α} {ys : List γ}, Paired R xs (ys.map f) → Paired (fun a c => R a (f c)) xs ys
  | [], [], _ => .nil
  | _ :: _, _ :: _, h => by cases h with | cons h t => exact .cons h (pair_map t)
  | [], _ :: _, h => nomatch h
  | _ :: _, [], h => nomatch h
theorem map_pair {α β γ : Type} {R : α → β → Prop} {f : γ → β} : ∀ {xs : List α} {ys : List γ}, Paired (fun a c => R a (f c)) xs ys → Paired R xs (ys.map f)
  | _, _, .nil => .nil
  | _, _, .cons h t => .cons h (map_pair t)
/-- what the caller wants, seen from below -/
def Con (K : Fg) (A : List Addr) (F X : Hp) (Q : AQ) (Qc : VK) : Prop := ∀ A' F' S' H' v w, Q w S' → StR K A' F' X S' H' → Ext A F A' F' → Rv K A' F' v w → Qc v H'
section
variable {K : Fg} {A A1 : List Addr} {F F1 X : Hp} {S : Sto} {H : Hp} {v u : V} {w z : AV} {Q : AQ} {Qc : VK}
theorem Con.step (k : Con K A F X Q Qc) (e : Ext A F A1 F1) : Con K A1 F1 X Q Qc := fun A' F' S' H' v w q st e' r => k A' F' S' H' v w q st (e.trans e') r
theorem Ro.pure {ho : HO} {o : AO} {p : PV} {a : Addr} {F' : Hp} (r : Ro K A F ho o) (h : o.pure = some p) (s : Same F F') (hp : F' a = some ho) : Rl K F' (.ref a) p := by
  cases o with
  | lst xs =>
    obtain ⟨vs, rfl, q⟩ := r
    obtain ⟨ps, e, rfl⟩ := Option.map_eq_some_iff.mp (show (pvs xs).map .lst = some p from h)
    rw [pvs_ok e] at q
    exact .lst hp (RlL.of ((pair_map q).mono fun _ _ z => Rl.mono s z))
  | dic ks =>
    obtain ⟨vs, rfl, q⟩ := r
    obtain ⟨ps, e, rfl⟩ := Option.map_eq_some_iff.mp (show (pvk ks).map .dic = some p from h)
    rw [pvk_ok e] at q
    exact .dk hp (RlK.of ((pair_map q).mono fun _ _ z => ⟨z.1, Rl.mono s z.2⟩))
  | dit ks =>
    obtain ⟨vs, rfl, q⟩ := r
    obtain ⟨ps, e, rfl⟩ := Option.map_eq_some_iff.mp (show (pvk ks).map .dit = some p from h)
    rw [pvk_ok e] at q
    exact .dt hp (RlT.of ((pair_map q).mono fun _ _ z => ⟨z.1, Rl.mono s z.2⟩))
  | ins C fs =>
    obtain ⟨dx, vs, rfl, q⟩ := r
    obtain ⟨ps, e, rfl⟩ := Option.map_eq_some_iff.mp (show (pvk fs).map (.ins C) = some p from h)
    rw [pvk_ok e] at q
    exact .ins hp (RlF.of ((pair_map q).mono fun _ _ z => ⟨z.1, Rl.mono s z.2⟩))
theorem sim_alc (st : StR K A F X S H) {p : Addr} {ho : HO} {o : AO} {m : Bool} (hp : H p = none) (r : Ro K A F ho o) (q : alc m o S Q) (k : Con K A F X Q Qc) : Qc (.ref p) (upd H p ho) := by
  cases m with
  | true =>
    obtain ⟨st', e⟩ := st.alloc hp r
    exact k _ _ _ _ _ _ q st' e ⟨p, rfl, by rw [← st.len, List.getElem?_append_right (Nat.le_refl _)]; simp⟩
  | false =>
    have q : (match o.pure with
      | some p => Q (.pv p) S
      | none => False) := q
    split at q
    · rename_i pp e
      obtain ⟨st', ex⟩ := st.tree (ho := ho) hp
      exact k _ _ _ _ _ _ q st' ex (r.pure e ex.f upd_same)
    · exact q.elim

/-! ### what may be read -/
def entR (S : Sto) (n : Nat) : Option AO := match S[n]? with
  | some (.live o) => some o
  | some (.lock o) => some o
  | _ => none
def entL (S : Sto) (n : Nat) : Option AO := match S[n]? with
  | some (.live o) => some o
  | _ => none
theorem entL_ok {n : Nat} {o : AO} (h : entL S n = some o) : S[n]? = some (.live o) := by
  unfold entL at h
  split at h
  · cases h; assumption
  · cases h
theorem StR.entL (st : StR K A F X S H) {n : Nat} {o : AO} (h : entL S n = some o) : ∃ a ho, A[n]? = some a ∧ H a = some ho ∧ Ro K A F ho o := by
  obtain ⟨a, ho, h1, _, _, h4, h5⟩ := st.live n o (entL_ok h)
  exact ⟨a, ho, h1, h4, h5⟩
theorem StR.entR (st : StR K A F X S H) {n : Nat} {o : AO} (h : entR S n = some o) : ∃ a ho, A[n]? = some a ∧ (H a = some ho ∨ ∃ ob, H a = some (.frz ob ho)) ∧ Ro K A F ho o := by
  unfold Rf.entR at h
  split at h
  · rename_i e
    cases h
    obtain ⟨a, ho, h1, _, _, h4, h5⟩ := st.live n _ e
    exact ⟨a, ho, h1, .inl h4, h5⟩
  · rename_i e
    cases h
    obtain ⟨a, ob, ho, h1, _, _, h4, h5⟩ := st.lock n _ e
    exact ⟨a, ho, h1, .inr ⟨ob, h4⟩, h5⟩
  · cases h
/-- a list, not locked -/
def lstA (S : Sto) : AV → Option (List AV)
  | .pv (.lst xs) => some (xs.map .pv)
  | .hnd n => match entL S n with
    | some (.lst xs) => some xs
    | _ => none
  | _ => none
/-- a list -/
def lstB (S : Sto) : AV → Option (List AV)
  | .pv (.lst xs) => some (xs.map .pv)
  | .hnd n => match entR S n with
    | some (.lst xs) => some xs
    | _ => none
  | _ => none
def tupA : AV → Option (List PV)
  | .pv (.tup xs) => some xs
  | _ => none
/-- a list or a tuple -/
def seqA (S : Sto) (x : AV) : Option (List AV) := match tupA x with
  | some xs => some (xs.map .pv)
  | none => lstB S x
def dicA (S : Sto) : AV → Option (List (KC × AV))
  | .pv (.dic xs) => some (xs.map mk2)
  | .hnd n => match entR S n with
    | some (.dic xs) => some xs
    | _ => none
  | _ => none
def ditA (S : Sto) : AV → Option (List (List KC × AV))
  | .pv (.dit xs) => some (xs.map mk2)
  | .hnd n => match entR S n with
    | some (.dit xs) => some xs
    | _ => none
  | _ => none
def insA (S : Sto) : AV → Option (Addr × List (Str × AV))
  | .pv (.ins C fs) => some (C, fs.map mk2)
  | .hnd n => match entL S n with
    | some (.ins C fs) => some (C, fs)
    | _ => none
  | _ => none
theorem RlL.up {vs : List V} {ps : List PV} (h : RlL K F vs ps) : Paired (Rv K A F) vs (ps.map .pv) := map_pair (h.pair.mono fun _ _ z => z)
theorem StR.lstA (st : StR K A F X S H) (r : Rv K A F v w) {xs : List AV} (h : lstA S w = some xs) : ∃ a vs, v = .ref a ∧ H a = some (.lst vs) ∧ Paired (Rv K A F) vs xs := by
  unfold Rf.lstA at h
  split at h
  · rename_i ps
    cases h
    have r : Rl K F v (.lst ps) := r
    cases r with
    | lst h1 h2 =>
      rcases st.sub _ _ h1 with z | ⟨z, _⟩
      · exact ⟨_, _, rfl, z, h2.up⟩
      · cases z
  · rename_i n
    obtain ⟨a, rfl, ha⟩ := r
    split at h
    · rename_i ys e
      cases h
      obtain ⟨b, ho, h1, h2, vs, rfl, h3⟩ := st.entL e
      rw [ha] at h1
      cases h1
      exact ⟨_, _, rfl, h2, h3⟩
    · cases h
  · cases h
theorem StR.lstB (st : StR K A F X S H) (r : Rv K A F v w) {xs : List AV} (h : lstB S w = some xs) : ∃ a vs, v = .ref a ∧ lstH H a = some vs ∧ Paired (Rv K A F) vs xs := by
  unfold Rf.lstB at h
  split at h
  · rename_i ps
    cases h
    have r : Rl K F v (.lst ps) := r
    cases r with
    | lst h1 h2 =>
      rcases st.sub _ _ h1 with z | ⟨z, _⟩
      · exact ⟨_, _, rfl, by unfold lstH; rw [z], h2.up⟩
      · cases z
  · rename_i n
    obtain ⟨a, rfl, ha⟩ := r
    split at h
    · rename_i ys e
      cases h
      obtain ⟨b, ho, h1, h2, vs, rfl, h3⟩ := st.entR e
      rw [ha] at h1
      cases h1
      rcases h2 with h2 | ⟨ob, h2⟩
      · exact ⟨_, _, rfl, by unfold lstH; rw [h2], h3⟩
      · exact ⟨_, _, rfl, by unfold lstH; rw [h2], h3⟩
    · cases h
  · cases h
theorem StR.tupA (st : StR K A F X S H) (r : Rv K A F v w) {xs : List PV} (h : tupA w = some xs) : ∃ a vs, v = .ref a ∧ H a = some (.tup vs) ∧ F a = some (.tup vs) ∧ RlL K F vs xs := by
  unfold Rf.tupA at h
  split at h
  · rename_i ps
    cases h
    have r : Rl K F v (.tup xs) := r
    cases r with
    | tup h1 h2 =>
      rcases st.sub _ _ h1 with z | ⟨z, _⟩
      · exact ⟨_, _, rfl, z, h1, h2⟩
      · cases z
  · cases h
theorem StR.seqA (st : StR K A F X S H) (r : Rv K A F v w) {xs : List AV} (h : seqA S w = some xs) : ∃ a vs, v = .ref a ∧ seqH H a = some vs ∧ Paired (Rv K A F) vs xs := by
  unfold Rf.seqA at h
  split at h
  · rename_i ps e
    cases h
    obtain ⟨a, vs, rfl, h1, _, h2⟩ := st.tupA r e
    exact ⟨_, _, rfl, by unfold seqH; rw [h1], h2.up⟩
  · obtain ⟨a, vs, rfl, h1, h2⟩ := st.lstB r h
    refine ⟨_, _, rfl, ?_, h2⟩
    unfold lstH at h1
    unfold seqH
    split at h1
    · rename_i e; cases h1; rw [e]
    · rename_i e; cases h1; rw [e]
    · cases h1
theorem StR.dicA (st : StR K A F X S H) (r : Rv K A F v w) {xs : List (KC × AV)} (h : dicA S w = some xs) : ∃ a vs, v = .ref a ∧ Rd H a (.dK vs) ∧ Paired (fun p q => p.1 = kc q.1 ∧ Rv K A F p.2 q.2) vs xs := by
  unfold Rf.dicA at h
  split at h
  · rename_i ps
    cases h
    have r : Rl K F v (.dic ps) := r
    cases r with
    | dk h1 h2 =>
      refine ⟨_, _, rfl, ?_, map_pair (h2.pair.mono fun _ _ z => z)⟩
      rcases st.sub _ _ h1 with z | ⟨_, ob, z⟩
      · exact .inl z
      · exact .inr ⟨ob, z⟩
  · rename_i n
    obtain ⟨a, rfl, ha⟩ := r
    split at h
    · rename_i ys e
      cases h
      obtain ⟨b, ho, h1, h2, vs, rfl, h3⟩ := st.entR e
      rw [ha] at h1
      cases h1
      exact ⟨_, _, rfl, h2, h3⟩
    · cases h
  · cases h
theorem StR.ditA (st : StR K A F X S H) (r : Rv K A F v w) {xs : List (List KC × AV)} (h : ditA S w = some xs) : ∃ a vs, v = .ref a ∧ Rd H a (.dT vs) ∧ Paired (fun p q => p.1 = q.1.map kc ∧ Rv K A F p.2 q.2) vs xs := by
  unfold Rf.ditA at h
  split at h
  · rename_i ps
    cases h
    have r : Rl K F v (.dit ps) := r
    cases r with
    | dt h1 h2 =>
      refine ⟨_, _, rfl, ?_, map_pair (h2.pair.mono fun _ _ z => z)⟩
      rcases st.sub _ _ h1 with z | ⟨_, ob, z⟩
      · exact .inl z
      · exact .inr ⟨ob, z⟩
  · rename_i n
    obtain ⟨a, rfl, ha⟩ := r
    split at h
    · rename_i ys e
      cases h
      obtain ⟨b, ho, h1, h2, vs, rfl, h3⟩ := st.entR e
      rw [ha] at h1
      cases h1
      exact ⟨_, _, rfl, h2, h3⟩
    · cases h
  · cases h
theorem StR.insA (st : StR K A F X S H) (r : Rv K A F v w) {C : Addr} {xs : List (Str × AV)} (h : insA S w = some (C, xs)) : ∃ a dx vs, v = .ref a ∧ H a = some (.ins C dx vs) ∧ Paired (fun p q => p.1 = q.1 ∧ Rv K A F p.2 q.2) vs xs := by
  unfold Rf.insA at h
  split at h
  · rename_i ps
    cases h
    have r : Rl K F v (.ins _ _) := r
    cases r with
    | ins h1 h2 =>
      rcases st.sub _ _ h1 with z | ⟨z, _⟩
      · exact ⟨_, _, _, rfl, z, map_pair (h2.pair.mono fun _ _ z => z)⟩
      · cases z
  · rename_i n
    obtain ⟨a, rfl, ha⟩ := r
    split at h
    · rename_i ys e
      cases h
      obtain ⟨b, ho, h1, h2, dx, vs, rfl, h3⟩ := st.entL e
      rw [ha] at h1
      cases h1
      exact ⟨_, _, _, rfl, h2, h3⟩
    · cases h
  · cases h
/-! ### lists that go together -/
theorem Paired.get {α β : Type} {R : α → β → Prop} : ∀ {xs : List α} {ys : List β} {i : Nat} {y : β}, Paired R xs ys → ys[i]? = some y → ∃ x, xs[i]? = some x ∧ R x y
  | _, _, _, _, .nil, e => by simp at e
  | _, _, 0, _, .cons r _, e => by simp at e; subst e; exact ⟨_, rfl, r⟩
  | _, _, i + 1, _, .cons _ t, e => by
    obtain ⟨x, h1, h2⟩ := Paired.get (i := i) t (by simpa using e)
    exact ⟨x, by simpa using h1, h2⟩
theorem Paired.app {α β : Type} {R : α → β → Prop} : ∀ {xs xs' : List α} {ys ys' : List β}, Paired R xs ys → Paired R xs' ys' → Paired R (xs ++ xs') (ys ++ ys')
  | _, _, _, _, .nil, s => s
  | _, _, _, _, .cons r t, s => .cons r (Paired.app t s)
theorem Paired.takeP {α β : Type} {R : α → β → Prop} : ∀ {xs : List α} {ys : List β} (n : Nat), Paired R xs ys → Paired R (xs.take n) (ys.take n)
  | _, _, 0, _ => .nil
  | _, _, _ + 1, .nil => .nil
  | _, _, n + 1, .cons r t => .cons r (Paired.takeP n t)
theorem Paired.dropP {α β : Type} {R : α → β → Prop} : ∀ {xs : List α} {ys : List β} (n : Nat), Paired R xs ys → Paired R (xs.drop n) (ys.drop n)
  | _, _, 0, r => r
  | _, _, _ + 1, .nil => .nil
  | _, _, n + 1, .cons _ t => Paired.dropP n t
theorem Paired.len {α β : Type} {R : α → β → Prop} {xs : List α} {ys : List β} (r : Paired R xs ys) : xs.length = ys.length := Paired.length r
theorem Paired.repl {α β : Type} {R : α → β → Prop} {xs : List α} {ys : List β} (r : Paired R xs ys) : ∀ n : Nat, Paired R (List.replicate n xs).flatten (List.replicate n ys).flatten
  | 0 => .nil
  | n + 1 => by
    rw [List.replicate_succ, List.replicate_succ, List.flatten_cons, List.flatten_cons]
    exact Paired.app r (Paired.repl r n)
theorem Paired.setP {α β : Type} {R : α → β → Prop} {x : α} {y : β} (r : R x y) : ∀ {xs : List α} {ys : List β} (i : Nat), Paired R xs ys → Paired R (xs.set i x) (ys.set i y)
  | _, _, _, .nil => .nil
  | _, _, 0, .cons _ t => .cons r t
  | _, _, i + 1, .cons q t => .cons q (Paired.setP r i t)
theorem Rv.pvl {vs : List V} {ps : List PV} (h : Paired (Rv K A F) vs (ps.map AV.pv)) : RlL K F vs ps := RlL.of ((pair_map (R := Rv K A F) (f := AV.pv) h).mono fun _ _ z => z)
end
end Rf
set_option Elab.async false
set_option autoImplicit false
set_option linter.all false
set_option maxRecDepth 100000
set_option maxHeartbeats 4000000
/-! Each operator: what it answers on trees, and that the heap's operator follows. -/
namespace Rf
open PySem PySem.Spec PyProof.Rows L2
/-! ### tables -/
section
variable {κ α : Type} [DecidableEq κ]
def lk (ks : List (κ × α)) (k : κ) : Option α := (ks.find? fun kv => decide (kv.1 = k)).map (·.2)
def putL (ks : List (κ × α)) (k : κ) (v : α) : List (κ × α) := if (ks.any fun kv => decide (kv.1 = k)) = true then ks.map (fun kv => if kv.1 = k then (kv.1, v) else kv) else ks ++ [(k, v)]
def dropL (ks : List (κ × α)) (k : κ) : List (κ × α) := ks.filter fun kv => decide (kv.1 ≠ k)
end
section
variable {κ κ' : Type} [DecidableEq κ] [DecidableEq κ'] {f : κ' → κ} {R : V → AV → Prop}
abbrev PF (f : κ' → κ) (R : V → AV → Prop) : κ × V → κ' × AV → Prop := fun p q => p.1 = f q.1 ∧ R p.2 q.2
theorem lk_rel (inj : ∀ a b, f a = f b → a = b) (k : κ') : ∀ {vs : List (κ × V)} {ks : List (κ' × AV)}, Paired (PF f R) vs ks →
    (match lk ks k with
      | some w => ∃ v, valV vs (f k) = some v ∧ R v w
      | none => valV vs (f k) = none)
  | _, _, .nil => rfl
  | (a, v) :: vs, (b, w) :: ks, .cons ⟨e, r⟩ t => by
    have e : a = f b := e
    subst e
    have ih := lk_rel inj k t
    by_cases h : b = k
    · subst h
      have e1 : lk ((b, w) :: ks) b = some w := by unfold lk; simp
      rw [e1]
      exact ⟨v, valV_pos (p := (f b, v)) rfl, r⟩
    · have e1 : lk ((b, w) :: ks) k = lk ks k := by unfold lk; simp [List.find?_cons, h]
      rw [e1, valV_neg (p := (f b, v)) (fun z => h (inj _ _ z))]
      exact ih
theorem lk_some (inj : ∀ a b, f a = f b → a = b) {k : κ'} {vs : List (κ × V)} {ks : List (κ' × AV)} {w : AV} (p : Paired (PF f R) vs ks) (h : lk ks k = some w) : ∃ v, valV vs (f k) = some v ∧ R v w := by
  have q := lk_rel inj k p
  rw [h] at q
  exact q
theorem lk_isSome (inj : ∀ a b, f a = f b → a = b) {k : κ'} {vs : List (κ × V)} {ks : List (κ' × AV)} (p : Paired (PF f R) vs ks) : (valV vs (f k)).isSome = (lk ks k).isSome := by
  have q := lk_rel inj k p
  cases e : lk ks k with
  | none => rw [e] at q; rw [show valV vs (f k) = none from q] <;> rfl
  | some w => rw [e] at q; obtain ⟨v, h, _⟩ := q; rw [h] <;> rfl
theorem any_rel (inj : ∀ a b, f a = f b → a = b) (k : κ') : ∀ {vs : List (κ × V)} {ks : List (κ' × AV)}, Paired (PF f R) vs ks → (vs.any fun kv => decide (kv.1 = f k)) = ks.any fun kv => decide (kv.1 = k)
  | _, _, .nil => rfl
  | (a, v) :: vs, (b, w) :: ks, .cons ⟨e, r⟩ t => by
    have e : a = f b := e
    subst e
    rw [List.any_cons, List.any_cons, any_rel inj k t]
    congr 1
    by_cases h : b = k
    · subst h; simp
    · rw [decide_eq_false (fun z => h (inj _ _ z)), decide_eq_false h]
theorem put_rel (inj : ∀ a b, f a = f b → a = b) {k : κ'} {vs : List (κ × V)} {ks : List (κ' × AV)} {v : V} {w : AV} (p : Paired (PF f R) vs ks) (r : R v w) : Paired (PF f R) (putK vs (f k) v) (putL ks k w) := by
  unfold putK putL
  rw [any_rel inj k p]
  by_cases h : (ks.any fun kv => decide (kv.1 = k)) = true
  · rw [if_pos h, if_pos h]
    clear h
    induction p with
    | nil => exact .nil
    | @cons a b as bs hd t ih =>
      obtain ⟨a1, a2⟩ := a
      obtain ⟨b1, b2⟩ := b
      have e : a1 = f b1 := hd.1
      subst e
      rw [List.map_cons, List.map_cons]
      refine .cons ?_ ih
      by_cases h : b1 = k
      · subst h
        rw [if_pos rfl, if_pos rfl]
        exact ⟨rfl, r⟩
      · rw [if_neg (fun z => h (inj _ _ z)), if_neg h]
        exact hd
  · rw [if_neg h, if_neg h]
    exact Paired.app p (.cons ⟨rfl, r⟩ .nil)
theorem drop_rel (inj : ∀ a b, f a = f b → a = b) {k : κ'} {vs : List (κ × V)} {ks : List (κ' × AV)} (p : Paired (PF f R) vs ks) : Paired (PF f R) (dropK vs (f k)) (dropL ks k) := by
  unfold dropK dropL
  induction p with
  | nil => exact .nil
  | @cons a b as bs hd t ih =>
    obtain ⟨a1, a2⟩ := a
    obtain ⟨b1, b2⟩ := b
    have e : a1 = f b1 := hd.1
    subst e
    by_cases h : b1 = k
    · subst h
      rw [List.filter_cons_of_neg (by simp), List.filter_cons_of_neg (by simp)]
      exact ih
    · have h2 : f b1 ≠ f k := fun z => h (inj _ _ z)
      rw [List.filter_cons_of_pos (by simpa using h2), List.filter_cons_of_pos (by simpa using h)]
      exact .cons hd ih
end
theorem kcs_inj : ∀ a b : List KC, a.map kc = b.map kc → a = b
  | [], [], _ => rfl
  | x :: xs, y :: ys, h => by
    rw [List.map_cons, List.map_cons] at h
    injection h with h1 h2
    rw [kc_inj h1, kcs_inj xs ys h2]
  | [], _ :: _, h => by cases h
  | _ :: _, [], h => by cases h
def keyO : PV → Option KC
  | .int i => some (.inl i)
  | .str c => some (.inr c)
  | _ => none
def keysO : List PV → Option (List KC)
  | [] => some []
  | p :: r => match keyO p, keysO r with
    | some k, some ks => some (k :: ks)
    | _, _ => none
/-- a dict's entry -/
def dGet (S : Sto) (d y : AV) : Option (Option AV) := match y with
  | .pv (.tup ks) => (match keysO ks, ditA S d with
    | some k, some kvs => some (lk kvs k)
    | _, _ => none)
  | .pv p => (match keyO p, dicA S d with
    | some k, some kvs => some (lk kvs k)
    | _, _ => none)
  | _ => none
section
variable {K : Fg} {A A1 : List Addr} {F F1 X : Hp} {S : Sto} {H : Hp} {v u : V} {w z x y : AV} {Q : AQ} {Qc : VK}
theorem Rv.keyO {p : PV} {k : KC} (r : Rl K F v p) (h : keyO p = some k) : v = kV (kc k) := by
  cases r <;> cases h <;> rfl
theorem RlL.keysO : ∀ {vs : List V} {ps : List PV} {k : List KC}, RlL K F vs ps → keysO ps = some k → vs = (k.map kc).map kV
  | [], [], k, _, h => by cases h; rfl
  | v :: vs, p :: ps, k, r, h => by
    cases r with
    | cons r1 r2 =>
      unfold Rf.keysO at h
      split at h
      · rename_i k1 ks e1 e2
        cases h
        rw [Rv.keyO r1 e1, RlL.keysO r2 e2]
        rfl
      · cases h
  | [], _ :: _, _, r, _ => nomatch r
  | _ :: _, [], _, r, _ => nomatch r
theorem StR.dGet (st : StR K A F X S H) (r : Rv K A F v x) (s : Rv K A F u y) {o : Option AV} (h : dGet S x y = some o) : ∃ a oc, v = .ref a ∧ DGet H a u oc ∧ oc.isSome = o.isSome ∧ ∀ w, o = some w → ∃ v, oc = some v ∧ Rv K A F v w := by
  unfold Rf.dGet at h
  split at h
  · rename_i ps
    split at h
    · rename_i k kvs e1 e2
      cases h
      obtain ⟨a, vs, rfl, hd, pr⟩ := st.ditA r e2
      obtain ⟨b, us, rfl, hb, _, rb⟩ := st.tupA s (xs := ps) rfl
      rw [RlL.keysO rb e1] at hb
      refine ⟨a, _, rfl, .inr ⟨vs, k.map kc, b, hd, rfl, hb, rfl⟩, lk_isSome (f := List.map kc) kcs_inj pr, fun w e => ?_⟩
      exact lk_some (f := List.map kc) kcs_inj pr e
    · cases h
  · split at h
    · rename_i k kvs e1 e2
      cases h
      obtain ⟨a, vs, rfl, hd, pr⟩ := st.dicA r e2
      refine ⟨a, _, rfl, .inl ⟨vs, kc k, hd, Rv.keyO s e1, rfl⟩, lk_isSome (fun _ _ => kc_inj) pr, fun w e => ?_⟩
      exact lk_some (fun _ _ => kc_inj) pr e
    · cases h
  · cases h
/-! ### + - * % // ** -/
def aAdd (m : Bool) (x y : AV) (S : Sto) (Q : AQ) : Prop := match x, y with
  | .pv (.int i), .pv (.int j) => Q (.pv (.int (i + j))) S
  | .pv (.str a), .pv (.str b) => a.length + b.length ≤ line ∧ Q (.pv (.str (a ++ b))) S
  | _, _ => match lstA S x, lstA S y with
    | some xs, some ys => xs.length + ys.length ≤ line ∧ alc m (.lst (xs ++ ys)) S Q
    | _, _ => match tupA x, tupA y with
      | some xs, some ys => xs ≠ [] ∧ ys ≠ [] ∧ xs.length + ys.length ≤ line ∧ Q (.pv (.tup (xs ++ ys))) S
      | _, _ => False
def aMul (m : Bool) (x y : AV) (S : Sto) (Q : AQ) : Prop := match x, y with
  | .pv (.int i), .pv (.int j) => IMul i j ∧ Q (.pv (.int (i * j))) S
  | .pv (.str a), .pv (.int j) => -100 ≤ j ∧ j ≤ 100 ∧ a.length ≤ 100000 ∧ Q (.pv (.str (repC j a))) S
  | _, .pv (.int j) => (match lstA S x with
    | some xs => -100 ≤ j ∧ j ≤ 100 ∧ xs.length ≤ 100000 ∧ alc m (.lst (List.replicate j.toNat xs).flatten) S Q
    | none => False)
  | _, _ => False
def aI2 (C : Int → Int → Prop) (f : Int → Int → PV) (x y : AV) (S : Sto) (Q : AQ) : Prop := match x, y with
  | .pv (.int i), .pv (.int j) => C i j ∧ Q (.pv (f i j)) S
  | _, _ => False
def aBin (o : Operator) (m : Bool) (x y : AV) (S : Sto) (Q : AQ) : Prop := match o with
  | .Add => aAdd m x y S Q
  | .Mult => aMul m x y S Q
  | .Sub => aI2 (fun _ _ => True) (fun i j => .int (i - j)) x y S Q
  | .Mod => aI2 (fun _ j => 0 < j) (fun i j => .int (i % j)) x y S Q
  | .FloorDiv => aI2 (fun _ j => 0 < j ∧ j < 1073741824) (fun i j => .int (i / j)) x y S Q
  | .Pow => aI2 CPow (fun i j => .int (i ^ j.toNat)) x y S Q
  | _ => False
theorem Con.here (k : Con K A F X Q Qc) (st : StR K A F X S H) (q : Q w S) (r : Rv K A F v w) : Qc v H := k _ _ _ _ _ _ q st .refl r
theorem sim_add {m : Bool} (st : StR K A F X S H) (rx : Rv K A F v x) (ry : Rv K A F u y) (h : aAdd m x y S Q) (k : Con K A F X Q Qc) : rAddX v u H Qc := by
  unfold aAdd at h
  split at h
  · have rx : Rl K F v (.int _) := rx
    have ry : Rl K F u (.int _) := ry
    cases rx
    cases ry
    exact k.here st h (.int _)
  · have rx : Rl K F v (.str _) := rx
    have ry : Rl K F u (.str _) := ry
    cases rx
    cases ry
    refine ⟨h.1, k.here st h.2 (.str _)⟩
  · split at h
    · rename_i xs ys e1 e2
      obtain ⟨a, vs, rfl, h1, p1⟩ := st.lstA rx e1
      obtain ⟨b, us, rfl, h2, p2⟩ := st.lstA ry e2
      unfold rAddX
      simp only [h1, h2]
      refine ⟨by rw [Paired.len p1, Paired.len p2]; exact h.1, fun p hp => sim_alc st hp (o := .lst _) ⟨_, rfl, Paired.app p1 p2⟩ h.2 k⟩
    · split at h
      · rename_i xs ys e1 e2
        obtain ⟨a, vs, rfl, h1, f1, p1⟩ := st.tupA rx e1
        obtain ⟨b, us, rfl, h2, f2, p2⟩ := st.tupA ry e2
        obtain ⟨n1, n2, l, q⟩ := h
        unfold rAddX
        simp only [h1, h2]
        have l1 := Paired.len p1.pair
        have l2 := Paired.len p2.pair
        refine ⟨fun z => n1 ?_, fun z => n2 ?_, by rw [l1, l2]; exact l, fun p hp => ?_⟩
        · subst z; exact List.length_eq_zero_iff.mp l1.symm
        · subst z; exact List.length_eq_zero_iff.mp l2.symm
        · obtain ⟨st', ex⟩ := st.tree (ho := .tup (vs ++ us)) hp
          refine k _ _ _ _ _ _ q st' ex (Rl.tup upd_same (RlL.of ((Paired.app p1.pair p2.pair).mono fun _ _ z => Rl.mono ex.f z)))
      · exact h.elim
theorem sim_mul {m : Bool} (st : StR K A F X S H) (rx : Rv K A F v x) (ry : Rv K A F u y) (h : aMul m x y S Q) (k : Con K A F X Q Qc) : rMulX v u H Qc := by
  unfold aMul at h
  split at h
  · have rx : Rl K F v (.int _) := rx
    have ry : Rl K F u (.int _) := ry
    cases rx
    cases ry
    exact ⟨h.1, k.here st h.2 (.int _)⟩
  · have rx : Rl K F v (.str _) := rx
    have ry : Rl K F u (.int _) := ry
    cases rx
    cases ry
    exact ⟨h.1, h.2.1, h.2.2.1, k.here st h.2.2.2 (.str _)⟩
  · have ry : Rl K F u (.int _) := ry
    cases ry
    split at h
    · rename_i xs e1
      obtain ⟨a, vs, rfl, h1, p1⟩ := st.lstA rx e1
      unfold rMulX
      simp only [h1]
      exact ⟨h.1, h.2.1, by rw [Paired.len p1]; exact h.2.2.1, fun p hp => sim_alc st hp (o := .lst _) ⟨_, rfl, Paired.repl p1 _⟩ h.2.2.2 k⟩
    · exact h.elim
  · exact h.elim
theorem sim_i2 {C : Int → Int → Prop} {f : Int → Int → PV} (st : StR K A F X S H) (rx : Rv K A F v x) (ry : Rv K A F u y) (h : aI2 C f x y S Q) : ∃ i j, v = .int i ∧ u = .int j ∧ C i j ∧ Q (.pv (f i j)) S := by
  unfold aI2 at h
  split at h
  · have rx : Rl K F v (.int _) := rx
    have ry : Rl K F u (.int _) := ry
    cases rx
    cases ry
    exact ⟨_, _, rfl, rfl, h⟩
  · exact h.elim
theorem sim_bin {o : Operator} {m : Bool} (st : StR K A F X S H) (rx : Rv K A F v x) (ry : Rv K A F u y) (h : aBin o m x y S Q) (k : Con K A F X Q Qc) : rBin o v u H Qc := by
  unfold aBin at h
  split at h
  · exact sim_add st rx ry h k
  · exact sim_mul st rx ry h k
  · obtain ⟨i, j, rfl, rfl, _, q⟩ := sim_i2 st rx ry h
    exact k.here st q (.int _)
  · obtain ⟨i, j, rfl, rfl, c, q⟩ := sim_i2 st rx ry h
    exact ⟨c, k.here st q (.int _)⟩
  · obtain ⟨i, j, rfl, rfl, c, q⟩ := sim_i2 st rx ry h
    exact ⟨c, k.here st q (.int _)⟩
  · obtain ⟨i, j, rfl, rfl, c, q⟩ := sim_i2 st rx ry h
    exact ⟨c, k.here st q (.int _)⟩
  · exact h.elim
/-! ### comparisons -/
mutual
/-- as data -/
def pdt : PV → PyData
  | .bl b => .bool b
  | .int i => .int i
  | .str c => .str (sOf c)
  | .lst xs => .list (pdtL xs)
  | .tup xs => .tuple (pdtL xs)
  | _ => .none
def pdtL : List PV → List PyData
  | [] => []
  | x :: r => pdt x :: pdtL r
end
mutual
def isDat : PV → Bool
  | .non => true | .bl _ => true | .int _ => true | .str _ => true
  | .lst xs => isDatL xs
  | .tup xs => isDatL xs
  | _ => false
def isDatL : List PV → Bool
  | [] => true
  | x :: r => isDat x && isDatL r
end
/-- ==, of values of one sort and of None -/
def eqS : PV → PV → Option Bool
  | .non, .non => some true
  | .non, .int _ => some false | .int _, .non => some false | .non, .bl _ => some false | .bl _, .non => some false | .non, .str _ => some false | .str _, .non => some false
  | .int i, .int j => some (decide (i = j))
  | .bl i, .bl j => some (decide (i = j))
  | .str i, .str j => some (decide (i = j))
  | .int _, .str _ => some false | .str _, .int _ => some false | .bl _, .str _ => some false | .str _, .bl _ => some false
  | _, _ => none
/-- a list's content as a tree -/
def datA (S : Sto) (x : AV) : Option PV := match x with
  | .pv p => some p
  | .hnd n => match entR S n with
    | some (.lst xs) => (pvs xs).map .lst
    | _ => none
def aEq (neg : Bool) (x y : AV) (S : Sto) (Q : AQ) : Prop := match datA S x, datA S y with
  | some p, some q => (match eqS p q with
    | some b => Q (.pv (.bl (neg.xor b))) S
    | none => (isDat p = true ∧ isDat q = true ∧ SeqAt.shaped (pdt p) = true ∧ SeqAt.shaped (pdt q) = true) ∧ Q (.pv (.bl (neg.xor (PyData.eqv (pdt p) (pdt q))))) S)
  | _, _ => False
def Exc (F H : Hp) : Prop := ∀ a o, F a = some o → H a = some o ∨ (isD o = true ∧ ∃ ob, H a = some (.frz ob o))
mutual
theorem dp_of (ex : Exc F H) : ∀ {p : PV} {v : V}, Rl K F v p → isDat p = true → Dp K H v (pdt p)
  | .non, _, .non, _ => by unfold pdt; exact .non
  | .bl b, _, .bl _, _ => by unfold pdt; exact .bl b
  | .int b, _, .int _, _ => by unfold pdt; exact .int b
  | .str b, _, .str _, _ => by unfold pdt; exact .str _
  | .lst xs, _, .lst h r, d => by
    unfold isDat at d
    unfold pdt
    rcases ex _ _ h with z | ⟨z, _⟩
    · exact .lst (.inl (.inl z)) (dp_ofL ex r d)
    · cases z
  | .tup xs, _, .tup h r, d => by
    unfold isDat at d
    unfold pdt
    rcases ex _ _ h with z | ⟨z, _⟩
    · exact .tup (.inl (.inl z)) (dp_ofL ex r d)
    · cases z
  | .ty _, _, _, d => by unfold isDat at d; cases d
  | .cl _, _, _, d => by unfold isDat at d; cases d
  | .dic _, _, _, d => by unfold isDat at d; cases d
  | .dit _, _, _, d => by unfold isDat at d; cases d
  | .ins _ _, _, _, d => by unfold isDat at d; cases d
  | .err _ _, _, _, d => by unfold isDat at d; cases d
theorem dp_ofL (ex : Exc F H) : ∀ {ps : List PV} {vs : List V}, RlL K F vs ps → isDatL ps = true → DpAll K H vs (pdtL ps)
  | [], _, .nil, _ => by unfold pdtL; exact .nil
  | p :: ps, _, .cons h t, d => by
    unfold isDatL at d
    rw [Bool.and_eq_true] at d
    unfold pdtL
    exact .cons (dp_of ex h d.1) (dp_ofL ex t d.2)
end
theorem dp_at (st : StR K A F X S H) (r : Rv K A F v x) {p : PV} (h : datA S x = some p) (d : isDat p = true) : Dp K H v (pdt p) := by
  unfold datA at h
  split at h
  · cases h
    exact dp_of st.sub r d
  · rename_i n
    split at h
    · rename_i xs e
      obtain ⟨ps, e2, rfl⟩ := Option.map_eq_some_iff.mp h
      obtain ⟨a, vs, rfl, h1, p1⟩ := st.lstB r (xs := xs) (by unfold Rf.lstB; simp only [e])
      rw [pvs_ok e2] at p1
      unfold isDat at d
      unfold pdt
      exact .lst (lstH_sq h1) (dp_ofL st.sub (Rv.pvl p1) d)
    · cases h
theorem eqS_ok {p q : PV} {b : Bool} (r1 : Rl K F v p) (r2 : Rl K F u q) (h : eqS p q = some b) : scal v u = true ∧ decide (v = u) = b := by
  cases p <;> cases q <;> first
    | (cases h; done)
    | (cases r1; cases r2; cases h; refine ⟨rfl, ?_⟩; simp [sOf_eq])
theorem eqS_pv {p q : PV} {b : Bool} (h1 : datA S x = some p) (h2 : datA S y = some q) (h : eqS p q = some b) : x = .pv p ∧ y = .pv q := by
  have key : ∀ {x : AV} {p : PV}, datA S x = some p → (∀ xs, p ≠ .lst xs) → x = .pv p := fun {x p} h n => by
    unfold datA at h
    split at h
    · cases h; rfl
    · split at h
      · obtain ⟨ps, _, e⟩ := Option.map_eq_some_iff.mp h
        exact absurd e.symm (n _)
      · cases h
  refine ⟨key h1 fun xs e => ?_, key h2 fun xs e => ?_⟩
  · subst e
    cases q <;> cases h
  · subst e
    cases p <;> cases h
theorem sim_eq (st : StR K A F X S H) (rx : Rv K A F v x) (ry : Rv K A F u y) (h : aEq false x y S Q) (k : Con K A F X Q Qc) : rEqX K v u H Qc := by
  unfold aEq at h
  split at h
  · rename_i p q e1 e2
    split at h
    · rename_i b e
      obtain ⟨rfl, rfl⟩ := eqS_pv e1 e2 e
      obtain ⟨h1, h2⟩ := eqS_ok rx ry e
      unfold rEqX
      rw [h1, h2]
      rw [Bool.false_xor] at h
      exact k.here st h (.bl _)
    · obtain ⟨⟨d1, d2, s1, s2⟩, q⟩ := h
      unfold rEqX
      cases hs : scal v u with
      | true =>
        exfalso
        rename_i en
        have key : ∀ {x : AV} {v : V} {p : PV}, Rv K A F v x → datA S x = some p → isDat p = true → (∀ a, v ≠ .ref a) → Rl K F v p := fun {x v p} r h d n => by
          unfold datA at h
          split at h
          · cases h; exact r
          · obtain ⟨a, e, _⟩ := r
            exact absurd e (n a)
        have n1 : ∀ a, v ≠ .ref a := fun a e => by subst e; cases u <;> cases hs
        have n2 : ∀ a, u ≠ .ref a := fun a e => by subst e; cases v <;> cases hs
        have r1 := key rx e1 d1 n1
        have r2 := key ry e2 d2 n2
        cases r1 <;> cases r2 <;> first | (cases en; done) | (cases hs; done) | exact n1 _ rfl | exact n2 _ rfl
      | false =>
        rw [Bool.false_xor] at q
        exact ⟨_, _, dp_at st rx e1 d1, dp_at st ry e2 d2, s1, s2, k.here st q (.bl _)⟩
  · exact h.elim
theorem sim_ne (st : StR K A F X S H) (rx : Rv K A F v x) (ry : Rv K A F u y) (h : aEq true x y S Q) (k : Con K A F X Q Qc) : rNeX K v u H Qc := by
  unfold aEq at h
  split at h
  · rename_i p q e1 e2
    split at h
    · rename_i b e
      obtain ⟨rfl, rfl⟩ := eqS_pv e1 e2 e
      obtain ⟨h1, h2⟩ := eqS_ok rx ry e
      unfold rNeX
      rw [h1, h2]
      rw [Bool.true_xor] at h
      exact k.here st h (.bl _)
    · obtain ⟨⟨d1, d2, s1, s2⟩, q⟩ := h
      unfold rNeX
      cases hs : scal v u with
      | true =>
        exfalso
        rename_i en
        have key : ∀ {x : AV} {v : V} {p : PV}, Rv K A F v x → datA S x = some p → isDat p = true → (∀ a, v ≠ .ref a) → Rl K F v p := fun {x v p} r h d n => by
          unfold datA at h
          split at h
          · cases h; exact r
          · obtain ⟨a, e, _⟩ := r
            exact absurd e (n a)
        have n1 : ∀ a, v ≠ .ref a := fun a e => by subst e; cases u <;> cases hs
        have n2 : ∀ a, u ≠ .ref a := fun a e => by subst e; cases v <;> cases hs
        have r1 := key rx e1 d1 n1
        have r2 := key ry e2 d2 n2
        cases r1 <;> cases r2 <;> first | (cases en; done) | (cases hs; done) | exact n1 _ rfl | exact n2 _ rfl
      | false =>
        rw [Bool.true_xor] at q
        exact ⟨_, _, dp_at st rx e1 d1, dp_at st ry e2 d2, s1, s2, k.here st q (.bl _)⟩
  · exact h.elim
def aOrd (f : Int → Int → Bool) (g : Cs → Cs → Bool) (x y : AV) (S : Sto) (Q : AQ) : Prop := match x, y with
  | .pv (.int i), .pv (.int j) => Q (.pv (.bl (f i j))) S
  | .pv (.str a), .pv (.str b) => Q (.pv (.bl (g a b))) S
  | _, _ => False
theorem sim_ord {f : Int → Int → Bool} {g : Cs → Cs → Bool} (st : StR K A F X S H) (rx : Rv K A F v x) (ry : Rv K A F u y) (h : aOrd f g x y S Q) (k : Con K A F X Q Qc) : rOrd f g v u H Qc := by
  unfold aOrd at h
  split at h
  · have rx : Rl K F v (.int _) := rx
    have ry : Rl K F u (.int _) := ry
    cases rx
    cases ry
    exact k.here st h (.bl _)
  · have rx : Rl K F v (.str _) := rx
    have ry : Rl K F u (.str _) := ry
    cases rx
    cases ry
    exact k.here st h (.bl _)
  · exact h.elim
def isNonA : AV → Bool
  | .pv .non => true
  | _ => false
def aIs (n : Bool) (x y : AV) (S : Sto) (Q : AQ) : Prop := match x, y with
  | .pv (.bl a), .pv (.bl b) => Q (.pv (.bl (n.xor (decide (a = b))))) S
  | x, .pv .non => Q (.pv (.bl (n.xor (isNonA x)))) S
  | _, _ => False
theorem isNon_ok (rx : Rv K A F v x) : decide (v = .non) = isNonA x := by
  cases x with
  | hnd n => obtain ⟨a, rfl, _⟩ := rx; rfl
  | pv p =>
    have rx : Rl K F v p := rx
    cases rx <;> first | rfl | exact decide_eq_false (fun z => by cases z)
theorem sim_is {n : Bool} (st : StR K A F X S H) (rx : Rv K A F v x) (ry : Rv K A F u y) (h : aIs n x y S Q) (k : Con K A F X Q Qc) : rIsX n v u H Qc := by
  unfold aIs at h
  split at h
  · have rx : Rl K F v (.bl _) := rx
    have ry : Rl K F u (.bl _) := ry
    cases rx
    cases ry
    exact k.here st h (.bl _)
  · have ry : Rl K F u .non := ry
    cases ry
    have e := isNon_ok rx
    have h2 : Qc (.bl (n.xor (isNonA x))) H := k.here st h (.bl _)
    rw [← e] at h2
    unfold rIsX
    split
    · rename_i z; cases z
    · exact h2
    · rename_i z _; exact absurd rfl z
  · exact h.elim
/-- flat values compared -/
def eqF : PV → PV → Bool
  | .non, .non => true
  | .bl a, .bl b => a == b
  | .bl a, .int b => (if a then 1 else 0) == b
  | .int a, .bl b => a == (if b then 1 else 0)
  | .int a, .int b => a == b
  | .str a, .str b => a == b
  | _, _ => false
def flatP : PV → Bool
  | .non => true | .bl _ => true | .int _ => true | .str _ => true
  | _ => false
def inP (x : PV) (xs : List PV) : Bool := xs.any fun y => eqF y x
def aIn (n : Bool) (x y : AV) (S : Sto) (Q : AQ) : Prop := match x, y with
  | .pv (.str a), .pv (.str b) => (match a with
    | [c] => Q (.pv (.bl (n.xor (decide (c ∈ b))))) S
    | _ => False)
  | _, _ => match x, (seqA S y).bind pvs with
    | .pv p, some ps => flatP p = true ∧ ps.all flatP = true ∧ Q (.pv (.bl (n.xor (inP p ps)))) S
    | _, _ => match dGet S y x with
      | some o => Q (.pv (.bl (n.xor o.isSome))) S
      | none => False
theorem flat_ok {p : PV} (r : Rl K F v p) (f : flatP p = true) : flatV v = true := by
  cases r <;> first | rfl | cases f
theorem eqF_ok {p q : PV} (r1 : Rl K F v p) (r2 : Rl K F u q) (f1 : flatP p = true) (f2 : flatP q = true) : eqV v u = eqF p q := by
  cases r1 <;> first
    | (cases f1; done)
    | (cases r2 <;> first
      | (cases f2; done)
      | rfl
      | (show (sOf _ == sOf _) = (_ == _)
         rw [Bool.eq_iff_iff]
         simp))
theorem flatL_ok : ∀ {vs : List V} {ps : List PV}, RlL K F vs ps → ps.all flatP = true → vs.all flatV = true
  | [], [], _, _ => rfl
  | v :: vs, p :: ps, .cons h t, f => by
    rw [List.all_cons, Bool.and_eq_true] at f
    rw [List.all_cons, flat_ok h f.1, flatL_ok t f.2]
    rfl
  | [], _ :: _, r, _ => nomatch r
  | _ :: _, [], r, _ => nomatch r
theorem inP_ok {p : PV} (r : Rl K F v p) (f : flatP p = true) : ∀ {vs : List V} {ps : List PV}, RlL K F vs ps → ps.all flatP = true → inV v vs = inP p ps
  | [], [], _, _ => rfl
  | v' :: vs, p' :: ps, .cons h t, f' => by
    rw [List.all_cons, Bool.and_eq_true] at f'
    have ih := inP_ok r f t f'.2
    unfold inV inP at ih ⊢
    rw [List.any_cons, List.any_cons, ih, eqF_ok h r f'.1 f]
  | [], _ :: _, r, _ => nomatch r
  | _ :: _, [], r, _ => nomatch r
theorem sim_in {n : Bool} (st : StR K A F X S H) (rx : Rv K A F v x) (ry : Rv K A F u y) (h : aIn n x y S Q) (k : Con K A F X Q Qc) : rInX K n v u H Qc := by
  unfold aIn at h
  split at h
  · have rx : Rl K F v (.str _) := rx
    have ry : Rl K F u (.str _) := ry
    cases rx
    cases ry
    split at h
    · exact .inl ⟨_, _, _, rfl, rfl, rfl, k.here st h (.bl _)⟩
    · exact h.elim
  · split at h
    · rename_i p ps e _
      obtain ⟨xs, e1, e2⟩ := Option.bind_eq_some_iff.mp e
      obtain ⟨f1, f2, q⟩ := h
      have rx : Rl K F v p := rx
      obtain ⟨a, vs, rfl, h1, p1⟩ := st.seqA ry e1
      rw [pvs_ok e2] at p1
      have p2 := Rv.pvl p1
      have q2 : Qc (.bl (n.xor (inV v vs))) H := by rw [inP_ok rx f1 p2 f2]; exact k.here st q (.bl _)
      exact .inr (.inl ⟨a, vs, rfl, seqH_sq h1, flat_ok rx f1, flatL_ok p2 f2, q2⟩)
    · split at h
      · rename_i o e
        obtain ⟨a, oc, rfl, g, e2, _⟩ := st.dGet ry rx e
        exact .inr (.inr ⟨a, oc, rfl, g, by rw [e2]; exact k.here st h (.bl _)⟩)
      · exact h.elim
def aCmp : CmpOp → AV → AV → Sto → AQ → Prop
  | .Eq => aEq false | .NotEq => aEq true
  | .Lt => aOrd (fun i j => decide (i < j)) (fun a b => decide (a < b)) | .LtE => aOrd (fun i j => decide (i ≤ j)) (fun a b => !decide (b < a))
  | .Gt => aOrd (fun i j => decide (j < i)) (fun a b => decide (b < a)) | .GtE => aOrd (fun i j => decide (j ≤ i)) (fun a b => !decide (a < b))
  | .Is => aIs false | .IsNot => aIs true | .In => aIn false | .NotIn => aIn true
theorem sim_cmp {o : CmpOp} (st : StR K A F X S H) (rx : Rv K A F v x) (ry : Rv K A F u y) (h : aCmp o x y S Q) (k : Con K A F X Q Qc) : rCmp K o v u H Qc := by
  cases o with
  | Eq => exact sim_eq st rx ry h k
  | NotEq => exact sim_ne st rx ry h k
  | Lt => exact sim_ord st rx ry h k
  | LtE => exact sim_ord st rx ry h k
  | Gt => exact sim_ord st rx ry h k
  | GtE => exact sim_ord st rx ry h k
  | Is => exact sim_is st rx ry h k
  | IsNot => exact sim_is st rx ry h k
  | In =>
    have q := sim_in st rx ry h k
    exact q
  | NotIn =>
    have q := sim_in st rx ry h k
    exact q
/-! ### a[b], a[b:c], -a, truth -/
def aIx (x y : AV) (S : Sto) (Q : AQ) : Prop := match x, y with
  | .pv (.str z), .pv (.int i) => z.length ≤ line ∧ (match atI z i with
    | some c => Q (.pv (.str [c])) S
    | none => False)
  | _, _ => match seqA S x, y with
    | some xs, .pv (.int i) => (match atI xs i with
      | some w => Q w S
      | none => False)
    | _, _ => match dGet S x y with
      | some (some w) => Q w S
      | _ => False
theorem atI_get {α β : Type} {R : α → β → Prop} {xs : List α} {ys : List β} {i : Int} {y : β} (p : Paired R xs ys) (h : atI ys i = some y) : ∃ x, atI xs i = some x ∧ R x y := by
  unfold atI at h ⊢
  obtain ⟨j, h1, h2⟩ := Option.bind_eq_some_iff.mp h
  obtain ⟨x, h3, h4⟩ := Paired.get p h2
  exact ⟨x, by rw [Paired.len p, h1]; exact h3, h4⟩
theorem sim_ix (st : StR K A F X S H) (rx : Rv K A F v x) (ry : Rv K A F u y) (h : aIx x y S Q) (k : Con K A F X Q Qc) : rIxX K v u H Qc := by
  unfold aIx at h
  split at h
  · have rx : Rl K F v (.str _) := rx
    have ry : Rl K F u (.int _) := ry
    cases rx
    cases ry
    obtain ⟨h1, h2⟩ := h
    split at h2
    · rename_i c e
      exact .inl ⟨_, _, c, rfl, rfl, h1, e, k.here st h2 (.str _)⟩
    · exact h2.elim
  · split at h
    · rename_i xs i e _
      have ry : Rl K F u (.int i) := ry
      cases ry
      split at h
      · rename_i w ew
        obtain ⟨a, vs, rfl, h1, p1⟩ := st.seqA rx e
        obtain ⟨v', e1, e2⟩ := atI_get p1 ew
        exact .inr (.inl ⟨a, vs, i, v', rfl, rfl, seqH_sq h1, e1, k.here st h e2⟩)
      · exact h.elim
    · split at h
      · rename_i w e
        obtain ⟨a, oc, rfl, g, _, z⟩ := st.dGet rx ry e
        obtain ⟨v', e1, e2⟩ := z w rfl
        subst e1
        exact .inr (.inr ⟨a, v', rfl, g, k.here st h e2⟩)
      · exact h.elim
def cutA {α : Type} (xs : List α) (lo hi : Option Int) : List α := (xs.drop (HT.sIx xs.length 0 lo)).take (HT.sIx xs.length xs.length hi - HT.sIx xs.length 0 lo)
theorem cut_rel {α β : Type} {R : α → β → Prop} {xs : List α} {ys : List β} (p : Paired R xs ys) (lo hi : Option Int) : Paired R (cutA xs lo hi) (cutA ys lo hi) := by
  unfold cutA
  rw [Paired.len p]
  exact Paired.takeP _ (Paired.dropP _ p)
def aSl (m : Bool) (x : AV) (lo hi : Option Int) (S : Sto) (Q : AQ) : Prop := match x with
  | .pv (.str z) => z.length ≤ line ∧ Q (.pv (.str (cutA z lo hi))) S
  | .pv (.tup xs) => ¬ (HT.sIx xs.length 0 lo = 0 ∧ HT.sIx xs.length xs.length hi = xs.length) ∧ Q (.pv (.tup (cutA xs lo hi))) S
  | x => match lstB S x with
    | some xs => alc m (.lst (cutA xs lo hi)) S Q
    | none => False
theorem sim_sl {m : Bool} {lo hi : Option Int} (st : StR K A F X S H) (rx : Rv K A F v x) (h : aSl m x lo hi S Q) (k : Con K A F X Q Qc) : rSlX K v lo hi H Qc := by
  unfold aSl at h
  split at h
  · have rx : Rl K F v (.str _) := rx
    cases rx
    exact .inl ⟨_, rfl, h.1, k.here st h.2 (.str _)⟩
  · rename_i xs
    obtain ⟨a, vs, rfl, h1, f1, p1⟩ := st.tupA rx (xs := xs) rfl
    refine .inr (.inr ⟨a, vs, rfl, .inl (.inl h1), by rw [Paired.len p1.pair]; exact h.1, fun p hp => ?_⟩)
    obtain ⟨st', ex⟩ := st.tree (ho := .tup (cutV vs lo hi)) hp
    exact k _ _ _ _ _ _ h.2 st' ex (Rl.tup upd_same (RlL.of ((cut_rel p1.pair lo hi).mono fun _ _ z => Rl.mono ex.f z)))
  · split at h
    · rename_i xs e
      obtain ⟨a, vs, rfl, h1, p1⟩ := st.lstB rx e
      exact .inr (.inl ⟨a, vs, rfl, lstH_sq h1, fun p hp => sim_alc st hp (o := .lst _) ⟨_, rfl, cut_rel p1 lo hi⟩ h k⟩)
    · exact h.elim
def aNeg (x : AV) (S : Sto) (Q : AQ) : Prop := match x with
  | .pv (.int i) => Q (.pv (.int (-i))) S
  | _ => False
theorem sim_neg (st : StR K A F X S H) (rx : Rv K A F v x) (h : aNeg x S Q) (k : Con K A F X Q Qc) : rNegX v H Qc := by
  unfold aNeg at h
  split at h
  · have rx : Rl K F v (.int _) := rx
    cases rx
    exact k.here st h (.int _)
  · exact h.elim
def dicL (S : Sto) : AV → Option (List (KC × AV))
  | .hnd n => match entL S n with
    | some (.dic xs) => some xs
    | _ => none
  | _ => none
def aTr (x : AV) (S : Sto) (Q : Bool → Sto → Prop) : Prop := match x with
  | .pv .non => Q false S
  | .pv (.bl b) => Q b S
  | .pv (.int i) => Q (i != 0) S
  | .pv (.str y) => y.length ≤ line ∧ Q (!y.isEmpty) S
  | x => match seqA S x with
    | some xs => Q (!xs.isEmpty) S
    | none => match dicL S x with
      | some xs => Q (!xs.isEmpty) S
      | none => False
theorem emp_rel {α β : Type} {R : α → β → Prop} {xs : List α} {ys : List β} (p : Paired R xs ys) : xs.isEmpty = ys.isEmpty := by cases p <;> rfl
theorem sim_tr {Q : Bool → Sto → Prop} {Qc : Bool → Hp → Prop} (st : StR K A F X S H) (rx : Rv K A F v x) (h : aTr x S Q) (k : ∀ b, Q b S → Qc b H) : trX K v H Qc := by
  unfold aTr at h
  split at h
  · have rx : Rl K F v .non := rx
    cases rx
    exact k _ h
  · have rx : Rl K F v (.bl _) := rx
    cases rx
    exact k _ h
  · have rx : Rl K F v (.int _) := rx
    cases rx
    exact k _ h
  · have rx : Rl K F v (.str _) := rx
    cases rx
    exact ⟨h.1, k _ h.2⟩
  · split at h
    · rename_i xs e
      obtain ⟨a, vs, rfl, h1, p1⟩ := st.seqA rx e
      exact .inr ⟨vs, seqH_sq h1, by rw [emp_rel p1]; exact k _ h⟩
    · split at h
      · rename_i xs e
        unfold dicL at e
        split at e
        · rename_i n
          obtain ⟨a, rfl, ha⟩ := rx
          split at e
          · rename_i ys e2
            cases e
            obtain ⟨b, ho, g1, g2, vs, rfl, g3⟩ := st.entL e2
            rw [ha] at g1
            cases g1
            exact .inl ⟨vs, g2, by rw [emp_rel g3]; exact k _ h⟩
          · cases e
        · cases e
      · exact h.elim
end
end Rf
set_option Elab.async false
set_option autoImplicit false
set_option linter.all false
set_option maxRecDepth 100000
set_option maxHeartbeats 4000000
/-! Built-in functions, types, methods on trees and things of the store. -/
namespace Rf
open PySem PySem.Spec PyProof.Rows L2
def blsP : List AV → Option (List Bool)
  | [] => some []
  | .pv (.bl b) :: r => (blsP r).map (b :: ·)
  | _ :: _ => none
def intsP : List AV → Option (List Int)
  | [] => some []
  | .pv (.int b) :: r => (intsP r).map (b :: ·)
  | _ :: _ => none
def strsP : List AV → Option (List Cs)
  | [] => some []
  | .pv (.str b) :: r => (strsP r).map (b :: ·)
  | _ :: _ => none
@[simp] theorem blsP_map : ∀ l : List Bool, blsP (l.map fun b => .pv (.bl b)) = some l
  | [] => rfl
  | b :: r => by
    show (blsP (r.map fun b => .pv (.bl b))).map (b :: ·) = _
    rw [blsP_map r]
    rfl
@[simp] theorem intsP_map : ∀ l : List Int, intsP (l.map fun b => .pv (.int b)) = some l
  | [] => rfl
  | b :: r => by
    show (intsP (r.map fun b => .pv (.int b))).map (b :: ·) = _
    rw [intsP_map r]
    rfl
@[simp] theorem strsP_map : ∀ l : List Cs, strsP (l.map fun b => .pv (.str b)) = some l
  | [] => rfl
  | b :: r => by
    show (strsP (r.map fun b => .pv (.str b))).map (b :: ·) = _
    rw [strsP_map r]
    rfl
section
variable {K : Fg} {A A1 : List Addr} {F F1 X : Hp} {S : Sto} {H : Hp} {v u : V} {w z x y : AV} {Q : AQ} {Qc : VK}
theorem blsP_ok : ∀ {xs : List AV} {bs : List Bool} {vs : List V}, Paired (Rv K A F) vs xs → blsP xs = some bs → vs = bs.map V.bl
  | [], bs, _, .nil, h => by cases h; rfl
  | .pv (.bl b) :: r, bs, _, .cons h t, e => by
    have e : (blsP r).map (b :: ·) = some bs := e
    obtain ⟨cs, e2, rfl⟩ := Option.map_eq_some_iff.mp e
    have h : Rl K F _ (.bl b) := h
    cases h
    rw [blsP_ok t e2]
    rfl
  | .hnd _ :: _, _, _, _, e => by cases e
  | .pv .non :: _, _, _, _, e => by cases e
  | .pv (.int _) :: _, _, _, _, e => by cases e
  | .pv (.str _) :: _, _, _, _, e => by cases e
  | .pv (.ty _) :: _, _, _, _, e => by cases e
  | .pv (.cl _) :: _, _, _, _, e => by cases e
  | .pv (.lst _) :: _, _, _, _, e => by cases e
  | .pv (.tup _) :: _, _, _, _, e => by cases e
  | .pv (.dic _) :: _, _, _, _, e => by cases e
  | .pv (.dit _) :: _, _, _, _, e => by cases e
  | .pv (.ins _ _) :: _, _, _, _, e => by cases e
  | .pv (.err _ _) :: _, _, _, _, e => by cases e
theorem intsP_ok : ∀ {xs : List AV} {bs : List Int} {vs : List V}, Paired (Rv K A F) vs xs → intsP xs = some bs → vs = bs.map V.int
  | [], bs, _, .nil, h => by cases h; rfl
  | .pv (.int b) :: r, bs, _, .cons h t, e => by
    have e : (intsP r).map (b :: ·) = some bs := e
    obtain ⟨cs, e2, rfl⟩ := Option.map_eq_some_iff.mp e
    have h : Rl K F _ (.int b) := h
    cases h
    rw [intsP_ok t e2]
    rfl
  | .hnd _ :: _, _, _, _, e => by cases e
  | .pv .non :: _, _, _, _, e => by cases e
  | .pv (.bl _) :: _, _, _, _, e => by cases e
  | .pv (.str _) :: _, _, _, _, e => by cases e
  | .pv (.ty _) :: _, _, _, _, e => by cases e
  | .pv (.cl _) :: _, _, _, _, e => by cases e
  | .pv (.lst _) :: _, _, _, _, e => by cases e
  | .pv (.tup _) :: _, _, _, _, e => by cases e
  | .pv (.dic _) :: _, _, _, _, e => by cases e
  | .pv (.dit _) :: _, _, _, _, e => by cases e
  | .pv (.ins _ _) :: _, _, _, _, e => by cases e
  | .pv (.err _ _) :: _, _, _, _, e => by cases e
theorem strsP_ok : ∀ {xs : List AV} {bs : List Cs} {vs : List V}, Paired (Rv K A F) vs xs → strsP xs = some bs → vs = bs.map fun b => V.str (sOf b)
  | [], bs, _, .nil, h => by cases h; rfl
  | .pv (.str b) :: r, bs, _, .cons h t, e => by
    have e : (strsP r).map (b :: ·) = some bs := e
    obtain ⟨cs, e2, rfl⟩ := Option.map_eq_some_iff.mp e
    have h : Rl K F _ (.str b) := h
    cases h
    rw [strsP_ok t e2]
    rfl
  | .hnd _ :: _, _, _, _, e => by cases e
  | .pv .non :: _, _, _, _, e => by cases e
  | .pv (.bl _) :: _, _, _, _, e => by cases e
  | .pv (.int _) :: _, _, _, _, e => by cases e
  | .pv (.ty _) :: _, _, _, _, e => by cases e
  | .pv (.cl _) :: _, _, _, _, e => by cases e
  | .pv (.lst _) :: _, _, _, _, e => by cases e
  | .pv (.tup _) :: _, _, _, _, e => by cases e
  | .pv (.dic _) :: _, _, _, _, e => by cases e
  | .pv (.dit _) :: _, _, _, _, e => by cases e
  | .pv (.ins _ _) :: _, _, _, _, e => by cases e
  | .pv (.err _ _) :: _, _, _, _, e => by cases e
/-! ### built-ins -/
def aLen (xs : List AV) (S : Sto) (Q : AQ) : Prop := match xs with
  | [.pv (.str y)] => y.length ≤ line ∧ Q (.pv (.int y.length)) S
  | [x] => (match dicA S x with
    | some kvs => Q (.pv (.int kvs.length)) S
    | none => match seqA S x with
      | some ys => Q (.pv (.int ys.length)) S
      | none => False)
  | _ => False
def aAll (f : List Bool → Bool) (xs : List AV) (S : Sto) (Q : AQ) : Prop := match xs with
  | [x] => (match (lstB S x).bind blsP with
    | some bs => Q (.pv (.bl (f bs))) S
    | none => False)
  | _ => False
def aAbs (xs : List AV) (S : Sto) (Q : AQ) : Prop := match xs with
  | [.pv (.int i)] => Q (.pv (.int (i.natAbs : Int))) S
  | _ => False
def aI2L (f : Int → Int → Int) (xs : List AV) (S : Sto) (Q : AQ) : Prop := match xs with
  | [.pv (.int i), .pv (.int j)] => Q (.pv (.int (f i j))) S
  | _ => False
def aSum (xs : List AV) (S : Sto) (Q : AQ) : Prop := match xs with
  | [x] => (match (lstB S x).bind intsP with
    | some bs => Q (.pv (.int bs.sum)) S
    | none => False)
  | _ => False
inductive TyA where
  | ty (n : String) | ins (C : Addr) | err (C : Addr)
def TyA.val : TyA → Value
  | .ty n => .type n
  | .ins C => .ref C
  | .err C => .ref C
def tyA (S : Sto) : AV → Option TyA
  | .pv .non => some (.ty "NoneType")
  | .pv (.bl _) => some (.ty "bool")
  | .pv (.int _) => some (.ty "int")
  | .pv (.str _) => some (.ty "str")
  | .pv (.lst _) => some (.ty "list")
  | .pv (.tup _) => some (.ty "tuple")
  | .pv (.dic _) => some (.ty "dict")
  | .pv (.ins C _) => some (.ins C)
  | .pv (.err C _) => some (.err C)
  | .hnd n => (match S[n]? with
    | some (.live (.lst _)) => some (.ty "list")
    | some (.lock (.lst _)) => some (.ty "list")
    | some (.live (.dic _)) => some (.ty "dict")
    | some (.live (.dit _)) => some (.ty "dict")
    | some (.live (.ins C _)) => some (.ins C)
    | _ => none)
  | _ => none
def clA : AV → Option Value
  | .pv (.ty n) => some (.type n)
  | .pv (.cl C) => some (.ref C)
  | _ => none
def tyC (K : Fg) : TyA → Prop
  | .ty _ => True
  | .ins C => InsC K C
  | .err C => ExcC K C
def clsPs : List PV → Option (List Value)
  | [] => some []
  | .ty n :: r => (clsPs r).map (.type n :: ·)
  | .cl C :: r => (clsPs r).map (.ref C :: ·)
  | _ :: _ => none
def aIsi (K : Fg) (xs : List AV) (S : Sto) (Q : AQ) : Prop := match xs with
  | [x, .pv (.tup cs)] => (match tyA S x, clsPs cs with
    | some t, some us => tyC K t ∧ ∃ b, PySem.W.kitAny K t.val us = some b ∧ Q (.pv (.bl b)) S
    | _, _ => False)
  | [x, c] => (match tyA S x, clA c with
    | some t, some u => tyC K t ∧ ∃ b, PySem.W.kitOne K t.val u = some b ∧ Q (.pv (.bl b)) S
    | _, _ => False)
  | _ => False
def aBF (K : Fg) : BF → List AV → Sto → AQ → Prop
  | .len => aLen | .all => aAll (·.all id) | .any => aAll (·.any id) | .abs => aAbs | .isi => aIsi K | .min2 => aI2L min | .max2 => aI2L max | .sum => aSum
theorem pairs1 {vs : List V} (r : Paired (Rv K A F) vs [x]) : ∃ v, vs = [v] ∧ Rv K A F v x := by
  cases r with | cons h t => cases t; exact ⟨_, rfl, h⟩
theorem pairs2 {vs : List V} (r : Paired (Rv K A F) vs [x, y]) : ∃ v u, vs = [v, u] ∧ Rv K A F v x ∧ Rv K A F u y := by
  cases r with | cons h t => cases t with | cons h' t => cases t; exact ⟨_, _, rfl, h, h'⟩
theorem sim_len {xs : List AV} {vs : List V} (st : StR K A F X S H) (r : Paired (Rv K A F) vs xs) (h : aLen xs S Q) (k : Con K A F X Q Qc) : rLenX K vs H Qc := by
  unfold aLen at h
  split at h
  · obtain ⟨v, rfl, r1⟩ := pairs1 r
    have r1 : Rl K F v (.str _) := r1
    cases r1
    exact .inl ⟨_, rfl, h.1, k.here st h.2 (.int _)⟩
  · obtain ⟨v, rfl, r1⟩ := pairs1 r
    split at h
    · rename_i kvs e
      obtain ⟨a, vs, rfl, h1, p1⟩ := st.dicA r1 e
      exact .inr (.inl ⟨a, vs, rfl, h1, by rw [Paired.len p1]; exact k.here st h (.int _)⟩)
    · split at h
      · rename_i ys e
        obtain ⟨a, vs, rfl, h1, p1⟩ := st.seqA r1 e
        exact .inr (.inr ⟨a, vs, rfl, seqH_sq h1, by rw [Paired.len p1]; exact k.here st h (.int _)⟩)
      · exact h.elim
  · exact h.elim
theorem sim_all {f : List Bool → Bool} {xs : List AV} {vs : List V} (st : StR K A F X S H) (r : Paired (Rv K A F) vs xs) (h : aAll f xs S Q) (k : Con K A F X Q Qc) : rAllX K f vs H Qc := by
  unfold aAll at h
  split at h
  · obtain ⟨v, rfl, r1⟩ := pairs1 r
    split at h
    · rename_i bs e
      obtain ⟨ys, e1, e2⟩ := Option.bind_eq_some_iff.mp e
      obtain ⟨a, vs, rfl, h1, p1⟩ := st.lstB r1 e1
      have e3 := blsP_ok p1 e2
      subst e3
      exact ⟨a, bs, rfl, lstH_sq h1, k.here st h (.bl _)⟩
    · exact h.elim
  · exact h.elim
theorem sim_sum {xs : List AV} {vs : List V} (st : StR K A F X S H) (r : Paired (Rv K A F) vs xs) (h : aSum xs S Q) (k : Con K A F X Q Qc) : rSumX K vs H Qc := by
  unfold aSum at h
  split at h
  · obtain ⟨v, rfl, r1⟩ := pairs1 r
    split at h
    · rename_i bs e
      obtain ⟨ys, e1, e2⟩ := Option.bind_eq_some_iff.mp e
      obtain ⟨a, vs, rfl, h1, p1⟩ := st.lstB r1 e1
      have e3 := intsP_ok p1 e2
      subst e3
      exact ⟨a, bs, rfl, lstH_sq h1, k.here st h (.int _)⟩
    · exact h.elim
  · exact h.elim
theorem sim_abs {xs : List AV} {vs : List V} (st : StR K A F X S H) (r : Paired (Rv K A F) vs xs) (h : aAbs xs S Q) (k : Con K A F X Q Qc) : rAbsX vs H Qc := by
  unfold aAbs at h
  split at h
  · obtain ⟨v, rfl, r1⟩ := pairs1 r
    have r1 : Rl K F v (.int _) := r1
    cases r1
    exact k.here st h (.int _)
  · exact h.elim
theorem sim_i2L {f : Int → Int → Int} {xs : List AV} {vs : List V} (st : StR K A F X S H) (r : Paired (Rv K A F) vs xs) (h : aI2L f xs S Q) : ∃ i j, vs = [.int i, .int j] ∧ Q (.pv (.int (f i j))) S := by
  unfold aI2L at h
  split at h
  · obtain ⟨v, u, rfl, r1, r2⟩ := pairs2 r
    have r1 : Rl K F v (.int _) := r1
    have r2 : Rl K F u (.int _) := r2
    cases r1
    cases r2
    exact ⟨_, _, rfl, h⟩
  · exact h.elim
theorem clA_ok {c : Value} (r : Rv K A F v x) (h : clA x = some c) {k : Value → Prop} (q : k c) : clK v k := by
  unfold clA at h
  split at h
  · have r : Rl K F v (.ty _) := r
    cases r
    cases h
    exact q
  · have r : Rl K F v (.cl _) := r
    cases r
    cases h
    exact q
  · cases h
theorem tyA_ok {t : TyA} (st : StR K A F X S H) (r : Rv K A F v x) (h : tyA S x = some t) (c : tyC K t) {k : Value → Prop} (q : k t.val) : tyK K H v k := by
  have exact_ : ∀ {a o}, F a = some o → isD o = false → H a = some o := fun {a o} e d => by
    rcases st.sub a o e with z | ⟨z, _⟩
    · exact z
    · rw [d] at z; cases z
  unfold tyA at h
  split at h
  · have r : Rl K F v .non := r
    cases r; cases h; exact q
  · have r : Rl K F v (.bl _) := r
    cases r; cases h; exact q
  · have r : Rl K F v (.int _) := r
    cases r; cases h; exact q
  · have r : Rl K F v (.str _) := r
    cases r; cases h; exact q
  · have r : Rl K F v (.lst _) := r
    cases r with
    | lst h1 h2 =>
      cases h
      show tyK K H (.ref _) k
      unfold tyK
      simp only [exact_ h1 rfl]
      exact q
  · have r : Rl K F v (.tup _) := r
    cases r with
    | tup h1 h2 =>
      cases h
      show tyK K H (.ref _) k
      unfold tyK
      simp only [exact_ h1 rfl]
      exact q
  · have r : Rl K F v (.dic _) := r
    cases r with
    | dk h1 h2 =>
      cases h
      show tyK K H (.ref _) k
      unfold tyK
      rcases st.sub _ _ h1 with z | ⟨_, ob, z⟩
      · simp only [z]
        exact q
      · simp only [z]
        exact q
  · have r : Rl K F v (.ins _ _) := r
    cases r with
    | ins h1 h2 =>
      cases h
      show tyK K H (.ref _) k
      unfold tyK
      simp only [exact_ h1 rfl]
      exact ⟨c, q⟩
  · have r : Rl K F v (.err _ _) := r
    cases r with
    | err0 h1 =>
      cases h
      show tyK K H (.ref _) k
      unfold tyK
      simp only [exact_ h1 rfl]
      exact ⟨_, none, rfl, c, trivial, q⟩
    | err1 h1 h2 h3 =>
      cases h
      show tyK K H (.ref _) k
      unfold tyK
      simp only [exact_ h1 rfl]
      exact ⟨_, some _, rfl, c, ⟨_, exact_ h2 rfl⟩, q⟩
  · obtain ⟨a, rfl, ha⟩ := r
    show tyK K H (.ref _) k
    unfold tyK
    split at h
    · rename_i e
      cases h
      obtain ⟨b, ho, g1, _, _, g2, vs, rfl, g3⟩ := st.live _ _ e
      rw [ha] at g1; cases g1
      simp only [g2]
      exact q
    · rename_i e
      cases h
      obtain ⟨b, ob, ho, g1, _, _, g2, vs, rfl, g3⟩ := st.lock _ _ e
      rw [ha] at g1; cases g1
      simp only [g2]
      exact q
    · rename_i e
      cases h
      obtain ⟨b, ho, g1, _, _, g2, vs, rfl, g3⟩ := st.live _ _ e
      rw [ha] at g1; cases g1
      simp only [g2]
      exact q
    · rename_i e
      cases h
      obtain ⟨b, ho, g1, _, _, g2, vs, rfl, g3⟩ := st.live _ _ e
      rw [ha] at g1; cases g1
      simp only [g2]
      exact q
    · rename_i e
      cases h
      obtain ⟨b, ho, g1, _, _, g2, dx, vs, rfl, g3⟩ := st.live _ _ e
      rw [ha] at g1; cases g1
      simp only [g2]
      exact ⟨c, q⟩
    · cases h
  · cases h
theorem clsPs_ok : ∀ {cs : List PV} {us : List Value} {vs : List V}, RlL K F vs cs → clsPs cs = some us → clsL vs = some us
  | [], us, vs, r, e => by cases r; cases e; rfl
  | c :: r, us, vs, rr, e => by
    cases rr with
    | cons h t =>
      cases c with
      | ty n =>
        obtain ⟨us', e1, rfl⟩ := Option.map_eq_some_iff.mp e
        cases h
        show (clsL _).map (Value.type n :: ·) = _
        rw [clsPs_ok t e1]
        rfl
      | cl C =>
        obtain ⟨us', e1, rfl⟩ := Option.map_eq_some_iff.mp e
        cases h
        show (clsL _).map (Value.ref C :: ·) = _
        rw [clsPs_ok t e1]
        rfl
      | _ => cases e
theorem sim_isi {xs : List AV} {vs : List V} (st : StR K A F X S H) (r : Paired (Rv K A F) vs xs) (h : aIsi K xs S Q) (k : Con K A F X Q Qc) : rIsiX K vs H Qc := by
  unfold aIsi at h
  split at h
  · rename_i x cs
    obtain ⟨v, u, rfl, r1, r2⟩ := pairs2 r
    split at h
    · rename_i t us e1 e2
      obtain ⟨h1, b, h2, h3⟩ := h
      have r2 : Rl K F u (.tup cs) := r2
      cases r2 with
      | @tup a vs _ f1 f2 =>
        have hT : H a = some (.tup vs) := by
          rcases st.sub _ _ f1 with z | ⟨z, _⟩
          · exact z
          · cases z
        exact .inr ⟨v, _, _, us, rfl, hT, clsPs_ok f2 e2, tyA_ok (k := fun t' => ∃ b, PySem.W.kitAny K t' us = some b ∧ Qc (.bl b) H) st r1 e1 h1 ⟨b, h2, k.here st h3 (.bl _)⟩⟩
    · exact h.elim
  · obtain ⟨v, u, rfl, r1, r2⟩ := pairs2 r
    split at h
    · rename_i t c e1 e2
      obtain ⟨h1, b, h2, h3⟩ := h
      exact .inl <| tyA_ok (k := fun t' => clK u fun c' => ∃ b, PySem.W.kitOne K t' c' = some b ∧ Qc (.bl b) H) st r1 e1 h1 (clA_ok (k := fun c' => ∃ b, PySem.W.kitOne K t.val c' = some b ∧ Qc (.bl b) H) r2 e2 ⟨b, h2, k.here st h3 (.bl _)⟩)
    · exact h.elim
  · exact h.elim
theorem sim_bf {f : BF} {xs : List AV} {vs : List V} (st : StR K A F X S H) (r : Paired (Rv K A F) vs xs) (h : aBF K f xs S Q) (k : Con K A F X Q Qc) : rBF K f vs H Qc := by
  cases f with
  | len => exact sim_len st r h k
  | all => exact sim_all st r h k
  | any => exact sim_all st r h k
  | abs => exact sim_abs st r h k
  | isi => exact sim_isi st r h k
  | min2 => obtain ⟨i, j, rfl, q⟩ := sim_i2L st r h; exact k.here st q (.int _)
  | max2 => obtain ⟨i, j, rfl, q⟩ := sim_i2L st r h; exact k.here st q (.int _)
  | sum => exact sim_sum st r h k
/-! ### types -/
def aInt (xs : List AV) (S : Sto) (Q : AQ) : Prop := match xs with
  | [.pv (.int i)] => Q (.pv (.int i)) S
  | [.pv (.bl b)] => Q (.pv (.int (if b then 1 else 0))) S
  | [.pv (.str a)] => ∃ n, PySem.intText? (sOf a) = some n ∧ a.length ≤ 640 ∧ Q (.pv (.int n)) S
  | _ => False
def txtOf (i : Int) : Cs := tl (toString i : String)
def aStrF (xs : List AV) (S : Sto) (Q : AQ) : Prop := match xs with
  | [.pv (.int i)] => i.natAbs.log2 < 1920 ∧ Q (.pv (.str (txtOf i))) S
  | _ => False
def aListF (m : Bool) (xs : List AV) (S : Sto) (Q : AQ) : Prop := match xs with
  | [x] => (match seqA S x with
    | some ys => alc m (.lst ys) S Q
    | none => False)
  | _ => False
def aTupF (xs : List AV) (S : Sto) (Q : AQ) : Prop := match xs with
  | [x] => (match (lstB S x).bind pvs with
    | some ys => Q (.pv (.tup ys)) S
    | none => False)
  | _ => False
def aTF (m : Bool) : TF → List AV → Sto → AQ → Prop
  | .int => aInt | .str => aStrF | .list => aListF m | .tuple => aTupF
theorem sim_tf {m : Bool} {f : TF} {xs : List AV} {vs : List V} (st : StR K A F X S H) (r : Paired (Rv K A F) vs xs) (h : aTF m f xs S Q) (k : Con K A F X Q Qc) : rTF K f vs H Qc := by
  cases f with
  | int =>
    have h : aInt xs S Q := h
    unfold aInt at h
    split at h
    · obtain ⟨v, rfl, r1⟩ := pairs1 r
      have r1 : Rl K F v (.int _) := r1
      cases r1
      exact k.here st h (.int _)
    · obtain ⟨v, rfl, r1⟩ := pairs1 r
      have r1 : Rl K F v (.bl _) := r1
      cases r1
      exact k.here st h (.int _)
    · obtain ⟨v, rfl, r1⟩ := pairs1 r
      have r1 : Rl K F v (.str _) := r1
      cases r1
      obtain ⟨n, h1, h2, h3⟩ := h
      exact ⟨n, h1, h2, k.here st h3 (.int _)⟩
    · exact h.elim
  | str =>
    have h : aStrF xs S Q := h
    unfold aStrF at h
    split at h
    · obtain ⟨v, rfl, r1⟩ := pairs1 r
      have r1 : Rl K F v (.int _) := r1
      cases r1
      exact ⟨h.1, k.here st h.2 (.str _)⟩
    · exact h.elim
  | list =>
    have h : aListF m xs S Q := h
    unfold aListF at h
    split at h
    · obtain ⟨v, rfl, r1⟩ := pairs1 r
      split at h
      · rename_i ys e
        obtain ⟨a, vs, rfl, h1, p1⟩ := st.seqA r1 e
        exact ⟨a, vs, rfl, seqH_sq h1, fun p hp => sim_alc st hp (o := .lst _) ⟨_, rfl, p1⟩ h k⟩
      · exact h.elim
    · exact h.elim
  | tuple =>
    have h : aTupF xs S Q := h
    unfold aTupF at h
    split at h
    · obtain ⟨v, rfl, r1⟩ := pairs1 r
      split at h
      · rename_i ys e
        obtain ⟨zs, e1, e2⟩ := Option.bind_eq_some_iff.mp e
        obtain ⟨a, vs, rfl, h1, p1⟩ := st.lstB r1 e1
        rw [pvs_ok e2] at p1
        refine ⟨a, vs, rfl, lstH_sq h1, fun p hp => ?_⟩
        obtain ⟨st', ex⟩ := st.tree (ho := .tup vs) hp
        exact k _ _ _ _ _ _ h st' ex (Rl.tup upd_same (RlL.of ((Rv.pvl p1).pair.mono fun _ _ z => Rl.mono ex.f z)))
      · exact h.elim
    · exact h.elim
/-! ### methods -/
def aApp (x : AV) (xs : List AV) (S : Sto) (Q : AQ) : Prop := match x, xs with
  | .hnd n, [y] => (match entL S n with
    | some (.lst zs) => zs.length < line ∧ Q (.pv .non) (S.set n (.live (.lst (zs ++ [y]))))
    | _ => False)
  | _, _ => False
def extA (S : Sto) (y : AV) : Option (List AV) := match tupA y with
  | some ps => some (ps.map .pv)
  | none => lstA S y
def aExt (x : AV) (xs : List AV) (S : Sto) (Q : AQ) : Prop := match x, xs with
  | .hnd n, [y] => (match entL S n, extA S y with
    | some (.lst zs), some ys => zs.length + ys.length ≤ line ∧ Q (.pv .non) (S.set n (.live (.lst (zs ++ ys))))
    | _, _ => False)
  | _, _ => False
def aJoin (x : AV) (xs : List AV) (S : Sto) (Q : AQ) : Prop := match x, xs with
  | .pv (.str a), [y] => (match (seqA S y).bind strsP with
    | some ys => ((ys.map List.length).sum + ys.length * a.length ≤ line) ∧ Q (.pv (.str (joinC a ys))) S
    | none => False)
  | _, _ => False
def aStart (x : AV) (xs : List AV) (S : Sto) (Q : AQ) : Prop := match x, xs with
  | .pv (.str a), [.pv (.str b)] => Q (.pv (.bl (decide (a.take b.length = b)))) S
  | _, _ => False
def aIndex (x : AV) (xs : List AV) (S : Sto) (Q : AQ) : Prop := match x, xs with
  | .pv (.str a), [.pv (.str [c])] => c ∈ a ∧ Q (.pv (.int (a.idxOf c : Nat))) S
  | _, _ => False
def aBM : BM → AV → List AV → Sto → AQ → Prop
  | .append => aApp | .extend => aExt | .join => aJoin | .startswith => aStart | .index => aIndex
theorem StR.extA (st : StR K A F X S H) (r : Rv K A F v w) {xs : List AV} (h : extA S w = some xs) : ∃ a vs, v = .ref a ∧ (H a = some (.lst vs) ∨ H a = some (.tup vs)) ∧ Paired (Rv K A F) vs xs := by
  unfold Rf.extA at h
  split at h
  · rename_i ps e
    cases h
    obtain ⟨a, vs, rfl, h1, _, h2⟩ := st.tupA r e
    exact ⟨_, _, rfl, .inr h1, h2.up⟩
  · obtain ⟨a, vs, rfl, h1, h2⟩ := st.lstA r h
    exact ⟨_, _, rfl, .inl h1, h2⟩
theorem Paired.snoc1 {α β : Type} {R : α → β → Prop} {xs : List α} {ys : List β} {x : α} {y : β} (p : Paired R xs ys) (r : R x y) : Paired R (xs ++ [x]) (ys ++ [y]) := Paired.app p (.cons r .nil)
theorem sim_bm {m : BM} {xs : List AV} {vs : List V} (st : StR K A F X S H) (rx : Rv K A F v x) (r : Paired (Rv K A F) vs xs) (h : aBM m x xs S Q) (k : Con K A F X Q Qc) : rBM K m v vs H Qc := by
  cases m with
  | append =>
    have h : aApp x xs S Q := h
    unfold aApp at h
    split at h
    · rename_i n y
      obtain ⟨u, rfl, r1⟩ := pairs1 r
      obtain ⟨a, rfl, ha⟩ := rx
      split at h
      · rename_i zs e
        obtain ⟨b, ho, g1, g2, us, rfl, g3⟩ := st.entL e
        rw [ha] at g1; cases g1
        show rAppX (.ref a) [u] H Qc
        unfold rAppX
        simp only [g2]
        refine ⟨by rw [Paired.len g3]; exact h.1, ?_⟩
        exact k _ _ _ _ _ _ h.2 (st.write (entL_ok e) ha (o' := .lst _) ⟨_, rfl, Paired.snoc1 g3 r1⟩) .refl .non
      · exact h.elim
    · exact h.elim
  | extend =>
    have h : aExt x xs S Q := h
    unfold aExt at h
    split at h
    · rename_i n y
      obtain ⟨u, rfl, r1⟩ := pairs1 r
      obtain ⟨a, rfl, ha⟩ := rx
      split at h
      · rename_i zs ys e e2
        obtain ⟨b, ho, g1, g2, us, rfl, g3⟩ := st.entL e
        rw [ha] at g1; cases g1
        obtain ⟨c, ws, rfl, h1, p1⟩ := st.extA r1 e2
        refine ⟨a, c, us, ws, rfl, rfl, g2, h1, by rw [Paired.len g3, Paired.len p1]; exact h.1, ?_⟩
        exact k _ _ _ _ _ _ h.2 (st.write (entL_ok e) ha (o' := .lst _) ⟨_, rfl, Paired.app g3 p1⟩) .refl .non
      · exact h.elim
    · exact h.elim
  | join =>
    have h : aJoin x xs S Q := h
    unfold aJoin at h
    split at h
    · have rx : Rl K F v (.str _) := rx
      cases rx
      obtain ⟨u, rfl, r1⟩ := pairs1 r
      split at h
      · rename_i ys e
        obtain ⟨zs, e1, e2⟩ := Option.bind_eq_some_iff.mp e
        obtain ⟨a, us, rfl, h1, p1⟩ := st.seqA r1 e1
        have e3 := strsP_ok p1 e2
        subst e3
        exact ⟨_, a, ys, rfl, rfl, seqH_sq h1, h.1, k.here st h.2 (.str _)⟩
      · exact h.elim
    · exact h.elim
  | startswith =>
    have h : aStart x xs S Q := h
    unfold aStart at h
    split at h
    · have rx : Rl K F v (.str _) := rx
      cases rx
      obtain ⟨u, rfl, r1⟩ := pairs1 r
      have r1 : Rl K F u (.str _) := r1
      cases r1
      exact k.here st h (.bl _)
    · exact h.elim
  | index =>
    have h : aIndex x xs S Q := h
    unfold aIndex at h
    split at h
    · have rx : Rl K F v (.str _) := rx
      cases rx
      obtain ⟨u, rfl, r1⟩ := pairs1 r
      have r1 : Rl K F u (.str _) := r1
      cases r1
      exact ⟨h.1, k.here st h.2 (.int _)⟩
    · exact h.elim
/-- which built-in type a method's object has -/
def aTyM (S : Sto) (T : String) (x : AV) : Prop := match x with
  | .pv (.str _) => T = "str"
  | .pv (.lst _) => T = "list"
  | .hnd n => (match S[n]? with
    | some (.live (.lst _)) => T = "list"
    | _ => False)
  | _ => False
end
end Rf
set_option Elab.async false
set_option autoImplicit false
set_option linter.all false
set_option maxRecDepth 100000
set_option maxHeartbeats 4000000
/-! Expressions read over trees and the store, and that the heap's reading follows. -/
namespace Rf
open PySem PySem.Spec PyProof.Rows L2
abbrev AEnv := List (Option AV)
abbrev AEr := Addr → List (Str × PV) → Sto → Prop
abbrev ASp := List AV → Sto → AQ → AEr → Prop
abbrev AWX := Addr → List (Str × PV) → AEnv → Sto → Prop
abbrev QT := Bool → Sto → Prop
abbrev QL := List AV → Sto → Prop
structure AD where
  K : Fg
  W : AWX
  sp : List (Nat × ASp)
  gv : List PV
  ex : List Addr
  me : Addr → Str → Option (Nat × ASp)
  mks : List (Addr × Nat × ASp)
  exi : List (Addr × List Str)
structure EnvR (K : Fg) (A : List Addr) (F : Hp) (σ : AEnv) (σc : L2.St) : Prop where
  len : σ.length = σc.length
  at_ : ∀ (i : Nat) w, σ[i]? = some (some w) → ∃ v, σc[i]? = some (some v) ∧ Rv K A F v w
def ErrR (K : Fg) (F : Hp) (d : Option Addr) (gs : List (Str × PV)) : Prop := (d = none ∧ gs = []) ∨ ∃ dx fs, d = some dx ∧ F dx = some (.xd fs) ∧ RlF K F fs gs
def WR (K : Fg) (A : List Addr) (F X : Hp) (W : AWX) (Wc : WX) : Prop := ∀ A' F' S' σ σc H' C gs d, W C gs σ S' → StR K A' F' X S' H' → Ext A F A' F' → EnvR K A' F' σ σc → ErrR K F' d gs → Wc (.ref C) d σc H'
/-- __init__ of an own error whose fields are its arguments -/
def spOex (C : Addr) (fields : List Str) : Sp := fun vs H Q _ => vs.length = fields.length + 1 ∧ ∃ (a : Addr) (ws : List V), vs = .ref a :: ws ∧ ws.length = fields.length ∧ H a = some (exo a C none) ∧
  ∀ d, H d = none → d ≠ a → Q .non (upd (upd H d (exd d (fields.zip ws).reverse)) a (exo a C (some d)))
/-- the promise of a def as the heap has it -/
def lift (K : Fg) (n : Nat) (asp : ASp) : Sp := fun vs H Q E => vs.length = n ∧ ∃ A F X S ws QA EA, StR K A F X S H ∧ Paired (Rv K A F) vs ws ∧ asp ws S QA EA ∧ Con K A F X QA Q ∧
  ∀ A' F' S' H' C d gs, EA C gs S' → StR K A' F' X S' H' → Ext A F A' F' → ErrR K F' d gs → E (.ref C) d H'
structure DynR (ad : AD) (D : Dn) : Prop where
  K : D.K = ad.K
  sp : D.sp = ad.sp.map fun p => lift ad.K p.1 p.2
  gv : ∀ (i : Nat) p, ad.gv[i]? = some p → ∃ v, D.gv[i]? = some v ∧ ∀ F, Rl ad.K F v p
  ex : D.ex = ad.ex
  me : ∀ C m p, ad.me C m = some p → D.me C m = some (lift ad.K p.1 p.2)
  mks : D.mks = ad.mks.map fun p => (p.1, lift ad.K p.2.1 p.2.2)
  exi : D.exi = ad.exi.map fun p => (p.1, spOex p.1 p.2)
structure Bun (ad : AD) (D : Dn) (A : List Addr) (F X : Hp) (S : Sto) (H : Hp) (σ : AEnv) (σc : L2.St) : Prop where
  st : StR ad.K A F X S H
  env : EnvR ad.K A F σ σc
  wr : WR ad.K A F X ad.W D.W
section
variable {ad : AD} {D : Dn} {K : Fg} {A A' A1 : List Addr} {F F' F1 X : Hp} {S S' : Sto} {H H' : Hp} {σ : AEnv} {σc : L2.St} {v : V} {w : AV}
theorem EnvR.mono (e : EnvR K A F σ σc) (x : Ext A F A' F') : EnvR K A' F' σ σc := ⟨e.len, fun i w h => by
  obtain ⟨v, h1, h2⟩ := e.at_ i w h
  exact ⟨v, h1, h2.mono x⟩⟩
theorem WR.mono {W : AWX} {Wc : WX} (e : WR K A F X W Wc) (x : Ext A F A' F') : WR K A' F' X W Wc := fun A2 F2 S' σ σc H' C gs d w st y en er => e A2 F2 S' σ σc H' C gs d w st (x.trans y) en er
theorem Bun.next (b : Bun ad D A F X S H σ σc) (st : StR ad.K A' F' X S' H') (x : Ext A F A' F') : Bun ad D A' F' X S' H' σ σc := ⟨st, b.env.mono x, b.wr.mono x⟩
theorem EnvR.set (e : EnvR K A F σ σc) (i : Nat) (r : Rv K A F v w) : EnvR K A F (σ.set i (some w)) (σc.set i (some v)) := by
  refine ⟨by rw [List.length_set, List.length_set]; exact e.len, fun j u h => ?_⟩
  by_cases hj : i = j
  · subst hj
    have hl : i < σ.length := by
      have z := (List.getElem?_eq_some_iff.mp h).1
      rw [List.length_set] at z
      exact z
    rw [List.getElem?_set_self hl] at h
    cases h
    exact ⟨v, List.getElem?_set_self (by rw [← e.len]; exact hl), r⟩
  · rw [List.getElem?_set_ne hj] at h ⊢
    exact e.at_ j u h
theorem EnvR.clear (e : EnvR K A F σ σc) (i : Nat) : EnvR K A F (σ.set i none) (σc.set i none) := by
  refine ⟨by rw [List.length_set, List.length_set]; exact e.len, fun j u h => ?_⟩
  by_cases hj : i = j
  · subst hj
    have hl : i < σ.length := by
      have z := (List.getElem?_eq_some_iff.mp h).1
      rw [List.length_set] at z
      exact z
    rw [List.getElem?_set_self hl] at h
    cases h
  · rw [List.getElem?_set_ne hj] at h ⊢
    exact e.at_ j u h
def wipeA (σ : AEnv) : List Nat → AEnv
  | [] => σ
  | v :: vs => (wipeA σ vs).set v none
theorem EnvR.wipe (e : EnvR K A F σ σc) : ∀ vs : List Nat, EnvR K A F (wipeA σ vs) (wipe σc vs)
  | [] => e
  | v :: vs => by
    unfold wipeA L2.wipe
    exact (EnvR.wipe e vs).clear v
end
/-! ### what is walked -/
inductive IV where
  | one (x : AV) | two (x y : AV)
structure AIt where
  items : List IV
  ok : Sto → Prop
def okH (S : Sto) (x : AV) (S' : Sto) : Prop := match x with
  | .hnd n => S'[n]? = S[n]?
  | _ => True
def setAll : List Nat → List AV → AEnv → Option AEnv
  | [], [], σ => some σ
  | i :: is, w :: ws, σ => setAll is ws (σ.set i (some w))
  | _, _, _ => none
def bindN (i : Nat) (x : IV) (σ : AEnv) : Option AEnv := match x with
  | .one w => some (σ.set i (some w))
  | _ => none
def bindT (is : List Nat) (x : IV) (σ : AEnv) : Option AEnv := match x with
  | .one (.pv (.tup xs)) => setAll is (xs.map .pv) σ
  | .two a b => setAll is [a, b] σ
  | _ => none
def itemsA (S : Sto) (x : AV) : Option (List IV) := match x with
  | .pv (.str y) => some (y.map fun c => .one (.pv (.str [c])))
  | x => (seqA S x).map fun xs => xs.map .one
def zipIV : List AV → List AV → List IV
  | x :: xs, y :: ys => .two x y :: zipIV xs ys
  | _, _ => []
def enumIV : Nat → List AV → List IV
  | _, [] => []
  | i, x :: xs => .two (.pv (.int (i : Nat))) x :: enumIV (i + 1) xs
def rngIV (lo : Int) (n : Nat) : List IV := (List.range n).map fun i => .one (.pv (.int (lo + (i : Nat))))
/-- [e for .. in items if c] -/
def aLcL (bind : IV → AEnv → Option AEnv) (ok : Sto → Prop) (σ0 : AEnv) (c : AEnv → Sto → QT → Prop) (e : AEnv → Sto → AQ → Prop) : List IV → List AV → Sto → QL → Prop
  | [], acc, S, Q => ok S ∧ Q acc S
  | x :: r, acc, S, Q => ok S ∧ (match bind x σ0 with
    | some σ => c σ S fun b S1 => match b with
      | true => e σ S1 fun y S2 => acc.length < line ∧ aLcL bind ok σ0 c e r (acc ++ [y]) S2 Q
      | false => aLcL bind ok σ0 c e r acc S1 Q
    | none => False)
def insM (S : Sto) : AV → Option (Addr × List (Str × AV)) := insA S
/-- a caught error -/
def errM : AV → Option (Addr × List (Str × PV))
  | .pv (.err C gs) => some (C, gs)
  | _ => none
def blkA (ad : AD) : AD := { ad with W := fun _ _ _ _ => False }
def bl? : AV → Option Bool
  | .pv (.bl b) => some b
  | _ => none
def keysTxt (ks : List Str) : List KC := ks.map fun k => .inr (tl k)
/-- a new instance: one that changes, or, done, a tree -/
def aMk (m : Bool) (C : Addr) (asp : ASp) (ws : List AV) (S : Sto) (Q : AQ) (E : AEr) : Prop := asp (.hnd S.length :: ws) (S ++ [.live (.ins C [])]) (fun r S2 => r = .pv .non ∧ (match m with
  | true => Q (.hnd S.length) S2
  | false => ∃ fs, S2 = S ++ [.live (.ins C (fs.map mk2))] ∧ Q (.pv (.ins C fs)) S)) E
mutual
def aE (ad : AD) : RE → Bool → AEnv → Sto → AQ → Prop
  | .var i, _, σ, S, Q => match σ[i]? with
    | some (some w) => Q w S
    | _ => False
  | .int i, _, _, S, Q => Q (.pv (.int i)) S
  | .bl b, _, _, S, Q => Q (.pv (.bl b)) S
  | .non, _, _, S, Q => Q (.pv .non) S
  | .str x, _, _, S, Q => Q (.pv (.str (tl x))) S
  | .gc i, _, _, S, Q => match ad.gv[i]? with
    | some p => Q (.pv p) S
    | none => False
  | .gf _, _, _, _, _ => False
  | .ty n, _, _, S, Q => Q (.pv (.ty n)) S
  | .bin o a b, m, σ, S, Q => aE ad a false σ S fun x S1 => aE ad b false σ S1 fun y S2 => aBin o m x y S2 Q
  | .neg a, _, σ, S, Q => aE ad a false σ S fun x S1 => aNeg x S1 Q
  | .cmp o a b, _, σ, S, Q => aE ad a false σ S fun x S1 => aE ad b false σ S1 fun y S2 => aCmp o x y S2 Q
  | .chain o o' a b c, _, σ, S, Q => aE ad a false σ S fun x S1 => aE ad b false σ S1 fun y S2 => aCmp o x y S2 fun z S3 => match bl? z with
    | some true => aE ad c false σ S3 fun u S4 => aCmp o' y u S4 Q
    | some false => Q (.pv (.bl false)) S3
    | none => False
  | .andV a b, m, σ, S, Q => aE ad a false σ S fun x S1 => match bl? x with
    | some true => aE ad b m σ S1 Q
    | some false => Q (.pv (.bl false)) S1
    | none => False
  | .orV a b, m, σ, S, Q => aE ad a false σ S fun x S1 => match bl? x with
    | some false => aE ad b m σ S1 Q
    | some true => Q (.pv (.bl true)) S1
    | none => False
  | .notV a, _, σ, S, Q => aE ad a false σ S fun x S1 => aTr x S1 fun k S2 => Q (.pv (.bl (!k))) S2
  | .ifE t a b, m, σ, S, Q => aT ad t σ S fun c S1 => match c with
    | true => aE ad a m σ S1 Q
    | false => aE ad b m σ S1 Q
  | .call i as, _, σ, S, Q => match ad.sp[i]? with
    | some p => aA ad as σ S fun ws S1 => ws.length = p.1 ∧ p.2 ws S1 Q fun C gs S' => ad.W C gs σ S'
    | none => False
  | .cb f as, _, σ, S, Q => aA ad as σ S fun ws S1 => aBF ad.K f ws S1 Q
  | .ct f as, m, σ, S, Q => aA ad as σ S fun ws S1 => aTF m f ws S1 Q
  | .mt b o as, _, σ, S, Q => aE ad o false σ S fun x S1 => aTyM S1 b.ty x ∧ aA ad as σ S1 fun ws S2 => aBM b x ws S2 Q
  | .ix a b, _, σ, S, Q => aE ad a false σ S fun x S1 => aE ad b false σ S1 fun y S2 => aIx x y S2 Q
  | .sl a lo hi, m, σ, S, Q => aE ad a false σ S fun x S1 => aO ad lo σ S1 fun l S2 => aO ad hi σ S2 fun u S3 => aSl m x l u S3 Q
  | .lst as, m, σ, S, Q => aA ad as σ S fun ws S1 => ws.length ≤ line ∧ alc m (.lst ws) S1 Q
  | .tup as, _, σ, S, Q => aA ad as σ S fun ws S1 => match pvs ws with
    | some ps => ps.length ≤ line ∧ Q (.pv (.tup ps)) S1
    | none => False
  | .dnew, m, _, S, Q => alc m (.dic []) S Q
  | .lc own tg it c e, m, σ, S, Q => aI ad it σ S fun ai S1 => tg ∈ own.map (·.2) ∧ aLcL (bindN tg) ai.ok (wipeA σ (own.map (·.2))) (fun σ S Q => aC (blkA ad) c σ S Q) (fun σ S Q => aE (blkA ad) e false σ S Q) ai.items [] S1 fun acc S2 => alc m (.lst acc) S2 Q
  | .lcT own tgs it c e, m, σ, S, Q => aI ad it σ S fun ai S1 => (∀ i ∈ tgs, i ∈ own.map (·.2)) ∧ aLcL (bindT tgs) ai.ok (wipeA σ (own.map (·.2))) (fun σ S Q => aC (blkA ad) c σ S Q) (fun σ S Q => aE (blkA ad) e false σ S Q) ai.items [] S1 fun acc S2 => alc m (.lst acc) S2 Q
  | .callE _ _, _, _, _, _ => False
  | .hnd e, _, σ, S, Q => aE ad e true σ S Q
  | .noE, _, _, _, _ => False
  | .fld a x, _, σ, S, Q => aE ad a false σ S fun y S1 => match insM S1 y with
    | some (C, fs) => (Cls ad.K C ∧ NoAttr ad.K C x) ∧ (match fs.lookup x with
      | some w => Q w S1
      | none => False)
    | none => match errM y with
      | some (C, gs) => (ExcC ad.K C ∧ NoAttr ad.K C x) ∧ (match gs.lookup x with
        | some p => Q (.pv p) S1
        | none => False)
      | none => False
  | .own m o as, _, σ, S, Q => aE ad o false σ S fun x S1 => match insM S1 x with
    | some (C, fs) => fs.lookup m = none ∧ (match ad.me C m with
      | some p => aA ad as σ S1 fun ws S2 => ws.length + 1 = p.1 ∧ p.2 (x :: ws) S2 Q fun C gs S' => ad.W C gs σ S'
      | none => False)
    | none => False
  | .mk i as, m, σ, S, Q => match ad.mks[i]? with
    | some (C, n, asp) => aA ad as σ S fun ws S1 => ws.length + 1 = n ∧ aMk m C asp ws S1 Q fun C gs S' => ad.W C gs σ S'
    | none => False
  | .ddsp ks as, m, σ, S, Q => aA ad as σ S fun ws S1 => ws.length = ks.length ∧ ks.length ≤ 15 ∧ alc m (.dic (((keysTxt ks).zip ws).foldl (fun acc kv => putL acc kv.1 kv.2) [])) S1 Q
def aA (ad : AD) : RA → AEnv → Sto → QL → Prop
  | .nil, _, S, Q => Q [] S
  | .cons a r, σ, S, Q => aE ad a false σ S fun x S1 => aA ad r σ S1 fun xs S2 => Q (x :: xs) S2
def aO (ad : AD) : RO → AEnv → Sto → (Option Int → Sto → Prop) → Prop
  | .no, _, S, Q => Q none S
  | .yes a, σ, S, Q => aE ad a false σ S fun x S1 => match x with
    | .pv (.int i) => Q (some i) S1
    | _ => False
def aT (ad : AD) : RT → AEnv → Sto → QT → Prop
  | .tru e, σ, S, Q => aE ad e false σ S fun x S1 => aTr x S1 Q
  | .cmp o a b, σ, S, Q => aE ad a false σ S fun x S1 => aE ad b false σ S1 fun y S2 => aCmp o x y S2 fun z S3 => match bl? z with
    | some k => Q k S3
    | none => False
  | .chain o o' a b c, σ, S, Q => aE ad a false σ S fun x S1 => aE ad b false σ S1 fun y S2 => aCmp o x y S2 fun z S3 => match bl? z with
    | some true => aE ad c false σ S3 fun u S4 => aCmp o' y u S4 fun z S5 => match bl? z with
      | some k => Q k S5
      | none => False
    | some false => Q false S3
    | none => False
  | .and a b, σ, S, Q => aT ad a σ S fun c S1 => match c with
    | true => aT ad b σ S1 Q
    | false => Q false S1
  | .or a b, σ, S, Q => aT ad a σ S fun c S1 => match c with
    | true => Q true S1
    | false => aT ad b σ S1 Q
  | .not a, σ, S, Q => aT ad a σ S fun c S1 => Q (!c) S1
def aC (ad : AD) : RC → AEnv → Sto → QT → Prop
  | .no, _, S, Q => Q true S
  | .yes t, σ, S, Q => aT ad t σ S Q
def aI (ad : AD) : RI → AEnv → Sto → (AIt → Sto → Prop) → Prop
  | .any e, σ, S, R => aE ad e false σ S fun x S1 => match itemsA S1 x with
    | some xs => R ⟨xs, okH S1 x⟩ S1
    | none => False
  | .range1 a, σ, S, R => aE ad a false σ S fun x S1 => match x with
    | .pv (.int j) => (-(2 ^ 62) ≤ j ∧ j < 2 ^ 62) ∧ R ⟨rngIV 0 j.toNat, fun _ => True⟩ S1
    | _ => False
  | .range2 a b, σ, S, R => aE ad a false σ S fun x S1 => aE ad b false σ S1 fun y S2 => match x, y with
    | .pv (.int i), .pv (.int j) => (-(2 ^ 62) ≤ i ∧ i < 2 ^ 62 ∧ -(2 ^ 62) ≤ j ∧ j < 2 ^ 62) ∧ R ⟨rngIV i (j - i).toNat, fun _ => True⟩ S2
    | _, _ => False
  | .zip a b, σ, S, R => aE ad a false σ S fun x S1 => aE ad b false σ S1 fun y S2 => match seqA S2 x, seqA S2 y with
    | some xs, some ys => R ⟨zipIV xs ys, fun S' => okH S2 x S' ∧ okH S2 y S'⟩ S2
    | _, _ => False
  | .enum a, σ, S, R => aE ad a false σ S fun x S1 => match lstB S1 x with
    | some xs => R ⟨enumIV 0 xs, okH S1 x⟩ S1
    | none => False
end
end Rf
set_option Elab.async false
set_option autoImplicit false
set_option linter.all false
set_option maxRecDepth 100000
set_option maxHeartbeats 8000000
/-! The heap's reading of an expression follows the reading over trees. -/
namespace Rf
open PySem PySem.Spec PyProof.Rows L2
def ConT (K : Fg) (A : List Addr) (F X : Hp) (Q : QT) (Qc : Bool → Hp → Prop) : Prop := ∀ A' F' S' H' b, Q b S' → StR K A' F' X S' H' → Ext A F A' F' → Qc b H'
def ConL (K : Fg) (A : List Addr) (F X : Hp) (Q : QL) (Qc : List V → Hp → Prop) : Prop := ∀ A' F' S' H' vs ws, Q ws S' → StR K A' F' X S' H' → Ext A F A' F' → Paired (Rv K A' F') vs ws → Qc vs H'
def ConO (K : Fg) (A : List Addr) (F X : Hp) (Q : Option Int → Sto → Prop) (Qc : Option Int → Hp → Prop) : Prop := ∀ A' F' S' H' o, Q o S' → StR K A' F' X S' H' → Ext A F A' F' → Qc o H'
/-- the value that a turn gives -/
def RvI (K : Fg) (A : List Addr) (F H : Hp) (v : V) : IV → Prop
  | .one w => Rv K A F v w
  | .two a b => ∃ p x y, v = .ref p ∧ H p = some (.tup [x, y]) ∧ Rv K A F x a ∧ Rv K A F y b
/-- an iterator goes through the items -/
def ItOK (J : It) (ai : AIt) (K : Fg) (A : List Addr) (F : Hp) : Prop := ∀ (i : Nat) A' F' X' S' H', Ext A F A' F' → StR K A' F' X' S' H' → ai.ok S' → i ≤ ai.items.length →
  (∀ x, ai.items[i]? = some x → J.go i H' ∧ ∀ v H'', J.yld i H' v H'' → ∃ F'', StR K A' F'' X' S' H'' ∧ Ext A' F' A' F'' ∧ RvI K A' F'' H'' v x) ∧ (i = ai.items.length → J.stop i H')
section
variable {ad : AD} {D : Dn} {K : Fg} {A A' A1 : List Addr} {F F' F1 X : Hp} {S S' : Sto} {H H' : Hp} {σ : AEnv} {σc : L2.St} {v u : V} {w x y : AV} {Q : AQ} {Qc : VK}
theorem bl?_ok {b : Bool} (r : Rv K A F v w) (h : bl? w = some b) : v = .bl b := by
  unfold bl? at h
  split at h
  · cases h
    have r : Rl K F v (.bl b) := r
    cases r
    rfl
  · cases h
theorem lookR : ∀ {fs : List (Str × V)} {gs : List (Str × PV)} (p : RlF K F fs gs) (f : Str) {q : PV}, gs.lookup f = some q → ∃ v, fs.lookup f = some v ∧ Rl K F v q
  | [], [], _, f, q, h => by cases h
  | [], _ :: _, p, _, _, _ => nomatch p
  | _ :: _, [], p, _, _, _ => nomatch p
  | (a, v) :: r, (b, u) :: t, p, f, q, h => by
    cases p with
    | cons h1 h2 =>
      rw [List.lookup_cons] at h
      cases hf : f == a with
      | true =>
        rw [hf] at h
        cases h
        exact ⟨v, by rw [List.lookup_cons, hf], h1⟩
      | false =>
        rw [hf] at h
        obtain ⟨v', e, r'⟩ := lookR h2 f h
        exact ⟨v', by rw [List.lookup_cons, hf]; exact e, r'⟩
theorem lookF {fs : List (Str × V)} {gs : List (Str × AV)} (p : Paired (fun p q => p.1 = q.1 ∧ Rv K A F p.2 q.2) fs gs) (f : Str) : (gs.lookup f = none → fs.lookup f = none) ∧ ∀ w, gs.lookup f = some w → ∃ v, fs.lookup f = some v ∧ Rv K A F v w := by
  induction p with
  | nil => exact ⟨fun _ => rfl, fun w h => by cases h⟩
  | @cons a b as bs hd t ih =>
    obtain ⟨a1, a2⟩ := a
    obtain ⟨b1, b2⟩ := b
    have e : a1 = b1 := hd.1
    subst e
    cases hf : f == a1 with
    | true =>
      refine ⟨fun h => ?_, fun w h => ?_⟩
      · rw [List.lookup_cons, hf] at h
        cases h
      rw [List.lookup_cons, hf] at h
      cases h
      exact ⟨a2, by rw [List.lookup_cons, hf], hd.2⟩
    | false =>
      refine ⟨fun h => ?_, fun w h => ?_⟩
      · rw [List.lookup_cons, hf] at h ⊢
        exact ih.1 h
      · rw [List.lookup_cons, hf] at h
        rw [List.lookup_cons, hf]
        exact ih.2 w h
theorem aTyM_ok {T : String} (st : StR K A F X S H) (r : Rv K A F v w) (h : aTyM S T w) : tyV K T v H := by
  unfold aTyM at h
  split at h
  · have r : Rl K F v (.str _) := r
    cases r
    exact h
  · have r : Rl K F v (.lst _) := r
    cases r with
    | lst h1 h2 =>
      rcases st.sub _ _ h1 with z | ⟨z, _⟩
      · exact .inl ⟨h, _, .inl (.inl z)⟩
      · cases z
  · rename_i n
    obtain ⟨a, rfl, ha⟩ := r
    split at h
    · rename_i xs e
      obtain ⟨b, ho, g1, _, _, g2, vs, rfl, g3⟩ := st.live _ _ e
      exact .inl ⟨h, vs, .inl (.inl (by rw [ha] at g1; cases g1; exact g2))⟩
    · exact h.elim
  · exact h.elim
/-! ### walks -/
theorem entR_ok {n : Nat} {S S' : Sto} (h : S'[n]? = S[n]?) : entR S' n = entR S n := by
  unfold entR
  rw [h]
theorem lstB_ok {xs : List AV} (h : lstB S w = some xs) (o : okH S w S') : lstB S' w = some xs := by
  cases w with
  | pv p => cases p <;> exact h
  | hnd n =>
    have o : S'[n]? = S[n]? := o
    have h : (match entR S n with
      | some (.lst xs) => some xs
      | _ => none) = some xs := h
    rw [← entR_ok o] at h
    exact h
theorem seqA_ok {xs : List AV} (h : seqA S w = some xs) (o : okH S w S') : seqA S' w = some xs := by
  have h : (match tupA w with
    | some xs => some (xs.map .pv)
    | none => lstB S w) = some xs := h
  show (match tupA w with
    | some xs => some (xs.map .pv)
    | none => lstB S' w) = some xs
  cases e : tupA w with
  | some ps => rw [e] at h; exact h
  | none =>
    rw [e] at h
    exact lstB_ok h o
theorem get_map {α β : Type} {f : α → β} {l : List α} {i : Nat} {y : β} (h : (l.map f)[i]? = some y) : ∃ x, l[i]? = some x ∧ f x = y := by
  rw [List.getElem?_map] at h
  obtain ⟨x, h1, h2⟩ := Option.map_eq_some_iff.mp h
  exact ⟨x, h1, h2⟩
theorem itOK_lst {a : Addr} {xs : List AV} {ok : Sto → Prop} (hx : ∀ A' F' X' S' H', Ext A F A' F' → StR K A' F' X' S' H' → ok S' → ∃ vs, SqL K H' a vs ∧ Paired (Rv K A' F') vs xs) : ItOK (Itl K a) ⟨xs.map .one, ok⟩ K A F := by
  intro i A' F' X' S' H' ex st o hi
  obtain ⟨vs, q, p⟩ := hx A' F' X' S' H' ex st o
  have hl : vs.length = xs.length := Paired.len p
  have W := walk_list (K := K) (a := a) (xs := vs)
  refine ⟨fun z hz => ?_, fun e => ?_⟩
  · obtain ⟨w, hw, rfl⟩ := get_map hz
    have hn : i < xs.length := (List.getElem?_eq_some_iff.mp hw).1
    refine ⟨W.goes i H' (by omega) q, fun v H'' y => ?_⟩
    obtain ⟨e, hv⟩ := W.yields i H' v H'' (by omega) q y
    subst e
    obtain ⟨v', e1, r⟩ := Paired.get p hw
    rw [hv] at e1
    cases e1
    exact ⟨F', st, .refl, r⟩
  · have e' : i = vs.length := by
      have : i = (xs.map IV.one).length := e
      rw [List.length_map] at this
      omega
    rw [e']
    exact W.stops H' q
theorem itOK_tup {a : Addr} {xs : List AV} {ok : Sto → Prop} (hx : ∀ A' F' X' S' H', Ext A F A' F' → StR K A' F' X' S' H' → ok S' → ∃ vs, SqT K H' a vs ∧ Paired (Rv K A' F') vs xs) : ItOK (Itt K a) ⟨xs.map .one, ok⟩ K A F := by
  intro i A' F' X' S' H' ex st o hi
  obtain ⟨vs, q, p⟩ := hx A' F' X' S' H' ex st o
  have hl : vs.length = xs.length := Paired.len p
  have W := walk_tup (K := K) (a := a) (xs := vs)
  refine ⟨fun z hz => ?_, fun e => ?_⟩
  · obtain ⟨w, hw, rfl⟩ := get_map hz
    have hn : i < xs.length := (List.getElem?_eq_some_iff.mp hw).1
    refine ⟨W.goes i H' (by omega) q, fun v H'' y => ?_⟩
    obtain ⟨e, hv⟩ := W.yields i H' v H'' (by omega) q y
    subst e
    obtain ⟨v', e1, r⟩ := Paired.get p hw
    rw [hv] at e1
    cases e1
    exact ⟨F', st, .refl, r⟩
  · have e' : i = vs.length := by
      have : i = (xs.map IV.one).length := e
      rw [List.length_map] at this
      omega
    rw [e']
    exact W.stops H' q
theorem itOK_str {z : Str} {y : Cs} (hz : z = sOf y) : ItOK (Its z) ⟨y.map fun c => .one (.pv (.str [c])), fun _ => True⟩ K A F := by
  intro i A' F' X' S' H' ex st o hi
  subst hz
  refine ⟨fun x hx => ?_, fun e => ?_⟩
  · obtain ⟨c, hc, rfl⟩ := get_map hx
    have hn : i < y.length := (List.getElem?_eq_some_iff.mp hc).1
    have hs : (sOf y).cps[i]? = some c := by
      rw [its_at]
      exact hc
    refine ⟨by show i < (sOf y).cps.size; rw [its_sz]; exact hn, fun v H'' g => ?_⟩
    obtain ⟨e, d, hd, ev⟩ := g
    subst e
    rw [hs] at hd
    cases hd
    subst ev
    exact ⟨F', st, .refl, .str [c]⟩
  · have e' : i = y.length := by
      have : i = (y.map fun c => IV.one (.pv (.str [c]))).length := e
      rw [List.length_map] at this
      exact this
    show (sOf y).cps.size ≤ i
    rw [its_sz, e']
    exact Nat.le_refl _
theorem itOK_rng {lo : Int} {n : Nat} : ItOK (Itr lo n) ⟨rngIV lo n, fun _ => True⟩ K A F := by
  intro i A' F' X' S' H' ex st o hi
  refine ⟨fun x hx => ?_, fun e => ?_⟩
  · obtain ⟨c, hc, rfl⟩ := get_map hx
    obtain ⟨hn, hc'⟩ := List.getElem?_eq_some_iff.mp hc
    rw [List.getElem_range] at hc'
    subst hc'
    rw [List.length_range] at hn
    refine ⟨hn, fun v H'' g => ?_⟩
    obtain ⟨e, ev⟩ := g
    subst e ev
    exact ⟨F', st, .refl, .int _⟩
  · show n ≤ i
    have : i = (rngIV lo n).length := e
    unfold rngIV at this
    rw [List.length_map, List.length_range] at this
    omega
theorem sim_any {Ra : AIt → Sto → Prop} {Rc : It → Hp → Prop} (st : StR K A F X S H) (r : Rv K A F v x) (h : match itemsA S x with
    | some xs => Ra ⟨xs, okH S x⟩ S
    | none => False) (k : ∀ ai J, Ra ai S → ItOK J ai K A F → Rc J H) : iAny K (fun σ H Q => Q v H) [] H Rc := by
  split at h
  · rename_i xs e
    unfold itemsA at e
    split at e
    · cases e
      have r : Rl K F v (.str _) := r
      cases r
      exact k _ _ h fun i A' F' X' S' H' ex st' o hi => itOK_str rfl i A' F' X' S' H' ex st' trivial hi
    · obtain ⟨ys, e2, rfl⟩ := Option.map_eq_some_iff.mp e
      have e2' := e2
      unfold seqA at e2'
      split at e2'
      · rename_i ps e3
        cases e2'
        obtain ⟨a, vs, rfl, h1, h2, h3⟩ := st.tupA r e3
        show (match H a with
          | some (.lst _) => Rc (Itl K a) H
          | some (.frz _ (.lst _)) => Rc (Itl K a) H
          | some (.frz o (.dK kvs)) => Rc (Itk a o kvs) H
          | some (.frz o (.dT kvs)) => Rc (Itkt a o kvs) H
          | _ => ∃ xs, SqT K H a xs ∧ Rc (Itt K a) H)
        rw [h1]
        refine ⟨vs, .inl (.inl h1), k _ _ h (itOK_tup fun A' F' X' S' H' ex st' o => ?_)⟩
        obtain ⟨a', vs', e4, h1', _, h3'⟩ := st'.tupA (r.mono ex) e3
        cases e4
        exact ⟨vs', .inl (.inl h1'), h3'.up⟩
      · rename_i e3
        obtain ⟨a, vs, rfl, h1, h3⟩ := st.lstB r e2'
        have key : Rc (Itl K a) H := k _ _ h (itOK_lst fun A' F' X' S' H' ex st' o => by
          obtain ⟨a', vs', e4, h1', h3'⟩ := st'.lstB (r.mono ex) (lstB_ok e2' o)
          cases e4
          exact ⟨vs', lstH_sq h1', h3'⟩)
        show (match H a with
          | some (.lst _) => Rc (Itl K a) H
          | some (.frz _ (.lst _)) => Rc (Itl K a) H
          | some (.frz o (.dK kvs)) => Rc (Itk a o kvs) H
          | some (.frz o (.dT kvs)) => Rc (Itkt a o kvs) H
          | _ => ∃ xs, SqT K H a xs ∧ Rc (Itt K a) H)
        unfold lstH at h1
        split at h1
        · rename_i e5; rw [e5]; exact key
        · rename_i e5; rw [e5]; exact key
        · cases h1
  · exact h.elim
theorem seqB_of {a : Addr} {vs : List V} (h : seqH H a = some vs) : ∃ k, SqB K k H a vs := by
  rcases seqH_sq (K := K) h with z | z
  · exact ⟨true, z⟩
  · exact ⟨false, z⟩
end
end Rf
set_option Elab.async false
set_option autoImplicit false
set_option linter.all false
set_option maxRecDepth 100000
set_option maxHeartbeats 8000000
namespace Rf
open PySem PySem.Spec PyProof.Rows L2
section
variable {ad : AD} {D : Dn} {K : Fg} {A A' A1 : List Addr} {F F' F1 X : Hp} {S S' : Sto} {H H' : Hp} {σ : AEnv} {σc : L2.St} {v u : V} {w x y : AV} {Q : AQ} {Qc : VK}
theorem zipIV_len : ∀ (xs ys : List AV), (zipIV xs ys).length = min xs.length ys.length
  | [], _ => by simp [zipIV]
  | _ :: _, [] => by simp [zipIV]
  | x :: xs, y :: ys => by
    unfold zipIV
    rw [List.length_cons, List.length_cons, List.length_cons, zipIV_len xs ys]
    omega
theorem zipIV_get : ∀ {xs ys : List AV} {i : Nat} {z : IV}, (zipIV xs ys)[i]? = some z → ∃ x y, z = .two x y ∧ xs[i]? = some x ∧ ys[i]? = some y
  | [], _, _, _, h => by simp [zipIV] at h
  | _ :: _, [], _, _, h => by simp [zipIV] at h
  | x :: xs, y :: ys, 0, z, h => by
    unfold zipIV at h
    simp at h
    exact ⟨x, y, h.symm, rfl, rfl⟩
  | x :: xs, y :: ys, i + 1, z, h => by
    unfold zipIV at h
    obtain ⟨a, b, h1, h2, h3⟩ := zipIV_get (i := i) (by simpa using h)
    exact ⟨a, b, h1, by simpa using h2, by simpa using h3⟩
theorem enumIV_len : ∀ (k : Nat) (xs : List AV), (enumIV k xs).length = xs.length
  | _, [] => rfl
  | k, x :: xs => by
    unfold enumIV
    rw [List.length_cons, List.length_cons, enumIV_len (k + 1) xs]
theorem enumIV_get : ∀ {k : Nat} {xs : List AV} {i : Nat} {z : IV}, (enumIV k xs)[i]? = some z → ∃ x, z = .two (.pv (.int ((k + i : Nat) : Int))) x ∧ xs[i]? = some x
  | _, [], _, _, h => by simp [enumIV] at h
  | k, x :: xs, 0, z, h => by
    unfold enumIV at h
    simp at h
    exact ⟨x, by rw [← h]; simp, rfl⟩
  | k, x :: xs, i + 1, z, h => by
    unfold enumIV at h
    obtain ⟨a, h1, h2⟩ := enumIV_get (k := k + 1) (i := i) (by simpa using h)
    exact ⟨a, by rw [h1]; congr 4; omega, by simpa using h2⟩
theorem itOK_zip {k l : Bool} {a b : Addr} {xs ys : List AV} {ok : Sto → Prop} (hx : ∀ A' F' X' S' H', Ext A F A' F' → StR K A' F' X' S' H' → ok S' → ∃ vs, SqB K k H' a vs ∧ Paired (Rv K A' F') vs xs)
    (hy : ∀ A' F' X' S' H', Ext A F A' F' → StR K A' F' X' S' H' → ok S' → ∃ vs, SqB K l H' b vs ∧ Paired (Rv K A' F') vs ys) : ItOK (ItzX K k l a b) ⟨zipIV xs ys, ok⟩ K A F := by
  intro i A' F' X' S' H' ex st o hi
  obtain ⟨vs, q, p⟩ := hx A' F' X' S' H' ex st o
  obtain ⟨us, q', p'⟩ := hy A' F' X' S' H' ex st o
  have hl : vs.length = xs.length := Paired.len p
  have hl' : us.length = ys.length := Paired.len p'
  have hi : i ≤ (zipIV xs ys).length := hi
  rw [zipIV_len] at hi
  refine ⟨fun z hz => ?_, fun e => ?_⟩
  · obtain ⟨x, y, rfl, h1, h2⟩ := zipIV_get (show (zipIV xs ys)[i]? = some z from hz)
    obtain ⟨v1, e1, r1⟩ := Paired.get p h1
    obtain ⟨v2, e2, r2⟩ := Paired.get p' h2
    refine ⟨⟨vs, us, v1, v2, q, q', e1, e2⟩, fun v H'' g => ?_⟩
    obtain ⟨pp, w1, w2, rfl, hp, rfl, g1, g2⟩ := g
    have f1 := g1 vs q
    have f2 := g2 us q'
    rw [e1] at f1
    rw [e2] at f2
    cases f1
    cases f2
    obtain ⟨st2, ex2⟩ := st.tree (ho := .tup [v1, v2]) hp
    exact ⟨_, st2, ex2, ⟨pp, v1, v2, rfl, upd_same, r1.mono ex2, r2.mono ex2⟩⟩
  · have e : i = (zipIV xs ys).length := e
    rw [zipIV_len] at e
    exact ⟨vs, us, q, q', by omega, by omega, by omega⟩
theorem itOK_enum {a : Addr} {xs : List AV} {ok : Sto → Prop} (hx : ∀ A' F' X' S' H', Ext A F A' F' → StR K A' F' X' S' H' → ok S' → ∃ vs, SqL K H' a vs ∧ Paired (Rv K A' F') vs xs) : ItOK (Ite K a) ⟨enumIV 0 xs, ok⟩ K A F := by
  intro i A' F' X' S' H' ex st o hi
  obtain ⟨vs, q, p⟩ := hx A' F' X' S' H' ex st o
  have hl : vs.length = xs.length := Paired.len p
  refine ⟨fun z hz => ?_, fun e => ?_⟩
  · obtain ⟨x, rfl, h1⟩ := enumIV_get (show (enumIV 0 xs)[i]? = some z from hz)
    obtain ⟨v1, e1, r1⟩ := Paired.get p h1
    refine ⟨⟨vs, v1, q, e1⟩, fun v H'' g => ?_⟩
    obtain ⟨pp, w1, rfl, hp, rfl, g1⟩ := g
    have f1 := g1 vs q
    rw [e1] at f1
    cases f1
    obtain ⟨st2, ex2⟩ := st.tree (ho := .tup [.int (i : Nat), v1]) hp
    refine ⟨_, st2, ex2, ⟨pp, .int (i : Nat), v1, rfl, upd_same, ?_, r1.mono ex2⟩⟩
    rw [Nat.zero_add]
    exact .int _
  · have e : i = (enumIV 0 xs).length := e
    rw [enumIV_len] at e
    exact ⟨vs, q, by omega⟩
/-! ### targets -/
theorem setAll_ok : ∀ {is : List Nat} {ws : List AV} {vs : List V} {σ σ' : AEnv} {σc : L2.St} {Qc : L2.St → Hp → Prop}, setAll is ws σ = some σ' → Paired (Rv K A F) vs ws → EnvR K A F σ σc → (∀ σc', EnvR K A F σ' σc' → Qc σc' H) → gNames is vs σc H Qc
  | [], [], _, σ, σ', σc, Qc, h, .nil, en, k => by cases h; exact ⟨rfl, k _ en⟩
  | i :: is, w :: ws, _, σ, σ', σc, Qc, h, .cons r t, en, k => by
    refine ⟨_, _, rfl, ?_⟩
    show gNames is _ (σc.set i (some _)) H Qc
    exact setAll_ok (is := is) (ws := ws) h t (en.set i r) k
  | [], _ :: _, _, _, _, _, _, h, _, _, _ => by cases h
  | _ :: _, [], _, _, _, _, _, h, _, _, _ => by cases h
theorem setAll_len : ∀ {is : List Nat} {ws : List AV} {σ σ' : AEnv}, setAll is ws σ = some σ' → is.length = ws.length
  | [], [], _, _, _ => rfl
  | i :: is, w :: ws, σ, σ', h => by rw [List.length_cons, List.length_cons, setAll_len (is := is) (ws := ws) h]
  | [], _ :: _, _, _, h => by cases h
  | _ :: _, [], _, _, h => by cases h
theorem bindN_ok {i : Nat} {z : IV} {σ' : AEnv} {Qc : L2.St → Hp → Prop} (h : bindN i z σ = some σ') (r : RvI K A F H v z) (en : EnvR K A F σ σc) (k : ∀ σc', EnvR K A F σ' σc' → Qc σc' H) : gName i v σc H Qc := by
  cases z with
  | one w => cases h; exact k _ (en.set i r)
  | two a b => cases h
theorem bindT_ok {is : List Nat} {z : IV} {σ' : AEnv} {Qc : L2.St → Hp → Prop} (st : StR K A F X S H) (h : bindT is z σ = some σ') (r : RvI K A F H v z) (en : EnvR K A F σ σc) (k : ∀ σc', EnvR K A F σ' σc' → Qc σc' H) : gTup K is.length (gNames is) v σc H Qc := by
  cases z with
  | one w =>
    unfold bindT at h
    split at h
    · rename_i xs e
      cases e
      have r : Rv K A F v (.pv (.tup xs)) := r
      obtain ⟨a, vs, rfl, h1, _, h2⟩ := st.tupA r (xs := xs) rfl
      have l := setAll_len h
      have l2 := Paired.len (h2.up (A := A))
      exact ⟨a, vs, rfl, .inl (.inl h1), by omega, setAll_ok h h2.up en k⟩
    · rename_i e; cases e
    · cases h
  | two a b =>
    obtain ⟨p, x, y, rfl, h1, r1, r2⟩ := r
    have h : setAll is [a, b] σ = some σ' := h
    have l := setAll_len h
    exact ⟨p, [x, y], rfl, .inl (.inl h1), l.symm, setAll_ok h (.cons r1 (.cons r2 .nil)) en k⟩
/-! ### comprehensions -/
theorem wipe_set (vs : List Nat) {i : Nat} (h : i ∈ vs) (z : Option V) : ∀ σ : L2.St, wipe (σ.set i z) vs = wipe σ vs := by
  induction vs with
  | nil => cases h
  | cons a vs ih =>
    intro σ
    unfold wipe
    by_cases hi : i ∈ vs
    · rw [ih hi]
    · have e : i = a := by
        rcases List.mem_cons.mp h with e | e
        · exact e
        · exact absurd e hi
      subst e
      have key : ∀ (us : List Nat) (σ : L2.St), i ∉ us → wipe (σ.set i z) us = (wipe σ us).set i z := by
        intro us
        induction us with
        | nil => intro σ _; rfl
        | cons b us ih2 =>
          intro σ hb
          have hne : i ≠ b := fun q => hb (by rw [q]; exact List.mem_cons_self)
          unfold wipe
          rw [ih2 σ fun q => hb (List.mem_cons_of_mem _ q), List.set_comm _ _ hne]
      rw [key vs σ hi, List.set_set]
theorem wipe_wipe (σ : L2.St) (vs : List Nat) : wipe (wipe σ vs) vs = wipe σ vs := by
  have h : ∀ us : List Nat, (∀ i ∈ us, i ∈ vs) → ∀ σ : L2.St, wipe (wipe σ us) vs = wipe σ vs := by
    intro us
    induction us with
    | nil => intro _ σ; rfl
    | cons a us ih =>
      intro hm σ
      show wipe ((wipe σ us).set a none) vs = _
      rw [wipe_set vs (hm a List.mem_cons_self) none, ih fun i hi => hm i (List.mem_cons_of_mem _ hi)]
  exact h vs (fun _ h => h) σ
theorem gNames_wipe {vs : List Nat} : ∀ {is : List Nat} {us : List V} {σ : L2.St} {Qc : L2.St → Hp → Prop}, (∀ i ∈ is, i ∈ vs) → gNames is us σ H (fun σ2 H2 => Qc σ2 H2) → gNames is us σ H fun σ2 H2 => wipe σ2 vs = wipe σ vs ∧ Qc σ2 H2
  | [], us, σ, Qc, hm, ⟨e, q⟩ => ⟨e, rfl, q⟩
  | i :: is, us, σ, Qc, hm, ⟨v, r, e, q⟩ => by
    refine ⟨v, r, e, ?_⟩
    have z := gNames_wipe (vs := vs) (is := is) (us := r) (σ := σ.set i (some v)) (Qc := Qc) (fun j hj => hm j (List.mem_cons_of_mem _ hj)) q
    rw [wipe_set vs (hm i List.mem_cons_self)] at z
    exact z
/-- the loop of a comprehension -/
theorem sim_lcL {J : It} {ai : AIt} {vs : List Nat} {g : TG} {bind : IV → AEnv → Option AEnv} {cA : AEnv → Sto → QT → Prop} {eA : AEnv → Sto → AQ → Prop} {tt : TT} {te : TE} {Q2 : QL} {Qd : V → Hp → Prop} {X0 : Hp} {D0 : Addr}
    (io : ItOK J ai K A F) (en : EnvR K A F σ σc) (xD : X0 D0 = none)
    (hg : ∀ A' F' X' S' H' z v σ' (R : L2.St → Hp → Prop), StR K A' F' X' S' H' → Ext A F A' F' → bind z (wipeA σ vs) = some σ' → RvI K A' F' H' v z → (∀ σc', EnvR K A' F' σ' σc' → R σc' H') → g v (wipe σc vs) H' fun σ2 H2 => wipe σ2 vs = wipe σc vs ∧ R σ2 H2)
    (ht : ∀ A' F' X' S' H' σ' σc' QA QC, StR K A' F' X' S' H' → Ext A F A' F' → EnvR K A' F' σ' σc' → cA σ' S' QA → ConT K A' F' X' QA QC → tt σc' H' QC)
    (he : ∀ A' F' X' S' H' σ' σc' QA QC, StR K A' F' X' S' H' → Ext A F A' F' → EnvR K A' F' σ' σc' → eA σ' S' QA → Con K A' F' X' QA QC → te σc' H' QC)
    (st : StR K A F (upd X0 D0 (.lst [])) S H) (h : aLcL bind ai.ok (wipeA σ vs) cA eA ai.items [] S Q2)
    (hd : ∀ A' F' S' H' us ws, Q2 ws S' → StR K A' F' (upd X0 D0 (.lst us)) S' H' → Ext A F A' F' → Paired (Rv K A' F') us ws → Qd (.ref D0) H') :
    ∃ W : Nat → Nat → Hp → Prop, (∃ m, W 0 m H) ∧ ∀ i m H, W i m H → (J.stop i H ∧ Qd (.ref D0) H) ∨ (J.go i H ∧ ∃ Nx : Hp → Prop, (∀ H', Nx H' → ∃ m', m' < m ∧ W (i + 1) m' H') ∧ ∀ x H', J.yld i H x H' → g x (wipe σc vs) H' fun σ2 H2 => wipe σ2 vs = wipe σc vs ∧ tt σ2 H2 fun b H3 =>
      if b = true then te σ2 H3 fun y H4 => ∃ acc, H4 D0 = some (.lst acc) ∧ acc.length < sizeLine ∧ Nx (upd H4 D0 (.lst (acc ++ [y]))) else Nx H3) := by
  refine ⟨fun i m H' => m = ai.items.length - i ∧ i ≤ ai.items.length ∧ ∃ A' F' S' us ws, StR K A' F' (upd X0 D0 (.lst us)) S' H' ∧ Ext A F A' F' ∧ Paired (Rv K A' F') us ws ∧ aLcL bind ai.ok (wipeA σ vs) cA eA (ai.items.drop i) ws S' Q2,
    ⟨ai.items.length, by simp, Nat.zero_le _, A, F, S, [], [], st, .refl, .nil, h⟩, ?_⟩
  rintro i m H1 ⟨rfl, hi, A1, F1, S1, us, ws, st1, ex1, p1, h1⟩
  cases hz : ai.items[i]? with
  | none =>
    have hl : ai.items.length ≤ i := List.getElem?_eq_none_iff.mp hz
    have e : i = ai.items.length := by omega
    rw [List.drop_of_length_le hl] at h1
    obtain ⟨o, q⟩ := h1
    refine .inl ⟨(io i A1 F1 _ S1 H1 ex1 st1 o hi).2 e, hd A1 F1 S1 H1 us ws q st1 ex1 p1⟩
  | some z =>
    have hlt : i < ai.items.length := (List.getElem?_eq_some_iff.mp hz).1
    have ed : ai.items.drop i = z :: ai.items.drop (i + 1) := by
      rw [List.drop_eq_getElem_cons hlt]
      congr 1
      exact (List.getElem?_eq_some_iff.mp hz).2
    rw [ed] at h1
    obtain ⟨o, h1⟩ := h1
    obtain ⟨go, yl⟩ := (io i A1 F1 _ S1 H1 ex1 st1 o hi).1 z hz
    split at h1
    · rename_i σ' eb
      refine .inr ⟨go, fun H' => ∃ A' F' S' us ws, StR K A' F' (upd X0 D0 (.lst us)) S' H' ∧ Ext A F A' F' ∧ Paired (Rv K A' F') us ws ∧ aLcL bind ai.ok (wipeA σ vs) cA eA (ai.items.drop (i + 1)) ws S' Q2,
        fun H' q => ⟨ai.items.length - (i + 1), by omega, rfl, hlt, q⟩, fun v H2 y => ?_⟩
      obtain ⟨F2, st2, ex2, r2⟩ := yl v H2 y
      refine hg A1 F2 _ S1 H2 z v σ' _ st2 (ex1.trans ex2) eb r2 fun σc' en' => ?_
      refine ht A1 F2 _ S1 H2 σ' σc' _ _ st2 (ex1.trans ex2) en' h1 fun A3 F3 S3 H3 b q3 st3 ex3 => ?_
      cases b with
      | true =>
        have q3 : eA σ' S3 fun y S2 => ws.length < line ∧ aLcL bind ai.ok (wipeA σ vs) cA eA (ai.items.drop (i + 1)) (ws ++ [y]) S2 Q2 := q3
        show te σc' H3 _
        refine he A3 F3 _ S3 H3 σ' σc' _ _ st3 ((ex1.trans ex2).trans ex3) (en'.mono ex3) q3 fun A4 F4 S4 H4 v4 w4 q4 st4 ex4 r4 => ?_
        have hD := (st4.hid D0 _ upd_same).1
        refine ⟨us, hD, by rw [line_eq, Paired.len p1]; exact q4.1, A4, F4, S4, us ++ [v4], ws ++ [w4], ?_, ((ex1.trans ex2).trans ex3).trans ex4, Paired.snoc1 (p1.mono fun _ _ z => ((z.mono ex2).mono ex3).mono ex4) r4, q4.2⟩
        exact st4.rehide (fun _ z => nomatch z)
      | false =>
        have q3 : aLcL bind ai.ok (wipeA σ vs) cA eA (ai.items.drop (i + 1)) ws S3 Q2 := q3
        show ∃ A' F' S' us ws, StR K A' F' (upd X0 D0 (.lst us)) S' H3 ∧ _
        exact ⟨A3, F3, S3, us, ws, st3, (ex1.trans ex2).trans ex3, p1.mono fun _ _ z => (z.mono ex2).mono ex3, q3⟩
    · exact h1.elim
end
end Rf
set_option Elab.async false
set_option autoImplicit false
set_option linter.all false
set_option maxRecDepth 100000
set_option maxHeartbeats 8000000
namespace Rf
open PySem PySem.Spec PyProof.Rows L2
section
variable {K : Fg} {A A' A1 : List Addr} {F F' F1 X : Hp} {S S' : Sto} {H H' : Hp} {v u : V} {w x y : AV} {Q : AQ} {Qc : VK}
/-- a place that was ours alone is given out -/
theorem sim_unhide {D0 : Addr} {ho : HO} (st : StR K A F (upd X D0 ho) S H) {o : AO} {m : Bool} (xD : X D0 = none) (r : Ro K A F ho o) (q : alc m o S Q) (k : Con K A F X Q Qc) : Qc (.ref D0) H := by
  cases m with
  | true =>
    obtain ⟨st', e⟩ := st.unhideA xD r
    exact k _ _ _ _ _ _ q st' e ⟨D0, rfl, by rw [← st.len, List.getElem?_append_right (Nat.le_refl _)]; simp⟩
  | false =>
    have q : (match o.pure with
      | some p => Q (.pv p) S
      | none => False) := q
    split at q
    · rename_i pp e
      obtain ⟨st', ex⟩ := st.unhideF xD
      exact k _ _ _ _ _ _ q st' ex (r.pure e ex.f upd_same)
    · exact q.elim
/-! ### what lies beyond a length is dropped -/
def okV (k : Nat) : AV → Prop
  | .hnd n => n < k
  | _ => True
def okO (k : Nat) : AO → Prop
  | .lst xs => ∀ x ∈ xs, okV k x
  | .dic ks => ∀ x ∈ ks, okV k x.2
  | .dit ks => ∀ x ∈ ks, okV k x.2
  | .ins _ fs => ∀ x ∈ fs, okV k x.2
theorem okV_of (r : Rv K A F v w) : okV A.length w := by
  cases w with
  | pv p => trivial
  | hnd n => obtain ⟨a, _, h⟩ := r; exact (List.getElem?_eq_some_iff.mp h).1
theorem pair_mem {α β : Type} {R : α → β → Prop} {xs : List α} {ys : List β} (p : Paired R xs ys) : ∀ y ∈ ys, ∃ x ∈ xs, R x y := by
  induction p with
  | nil => intro y h; cases h
  | cons r t ih =>
    intro y h
    rcases List.mem_cons.mp h with e | h
    · subst e; exact ⟨_, List.mem_cons_self, r⟩
    · obtain ⟨x, h1, h2⟩ := ih y h
      exact ⟨x, List.mem_cons_of_mem _ h1, h2⟩
theorem okO_of {ho : HO} {o : AO} (r : Ro K A F ho o) : okO A.length o := by
  cases o with
  | lst xs => obtain ⟨vs, _, p⟩ := r; intro x h; obtain ⟨v, _, q⟩ := pair_mem p x h; exact okV_of q
  | dic ks => obtain ⟨vs, _, p⟩ := r; intro x h; obtain ⟨v, _, q⟩ := pair_mem p x h; exact okV_of q.2
  | dit ks => obtain ⟨vs, _, p⟩ := r; intro x h; obtain ⟨v, _, q⟩ := pair_mem p x h; exact okV_of q.2
  | ins C fs => obtain ⟨dx, vs, _, p⟩ := r; intro x h; obtain ⟨v, _, q⟩ := pair_mem p x h; exact okV_of q.2
theorem Rv.cut (ex : ∀ (n : Nat) a, A[n]? = some a → A'[n]? = some a) (r : Rv K A' F v w) (o : okV A.length w) : Rv K A F v w := by
  cases w with
  | pv p => exact r
  | hnd n =>
    obtain ⟨a, e, h⟩ := r
    have hl : n < A.length := o
    have h2 := ex n A[n] (List.getElem?_eq_getElem hl)
    rw [h] at h2
    cases h2
    exact ⟨_, e, List.getElem?_eq_getElem hl⟩
theorem pair_imp {α β : Type} {R R' : α → β → Prop} {xs : List α} {ys : List β} (p : Paired R xs ys) (h : ∀ x y, y ∈ ys → R x y → R' x y) : Paired R' xs ys := by
  induction p with
  | nil => exact .nil
  | cons r t ih => exact .cons (h _ _ List.mem_cons_self r) (ih fun x y m q => h x y (List.mem_cons_of_mem _ m) q)
theorem Ro.cut (ex : ∀ (n : Nat) a, A[n]? = some a → A'[n]? = some a) {ho : HO} {o : AO} (r : Ro K A' F ho o) (k : okO A.length o) : Ro K A F ho o := by
  cases o with
  | lst xs => obtain ⟨vs, e, p⟩ := r; exact ⟨vs, e, pair_imp p fun _ y m q => q.cut ex (k y m)⟩
  | dic ks => obtain ⟨vs, e, p⟩ := r; exact ⟨vs, e, pair_imp p fun _ y m q => ⟨q.1, q.2.cut ex (k y m)⟩⟩
  | dit ks => obtain ⟨vs, e, p⟩ := r; exact ⟨vs, e, pair_imp p fun _ y m q => ⟨q.1, q.2.cut ex (k y m)⟩⟩
  | ins C fs => obtain ⟨dx, vs, e, p⟩ := r; exact ⟨dx, vs, e, pair_imp p fun _ y m q => ⟨q.1, q.2.cut ex (k y m)⟩⟩
/-- S1: what is left of S' where the first entries alone are kept -/
structure Drop (S S' S1 : Sto) : Prop where
  len : S1.length = S.length
  pre : ∀ (n : Nat) e, S1[n]? = some e → S'[n]? = some e
  ok : ∀ (n : Nat) o, S1[n]? = some (.live o) ∨ S1[n]? = some (.lock o) → (S[n]? = some (.live o) ∨ S[n]? = some (.lock o)) ∨ okO S.length o
theorem StR.drop {S1 : Sto} (st0 : StR K A F X S H) (st : StR K A' F' X S' H') (ex : Ext A F A' F') (d : Drop S S' S1) : StR K A F' X S1 H' := by
  have hA : A.length = S.length := st0.len
  have okk : ∀ (n : Nat) o, S1[n]? = some (.live o) ∨ S1[n]? = some (.lock o) → okO A.length o := fun n o h => by
    rcases d.ok n o h with (q | q) | q
    · obtain ⟨_, _, _, _, _, _, r⟩ := st0.live n o q
      exact okO_of r
    · obtain ⟨_, _, _, _, _, _, _, r⟩ := st0.lock n o q
      exact okO_of r
    · rw [hA]; exact q
  have atA : ∀ (n : Nat) e a, S1[n]? = some e → A'[n]? = some a → A[n]? = some a := fun n e a h1 h2 => by
    have hl : n < A.length := by rw [hA, ← d.len]; exact (List.getElem?_eq_some_iff.mp h1).1
    have h3 := ex.a n A[n] (List.getElem?_eq_getElem hl)
    rw [h2] at h3
    rw [h3]
    exact List.getElem?_eq_getElem hl
  refine ⟨by rw [hA, d.len], st.sub, fun n o h => ?_, fun n o h => ?_, fun n m e e' a h1 h2 d1 d2 a1 a2 => ?_, st.hid, st.tk⟩
  · obtain ⟨a, ho, h1, h2, h3, h4, h5⟩ := st.live n o (d.pre n _ h)
    exact ⟨a, ho, atA n _ a h h1, h2, h3, h4, h5.cut ex.a (okk n o (.inl h))⟩
  · obtain ⟨a, ob, ho, h1, h2, h3, h4, h5⟩ := st.lock n o (d.pre n _ h)
    exact ⟨a, ob, ho, atA n _ a h h1, h2, h3, h4, h5.cut ex.a (okk n o (.inr h))⟩
  · exact st.inj n m e e' a (d.pre n _ h1) (d.pre m _ h2) d1 d2 (ex.a n a a1) (ex.a m a a2)
theorem Drop.app (S J : Sto) : Drop S (S ++ J) S := ⟨rfl, fun n e h => get_app_l h, fun n o h => .inl h⟩
theorem StR.forget {X' : Hp} (st : StR K A F X S H) (h : ∀ a o, X' a = some o → X a = some o) : StR K A F X' S H := by
  have no : ∀ a, X a = none → X' a = none := fun a e => by
    cases q : X' a with
    | none => rfl
    | some o => rw [h a o q] at e; cases e
  refine ⟨st.len, st.sub, fun n o e => ?_, fun n o e => ?_, st.inj, fun a o e => st.hid a o (h a o e), st.tk⟩
  · obtain ⟨a, ho, h1, h2, h3, h4, h5⟩ := st.live n o e
    exact ⟨a, ho, h1, h2, no a h3, h4, h5⟩
  · obtain ⟨a, ob, ho, h1, h2, h3, h4, h5⟩ := st.lock n o e
    exact ⟨a, ob, ho, h1, h2, no a h3, h4, h5⟩
/-- a new thing that nobody looks at -/
theorem StR.ghost (st : StR K A F X S H) {a : Addr} {ho : HO} (ha : H a = none) (nt : notTup ho) : StR K A F X S (upd H a ho) :=
  (st.hide ha nt).forget fun b o e => by
    rw [upd_ne (ne_of_none e (st.xnone ha))]
    exact e
theorem seqB_walk (st : StR K A F X S H) (r : Rv K A F v w) {xs : List AV} (e : seqA S w = some xs) : ∃ k a, v = .ref a ∧ ∀ A' F' X' S' H', Ext A F A' F' → StR K A' F' X' S' H' → okH S w S' → ∃ vs, SqB K k H' a vs ∧ Paired (Rv K A' F') vs xs := by
  have e0 := e
  unfold seqA at e
  split at e
  · rename_i ps e1
    cases e
    obtain ⟨a, vs, rfl, _⟩ := st.tupA r e1
    refine ⟨false, a, rfl, fun A' F' X' S' H' ex st' _ => ?_⟩
    obtain ⟨a', vs', e2, h1, _, h3⟩ := st'.tupA (r.mono ex) e1
    cases e2
    exact ⟨vs', .inl (.inl h1), h3.up⟩
  · obtain ⟨a, vs, rfl, _⟩ := st.lstB r e
    refine ⟨true, a, rfl, fun A' F' X' S' H' ex st' o => ?_⟩
    obtain ⟨a', vs', e2, h1, h3⟩ := st'.lstB (r.mono ex) (lstB_ok e o)
    cases e2
    exact ⟨vs', lstH_sq h1, h3⟩
/-- a new instance, done, as a tree -/
theorem sim_made (st0 : StR K A F X S H) {C x : Addr} {fs : List (Str × PV)} (st : StR K A' F' X (S ++ [.live (.ins C (fs.map mk2))]) H') (ex : Ext A F A' F') (hx : A'[S.length]? = some x) : ∃ F'', StR K A F'' X S H' ∧ Ext A F A F'' ∧ Rl K F'' (.ref x) (.ins C fs) := by
  obtain ⟨a, ho, ha, r, st2, ex2, hup⟩ := st.freeze (n := S.length) (o := .ins C (fs.map mk2)) (by rw [List.getElem?_append_right (Nat.le_refl _)]; simp)
  rw [hx] at ha
  cases ha
  have e : (S ++ [SE.live (.ins C (fs.map mk2))]).set S.length .dead = S ++ [.dead] := by
    rw [List.set_append_right _ _ (Nat.le_refl _)]
    simp
  rw [e] at st2
  have st3 := st0.drop st2 (ex.trans ex2) (Drop.app S [.dead])
  exact ⟨_, st3, ⟨fun _ _ h => h, (ex.trans ex2).f⟩, Ro.pure r (by show (pvk (fs.map mk2)).map (PV.ins C) = _; rw [pvk_map]; rfl) ex2.f hup⟩
end
end Rf
set_option Elab.async false
set_option autoImplicit false
set_option linter.all false
set_option maxRecDepth 100000
set_option maxHeartbeats 8000000
namespace Rf
open PySem PySem.Spec PyProof.Rows L2
section
variable {ad : AD} {D : Dn} {A A' A1 : List Addr} {F F' F1 X : Hp} {S S' : Sto} {H H' : Hp} {σ : AEnv} {σc : L2.St} {v u : V} {w x y : AV} {Q : AQ} {Qc : VK}
theorem Con.of (f : ∀ A' F' S' H' v w, Q w S' → StR ad.K A' F' X S' H' → Ext A F A' F' → Rv ad.K A' F' v w → Qc v H') : Con ad.K A F X Q Qc := f
theorem spAt_lift (dr : DynR ad D) {i : Nat} {p : Nat × ASp} (h : ad.sp[i]? = some p) : spAt D i = lift ad.K p.1 p.2 := by
  unfold spAt
  rw [dr.sp, List.getElem?_map, h]
  rfl
/-- a call, its arguments at hand -/
theorem sim_callSp {n : Nat} {asp : ASp} {ws : List AV} {vs : List V} (b : Bun ad D A F X S H σ σc) (hn : vs.length = n) (r : Paired (Rv ad.K A F) vs ws) (h : asp ws S Q fun C gs S' => ad.W C gs σ S') (k : Con ad.K A F X Q Qc) :
    lift ad.K n asp vs H Qc (WE D.W σc) :=
  ⟨hn, A, F, X, S, ws, Q, _, b.st, r, h, k, fun A' F' S' H' C d gs e st ex er => b.wr A' F' S' σ σc H' C gs d e st ex (b.env.mono ex) er⟩
end
theorem Bun.blk {ad : AD} {D : Dn} {A : List Addr} {F X X' : Hp} {S : Sto} {H H' : Hp} {σ σ' : AEnv} {σc σc' : L2.St} (b : Bun ad D A F X S H σ σc) (st : StR ad.K A F X' S H') (en : EnvR ad.K A F σ' σc') : Bun (blkA ad) (blkD D) A F X' S H' σ' σc' :=
  ⟨st, en, fun _ _ _ _ _ _ _ _ _ z => z.elim⟩
theorem DynR.blk {ad : AD} {D : Dn} (dr : DynR ad D) : DynR (blkA ad) (blkD D) := ⟨dr.K, dr.sp, dr.gv, dr.ex, dr.me, dr.mks, dr.exi⟩
/-- the pairs of a display whose keys are texts -/
def zipHd : List Str → List V → List (V × V)
  | _, [] => []
  | ks, v :: vs => (.str (ks.headD Str.empty), v) :: zipHd ks.tail vs
theorem zipHd_eq : ∀ (ks : List Str) (vs : List V), vs.length = ks.length → zipHd ks vs = ((ks.map fun k => (Sum.inr k : Key)).zip vs).map fun kv => (kV kv.1, kv.2)
  | [], [], _ => rfl
  | k :: ks, v :: vs, h => by
    unfold zipHd
    rw [List.map_cons, List.zip_cons_cons, List.map_cons, List.tail_cons, zipHd_eq ks vs (by simpa using h)]
    rfl
  | [], _ :: _, h => by simp at h
  | _ :: _, [], h => by simp at h
theorem keys_rel {K : Fg} {A : List Addr} {F : Hp} : ∀ {ks : List Str} {vs : List V} {ws : List AV}, Paired (Rv K A F) vs ws → Paired (PF kc (Rv K A F)) ((ks.map fun k => (Sum.inr k : Key)).zip vs) ((keysTxt ks).zip ws)
  | [], _, _, _ => by simp only [List.map_nil, List.zip_nil_left, keysTxt]; exact .nil
  | _ :: _, [], [], .nil => by simp only [List.zip_nil_right]; exact .nil
  | k :: ks, _, _, .cons h t => by
    have e : keysTxt (k :: ks) = .inr (tl k) :: keysTxt ks := rfl
    rw [List.map_cons, List.zip_cons_cons, e, List.zip_cons_cons]
    exact .cons ⟨rfl, h⟩ (keys_rel t)
theorem merge_rel {K : Fg} {A : List Addr} {F : Hp} : ∀ {more : List (Key × V)} {mA : List (KC × AV)} {kvs : List (Key × V)} {ks : List (KC × AV)}, Paired (PF kc (Rv K A F)) more mA → Paired (PF kc (Rv K A F)) kvs ks → Paired (PF kc (Rv K A F)) (mergeK kvs more) (mA.foldl (fun acc kv => putL acc kv.1 kv.2) ks)
  | _, _, _, _, .nil, p => p
  | (a, v) :: more, (b, w) :: mA, kvs, ks, .cons ⟨e, r⟩ t, p => by
    have e : a = kc b := e
    subst e
    show Paired _ (mergeK (putK kvs (kc b) v) more) (mA.foldl _ (putL ks b w))
    exact merge_rel t (put_rel (fun _ _ => kc_inj) p r)
mutual
theorem simE : ∀ (r : RE) {m : Bool} {ad : AD} {D : Dn} {A : List Addr} {F X : Hp} {S : Sto} {H : Hp} {σ : AEnv} {σc : L2.St} {Q : AQ} {Qc : VK}, DynR ad D → Bun ad D A F X S H σ σc → aE ad r m σ S Q → Con ad.K A F X Q Qc → wpE D r σc H Qc
  | .var i, m, ad, D, A, F, X, S, H, σ, σc, Q, Qc, dr, b, h, k => by
    unfold aE at h
    split at h
    · rename_i w e
      obtain ⟨v, e1, r1⟩ := b.env.at_ i w e
      show rVar i σc H Qc
      unfold rVar
      rw [e1]
      exact k.here b.st h r1
    · exact h.elim
  | .int i, m, ad, D, A, F, X, S, H, σ, σc, Q, Qc, dr, b, h, k => k.here b.st (show Q (.pv (.int i)) S by unfold aE at h; exact h) (.int i)
  | .bl i, m, ad, D, A, F, X, S, H, σ, σc, Q, Qc, dr, b, h, k => k.here b.st (show Q (.pv (.bl i)) S by unfold aE at h; exact h) (.bl i)
  | .non, m, ad, D, A, F, X, S, H, σ, σc, Q, Qc, dr, b, h, k => k.here b.st (show Q (.pv .non) S by unfold aE at h; exact h) .non
  | .str x, m, ad, D, A, F, X, S, H, σ, σc, Q, Qc, dr, b, h, k => by
    have e : x = sOf (tl x) := rfl
    show Qc (.str x) H
    rw [e]
    exact k.here b.st (show Q (.pv (.str (tl x))) S by unfold aE at h; exact h) (.str _)
  | .gc i, m, ad, D, A, F, X, S, H, σ, σc, Q, Qc, dr, b, h, k => by
    unfold aE at h
    split at h
    · rename_i p e
      obtain ⟨v, e1, r1⟩ := dr.gv i p e
      show gvAt D i σc H Qc
      unfold gvAt
      rw [e1]
      exact k.here b.st h (r1 F)
    · exact h.elim
  | .gf i, m, ad, D, A, F, X, S, H, σ, σc, Q, Qc, dr, b, h, k => by unfold aE at h; exact h.elim
  | .ty n, m, ad, D, A, F, X, S, H, σ, σc, Q, Qc, dr, b, h, k => k.here b.st (show Q (.pv (.ty n)) S by unfold aE at h; exact h) (.ty n)
  | .bin o a c, m, ad, D, A, F, X, S, H, σ, σc, Q, Qc, dr, b, h, k => by
    unfold aE at h
    exact simE a dr b h fun A1 F1 S1 H1 v1 w1 h1 st1 ex1 r1 => simE c dr (b.next st1 ex1) h1 fun A2 F2 S2 H2 v2 w2 h2 st2 ex2 r2 => sim_bin st2 (r1.mono ex2) r2 h2 (k.step (ex1.trans ex2))
  | .neg a, m, ad, D, A, F, X, S, H, σ, σc, Q, Qc, dr, b, h, k => by
    unfold aE at h
    exact simE a dr b h fun A1 F1 S1 H1 v1 w1 h1 st1 ex1 r1 => sim_neg st1 r1 h1 (k.step ex1)
  | .cmp o a c, m, ad, D, A, F, X, S, H, σ, σc, Q, Qc, dr, b, h, k => by
    unfold aE at h
    refine simE a dr b h fun A1 F1 S1 H1 v1 w1 h1 st1 ex1 r1 => simE c dr (b.next st1 ex1) h1 fun A2 F2 S2 H2 v2 w2 h2 st2 ex2 r2 => ?_
    rw [dr.K]
    exact sim_cmp st2 (r1.mono ex2) r2 h2 (k.step (ex1.trans ex2))
  | .chain o o' a c d, m, ad, D, A, F, X, S, H, σ, σc, Q, Qc, dr, b, h, k => by
    unfold aE at h
    refine simE a dr b h fun A1 F1 S1 H1 v1 w1 h1 st1 ex1 r1 => simE c dr (b.next st1 ex1) h1 fun A2 F2 S2 H2 v2 w2 h2 st2 ex2 r2 => ?_
    rw [dr.K]
    refine sim_cmp st2 (r1.mono ex2) r2 h2 fun A3 F3 S3 H3 v3 w3 h3 st3 ex3 r3 => ?_
    have ex := (ex1.trans ex2).trans ex3
    split at h3
    · rename_i e
      have e3 := bl?_ok r3 e
      subst e3
      refine ⟨true, rfl, ?_⟩
      rw [if_pos rfl]
      refine simE d dr (b.next st3 ex) h3 fun A4 F4 S4 H4 v4 w4 h4 st4 ex4 r4 => ?_
      exact sim_cmp st4 ((r2.mono ex3).mono ex4) r4 h4 (k.step (ex.trans ex4))
    · rename_i e
      have e3 := bl?_ok r3 e
      subst e3
      refine ⟨false, rfl, ?_⟩
      rw [if_neg (by decide)]
      exact (k.step ex).here st3 h3 (.bl false)
    · exact h3.elim
  | .andV a c, m, ad, D, A, F, X, S, H, σ, σc, Q, Qc, dr, b, h, k => by
    unfold aE at h
    refine simE a dr b h fun A1 F1 S1 H1 v1 w1 h1 st1 ex1 r1 => ?_
    split at h1
    · rename_i e
      have e3 := bl?_ok r1 e
      subst e3
      refine ⟨true, rfl, ?_⟩
      rw [if_pos rfl]
      exact simE c dr (b.next st1 ex1) h1 (k.step ex1)
    · rename_i e
      have e3 := bl?_ok r1 e
      subst e3
      refine ⟨false, rfl, ?_⟩
      rw [if_neg (by decide)]
      exact (k.step ex1).here st1 h1 (.bl false)
    · exact h1.elim
  | .orV a c, m, ad, D, A, F, X, S, H, σ, σc, Q, Qc, dr, b, h, k => by
    unfold aE at h
    refine simE a dr b h fun A1 F1 S1 H1 v1 w1 h1 st1 ex1 r1 => ?_
    split at h1
    · rename_i e
      have e3 := bl?_ok r1 e
      subst e3
      refine ⟨false, rfl, ?_⟩
      rw [if_neg (by decide)]
      exact simE c dr (b.next st1 ex1) h1 (k.step ex1)
    · rename_i e
      have e3 := bl?_ok r1 e
      subst e3
      refine ⟨true, rfl, ?_⟩
      rw [if_pos rfl]
      exact (k.step ex1).here st1 h1 (.bl true)
    · exact h1.elim
  | .notV a, m, ad, D, A, F, X, S, H, σ, σc, Q, Qc, dr, b, h, k => by
    unfold aE at h
    refine simE a dr b h fun A1 F1 S1 H1 v1 w1 h1 st1 ex1 r1 => ?_
    rw [dr.K]
    exact sim_tr st1 r1 h1 fun c q => (k.step ex1).here st1 q (.bl _)
  | .ifE t a c, m, ad, D, A, F, X, S, H, σ, σc, Q, Qc, dr, b, h, k => by
    unfold aE at h
    refine simT t dr b h fun A1 F1 S1 H1 d h1 st1 ex1 => ?_
    cases d with
    | true => rw [if_pos rfl]; exact simE a dr (b.next st1 ex1) h1 (k.step ex1)
    | false => rw [if_neg (by decide)]; exact simE c dr (b.next st1 ex1) h1 (k.step ex1)
  | .call i as, m, ad, D, A, F, X, S, H, σ, σc, Q, Qc, dr, b, h, k => by
    unfold aE at h
    split at h
    · rename_i p e
      refine simA as dr b h fun A1 F1 S1 H1 vs ws h1 st1 ex1 r1 => ?_
      show spAt D i vs H1 Qc (WE D.W σc)
      rw [spAt_lift dr e]
      exact sim_callSp (b.next st1 ex1) (by rw [Paired.len r1]; exact h1.1) r1 h1.2 (k.step ex1)
    · exact h.elim
  | .cb f as, m, ad, D, A, F, X, S, H, σ, σc, Q, Qc, dr, b, h, k => by
    unfold aE at h
    refine simA as dr b h fun A1 F1 S1 H1 vs ws h1 st1 ex1 r1 => ?_
    rw [dr.K]
    exact sim_bf st1 r1 h1 (k.step ex1)
  | .ct f as, m, ad, D, A, F, X, S, H, σ, σc, Q, Qc, dr, b, h, k => by
    unfold aE at h
    refine simA as dr b h fun A1 F1 S1 H1 vs ws h1 st1 ex1 r1 => ?_
    rw [dr.K]
    exact sim_tf st1 r1 h1 (k.step ex1)
  | .mt bm o as, m, ad, D, A, F, X, S, H, σ, σc, Q, Qc, dr, b, h, k => by
    unfold aE at h
    refine simE o dr b h fun A1 F1 S1 H1 v1 w1 h1 st1 ex1 r1 => ?_
    rw [dr.K]
    refine ⟨aTyM_ok st1 r1 h1.1, ?_⟩
    refine simA as dr (b.next st1 ex1) h1.2 fun A2 F2 S2 H2 vs ws h2 st2 ex2 r2 => ?_
    exact sim_bm st2 (r1.mono ex2) r2 h2 (k.step (ex1.trans ex2))
  | .ix a c, m, ad, D, A, F, X, S, H, σ, σc, Q, Qc, dr, b, h, k => by
    unfold aE at h
    refine simE a dr b h fun A1 F1 S1 H1 v1 w1 h1 st1 ex1 r1 => simE c dr (b.next st1 ex1) h1 fun A2 F2 S2 H2 v2 w2 h2 st2 ex2 r2 => ?_
    rw [dr.K]
    exact sim_ix st2 (r1.mono ex2) r2 h2 (k.step (ex1.trans ex2))
  | .sl a lo hi, m, ad, D, A, F, X, S, H, σ, σc, Q, Qc, dr, b, h, k => by
    unfold aE at h
    refine simE a dr b h fun A1 F1 S1 H1 v1 w1 h1 st1 ex1 r1 => simO lo dr (b.next st1 ex1) h1 fun A2 F2 S2 H2 o2 h2 st2 ex2 => simO hi dr (b.next st2 (ex1.trans ex2)) h2 fun A3 F3 S3 H3 o3 h3 st3 ex3 => ?_
    rw [dr.K]
    exact sim_sl st3 ((r1.mono ex2).mono ex3) h3 (k.step ((ex1.trans ex2).trans ex3))
  | .lst as, m, ad, D, A, F, X, S, H, σ, σc, Q, Qc, dr, b, h, k => by
    unfold aE at h
    refine simA as dr b h fun A1 F1 S1 H1 vs ws h1 st1 ex1 r1 => ?_
    exact ⟨by rw [line_eq, Paired.len r1]; exact h1.1, fun p hp => sim_alc st1 hp (o := .lst _) ⟨_, rfl, r1⟩ h1.2 (k.step ex1)⟩
  | .tup as, m, ad, D, A, F, X, S, H, σ, σc, Q, Qc, dr, b, h, k => by
    unfold aE at h
    refine simA as dr b h fun A1 F1 S1 H1 vs ws h1 st1 ex1 r1 => ?_
    split at h1
    · rename_i ps e
      have e2 := pvs_ok e
      subst e2
      refine ⟨by rw [line_eq, Paired.len r1, List.length_map]; exact h1.1, fun p hp => ?_⟩
      obtain ⟨st', ex⟩ := st1.tree (ho := .tup vs) hp
      exact k _ _ _ _ _ _ h1.2 st' (ex1.trans ex) (Rl.tup upd_same (RlL.of ((Rv.pvl r1).pair.mono fun _ _ z => Rl.mono ex.f z)))
    · exact h1.elim
  | .dnew, m, ad, D, A, F, X, S, H, σ, σc, Q, Qc, dr, b, h, k => by
    unfold aE at h
    exact fun p hp => sim_alc b.st hp (o := .dic []) ⟨[], rfl, .nil⟩ h k
  | .lc own tg it c e, m, ad, D, A, F, X, S, H, σ, σc, Q, Qc, dr, b, h, k => by
    unfold aE at h
    refine simI it dr b h fun A1 F1 S1 H1 J ai h1 st1 ex1 io => ?_
    obtain ⟨hm, h1⟩ := h1
    intro p hp
    have b1 := b.next st1 ex1
    refine sim_lcL (Qd := Qc) io b1.env (st1.xnone hp) (fun A' F' X' S' H' z v σ' R st ex eb r kk => ?_) (fun A' F' X' S' H' σ' σc' QA QC st ex en hc kk => ?_) (fun A' F' X' S' H' σ' σc' QA QC st ex en he kk => ?_) (st1.hide hp fun _ z => nomatch z) h1 fun A2 F2 S2 H2 us ws q st2 ex2 p2 => ?_
    · cases z with
      | one w =>
        cases eb
        exact ⟨by rw [wipe_set _ hm, wipe_wipe], kk _ (((b1.env.mono ex).wipe _).set tg r)⟩
      | two _ _ => cases eb
    · exact simC c dr.blk ⟨st, en, fun _ _ _ _ _ _ _ _ _ z => z.elim⟩ hc kk
    · exact simE e dr.blk ⟨st, en, fun _ _ _ _ _ _ _ _ _ z => z.elim⟩ he kk
    · exact sim_unhide st2 (st1.xnone hp) (o := .lst _) ⟨_, rfl, p2⟩ q (k.step (ex1.trans ex2))
  | .lcT own tgs it c e, m, ad, D, A, F, X, S, H, σ, σc, Q, Qc, dr, b, h, k => by
    unfold aE at h
    refine simI it dr b h fun A1 F1 S1 H1 J ai h1 st1 ex1 io => ?_
    obtain ⟨hm, h1⟩ := h1
    intro p hp
    have b1 := b.next st1 ex1
    refine sim_lcL (Qd := Qc) io b1.env (st1.xnone hp) (fun A' F' X' S' H' z v σ' R st ex eb r kk => ?_) (fun A' F' X' S' H' σ' σc' QA QC st ex en hc kk => ?_) (fun A' F' X' S' H' σ' σc' QA QC st ex en he kk => ?_) (st1.hide hp fun _ z => nomatch z) h1 fun A2 F2 S2 H2 us ws q st2 ex2 p2 => ?_
    · rw [dr.K]
      obtain ⟨a, xs, e1, e2, e3, e4⟩ := bindT_ok st eb r ((b1.env.mono ex).wipe _) kk
      refine ⟨a, xs, e1, e2, e3, ?_⟩
      have z := gNames_wipe (vs := own.map (·.2)) (Qc := R) hm e4
      rw [wipe_wipe] at z
      exact z
    · exact simC c dr.blk ⟨st, en, fun _ _ _ _ _ _ _ _ _ z => z.elim⟩ hc kk
    · exact simE e dr.blk ⟨st, en, fun _ _ _ _ _ _ _ _ _ z => z.elim⟩ he kk
    · exact sim_unhide st2 (st1.xnone hp) (o := .lst _) ⟨_, rfl, p2⟩ q (k.step (ex1.trans ex2))
  | .callE f as, m, ad, D, A, F, X, S, H, σ, σc, Q, Qc, dr, b, h, k => by unfold aE at h; exact h.elim
  | .hnd e, m, ad, D, A, F, X, S, H, σ, σc, Q, Qc, dr, b, h, k => by unfold aE at h; exact simE e dr b h k
  | .noE, m, ad, D, A, F, X, S, H, σ, σc, Q, Qc, dr, b, h, k => by unfold aE at h; exact h.elim
  | .fld a x, m, ad, D, A, F, X, S, H, σ, σc, Q, Qc, dr, b, h, k => by
    unfold aE at h
    refine simE a dr b h fun A1 F1 S1 H1 v1 w1 h1 st1 ex1 r1 => ?_
    split at h1
    · rename_i C fs e
      obtain ⟨p, dx, vs, rfl, g1, g2⟩ := st1.insA r1 e
      obtain ⟨⟨c1, c2⟩, h1⟩ := h1
      split at h1
      · rename_i w2 e2
        obtain ⟨v2, e3, r2⟩ := (lookF g2 x).2 _ e2
        show (match insH H1 p with
          | some (C, _, fs) => Cls D.K C ∧ NoAttr D.K C x ∧ (match fs.lookup x with
            | some v => Qc v H1
            | none => False)
          | none => ∃ (D' dx : Addr) (fs : List (Str × V)) (v : V), H1 p = some (.ext (exvP (.ref D') (some dx) p)) ∧ H1 dx = some (.xd fs) ∧ ExcC D.K D' ∧ NoAttr D.K D' x ∧ fs.lookup x = some v ∧ Qc v H1)
        rw [insH_of g1, dr.K]
        refine ⟨c1, c2, ?_⟩
        rw [e3]
        exact (k.step ex1).here st1 h1 r2
      · exact h1.elim
    · split at h1
      · rename_i C gs em
        obtain ⟨⟨c1, c2⟩, h1⟩ := h1
        split at h1
        · rename_i p2 e2
          have hw : w1 = .pv (.err C gs) := by
            unfold errM at em
            split at em
            · cases em; rfl
            · cases em
          subst hw
          have r1 : Rl D.K F1 v1 (.err C gs) := by rw [dr.K]; exact r1
          have exact_ : ∀ {a o}, F1 a = some o → isD o = false → H1 a = some o := fun {a o} e d => by
            rcases st1.sub a o e with z | ⟨z, _⟩
            · exact z
            · rw [d] at z; cases z
          cases r1 with
          | err0 g1 => cases e2
          | @err1 a _ dx fs _ g1 g2 g3 =>
            obtain ⟨v2, e3, r2⟩ := lookR g3 x e2
            have hh : H1 a = some (.ext (exvP (.ref C) (some dx) a)) := exact_ g1 rfl
            show (match insH H1 a with
              | some (C, _, fs) => Cls D.K C ∧ NoAttr D.K C x ∧ (match fs.lookup x with
                | some v => Qc v H1
                | none => False)
              | none => ∃ (D' dx : Addr) (fs : List (Str × V)) (v : V), H1 a = some (.ext (exvP (.ref D') (some dx) a)) ∧ H1 dx = some (.xd fs) ∧ ExcC D.K D' ∧ NoAttr D.K D' x ∧ fs.lookup x = some v ∧ Qc v H1)
            have ei : insH H1 a = none := by unfold insH; rw [hh]
            rw [ei]
            rw [dr.K] at r2 ⊢
            exact ⟨C, dx, fs, v2, hh, exact_ g2 rfl, c1, c2, e3, (k.step ex1).here st1 h1 r2⟩
        · exact h1.elim
      · exact h1.elim
  | .own mm o as, m, ad, D, A, F, X, S, H, σ, σc, Q, Qc, dr, b, h, k => by
    unfold aE at h
    refine simE o dr b h fun A1 F1 S1 H1 v1 w1 h1 st1 ex1 r1 => ?_
    split at h1
    · rename_i C fs e
      obtain ⟨p, dx, vs, rfl, g1, g2⟩ := st1.insA r1 e
      obtain ⟨l1, h1⟩ := h1
      split at h1
      · rename_i q em
        show (match insH H1 p with
          | some (C, _, fs) => fs.lookup mm = none ∧ (match D.me C mm with
            | some sp => wpA D as σc H1 fun vs H2 => sp (.ref p :: vs) H2 Qc (WE D.W σc)
            | none => False)
          | none => False)
        rw [insH_of g1]
        refine ⟨(lookF g2 mm).1 l1, ?_⟩
        rw [dr.me C mm q em]
        refine simA as dr (b.next st1 ex1) h1 fun A2 F2 S2 H2 us ws h2 st2 ex2 r2 => ?_
        exact sim_callSp (vs := .ref p :: us) (ws := w1 :: ws) (b.next st2 (ex1.trans ex2)) (by rw [List.length_cons, Paired.len r2]; exact h2.1) (.cons (r1.mono ex2) r2) h2.2 (k.step (ex1.trans ex2))
      · exact h1.elim
    · exact h1.elim
  | .mk i as, m, ad, D, A, F, X, S, H, σ, σc, Q, Qc, dr, b, h, k => by
    unfold aE at h
    split at h
    · rename_i C n asp e
      have em : mkAt D i = (C, lift ad.K n asp) := by
        unfold mkAt
        rw [dr.mks, List.getElem?_map, e]
        rfl
      show tMakeX (mkAt D i).1 (mkAt D i).2 (WE D.W) (wpA D as) σc H Qc
      rw [em]
      refine simA as dr b h fun A1 F1 S1 H1 vs ws h1 st1 ex1 r1 => ?_
      obtain ⟨h1l, h1⟩ := h1
      unfold aMk at h1
      intro x dx nx nd ne
      have st2 := st1.ghost (ho := .own x) nd (fun _ z => nomatch z)
      have nx2 : upd H1 dx (.own x) x = none := by rw [upd_ne ne.symm]; exact nx
      obtain ⟨st3, ex3⟩ := st2.alloc (ho := .ins C dx []) (o := .ins C []) nx2 ⟨dx, [], rfl, .nil⟩
      have hx : (A1 ++ [x])[S1.length]? = some x := by rw [← st1.len, List.getElem?_append_right (Nat.le_refl _)]; simp
      refine ⟨by rw [List.length_cons, Paired.len r1]; exact h1l, A1 ++ [x], F1, X, S1 ++ [.live (.ins C [])], .hnd S1.length :: ws, _, _, st3, .cons ⟨x, rfl, hx⟩ (r1.mono fun _ _ z => z.mono ex3), h1, fun A4 F4 S4 H4 v4 w4 q4 st4 ex4 r4 => ?_, fun A4 F4 S4 H4 C' d gs q4 st4 ex4 er => ?_⟩
      · obtain ⟨rfl, q4⟩ := q4
        have r4 : Rl ad.K F4 v4 .non := r4
        cases r4
        refine ⟨rfl, ?_⟩
        have ex5 := (ex1.trans ex3).trans ex4
        have hx4 := ex4.a _ _ hx
        cases m with
        | true => exact k _ _ _ _ _ _ q4 st4 ex5 ⟨x, rfl, hx4⟩
        | false =>
          obtain ⟨fs, rfl, q5⟩ := q4
          obtain ⟨F5, st5, ex6, r5⟩ := sim_made st1 st4 (ex3.trans ex4) hx4
          exact k _ _ _ _ _ _ q5 st5 (ex1.trans ex6) r5
      · exact b.wr A4 F4 S4 σ σc H4 C' gs d q4 st4 ((ex1.trans ex3).trans ex4) (b.env.mono ((ex1.trans ex3).trans ex4)) er
    · exact h.elim
  | .ddsp ks as, m, ad, D, A, F, X, S, H, σ, σc, Q, Qc, dr, b, h, k => by
    unfold aE at h
    intro p hp
    have st0 := b.st.hide (ho := .dK []) hp fun _ z => nomatch z
    refine simP as dr ⟨st0, b.env, fun A' F' S' σ σc H' C gs d w st ex en er => b.wr A' F' S' σ σc H' C gs d w (st.forget fun a o e => ?_) ex en er⟩ h fun A1 F1 S1 H1 vs ws h1 st1 ex1 r1 => ?_
    · rw [upd_ne (ne_of_none e (b.st.xnone hp))]
      exact e
    · obtain ⟨l1, l2, h1⟩ := h1
      have lv : vs.length = ks.length := by rw [Paired.len r1]; exact l1
      refine ⟨(st1.hid p _ upd_same).1, (ks.map fun k => (Sum.inr k : Key)).zip vs, zipHd_eq ks vs lv, ?_, ?_⟩
      · rw [List.length_zip, List.length_map, lv]
        omega
      · exact sim_unhide (st1.rehide fun _ z => nomatch z) (b.st.xnone hp) (o := .dic _) ⟨_, rfl, merge_rel (keys_rel r1) .nil⟩ h1 (k.step ex1)
theorem simP : ∀ (r : RA) {ks : List Str} {ad : AD} {D : Dn} {A : List Addr} {F X : Hp} {S : Sto} {H : Hp} {σ : AEnv} {σc : L2.St} {Q : QL} {Qc : List (V × V) → Hp → Prop}, DynR ad D → Bun ad D A F X S H σ σc → aA ad r σ S Q →
    (∀ A' F' S' H' vs ws, Q ws S' → StR ad.K A' F' X S' H' → Ext A F A' F' → Paired (Rv ad.K A' F') vs ws → Qc (zipHd ks vs) H') → tPairs (wpP D ks r) σc H Qc
  | .nil, ks, ad, D, A, F, X, S, H, σ, σc, Q, Qc, dr, b, h, k => by
    unfold aA at h
    exact k _ _ _ _ _ _ h b.st .refl .nil
  | .cons a r, ks, ad, D, A, F, X, S, H, σ, σc, Q, Qc, dr, b, h, k => by
    unfold aA at h
    show wpE D a σc H fun y H2 => tPairs (wpP D ks.tail r) σc H2 fun ps H3 => Qc ((.str (ks.headD Str.empty), y) :: ps) H3
    exact simE a dr b h fun A1 F1 S1 H1 v1 w1 h1 st1 ex1 r1 => simP r dr (b.next st1 ex1) h1 fun A2 F2 S2 H2 vs ws h2 st2 ex2 r2 => k _ _ _ _ (v1 :: vs) _ h2 st2 (ex1.trans ex2) (.cons (r1.mono ex2) r2)
theorem simA : ∀ (r : RA) {ad : AD} {D : Dn} {A : List Addr} {F X : Hp} {S : Sto} {H : Hp} {σ : AEnv} {σc : L2.St} {Q : QL} {Qc : List V → Hp → Prop}, DynR ad D → Bun ad D A F X S H σ σc → aA ad r σ S Q → ConL ad.K A F X Q Qc → wpA D r σc H Qc
  | .nil, ad, D, A, F, X, S, H, σ, σc, Q, Qc, dr, b, h, k => by
    unfold aA at h
    exact k _ _ _ _ _ _ h b.st .refl .nil
  | .cons a r, ad, D, A, F, X, S, H, σ, σc, Q, Qc, dr, b, h, k => by
    unfold aA at h
    exact simE a dr b h fun A1 F1 S1 H1 v1 w1 h1 st1 ex1 r1 => simA r dr (b.next st1 ex1) h1 fun A2 F2 S2 H2 vs ws h2 st2 ex2 r2 => k _ _ _ _ _ _ h2 st2 (ex1.trans ex2) (.cons (r1.mono ex2) r2)
theorem simO : ∀ (r : RO) {ad : AD} {D : Dn} {A : List Addr} {F X : Hp} {S : Sto} {H : Hp} {σ : AEnv} {σc : L2.St} {Q : Option Int → Sto → Prop} {Qc : Option Int → Hp → Prop}, DynR ad D → Bun ad D A F X S H σ σc → aO ad r σ S Q → ConO ad.K A F X Q Qc → wpO D r σc H Qc
  | .no, ad, D, A, F, X, S, H, σ, σc, Q, Qc, dr, b, h, k => by
    unfold aO at h
    exact k _ _ _ _ _ h b.st .refl
  | .yes a, ad, D, A, F, X, S, H, σ, σc, Q, Qc, dr, b, h, k => by
    unfold aO at h
    refine simE a dr b h fun A1 F1 S1 H1 v1 w1 h1 st1 ex1 r1 => ?_
    split at h1
    · have r1 : Rl ad.K F1 v1 (.int _) := r1
      cases r1
      exact ⟨_, rfl, k _ _ _ _ _ h1 st1 ex1⟩
    · exact h1.elim
theorem simT : ∀ (r : RT) {ad : AD} {D : Dn} {A : List Addr} {F X : Hp} {S : Sto} {H : Hp} {σ : AEnv} {σc : L2.St} {Q : QT} {Qc : Bool → Hp → Prop}, DynR ad D → Bun ad D A F X S H σ σc → aT ad r σ S Q → ConT ad.K A F X Q Qc → wpT D r σc H Qc
  | .tru e, ad, D, A, F, X, S, H, σ, σc, Q, Qc, dr, b, h, k => by
    unfold aT at h
    refine simE e dr b h fun A1 F1 S1 H1 v1 w1 h1 st1 ex1 r1 => ?_
    rw [dr.K]
    exact sim_tr st1 r1 h1 fun c q => k _ _ _ _ _ q st1 ex1
  | .cmp o a c, ad, D, A, F, X, S, H, σ, σc, Q, Qc, dr, b, h, k => by
    unfold aT at h
    refine simE a dr b h fun A1 F1 S1 H1 v1 w1 h1 st1 ex1 r1 => simE c dr (b.next st1 ex1) h1 fun A2 F2 S2 H2 v2 w2 h2 st2 ex2 r2 => ?_
    rw [dr.K]
    refine sim_cmp st2 (r1.mono ex2) r2 h2 fun A3 F3 S3 H3 v3 w3 h3 st3 ex3 r3 => ?_
    split at h3
    · rename_i e
      exact ⟨_, bl?_ok r3 e, k _ _ _ _ _ h3 st3 ((ex1.trans ex2).trans ex3)⟩
    · exact h3.elim
  | .chain o o' a c d, ad, D, A, F, X, S, H, σ, σc, Q, Qc, dr, b, h, k => by
    unfold aT at h
    refine simE a dr b h fun A1 F1 S1 H1 v1 w1 h1 st1 ex1 r1 => simE c dr (b.next st1 ex1) h1 fun A2 F2 S2 H2 v2 w2 h2 st2 ex2 r2 => ?_
    rw [dr.K]
    refine sim_cmp st2 (r1.mono ex2) r2 h2 fun A3 F3 S3 H3 v3 w3 h3 st3 ex3 r3 => ?_
    have ex := (ex1.trans ex2).trans ex3
    split at h3
    · rename_i e
      have e3 := bl?_ok r3 e
      subst e3
      refine ⟨true, rfl, ?_⟩
      rw [if_pos rfl]
      refine simE d dr (b.next st3 ex) h3 fun A4 F4 S4 H4 v4 w4 h4 st4 ex4 r4 => ?_
      refine sim_cmp st4 ((r2.mono ex3).mono ex4) r4 h4 fun A5 F5 S5 H5 v5 w5 h5 st5 ex5 r5 => ?_
      split at h5
      · rename_i e
        exact ⟨_, bl?_ok r5 e, k _ _ _ _ _ h5 st5 ((ex.trans ex4).trans ex5)⟩
      · exact h5.elim
    · rename_i e
      have e3 := bl?_ok r3 e
      subst e3
      refine ⟨false, rfl, ?_⟩
      rw [if_neg (by decide)]
      exact ⟨_, rfl, k _ _ _ _ _ h3 st3 ex⟩
    · exact h3.elim
  | .and a c, ad, D, A, F, X, S, H, σ, σc, Q, Qc, dr, b, h, k => by
    unfold aT at h
    refine simT a dr b h fun A1 F1 S1 H1 d h1 st1 ex1 => ?_
    cases d with
    | true => rw [if_pos rfl]; exact simT c dr (b.next st1 ex1) h1 fun A2 F2 S2 H2 d h2 st2 ex2 => k _ _ _ _ _ h2 st2 (ex1.trans ex2)
    | false => rw [if_neg (by decide)]; exact k _ _ _ _ _ h1 st1 ex1
  | .or a c, ad, D, A, F, X, S, H, σ, σc, Q, Qc, dr, b, h, k => by
    unfold aT at h
    refine simT a dr b h fun A1 F1 S1 H1 d h1 st1 ex1 => ?_
    cases d with
    | true => rw [if_pos rfl]; exact k _ _ _ _ _ h1 st1 ex1
    | false => rw [if_neg (by decide)]; exact simT c dr (b.next st1 ex1) h1 fun A2 F2 S2 H2 d h2 st2 ex2 => k _ _ _ _ _ h2 st2 (ex1.trans ex2)
  | .not a, ad, D, A, F, X, S, H, σ, σc, Q, Qc, dr, b, h, k => by
    unfold aT at h
    exact simT a dr b h fun A1 F1 S1 H1 d h1 st1 ex1 => k _ _ _ _ _ h1 st1 ex1
theorem simC : ∀ (r : RC) {ad : AD} {D : Dn} {A : List Addr} {F X : Hp} {S : Sto} {H : Hp} {σ : AEnv} {σc : L2.St} {Q : QT} {Qc : Bool → Hp → Prop}, DynR ad D → Bun ad D A F X S H σ σc → aC ad r σ S Q → ConT ad.K A F X Q Qc → wpC D r σc H Qc
  | .no, ad, D, A, F, X, S, H, σ, σc, Q, Qc, dr, b, h, k => by
    unfold aC at h
    exact k _ _ _ _ _ h b.st .refl
  | .yes t, ad, D, A, F, X, S, H, σ, σc, Q, Qc, dr, b, h, k => by
    unfold aC at h
    exact simT t dr b h k
theorem simI : ∀ (r : RI) {ad : AD} {D : Dn} {A : List Addr} {F X : Hp} {S : Sto} {H : Hp} {σ : AEnv} {σc : L2.St} {R : AIt → Sto → Prop} {Rc : It → Hp → Prop}, DynR ad D → Bun ad D A F X S H σ σc → aI ad r σ S R →
    (∀ A' F' S' H' J ai, R ai S' → StR ad.K A' F' X S' H' → Ext A F A' F' → ItOK J ai ad.K A' F' → Rc J H') → wpI D r σc H Rc
  | .any e, ad, D, A, F, X, S, H, σ, σc, R, Rc, dr, b, h, k => by
    unfold aI at h
    refine simE e dr b h fun A1 F1 S1 H1 v1 w1 h1 st1 ex1 r1 => ?_
    rw [dr.K]
    exact sim_any st1 r1 h1 fun ai J q io => k _ _ _ _ _ _ q st1 ex1 io
  | .range1 a, ad, D, A, F, X, S, H, σ, σc, R, Rc, dr, b, h, k => by
    unfold aI at h
    refine simE a dr b h fun A1 F1 S1 H1 v1 w1 h1 st1 ex1 r1 => ?_
    split at h1
    · have r1 : Rl ad.K F1 v1 (.int _) := r1
      cases r1
      exact ⟨_, rfl, h1.1.1, h1.1.2, k _ _ _ _ _ _ h1.2 st1 ex1 itOK_rng⟩
    · exact h1.elim
  | .range2 a c, ad, D, A, F, X, S, H, σ, σc, R, Rc, dr, b, h, k => by
    unfold aI at h
    refine simE a dr b h fun A1 F1 S1 H1 v1 w1 h1 st1 ex1 r1 => simE c dr (b.next st1 ex1) h1 fun A2 F2 S2 H2 v2 w2 h2 st2 ex2 r2 => ?_
    split at h2
    · have r1 : Rl ad.K F1 v1 (.int _) := r1
      cases r1
      have r2 : Rl ad.K F2 v2 (.int _) := r2
      cases r2
      exact ⟨_, _, rfl, h2.1, k _ _ _ _ _ _ h2.2 st2 (ex1.trans ex2) itOK_rng⟩
    · exact h2.elim
  | .zip a c, ad, D, A, F, X, S, H, σ, σc, R, Rc, dr, b, h, k => by
    unfold aI at h
    refine simE a dr b h fun A1 F1 S1 H1 v1 w1 h1 st1 ex1 r1 => simE c dr (b.next st1 ex1) h1 fun A2 F2 S2 H2 v2 w2 h2 st2 ex2 r2 => ?_
    rw [dr.K]
    split at h2
    · rename_i xs ys e1 e2
      obtain ⟨kx, p, rfl, wx⟩ := seqB_walk st2 (r1.mono ex2) e1
      obtain ⟨ky, q, rfl, wy⟩ := seqB_walk st2 r2 e2
      have ok0 : ∀ z : AV, okH S2 z S2 := fun z => by cases z <;> first | trivial | rfl
      obtain ⟨us, g1, _⟩ := wx _ _ _ _ _ .refl st2 (ok0 _)
      obtain ⟨vs, g2, _⟩ := wy _ _ _ _ _ .refl st2 (ok0 _)
      exact ⟨kx, ky, p, q, us, vs, rfl, g1, g2, k _ _ _ _ _ _ h2 st2 (ex1.trans ex2) (itOK_zip (fun A' F' X' S' H' ex st' o => wx _ _ _ _ _ ex st' o.1) (fun A' F' X' S' H' ex st' o => wy _ _ _ _ _ ex st' o.2))⟩
    · exact h2.elim
  | .enum a, ad, D, A, F, X, S, H, σ, σc, R, Rc, dr, b, h, k => by
    unfold aI at h
    refine simE a dr b h fun A1 F1 S1 H1 v1 w1 h1 st1 ex1 r1 => ?_
    rw [dr.K]
    split at h1
    · rename_i xs e
      obtain ⟨p, us, rfl, g1, p1⟩ := st1.lstB r1 e
      refine ⟨p, us, rfl, lstH_sq g1, k _ _ _ _ _ _ h1 st1 ex1 (itOK_enum fun A' F' X' S' H' ex st' o => ?_)⟩
      obtain ⟨a', vs', e4, h1', h3'⟩ := st'.lstB (r1.mono ex) (lstB_ok e o)
      cases e4
      exact ⟨vs', lstH_sq h1', h3'⟩
    · exact h1.elim
end
end Rf
set_option Elab.async false
set_option autoImplicit false
set_option linter.all false
set_option maxRecDepth 100000
set_option maxHeartbeats 8000000
/-! Statements read over trees and the store. -/
namespace Rf
open PySem PySem.Spec PyProof.Rows L2
structure AEnds where
  nx : AEnv → Sto → Prop
  rt : AQ
  bk : AEnv → Sto → Prop := fun _ _ => False
  ct : AEnv → Sto → Prop := fun _ _ => False
abbrev ATS := AEnds → AEnv → Sto → Prop
/-- a loop over the items -/
def aForL (bind : IV → AEnv → Option AEnv) (ok : Sto → Prop) (body : ATS) (E : AEnds) : List IV → AEnv → Sto → Prop
  | [], σ, S => ok S ∧ E.nx σ S
  | x :: r, σ, S => ok S ∧ (match bind x σ with
    | some σ' => body { E with nx := aForL bind ok body E r, ct := aForL bind ok body E r, bk := E.nx } σ' S
    | none => False)
/-- so many turns at most -/
def aWhN (c : AEnv → Sto → QT → Prop) (body : ATS) (E : AEnds) : Nat → AEnv → Sto → Prop
  | 0, _, _ => False
  | n + 1, σ, S => c σ S fun b S1 => match b with
    | true => body { E with nx := aWhN c body E n, ct := aWhN c body E n, bk := E.nx } σ S1
    | false => E.nx σ S1
def putFA (f : Str) (y : AV) (fs : List (Str × AV)) : List (Str × AV) := match fs with
  | [] => [(f, y)]
  | (g, v) :: r => if g = f then (g, y) :: r else (g, v) :: putFA f y r
def aKeep (K : Fg) (c : Addr) (i j : Nat) (W : AWX) (E : AEnds) : AWX := fun C gs σ S => ∃ b, PySem.W.exmOne K (.ref C) (.ref c) = some b ∧ (b = true → E.nx (((σ.set i (some (.pv (.err C gs)))).set j (some (.pv (.err C gs)))).set i none) S) ∧ (b = false → W C gs σ S)
mutual
def aS (ad : AD) : RS → ATS
  | .set i e, E, σ, S => aE ad e false σ S fun w S1 => E.nx (σ.set i (some w)) S1
  | .ret e, E, σ, S => aE ad e false σ S E.rt
  | .retN, E, _, S => E.rt (.pv .non) S
  | .ifs t a b, E, σ, S => aT ad t σ S fun c S1 => match c with
    | true => aSs ad a E σ S1
    | false => aSs ad b E σ S1
  | .fr tg it b, E, σ, S => aI ad it σ S fun ai S1 => aForL (bindN tg) ai.ok (fun E σ S => aSs ad b E σ S) E ai.items σ S1
  | .frT tgs it b, E, σ, S => aI ad it σ S fun ai S1 => aForL (bindT tgs) ai.ok (fun E σ S => aSs ad b E σ S) E ai.items σ S1
  | .wh t b, E, σ, S => ∃ n, aWhN (fun σ S Q => aT ad t σ S Q) (fun E σ S => aSs ad b E σ S) E n σ S
  | .ex e, E, σ, S => aE ad e false σ S fun _ S1 => E.nx σ S1
  | .raise i, E, σ, S => match ad.ex[i]? with
    | some a => ad.W a [] σ S
    | none => False
  | .raiseE i as, E, σ, S => match ad.exi[i]? with
    | some (C, fields) => aA ad as σ S fun ws S1 => match pvs ws with
      | some ps => (ps.length = fields.length ∧ ps.length ≤ 1000) ∧ ad.W C (fields.zip ps).reverse σ S1
      | none => False
    | none => False
  | .tryK c i j b, E, σ, S => match ad.ex[c]? with
    | some a => aSs { ad with W := aKeep ad.K a i j ad.W E } b E σ S
    | none => False
  | .brk, E, σ, S => E.bk σ S
  | .cnt, E, σ, S => E.ct σ S
  | .pass, E, σ, S => E.nx σ S
  | .noS, _, _, _ => False
  | .sfld o x e, E, σ, S => aE ad e false σ S fun w S1 => aE ad o false σ S1 fun y S2 => match y with
    | .hnd n => (match entL S2 n with
      | some (.ins C fs) => (Cls ad.K C ∧ NoAttr ad.K C x) ∧ fs.length < 1000 ∧ E.nx σ (S2.set n (.live (.ins C (putFA x w fs))))
      | _ => False)
    | _ => False
  | .afld o x b e, E, σ, S => aE ad o false σ S fun y S1 => match y with
    | .hnd n => (match entL S1 n with
      | some (.ins C fs) => (Cls ad.K C ∧ NoAttr ad.K C x) ∧ (match fs.lookup x with
        | some (.pv (.int i)) => aE ad e false σ S1 fun z S2 => match z with
          | .pv (.int j) => (match entL S2 n with
            | some (.ins C' fs') => C' = C ∧ fs'.length < 1000 ∧ E.nx σ (S2.set n (.live (.ins C (putFA x (.pv (.int (if b = true then i - j else i + j))) fs'))))
            | _ => False)
          | _ => False
        | _ => False)
      | _ => False)
    | _ => False
  | .sst o i e, E, σ, S => aE ad e false σ S fun w S1 => aE ad o false σ S1 fun y S2 => aE ad i false σ S2 fun z S3 => match y, z with
    | .hnd n, .pv p => (match entL S3 n, keyO p with
      | some (.dic ks), some k => ks.length < line ∧ E.nx σ (S3.set n (.live (.dic (putL ks k w))))
      | _, _ => False)
    | _, _ => False
  | .setT is e, E, σ, S => aE ad e false σ S fun w S1 => match bindT is (.one w) σ with
    | some σ' => E.nx σ' S1
    | none => False
  | .ost _ _ _, _, _, _ => False
  | .frz i, E, σ, S => match σ[i]? with
    | some (some (.hnd n)) => (match entL S n with
      | some o => (match o.pure with
        | some p => E.nx (σ.set i (some (.pv p))) (S.set n .dead)
        | none => E.nx σ S)
      | none => E.nx σ S)
    | _ => E.nx σ S
def aSs (ad : AD) : RSs → ATS
  | .nil, E, σ, S => E.nx σ S
  | .cons a r, E, σ, S => aS ad a { E with nx := fun σ' S' => aSs ad r E σ' S' } σ S
end
structure EndR (K : Fg) (A : List Addr) (F X : Hp) (E : AEnds) (Ec : L2.Ends) : Prop where
  nx : ∀ A' F' S' H' σ σc, E.nx σ S' → StR K A' F' X S' H' → Ext A F A' F' → EnvR K A' F' σ σc → Ec.nx σc H'
  rt : Con K A F X E.rt Ec.rt
  bk : ∀ A' F' S' H' σ σc, E.bk σ S' → StR K A' F' X S' H' → Ext A F A' F' → EnvR K A' F' σ σc → Ec.bk σc H'
  ct : ∀ A' F' S' H' σ σc, E.ct σ S' → StR K A' F' X S' H' → Ext A F A' F' → EnvR K A' F' σ σc → Ec.ct σc H'
section
variable {ad : AD} {D : Dn} {K : Fg} {A A' A1 : List Addr} {F F' F1 X : Hp} {S S' : Sto} {H H' : Hp} {σ : AEnv} {σc : L2.St} {v u : V} {w x y : AV} {Q : AQ} {Qc : VK} {E : AEnds} {Ec : L2.Ends}
theorem EndR.step (k : EndR K A F X E Ec) (e : Ext A F A1 F1) : EndR K A1 F1 X E Ec :=
  ⟨fun A' F' S' H' σ σc h st ex en => k.nx A' F' S' H' σ σc h st (e.trans ex) en, k.rt.step e, fun A' F' S' H' σ σc h st ex en => k.bk A' F' S' H' σ σc h st (e.trans ex) en, fun A' F' S' H' σ σc h st ex en => k.ct A' F' S' H' σ σc h st (e.trans ex) en⟩
theorem putFA_rel {fs : List (Str × V)} {gs : List (Str × AV)} {f : Str} (p : Paired (fun p q => p.1 = q.1 ∧ Rv K A F p.2 q.2) fs gs) (r : Rv K A F v w) : Paired (fun p q => p.1 = q.1 ∧ Rv K A F p.2 q.2) (putF f v fs) (putFA f w gs) := by
  induction p with
  | nil => exact .cons ⟨rfl, r⟩ .nil
  | @cons a b as bs hd t ih =>
    obtain ⟨a1, a2⟩ := a
    obtain ⟨b1, b2⟩ := b
    have e : a1 = b1 := hd.1
    subst e
    unfold putF putFA
    by_cases hf : a1 = f
    · rw [if_pos hf, if_pos hf]
      exact .cons ⟨rfl, r⟩ t
    · rw [if_neg hf, if_neg hf]
      exact .cons hd ih
/-- a loop -/
theorem sim_forL {J : It} {ai : AIt} {g : TG} {bind : IV → AEnv → Option AEnv} {bA : ATS} {tb : TS}
    (io : ItOK J ai K A F) (en : EnvR K A F σ σc)
    (hg : ∀ A' F' X' S' H' z v σ σ' σc (R : L2.St → Hp → Prop), StR K A' F' X' S' H' → EnvR K A' F' σ σc → bind z σ = some σ' → RvI K A' F' H' v z → (∀ σc', EnvR K A' F' σ' σc' → R σc' H') → g v σc H' R)
    (hb : ∀ A' F' S' H' σ σc E Ec, StR K A' F' X S' H' → Ext A F A' F' → EnvR K A' F' σ σc → bA E σ S' → EndR K A' F' X E Ec → tb Ec σc H')
    (st : StR K A F X S H) (h : aForL bind ai.ok bA E ai.items σ S) (k : EndR K A F X E Ec) :
    ∃ W : Nat → Nat → L2.St → Hp → Prop, (∃ m, W 0 m σc H) ∧ ∀ i m σc H, W i m σc H → (J.stop i H ∧ Ec.nx σc H) ∨ (J.go i H ∧ ∃ N : L2.St → Hp → Prop, (∀ σ' H', N σ' H' → ∃ m', m' < m ∧ W (i + 1) m' σ' H') ∧ ∀ x H', J.yld i H x H' → g x σc H' fun σ2 H2 => tb { Ec with nx := N, ct := N, bk := Ec.nx } σ2 H2) := by
  refine ⟨fun i m σc H' => m = ai.items.length - i ∧ i ≤ ai.items.length ∧ ∃ A' F' S' σ, StR K A' F' X S' H' ∧ Ext A F A' F' ∧ EnvR K A' F' σ σc ∧ aForL bind ai.ok bA E (ai.items.drop i) σ S',
    ⟨ai.items.length, by simp, Nat.zero_le _, A, F, S, σ, st, .refl, en, h⟩, ?_⟩
  rintro i m σc1 H1 ⟨rfl, hi, A1, F1, S1, σ1, st1, ex1, en1, h1⟩
  cases hz : ai.items[i]? with
  | none =>
    have hl : ai.items.length ≤ i := List.getElem?_eq_none_iff.mp hz
    have e : i = ai.items.length := by omega
    rw [List.drop_of_length_le hl] at h1
    obtain ⟨o, q⟩ := h1
    exact .inl ⟨(io i A1 F1 _ S1 H1 ex1 st1 o hi).2 e, k.nx A1 F1 S1 H1 σ1 σc1 q st1 ex1 en1⟩
  | some z =>
    have hlt : i < ai.items.length := (List.getElem?_eq_some_iff.mp hz).1
    have ed : ai.items.drop i = z :: ai.items.drop (i + 1) := by
      rw [List.drop_eq_getElem_cons hlt]
      congr 1
      exact (List.getElem?_eq_some_iff.mp hz).2
    rw [ed] at h1
    obtain ⟨o, h1⟩ := h1
    obtain ⟨go, yl⟩ := (io i A1 F1 _ S1 H1 ex1 st1 o hi).1 z hz
    split at h1
    · rename_i σ' eb
      have back : ∀ A' F' S' H' σ σc, aForL bind ai.ok bA E (ai.items.drop (i + 1)) σ S' → StR K A' F' X S' H' → Ext A F A' F' → EnvR K A' F' σ σc →
          (∃ A' F' S' σ, StR K A' F' X S' H' ∧ Ext A F A' F' ∧ EnvR K A' F' σ σc ∧ aForL bind ai.ok bA E (ai.items.drop (i + 1)) σ S') := fun A' F' S' H' σ σc q s x e => ⟨A', F', S', σ, s, x, e, q⟩
      refine .inr ⟨go, fun σc' H' => ∃ A' F' S' σ, StR K A' F' X S' H' ∧ Ext A F A' F' ∧ EnvR K A' F' σ σc' ∧ aForL bind ai.ok bA E (ai.items.drop (i + 1)) σ S', fun σ' H' q => ⟨ai.items.length - (i + 1), by omega, rfl, hlt, q⟩, fun v H2 y => ?_⟩
      obtain ⟨F2, st2, ex2, r2⟩ := yl v H2 y
      have ex := ex1.trans ex2
      refine hg A1 F2 _ S1 H2 z v σ1 σ' σc1 _ st2 (en1.mono ex2) eb r2 fun σc' en' => ?_
      refine hb A1 F2 S1 H2 σ' σc' _ _ st2 ex en' h1 ⟨fun A' F' S' H' σ σc q s x e => back A' F' S' H' σ σc q s (ex.trans x) e, k.rt.step ex, fun A' F' S' H' σ σc q s x e => k.nx A' F' S' H' σ σc q s (ex.trans x) e, fun A' F' S' H' σ σc q s x e => back A' F' S' H' σ σc q s (ex.trans x) e⟩
    · exact h1.elim
end
theorem Paired.rev {α β : Type} {R : α → β → Prop} {xs : List α} {ys : List β} (p : Paired R xs ys) : Paired R xs.reverse ys.reverse := by
  induction p with
  | nil => exact .nil
  | cons r t ih =>
    rw [List.reverse_cons, List.reverse_cons]
    exact Paired.app ih (.cons r .nil)
theorem rev_pair {α β : Type} {R : α → β → Prop} {xs : List α} {ys : List β} (p : Paired R xs ys) : Paired R xs.reverse ys.reverse := Paired.rev p
theorem zip_pair {K : Fg} {F : Hp} : ∀ {fields : List Str} {vs : List V} {ps : List PV}, ps.length = fields.length → Paired (Rl K F) vs ps → Paired (fun p q => p.1 = q.1 ∧ Rl K F p.2 q.2) (fields.zip vs) (fields.zip ps)
  | [], _, _, _, _ => by simp only [List.zip_nil_left]; exact .nil
  | _ :: _, [], [], _, .nil => by simp only [List.zip_nil_right]; exact .nil
  | f :: fs, _, _, h, .cons r t => by
    rw [List.zip_cons_cons, List.zip_cons_cons]
    exact .cons ⟨rfl, r⟩ (zip_pair (by simpa using h) t)
mutual
theorem simS : ∀ (r : RS) {ad : AD} {D : Dn} {A : List Addr} {F X : Hp} {S : Sto} {H : Hp} {σ : AEnv} {σc : L2.St} {E : AEnds} {Ec : L2.Ends}, DynR ad D → Bun ad D A F X S H σ σc → aS ad r E σ S → EndR ad.K A F X E Ec → wpS D r Ec σc H
  | .set i e, ad, D, A, F, X, S, H, σ, σc, E, Ec, dr, b, h, k => by
    unfold aS at h
    exact simE e dr b h fun A1 F1 S1 H1 v1 w1 h1 st1 ex1 r1 => k.nx _ _ _ _ _ _ h1 st1 ex1 ((b.env.mono ex1).set i r1)
  | .ret e, ad, D, A, F, X, S, H, σ, σc, E, Ec, dr, b, h, k => by
    unfold aS at h
    exact simE e dr b h k.rt
  | .retN, ad, D, A, F, X, S, H, σ, σc, E, Ec, dr, b, h, k => by
    unfold aS at h
    exact k.rt.here b.st h .non
  | .ifs t a c, ad, D, A, F, X, S, H, σ, σc, E, Ec, dr, b, h, k => by
    unfold aS at h
    refine simT t dr b h fun A1 F1 S1 H1 d h1 st1 ex1 => ?_
    cases d with
    | true => rw [if_pos rfl]; exact simSs a dr (b.next st1 ex1) h1 (k.step ex1)
    | false => rw [if_neg (by decide)]; exact simSs c dr (b.next st1 ex1) h1 (k.step ex1)
  | .fr tg it bd, ad, D, A, F, X, S, H, σ, σc, E, Ec, dr, b, h, k => by
    unfold aS at h
    refine simI it dr b h fun A1 F1 S1 H1 J ai h1 st1 ex1 io => ?_
    have b1 := b.next st1 ex1
    exact sim_forL io b1.env (fun A' F' X' S' H' z v σ σ' σc R st en eb r kk => bindN_ok eb r en kk) (fun A' F' S' H' σ σc E Ec st ex en hh kk => simSs bd dr ⟨st, en, b1.wr.mono ex⟩ hh kk) st1 h1 (k.step ex1)
  | .frT tgs it bd, ad, D, A, F, X, S, H, σ, σc, E, Ec, dr, b, h, k => by
    unfold aS at h
    refine simI it dr b h fun A1 F1 S1 H1 J ai h1 st1 ex1 io => ?_
    have b1 := b.next st1 ex1
    exact sim_forL io b1.env (fun A' F' X' S' H' z v σ σ' σc R st en eb r kk => by rw [dr.K]; exact bindT_ok st eb r en kk) (fun A' F' S' H' σ σc E Ec st ex en hh kk => simSs bd dr ⟨st, en, b1.wr.mono ex⟩ hh kk) st1 h1 (k.step ex1)
  | .wh t bd, ad, D, A, F, X, S, H, σ, σc, E, Ec, dr, b, h, k => by
    unfold aS at h
    obtain ⟨n, h⟩ := h
    refine ⟨fun m σc' H' => ∃ A' F' S' σ', aWhN (fun σ S Q => aT ad t σ S Q) (fun E σ S => aSs ad bd E σ S) E m σ' S' ∧ StR ad.K A' F' X S' H' ∧ Ext A F A' F' ∧ EnvR ad.K A' F' σ' σc', ⟨n, A, F, S, σ, h, b.st, .refl, b.env⟩, ?_⟩
    rintro m σc1 H1 ⟨A1, F1, S1, σ1, h1, st1, ex1, en1⟩
    cases m with
    | zero => exact h1.elim
    | succ m =>
      have b1 : Bun ad D A1 F1 X S1 H1 σ1 σc1 := ⟨st1, en1, b.wr.mono ex1⟩
      refine simT t dr b1 h1 fun A2 F2 S2 H2 d h2 st2 ex2 => ?_
      have ex := ex1.trans ex2
      cases d with
      | true =>
        rw [if_pos rfl]
        refine ⟨fun σc' H' => ∃ A' F' S' σ', aWhN (fun σ S Q => aT ad t σ S Q) (fun E σ S => aSs ad bd E σ S) E m σ' S' ∧ StR ad.K A' F' X S' H' ∧ Ext A F A' F' ∧ EnvR ad.K A' F' σ' σc', fun σ' H' q => ⟨m, Nat.lt_succ_self m, q⟩, ?_⟩
        exact simSs bd dr (b1.next st2 ex2) h2 ⟨fun A' F' S' H' σ σc q s x e => ⟨A', F', S', σ, q, s, ex.trans x, e⟩, k.rt.step ex, fun A' F' S' H' σ σc q s x e => k.nx A' F' S' H' σ σc q s (ex.trans x) e, fun A' F' S' H' σ σc q s x e => ⟨A', F', S', σ, q, s, ex.trans x, e⟩⟩
      | false =>
        rw [if_neg (by decide)]
        exact k.nx _ _ _ _ _ _ h2 st2 ex (en1.mono ex2)
  | .ex e, ad, D, A, F, X, S, H, σ, σc, E, Ec, dr, b, h, k => by
    unfold aS at h
    exact simE e dr b h fun A1 F1 S1 H1 v1 w1 h1 st1 ex1 r1 => k.nx _ _ _ _ _ _ h1 st1 ex1 (b.env.mono ex1)
  | .raise i, ad, D, A, F, X, S, H, σ, σc, E, Ec, dr, b, h, k => by
    unfold aS at h
    split at h
    · rename_i a e
      show tRaiseX D i Ec σc H
      unfold tRaiseX
      rw [dr.ex, e]
      exact b.wr _ _ _ _ _ _ _ _ none h b.st .refl b.env (.inl ⟨rfl, rfl⟩)
    · exact h.elim
  | .raiseE i as, ad, D, A, F, X, S, H, σ, σc, E, Ec, dr, b, h, k => by
    unfold aS at h
    split at h
    · rename_i C fields e
      have e2 : D.exi[i]? = some (C, spOex C fields) := by
        rw [dr.exi, List.getElem?_map, e]
        rfl
      show (match D.exi[i]? with
        | some (A, sp) => tMkO A sp [] (wpA D as) σc H fun cls d H' => D.W cls d σc H'
        | none => False)
      rw [e2]
      refine simA as dr b h fun A1 F1 S1 H1 vs ws h1 st1 ex1 r1 => ?_
      split at h1
      · rename_i ps ep
        obtain ⟨⟨l1, l2⟩, h1⟩ := h1
        rw [pvs_ok ep] at r1
        have lv : vs.length = ps.length := by rw [Paired.len r1, List.length_map]
        refine ⟨by rw [lv]; exact l2, fun a ha => ?_⟩
        rw [List.append_nil]
        refine ⟨by rw [List.length_cons, lv, l1], a, vs, rfl, by rw [lv]; exact l1, upd_same, fun d hd ne => ?_⟩
        rw [upd_ne ne] at hd
        refine ⟨rfl, d, (fields.zip vs).reverse, upd_same, by rw [upd_ne ne, upd_same], hd, ?_⟩
        have eh : upd (del (upd (upd (upd H1 a (exo a C none)) d (exd d (fields.zip vs).reverse)) a (exo a C (some d))) a) d (.xd (fields.zip vs).reverse) = upd H1 d (.xd (fields.zip vs).reverse) := by
          funext c
          by_cases hc : c = d
          · rw [hc, upd_same, upd_same]
          · rw [upd_ne hc, upd_ne hc]
            by_cases hca : c = a
            · rw [hca, del_same, ha]
            · rw [del_ne hca, upd_ne hca, upd_ne hc, upd_ne hca]
        rw [eh]
        obtain ⟨st2, ex2⟩ := st1.tree (ho := .xd (fields.zip vs).reverse) hd
        refine b.wr _ _ _ _ _ _ _ _ _ h1 st2 (ex1.trans ex2) (b.env.mono (ex1.trans ex2)) (.inr ⟨d, _, rfl, upd_same, ?_⟩)
        exact RlF.of (rev_pair (zip_pair l1 ((Rv.pvl r1).pair.mono fun _ _ z => Rl.mono ex2.f z)))
      · exact h1.elim
    · exact h.elim
  | .tryK c i j bd, ad, D, A, F, X, S, H, σ, σc, E, Ec, dr, b, h, k => by
    unfold aS at h
    split at h
    · rename_i a e
      have e2 : D.ex[c]? = some a := by rw [dr.ex, e]
      suffices go : wpSs { D with W := wKeep D.K (.ref a) i j D.W Ec } bd Ec σc H by
        show (match D.ex[c]? with
          | some a => wpSs { D with W := wKeep D.K (.ref a) i j D.W Ec } bd Ec σc H
          | none => False)
        rw [e2]
        exact go
      refine simSs bd (ad := { ad with W := aKeep ad.K a i j ad.W E }) (D := { D with W := wKeep D.K (.ref a) i j D.W Ec }) ⟨dr.K, dr.sp, dr.gv, dr.ex, dr.me, dr.mks, dr.exi⟩ ⟨b.st, b.env, fun A' F' S' σ σc H' C gs d w st ex en er => ?_⟩ h k
      obtain ⟨bb, h1, h2, h3⟩ := w
      refine ⟨bb, by rw [dr.K]; exact h1, fun hb p hp => ?_, fun hb => b.wr A' F' S' σ σc H' C gs d (h3 hb) st ex en er⟩
      obtain ⟨st2, ex2⟩ := st.tree (ho := ExV (.ref C) d p) hp
      have r : Rv ad.K A' (upd F' p (ExV (.ref C) d p)) (.ref p) (.pv (.err C gs)) := by
        show Rl ad.K (upd F' p (ExV (.ref C) d p)) (.ref p) (.err C gs)
        rcases er with ⟨rfl, rfl⟩ | ⟨dx, fs, rfl, g1, g2⟩
        · exact .err0 upd_same
        · exact .err1 upd_same (ex2.f _ _ g1) (RlF.of ((RlF.pair g2).mono fun _ _ z => ⟨z.1, Rl.mono ex2.f z.2⟩))
      exact k.nx _ _ _ _ _ _ (h2 hb) st2 (ex.trans ex2) ((((en.mono ex2).set i r).set j r).clear i)
    · exact h.elim
  | .brk, ad, D, A, F, X, S, H, σ, σc, E, Ec, dr, b, h, k => k.bk _ _ _ _ _ _ (show E.bk σ S by unfold aS at h; exact h) b.st .refl b.env
  | .cnt, ad, D, A, F, X, S, H, σ, σc, E, Ec, dr, b, h, k => k.ct _ _ _ _ _ _ (show E.ct σ S by unfold aS at h; exact h) b.st .refl b.env
  | .pass, ad, D, A, F, X, S, H, σ, σc, E, Ec, dr, b, h, k => k.nx _ _ _ _ _ _ (show E.nx σ S by unfold aS at h; exact h) b.st .refl b.env
  | .noS, ad, D, A, F, X, S, H, σ, σc, E, Ec, dr, b, h, k => by unfold aS at h; exact h.elim
  | .sfld o x e, ad, D, A, F, X, S, H, σ, σc, E, Ec, dr, b, h, k => by
    unfold aS at h
    refine simE e dr b h fun A1 F1 S1 H1 v1 w1 h1 st1 ex1 r1 => simE o dr (b.next st1 ex1) h1 fun A2 F2 S2 H2 v2 w2 h2 st2 ex2 r2 => ?_
    have ex := ex1.trans ex2
    split at h2
    · rename_i n
      obtain ⟨p, rfl, hp⟩ := r2
      split at h2
      · rename_i C fs en
        obtain ⟨q, ho, g1, g2, dx, vs, rfl, g3⟩ := st2.entL en
        rw [hp] at g1
        cases g1
        show (match insH H2 p with
          | some (C, dx, fs) => Cls D.K C ∧ NoAttr D.K C x ∧ fs.length < 1000 ∧ Ec.nx σc (upd H2 p (.ins C dx (putF x v1 fs)))
          | none => False)
        rw [insH_of g2, dr.K]
        obtain ⟨⟨c1, c2⟩, l, q⟩ := h2
        exact ⟨c1, c2, by rw [Paired.len g3]; exact l, k.nx _ _ _ _ _ _ q (st2.write (entL_ok en) hp (o' := .ins C _) ⟨dx, _, rfl, putFA_rel g3 (r1.mono ex2)⟩) ex (b.env.mono ex)⟩
      · exact h2.elim
    · exact h2.elim
  | .afld o x sb e, ad, D, A, F, X, S, H, σ, σc, E, Ec, dr, b, h, k => by
    unfold aS at h
    refine simE o dr b h fun A1 F1 S1 H1 v1 w1 h1 st1 ex1 r1 => ?_
    split at h1
    · rename_i n
      obtain ⟨p, rfl, hp⟩ := r1
      split at h1
      · rename_i C fs en
        obtain ⟨q, ho, g1, g2, dx, vs, rfl, g3⟩ := st1.entL en
        rw [hp] at g1
        cases g1
        obtain ⟨⟨c1, c2⟩, h1⟩ := h1
        split at h1
        · rename_i i el
          obtain ⟨v2, e2, r2⟩ := (lookF g3 x).2 _ el
          have r2 : Rl ad.K F1 v2 (.int i) := r2
          cases r2
          show (match insH H1 p with
            | some (C, _, fs) => Cls D.K C ∧ NoAttr D.K C x ∧ (match fs.lookup x with
              | some v => wpE D e σc H1 fun y H2 => rInt2 sb v y H2 fun z H3 => (match insH H3 p with
                | some (C', dx', fs') => C' = C ∧ fs'.length < 1000 ∧ Ec.nx σc (upd H3 p (.ins C dx' (putF x z fs')))
                | none => False)
              | none => False)
            | none => False)
          rw [insH_of g2, dr.K]
          refine ⟨c1, c2, ?_⟩
          rw [e2]
          refine simE e dr (b.next st1 ex1) h1 fun A2 F2 S2 H2 v3 w3 h2 st2 ex2 r3 => ?_
          split at h2
          · rename_i j
            have r3 : Rl ad.K F2 v3 (.int j) := r3
            cases r3
            split at h2
            · rename_i C' fs' en'
              obtain ⟨l1, l2, q⟩ := h2
              obtain ⟨p', ho', g1', g2', dx', vs', rfl, g3'⟩ := st2.entL en'
              have hp2 := ex2.a _ _ hp
              rw [hp2] at g1'
              cases g1'
              subst l1
              unfold rInt2
              dsimp only
              rw [insH_of g2']
              exact ⟨rfl, by rw [Paired.len g3']; exact l2, k.nx _ _ _ _ _ _ q (st2.write (entL_ok en') hp2 (o' := .ins C' _) ⟨dx', _, rfl, putFA_rel g3' (Rl.int (K := ad.K) (F := F2) _)⟩) (ex1.trans ex2) (b.env.mono (ex1.trans ex2))⟩
            · exact h2.elim
          · exact h2.elim
        · exact h1.elim
      · exact h1.elim
    · exact h1.elim
  | .sst o i e, ad, D, A, F, X, S, H, σ, σc, E, Ec, dr, b, h, k => by
    unfold aS at h
    refine simE e dr b h fun A1 F1 S1 H1 v1 w1 h1 st1 ex1 r1 => simE o dr (b.next st1 ex1) h1 fun A2 F2 S2 H2 v2 w2 h2 st2 ex2 r2 => simE i dr (b.next st2 (ex1.trans ex2)) h2 fun A3 F3 S3 H3 v3 w3 h3 st3 ex3 r3 => ?_
    have ex := (ex1.trans ex2).trans ex3
    split at h3
    · rename_i n p
      obtain ⟨a, rfl, ha⟩ := r2.mono ex3
      split at h3
      · rename_i ks kk en ek
        obtain ⟨q, ho, g1, g2, vs, rfl, g3⟩ := st3.entL en
        rw [ha] at g1
        cases g1
        have e3 := Rv.keyO (F := F3) (K := ad.K) r3 ek
        subst e3
        show (match H3 a with
          | some (.dK kvs) => (match keyOf (kV (kc kk)) with
            | some k => kvs.length < sizeLine ∧ Ec.nx σc (upd H3 a (.dK (putK kvs k v1)))
            | none => False)
          | _ => False)
        rw [g2]
        have ek2 : keyOf (kV (kc kk)) = some (kc kk) := by cases kk <;> rfl
        dsimp only
        rw [ek2]
        obtain ⟨l, q⟩ := h3
        exact ⟨by rw [line_eq, Paired.len g3]; exact l, k.nx _ _ _ _ _ _ q (st3.write (entL_ok en) ha (o' := .dic _) ⟨_, rfl, put_rel (fun _ _ => kc_inj) g3 ((r1.mono ex2).mono ex3)⟩) ex (b.env.mono ex)⟩
      · exact h3.elim
    · exact h3.elim
  | .setT is e, ad, D, A, F, X, S, H, σ, σc, E, Ec, dr, b, h, k => by
    unfold aS at h
    refine simE e dr b h fun A1 F1 S1 H1 v1 w1 h1 st1 ex1 r1 => ?_
    split at h1
    · rename_i σ' eb
      rw [dr.K]
      exact bindT_ok (z := .one w1) st1 eb r1 (b.env.mono ex1) fun σc' en' => k.nx _ _ _ _ _ _ h1 st1 ex1 en'
    · exact h1.elim
  | .ost _ _ _, ad, D, A, F, X, S, H, σ, σc, E, Ec, dr, b, h, k => by unfold aS at h; exact h.elim
  | .frz i, ad, D, A, F, X, S, H, σ, σc, E, Ec, dr, b, h, k => by
    unfold aS at h
    split at h
    · rename_i n e
      split at h
      · rename_i o eo
        split at h
        · rename_i p ep
          obtain ⟨v, e1, a, rfl, ha⟩ := b.env.at_ i _ e
          obtain ⟨a', ho, ha', r, st2, ex2, hup⟩ := b.st.freeze (entL_ok eo)
          rw [ha] at ha'
          cases ha'
          have r2 : Rl ad.K (upd F a ho) (.ref a) p := Ro.pure r ep ex2.f hup
          have en := (b.env.mono ex2).set (w := .pv p) i r2
          have es : σc.set i (some (.ref a)) = σc := by
            apply List.ext_getElem?
            intro j
            by_cases hj : i = j
            · subst hj
              rw [List.getElem?_set_self (List.getElem?_eq_some_iff.mp e1).1, e1]
            · rw [List.getElem?_set_ne hj]
          rw [es] at en
          exact k.nx _ _ _ _ _ _ h st2 ex2 en
        · exact k.nx _ _ _ _ _ _ h b.st .refl b.env
      · exact k.nx _ _ _ _ _ _ h b.st .refl b.env
    · exact k.nx _ _ _ _ _ _ h b.st .refl b.env
theorem simSs : ∀ (r : RSs) {ad : AD} {D : Dn} {A : List Addr} {F X : Hp} {S : Sto} {H : Hp} {σ : AEnv} {σc : L2.St} {E : AEnds} {Ec : L2.Ends}, DynR ad D → Bun ad D A F X S H σ σc → aSs ad r E σ S → EndR ad.K A F X E Ec → wpSs D r Ec σc H
  | .nil, ad, D, A, F, X, S, H, σ, σc, E, Ec, dr, b, h, k => by
    unfold aSs at h
    exact k.nx _ _ _ _ _ _ h b.st .refl b.env
  | .cons a r, ad, D, A, F, X, S, H, σ, σc, E, Ec, dr, b, h, k => by
    unfold aSs at h
    exact simS a dr b h ⟨fun A' F' S' H' σ σc q s x e => simSs r dr ⟨s, e, b.wr.mono x⟩ q (k.step x), k.rt, k.bk, k.ct⟩
end
end Rf
set_option Elab.async false
set_option autoImplicit false
set_option linter.all false
set_option maxRecDepth 100000
set_option maxHeartbeats 8000000
/-! A def's promise over trees and the store. -/
namespace Rf
open PySem PySem.Spec PyProof.Rows L2
structure AG where
  sp : List (Nat × ASp) := []
  fa : List Addr := []
  gv : List PV := []
  ex : List Addr := []
  me : Addr → Str → Option (Nat × ASp) := fun _ _ => none
  mks : List (Addr × Nat × ASp) := []
  exi : List (Addr × List Str) := []
def pvV : PV → V
  | .bl b => .bl b
  | .int i => .int i
  | .str c => .str (sOf c)
  | .ty n => .ty n
  | .cl a => .ref a
  | _ => .non
def scP : PV → Bool
  | .non => true | .bl _ => true | .int _ => true | .str _ => true | .ty _ => true | .cl _ => true
  | _ => false
theorem scP_ok {K : Fg} {F : Hp} {p : PV} (h : scP p = true) : Rl K F (pvV p) p := by
  cases p <;> first | (cases h; done) | constructor
def liftP (K : Fg) (p : Nat × ASp) : Sp := lift K p.1 p.2
def gbOf (K : Fg) (ag : AG) : Gb := { sp := ag.sp.map (liftP K), fa := ag.fa, gv := ag.gv.map pvV, ex := ag.ex, me := fun C m => (ag.me C m).map (liftP K), mks := ag.mks.map fun p => (p.1, liftP K p.2), exi := ag.exi.map fun p => (p.1, spOex p.1 p.2) }
def adOf (K : Fg) (E : AEr) (ag : AG) : AD := { K := K, W := fun C gs _ S => E C gs S, sp := ag.sp, gv := ag.gv, ex := ag.ex, me := ag.me, mks := ag.mks, exi := ag.exi }
theorem dynR_of {K : Fg} {E : XK} {EA : AEr} {ag : AG} (h : ag.gv.all scP = true) : DynR (adOf K EA ag) (dn K E (gbOf K ag)) := by
  refine ⟨rfl, rfl, fun i p e => ?_, rfl, fun C m p e => ?_, rfl, rfl⟩
  · have e : ag.gv[i]? = some p := e
    refine ⟨pvV p, by show (ag.gv.map pvV)[i]? = _; rw [List.getElem?_map, e]; rfl, fun F => scP_ok ?_⟩
    exact List.all_eq_true.mp h p (List.mem_of_getElem? e)
  · show (ag.me C m).map (liftP K) = _
    rw [show ag.me C m = some p from e]
    rfl
def envStart (N : List Str) (ws : List AV) : AEnv := ws.map some ++ List.replicate (N.length - ws.length) none
theorem start_rel {K : Fg} {A : List Addr} {F : Hp} {N : List Str} {vs : List V} {ws : List AV} (p : Paired (Rv K A F) vs ws) : EnvR K A F (envStart N ws) (start N vs) := by
  have hl := Paired.len p
  refine ⟨?_, fun i w h => ?_⟩
  · unfold envStart L2.start
    simp [hl]
  · unfold envStart at h
    by_cases hi : i < ws.length
    · rw [List.getElem?_append_left (by simpa using hi), List.getElem?_map] at h
      obtain ⟨w', h1, h2⟩ := Option.map_eq_some_iff.mp h
      cases h2
      obtain ⟨v, h3, h4⟩ := Paired.get p h1
      refine ⟨v, ?_, h4⟩
      unfold L2.start
      rw [List.getElem?_append_left (by simpa [hl] using hi), List.getElem?_map, h3]
      rfl
    · rw [List.getElem?_append_right (by simpa using hi)] at h
      have := List.getElem?_eq_some_iff.mp h
      simp at this
section
variable {P : Program} {w : World} {K : Fg} {mg : Str → Option Value} {base : Heap}
/-- THE RULE for a def, over trees and the store -/
theorem def_ab {x qual : Str} {params : Arguments} {body : List Stmt} {dvs : List V} {kws : List (Str × V)} {f : Addr} {fd : FuncData} {C : Ct} {ag : AG} {k : Nat} {ps : List Str} {rs : RSs} {asp : ASp}
    (F : FunD K x qual params body C.sc dvs kws f fd) (ck : defB C ps rs body = true) (g : GOk P w K mg base k C (gbOf K ag)) (hg : ag.gv.all scP = true)
    (sem : ∀ ws S QA EA, ws.length = ps.length → asp ws S QA EA → aSs (adOf K EA ag) rs { nx := fun _ S' => QA (.pv .non) S', rt := QA } (envStart C.N ws) S) : FnOk P w K mg base (L2.CX P w) (k + 1) f fd ps (lift K ps.length asp) :=
  def_ok F ck (fun vs H Q E h => h.1) g fun vs H Q E h => by
    obtain ⟨hl, A, Fz, X, S, ws, QA, EA, st, r, h, con, cone⟩ := h
    refine simSs rs (dynR_of (EA := EA) hg) ⟨st, start_rel r, fun A' F' S' σ σc H' C gs d e st ex en er => cone A' F' S' H' C d gs e st ex er⟩ (sem ws S QA EA (by rw [← Paired.len r]; exact hl) h) ⟨fun A' F' S' H' σ σc q st ex en => con _ _ _ _ _ _ q st ex .non, con, fun _ _ _ _ _ _ z => z.elim, fun _ _ _ _ _ _ z => z.elim⟩
/-- .. what it made of its own is dropped at the end -/
def tidyQ (S : Sto) (QA : AQ) : AQ := fun w S' => ∃ S1, Drop S S' S1 ∧ okV S.length w ∧ QA w S1
def tidyE (S : Sto) (EA : AEr) : AEr := fun C gs S' => ∃ S1, Drop S S' S1 ∧ EA C gs S1
theorem def_abT {x qual : Str} {params : Arguments} {body : List Stmt} {dvs : List V} {kws : List (Str × V)} {f : Addr} {fd : FuncData} {C : Ct} {ag : AG} {k : Nat} {ps : List Str} {rs : RSs} {asp : ASp}
    (F : FunD K x qual params body C.sc dvs kws f fd) (ck : defB C ps rs body = true) (g : GOk P w K mg base k C (gbOf K ag)) (hg : ag.gv.all scP = true)
    (sem : ∀ ws S QA EA, ws.length = ps.length → asp ws S QA EA → aSs (adOf K (tidyE S EA) ag) rs { nx := fun _ S' => tidyQ S QA (.pv .non) S', rt := tidyQ S QA } (envStart C.N ws) S) : FnOk P w K mg base (L2.CX P w) (k + 1) f fd ps (lift K ps.length asp) :=
  def_ok F ck (fun vs H Q E h => h.1) g fun vs H Q E h => by
    obtain ⟨hl, A, Fz, X, S, ws, QA, EA, st, r, h, con, cone⟩ := h
    have con2 : Con K A Fz X (tidyQ S QA) Q := fun A' F' S' H' v w q st' ex rv => by
      obtain ⟨S1, d, o, q⟩ := q
      rw [← st.len] at o
      exact con A F' S1 H' v w q (st.drop st' ex d) ⟨fun _ _ h => h, ex.f⟩ (rv.cut ex.a o)
    refine simSs rs (dynR_of (EA := tidyE S EA) hg) ⟨st, start_rel r, fun A' F' S' σ σc H' C gs d e st' ex en er => ?_⟩ (sem ws S QA EA (by rw [← Paired.len r]; exact hl) h) ⟨fun A' F' S' H' σ σc q st ex en => con2 _ _ _ _ _ _ q st ex .non, con2, fun _ _ _ _ _ _ z => z.elim, fun _ _ _ _ _ _ z => z.elim⟩
    obtain ⟨S1, dd, q⟩ := e
    exact cone A F' S1 H' C d gs q (st.drop st' ex dd) ⟨fun _ _ h => h, ex.f⟩ er
end
theorem Drop.set {S J : Sto} {n : Nat} {o : AO} (h : okO S.length o) : Drop S (S.set n (.live o) ++ J) (S.set n (.live o)) := by
  refine ⟨List.length_set, fun n e h => get_app_l h, fun m u hm => ?_⟩
  by_cases hn : n = m
  · subst hn
    have hl : n < S.length := by
      rcases hm with q | q
      · have z := (List.getElem?_eq_some_iff.mp q).1
        rw [List.length_set] at z
        exact z
      · have z := (List.getElem?_eq_some_iff.mp q).1
        rw [List.length_set] at z
        exact z
    rw [List.getElem?_set_self hl] at hm
    rcases hm with q | q
    · cases q; exact .inr h
    · cases q
  · rw [List.getElem?_set_ne hn] at hm
    exact .inl hm
theorem Drop.same (S : Sto) : Drop S S S := ⟨rfl, fun _ _ h => h, fun _ _ h => .inl h⟩
/-! ### own errors: __init__ sets each argument as a field -/
def rsOex1 (f : Str) : RSs := .cons (.ost (.var 0) f (.var 1)) .nil
def rsOex2 (f g : Str) : RSs := .cons (.ost (.var 0) f (.var 1)) (.cons (.ost (.var 0) g (.var 2)) .nil)
section
variable {P : Program} {w : World} {K : Fg} {mg : Str → Option Value} {base : Heap}
theorem def_oex1 {x qual : Str} {params : Arguments} {body : List Stmt} {dvs : List V} {kws : List (Str × V)} {f : Addr} {fd : FuncData} {C : Ct} {G : Gb} {k : Nat} {ps : List Str} {A : Addr} {fx : Str}
    (F : FunD K x qual params body C.sc dvs kws f fd) (ck : defB C ps (rsOex1 fx) body = true) (g : GOk P w K mg base k C G) (hp : ps.length = 2) (T : OexC K A) (nf : PySem.W.findIn K (.ref A) fx = some none) : FnOk P w K mg base (L2.CX P w) (k + 1) f fd ps (spOex A [fx]) :=
  def_ok F ck (fun vs H Q E h => by rw [h.1, hp]; rfl) g fun vs H Q E h => by
    obtain ⟨_, a, ws, rfl, l, e, q⟩ := h
    match ws, l, q with
    | [y], _, q =>
      have e1 : ∀ (Q : VK) (H : Hp), Q y H → rVar 1 (L2.start C.N [.ref a, y]) H Q := fun Q H z => z
      have e0 : ∀ (Q : VK) (H : Hp), Q (.ref a) H → rVar 0 (L2.start C.N [.ref a, y]) H Q := fun Q H z => z
      simp only [rsOex1, wpSs, tSeq, wpS, tOst, wpE, tNext]
      refine e1 _ _ (e0 _ _ ?_)
      exact ⟨a, A, rfl, T, nf, .inl ⟨e, fun d hd ne => q d hd ne⟩⟩
end
end Rf
set_option Elab.async false
set_option autoImplicit false
set_option linter.all false
set_option maxRecDepth 100000
set_option maxHeartbeats 4000000
/-! The readings at known shapes. -/
namespace Rf
open PySem PySem.Spec PyProof.Rows L2
section
variable {K : Fg} {E : AEr} {ag : AG} {ad : AD} {S L : Sto} {Q : AQ} {m : Bool} {n : Nat} {o : AO} {C : Addr} {fs : List (Str × AV)} {x y : AV} {A : AEnds}
theorem adOf_K : (adOf K E ag).K = K := rfl
theorem adOf_sp : (adOf K E ag).sp = ag.sp := rfl
theorem adOf_gv : (adOf K E ag).gv = ag.gv := rfl
theorem adOf_ex : (adOf K E ag).ex = ag.ex := rfl
theorem adOf_me : (adOf K E ag).me = ag.me := rfl
theorem adOf_mks : (adOf K E ag).mks = ag.mks := rfl
theorem adOf_exi : (adOf K E ag).exi = ag.exi := rfl
theorem adOf_W {gs : List (Str × PV)} {σ : AEnv} : (adOf K E ag).W C gs σ S = E C gs S := rfl
theorem blkA_K : (blkA ad).K = ad.K := rfl
theorem blkA_sp : (blkA ad).sp = ad.sp := rfl
theorem blkA_gv : (blkA ad).gv = ad.gv := rfl
theorem blkA_me : (blkA ad).me = ad.me := rfl
theorem blkA_mks : (blkA ad).mks = ad.mks := rfl
theorem blkA_W {gs : List (Str × PV)} {σ : AEnv} : (blkA ad).W C gs σ S = False := rfl
/-! the store: what was there, and what is new -/
theorem entL_old {e : AO} (h : entL S n = some e) : entL (S ++ L) n = some e := by
  unfold entL at h ⊢
  split at h
  · rename_i e2
    rw [get_app_l e2]
    exact h
  · cases h
theorem entR_old {e : AO} (h : entR S n = some e) : entR (S ++ L) n = some e := by
  unfold entR at h ⊢
  split at h
  · rename_i e2
    rw [get_app_l e2]
    exact h
  · rename_i e2
    rw [get_app_l e2]
    exact h
  · cases h
theorem entL_new (j : Nat) : entL (S ++ L) (S.length + j) = entL L j := by
  unfold entL
  rw [List.getElem?_append_right (Nat.le_add_right _ _), Nat.add_sub_cancel_left]
theorem entL_new0 : entL (S ++ L) S.length = entL L 0 := entL_new 0
theorem entR_new (j : Nat) : entR (S ++ L) (S.length + j) = entR L j := by
  unfold entR
  rw [List.getElem?_append_right (Nat.le_add_right _ _), Nat.add_sub_cancel_left]
theorem entR_new0 : entR (S ++ L) S.length = entR L 0 := entR_new 0
theorem entL_0 {r : Sto} : entL (.live o :: r) 0 = some o := rfl
theorem entR_0 {r : Sto} : entR (.live o :: r) 0 = some o := rfl
theorem entR_0k {r : Sto} : entR (.lock o :: r) 0 = some o := rfl
theorem entL_s {e : SE} {r : Sto} (j : Nat) : entL (e :: r) (j + 1) = entL r j := by unfold entL; rfl
theorem entR_s {e : SE} {r : Sto} (j : Nat) : entR (e :: r) (j + 1) = entR r j := by unfold entR; rfl
theorem set_new (j : Nat) (e : SE) : (S ++ L).set (S.length + j) e = S ++ L.set j e := by
  rw [List.set_append_right _ _ (Nat.le_add_right _ _), Nat.add_sub_cancel_left]
theorem set_new0 (e : SE) : (S ++ L).set S.length e = S ++ L.set 0 e := set_new 0 e
theorem set_old {e : AO} (h : entL S n = some e) (u : SE) : (S ++ L).set n u = S.set n u ++ L := by
  have hl : n < S.length := (List.getElem?_eq_some_iff.mp (entL_ok h)).1
  rw [List.set_append_left _ _ hl]
theorem len_new : (S ++ L).length = S.length + L.length := List.length_append
theorem app_one (e : SE) : (S ++ L) ++ [e] = S ++ (L ++ [e]) := List.append_assoc ..
theorem entL_set {e u : AO} (h : entL S n = some e) : entL (S.set n (.live u)) n = some u := by
  have hl : n < S.length := (List.getElem?_eq_some_iff.mp (entL_ok h)).1
  unfold entL
  rw [List.getElem?_set_self hl]
theorem entL_set_ne {k : Nat} {u : SE} (h : n ≠ k) : entL (S.set n u) k = entL S k := by
  unfold entL
  rw [List.getElem?_set_ne h]
theorem entR_set_ne {k : Nat} {u : SE} (h : n ≠ k) : entR (S.set n u) k = entR S k := by
  unfold entR
  rw [List.getElem?_set_ne h]
theorem entR_of {e : AO} (h : entL S n = some e) : entR S n = some e := by
  unfold entL at h
  unfold entR
  split at h
  · rename_i e2; rw [e2]; exact h
  · cases h
theorem set_set {u v : SE} : (S.set n u).set n v = S.set n v := List.set_set ..
/-! what is read -/
theorem insM_ins {gs : List (Str × PV)} : insM S (.pv (.ins C gs)) = some (C, gs.map mk2) := rfl
theorem insM_hnd (h : entL S n = some (.ins C fs)) : insM S (.hnd n) = some (C, fs) := by
  unfold insM insA
  simp only [h]
theorem lstA_pv {xs : List PV} : lstA S (.pv (.lst xs)) = some (xs.map .pv) := rfl
theorem lstB_pv {xs : List PV} : lstB S (.pv (.lst xs)) = some (xs.map .pv) := rfl
theorem lstA_tup {xs : List PV} : lstA S (.pv (.tup xs)) = none := rfl
theorem lstB_tup {xs : List PV} : lstB S (.pv (.tup xs)) = none := rfl
theorem lstA_hnd {xs : List AV} (h : entL S n = some (.lst xs)) : lstA S (.hnd n) = some xs := by unfold lstA; simp only [h]
theorem lstB_hnd {xs : List AV} (h : entR S n = some (.lst xs)) : lstB S (.hnd n) = some xs := by unfold lstB; simp only [h]
theorem tupA_tup {xs : List PV} : tupA (.pv (.tup xs)) = some xs := rfl
theorem tupA_lst {xs : List PV} : tupA (.pv (.lst xs)) = none := rfl
theorem tupA_hnd : tupA (.hnd n) = none := rfl
theorem seqA_lst {xs : List PV} : seqA S (.pv (.lst xs)) = some (xs.map .pv) := rfl
theorem seqA_tup {xs : List PV} : seqA S (.pv (.tup xs)) = some (xs.map .pv) := rfl
theorem seqA_hnd : seqA S (.hnd n) = lstB S (.hnd n) := rfl
theorem dicA_pv {xs : List (KC × PV)} : dicA S (.pv (.dic xs)) = some (xs.map mk2) := rfl
theorem dicA_hnd {xs : List (KC × AV)} (h : entR S n = some (.dic xs)) : dicA S (.hnd n) = some xs := by unfold dicA; simp only [h]
theorem extA_lst {xs : List PV} : extA S (.pv (.lst xs)) = some (xs.map .pv) := rfl
theorem extA_tup {xs : List PV} : extA S (.pv (.tup xs)) = some (xs.map .pv) := rfl
theorem extA_hnd : extA S (.hnd n) = lstA S (.hnd n) := rfl
/-! operators -/
variable {i j : Int} {a b : Cs} {p q : PV} {xs ys : List PV}
theorem aAdd_int : aAdd m (.pv (.int i)) (.pv (.int j)) S Q = Q (.pv (.int (i + j))) S := rfl
theorem aAdd_str : aAdd m (.pv (.str a)) (.pv (.str b)) S Q = (a.length + b.length ≤ line ∧ Q (.pv (.str (a ++ b))) S) := rfl
theorem aAdd_lst : aAdd false (.pv (.lst xs)) (.pv (.lst ys)) S Q = (xs.length + ys.length ≤ line ∧ Q (.pv (.lst (xs ++ ys))) S) := by
  show ((xs.map AV.pv).length + (ys.map AV.pv).length ≤ line ∧ alc false (.lst (xs.map AV.pv ++ ys.map AV.pv)) S Q) = _
  rw [List.length_map, List.length_map, ← List.map_append]
  have e : alc false (.lst ((xs ++ ys).map AV.pv)) S Q = Q (.pv (.lst (xs ++ ys))) S := by
    show (match (pvs ((xs ++ ys).map AV.pv)).map PV.lst with
      | some p => Q (.pv p) S
      | none => False) = _
    rw [pvs_map]
    rfl
  rw [e]
theorem aMul_int : aMul m (.pv (.int i)) (.pv (.int j)) S Q = (IMul i j ∧ Q (.pv (.int (i * j))) S) := rfl
theorem aMul_str : aMul m (.pv (.str a)) (.pv (.int j)) S Q = (-100 ≤ j ∧ j ≤ 100 ∧ a.length ≤ 100000 ∧ Q (.pv (.str (repC j a))) S) := rfl
theorem aI2_int {c : Int → Int → Prop} {f : Int → Int → PV} : aI2 c f (.pv (.int i)) (.pv (.int j)) S Q = (c i j ∧ Q (.pv (f i j)) S) := rfl
theorem aOrd_int {f : Int → Int → Bool} {g : Cs → Cs → Bool} : aOrd f g (.pv (.int i)) (.pv (.int j)) S Q = Q (.pv (.bl (f i j))) S := rfl
theorem aOrd_str {f : Int → Int → Bool} {g : Cs → Cs → Bool} : aOrd f g (.pv (.str a)) (.pv (.str b)) S Q = Q (.pv (.bl (g a b))) S := rfl
theorem aEq_int {g : Bool} : aEq g (.pv (.int i)) (.pv (.int j)) S Q = Q (.pv (.bl (g.xor (decide (i = j))))) S := rfl
theorem aEq_str {g : Bool} : aEq g (.pv (.str a)) (.pv (.str b)) S Q = Q (.pv (.bl (g.xor (decide (a = b))))) S := rfl
theorem aEq_bl {g c d : Bool} : aEq g (.pv (.bl c)) (.pv (.bl d)) S Q = Q (.pv (.bl (g.xor (decide (c = d))))) S := rfl
theorem aIs_bl {g c d : Bool} : aIs g (.pv (.bl c)) (.pv (.bl d)) S Q = Q (.pv (.bl (g.xor (decide (c = d))))) S := rfl
theorem aIs_non {g : Bool} : aIs g x (.pv .non) S Q = Q (.pv (.bl (g.xor (isNonA x)))) S := by
  cases x with
  | hnd n => rfl
  | pv p => cases p <;> rfl
theorem aIn_sign {g : Bool} {c : Nat} : aIn g (.pv (.str [c])) (.pv (.str b)) S Q = Q (.pv (.bl (g.xor (decide (c ∈ b))))) S := rfl
theorem aIn_tup {g : Bool} : aIn g (.pv p) (.pv (.tup xs)) S Q = (flatP p = true ∧ xs.all flatP = true ∧ Q (.pv (.bl (g.xor (inP p xs)))) S) := by
  have e : (seqA S (.pv (.tup xs))).bind pvs = some xs := by rw [seqA_tup]; exact pvs_map xs
  unfold aIn
  split
  · rename_i h; cases h
  · rw [e]
theorem aIn_lst {g : Bool} : aIn g (.pv p) (.pv (.lst xs)) S Q = (flatP p = true ∧ xs.all flatP = true ∧ Q (.pv (.bl (g.xor (inP p xs)))) S) := by
  have e : (seqA S (.pv (.lst xs))).bind pvs = some xs := by rw [seqA_lst]; exact pvs_map xs
  unfold aIn
  split
  · rename_i h; cases h
  · rw [e]
theorem aIx_str : aIx (.pv (.str a)) (.pv (.int i)) S Q = (a.length ≤ line ∧ (match atI a i with
    | some c => Q (.pv (.str [c])) S
    | none => False)) := rfl
theorem aIx_lst : aIx (.pv (.lst xs)) (.pv (.int i)) S Q = (match atI xs i with
    | some c => Q (.pv c) S
    | none => False) := by
  show (match atI (xs.map AV.pv) i with
    | some w => Q w S
    | none => False) = _
  unfold atI
  rw [List.length_map]
  cases ixN xs.length i with
  | none => rfl
  | some k =>
    show (match (xs.map AV.pv)[k]? with
      | some w => Q w S
      | none => False) = match xs[k]? with
      | some c => Q (.pv c) S
      | none => False
    rw [List.getElem?_map]
    cases xs[k]? <;> rfl
theorem aIx_tup : aIx (.pv (.tup xs)) (.pv (.int i)) S Q = (match atI xs i with
    | some c => Q (.pv c) S
    | none => False) := aIx_lst
theorem lk_mk2 {κ : Type} [DecidableEq κ] (k : κ) : ∀ kvs : List (κ × PV), lk (kvs.map mk2) k = (lk kvs k).map .pv
  | [] => rfl
  | (a, p) :: r => by
    have ih := lk_mk2 k r
    unfold lk at ih ⊢
    rw [List.map_cons, List.find?_cons, List.find?_cons]
    by_cases h : a = k
    · simp [mk2, h]
    · simp [mk2, h]
      simpa using ih
theorem aIx_dic {kvs : List (KC × PV)} {k : KC} (h : keyO q = some k) : aIx (.pv (.dic kvs)) (.pv q) S Q = (match lk kvs k with
    | some w => Q (.pv w) S
    | none => False) := by
  have e := lk_mk2 k kvs
  cases q with
  | int i =>
    cases h
    show (match (some (lk (kvs.map mk2) (.inl i))) with
      | some (some w) => Q w S
      | _ => False) = _
    rw [e]
    cases lk kvs (.inl i) <;> rfl
  | str c =>
    cases h
    show (match (some (lk (kvs.map mk2) (.inr c))) with
      | some (some w) => Q w S
      | _ => False) = _
    rw [e]
    cases lk kvs (.inr c) <;> rfl
  | _ => cases h
theorem aIx_hdic {kvs : List (KC × AV)} {k : KC} (e : entR S n = some (.dic kvs)) (h : keyO q = some k) : aIx (.hnd n) (.pv q) S Q = (match lk kvs k with
    | some w => Q w S
    | none => False) := by
  have e2 : seqA S (.hnd n) = none := by
    show lstB S (.hnd n) = none
    unfold lstB
    simp only [e]
  have e3 : dicA S (.hnd n) = some kvs := dicA_hnd e
  have e4 : dGet S (.hnd n) (.pv q) = some (lk kvs k) := by
    unfold dGet
    cases q <;> first | (cases h; done) | (cases h; simp only [keyO, e3])
  cases q with
  | int i =>
    simp only [aIx, e2, e4]
    cases lk kvs k <;> rfl
  | str c =>
    simp only [aIx, e2, e4]
    cases lk kvs k <;> rfl
  | _ => cases h
theorem aIx_hlst {zs : List AV} (e : entR S n = some (.lst zs)) : aIx (.hnd n) (.pv (.int i)) S Q = (match atI zs i with
    | some w => Q w S
    | none => False) := by
  have e2 : seqA S (.hnd n) = some zs := lstB_hnd e
  simp only [aIx, e2]
  all_goals (cases atI zs i <;> rfl)
theorem aSl_str {lo hi : Option Int} : aSl m (.pv (.str a)) lo hi S Q = (a.length ≤ line ∧ Q (.pv (.str (cutA a lo hi))) S) := rfl
theorem aNeg_int : aNeg (.pv (.int i)) S Q = Q (.pv (.int (-i))) S := rfl
variable {R : QT}
theorem aTr_non : aTr (.pv .non) S R = R false S := rfl
theorem aTr_bl {c : Bool} : aTr (.pv (.bl c)) S R = R c S := rfl
theorem aTr_int : aTr (.pv (.int i)) S R = R (i != 0) S := rfl
theorem aTr_str : aTr (.pv (.str a)) S R = (a.length ≤ line ∧ R (!a.isEmpty) S) := rfl
theorem bl?_bl {c : Bool} : bl? (.pv (.bl c)) = some c := rfl
/-! built-ins -/
theorem aLen_str : aLen [.pv (.str a)] S Q = (a.length ≤ line ∧ Q (.pv (.int a.length)) S) := rfl
theorem aLen_lst : aLen [.pv (.lst xs)] S Q = Q (.pv (.int xs.length)) S := by
  show Q (.pv (.int (xs.map AV.pv).length)) S = _
  rw [List.length_map]
theorem aLen_tup : aLen [.pv (.tup xs)] S Q = Q (.pv (.int xs.length)) S := by
  show Q (.pv (.int (xs.map AV.pv).length)) S = _
  rw [List.length_map]
theorem aLen_hlst {zs : List AV} (e : entR S n = some (.lst zs)) : aLen [.hnd n] S Q = Q (.pv (.int zs.length)) S := by
  have e2 : seqA S (.hnd n) = some zs := lstB_hnd e
  have e3 : dicA S (.hnd n) = none := by unfold dicA; simp only [e]
  simp only [aLen, e2, e3]
theorem aInt_int : aInt [.pv (.int i)] S Q = Q (.pv (.int i)) S := rfl
theorem aInt_bl {c : Bool} : aInt [.pv (.bl c)] S Q = Q (.pv (.int (if c then 1 else 0))) S := rfl
theorem aTupF_lst : aTupF [.pv (.lst xs)] S Q = Q (.pv (.tup xs)) S := by
  show (match (some (xs.map AV.pv)).bind pvs with
    | some ys => Q (.pv (.tup ys)) S
    | none => False) = _
  rw [Option.bind_some, pvs_map]
theorem alc_t : alc true o S Q = Q (.hnd S.length) (S ++ [.live o]) := rfl
theorem alc_lst {zs : List AV} {ps : List PV} (h : pvs zs = some ps) : alc false (.lst zs) S Q = Q (.pv (.lst ps)) S := by
  show (match (pvs zs).map PV.lst with
    | some p => Q (.pv p) S
    | none => False) = _
  rw [h]
  rfl
theorem alc_dic {kvs : List (KC × AV)} {ks : List (KC × PV)} (h : pvk kvs = some ks) : alc false (.dic kvs) S Q = Q (.pv (.dic ks)) S := by
  show (match (pvk kvs).map PV.dic with
    | some p => Q (.pv p) S
    | none => False) = _
  rw [h]
  rfl
theorem aListF_lst : aListF false [.pv (.lst xs)] S Q = Q (.pv (.lst xs)) S := by
  show alc false (.lst (xs.map AV.pv)) S Q = _
  exact alc_lst (pvs_map xs)
theorem pvs_nil : pvs [] = some [] := rfl
theorem pvs_cons {r : List AV} : pvs (.pv p :: r) = (pvs r).map (p :: ·) := rfl
theorem pvk_nil {κ : Type} : pvk ([] : List (κ × AV)) = some [] := rfl
theorem pvk_cons {κ : Type} {k : κ} {r : List (κ × AV)} : pvk ((k, .pv p) :: r) = (pvk r).map ((k, p) :: ·) := rfl
theorem aTyM_str : aTyM S "str" (.pv (.str a)) = True := by unfold aTyM; simp
theorem aTyM_lst : aTyM S "list" (.pv (.lst xs)) = True := by unfold aTyM; simp
theorem aTyM_hnd {zs : List AV} (e : entL S n = some (.lst zs)) : aTyM S "list" (.hnd n) = True := by
  unfold aTyM
  simp only [entL_ok e]
theorem aJoin_lst {ss : List Cs} (h : strsP (xs.map AV.pv) = some ss) : aJoin (.pv (.str a)) [.pv (.lst xs)] S Q = (((ss.map List.length).sum + ss.length * a.length ≤ line) ∧ Q (.pv (.str (joinC a ss))) S) := by
  show (match (some (xs.map AV.pv)).bind strsP with
    | some ys => _
    | none => False) = _
  rw [Option.bind_some, h]
theorem aApp_hnd {zs : List AV} (e : entL S n = some (.lst zs)) : aApp (.hnd n) [y] S Q = (zs.length < line ∧ Q (.pv .non) (S.set n (.live (.lst (zs ++ [y]))))) := by
  unfold aApp
  simp only [e]
theorem aExt_hnd {zs ys : List AV} (e : entL S n = some (.lst zs)) (h : extA S y = some ys) : aExt (.hnd n) [y] S Q = (zs.length + ys.length ≤ line ∧ Q (.pv .non) (S.set n (.live (.lst (zs ++ ys))))) := by
  unfold aExt
  simp only [e, h]
theorem setEnv0 {σ : List (Option AV)} {e u : Option AV} : (e :: σ).set 0 u = u :: σ := rfl
theorem setEnvS {σ : List (Option AV)} {e u : Option AV} (k : Nat) : (e :: σ).set (k + 1) u = e :: σ.set k u := rfl
end
/-- a loop, by what holds behind the items so far -/
theorem forL_inv {α : Type} {bind : IV → AEnv → Option AEnv} {ok : Sto → Prop} {body : ATS} {E : AEnds} (P : List α → AEnv → Sto → Prop) (g : α → IV) (all : List α)
    (hs : ∀ done x rest σ S (N : AEnv → Sto → Prop), all = done ++ x :: rest → P done σ S → (∀ σ S, P (done ++ [x]) σ S → N σ S) → ok S ∧ ∃ σ', bind (g x) σ = some σ' ∧ body { E with nx := N, ct := N, bk := E.nx } σ' S)
    (hd : ∀ σ S, P all σ S → ok S ∧ E.nx σ S) : ∀ (xs done : List α) σ S, all = done ++ xs → P done σ S → aForL bind ok body E (xs.map g) σ S
  | [], done, σ, S, e, p => by
    rw [List.append_nil] at e
    subst e
    exact hd σ S p
  | x :: r, done, σ, S, e, p => by
    obtain ⟨o, σ', hb, q⟩ := hs done x r σ S (aForL bind ok body E (r.map g)) e p fun σ S p' => forL_inv P g all hs hd r (done ++ [x]) σ S (by rw [e, List.append_assoc]; rfl) p'
    refine ⟨o, ?_⟩
    rw [hb]
    exact q
/-- while, by what holds with so many turns left -/
theorem whN_inv {c : AEnv → Sto → QT → Prop} {body : ATS} {E : AEnds} (P : Nat → AEnv → Sto → Prop) (h0 : ∀ σ S, P 0 σ S → False)
    (hs : ∀ n σ S (N : AEnv → Sto → Prop), P (n + 1) σ S → (∀ σ S, P n σ S → N σ S) → c σ S fun b S1 => match b with
      | true => body { E with nx := N, ct := N, bk := E.nx } σ S1
      | false => E.nx σ S1) : ∀ n σ S, P n σ S → aWhN c body E n σ S
  | 0, σ, S, p => (h0 σ S p).elim
  | n + 1, σ, S, p => hs n σ S (aWhN c body E n) p fun σ S p' => whN_inv P h0 hs n σ S p'
/-- a promise without the store -/
def pF (f : List PV → Option PV) : ASp := fun ws S Q _ => match pvs ws with
  | some ps => (match f ps with
    | some r => Q (.pv r) S
    | none => False)
  | none => False
end Rf
set_option Elab.async false
set_option autoImplicit false
set_option linter.all false
set_option maxRecDepth 100000
set_option maxHeartbeats 4000000
/-! From the head's facts to the tables of a def over trees and the store. -/
namespace Rf
open PySem PySem.Spec PyProof.Rows L2
section
variable {P : Program} {w : World} {K : Fg} {mg : Str → Option Value} {base : Heap} {k : Nat}
/-- a method that keeps its promise, where it stands -/
def MtAt (P : Program) (w : World) (K : Fg) (mg : Str → Option Value) (base : Heap) (k : Nat) (C : Addr) (m : Str) (ps : List Str) (s : Sp) : Prop :=
  ∃ fd, Meth K C m (He.ma K C m) ∧ FnOk P w K mg base (L2.CX P w) k (He.ma K C m) fd ps s ∧ Binds K fd ps []
theorem MtAt.up {j : Nat} {C : Addr} {m : Str} {ps : List Str} {s : Sp} (h : MtAt P w K mg base j C m ps s) (l : j ≤ k) : MtAt P w K mg base k C m ps s := by
  obtain ⟨fd, h1, h2, h3⟩ := h
  exact ⟨fd, h1, h2.mono l, h3⟩
abbrev MeTab := List (Addr × Str × Nat × ASp)
def meOf (l : MeTab) : Addr → Str → Option (Nat × ASp) := fun C m => (l.find? fun e => decide (e.1 = C ∧ e.2.1 = m)).map (·.2.2)
theorem meOf_here {C : Addr} {m : Str} {p : Nat × ASp} {r : MeTab} : meOf ((C, m, p) :: r) C m = some p := by
  unfold meOf
  rw [List.find?_cons_of_pos (by simp)]
  rfl
theorem meOf_skip {C D : Addr} {m n : Str} {p : Nat × ASp} {r : MeTab} (h : ¬ (C = D ∧ m = n)) : meOf ((C, m, p) :: r) D n = meOf r D n := by
  unfold meOf
  rw [List.find?_cons_of_neg (by simpa using h)]
inductive MeLs (P : Program) (w : World) (K : Fg) (mg : Str → Option Value) (base : Heap) (k : Nat) : MeTab → Prop
  | nil : MeLs P w K mg base k []
  | cons {C : Addr} {m : Str} {ps : List Str} {asp : ASp} {j : Nat} {r : MeTab} (c : Cls K C) (h : MtAt P w K mg base j C m ps (lift K ps.length asp)) (l : j ≤ k) (t : MeLs P w K mg base k r) : MeLs P w K mg base k ((C, m, ps.length, asp) :: r)
theorem MeLs.meG {l : MeTab} (h : MeLs P w K mg base k l) : MeG P w K mg base k fun C m => (meOf l C m).map (liftP K) := by
  induction h with
  | nil => intro C m sp e; cases e
  | @cons C m ps asp j r c h l t ih =>
    intro D n sp e
    by_cases hz : C = D ∧ m = n
    · obtain ⟨rfl, rfl⟩ := hz
      have e : (meOf ((C, m, ps.length, asp) :: r) C m).map (liftP K) = some sp := e
      rw [meOf_here] at e
      cases e
      obtain ⟨fd, h1, h2, h3⟩ := h
      exact ⟨_, fd, ps, c, h1, h2.mono l, h3⟩
    · have e : (meOf ((C, m, ps.length, asp) :: r) D n).map (liftP K) = some sp := e
      rw [meOf_skip hz] at e
      exact ih D n sp e
theorem FnOk.vac {f : Addr} {fd : FuncData} {ps : List Str} {s : Sp} (h : ∀ vs H Q E, s vs H Q E → False) : FnOk P w K mg base (L2.CX P w) k f fd ps s :=
  ⟨fun vs H Q E z => (h vs H Q E z).elim, fun A outer s H args us vs Q E hr e0 hb r hs => (h _ _ _ _ hs).elim⟩
theorem lift_vac {n : Nat} {asp : ASp} (h : ∀ ws S Q E, asp ws S Q E → False) : ∀ vs H Q E, lift K n asp vs H Q E → False := fun vs H Q E z => by
  obtain ⟨_, _, _, _, _, _, _, _, _, _, q, _⟩ := z
  exact h _ _ _ _ q
/-- a class that is made by its __init__ -/
def IniAt (P : Program) (w : World) (K : Fg) (mg : Str → Option Value) (base : Heap) (k : Nat) (x : Str) (ps : List Str) (s : Sp) : Prop :=
  ∃ fd, mg x = some (.ref (He.ga K x)) ∧ Mk K (He.ga K x) (He.ma K (He.ga K x) "__init__") ∧ FnOk P w K mg base (L2.CX P w) k (He.ma K (He.ga K x) "__init__") fd ps s ∧ Binds K fd ps []
theorem IniAt.cons {j : Nat} {x : Str} {ps : List Str} {s : Sp} {xs : List Str} {ms : List (Addr × Sp)} (h : IniAt P w K mg base j x ps s) (l : j + 1 ≤ k) (t : MkL P w K mg base k xs ms) : MkL P w K mg base k (x :: xs) ((He.ga K x, s) :: ms) := by
  obtain ⟨fd, h1, h2, h3, h4⟩ := h
  exact .cons h1 h2 h3 h4 l t
def ExiAt (P : Program) (w : World) (K : Fg) (mg : Str → Option Value) (base : Heap) (k : Nat) (x : Str) (ps : List Str) (s : Sp) : Prop :=
  ∃ fd, mg x = some (.ref (He.ga K x)) ∧ OexC K (He.ga K x) ∧ PySem.W.findIn K (.ref (He.ga K x)) "__init__" = some (some (.ref (He.ma K (He.ga K x) "__init__"))) ∧ PySem.W.typeIn K (.ref (He.ma K (He.ga K x) "__init__")) = some (.type "function") ∧
    FnOk P w K mg base (L2.CX P w) k (He.ma K (He.ga K x) "__init__") fd ps s ∧ Binds K fd ps []
theorem ExiAt.cons {j : Nat} {x : Str} {ps : List Str} {s : Sp} {xs : List Str} {ms : List (Addr × Sp)} (h : ExiAt P w K mg base j x ps s) (l : j + 1 ≤ k) (t : ExiL P w K mg base k xs ms) : ExiL P w K mg base k (x :: xs) ((He.ga K x, s) :: ms) := by
  obtain ⟨fd, h1, h2, h3, h4, h5, h6⟩ := h
  exact .cons h1 h2 h3 h4 h5 h6 l t
end
/-- the check of an own error with an __init__ -/
def oexB (K : Fg) (C : Addr) : Bool := (match K.lookup C with
  | some ⟨.type "type", _, .cls cd, sl⟩ => (match cd.mro, sl.toList with
    | .ref D :: bm, [_, _, _, _, some (.builtin n), _] => decide (D = C) && (decide (n = "ValueError.__new__") && (!cd.hasDel && (cd.hasDict && PySem.HandSPX.refsVE bm)))
    | _, _ => false)
  | _ => false) && (He.eqO (PySem.W.findIn K (.ref C) "__setattr__") (some (some (.builtin "object.__setattr__"))) && (decide (PySem.W.subIn K (.ref C) (.type "BaseException") = some true) && (decide (PySem.W.typeIn K (.ref C) = some (.type "type")) && PySem.W.keepIn K (.ref C))))
theorem oexB_ok {K : Fg} {C : Addr} (h : oexB K C = true) : OexC K C := by
  unfold oexB at h
  rw [Bool.and_eq_true] at h
  obtain ⟨h1, h2⟩ := h
  simp only [Bool.and_eq_true] at h2
  obtain ⟨e2, e3, e4, e5⟩ := h2
  refine ⟨?_, He.eqO_ok e2, of_decide_eq_true e3, of_decide_eq_true e4, e5⟩
  split at h1
  · rename_i dd cd sl ho
    split at h1
    · rename_i D bm a0 a1 a2 a3 n a5 hm hs
      simp only [Bool.and_eq_true, decide_eq_true_eq, Bool.not_eq_true'] at h1
      obtain ⟨rfl, rfl, hdel, hdict, ht⟩ := h1
      obtain ⟨nm, bs, mro, ns, qn, hd, sn, sub, ab, col, del⟩ := cd
      dsimp only at hm hdel hdict
      subst hm hdel hdict
      have hsl : sl = #[a0, a1, a2, a3, some (.builtin "ValueError.__new__"), a5] := by
        obtain ⟨l⟩ := sl
        simp only at hs
        rw [hs]
      subst hsl
      exact ⟨nm, qn, ns, bs, bm, sn, sub, ab, col, dd, a0, a1, a2, a3, a5, ho, ht⟩
    · cases h1
  · cases h1
def insB (K : Fg) (C : Addr) : Bool := He.eqO (PySem.W.findIn K (.ref C) "__class__") (some (some (.builtin "object.__class__"))) && (He.eqO (PySem.W.specialIn K (.builtin "object.__class__") "__get__") (some (some (.builtin "getset_descriptor.__get__"))) &&
  (decide (PySem.W.takesIn K (.builtin "object.__class__") = some true) && (decide (PySem.W.mroIn K C (.type "object") = some true) && kB K (.ref C) (.ref C) true)))
theorem insB_ok {K : Fg} {C : Addr} (c : Cls K C) (h : insB K C = true) : InsC K C := by
  unfold insB at h
  simp only [Bool.and_eq_true] at h
  obtain ⟨e1, e2, e3, e4, e5⟩ := h
  exact ⟨c, He.eqO_ok e1, He.eqO_ok e2, of_decide_eq_true e3, of_decide_eq_true e4, kB_ok e5⟩
theorem ints_rel {K : Fg} {A : List Addr} {F : Hp} : ∀ ns : List Int, Paired (Rv K A F) (ns.map V.int) (ns.map fun z => AV.pv (.int z))
  | [] => .nil
  | n :: r => .cons (.int n) (ints_rel r)
/-- the law is called with a list of ints that is locked -/
theorem lift_law {K : Fg} {H : Hp} {a : Addr} {ob : Obj} {ns : List Int} {asp : ASp} {Q : VK} {E : XK} (hH : H a = some (.frz ob (.lst (ns.map V.int)))) (ht : Only H)
    (h : asp [.hnd 0] [.lock (.lst (ns.map fun z => .pv (.int z)))] (fun w _ => w = .pv (.bl true)) fun _ _ _ => False) (q : ∀ H', Q (.bl true) H') : lift K 1 asp [.ref a] H Q E := by
  refine ⟨rfl, [a], fun _ => none, fun _ => none, [.lock (.lst (ns.map fun z => .pv (.int z)))], [.hnd 0], _, _, ⟨rfl, fun b o e => (by cases e), fun n o e => ?_, fun n o e => ?_, fun n m e e' b h1 h2 h3 h4 h5 h6 => ?_, fun b o e => (by cases e), fun b ks e => ?_⟩, .cons ⟨a, rfl, rfl⟩ .nil, h, fun A' F' S' H' v w z st ex rv => ?_, fun _ _ _ _ _ _ _ z => z.elim⟩
  · match n, e with
    | 0, e => cases e
    | n + 1, e => cases e
  · match n, e with
    | 0, e =>
      cases e
      exact ⟨a, ob, _, rfl, rfl, rfl, hH, ns.map V.int, rfl, ints_rel ns⟩
    | n + 1, e => cases e
  · match n, m, h1, h2 with
    | 0, 0, _, _ => rfl
    | 0, m + 1, _, h2 => cases h2
    | n + 1, _, h1, _ => cases h1
  · rcases ht b with z | ⟨_, _, z⟩
    · rw [z] at e; cases e
    · rw [z] at e; cases e
  · subst z
    have rv : Rl K F' v (.bl true) := rv
    cases rv
    exact q H'
end Rf
/-! the end of a law, with the script's bits told -/
namespace L2
open PySem PySem.Spec PyProof.Rows
theorem walk_ofEB {l : PySem.W.OpenLaw} {n k : Nat} {q : Program} {loose : List Str} {XP : (Str → Option Value) → Heap → Prop} {YP : World → Heap → Prop} {d : DefRec} {CX : CXT} {x : Str}
    (hn : l.most = some n) (hn2 : n ≤ sizeLine) (hdf : d.params.defaults = []) (hr : Room k callerA)
    (F : ∀ (w : World) (mg : Str → Option Value) (fa : Addr) (h : Heap), YP w h → h.Ns mainGlobals mg → mg d.name = some (.ref fa) →
      ∃ (K : PySem.W.Frag) (fd : FuncData) (sp : Sp), K.In h ∧ (∀ (s : Shared) (u : Value), BindsTo s fd ⟨[u], []⟩ [(x, u)]) ∧
        (∀ (H : Hp) (a : Addr) (ns : List Int), ns.length ≤ n → (∀ z ∈ ns, Builtin.Int.intBits z ≤ 1048576) → Only H → SqL K H a (ns.map V.int) → sp [.ref a] H (fun v _ => v = .bl true) fun _ _ _ => False) ∧
        ∀ base : Heap, K.In base → base.Ns mainGlobals mg → FnOk l.prog w K mg base CX k fa fd [x] sp)
    (hCX : ∀ (H : Hp) (s : Shared) (e : Value) (s' : Shared), CX [] H s (fun _ _ _ => False) e s' → False) :
    PySem.W.WalkO q loose XP YP l.row.toRowW d [] (fun f vs => PySem.call f vs) := by
  refine Att.attach_callB hn hdf fun w s₀ s₁ mg mb fa o pm cd doc a vs ns G Y ho hd hcd hmg hobj hints hlen hbits hg => ?_
  obtain ⟨K, fd, sp, KX, hb, hsp, hF⟩ := F w mg fa _ Y G.T.g hmg
  exact law_call KX G.T.g G.T.b G.T.builtins G.T.nolimit hg hobj hints (Nat.le_trans hlen hn2) hr hF hb (fun H hO hS => hsp H a ns hlen hbits hO hS) fun H e s' => hCX H s₁ e s'
end L2
namespace Rf
open PySem PySem.Spec PyProof.Rows L2
section
variable {P : Program} {w : World} {K : Fg} {mg : Str → Option Value} {base : Heap} {k : Nat}
theorem top_of {x qual : Str} {params : Arguments} {body : List Stmt} {sc : Scope} {ps : List Str} {s : Sp} (F : ∃ fd, FunD K x qual params body sc [] [] (He.ga K x) fd) (m : mg x = some (.ref (He.ga K x)))
    (hb : ∀ (kV doc pm : Value) (an : Option Addr) (cdv ct : Value) (us : List Value), us.length = ps.length → bindArgs (PySem.W.fnOf x qual params body sc .none kV doc pm an cdv ct) ⟨us, []⟩ = pure (ps.zip us))
    (h : ∀ fd, FunD K x qual params body sc [] [] (He.ga K x) fd → FnOk P w K mg base (L2.CX P w) k (He.ga K x) fd ps s) : OkAt P w K mg base k x ps s := by
  obtain ⟨fd, F⟩ := F
  exact ⟨fd, m, F.kp, h fd F, F.bindsN hb⟩
theorem mt_of {x qual : Str} {params : Arguments} {body : List Stmt} {sc : Scope} {C : Addr} {ps : List Str} {s : Sp} (F : ∃ fd, FunD K x qual params body sc [] [] (He.ma K C x) fd) (m : Meth K C x (He.ma K C x))
    (hb : ∀ (kV doc pm : Value) (an : Option Addr) (cdv ct : Value) (us : List Value), us.length = ps.length → bindArgs (PySem.W.fnOf x qual params body sc .none kV doc pm an cdv ct) ⟨us, []⟩ = pure (ps.zip us))
    (h : ∀ fd, FunD K x qual params body sc [] [] (He.ma K C x) fd → FnOk P w K mg base (L2.CX P w) k (He.ma K C x) fd ps s) : MtAt P w K mg base k C x ps s := by
  obtain ⟨fd, F⟩ := F
  exact ⟨fd, m, h fd F, F.bindsN hb⟩
theorem ini_of {x qual : Str} {params : Arguments} {body : List Stmt} {sc : Scope} {ps : List Str} {s : Sp} (F : ∃ fd, FunD K "__init__" qual params body sc [] [] (He.ma K (He.ga K x) "__init__") fd) (g : mg x = some (.ref (He.ga K x))) (m : Mk K (He.ga K x) (He.ma K (He.ga K x) "__init__"))
    (hb : ∀ (kV doc pm : Value) (an : Option Addr) (cdv ct : Value) (us : List Value), us.length = ps.length → bindArgs (PySem.W.fnOf "__init__" qual params body sc .none kV doc pm an cdv ct) ⟨us, []⟩ = pure (ps.zip us))
    (h : ∀ fd, FunD K "__init__" qual params body sc [] [] (He.ma K (He.ga K x) "__init__") fd → FnOk P w K mg base (L2.CX P w) k (He.ma K (He.ga K x) "__init__") fd ps s) : IniAt P w K mg base k x ps s := by
  obtain ⟨fd, F⟩ := F
  exact ⟨fd, g, m, h fd F, F.bindsN hb⟩
theorem exi_of {x qual : Str} {params : Arguments} {body : List Stmt} {sc : Scope} {ps : List Str} {s : Sp} (F : ∃ fd, FunD K "__init__" qual params body sc [] [] (He.ma K (He.ga K x) "__init__") fd) (g : mg x = some (.ref (He.ga K x))) (T : OexC K (He.ga K x))
    (i : PySem.W.findIn K (.ref (He.ga K x)) "__init__" = some (some (.ref (He.ma K (He.ga K x) "__init__")))) (y : PySem.W.typeIn K (.ref (He.ma K (He.ga K x) "__init__")) = some (.type "function"))
    (hb : ∀ (kV doc pm : Value) (an : Option Addr) (cdv ct : Value) (us : List Value), us.length = ps.length → bindArgs (PySem.W.fnOf "__init__" qual params body sc .none kV doc pm an cdv ct) ⟨us, []⟩ = pure (ps.zip us))
    (h : ∀ fd, FunD K "__init__" qual params body sc [] [] (He.ma K (He.ga K x) "__init__") fd → FnOk P w K mg base (L2.CX P w) k (He.ma K (He.ga K x) "__init__") fd ps s) : ExiAt P w K mg base k x ps s := by
  obtain ⟨fd, F⟩ := F
  exact ⟨fd, g, T, i, y, h fd F, F.bindsN hb⟩
end
end Rf
set_option Elab.async false
set_option autoImplicit false
set_option linter.all false
set_option maxRecDepth 100000
set_option maxHeartbeats 4000000
/-! Law k04 in plain terms: trees of words, as drawn, as texts, flat. -/
namespace K04
open PySem PySem.Spec PyProof.Rows L2 Rf
inductive Tr where
  | step (kind : Cs) (back : Bool)
  | often (t : Tr) (sign : Nat)
  | node (row : Bool) (ts : List Tr)
def drawn (c k : Int) : Int := (c + 7919 * k + 3) * (c + 7919 * k + 3) % 2147483647 * 48271 % 2147483647
theorem drawn_bd (c k : Int) : 0 ≤ drawn c k ∧ drawn c k < 2147483647 := by
  unfold drawn
  exact ⟨Int.emod_nonneg _ (by decide), Int.emod_lt_of_pos _ (by decide)⟩
def ABC : Cs := (List.range 26).map (97 + ·)
def kindOf (n : Int) : Cs := (List.range (1 + n % 8).toNat).map fun (j : Nat) => ABC.getD ((n / 8 + (j : Int) * (1 + n / 208 % 25)) % 26).toNat 0
/-- what the state holds beside the cell -/
structure Sta where
  at_ : Int
  left : Int
def sign3 (n : Int) : Nat := [42, 43, 63].getD n.toNat 0
mutual
/-- the drawn tree, and the state behind it -/
def treeOf (c : Int) : Nat → Sta → Tr × Sta
  | 0, s => (.step (kindOf (drawn c (s.at_ + 2))) (decide (drawn c (s.at_ + 1) / 8 % 3 = 1)), ⟨s.at_ + 2, s.left⟩)
  | d + 1, s =>
    let n := drawn c (s.at_ + 1)
    let many := 2 + n / 8 % 3
    if n % 8 < 2 ∨ (n % 8 < 6 ∧ s.left < many - 1) then (.step (kindOf (drawn c (s.at_ + 2))) (decide (n / 8 % 3 = 1)), ⟨s.at_ + 2, s.left⟩)
    else if 5 < n % 8 then
      let r := treeOf c d ⟨s.at_ + 1, s.left⟩
      (.often r.1 (sign3 (n / 8 % 3)), r.2)
    else
      let r := treesOf c d many.toNat ⟨s.at_ + 1, s.left - (many - 1)⟩
      (.node (decide (n % 2 = 0)) r.1, r.2)
  termination_by d _ => (d, 0)
def treesOf (c : Int) : Nat → Nat → Sta → List Tr × Sta
  | _, 0, s => ([], s)
  | d, m + 1, s =>
    let r := treeOf c d s
    let q := treesOf c d m r.2
    (r.1 :: q.1, q.2)
  termination_by d m _ => (d, m + 1)
end
def Tr.strength : Tr → Nat
  | .node false _ => 0
  | .node true _ => 1
  | .often _ _ => 2
  | .step _ _ => 3
mutual
/-- all steps -/
def Tr.steps : Tr → Nat
  | .step _ _ => 1
  | .often t _ => t.steps
  | .node _ ts => stepsL ts
def stepsL : List Tr → Nat
  | [] => 0
  | t :: r => t.steps + stepsL r
end
mutual
def Tr.isNone : Tr → Bool
  | .step _ _ => false
  | .often t s => decide (s ≠ 43) || t.isNone
  | .node true ts => allN ts
  | .node false ts => anyN ts
def allN : List Tr → Bool
  | [] => true
  | t :: r => t.isNone && allN r
def anyN : List Tr → Bool
  | [] => false
  | t :: r => t.isNone || anyN r
end
mutual
/-- no row in a row, no choice in a choice -/
def Tr.flat : Tr → Tr
  | .step k b => .step k b
  | .often t s => .often t.flat s
  | .node row ts => .node row (flatL row ts)
def flatL (row : Bool) : List Tr → List Tr
  | [] => []
  | t :: r => (match t.flat with
    | .node row' us => if row' = row then us else [.node row' us]
    | u => [u]) ++ flatL row r
end
def glue (c : Nat) : List Cs → Cs
  | [] => []
  | [a] => a
  | a :: b :: r => a ++ c :: glue c (b :: r)
def wrap (b : Bool) (x : Cs) : Cs := if b = true then 40 :: (x ++ [41]) else x
mutual
/-- the text without brackets that aren't wanted -/
def Tr.text : Tr → Nat → Cs
  | .step k b, _ => wrap false ((if b = true then [45] else []) ++ k)
  | .often t s, l => wrap (decide (2 < l)) (t.text 3 ++ [s])
  | .node true ts, l => wrap (decide (1 < l)) (glue 46 (textL ts 2))
  | .node false ts, l => wrap (decide (0 < l)) (glue 124 (textL ts 1))
def textL : List Tr → Nat → List Cs
  | [], _ => []
  | t :: r, l => t.text l :: textL r l
end
end K04
set_option Elab.async false
set_option autoImplicit false
set_option linter.all false
set_option maxRecDepth 100000
set_option maxHeartbeats 4000000
/-! Law k04: texts that are read, and the tree that reading gives. -/
namespace K04
open PySem PySem.Spec PyProof.Rows L2 Rf
def flatK (row : Bool) (ts : List Tr) : List Tr := ts.flatMap fun t => match t with
  | .node r us => if r = row then us else [.node r us]
  | u => [u]
def joinT (row : Bool) (ts : List Tr) : Tr := match flatK row ts with
  | [t] => t
  | us => .node row us
mutual
inductive Tx : Nat → Nat → Cs → Tr → Prop
  | step {d : Nat} {k : Cs} {b : Bool} : 1 ≤ k.length → k.length ≤ 8 → (∀ c ∈ k, 97 ≤ c ∧ c ≤ 122) → Tx 3 d ((if b = true then [45] else []) ++ k) (.step k b)
  | brk {d : Nat} {x : Cs} {t : Tr} : Tx 0 d x t → Tx 3 (d + 1) (40 :: (x ++ [41])) t
  | atom {d : Nat} {x : Cs} {t : Tr} : Tx 3 d x t → Tx 2 d x t
  | oft {d : Nat} {x : Cs} {t : Tr} {s : Nat} : Tx 3 d x t → (s = 42 ∨ s = 43 ∨ s = 63) → Tx 2 d (x ++ [s]) (.often t s)
  | row {d : Nat} {xs : List Cs} {ts : List Tr} : TxL 2 d xs ts → xs ≠ [] → Tx 1 d (glue 46 xs) (joinT true ts)
  | choice {d : Nat} {xs : List Cs} {ts : List Tr} : TxL 1 d xs ts → xs ≠ [] → Tx 0 d (glue 124 xs) (joinT false ts)
inductive TxL : Nat → Nat → List Cs → List Tr → Prop
  | nil {l d : Nat} : TxL l d [] []
  | cons {l d : Nat} {x : Cs} {xs : List Cs} {t : Tr} {ts : List Tr} : Tx l d x t → TxL l d xs ts → TxL l d (x :: xs) (t :: ts)
end
/-- one sign's text, twice wrapped or not, as the law draws it -/
def dress (st l : Nat) (n : Int) (x : Cs) : Cs := wrap (decide (n % 7 = 1)) (wrap (decide (st < l) || decide (n % 5 = 1)) x)
mutual
/-- the law's text of a tree, brackets by the draws; behind it the state's place -/
def textOf (c : Int) : Tr → Nat → Int → Cs × Int
  | .step k b, l, a => (dress 3 l (drawn c (a + 1)) ((if b = true then [45] else []) ++ k), a + 1)
  | .often t s, l, a =>
    let r := textOf c t 3 a
    (dress 2 l (drawn c (r.2 + 1)) (r.1 ++ [s]), r.2 + 1)
  | .node row ts, l, a =>
    let r := textsOf c ts (if row = true then 2 else 1) a
    (dress (if row = true then 1 else 0) l (drawn c (r.2 + 1)) (glue (if row = true then 46 else 124) r.1), r.2 + 1)
def textsOf (c : Int) : List Tr → Nat → Int → List Cs × Int
  | [], _, a => ([], a)
  | t :: r, l, a =>
    let q := textOf c t l a
    let z := textsOf c r l q.2
    (q.1 :: z.1, z.2)
end
theorem joinT_one {row : Bool} {t : Tr} (h : ∀ us, t ≠ .node row us) : joinT row [t] = t := by
  unfold joinT flatK
  cases t with
  | node r us =>
    have hr : ¬ r = row := fun e => h us (by rw [e])
    simp [hr]
  | _ => simp
/-- a node has two parts and more -/
def big : Tr → Bool
  | .node _ us => decide (us.length ≠ 1)
  | _ => true
theorem joinT_self {row : Bool} {t : Tr} (h : big t = true) : joinT row [t] = t := by
  cases t with
  | node r us =>
    by_cases e : r = row
    · subst e
      unfold joinT flatK
      have hl : us.length ≠ 1 := of_decide_eq_true h
      simp only [List.flatMap_cons, List.flatMap_nil, if_true, List.append_nil]
      split
      · exact absurd rfl hl
      · rfl
    · exact joinT_one fun vs q => e (by injection q)
  | _ => exact joinT_one fun us q => by cases q
mutual
theorem Tx.mono : ∀ {l d e : Nat} {x : Cs} {t : Tr}, Tx l d x t → d ≤ e → Tx l e x t
  | _, _, _, _, _, .step a b c, _ => .step a b c
  | _, _, e, _, _, .brk h, l => by
    obtain ⟨e', rfl⟩ : ∃ e', e = e' + 1 := ⟨e - 1, by omega⟩
    exact .brk (Tx.mono h (by omega))
  | _, _, _, _, _, .atom h, l => .atom (Tx.mono h l)
  | _, _, _, _, _, .oft h s, l => .oft (Tx.mono h l) s
  | _, _, _, _, _, .row h n, l => .row (TxL.mono h l) n
  | _, _, _, _, _, .choice h n, l => .choice (TxL.mono h l) n
theorem TxL.mono : ∀ {l d e : Nat} {xs : List Cs} {ts : List Tr}, TxL l d xs ts → d ≤ e → TxL l e xs ts
  | _, _, _, _, _, .nil, _ => .nil
  | _, _, _, _, _, .cons h r, l => .cons (Tx.mono h l) (TxL.mono r l)
end
theorem Tx.up1 {d : Nat} {x : Cs} {t : Tr} (h : Tx 2 d x t) (b : big t = true) : Tx 1 d x t := by
  have q := Tx.row (.cons h .nil) (by simp)
  rw [joinT_self b] at q
  exact q
theorem Tx.up0 {d : Nat} {x : Cs} {t : Tr} (h : Tx 1 d x t) (b : big t = true) : Tx 0 d x t := by
  have q := Tx.choice (.cons h .nil) (by simp)
  rw [joinT_self b] at q
  exact q
/-- from any level to any lower one -/
theorem Tx.down {l m d : Nat} {x : Cs} {t : Tr} (h : Tx l d x t) (b : big t = true) (hm : m ≤ l) (hl : l ≤ 3) : Tx m d x t := by
  have a2 : 3 = l → Tx 2 d x t := fun e => by subst e; exact .atom h
  have h2 : 2 ≤ l → Tx 2 d x t := fun g => by
    by_cases e : 3 = l
    · exact a2 e
    · have e : l = 2 := by omega
      subst e; exact h
  have h1 : 1 ≤ l → Tx 1 d x t := fun g => by
    by_cases e : l = 1
    · subst e; exact h
    · exact (h2 (by omega)).up1 b
  have h0 : Tx 0 d x t := by
    by_cases e : l = 0
    · subst e; exact h
    · exact (h1 (by omega)).up0 b
  have q : m = 0 ∨ m = 1 ∨ m = 2 ∨ m = 3 := by omega
  rcases q with rfl | rfl | rfl | rfl
  · exact h0
  · exact h1 hm
  · exact h2 hm
  · have e : l = 3 := by omega
    subst e; exact h
/-- brackets make an atom -/
theorem Tx.wrap3 {l d : Nat} {x : Cs} {t : Tr} (h : Tx l d x t) (b : big t = true) (hl : l ≤ 3) : Tx 3 (d + 1) (40 :: (x ++ [41])) t := .brk (h.down b (Nat.zero_le _) hl)
/-- dressed twice at most: readable at the wished level -/
theorem dress_ok {st l d : Nat} {n : Int} {x : Cs} {t : Tr} (h : Tx st d x t) (b : big t = true) (hs : st ≤ 3) (hl : l ≤ 3) : Tx l (d + 2) (dress st l n x) t := by
  unfold dress
  have inner : ∃ m, m ≤ 3 ∧ l ≤ m ∧ Tx m (d + 1) (wrap (decide (st < l) || decide (n % 5 = 1)) x) t := by
    cases e : (decide (st < l) || decide (n % 5 = 1)) with
    | true => exact ⟨3, Nat.le_refl _, hl, h.wrap3 b hs⟩
    | false =>
      rw [Bool.or_eq_false_iff] at e
      exact ⟨st, hs, by have := of_decide_eq_false e.1; omega, h.mono (Nat.le_succ _)⟩
  obtain ⟨m, m3, lm, q⟩ := inner
  cases e : decide (n % 7 = 1) with
  | true => exact (q.wrap3 b m3).down b hl (Nat.le_refl _)
  | false => exact (q.down b lm m3).mono (Nat.le_succ _)
end K04
set_option Elab.async false
set_option autoImplicit false
set_option linter.all false
set_option maxRecDepth 100000
set_option maxHeartbeats 4000000
/-! Law k04: the law's text of a tree is read as the flat tree. -/
namespace K04
open PySem PySem.Spec PyProof.Rows L2 Rf
mutual
def good : Tr → Bool
  | .step k _ => decide (1 ≤ k.length) && (decide (k.length ≤ 8) && k.all fun c => decide (97 ≤ c) && decide (c ≤ 122))
  | .often t s => good t && (decide (s = 42) || (decide (s = 43) || decide (s = 63)))
  | .node _ ts => decide (2 ≤ ts.length) && goodL ts
def goodL : List Tr → Bool
  | [] => true
  | t :: r => good t && goodL r
end
mutual
def high : Tr → Nat
  | .step _ _ => 0
  | .often t _ => high t + 1
  | .node _ ts => highL ts + 1
def highL : List Tr → Nat
  | [] => 0
  | t :: r => max (high t) (highL r)
end
theorem flatL_eq (row : Bool) : ∀ ts : List Tr, flatL row ts = flatK row (ts.map Tr.flat)
  | [] => by unfold flatL flatK; rfl
  | t :: r => by
    unfold flatL
    rw [flatL_eq row r]
    unfold flatK
    rw [List.map_cons, List.flatMap_cons]
    all_goals rfl
/-- two parts and more -/
def wide : Tr → Bool
  | .node _ us => decide (2 ≤ us.length)
  | _ => true
theorem wide_big {t : Tr} (h : wide t = true) : big t = true := by
  cases t with
  | node r us =>
    have q : 2 ≤ us.length := of_decide_eq_true h
    exact decide_eq_true (by omega)
  | _ => rfl
theorem flatK_len (row : Bool) : ∀ ts : List Tr, (∀ t ∈ ts, wide t = true) → ts.length ≤ (flatK row ts).length
  | [], _ => Nat.zero_le _
  | t :: r, h => by
    have ih := flatK_len row r fun u hu => h u (List.mem_cons_of_mem _ hu)
    have ht := h t List.mem_cons_self
    unfold flatK at ih ⊢
    rw [List.flatMap_cons, List.length_append, List.length_cons]
    cases t with
    | node q us =>
      have hw : 2 ≤ us.length := of_decide_eq_true ht
      dsimp only
      split
      · omega
      · simp only [List.length_singleton]; omega
    | _ => simp only [List.length_singleton]; omega
mutual
theorem flat_wide : ∀ t : Tr, good t = true → wide t.flat = true
  | .step _ _, _ => by unfold Tr.flat; rfl
  | .often _ _, _ => by unfold Tr.flat; rfl
  | .node row ts, h => by
    unfold good at h
    rw [Bool.and_eq_true, decide_eq_true_eq] at h
    have hw := flat_wideL ts h.2
    unfold Tr.flat
    rw [flatL_eq]
    have q := flatK_len row (ts.map Tr.flat) fun u hu => by
      obtain ⟨t, ht, rfl⟩ := List.mem_map.mp hu
      exact hw t ht
    rw [List.length_map] at q
    exact decide_eq_true (Nat.le_trans h.1 q)
theorem flat_wideL : ∀ ts : List Tr, goodL ts = true → ∀ t ∈ ts, wide t.flat = true
  | [], _, t, ht => by cases ht
  | u :: r, h, t, ht => by
    unfold goodL at h
    rw [Bool.and_eq_true] at h
    rcases List.mem_cons.mp ht with e | e
    · rw [e]; exact flat_wide u h.1
    · exact flat_wideL r h.2 t e
end
theorem join_flat {row : Bool} {ts : List Tr} (h : good (.node row ts) = true) : joinT row (ts.map Tr.flat) = (Tr.node row ts).flat := by
  have hw := flat_wide (.node row ts) h
  unfold Tr.flat at hw ⊢
  rw [flatL_eq] at hw ⊢
  have hl : 2 ≤ (flatK row (ts.map Tr.flat)).length := of_decide_eq_true hw
  unfold joinT
  split
  · rename_i t e
    rw [e] at hl
    simp at hl
  · rfl
mutual
theorem text_ok (c : Int) : ∀ (t : Tr) (l : Nat) (a : Int), good t = true → l ≤ 3 → Tx l (2 * high t + 2) (textOf c t l a).1 t.flat
  | .step k b, l, a, h, hl => by
    unfold good at h
    simp only [Bool.and_eq_true, decide_eq_true_eq] at h
    obtain ⟨h1, h2, h3⟩ := h
    unfold textOf Tr.flat high
    refine dress_ok (d := 0) (.step h1 h2 fun x hx => ?_) rfl (Nat.le_refl _) hl
    have q := List.all_eq_true.mp h3 x hx
    simpa using q
  | .often t s, l, a, h, hl => by
    unfold good at h
    simp only [Bool.and_eq_true, Bool.or_eq_true, decide_eq_true_eq] at h
    obtain ⟨h1, h2⟩ := h
    have ih := text_ok c t 3 a h1 (Nat.le_refl _)
    unfold textOf Tr.flat high
    exact dress_ok (d := 2 * high t + 2) (.oft ih h2) rfl (by decide) hl
  | .node row ts, l, a, h, hl => by
    have hb := wide_big (flat_wide _ h)
    have hj := join_flat h
    have hg := h
    unfold good at h
    rw [Bool.and_eq_true, decide_eq_true_eq] at h
    unfold textOf high
    dsimp only
    rw [← hj] at hb ⊢
    cases row with
    | true =>
      have ih := texts_ok c ts 2 a h.2 (by decide)
      refine dress_ok (d := 2 * highL ts + 2) (.row ih ?_) hb (by decide) hl
      intro e
      have q := texts_len c ts 2 a
      simp only [if_true] at e
      rw [e] at q
      simp at q
      omega
    | false =>
      have ih := texts_ok c ts 1 a h.2 (by decide)
      refine dress_ok (d := 2 * highL ts + 2) (.choice ih ?_) hb (by decide) hl
      intro e
      have q := texts_len c ts 1 a
      simp only [Bool.false_eq_true, if_false] at e
      rw [e] at q
      simp at q
      omega
theorem texts_ok (c : Int) : ∀ (ts : List Tr) (l : Nat) (a : Int), goodL ts = true → l ≤ 3 → TxL l (2 * highL ts + 2) (textsOf c ts l a).1 (ts.map Tr.flat)
  | [], l, a, _, _ => by unfold textsOf; exact .nil
  | t :: r, l, a, h, hl => by
    unfold goodL at h
    rw [Bool.and_eq_true] at h
    have i1 := text_ok c t l a h.1 hl
    have i2 := texts_ok c r l (textOf c t l a).2 h.2 hl
    unfold textsOf highL
    rw [List.map_cons]
    exact .cons (i1.mono (by omega)) (i2.mono (by omega))
theorem texts_len (c : Int) : ∀ (ts : List Tr) (l : Nat) (a : Int), (textsOf c ts l a).1.length = ts.length
  | [], l, a => by unfold textsOf; rfl
  | t :: r, l, a => by
    unfold textsOf
    rw [List.length_cons, List.length_cons, texts_len c r l]
end
end K04
set_option Elab.async false
set_option autoImplicit false
set_option linter.all false
set_option maxRecDepth 100000
set_option maxHeartbeats 4000000
/-! Law k04: the drawn tree: its shape, its height, its steps. -/
namespace K04
open PySem PySem.Spec PyProof.Rows L2 Rf
theorem abc_at : ∀ i : Nat, i < 26 → 97 ≤ ABC.getD i 0 ∧ ABC.getD i 0 ≤ 122 := by decide +kernel
theorem kind_good (n : Int) (b : Bool) : good (.step (kindOf n) b) = true := by
  unfold good
  simp only [Bool.and_eq_true, decide_eq_true_eq]
  have h1 := Int.emod_nonneg n (show (8 : Int) ≠ 0 by decide)
  have h2 := Int.emod_lt_of_pos n (show (0 : Int) < 8 by decide)
  refine ⟨?_, ?_, ?_⟩
  · unfold kindOf
    rw [List.length_map, List.length_range]
    omega
  · unfold kindOf
    rw [List.length_map, List.length_range]
    omega
  · rw [List.all_eq_true]
    intro x hx
    unfold kindOf at hx
    obtain ⟨j, _, rfl⟩ := List.mem_map.mp hx
    have g1 := Int.emod_nonneg (n / 8 + (j : Int) * (1 + n / 208 % 25)) (show (26 : Int) ≠ 0 by decide)
    have g2 := Int.emod_lt_of_pos (n / 8 + (j : Int) * (1 + n / 208 % 25)) (show (0 : Int) < 26 by decide)
    obtain ⟨q1, q2⟩ := abc_at ((n / 8 + (j : Int) * (1 + n / 208 % 25)) % 26).toNat (by omega)
    simp only [Bool.and_eq_true, decide_eq_true_eq]
    exact ⟨q1, q2⟩
theorem sign_good (n : Int) : sign3 (n % 3) = 42 ∨ sign3 (n % 3) = 43 ∨ sign3 (n % 3) = 63 := by
  have h1 := Int.emod_nonneg n (show (3 : Int) ≠ 0 by decide)
  have h2 := Int.emod_lt_of_pos n (show (0 : Int) < 3 by decide)
  have q : n % 3 = 0 ∨ n % 3 = 1 ∨ n % 3 = 2 := by omega
  rcases q with e | e | e <;> rw [e] <;> decide
/-- what is known of a drawn tree: d the depth, l, l' the left parts ahead of it and behind -/
structure Fine (d : Nat) (t : Tr) (l l' : Int) : Prop where
  good : good t = true
  high : high t ≤ d
  one : 1 ≤ t.steps
  left : l' = l - ((t.steps : Int) - 1)
  nn : 0 ≤ l → 0 ≤ l'
structure FineL (d : Nat) (ts : List Tr) (m : Nat) (l l' : Int) : Prop where
  good : goodL ts = true
  high : highL ts ≤ d
  many : ts.length = m
  steps : m ≤ stepsL ts
  left : l' = l - ((stepsL ts : Int) - m)
  nn : 0 ≤ l → 0 ≤ l'
theorem trees_fine (c : Int) (d : Nat) (h : ∀ s, Fine d (treeOf c d s).1 s.left (treeOf c d s).2.left) : ∀ (m : Nat) (s : Sta), FineL d (treesOf c d m s).1 m s.left (treesOf c d m s).2.left := by
  intro m
  induction m with
  | zero =>
    intro s
    rw [treesOf]
    exact ⟨rfl, Nat.zero_le _, rfl, Nat.zero_le _, by simp [stepsL], fun z => z⟩
  | succ m ih =>
    intro s
    have f := h s
    have g := ih (treeOf c d s).2
    rw [treesOf]
    dsimp only
    refine ⟨?_, ?_, ?_, ?_, ?_, fun z => g.nn (f.nn z)⟩
    · unfold goodL
      rw [f.good, g.good]
      rfl
    · unfold highL
      have := f.high
      have := g.high
      omega
    · rw [List.length_cons, g.many]
    · unfold stepsL
      have := f.one
      have := g.steps
      omega
    · unfold stepsL
      have := f.left
      have := g.left
      omega
theorem tree_fine (c : Int) : ∀ (d : Nat) (s : Sta), Fine d (treeOf c d s).1 s.left (treeOf c d s).2.left := by
  intro d
  induction d with
  | zero =>
    intro s
    rw [treeOf]
    exact ⟨kind_good _ _, Nat.zero_le _, Nat.le_refl _, by simp [Tr.steps], fun z => z⟩
  | succ d ih =>
    intro s
    have m0 := Int.emod_nonneg (drawn c (s.at_ + 1) / 8) (show (3 : Int) ≠ 0 by decide)
    have m1 := Int.emod_lt_of_pos (drawn c (s.at_ + 1) / 8) (show (0 : Int) < 3 by decide)
    rw [treeOf]
    dsimp only
    split
    · exact ⟨kind_good _ _, Nat.zero_le _, Nat.le_refl _, by simp [Tr.steps], fun z => z⟩
    · rename_i hn
      split
      · have f := ih ⟨s.at_ + 1, s.left⟩
        refine ⟨?_, ?_, ?_, ?_, f.nn⟩
        · unfold good
          rw [f.good]
          have q := sign_good (drawn c (s.at_ + 1) / 8)
          simpa using q
        · unfold high
          have := f.high
          omega
        · unfold Tr.steps; exact f.one
        · unfold Tr.steps; exact f.left
      · rename_i h5
        have g := trees_fine c d ih (2 + drawn c (s.at_ + 1) / 8 % 3).toNat ⟨s.at_ + 1, s.left - (2 + drawn c (s.at_ + 1) / 8 % 3 - 1)⟩
        have e1 := g.left
        have e2 := g.steps
        dsimp only at e1
        refine ⟨?_, ?_, ?_, ?_, fun z => g.nn ?_⟩
        · unfold good
          rw [g.good, g.many, decide_eq_true (by omega)]
          rfl
        · unfold high
          have := g.high
          omega
        · unfold Tr.steps; omega
        · unfold Tr.steps; dsimp only; omega
        · dsimp only
          have q : ¬ (drawn c (s.at_ + 1) % 8 < 2) ∧ ¬ (drawn c (s.at_ + 1) % 8 < 6 ∧ s.left < 2 + drawn c (s.at_ + 1) / 8 % 3 - 1) := not_or.mp hn
          omega
end K04
set_option Elab.async false
set_option autoImplicit false
set_option linter.all false
set_option maxRecDepth 100000
set_option maxHeartbeats 4000000
/-! Law k04: the text without spare brackets is read as well. -/
namespace K04
open PySem PySem.Spec PyProof.Rows L2 Rf
theorem wrap_ok {st l d : Nat} {x : Cs} {t : Tr} (h : Tx st d x t) (b : big t = true) (hs : st ≤ 3) (hl : l ≤ 3) : Tx l (d + 1) (wrap (decide (st < l)) x) t := by
  cases e : decide (st < l) with
  | true => exact (h.wrap3 b hs).down b hl (Nat.le_refl _)
  | false => exact (h.down b (by have := of_decide_eq_false e; omega) hs).mono (Nat.le_succ _)
mutual
theorem plain_ok : ∀ (t : Tr) (l : Nat), good t = true → l ≤ 3 → Tx l (high t + 1) (t.text l) t.flat
  | .step k b, l, h, hl => by
    unfold good at h
    simp only [Bool.and_eq_true, decide_eq_true_eq] at h
    obtain ⟨h1, h2, h3⟩ := h
    unfold Tr.text Tr.flat high
    have q : Tx 3 (0 + 1) ((if b = true then [45] else []) ++ k) (.step k b) := .step h1 h2 fun x hx => by
      have q := List.all_eq_true.mp h3 x hx
      simpa using q
    exact q.down rfl hl (Nat.le_refl _)
  | .often t s, l, h, hl => by
    unfold good at h
    simp only [Bool.and_eq_true, Bool.or_eq_true, decide_eq_true_eq] at h
    obtain ⟨h1, h2⟩ := h
    have ih := plain_ok t 3 h1 (Nat.le_refl _)
    unfold Tr.text Tr.flat high
    exact wrap_ok (.oft ih h2) rfl (by decide) hl
  | .node true ts, l, h, hl => by
    have hb := wide_big (flat_wide _ h)
    have hj := join_flat h
    unfold good at h
    rw [Bool.and_eq_true, decide_eq_true_eq] at h
    unfold Tr.text high
    rw [← hj] at hb ⊢
    refine wrap_ok (.row (plainL_ok ts 2 h.2 (by decide)) fun e => ?_) hb (by decide) hl
    have q := plain_len ts 2
    rw [e] at q
    simp at q
    omega
  | .node false ts, l, h, hl => by
    have hb := wide_big (flat_wide _ h)
    have hj := join_flat h
    unfold good at h
    rw [Bool.and_eq_true, decide_eq_true_eq] at h
    unfold Tr.text high
    rw [← hj] at hb ⊢
    refine wrap_ok (.choice (plainL_ok ts 1 h.2 (by decide)) fun e => ?_) hb (by decide) hl
    have q := plain_len ts 1
    rw [e] at q
    simp at q
    omega
theorem plainL_ok : ∀ (ts : List Tr) (l : Nat), goodL ts = true → l ≤ 3 → TxL l (highL ts + 1) (textL ts l) (ts.map Tr.flat)
  | [], l, _, _ => by unfold textL; exact .nil
  | t :: r, l, h, hl => by
    unfold goodL at h
    rw [Bool.and_eq_true] at h
    have i1 := plain_ok t l h.1 hl
    have i2 := plainL_ok r l h.2 hl
    unfold textL highL
    rw [List.map_cons]
    exact .cons (i1.mono (by omega)) (i2.mono (by omega))
theorem plain_len : ∀ (ts : List Tr) (l : Nat), (textL ts l).length = ts.length
  | [], l => by unfold textL; rfl
  | t :: r, l => by
    unfold textL
    rw [List.length_cons, List.length_cons, plain_len r l]
end
end K04
set_option Elab.async false
set_option autoImplicit false
set_option linter.all false
set_option maxRecDepth 100000
set_option maxHeartbeats 4000000
/-! Law k04: flat trees. -/
namespace K04
open PySem PySem.Spec PyProof.Rows L2 Rf
/-- no node of this kind -/
def offB (row : Bool) : Tr → Bool
  | .node r _ => r != row
  | _ => true
mutual
def isFlat : Tr → Bool
  | .step _ _ => true
  | .often t _ => isFlat t
  | .node row ts => isFlatL row ts
def isFlatL (row : Bool) : List Tr → Bool
  | [] => true
  | t :: r => (isFlat t && offB row t) && isFlatL row r
end
theorem isFlatL_app (row : Bool) : ∀ us vs : List Tr, isFlatL row us = true → isFlatL row vs = true → isFlatL row (us ++ vs) = true
  | [], vs, _, h => h
  | u :: r, vs, h, g => by
    unfold isFlatL at h
    rw [Bool.and_eq_true] at h
    rw [List.cons_append]
    unfold isFlatL
    rw [h.1, isFlatL_app row r vs h.2 g]
    rfl
theorem isFlatL_one {row : Bool} {t : Tr} (h : isFlat t = true) (o : offB row t = true) : isFlatL row [t] = true := by
  unfold isFlatL
  rw [h, o]
  rfl
mutual
theorem flat_is : ∀ t : Tr, isFlat t.flat = true
  | .step _ _ => by unfold Tr.flat isFlat; rfl
  | .often t s => by
    unfold Tr.flat isFlat
    exact flat_is t
  | .node row ts => by
    unfold Tr.flat isFlat
    exact flat_isL row ts
theorem flat_isL (row : Bool) : ∀ ts : List Tr, isFlatL row (flatL row ts) = true
  | [] => by unfold flatL; rfl
  | t :: r => by
    have h := flat_is t
    unfold flatL
    refine isFlatL_app row _ _ ?_ (flat_isL row r)
    split
    · rename_i row' us e
      rw [e] at h
      split
      · rename_i e2
        subst e2
        unfold isFlat at h
        exact h
      · rename_i e2
        refine isFlatL_one h ?_
        unfold offB
        simpa using e2
    · rename_i u hu
      refine isFlatL_one h ?_
      cases e : t.flat with
      | node r us => exact absurd e (hu r us)
      | _ => rfl
end
mutual
theorem flat_fix : ∀ t : Tr, isFlat t = true → t.flat = t
  | .step _ _, _ => by unfold Tr.flat; rfl
  | .often t s, h => by
    unfold isFlat at h
    unfold Tr.flat
    rw [flat_fix t h]
  | .node row ts, h => by
    unfold isFlat at h
    unfold Tr.flat
    rw [flat_fixL row ts h]
theorem flat_fixL (row : Bool) : ∀ ts : List Tr, isFlatL row ts = true → flatL row ts = ts
  | [], _ => by unfold flatL; rfl
  | t :: r, h => by
    unfold isFlatL at h
    rw [Bool.and_eq_true, Bool.and_eq_true] at h
    obtain ⟨⟨h1, h2⟩, h3⟩ := h
    unfold flatL
    rw [flat_fix t h1, flat_fixL row r h3]
    cases t with
    | node q us =>
      have hq : ¬ q = row := by
        unfold offB at h2
        simpa using h2
      simp [hq]
    | _ => rfl
end
theorem flat_flat (t : Tr) : t.flat.flat = t.flat := flat_fix _ (flat_is t)
end K04
set_option Elab.async false
set_option autoImplicit false
set_option linter.all false
set_option maxRecDepth 100000
set_option maxHeartbeats 4000000
/-! Law k04: what flattening keeps. -/
namespace K04
open PySem PySem.Spec PyProof.Rows L2 Rf
theorem goodL_app : ∀ us vs : List Tr, goodL us = true → goodL vs = true → goodL (us ++ vs) = true
  | [], _, _, h => h
  | u :: r, vs, h, g => by
    unfold goodL at h
    rw [Bool.and_eq_true] at h
    rw [List.cons_append]
    unfold goodL
    rw [h.1, goodL_app r vs h.2 g]
    rfl
theorem highL_app : ∀ us vs : List Tr, highL (us ++ vs) = max (highL us) (highL vs)
  | [], vs => by rw [List.nil_append]; unfold highL; omega
  | u :: r, vs => by
    rw [List.cons_append]
    simp only [highL]
    rw [highL_app r vs]
    omega
theorem stepsL_app : ∀ us vs : List Tr, stepsL (us ++ vs) = stepsL us + stepsL vs
  | [], vs => by rw [List.nil_append]; show stepsL vs = stepsL [] + stepsL vs; simp [stepsL]
  | u :: r, vs => by
    rw [List.cons_append]
    show u.steps + stepsL (r ++ vs) = u.steps + stepsL r + stepsL vs
    rw [stepsL_app r vs]
    omega
theorem allN_app : ∀ us vs : List Tr, allN (us ++ vs) = (allN us && allN vs)
  | [], vs => by simp [allN]
  | u :: r, vs => by
    rw [List.cons_append]
    simp only [allN]
    rw [allN_app r vs, Bool.and_assoc]
theorem anyN_app : ∀ us vs : List Tr, anyN (us ++ vs) = (anyN us || anyN vs)
  | [], vs => by simp [anyN]
  | u :: r, vs => by
    rw [List.cons_append]
    simp only [anyN]
    rw [anyN_app r vs, Bool.or_assoc]
mutual
theorem good_flat : ∀ t : Tr, good t = true → good t.flat = true
  | .step _ _, h => by unfold Tr.flat; exact h
  | .often t s, h => by
    unfold good at h
    rw [Bool.and_eq_true] at h
    unfold Tr.flat good
    rw [good_flat t h.1, h.2]
    rfl
  | .node row ts, h => by
    have hw := flat_wide _ h
    unfold good at h
    rw [Bool.and_eq_true] at h
    unfold Tr.flat at hw ⊢
    unfold good
    rw [good_flatL row ts h.2, Bool.and_true]
    exact hw
theorem good_flatL (row : Bool) : ∀ ts : List Tr, goodL ts = true → goodL (flatL row ts) = true
  | [], _ => by unfold flatL; rfl
  | t :: r, h => by
    unfold goodL at h
    rw [Bool.and_eq_true] at h
    have ht := good_flat t h.1
    unfold flatL
    refine goodL_app _ _ ?_ (good_flatL row r h.2)
    split
    · rename_i row' us e
      rw [e] at ht
      split
      · unfold good at ht
        rw [Bool.and_eq_true] at ht
        exact ht.2
      · unfold goodL
        rw [ht]
        rfl
    · unfold goodL
      rw [ht]
      rfl
end
mutual
theorem high_flat : ∀ t : Tr, high t.flat ≤ high t
  | .step _ _ => by unfold Tr.flat; exact Nat.le_refl _
  | .often t s => by
    unfold Tr.flat high
    have := high_flat t
    omega
  | .node row ts => by
    unfold Tr.flat high
    have := high_flatL row ts
    omega
theorem high_flatL (row : Bool) : ∀ ts : List Tr, highL (flatL row ts) ≤ highL ts
  | [] => by unfold flatL; exact Nat.le_refl _
  | t :: r => by
    have ht := high_flat t
    have hr := high_flatL row r
    unfold flatL
    rw [highL_app]
    show _ ≤ max (high t) (highL r)
    split
    · rename_i row' us e
      rw [e] at ht
      split
      · simp only [high] at ht
        omega
      · have q : highL [Tr.node row' us] = max (high (Tr.node row' us)) 0 := by simp only [highL]
        omega
    · have q : highL [t.flat] = max (high t.flat) 0 := by simp only [highL]
      omega
end
end K04
set_option Elab.async false
set_option autoImplicit false
set_option linter.all false
set_option maxRecDepth 100000
set_option maxHeartbeats 4000000
namespace Q05
open PySem PySem.Spec PyProof.Rows L2 Rf
def s_place : Str := "place"
def s_line : Str := "line"
def s_why : Str := "why"
def s_kind : Str := "kind"
def s_back : Str := "back"
def s_parts : Str := "parts"
def s_steps : Str := "steps"
def s_part : Str := "part"
def s_sign : Str := "sign"
def s_strength : Str := "strength"
def s_text : Str := "text"
def s_signs : Str := "signs"
def s_at : Str := "at"
def s_done : Str := "done"
def s_read_row : Str := "read_row"
def s_next_sign : Str := "next_sign"
def s_read_often : Str := "read_often"
def s_read_bracket : Str := "read_bracket"
def s_read_step : Str := "read_step"
def s_read_choice : Str := "read_choice"
def N_wall : List Str := ["k"]
def rs_wall : RSs :=
  .cons (.wh (.tru (.bl true))
    (.cons (.pass) .nil)) .nil
def N_BadWord___init__ : List Str := ["self", "place"]
def rs_BadWord___init__ : RSs := rsOex1 s_place
def N_BadQuestion___init__ : List Str := ["self", "line", "why"]
def rs_BadQuestion___init__ : RSs := rsOex2 s_line s_why
def N_Word_strength : List Str := ["self"]
def rs_Word_strength : RSs :=
  .cons (.ret (.int 3)) .nil
def N_Word_text : List Str := ["self"]
def rs_Word_text : RSs :=
  .cons (.ret (.str (sOf []))) .nil
def N_Word_steps : List Str := ["self"]
def rs_Word_steps : RSs :=
  .cons (.ret (.int 1)) .nil
def N_Word_may_be_none : List Str := ["self"]
def rs_Word_may_be_none : RSs :=
  .cons (.ex (.call 0 (.cons (.int 0) .nil))) .nil
def N_Step___init__ : List Str := ["self", "kind", "back"]
def rs_Step___init__ : RSs :=
  .cons (.sfld (.var 0) s_kind (.var 1))
  (.cons (.sfld (.var 0) s_back (.var 2)) .nil)
def rh_Step___init___0 : RS := .sfld (.var 0) s_kind (.var 1)
def rh_Step___init___1 : RS := .sfld (.var 0) s_back (.var 2)
def rt_Step___init___2 : RSs := .nil
def rt_Step___init___1 : RSs := .cons rh_Step___init___1 rt_Step___init___2
def rt_Step___init___0 : RSs := .cons rh_Step___init___0 rt_Step___init___1
theorem rs_Step___init___cut : rs_Step___init__ = rt_Step___init___0 := rfl
def N_Step_text : List Str := ["self"]
def rs_Step_text : RSs :=
  .cons (.ret (.ifE (.tru (.fld (.var 0) s_back)) (.bin .Add (.str (sOf [45])) (.fld (.var 0) s_kind)) (.fld (.var 0) s_kind))) .nil
def N_Row___init__ : List Str := ["self", "parts"]
def rs_Row___init__ : RSs :=
  .cons (.sfld (.var 0) s_parts (.ct .list (.cons (.var 1) .nil))) .nil
def N_Row_strength : List Str := ["self"]
def rs_Row_strength : RSs :=
  .cons (.ret (.int 1)) .nil
def N_Row_text : List Str := ["self", "part"]
def rs_Row_text : RSs :=
  .cons (.ret (.mt .join (.str (sOf [46])) (.cons (.lc [("part", 1)] 1 (.any (.fld (.var 0) s_parts)) (.no) (.call 0 (.cons (.var 1) (.cons (.int 2) .nil)))) .nil))) .nil
def N_Row_steps : List Str := ["self", "part"]
def rs_Row_steps : RSs :=
  .cons (.ret (.cb .sum (.cons (.lc [("part", 1)] 1 (.any (.fld (.var 0) s_parts)) (.no) (.own s_steps (.var 1) (.nil))) .nil))) .nil
def N_Row_may_be_none : List Str := ["self"]
def rs_Row_may_be_none : RSs :=
  .cons (.ex (.call 0 (.cons (.int 1) .nil))) .nil
def N_Choice___init__ : List Str := ["self", "parts"]
def rs_Choice___init__ : RSs :=
  .cons (.sfld (.var 0) s_parts (.ct .list (.cons (.var 1) .nil))) .nil
def N_Choice_strength : List Str := ["self"]
def rs_Choice_strength : RSs :=
  .cons (.ret (.int 0)) .nil
def N_Choice_text : List Str := ["self", "part"]
def rs_Choice_text : RSs :=
  .cons (.ret (.mt .join (.str (sOf [124])) (.cons (.lc [("part", 1)] 1 (.any (.fld (.var 0) s_parts)) (.no) (.call 0 (.cons (.var 1) (.cons (.int 1) .nil)))) .nil))) .nil
def N_Choice_steps : List Str := ["self", "part"]
def rs_Choice_steps : RSs :=
  .cons (.ret (.cb .sum (.cons (.lc [("part", 1)] 1 (.any (.fld (.var 0) s_parts)) (.no) (.own s_steps (.var 1) (.nil))) .nil))) .nil
def N_Choice_may_be_none : List Str := ["self"]
def rs_Choice_may_be_none : RSs :=
  .cons (.ex (.call 0 (.cons (.int 2) .nil))) .nil
def N_Often___init__ : List Str := ["self", "part", "sign"]
def rs_Often___init__ : RSs :=
  .cons (.sfld (.var 0) s_part (.var 1))
  (.cons (.sfld (.var 0) s_sign (.var 2)) .nil)
def rh_Often___init___0 : RS := .sfld (.var 0) s_part (.var 1)
def rh_Often___init___1 : RS := .sfld (.var 0) s_sign (.var 2)
def rt_Often___init___2 : RSs := .nil
def rt_Often___init___1 : RSs := .cons rh_Often___init___1 rt_Often___init___2
def rt_Often___init___0 : RSs := .cons rh_Often___init___0 rt_Often___init___1
theorem rs_Often___init___cut : rs_Often___init__ = rt_Often___init___0 := rfl
def N_Often_strength : List Str := ["self"]
def rs_Often_strength : RSs :=
  .cons (.ret (.int 2)) .nil
def N_Often_text : List Str := ["self"]
def rs_Often_text : RSs :=
  .cons (.ret (.bin .Add (.call 0 (.cons (.fld (.var 0) s_part) (.cons (.int 3) .nil))) (.fld (.var 0) s_sign))) .nil
def N_Often_steps : List Str := ["self"]
def rs_Often_steps : RSs :=
  .cons (.ret (.own s_steps (.fld (.var 0) s_part) (.nil))) .nil
def N_Often_may_be_none : List Str := ["self"]
def rs_Often_may_be_none : RSs :=
  .cons (.ex (.call 0 (.cons (.int 3) .nil))) .nil
def N_bracketed : List Str := ["word", "least"]
def rs_bracketed : RSs :=
  .cons (.ifs (.cmp .Lt (.own s_strength (.var 0) (.nil)) (.var 1))
    (.cons (.ret (.bin .Add (.bin .Add (.str (sOf [40])) (.own s_text (.var 0) (.nil))) (.str (sOf [41])))) .nil)
    (.nil))
  (.cons (.ret (.own s_text (.var 0) (.nil))) .nil)
def rh_bracketed_0 : RS := .ifs (.cmp .Lt (.own s_strength (.var 0) (.nil)) (.var 1))
  (.cons (.ret (.bin .Add (.bin .Add (.str (sOf [40])) (.own s_text (.var 0) (.nil))) (.str (sOf [41])))) .nil)
  (.nil)
def rh_bracketed_1 : RS := .ret (.own s_text (.var 0) (.nil))
def rt_bracketed_2 : RSs := .nil
def rt_bracketed_1 : RSs := .cons rh_bracketed_1 rt_bracketed_2
def rt_bracketed_0 : RSs := .cons rh_bracketed_0 rt_bracketed_1
theorem rs_bracketed_cut : rs_bracketed = rt_bracketed_0 := rfl
def N_row_of : List Str := ["parts", "flat", "part"]
def rs_row_of : RSs :=
  .cons (.set 1 (.hnd (.lst (.nil))))
  (.cons (.fr 2 (.any (.var 0))
    (.cons (.ifs (.tru (.cb .isi (.cons (.var 2) (.cons (.gc 0) .nil))))
      (.cons (.ex (.mt .extend (.var 1) (.cons (.fld (.var 2) s_parts) .nil))) .nil)
      (.cons (.ex (.mt .append (.var 1) (.cons (.var 2) .nil))) .nil)) .nil))
  (.cons (.frz 1)
  (.cons (.ret (.ifE (.cmp .Eq (.cb .len (.cons (.var 1) .nil)) (.int 1)) (.ix (.var 1) (.int 0)) (.mk 0 (.cons (.var 1) .nil)))) .nil)))
def rh_row_of_0 : RS := .set 1 (.hnd (.lst (.nil)))
def rh_row_of_1 : RS := .fr 2 (.any (.var 0))
  (.cons (.ifs (.tru (.cb .isi (.cons (.var 2) (.cons (.gc 0) .nil))))
    (.cons (.ex (.mt .extend (.var 1) (.cons (.fld (.var 2) s_parts) .nil))) .nil)
    (.cons (.ex (.mt .append (.var 1) (.cons (.var 2) .nil))) .nil)) .nil)
def rh_row_of_2 : RS := .frz 1
def rh_row_of_3 : RS := .ret (.ifE (.cmp .Eq (.cb .len (.cons (.var 1) .nil)) (.int 1)) (.ix (.var 1) (.int 0)) (.mk 0 (.cons (.var 1) .nil)))
def rt_row_of_4 : RSs := .nil
def rt_row_of_3 : RSs := .cons rh_row_of_3 rt_row_of_4
def rt_row_of_2 : RSs := .cons rh_row_of_2 rt_row_of_3
def rt_row_of_1 : RSs := .cons rh_row_of_1 rt_row_of_2
def rt_row_of_0 : RSs := .cons rh_row_of_0 rt_row_of_1
theorem rs_row_of_cut : rs_row_of = rt_row_of_0 := rfl
def N_choice_of : List Str := ["parts", "flat", "part"]
def rs_choice_of : RSs :=
  .cons (.set 1 (.hnd (.lst (.nil))))
  (.cons (.fr 2 (.any (.var 0))
    (.cons (.ifs (.tru (.cb .isi (.cons (.var 2) (.cons (.gc 0) .nil))))
      (.cons (.ex (.mt .extend (.var 1) (.cons (.fld (.var 2) s_parts) .nil))) .nil)
      (.cons (.ex (.mt .append (.var 1) (.cons (.var 2) .nil))) .nil)) .nil))
  (.cons (.frz 1)
  (.cons (.ret (.ifE (.cmp .Eq (.cb .len (.cons (.var 1) .nil)) (.int 1)) (.ix (.var 1) (.int 0)) (.mk 0 (.cons (.var 1) .nil)))) .nil)))
def rh_choice_of_0 : RS := .set 1 (.hnd (.lst (.nil)))
def rh_choice_of_1 : RS := .fr 2 (.any (.var 0))
  (.cons (.ifs (.tru (.cb .isi (.cons (.var 2) (.cons (.gc 0) .nil))))
    (.cons (.ex (.mt .extend (.var 1) (.cons (.fld (.var 2) s_parts) .nil))) .nil)
    (.cons (.ex (.mt .append (.var 1) (.cons (.var 2) .nil))) .nil)) .nil)
def rh_choice_of_2 : RS := .frz 1
def rh_choice_of_3 : RS := .ret (.ifE (.cmp .Eq (.cb .len (.cons (.var 1) .nil)) (.int 1)) (.ix (.var 1) (.int 0)) (.mk 0 (.cons (.var 1) .nil)))
def rt_choice_of_4 : RSs := .nil
def rt_choice_of_3 : RSs := .cons rh_choice_of_3 rt_choice_of_4
def rt_choice_of_2 : RSs := .cons rh_choice_of_2 rt_choice_of_3
def rt_choice_of_1 : RSs := .cons rh_choice_of_1 rt_choice_of_2
def rt_choice_of_0 : RSs := .cons rh_choice_of_0 rt_choice_of_1
theorem rs_choice_of_cut : rs_choice_of = rt_choice_of_0 := rfl
def N_Reading___init__ : List Str := ["self", "signs"]
def rs_Reading___init__ : RSs :=
  .cons (.sfld (.var 0) s_signs (.var 1))
  (.cons (.sfld (.var 0) s_at (.int 0))
  (.cons (.sfld (.var 0) s_done (.int 0)) .nil))
def rh_Reading___init___0 : RS := .sfld (.var 0) s_signs (.var 1)
def rh_Reading___init___1 : RS := .sfld (.var 0) s_at (.int 0)
def rh_Reading___init___2 : RS := .sfld (.var 0) s_done (.int 0)
def rt_Reading___init___3 : RSs := .nil
def rt_Reading___init___2 : RSs := .cons rh_Reading___init___2 rt_Reading___init___3
def rt_Reading___init___1 : RSs := .cons rh_Reading___init___1 rt_Reading___init___2
def rt_Reading___init___0 : RSs := .cons rh_Reading___init___0 rt_Reading___init___1
theorem rs_Reading___init___cut : rs_Reading___init__ = rt_Reading___init___0 := rfl
def N_Reading_next_sign : List Str := ["self"]
def rs_Reading_next_sign : RSs :=
  .cons (.ret (.sl (.fld (.var 0) s_signs) (.yes (.fld (.var 0) s_at)) (.yes (.bin .Add (.fld (.var 0) s_at) (.int 1))))) .nil
def N_Reading_read_choice : List Str := ["self", "deep", "found"]
def rs_Reading_read_choice : RSs :=
  .cons (.set 2 (.hnd (.lst (.cons (.own s_read_row (.var 0) (.cons (.var 1) .nil)) .nil))))
  (.cons (.wh (.cmp .Eq (.own s_next_sign (.var 0) (.nil)) (.str (sOf [124])))
    (.cons (.afld (.var 0) s_at false (.int 1))
    (.cons (.ex (.mt .append (.var 2) (.cons (.own s_read_row (.var 0) (.cons (.var 1) .nil)) .nil))) .nil)))
  (.cons (.frz 2)
  (.cons (.ret (.call 0 (.cons (.var 2) .nil))) .nil)))
def rh_Reading_read_choice_0 : RS := .set 2 (.hnd (.lst (.cons (.own s_read_row (.var 0) (.cons (.var 1) .nil)) .nil)))
def rh_Reading_read_choice_1 : RS := .wh (.cmp .Eq (.own s_next_sign (.var 0) (.nil)) (.str (sOf [124])))
  (.cons (.afld (.var 0) s_at false (.int 1))
  (.cons (.ex (.mt .append (.var 2) (.cons (.own s_read_row (.var 0) (.cons (.var 1) .nil)) .nil))) .nil))
def rh_Reading_read_choice_2 : RS := .frz 2
def rh_Reading_read_choice_3 : RS := .ret (.call 0 (.cons (.var 2) .nil))
def rt_Reading_read_choice_4 : RSs := .nil
def rt_Reading_read_choice_3 : RSs := .cons rh_Reading_read_choice_3 rt_Reading_read_choice_4
def rt_Reading_read_choice_2 : RSs := .cons rh_Reading_read_choice_2 rt_Reading_read_choice_3
def rt_Reading_read_choice_1 : RSs := .cons rh_Reading_read_choice_1 rt_Reading_read_choice_2
def rt_Reading_read_choice_0 : RSs := .cons rh_Reading_read_choice_0 rt_Reading_read_choice_1
theorem rs_Reading_read_choice_cut : rs_Reading_read_choice = rt_Reading_read_choice_0 := rfl
def N_Reading_read_row : List Str := ["self", "deep", "found"]
def rs_Reading_read_row : RSs :=
  .cons (.set 2 (.hnd (.lst (.cons (.own s_read_often (.var 0) (.cons (.var 1) .nil)) .nil))))
  (.cons (.wh (.cmp .Eq (.own s_next_sign (.var 0) (.nil)) (.str (sOf [46])))
    (.cons (.afld (.var 0) s_at false (.int 1))
    (.cons (.ex (.mt .append (.var 2) (.cons (.own s_read_often (.var 0) (.cons (.var 1) .nil)) .nil))) .nil)))
  (.cons (.frz 2)
  (.cons (.ret (.call 0 (.cons (.var 2) .nil))) .nil)))
def rh_Reading_read_row_0 : RS := .set 2 (.hnd (.lst (.cons (.own s_read_often (.var 0) (.cons (.var 1) .nil)) .nil)))
def rh_Reading_read_row_1 : RS := .wh (.cmp .Eq (.own s_next_sign (.var 0) (.nil)) (.str (sOf [46])))
  (.cons (.afld (.var 0) s_at false (.int 1))
  (.cons (.ex (.mt .append (.var 2) (.cons (.own s_read_often (.var 0) (.cons (.var 1) .nil)) .nil))) .nil))
def rh_Reading_read_row_2 : RS := .frz 2
def rh_Reading_read_row_3 : RS := .ret (.call 0 (.cons (.var 2) .nil))
def rt_Reading_read_row_4 : RSs := .nil
def rt_Reading_read_row_3 : RSs := .cons rh_Reading_read_row_3 rt_Reading_read_row_4
def rt_Reading_read_row_2 : RSs := .cons rh_Reading_read_row_2 rt_Reading_read_row_3
def rt_Reading_read_row_1 : RSs := .cons rh_Reading_read_row_1 rt_Reading_read_row_2
def rt_Reading_read_row_0 : RSs := .cons rh_Reading_read_row_0 rt_Reading_read_row_1
theorem rs_Reading_read_row_cut : rs_Reading_read_row = rt_Reading_read_row_0 := rfl
def N_Reading_read_often : List Str := ["self", "deep", "found", "sign"]
def rs_Reading_read_often : RSs :=
  .cons (.set 2 (.ifE (.cmp .Eq (.own s_next_sign (.var 0) (.nil)) (.str (sOf [40]))) (.own s_read_bracket (.var 0) (.cons (.var 1) .nil)) (.own s_read_step (.var 0) (.nil))))
  (.cons (.set 3 (.own s_next_sign (.var 0) (.nil)))
  (.cons (.ifs (.cmp .NotIn (.var 3) (.tup (.cons (.str (sOf [42])) (.cons (.str (sOf [43])) (.cons (.str (sOf [63])) .nil)))))
    (.cons (.ret (.var 2)) .nil)
    (.nil))
  (.cons (.afld (.var 0) s_at false (.int 1))
  (.cons (.ret (.mk 0 (.cons (.var 2) (.cons (.var 3) .nil)))) .nil))))
def rh_Reading_read_often_0 : RS := .set 2 (.ifE (.cmp .Eq (.own s_next_sign (.var 0) (.nil)) (.str (sOf [40]))) (.own s_read_bracket (.var 0) (.cons (.var 1) .nil)) (.own s_read_step (.var 0) (.nil)))
def rh_Reading_read_often_1 : RS := .set 3 (.own s_next_sign (.var 0) (.nil))
def rh_Reading_read_often_2 : RS := .ifs (.cmp .NotIn (.var 3) (.tup (.cons (.str (sOf [42])) (.cons (.str (sOf [43])) (.cons (.str (sOf [63])) .nil)))))
  (.cons (.ret (.var 2)) .nil)
  (.nil)
def rh_Reading_read_often_3 : RS := .afld (.var 0) s_at false (.int 1)
def rh_Reading_read_often_4 : RS := .ret (.mk 0 (.cons (.var 2) (.cons (.var 3) .nil)))
def rt_Reading_read_often_5 : RSs := .nil
def rt_Reading_read_often_4 : RSs := .cons rh_Reading_read_often_4 rt_Reading_read_often_5
def rt_Reading_read_often_3 : RSs := .cons rh_Reading_read_often_3 rt_Reading_read_often_4
def rt_Reading_read_often_2 : RSs := .cons rh_Reading_read_often_2 rt_Reading_read_often_3
def rt_Reading_read_often_1 : RSs := .cons rh_Reading_read_often_1 rt_Reading_read_often_2
def rt_Reading_read_often_0 : RSs := .cons rh_Reading_read_often_0 rt_Reading_read_often_1
theorem rs_Reading_read_often_cut : rs_Reading_read_often = rt_Reading_read_often_0 := rfl
def N_Reading_read_bracket : List Str := ["self", "deep", "found"]
def rs_Reading_read_bracket : RSs :=
  .cons (.ifs (.cmp .Eq (.var 1) (.gc 0))
    (.cons (.raiseE 0 (.cons (.fld (.var 0) s_at) .nil)) .nil)
    (.nil))
  (.cons (.afld (.var 0) s_at false (.int 1))
  (.cons (.set 2 (.own s_read_choice (.var 0) (.cons (.bin .Add (.var 1) (.int 1)) .nil)))
  (.cons (.ifs (.cmp .NotEq (.own s_next_sign (.var 0) (.nil)) (.str (sOf [41])))
    (.cons (.raiseE 0 (.cons (.fld (.var 0) s_at) .nil)) .nil)
    (.nil))
  (.cons (.afld (.var 0) s_at false (.int 1))
  (.cons (.ret (.var 2)) .nil)))))
def rh_Reading_read_bracket_0 : RS := .ifs (.cmp .Eq (.var 1) (.gc 0))
  (.cons (.raiseE 0 (.cons (.fld (.var 0) s_at) .nil)) .nil)
  (.nil)
def rh_Reading_read_bracket_1 : RS := .afld (.var 0) s_at false (.int 1)
def rh_Reading_read_bracket_2 : RS := .set 2 (.own s_read_choice (.var 0) (.cons (.bin .Add (.var 1) (.int 1)) .nil))
def rh_Reading_read_bracket_3 : RS := .ifs (.cmp .NotEq (.own s_next_sign (.var 0) (.nil)) (.str (sOf [41])))
  (.cons (.raiseE 0 (.cons (.fld (.var 0) s_at) .nil)) .nil)
  (.nil)
def rh_Reading_read_bracket_4 : RS := .afld (.var 0) s_at false (.int 1)
def rh_Reading_read_bracket_5 : RS := .ret (.var 2)
def rt_Reading_read_bracket_6 : RSs := .nil
def rt_Reading_read_bracket_5 : RSs := .cons rh_Reading_read_bracket_5 rt_Reading_read_bracket_6
def rt_Reading_read_bracket_4 : RSs := .cons rh_Reading_read_bracket_4 rt_Reading_read_bracket_5
def rt_Reading_read_bracket_3 : RSs := .cons rh_Reading_read_bracket_3 rt_Reading_read_bracket_4
def rt_Reading_read_bracket_2 : RSs := .cons rh_Reading_read_bracket_2 rt_Reading_read_bracket_3
def rt_Reading_read_bracket_1 : RSs := .cons rh_Reading_read_bracket_1 rt_Reading_read_bracket_2
def rt_Reading_read_bracket_0 : RSs := .cons rh_Reading_read_bracket_0 rt_Reading_read_bracket_1
theorem rs_Reading_read_bracket_cut : rs_Reading_read_bracket = rt_Reading_read_bracket_0 := rfl
def N_Reading_read_step : List Str := ["self", "back", "first"]
def rs_Reading_read_step : RSs :=
  .cons (.set 1 (.cmp .Eq (.own s_next_sign (.var 0) (.nil)) (.str (sOf [45]))))
  (.cons (.ifs (.or (.and (.not (.tru (.var 1))) (.not (.chain .LtE .LtE (.str (sOf [97])) (.own s_next_sign (.var 0) (.nil)) (.str (sOf [122]))))) (.cmp .Eq (.fld (.var 0) s_done) (.gc 0)))
    (.cons (.raiseE 0 (.cons (.fld (.var 0) s_at) .nil)) .nil)
    (.nil))
  (.cons (.afld (.var 0) s_at false (.ct .int (.cons (.var 1) .nil)))
  (.cons (.set 2 (.fld (.var 0) s_at))
  (.cons (.wh (.chain .LtE .LtE (.str (sOf [97])) (.own s_next_sign (.var 0) (.nil)) (.str (sOf [122])))
    (.cons (.ifs (.cmp .Eq (.bin .Sub (.fld (.var 0) s_at) (.var 2)) (.gc 1))
      (.cons (.raiseE 0 (.cons (.fld (.var 0) s_at) .nil)) .nil)
      (.nil))
    (.cons (.afld (.var 0) s_at false (.int 1)) .nil)))
  (.cons (.ifs (.cmp .Eq (.fld (.var 0) s_at) (.var 2))
    (.cons (.raiseE 0 (.cons (.fld (.var 0) s_at) .nil)) .nil)
    (.nil))
  (.cons (.afld (.var 0) s_done false (.int 1))
  (.cons (.ret (.mk 0 (.cons (.sl (.fld (.var 0) s_signs) (.yes (.var 2)) (.yes (.fld (.var 0) s_at))) (.cons (.var 1) .nil)))) .nil)))))))
def rh_Reading_read_step_0 : RS := .set 1 (.cmp .Eq (.own s_next_sign (.var 0) (.nil)) (.str (sOf [45])))
def rh_Reading_read_step_1 : RS := .ifs (.or (.and (.not (.tru (.var 1))) (.not (.chain .LtE .LtE (.str (sOf [97])) (.own s_next_sign (.var 0) (.nil)) (.str (sOf [122]))))) (.cmp .Eq (.fld (.var 0) s_done) (.gc 0)))
  (.cons (.raiseE 0 (.cons (.fld (.var 0) s_at) .nil)) .nil)
  (.nil)
def rh_Reading_read_step_2 : RS := .afld (.var 0) s_at false (.ct .int (.cons (.var 1) .nil))
def rh_Reading_read_step_3 : RS := .set 2 (.fld (.var 0) s_at)
def rh_Reading_read_step_4 : RS := .wh (.chain .LtE .LtE (.str (sOf [97])) (.own s_next_sign (.var 0) (.nil)) (.str (sOf [122])))
  (.cons (.ifs (.cmp .Eq (.bin .Sub (.fld (.var 0) s_at) (.var 2)) (.gc 1))
    (.cons (.raiseE 0 (.cons (.fld (.var 0) s_at) .nil)) .nil)
    (.nil))
  (.cons (.afld (.var 0) s_at false (.int 1)) .nil))
def rh_Reading_read_step_5 : RS := .ifs (.cmp .Eq (.fld (.var 0) s_at) (.var 2))
  (.cons (.raiseE 0 (.cons (.fld (.var 0) s_at) .nil)) .nil)
  (.nil)
def rh_Reading_read_step_6 : RS := .afld (.var 0) s_done false (.int 1)
def rh_Reading_read_step_7 : RS := .ret (.mk 0 (.cons (.sl (.fld (.var 0) s_signs) (.yes (.var 2)) (.yes (.fld (.var 0) s_at))) (.cons (.var 1) .nil)))
def rt_Reading_read_step_8 : RSs := .nil
def rt_Reading_read_step_7 : RSs := .cons rh_Reading_read_step_7 rt_Reading_read_step_8
def rt_Reading_read_step_6 : RSs := .cons rh_Reading_read_step_6 rt_Reading_read_step_7
def rt_Reading_read_step_5 : RSs := .cons rh_Reading_read_step_5 rt_Reading_read_step_6
def rt_Reading_read_step_4 : RSs := .cons rh_Reading_read_step_4 rt_Reading_read_step_5
def rt_Reading_read_step_3 : RSs := .cons rh_Reading_read_step_3 rt_Reading_read_step_4
def rt_Reading_read_step_2 : RSs := .cons rh_Reading_read_step_2 rt_Reading_read_step_3
def rt_Reading_read_step_1 : RSs := .cons rh_Reading_read_step_1 rt_Reading_read_step_2
def rt_Reading_read_step_0 : RSs := .cons rh_Reading_read_step_0 rt_Reading_read_step_1
theorem rs_Reading_read_step_cut : rs_Reading_read_step = rt_Reading_read_step_0 := rfl
def N_word_of : List Str := ["text", "reading", "found"]
def rs_word_of : RSs :=
  .cons (.ifs (.not (.tru (.cb .isi (.cons (.var 0) (.cons (.ty "str") .nil)))))
    (.cons (.raiseE 0 (.cons (.int 0) .nil)) .nil)
    (.nil))
  (.cons (.set 1 (.hnd (.mk 0 (.cons (.var 0) .nil))))
  (.cons (.set 2 (.own s_read_choice (.var 1) (.cons (.int 0) .nil)))
  (.cons (.ifs (.cmp .Lt (.fld (.var 1) s_at) (.cb .len (.cons (.var 0) .nil)))
    (.cons (.raiseE 0 (.cons (.fld (.var 1) s_at) .nil)) .nil)
    (.nil))
  (.cons (.ret (.var 2)) .nil))))
def rh_word_of_0 : RS := .ifs (.not (.tru (.cb .isi (.cons (.var 0) (.cons (.ty "str") .nil)))))
  (.cons (.raiseE 0 (.cons (.int 0) .nil)) .nil)
  (.nil)
def rh_word_of_1 : RS := .set 1 (.hnd (.mk 0 (.cons (.var 0) .nil)))
def rh_word_of_2 : RS := .set 2 (.own s_read_choice (.var 1) (.cons (.int 0) .nil))
def rh_word_of_3 : RS := .ifs (.cmp .Lt (.fld (.var 1) s_at) (.cb .len (.cons (.var 0) .nil)))
  (.cons (.raiseE 0 (.cons (.fld (.var 1) s_at) .nil)) .nil)
  (.nil)
def rh_word_of_4 : RS := .ret (.var 2)
def rt_word_of_5 : RSs := .nil
def rt_word_of_4 : RSs := .cons rh_word_of_4 rt_word_of_5
def rt_word_of_3 : RSs := .cons rh_word_of_3 rt_word_of_4
def rt_word_of_2 : RSs := .cons rh_word_of_2 rt_word_of_3
def rt_word_of_1 : RSs := .cons rh_word_of_1 rt_word_of_2
def rt_word_of_0 : RSs := .cons rh_word_of_0 rt_word_of_1
theorem rs_word_of_cut : rs_word_of = rt_word_of_0 := rfl
def N_law_cell_at : List Str := ["_law_script", "_law_k"]
def rs_law_cell_at : RSs :=
  .cons (.ifs (.cmp .Lt (.var 1) (.cb .len (.cons (.var 0) .nil)))
    (.cons (.ret (.ix (.var 0) (.var 1))) .nil)
    (.nil))
  (.cons (.ret (.int 0)) .nil)
def rh_law_cell_at_0 : RS := .ifs (.cmp .Lt (.var 1) (.cb .len (.cons (.var 0) .nil)))
  (.cons (.ret (.ix (.var 0) (.var 1))) .nil)
  (.nil)
def rh_law_cell_at_1 : RS := .ret (.int 0)
def rt_law_cell_at_2 : RSs := .nil
def rt_law_cell_at_1 : RSs := .cons rh_law_cell_at_1 rt_law_cell_at_2
def rt_law_cell_at_0 : RSs := .cons rh_law_cell_at_0 rt_law_cell_at_1
theorem rs_law_cell_at_cut : rs_law_cell_at = rt_law_cell_at_0 := rfl
def N_law_mixed : List Str := ["_law_cell", "_law_k", "_law_number"]
def rs_law_mixed : RSs :=
  .cons (.set 2 (.bin .Add (.bin .Add (.var 0) (.bin .Mult (.int 7919) (.var 1))) (.int 3)))
  (.cons (.ret (.bin .Mod (.bin .Mult (.bin .Mod (.bin .Mult (.var 2) (.var 2)) (.int 2147483647)) (.int 48271)) (.int 2147483647))) .nil)
def rh_law_mixed_0 : RS := .set 2 (.bin .Add (.bin .Add (.var 0) (.bin .Mult (.int 7919) (.var 1))) (.int 3))
def rh_law_mixed_1 : RS := .ret (.bin .Mod (.bin .Mult (.bin .Mod (.bin .Mult (.var 2) (.var 2)) (.int 2147483647)) (.int 48271)) (.int 2147483647))
def rt_law_mixed_2 : RSs := .nil
def rt_law_mixed_1 : RSs := .cons rh_law_mixed_1 rt_law_mixed_2
def rt_law_mixed_0 : RSs := .cons rh_law_mixed_0 rt_law_mixed_1
theorem rs_law_mixed_cut : rs_law_mixed = rt_law_mixed_0 := rfl
def N_law_draw : List Str := ["_law_state"]
def rs_law_draw : RSs :=
  .cons (.sst (.var 0) (.str (sOf [97, 116])) (.bin .Add (.ix (.var 0) (.str (sOf [97, 116]))) (.int 1)))
  (.cons (.ret (.call 0 (.cons (.ix (.var 0) (.str (sOf [99, 101, 108, 108]))) (.cons (.ix (.var 0) (.str (sOf [97, 116]))) .nil)))) .nil)
def rh_law_draw_0 : RS := .sst (.var 0) (.str (sOf [97, 116])) (.bin .Add (.ix (.var 0) (.str (sOf [97, 116]))) (.int 1))
def rh_law_draw_1 : RS := .ret (.call 0 (.cons (.ix (.var 0) (.str (sOf [99, 101, 108, 108]))) (.cons (.ix (.var 0) (.str (sOf [97, 116]))) .nil)))
def rt_law_draw_2 : RSs := .nil
def rt_law_draw_1 : RSs := .cons rh_law_draw_1 rt_law_draw_2
def rt_law_draw_0 : RSs := .cons rh_law_draw_0 rt_law_draw_1
theorem rs_law_draw_cut : rs_law_draw = rt_law_draw_0 := rfl
def N_law_kind : List Str := ["_law_number", "_law_letters", "_law_j"]
def rs_law_kind : RSs :=
  .cons (.set 1 (.str (sOf [97, 98, 99, 100, 101, 102, 103, 104, 105, 106, 107, 108, 109, 110, 111, 112, 113, 114, 115, 116, 117, 118, 119, 120, 121, 122])))
  (.cons (.ret (.mt .join (.str (sOf [])) (.cons (.lc [("_law_j", 2)] 2 (.range1 (.bin .Add (.int 1) (.bin .Mod (.var 0) (.int 8)))) (.no) (.ix (.var 1) (.bin .Mod (.bin .Add (.bin .FloorDiv (.var 0) (.int 8)) (.bin .Mult (.var 2) (.bin .Add (.int 1) (.bin .Mod (.bin .FloorDiv (.var 0) (.int 208)) (.int 25))))) (.int 26)))) .nil))) .nil)
def rh_law_kind_0 : RS := .set 1 (.str (sOf [97, 98, 99, 100, 101, 102, 103, 104, 105, 106, 107, 108, 109, 110, 111, 112, 113, 114, 115, 116, 117, 118, 119, 120, 121, 122]))
def rh_law_kind_1 : RS := .ret (.mt .join (.str (sOf [])) (.cons (.lc [("_law_j", 2)] 2 (.range1 (.bin .Add (.int 1) (.bin .Mod (.var 0) (.int 8)))) (.no) (.ix (.var 1) (.bin .Mod (.bin .Add (.bin .FloorDiv (.var 0) (.int 8)) (.bin .Mult (.var 2) (.bin .Add (.int 1) (.bin .Mod (.bin .FloorDiv (.var 0) (.int 208)) (.int 25))))) (.int 26)))) .nil))
def rt_law_kind_2 : RSs := .nil
def rt_law_kind_1 : RSs := .cons rh_law_kind_1 rt_law_kind_2
def rt_law_kind_0 : RSs := .cons rh_law_kind_0 rt_law_kind_1
theorem rs_law_kind_cut : rs_law_kind = rt_law_kind_0 := rfl
def N_law_tree : List Str := ["_law_state", "_law_deep", "_law_number", "_law_many", "_law_k"]
def rs_law_tree : RSs :=
  .cons (.set 2 (.call 0 (.cons (.var 0) .nil)))
  (.cons (.set 3 (.bin .Add (.int 2) (.bin .Mod (.bin .FloorDiv (.var 2) (.int 8)) (.int 3))))
  (.cons (.ifs (.or (.cmp .Lt (.var 1) (.int 1)) (.or (.cmp .Lt (.bin .Mod (.var 2) (.int 8)) (.int 2)) (.and (.cmp .Lt (.bin .Mod (.var 2) (.int 8)) (.int 6)) (.cmp .Lt (.ix (.var 0) (.str (sOf [108, 101, 102, 116]))) (.bin .Sub (.var 3) (.int 1))))))
    (.cons (.ret (.tup (.cons (.str (sOf [115, 116, 101, 112])) (.cons (.call 1 (.cons (.call 0 (.cons (.var 0) .nil)) .nil)) (.cons (.cmp .Eq (.bin .Mod (.bin .FloorDiv (.var 2) (.int 8)) (.int 3)) (.int 1)) .nil))))) .nil)
    (.nil))
  (.cons (.ifs (.cmp .Gt (.bin .Mod (.var 2) (.int 8)) (.int 5))
    (.cons (.ret (.tup (.cons (.str (sOf [111, 102, 116, 101, 110])) (.cons (.call 2 (.cons (.var 0) (.cons (.bin .Sub (.var 1) (.int 1)) .nil))) (.cons (.ix (.str (sOf [42, 43, 63])) (.bin .Mod (.bin .FloorDiv (.var 2) (.int 8)) (.int 3))) .nil))))) .nil)
    (.nil))
  (.cons (.sst (.var 0) (.str (sOf [108, 101, 102, 116])) (.bin .Sub (.ix (.var 0) (.str (sOf [108, 101, 102, 116]))) (.bin .Sub (.var 3) (.int 1))))
  (.cons (.ret (.tup (.cons (.ix (.lst (.cons (.str (sOf [114, 111, 119])) (.cons (.str (sOf [99, 104, 111, 105, 99, 101])) .nil))) (.bin .Mod (.var 2) (.int 2))) (.cons (.ct .tuple (.cons (.lc [("_law_k", 4)] 4 (.range1 (.var 3)) (.no) (.call 2 (.cons (.var 0) (.cons (.bin .Sub (.var 1) (.int 1)) .nil)))) .nil)) .nil)))) .nil)))))
def rh_law_tree_0 : RS := .set 2 (.call 0 (.cons (.var 0) .nil))
def rh_law_tree_1 : RS := .set 3 (.bin .Add (.int 2) (.bin .Mod (.bin .FloorDiv (.var 2) (.int 8)) (.int 3)))
def rh_law_tree_2 : RS := .ifs (.or (.cmp .Lt (.var 1) (.int 1)) (.or (.cmp .Lt (.bin .Mod (.var 2) (.int 8)) (.int 2)) (.and (.cmp .Lt (.bin .Mod (.var 2) (.int 8)) (.int 6)) (.cmp .Lt (.ix (.var 0) (.str (sOf [108, 101, 102, 116]))) (.bin .Sub (.var 3) (.int 1))))))
  (.cons (.ret (.tup (.cons (.str (sOf [115, 116, 101, 112])) (.cons (.call 1 (.cons (.call 0 (.cons (.var 0) .nil)) .nil)) (.cons (.cmp .Eq (.bin .Mod (.bin .FloorDiv (.var 2) (.int 8)) (.int 3)) (.int 1)) .nil))))) .nil)
  (.nil)
def rh_law_tree_3 : RS := .ifs (.cmp .Gt (.bin .Mod (.var 2) (.int 8)) (.int 5))
  (.cons (.ret (.tup (.cons (.str (sOf [111, 102, 116, 101, 110])) (.cons (.call 2 (.cons (.var 0) (.cons (.bin .Sub (.var 1) (.int 1)) .nil))) (.cons (.ix (.str (sOf [42, 43, 63])) (.bin .Mod (.bin .FloorDiv (.var 2) (.int 8)) (.int 3))) .nil))))) .nil)
  (.nil)
def rh_law_tree_4 : RS := .sst (.var 0) (.str (sOf [108, 101, 102, 116])) (.bin .Sub (.ix (.var 0) (.str (sOf [108, 101, 102, 116]))) (.bin .Sub (.var 3) (.int 1)))
def rh_law_tree_5 : RS := .ret (.tup (.cons (.ix (.lst (.cons (.str (sOf [114, 111, 119])) (.cons (.str (sOf [99, 104, 111, 105, 99, 101])) .nil))) (.bin .Mod (.var 2) (.int 2))) (.cons (.ct .tuple (.cons (.lc [("_law_k", 4)] 4 (.range1 (.var 3)) (.no) (.call 2 (.cons (.var 0) (.cons (.bin .Sub (.var 1) (.int 1)) .nil)))) .nil)) .nil)))
def rt_law_tree_6 : RSs := .nil
def rt_law_tree_5 : RSs := .cons rh_law_tree_5 rt_law_tree_6
def rt_law_tree_4 : RSs := .cons rh_law_tree_4 rt_law_tree_5
def rt_law_tree_3 : RSs := .cons rh_law_tree_3 rt_law_tree_4
def rt_law_tree_2 : RSs := .cons rh_law_tree_2 rt_law_tree_3
def rt_law_tree_1 : RSs := .cons rh_law_tree_1 rt_law_tree_2
def rt_law_tree_0 : RSs := .cons rh_law_tree_0 rt_law_tree_1
theorem rs_law_tree_cut : rs_law_tree = rt_law_tree_0 := rfl
def N_law_text : List Str := ["_law_tree_here", "_law_least", "_law_state", "_law_number", "_law_found", "_law_part"]
def rs_law_text : RSs :=
  .cons (.ifs (.cmp .Eq (.ix (.var 0) (.int 0)) (.str (sOf [115, 116, 101, 112])))
    (.cons (.set 4 (.bin .Add (.bin .Mult (.str (sOf [45])) (.ct .int (.cons (.ix (.var 0) (.int 2)) .nil))) (.ix (.var 0) (.int 1)))) .nil)
    (.cons (.ifs (.cmp .Eq (.ix (.var 0) (.int 0)) (.str (sOf [111, 102, 116, 101, 110])))
      (.cons (.set 4 (.bin .Add (.call 0 (.cons (.ix (.var 0) (.int 1)) (.cons (.int 3) (.cons (.var 2) .nil)))) (.ix (.var 0) (.int 2)))) .nil)
      (.cons (.set 4 (.mt .join (.ix (.ddsp ["row", "choice"] (.cons (.str (sOf [46])) (.cons (.str (sOf [124])) .nil))) (.ix (.var 0) (.int 0))) (.cons (.lc [("_law_part", 5)] 5 (.any (.ix (.var 0) (.int 1))) (.no) (.call 0 (.cons (.var 5) (.cons (.ix (.ddsp ["row", "choice"] (.cons (.int 2) (.cons (.int 1) .nil))) (.ix (.var 0) (.int 0))) (.cons (.var 2) .nil))))) .nil))) .nil)) .nil))
  (.cons (.set 3 (.ifE (.cmp .Is (.var 2) (.non)) (.int 0) (.call 1 (.cons (.var 2) .nil))))
  (.cons (.ifs (.or (.cmp .Lt (.ix (.ddsp ["choice", "row", "often", "step"] (.cons (.int 0) (.cons (.int 1) (.cons (.int 2) (.cons (.int 3) .nil))))) (.ix (.var 0) (.int 0))) (.var 1)) (.cmp .Eq (.bin .Mod (.var 3) (.int 5)) (.int 1)))
    (.cons (.set 4 (.bin .Add (.bin .Add (.str (sOf [40])) (.var 4)) (.str (sOf [41])))) .nil)
    (.nil))
  (.cons (.ret (.ifE (.cmp .Eq (.bin .Mod (.var 3) (.int 7)) (.int 1)) (.bin .Add (.bin .Add (.str (sOf [40])) (.var 4)) (.str (sOf [41]))) (.var 4))) .nil)))
def rh_law_text_0 : RS := .ifs (.cmp .Eq (.ix (.var 0) (.int 0)) (.str (sOf [115, 116, 101, 112])))
  (.cons (.set 4 (.bin .Add (.bin .Mult (.str (sOf [45])) (.ct .int (.cons (.ix (.var 0) (.int 2)) .nil))) (.ix (.var 0) (.int 1)))) .nil)
  (.cons (.ifs (.cmp .Eq (.ix (.var 0) (.int 0)) (.str (sOf [111, 102, 116, 101, 110])))
    (.cons (.set 4 (.bin .Add (.call 0 (.cons (.ix (.var 0) (.int 1)) (.cons (.int 3) (.cons (.var 2) .nil)))) (.ix (.var 0) (.int 2)))) .nil)
    (.cons (.set 4 (.mt .join (.ix (.ddsp ["row", "choice"] (.cons (.str (sOf [46])) (.cons (.str (sOf [124])) .nil))) (.ix (.var 0) (.int 0))) (.cons (.lc [("_law_part", 5)] 5 (.any (.ix (.var 0) (.int 1))) (.no) (.call 0 (.cons (.var 5) (.cons (.ix (.ddsp ["row", "choice"] (.cons (.int 2) (.cons (.int 1) .nil))) (.ix (.var 0) (.int 0))) (.cons (.var 2) .nil))))) .nil))) .nil)) .nil)
def rh_law_text_1 : RS := .set 3 (.ifE (.cmp .Is (.var 2) (.non)) (.int 0) (.call 1 (.cons (.var 2) .nil)))
def rh_law_text_2 : RS := .ifs (.or (.cmp .Lt (.ix (.ddsp ["choice", "row", "often", "step"] (.cons (.int 0) (.cons (.int 1) (.cons (.int 2) (.cons (.int 3) .nil))))) (.ix (.var 0) (.int 0))) (.var 1)) (.cmp .Eq (.bin .Mod (.var 3) (.int 5)) (.int 1)))
  (.cons (.set 4 (.bin .Add (.bin .Add (.str (sOf [40])) (.var 4)) (.str (sOf [41])))) .nil)
  (.nil)
def rh_law_text_3 : RS := .ret (.ifE (.cmp .Eq (.bin .Mod (.var 3) (.int 7)) (.int 1)) (.bin .Add (.bin .Add (.str (sOf [40])) (.var 4)) (.str (sOf [41]))) (.var 4))
def rt_law_text_4 : RSs := .nil
def rt_law_text_3 : RSs := .cons rh_law_text_3 rt_law_text_4
def rt_law_text_2 : RSs := .cons rh_law_text_2 rt_law_text_3
def rt_law_text_1 : RSs := .cons rh_law_text_1 rt_law_text_2
def rt_law_text_0 : RSs := .cons rh_law_text_0 rt_law_text_1
theorem rs_law_text_cut : rs_law_text = rt_law_text_0 := rfl
def N_law_behind_letters : List Str := ["_law_text_here", "_law_at"]
def rs_law_behind_letters : RSs :=
  .cons (.wh (.chain .LtE .LtE (.str (sOf [97])) (.sl (.var 0) (.yes (.var 1)) (.yes (.bin .Add (.var 1) (.int 1)))) (.str (sOf [122])))
    (.cons (.set 1 (.bin .Add (.var 1) (.int 1))) .nil))
  (.cons (.ret (.var 1)) .nil)
def rh_law_behind_letters_0 : RS := .wh (.chain .LtE .LtE (.str (sOf [97])) (.sl (.var 0) (.yes (.var 1)) (.yes (.bin .Add (.var 1) (.int 1)))) (.str (sOf [122])))
  (.cons (.set 1 (.bin .Add (.var 1) (.int 1))) .nil)
def rh_law_behind_letters_1 : RS := .ret (.var 1)
def rt_law_behind_letters_2 : RSs := .nil
def rt_law_behind_letters_1 : RSs := .cons rh_law_behind_letters_1 rt_law_behind_letters_2
def rt_law_behind_letters_0 : RSs := .cons rh_law_behind_letters_0 rt_law_behind_letters_1
theorem rs_law_behind_letters_cut : rs_law_behind_letters = rt_law_behind_letters_0 := rfl
def N_law_behind_often : List Str := ["_law_text_here", "_law_at"]
def rs_law_behind_often : RSs :=
  .cons (.ret (.bin .Add (.var 1) (.ct .int (.cons (.cmp .In (.sl (.var 0) (.yes (.var 1)) (.yes (.bin .Add (.var 1) (.int 1)))) (.tup (.cons (.str (sOf [42])) (.cons (.str (sOf [43])) (.cons (.str (sOf [63])) .nil))))) .nil)))) .nil
def N_law_step_end : List Str := ["_law_text_here", "_law_at", "_law_first", "_law_end"]
def rs_law_step_end : RSs :=
  .cons (.set 2 (.bin .Add (.var 1) (.ct .int (.cons (.cmp .Eq (.sl (.var 0) (.yes (.var 1)) (.yes (.bin .Add (.var 1) (.int 1)))) (.str (sOf [45]))) .nil))))
  (.cons (.set 3 (.call 0 (.cons (.var 0) (.cons (.var 2) .nil))))
  (.cons (.ifs (.cmp .Eq (.var 3) (.var 2))
    (.cons (.ret (.bin .Sub (.neg (.int 1)) (.var 2))) .nil)
    (.nil))
  (.cons (.ifs (.cmp .Gt (.bin .Sub (.var 3) (.var 2)) (.int 8))
    (.cons (.ret (.bin .Sub (.neg (.int 1)) (.bin .Add (.var 2) (.int 8)))) .nil)
    (.nil))
  (.cons (.ret (.call 1 (.cons (.var 0) (.cons (.var 3) .nil)))) .nil))))
def rh_law_step_end_0 : RS := .set 2 (.bin .Add (.var 1) (.ct .int (.cons (.cmp .Eq (.sl (.var 0) (.yes (.var 1)) (.yes (.bin .Add (.var 1) (.int 1)))) (.str (sOf [45]))) .nil)))
def rh_law_step_end_1 : RS := .set 3 (.call 0 (.cons (.var 0) (.cons (.var 2) .nil)))
def rh_law_step_end_2 : RS := .ifs (.cmp .Eq (.var 3) (.var 2))
  (.cons (.ret (.bin .Sub (.neg (.int 1)) (.var 2))) .nil)
  (.nil)
def rh_law_step_end_3 : RS := .ifs (.cmp .Gt (.bin .Sub (.var 3) (.var 2)) (.int 8))
  (.cons (.ret (.bin .Sub (.neg (.int 1)) (.bin .Add (.var 2) (.int 8)))) .nil)
  (.nil)
def rh_law_step_end_4 : RS := .ret (.call 1 (.cons (.var 0) (.cons (.var 3) .nil)))
def rt_law_step_end_5 : RSs := .nil
def rt_law_step_end_4 : RSs := .cons rh_law_step_end_4 rt_law_step_end_5
def rt_law_step_end_3 : RSs := .cons rh_law_step_end_3 rt_law_step_end_4
def rt_law_step_end_2 : RSs := .cons rh_law_step_end_2 rt_law_step_end_3
def rt_law_step_end_1 : RSs := .cons rh_law_step_end_1 rt_law_step_end_2
def rt_law_step_end_0 : RSs := .cons rh_law_step_end_0 rt_law_step_end_1
theorem rs_law_step_end_cut : rs_law_step_end = rt_law_step_end_0 := rfl
def N_law_place : List Str := ["_law_text_here", "_law_at", "_law_is_open", "_law_steps", "_law_is_wanted", "_law_sign", "_law_end"]
def rs_law_place : RSs :=
  .cons (.set 1 (.int 0))
  (.cons (.set 2 (.int 0))
  (.cons (.set 3 (.int 0))
  (.cons (.set 4 (.bl true))
  (.cons (.wh (.tru (.bl true))
    (.cons (.set 5 (.sl (.var 0) (.yes (.var 1)) (.yes (.bin .Add (.var 1) (.int 1)))))
    (.cons (.ifs (.and (.tru (.var 4)) (.and (.cmp .Eq (.var 5) (.str (sOf [40]))) (.cmp .Lt (.var 2) (.int 10))))
      (.cons (.set 2 (.bin .Add (.var 2) (.int 1)))
      (.cons (.set 1 (.bin .Add (.var 1) (.int 1))) .nil))
      (.cons (.ifs (.tru (.var 4))
        (.cons (.ifs (.or (.not (.or (.cmp .Eq (.var 5) (.str (sOf [45]))) (.chain .LtE .LtE (.str (sOf [97])) (.var 5) (.str (sOf [122]))))) (.cmp .Eq (.var 3) (.int 12)))
          (.cons (.ret (.var 1)) .nil)
          (.nil))
        (.cons (.set 6 (.call 0 (.cons (.var 0) (.cons (.var 1) .nil))))
        (.cons (.ifs (.cmp .Lt (.var 6) (.int 0))
          (.cons (.ret (.bin .Sub (.neg (.int 1)) (.var 6))) .nil)
          (.nil))
        (.cons (.set 3 (.bin .Add (.var 3) (.int 1)))
        (.cons (.set 1 (.var 6))
        (.cons (.set 4 (.bl false)) .nil))))))
        (.cons (.ifs (.cmp .Eq (.var 5) (.str (sOf [])))
          (.cons (.ret (.ifE (.cmp .Gt (.var 2) (.int 0)) (.var 1) (.non))) .nil)
          (.cons (.ifs (.cmp .In (.var 5) (.tup (.cons (.str (sOf [46])) (.cons (.str (sOf [124])) .nil))))
            (.cons (.set 4 (.bl true))
            (.cons (.set 1 (.bin .Add (.var 1) (.int 1))) .nil))
            (.cons (.ifs (.and (.cmp .Eq (.var 5) (.str (sOf [41]))) (.cmp .Gt (.var 2) (.int 0)))
              (.cons (.set 2 (.bin .Sub (.var 2) (.int 1)))
              (.cons (.set 1 (.call 1 (.cons (.var 0) (.cons (.bin .Add (.var 1) (.int 1)) .nil)))) .nil))
              (.cons (.ret (.var 1)) .nil)) .nil)) .nil)) .nil)) .nil)) .nil))) .nil))))
def rh_law_place_0 : RS := .set 1 (.int 0)
def rh_law_place_1 : RS := .set 2 (.int 0)
def rh_law_place_2 : RS := .set 3 (.int 0)
def rh_law_place_3 : RS := .set 4 (.bl true)
def rh_law_place_4 : RS := .wh (.tru (.bl true))
  (.cons (.set 5 (.sl (.var 0) (.yes (.var 1)) (.yes (.bin .Add (.var 1) (.int 1)))))
  (.cons (.ifs (.and (.tru (.var 4)) (.and (.cmp .Eq (.var 5) (.str (sOf [40]))) (.cmp .Lt (.var 2) (.int 10))))
    (.cons (.set 2 (.bin .Add (.var 2) (.int 1)))
    (.cons (.set 1 (.bin .Add (.var 1) (.int 1))) .nil))
    (.cons (.ifs (.tru (.var 4))
      (.cons (.ifs (.or (.not (.or (.cmp .Eq (.var 5) (.str (sOf [45]))) (.chain .LtE .LtE (.str (sOf [97])) (.var 5) (.str (sOf [122]))))) (.cmp .Eq (.var 3) (.int 12)))
        (.cons (.ret (.var 1)) .nil)
        (.nil))
      (.cons (.set 6 (.call 0 (.cons (.var 0) (.cons (.var 1) .nil))))
      (.cons (.ifs (.cmp .Lt (.var 6) (.int 0))
        (.cons (.ret (.bin .Sub (.neg (.int 1)) (.var 6))) .nil)
        (.nil))
      (.cons (.set 3 (.bin .Add (.var 3) (.int 1)))
      (.cons (.set 1 (.var 6))
      (.cons (.set 4 (.bl false)) .nil))))))
      (.cons (.ifs (.cmp .Eq (.var 5) (.str (sOf [])))
        (.cons (.ret (.ifE (.cmp .Gt (.var 2) (.int 0)) (.var 1) (.non))) .nil)
        (.cons (.ifs (.cmp .In (.var 5) (.tup (.cons (.str (sOf [46])) (.cons (.str (sOf [124])) .nil))))
          (.cons (.set 4 (.bl true))
          (.cons (.set 1 (.bin .Add (.var 1) (.int 1))) .nil))
          (.cons (.ifs (.and (.cmp .Eq (.var 5) (.str (sOf [41]))) (.cmp .Gt (.var 2) (.int 0)))
            (.cons (.set 2 (.bin .Sub (.var 2) (.int 1)))
            (.cons (.set 1 (.call 1 (.cons (.var 0) (.cons (.bin .Add (.var 1) (.int 1)) .nil)))) .nil))
            (.cons (.ret (.var 1)) .nil)) .nil)) .nil)) .nil)) .nil)) .nil))
def rt_law_place_5 : RSs := .nil
def rt_law_place_4 : RSs := .cons rh_law_place_4 rt_law_place_5
def rt_law_place_3 : RSs := .cons rh_law_place_3 rt_law_place_4
def rt_law_place_2 : RSs := .cons rh_law_place_2 rt_law_place_3
def rt_law_place_1 : RSs := .cons rh_law_place_1 rt_law_place_2
def rt_law_place_0 : RSs := .cons rh_law_place_0 rt_law_place_1
theorem rs_law_place_cut : rs_law_place = rt_law_place_0 := rfl
def N_law_bound : List Str := ["_law_number", "_law_more", "_law_many", "_law_ahead", "_law_step", "_law_some", "_law_j"]
def rs_law_bound : RSs :=
  .cons (.set 1 (.bin .FloorDiv (.var 0) (.int 4)))
  (.cons (.ifs (.cmp .Eq (.bin .Mod (.var 0) (.int 4)) (.int 0))
    (.cons (.set 4 (.bin .Add (.int 1) (.bin .FloorDiv (.var 1) (.int 8))))
    (.cons (.set 5 (.lc [("_law_j", 6)] 6 (.range1 (.bin .Add (.int 12) (.bin .Mod (.var 1) (.int 2)))) (.no) (.ix (.lst (.cons (.str (sOf [97])) (.cons (.str (sOf [45, 98])) (.cons (.str (sOf [97, 98, 42])) (.cons (.str (sOf [40, 99, 41])) .nil))))) (.bin .Mod (.bin .Add (.bin .FloorDiv (.var 1) (.int 2)) (.bin .Mult (.var 6) (.var 4))) (.int 4)))))
    (.cons (.ret (.mt .join (.ix (.lst (.cons (.str (sOf [46])) (.cons (.str (sOf [124])) .nil))) (.bin .Mod (.bin .FloorDiv (.var 1) (.int 64)) (.int 2))) (.cons (.var 5) .nil))) .nil)))
    (.nil))
  (.cons (.ifs (.cmp .Eq (.bin .Mod (.var 0) (.int 4)) (.int 1))
    (.cons (.set 2 (.bin .Add (.int 9) (.bin .Mod (.var 1) (.int 4))))
    (.cons (.ret (.bin .Add (.bin .Add (.bin .Mult (.str (sOf [40])) (.var 2)) (.str (sOf [97]))) (.bin .Mult (.str (sOf [41])) (.bin .Sub (.var 2) (.bin .FloorDiv (.bin .Mod (.bin .FloorDiv (.var 1) (.int 4)) (.int 5)) (.int 4)))))) .nil))
    (.nil))
  (.cons (.ifs (.cmp .Eq (.bin .Mod (.var 0) (.int 4)) (.int 2))
    (.cons (.ret (.bin .Add (.bin .Add (.bin .Add (.str (sOf [97, 46])) (.bin .Mult (.str (sOf [45])) (.bin .Mod (.var 1) (.int 2)))) (.bin .Mult (.str (sOf [98])) (.bin .Add (.int 7) (.bin .Mod (.bin .FloorDiv (.var 1) (.int 2)) (.int 4))))) (.ix (.lst (.cons (.str (sOf [])) (.cons (.str (sOf [46, 99])) (.cons (.str (sOf [43])) (.cons (.str (sOf [124, 40, 97, 41])) .nil))))) (.bin .Mod (.bin .FloorDiv (.var 1) (.int 8)) (.int 4))))) .nil)
    (.nil))
  (.cons (.set 2 (.bin .Mod (.bin .FloorDiv (.var 1) (.int 3)) (.int 12)))
  (.cons (.set 3 (.bin .Mult (.bin .Add (.bin .Add (.bin .Add (.bin .Mult (.str (sOf [40])) (.int 6)) (.str (sOf [97]))) (.bin .Mult (.str (sOf [41])) (.int 6))) (.str (sOf [46]))) (.bin .Add (.int 1) (.bin .Mod (.var 1) (.int 3)))))
  (.cons (.ret (.bin .Add (.bin .Add (.bin .Add (.var 3) (.bin .Mult (.str (sOf [40])) (.var 2))) (.str (sOf [98]))) (.bin .Mult (.str (sOf [41])) (.var 2)))) .nil))))))
def rh_law_bound_0 : RS := .set 1 (.bin .FloorDiv (.var 0) (.int 4))
def rh_law_bound_1 : RS := .ifs (.cmp .Eq (.bin .Mod (.var 0) (.int 4)) (.int 0))
  (.cons (.set 4 (.bin .Add (.int 1) (.bin .FloorDiv (.var 1) (.int 8))))
  (.cons (.set 5 (.lc [("_law_j", 6)] 6 (.range1 (.bin .Add (.int 12) (.bin .Mod (.var 1) (.int 2)))) (.no) (.ix (.lst (.cons (.str (sOf [97])) (.cons (.str (sOf [45, 98])) (.cons (.str (sOf [97, 98, 42])) (.cons (.str (sOf [40, 99, 41])) .nil))))) (.bin .Mod (.bin .Add (.bin .FloorDiv (.var 1) (.int 2)) (.bin .Mult (.var 6) (.var 4))) (.int 4)))))
  (.cons (.ret (.mt .join (.ix (.lst (.cons (.str (sOf [46])) (.cons (.str (sOf [124])) .nil))) (.bin .Mod (.bin .FloorDiv (.var 1) (.int 64)) (.int 2))) (.cons (.var 5) .nil))) .nil)))
  (.nil)
def rh_law_bound_2 : RS := .ifs (.cmp .Eq (.bin .Mod (.var 0) (.int 4)) (.int 1))
  (.cons (.set 2 (.bin .Add (.int 9) (.bin .Mod (.var 1) (.int 4))))
  (.cons (.ret (.bin .Add (.bin .Add (.bin .Mult (.str (sOf [40])) (.var 2)) (.str (sOf [97]))) (.bin .Mult (.str (sOf [41])) (.bin .Sub (.var 2) (.bin .FloorDiv (.bin .Mod (.bin .FloorDiv (.var 1) (.int 4)) (.int 5)) (.int 4)))))) .nil))
  (.nil)
def rh_law_bound_3 : RS := .ifs (.cmp .Eq (.bin .Mod (.var 0) (.int 4)) (.int 2))
  (.cons (.ret (.bin .Add (.bin .Add (.bin .Add (.str (sOf [97, 46])) (.bin .Mult (.str (sOf [45])) (.bin .Mod (.var 1) (.int 2)))) (.bin .Mult (.str (sOf [98])) (.bin .Add (.int 7) (.bin .Mod (.bin .FloorDiv (.var 1) (.int 2)) (.int 4))))) (.ix (.lst (.cons (.str (sOf [])) (.cons (.str (sOf [46, 99])) (.cons (.str (sOf [43])) (.cons (.str (sOf [124, 40, 97, 41])) .nil))))) (.bin .Mod (.bin .FloorDiv (.var 1) (.int 8)) (.int 4))))) .nil)
  (.nil)
def rh_law_bound_4 : RS := .set 2 (.bin .Mod (.bin .FloorDiv (.var 1) (.int 3)) (.int 12))
def rh_law_bound_5 : RS := .set 3 (.bin .Mult (.bin .Add (.bin .Add (.bin .Add (.bin .Mult (.str (sOf [40])) (.int 6)) (.str (sOf [97]))) (.bin .Mult (.str (sOf [41])) (.int 6))) (.str (sOf [46]))) (.bin .Add (.int 1) (.bin .Mod (.var 1) (.int 3))))
def rh_law_bound_6 : RS := .ret (.bin .Add (.bin .Add (.bin .Add (.var 3) (.bin .Mult (.str (sOf [40])) (.var 2))) (.str (sOf [98]))) (.bin .Mult (.str (sOf [41])) (.var 2)))
def rt_law_bound_7 : RSs := .nil
def rt_law_bound_6 : RSs := .cons rh_law_bound_6 rt_law_bound_7
def rt_law_bound_5 : RSs := .cons rh_law_bound_5 rt_law_bound_6
def rt_law_bound_4 : RSs := .cons rh_law_bound_4 rt_law_bound_5
def rt_law_bound_3 : RSs := .cons rh_law_bound_3 rt_law_bound_4
def rt_law_bound_2 : RSs := .cons rh_law_bound_2 rt_law_bound_3
def rt_law_bound_1 : RSs := .cons rh_law_bound_1 rt_law_bound_2
def rt_law_bound_0 : RSs := .cons rh_law_bound_0 rt_law_bound_1
theorem rs_law_bound_cut : rs_law_bound = rt_law_bound_0 := rfl
def N_law_bent : List Str := ["_law_text_here", "_law_number", "_law_signs", "_law_more", "_law_at", "_law_sign"]
def rs_law_bent : RSs :=
  .cons (.set 2 (.str (sOf [97, 98, 122, 46, 124, 40, 41, 42, 43, 63, 45, 32, 65, 57, 44, 10, 95])))
  (.cons (.set 3 (.bin .FloorDiv (.var 1) (.int 7)))
  (.cons (.set 4 (.bin .Mod (.var 3) (.bin .Add (.cb .len (.cons (.var 0) .nil)) (.int 1))))
  (.cons (.set 5 (.ix (.var 2) (.bin .Mod (.bin .FloorDiv (.var 3) (.int 128)) (.cb .len (.cons (.var 2) .nil)))))
  (.cons (.ifs (.cmp .Eq (.bin .Mod (.var 1) (.int 7)) (.int 0))
    (.cons (.ret (.var 0)) .nil)
    (.nil))
  (.cons (.ifs (.cmp .Lt (.bin .Mod (.var 1) (.int 7)) (.int 3))
    (.cons (.ret (.bin .Add (.bin .Add (.sl (.var 0) (.no) (.yes (.var 4))) (.var 5)) (.sl (.var 0) (.yes (.var 4)) (.no)))) .nil)
    (.nil))
  (.cons (.ifs (.cmp .Eq (.bin .Mod (.var 1) (.int 7)) (.int 3))
    (.cons (.ret (.bin .Add (.sl (.var 0) (.no) (.yes (.var 4))) (.sl (.var 0) (.yes (.bin .Add (.var 4) (.int 1))) (.no)))) .nil)
    (.nil))
  (.cons (.ifs (.cmp .Eq (.bin .Mod (.var 1) (.int 7)) (.int 4))
    (.cons (.ret (.bin .Add (.bin .Add (.sl (.var 0) (.no) (.yes (.var 4))) (.var 5)) (.sl (.var 0) (.yes (.bin .Add (.var 4) (.int 1))) (.no)))) .nil)
    (.nil))
  (.cons (.ret (.ifE (.cmp .Eq (.bin .Mod (.var 1) (.int 7)) (.int 5)) (.sl (.var 0) (.no) (.yes (.var 4))) (.call 0 (.cons (.var 3) .nil)))) .nil))))))))
def rh_law_bent_0 : RS := .set 2 (.str (sOf [97, 98, 122, 46, 124, 40, 41, 42, 43, 63, 45, 32, 65, 57, 44, 10, 95]))
def rh_law_bent_1 : RS := .set 3 (.bin .FloorDiv (.var 1) (.int 7))
def rh_law_bent_2 : RS := .set 4 (.bin .Mod (.var 3) (.bin .Add (.cb .len (.cons (.var 0) .nil)) (.int 1)))
def rh_law_bent_3 : RS := .set 5 (.ix (.var 2) (.bin .Mod (.bin .FloorDiv (.var 3) (.int 128)) (.cb .len (.cons (.var 2) .nil))))
def rh_law_bent_4 : RS := .ifs (.cmp .Eq (.bin .Mod (.var 1) (.int 7)) (.int 0))
  (.cons (.ret (.var 0)) .nil)
  (.nil)
def rh_law_bent_5 : RS := .ifs (.cmp .Lt (.bin .Mod (.var 1) (.int 7)) (.int 3))
  (.cons (.ret (.bin .Add (.bin .Add (.sl (.var 0) (.no) (.yes (.var 4))) (.var 5)) (.sl (.var 0) (.yes (.var 4)) (.no)))) .nil)
  (.nil)
def rh_law_bent_6 : RS := .ifs (.cmp .Eq (.bin .Mod (.var 1) (.int 7)) (.int 3))
  (.cons (.ret (.bin .Add (.sl (.var 0) (.no) (.yes (.var 4))) (.sl (.var 0) (.yes (.bin .Add (.var 4) (.int 1))) (.no)))) .nil)
  (.nil)
def rh_law_bent_7 : RS := .ifs (.cmp .Eq (.bin .Mod (.var 1) (.int 7)) (.int 4))
  (.cons (.ret (.bin .Add (.bin .Add (.sl (.var 0) (.no) (.yes (.var 4))) (.var 5)) (.sl (.var 0) (.yes (.bin .Add (.var 4) (.int 1))) (.no)))) .nil)
  (.nil)
def rh_law_bent_8 : RS := .ret (.ifE (.cmp .Eq (.bin .Mod (.var 1) (.int 7)) (.int 5)) (.sl (.var 0) (.no) (.yes (.var 4))) (.call 0 (.cons (.var 3) .nil)))
def rt_law_bent_9 : RSs := .nil
def rt_law_bent_8 : RSs := .cons rh_law_bent_8 rt_law_bent_9
def rt_law_bent_7 : RSs := .cons rh_law_bent_7 rt_law_bent_8
def rt_law_bent_6 : RSs := .cons rh_law_bent_6 rt_law_bent_7
def rt_law_bent_5 : RSs := .cons rh_law_bent_5 rt_law_bent_6
def rt_law_bent_4 : RSs := .cons rh_law_bent_4 rt_law_bent_5
def rt_law_bent_3 : RSs := .cons rh_law_bent_3 rt_law_bent_4
def rt_law_bent_2 : RSs := .cons rh_law_bent_2 rt_law_bent_3
def rt_law_bent_1 : RSs := .cons rh_law_bent_1 rt_law_bent_2
def rt_law_bent_0 : RSs := .cons rh_law_bent_0 rt_law_bent_1
theorem rs_law_bent_cut : rs_law_bent = rt_law_bent_0 := rfl
def N_law_refusal : List Str := ["_law_thing", "_law_found", "e"]
def rs_law_refusal : RSs :=
  .cons (.set 1 (.non))
  (.cons (.tryK 0 2 1
    (.cons (.ex (.call 0 (.cons (.var 0) .nil))) .nil))
  (.cons (.ret (.var 1)) .nil))
def rh_law_refusal_0 : RS := .set 1 (.non)
def rh_law_refusal_1 : RS := .tryK 0 2 1
  (.cons (.ex (.call 0 (.cons (.var 0) .nil))) .nil)
def rh_law_refusal_2 : RS := .ret (.var 1)
def rt_law_refusal_3 : RSs := .nil
def rt_law_refusal_2 : RSs := .cons rh_law_refusal_2 rt_law_refusal_3
def rt_law_refusal_1 : RSs := .cons rh_law_refusal_1 rt_law_refusal_2
def rt_law_refusal_0 : RSs := .cons rh_law_refusal_0 rt_law_refusal_1
theorem rs_law_refusal_cut : rs_law_refusal = rt_law_refusal_0 := rfl
def N_law_is_bad : List Str := ["_law_found", "_law_due"]
def rs_law_is_bad : RSs :=
  .cons (.ifs (.tru (.cb .isi (.cons (.var 0) (.cons (.tup (.cons (.gc 8) (.cons (.gc 7) (.cons (.gc 6) (.cons (.gc 5) (.cons (.gc 4) (.cons (.gc 3) (.cons (.gc 2) (.cons (.gc 1) (.cons (.gc 0) .nil)))))))))) .nil))))
    (.cons (.ret (.bl false)) .nil)
    (.nil))
  (.cons (.ifs (.or (.not (.tru (.cb .isi (.cons (.var 0) (.cons (.gc 9) .nil))))) (.not (.tru (.cb .isi (.cons (.var 0) (.cons (.ty "ValueError") .nil))))))
    (.cons (.ret (.bl false)) .nil)
    (.nil))
  (.cons (.ret (.andV (.cb .isi (.cons (.fld (.var 0) s_place) (.cons (.ty "int") .nil))) (.andV (.notV (.cb .isi (.cons (.fld (.var 0) s_place) (.cons (.ty "bool") .nil)))) (.cmp .Eq (.fld (.var 0) s_place) (.var 1))))) .nil))
def rh_law_is_bad_0 : RS := .ifs (.tru (.cb .isi (.cons (.var 0) (.cons (.tup (.cons (.gc 8) (.cons (.gc 7) (.cons (.gc 6) (.cons (.gc 5) (.cons (.gc 4) (.cons (.gc 3) (.cons (.gc 2) (.cons (.gc 1) (.cons (.gc 0) .nil)))))))))) .nil))))
  (.cons (.ret (.bl false)) .nil)
  (.nil)
def rh_law_is_bad_1 : RS := .ifs (.or (.not (.tru (.cb .isi (.cons (.var 0) (.cons (.gc 9) .nil))))) (.not (.tru (.cb .isi (.cons (.var 0) (.cons (.ty "ValueError") .nil))))))
  (.cons (.ret (.bl false)) .nil)
  (.nil)
def rh_law_is_bad_2 : RS := .ret (.andV (.cb .isi (.cons (.fld (.var 0) s_place) (.cons (.ty "int") .nil))) (.andV (.notV (.cb .isi (.cons (.fld (.var 0) s_place) (.cons (.ty "bool") .nil)))) (.cmp .Eq (.fld (.var 0) s_place) (.var 1))))
def rt_law_is_bad_3 : RSs := .nil
def rt_law_is_bad_2 : RSs := .cons rh_law_is_bad_2 rt_law_is_bad_3
def rt_law_is_bad_1 : RSs := .cons rh_law_is_bad_1 rt_law_is_bad_2
def rt_law_is_bad_0 : RSs := .cons rh_law_is_bad_0 rt_law_is_bad_1
theorem rs_law_is_bad_cut : rs_law_is_bad = rt_law_is_bad_0 := rfl
def N_law : List Str := ["_law_script", "_law_k", "_law_state", "_law_text_here", "_law_due", "_law_turn", "_law_odd", "_law_found"]
def rs_law : RSs :=
  .cons (.fr 1 (.range1 (.cb .max2 (.cons (.int 1) (.cons (.cb .min2 (.cons (.int 63) (.cons (.cb .len (.cons (.var 0) .nil)) .nil))) .nil))))
    (.cons (.set 2 (.hnd (.ddsp ["cell", "at", "left"] (.cons (.bin .Add (.call 0 (.cons (.var 0) (.cons (.var 1) .nil))) (.bin .Mult (.int 97) (.var 1))) (.cons (.int 0) (.cons (.int 11) .nil))))))
    (.cons (.set 3 (.call 1 (.cons (.call 3 (.cons (.call 4 (.cons (.var 2) (.cons (.int 4) .nil))) (.cons (.int 0) (.cons (.var 2) .nil)))) (.cons (.call 2 (.cons (.var 2) .nil)) .nil))))
    (.cons (.set 4 (.call 5 (.cons (.var 3) .nil)))
    (.cons (.fr 5 (.range1 (.int 2))
      (.cons (.set 7 (.call 6 (.cons (.var 3) .nil)))
      (.cons (.ifs (.and (.cmp .Is (.var 4) (.non)) (.or (.cmp .IsNot (.var 7) (.non)) (.not (.tru (.cb .isi (.cons (.call 7 (.cons (.var 3) .nil)) (.cons (.gc 0) .nil)))))))
        (.cons (.ret (.bl false)) .nil)
        (.nil))
      (.cons (.ifs (.and (.cmp .IsNot (.var 4) (.non)) (.not (.tru (.call 8 (.cons (.var 7) (.cons (.var 4) .nil))))))
        (.cons (.ret (.bl false)) .nil)
        (.nil)) .nil))))
    (.cons (.set 6 (.ix (.lst (.cons (.non) (.cons (.int 5) (.cons (.bl true) (.cons (.lst (.cons (.str (sOf [97])) .nil)) (.cons (.tup (.cons (.str (sOf [97])) .nil)) (.cons (.dnew) (.cons (.bl false) (.cons (.neg (.int 7)) .nil))))))))) (.bin .Mod (.call 2 (.cons (.var 2) .nil)) (.int 8))))
    (.cons (.ifs (.not (.tru (.call 8 (.cons (.call 6 (.cons (.var 6) .nil)) (.cons (.int 0) .nil)))))
      (.cons (.ret (.bl false)) .nil)
      (.nil)) .nil)))))))
  (.cons (.ret (.bl true)) .nil)
def rh_law_0_0 : RS := .set 2 (.hnd (.ddsp ["cell", "at", "left"] (.cons (.bin .Add (.call 0 (.cons (.var 0) (.cons (.var 1) .nil))) (.bin .Mult (.int 97) (.var 1))) (.cons (.int 0) (.cons (.int 11) .nil)))))
def rh_law_0_1 : RS := .set 3 (.call 1 (.cons (.call 3 (.cons (.call 4 (.cons (.var 2) (.cons (.int 4) .nil))) (.cons (.int 0) (.cons (.var 2) .nil)))) (.cons (.call 2 (.cons (.var 2) .nil)) .nil)))
def rh_law_0_2 : RS := .set 4 (.call 5 (.cons (.var 3) .nil))
def rh_law_0_3_0 : RS := .set 7 (.call 6 (.cons (.var 3) .nil))
def rh_law_0_3_1 : RS := .ifs (.and (.cmp .Is (.var 4) (.non)) (.or (.cmp .IsNot (.var 7) (.non)) (.not (.tru (.cb .isi (.cons (.call 7 (.cons (.var 3) .nil)) (.cons (.gc 0) .nil)))))))
  (.cons (.ret (.bl false)) .nil)
  (.nil)
def rh_law_0_3_2 : RS := .ifs (.and (.cmp .IsNot (.var 4) (.non)) (.not (.tru (.call 8 (.cons (.var 7) (.cons (.var 4) .nil))))))
  (.cons (.ret (.bl false)) .nil)
  (.nil)
def rt_law_0_3_3 : RSs := .nil
def rt_law_0_3_2 : RSs := .cons rh_law_0_3_2 rt_law_0_3_3
def rt_law_0_3_1 : RSs := .cons rh_law_0_3_1 rt_law_0_3_2
def rt_law_0_3_0 : RSs := .cons rh_law_0_3_0 rt_law_0_3_1
def rh_law_0_3 : RS := .fr 5 (.range1 (.int 2)) rt_law_0_3_0
def rh_law_0_4 : RS := .set 6 (.ix (.lst (.cons (.non) (.cons (.int 5) (.cons (.bl true) (.cons (.lst (.cons (.str (sOf [97])) .nil)) (.cons (.tup (.cons (.str (sOf [97])) .nil)) (.cons (.dnew) (.cons (.bl false) (.cons (.neg (.int 7)) .nil))))))))) (.bin .Mod (.call 2 (.cons (.var 2) .nil)) (.int 8)))
def rh_law_0_5 : RS := .ifs (.not (.tru (.call 8 (.cons (.call 6 (.cons (.var 6) .nil)) (.cons (.int 0) .nil)))))
  (.cons (.ret (.bl false)) .nil)
  (.nil)
def rt_law_0_6 : RSs := .nil
def rt_law_0_5 : RSs := .cons rh_law_0_5 rt_law_0_6
def rt_law_0_4 : RSs := .cons rh_law_0_4 rt_law_0_5
def rt_law_0_3 : RSs := .cons rh_law_0_3 rt_law_0_4
def rt_law_0_2 : RSs := .cons rh_law_0_2 rt_law_0_3
def rt_law_0_1 : RSs := .cons rh_law_0_1 rt_law_0_2
def rt_law_0_0 : RSs := .cons rh_law_0_0 rt_law_0_1
def rh_law_0 : RS := .fr 1 (.range1 (.cb .max2 (.cons (.int 1) (.cons (.cb .min2 (.cons (.int 63) (.cons (.cb .len (.cons (.var 0) .nil)) .nil))) .nil)))) rt_law_0_0
def rh_law_1 : RS := .ret (.bl true)
def rt_law_2 : RSs := .nil
def rt_law_1 : RSs := .cons rh_law_1 rt_law_2
def rt_law_0 : RSs := .cons rh_law_0 rt_law_1
theorem rs_law_cut : rs_law = rt_law_0 := rfl
end Q05
set_option Elab.async false
set_option autoImplicit false
set_option linter.all false
set_option maxRecDepth 100000
set_option maxHeartbeats 4000000
namespace Q05
open PySem PySem.Spec PyProof.Rows L2 Rf
def topS (i : Nat) : Stmt := PySem.Challenge.pw_askweave_k05_words_refused.main.body.getD i (.Pass ⟨0, 0, 0, 0⟩)
def inClass (s : Stmt) (j : Nat) : Stmt := match s with
  | .ClassDef (body := b) .. => b.getD j (.Pass ⟨0, 0, 0, 0⟩)
  | _ => .Pass ⟨0, 0, 0, 0⟩
def C_wall : Ct := { N := N_wall, sc := defScope (topS 0), fns := [], gs := [], fr := [], ex := [], mks := [], exi := [] }
theorem ck_wall : defB C_wall ["k"] rs_wall (defBody (topS 0)) = true := by decide +kernel
def C_BadWord___init__ : Ct := { N := N_BadWord___init__, sc := defScope (inClass (topS 9) 0), fns := [], gs := [], fr := [], ex := [], mks := [], exi := [] }
theorem ck_BadWord___init__ : defB C_BadWord___init__ ["self", "place"] rs_BadWord___init__ (defBody (inClass (topS 9) 0)) = true := by decide +kernel
def C_BadQuestion___init__ : Ct := { N := N_BadQuestion___init__, sc := defScope (inClass (topS 10) 0), fns := [], gs := [], fr := [], ex := [], mks := [], exi := [] }
theorem ck_BadQuestion___init__ : defB C_BadQuestion___init__ ["self", "line", "why"] rs_BadQuestion___init__ (defBody (inClass (topS 10) 0)) = true := by decide +kernel
def C_Word_strength : Ct := { N := N_Word_strength, sc := defScope (inClass (topS 17) 0), fns := [], gs := [], fr := [], ex := [], mks := [], exi := [] }
theorem ck_Word_strength : defB C_Word_strength ["self"] rs_Word_strength (defBody (inClass (topS 17) 0)) = true := by decide +kernel
def C_Word_text : Ct := { N := N_Word_text, sc := defScope (inClass (topS 17) 1), fns := [], gs := [], fr := [], ex := [], mks := [], exi := [] }
theorem ck_Word_text : defB C_Word_text ["self"] rs_Word_text (defBody (inClass (topS 17) 1)) = true := by decide +kernel
def C_Word_steps : Ct := { N := N_Word_steps, sc := defScope (inClass (topS 17) 2), fns := [], gs := [], fr := [], ex := [], mks := [], exi := [] }
theorem ck_Word_steps : defB C_Word_steps ["self"] rs_Word_steps (defBody (inClass (topS 17) 2)) = true := by decide +kernel
def C_Word_may_be_none : Ct := { N := N_Word_may_be_none, sc := defScope (inClass (topS 17) 3), fns := ["_wall"], gs := [], fr := [], ex := [], mks := [], exi := [] }
theorem ck_Word_may_be_none : defB C_Word_may_be_none ["self"] rs_Word_may_be_none (defBody (inClass (topS 17) 3)) = true := by decide +kernel
def C_Step___init__ : Ct := { N := N_Step___init__, sc := defScope (inClass (topS 18) 0), fns := [], gs := [], fr := [], ex := [], mks := [], exi := [] }
theorem ck_Step___init__ : defB C_Step___init__ ["self", "kind", "back"] rs_Step___init__ (defBody (inClass (topS 18) 0)) = true := by decide +kernel
def C_Step_text : Ct := { N := N_Step_text, sc := defScope (inClass (topS 18) 1), fns := [], gs := [], fr := [], ex := [], mks := [], exi := [] }
theorem ck_Step_text : defB C_Step_text ["self"] rs_Step_text (defBody (inClass (topS 18) 1)) = true := by decide +kernel
def C_Row___init__ : Ct := { N := N_Row___init__, sc := defScope (inClass (topS 19) 0), fns := [], gs := [], fr := ["list"], ex := [], mks := [], exi := [] }
theorem ck_Row___init__ : defB C_Row___init__ ["self", "parts"] rs_Row___init__ (defBody (inClass (topS 19) 0)) = true := by decide +kernel
def C_Row_strength : Ct := { N := N_Row_strength, sc := defScope (inClass (topS 19) 1), fns := [], gs := [], fr := [], ex := [], mks := [], exi := [] }
theorem ck_Row_strength : defB C_Row_strength ["self"] rs_Row_strength (defBody (inClass (topS 19) 1)) = true := by decide +kernel
def C_Row_text : Ct := { N := N_Row_text, sc := defScope (inClass (topS 19) 2), fns := ["bracketed"], gs := [], fr := [], ex := [], mks := [], exi := [] }
theorem ck_Row_text : defB C_Row_text ["self"] rs_Row_text (defBody (inClass (topS 19) 2)) = true := by decide +kernel
def C_Row_steps : Ct := { N := N_Row_steps, sc := defScope (inClass (topS 19) 3), fns := [], gs := [], fr := ["sum"], ex := [], mks := [], exi := [] }
theorem ck_Row_steps : defB C_Row_steps ["self"] rs_Row_steps (defBody (inClass (topS 19) 3)) = true := by decide +kernel
def C_Row_may_be_none : Ct := { N := N_Row_may_be_none, sc := defScope (inClass (topS 19) 4), fns := ["_wall"], gs := [], fr := [], ex := [], mks := [], exi := [] }
theorem ck_Row_may_be_none : defB C_Row_may_be_none ["self"] rs_Row_may_be_none (defBody (inClass (topS 19) 4)) = true := by decide +kernel
def C_Choice___init__ : Ct := { N := N_Choice___init__, sc := defScope (inClass (topS 20) 0), fns := [], gs := [], fr := ["list"], ex := [], mks := [], exi := [] }
theorem ck_Choice___init__ : defB C_Choice___init__ ["self", "parts"] rs_Choice___init__ (defBody (inClass (topS 20) 0)) = true := by decide +kernel
def C_Choice_strength : Ct := { N := N_Choice_strength, sc := defScope (inClass (topS 20) 1), fns := [], gs := [], fr := [], ex := [], mks := [], exi := [] }
theorem ck_Choice_strength : defB C_Choice_strength ["self"] rs_Choice_strength (defBody (inClass (topS 20) 1)) = true := by decide +kernel
def C_Choice_text : Ct := { N := N_Choice_text, sc := defScope (inClass (topS 20) 2), fns := ["bracketed"], gs := [], fr := [], ex := [], mks := [], exi := [] }
theorem ck_Choice_text : defB C_Choice_text ["self"] rs_Choice_text (defBody (inClass (topS 20) 2)) = true := by decide +kernel
def C_Choice_steps : Ct := { N := N_Choice_steps, sc := defScope (inClass (topS 20) 3), fns := [], gs := [], fr := ["sum"], ex := [], mks := [], exi := [] }
theorem ck_Choice_steps : defB C_Choice_steps ["self"] rs_Choice_steps (defBody (inClass (topS 20) 3)) = true := by decide +kernel
def C_Choice_may_be_none : Ct := { N := N_Choice_may_be_none, sc := defScope (inClass (topS 20) 4), fns := ["_wall"], gs := [], fr := [], ex := [], mks := [], exi := [] }
theorem ck_Choice_may_be_none : defB C_Choice_may_be_none ["self"] rs_Choice_may_be_none (defBody (inClass (topS 20) 4)) = true := by decide +kernel
def C_Often___init__ : Ct := { N := N_Often___init__, sc := defScope (inClass (topS 21) 0), fns := [], gs := [], fr := [], ex := [], mks := [], exi := [] }
theorem ck_Often___init__ : defB C_Often___init__ ["self", "part", "sign"] rs_Often___init__ (defBody (inClass (topS 21) 0)) = true := by decide +kernel
def C_Often_strength : Ct := { N := N_Often_strength, sc := defScope (inClass (topS 21) 1), fns := [], gs := [], fr := [], ex := [], mks := [], exi := [] }
theorem ck_Often_strength : defB C_Often_strength ["self"] rs_Often_strength (defBody (inClass (topS 21) 1)) = true := by decide +kernel
def C_Often_text : Ct := { N := N_Often_text, sc := defScope (inClass (topS 21) 2), fns := ["bracketed"], gs := [], fr := [], ex := [], mks := [], exi := [] }
theorem ck_Often_text : defB C_Often_text ["self"] rs_Often_text (defBody (inClass (topS 21) 2)) = true := by decide +kernel
def C_Often_steps : Ct := { N := N_Often_steps, sc := defScope (inClass (topS 21) 3), fns := [], gs := [], fr := [], ex := [], mks := [], exi := [] }
theorem ck_Often_steps : defB C_Often_steps ["self"] rs_Often_steps (defBody (inClass (topS 21) 3)) = true := by decide +kernel
def C_Often_may_be_none : Ct := { N := N_Often_may_be_none, sc := defScope (inClass (topS 21) 4), fns := ["_wall"], gs := [], fr := [], ex := [], mks := [], exi := [] }
theorem ck_Often_may_be_none : defB C_Often_may_be_none ["self"] rs_Often_may_be_none (defBody (inClass (topS 21) 4)) = true := by decide +kernel
def C_bracketed : Ct := { N := N_bracketed, sc := defScope (topS 22), fns := [], gs := [], fr := [], ex := [], mks := [], exi := [] }
theorem ck_bracketed : defB C_bracketed ["word", "least"] rs_bracketed (defBody (topS 22)) = true := by decide +kernel
def C_row_of : Ct := { N := N_row_of, sc := defScope (topS 23), fns := [], gs := ["Row"], fr := ["isinstance", "len"], ex := [], mks := ["Row"], exi := [] }
theorem ck_row_of : defB C_row_of ["parts"] rs_row_of (defBody (topS 23)) = true := by decide +kernel
def C_choice_of : Ct := { N := N_choice_of, sc := defScope (topS 24), fns := [], gs := ["Choice"], fr := ["isinstance", "len"], ex := [], mks := ["Choice"], exi := [] }
theorem ck_choice_of : defB C_choice_of ["parts"] rs_choice_of (defBody (topS 24)) = true := by decide +kernel
def C_Reading___init__ : Ct := { N := N_Reading___init__, sc := defScope (inClass (topS 25) 0), fns := [], gs := [], fr := [], ex := [], mks := [], exi := [] }
theorem ck_Reading___init__ : defB C_Reading___init__ ["self", "signs"] rs_Reading___init__ (defBody (inClass (topS 25) 0)) = true := by decide +kernel
def C_Reading_next_sign : Ct := { N := N_Reading_next_sign, sc := defScope (inClass (topS 25) 1), fns := [], gs := [], fr := [], ex := [], mks := [], exi := [] }
theorem ck_Reading_next_sign : defB C_Reading_next_sign ["self"] rs_Reading_next_sign (defBody (inClass (topS 25) 1)) = true := by decide +kernel
def C_Reading_read_choice : Ct := { N := N_Reading_read_choice, sc := defScope (inClass (topS 25) 2), fns := ["choice_of"], gs := [], fr := [], ex := [], mks := [], exi := [] }
theorem ck_Reading_read_choice : defB C_Reading_read_choice ["self", "deep"] rs_Reading_read_choice (defBody (inClass (topS 25) 2)) = true := by decide +kernel
def C_Reading_read_row : Ct := { N := N_Reading_read_row, sc := defScope (inClass (topS 25) 3), fns := ["row_of"], gs := [], fr := [], ex := [], mks := [], exi := [] }
theorem ck_Reading_read_row : defB C_Reading_read_row ["self", "deep"] rs_Reading_read_row (defBody (inClass (topS 25) 3)) = true := by decide +kernel
def C_Reading_read_often : Ct := { N := N_Reading_read_often, sc := defScope (inClass (topS 25) 4), fns := [], gs := [], fr := [], ex := [], mks := ["Often"], exi := [] }
theorem ck_Reading_read_often : defB C_Reading_read_often ["self", "deep"] rs_Reading_read_often (defBody (inClass (topS 25) 4)) = true := by decide +kernel
def C_Reading_read_bracket : Ct := { N := N_Reading_read_bracket, sc := defScope (inClass (topS 25) 5), fns := [], gs := ["MOST_OPEN"], fr := [], ex := [], mks := [], exi := ["BadWord"] }
theorem ck_Reading_read_bracket : defB C_Reading_read_bracket ["self", "deep"] rs_Reading_read_bracket (defBody (inClass (topS 25) 5)) = true := by decide +kernel
def C_Reading_read_step : Ct := { N := N_Reading_read_step, sc := defScope (inClass (topS 25) 6), fns := [], gs := ["MOST_STEPS", "MOST_LETTERS"], fr := ["int"], ex := [], mks := ["Step"], exi := ["BadWord"] }
theorem ck_Reading_read_step : defB C_Reading_read_step ["self"] rs_Reading_read_step (defBody (inClass (topS 25) 6)) = true := by decide +kernel
def C_word_of : Ct := { N := N_word_of, sc := defScope (topS 26), fns := [], gs := [], fr := ["isinstance", "str", "len"], ex := [], mks := ["Reading"], exi := ["BadWord"] }
theorem ck_word_of : defB C_word_of ["text"] rs_word_of (defBody (topS 26)) = true := by decide +kernel
def C_law_cell_at : Ct := { N := N_law_cell_at, sc := defScope (topS 28), fns := [], gs := [], fr := ["len"], ex := [], mks := [], exi := [] }
theorem ck_law_cell_at : defB C_law_cell_at ["_law_script", "_law_k"] rs_law_cell_at (defBody (topS 28)) = true := by decide +kernel
def C_law_mixed : Ct := { N := N_law_mixed, sc := defScope (topS 29), fns := [], gs := [], fr := [], ex := [], mks := [], exi := [] }
theorem ck_law_mixed : defB C_law_mixed ["_law_cell", "_law_k"] rs_law_mixed (defBody (topS 29)) = true := by decide +kernel
def C_law_draw : Ct := { N := N_law_draw, sc := defScope (topS 30), fns := ["_law_mixed"], gs := [], fr := [], ex := [], mks := [], exi := [] }
theorem ck_law_draw : defB C_law_draw ["_law_state"] rs_law_draw (defBody (topS 30)) = true := by decide +kernel
def C_law_kind : Ct := { N := N_law_kind, sc := defScope (topS 31), fns := [], gs := [], fr := ["range"], ex := [], mks := [], exi := [] }
theorem ck_law_kind : defB C_law_kind ["_law_number"] rs_law_kind (defBody (topS 31)) = true := by decide +kernel
def C_law_tree : Ct := { N := N_law_tree, sc := defScope (topS 32), fns := ["_law_draw", "_law_kind", "_law_tree"], gs := [], fr := ["tuple", "range"], ex := [], mks := [], exi := [] }
theorem ck_law_tree : defB C_law_tree ["_law_state", "_law_deep"] rs_law_tree (defBody (topS 32)) = true := by decide +kernel
def C_law_text : Ct := { N := N_law_text, sc := defScope (topS 33), fns := ["_law_text", "_law_draw"], gs := [], fr := ["int"], ex := [], mks := [], exi := [] }
theorem ck_law_text : defB C_law_text ["_law_tree_here", "_law_least", "_law_state"] rs_law_text (defBody (topS 33)) = true := by decide +kernel
def C_law_behind_letters : Ct := { N := N_law_behind_letters, sc := defScope (topS 34), fns := [], gs := [], fr := [], ex := [], mks := [], exi := [] }
theorem ck_law_behind_letters : defB C_law_behind_letters ["_law_text_here", "_law_at"] rs_law_behind_letters (defBody (topS 34)) = true := by decide +kernel
def C_law_behind_often : Ct := { N := N_law_behind_often, sc := defScope (topS 35), fns := [], gs := [], fr := ["int"], ex := [], mks := [], exi := [] }
theorem ck_law_behind_often : defB C_law_behind_often ["_law_text_here", "_law_at"] rs_law_behind_often (defBody (topS 35)) = true := by decide +kernel
def C_law_step_end : Ct := { N := N_law_step_end, sc := defScope (topS 36), fns := ["_law_behind_letters", "_law_behind_often"], gs := [], fr := ["int"], ex := [], mks := [], exi := [] }
theorem ck_law_step_end : defB C_law_step_end ["_law_text_here", "_law_at"] rs_law_step_end (defBody (topS 36)) = true := by decide +kernel
def C_law_place : Ct := { N := N_law_place, sc := defScope (topS 37), fns := ["_law_step_end", "_law_behind_often"], gs := [], fr := [], ex := [], mks := [], exi := [] }
theorem ck_law_place : defB C_law_place ["_law_text_here"] rs_law_place (defBody (topS 37)) = true := by decide +kernel
def C_law_bound : Ct := { N := N_law_bound, sc := defScope (topS 38), fns := [], gs := [], fr := ["range"], ex := [], mks := [], exi := [] }
theorem ck_law_bound : defB C_law_bound ["_law_number"] rs_law_bound (defBody (topS 38)) = true := by decide +kernel
def C_law_bent : Ct := { N := N_law_bent, sc := defScope (topS 39), fns := ["_law_bound"], gs := [], fr := ["len"], ex := [], mks := [], exi := [] }
theorem ck_law_bent : defB C_law_bent ["_law_text_here", "_law_number"] rs_law_bent (defBody (topS 39)) = true := by decide +kernel
def C_law_refusal : Ct := { N := N_law_refusal, sc := defScope (topS 40), fns := ["word_of"], gs := [], fr := [], ex := ["WeaveError"], mks := [], exi := [] }
theorem ck_law_refusal : defB C_law_refusal ["_law_thing"] rs_law_refusal (defBody (topS 40)) = true := by decide +kernel
def C_law_is_bad : Ct := { N := N_law_is_bad, sc := defScope (topS 41), fns := [], gs := ["Twice", "TooMany", "NoTie", "NoThing", "BadQuestion", "BadPlan", "BadNumber", "BadName", "BadLine", "BadWord"], fr := ["isinstance", "ValueError", "bool", "int"], ex := [], mks := [], exi := [] }
theorem ck_law_is_bad : defB C_law_is_bad ["_law_found", "_law_due"] rs_law_is_bad (defBody (topS 41)) = true := by decide +kernel
def C_law : Ct := { N := N_law, sc := defScope (topS 42), fns := ["_law_cell_at", "_law_bent", "_law_draw", "_law_text", "_law_tree", "_law_place", "_law_refusal", "word_of", "_law_is_bad"], gs := ["Word"], fr := ["range", "max", "min", "len", "isinstance"], ex := [], mks := [], exi := [] }
theorem ck_law : defB C_law ["_law_script"] rs_law (defBody (topS 42)) = true := by decide +kernel
end Q05
set_option Elab.async false
set_option autoImplicit false
set_option linter.all false
set_option maxRecDepth 100000
set_option maxHeartbeats 8000000
/-! Law k05: words as objects; their methods. -/
namespace Q05
open PySem PySem.Spec PyProof.Rows L2 Rf K04
/-- the classes -/
structure Cl where
  st : Addr
  rw : Addr
  ch : Addr
  of : Addr
  wd : Addr
  rd : Addr
  bw : Addr
class Wf (K : Fg) (W : Cl) : Prop where
  cst : Cls K W.st
  crw : Cls K W.rw
  cch : Cls K W.ch
  cof : Cls K W.of
  crd : Cls K W.rd
  nk : NoAttr K W.st s_kind
  nb : NoAttr K W.st s_back
  nr : NoAttr K W.rw s_parts
  nc : NoAttr K W.ch s_parts
  np : NoAttr K W.of s_part
  ns : NoAttr K W.of s_sign
  n1 : NoAttr K W.rd s_signs
  n2 : NoAttr K W.rd s_at
  n3 : NoAttr K W.rd s_done
  d1 : W.st ≠ W.rw
  d2 : W.st ≠ W.ch
  d3 : W.st ≠ W.of
  d4 : W.rw ≠ W.ch
  d5 : W.rw ≠ W.of
  d6 : W.ch ≠ W.of
  ist : InsC K W.st
  irw : InsC K W.rw
  ich : InsC K W.ch
  iof : InsC K W.of
  k11 : PySem.W.kitOne K (.ref W.st) (.ref W.st) = some true
  k12 : PySem.W.kitOne K (.ref W.st) (.ref W.rw) = some false
  k13 : PySem.W.kitOne K (.ref W.st) (.ref W.ch) = some false
  k14 : PySem.W.kitOne K (.ref W.st) (.ref W.of) = some false
  k15 : PySem.W.kitOne K (.ref W.st) (.ref W.wd) = some true
  k21 : PySem.W.kitOne K (.ref W.rw) (.ref W.st) = some false
  k22 : PySem.W.kitOne K (.ref W.rw) (.ref W.rw) = some true
  k23 : PySem.W.kitOne K (.ref W.rw) (.ref W.ch) = some false
  k24 : PySem.W.kitOne K (.ref W.rw) (.ref W.of) = some false
  k25 : PySem.W.kitOne K (.ref W.rw) (.ref W.wd) = some true
  k31 : PySem.W.kitOne K (.ref W.ch) (.ref W.st) = some false
  k32 : PySem.W.kitOne K (.ref W.ch) (.ref W.rw) = some false
  k33 : PySem.W.kitOne K (.ref W.ch) (.ref W.ch) = some true
  k34 : PySem.W.kitOne K (.ref W.ch) (.ref W.of) = some false
  k35 : PySem.W.kitOne K (.ref W.ch) (.ref W.wd) = some true
  k41 : PySem.W.kitOne K (.ref W.of) (.ref W.st) = some false
  k42 : PySem.W.kitOne K (.ref W.of) (.ref W.rw) = some false
  k43 : PySem.W.kitOne K (.ref W.of) (.ref W.ch) = some false
  k44 : PySem.W.kitOne K (.ref W.of) (.ref W.of) = some true
  k45 : PySem.W.kitOne K (.ref W.of) (.ref W.wd) = some true
mutual
def ob (W : Cl) : Tr → PV
  | .step k b => .ins W.st [(s_kind, .str k), (s_back, .bl b)]
  | .often t s => .ins W.of [(s_part, ob W t), (s_sign, .str [s])]
  | .node true ts => .ins W.rw [(s_parts, .lst (obL W ts))]
  | .node false ts => .ins W.ch [(s_parts, .lst (obL W ts))]
def obL (W : Cl) : List Tr → List PV
  | [] => []
  | t :: r => ob W t :: obL W r
end
def clsOf (W : Cl) : Tr → Addr
  | .step _ _ => W.st
  | .often _ _ => W.of
  | .node true _ => W.rw
  | .node false _ => W.ch
mutual
/-- how long a tree's text is at most -/
def tsz : Tr → Nat
  | .step k _ => k.length + 1
  | .often t _ => tsz t + 3
  | .node _ ts => tszL ts + 2
def tszL : List Tr → Nat
  | [] => 0
  | t :: r => tsz t + 1 + tszL r
end
@[simp] theorem ne_kb : (s_back == s_kind) = false := by decide +kernel
@[simp] theorem ne_ps : (s_sign == s_part) = false := by decide +kernel
theorem ne_as : (s_at == s_signs) = false := by decide +kernel
theorem ne_ds : (s_done == s_signs) = false := by decide +kernel
theorem ne_da : (s_done == s_at) = false := by decide +kernel
theorem obL_len (W : Cl) : ∀ ts : List Tr, (obL W ts).length = ts.length
  | [] => rfl
  | t :: r => by unfold obL; rw [List.length_cons, List.length_cons, obL_len W r]
theorem obL_map (W : Cl) : ∀ ts : List Tr, obL W ts = ts.map (ob W)
  | [] => rfl
  | t :: r => by unfold obL; rw [List.map_cons, obL_map W r]
section
variable {K : Fg} {W : Cl} {wf : Wf K W}
theorem fcst [wf : Wf K W] : Cls K W.st = True := eq_true wf.cst
theorem fcrw [wf : Wf K W] : Cls K W.rw = True := eq_true wf.crw
theorem fcch [wf : Wf K W] : Cls K W.ch = True := eq_true wf.cch
theorem fcof [wf : Wf K W] : Cls K W.of = True := eq_true wf.cof
theorem fcrd [wf : Wf K W] : Cls K W.rd = True := eq_true wf.crd
theorem fnk [wf : Wf K W] : NoAttr K W.st s_kind = True := eq_true wf.nk
theorem fnb [wf : Wf K W] : NoAttr K W.st s_back = True := eq_true wf.nb
theorem fnr [wf : Wf K W] : NoAttr K W.rw s_parts = True := eq_true wf.nr
theorem fnc [wf : Wf K W] : NoAttr K W.ch s_parts = True := eq_true wf.nc
theorem fnp [wf : Wf K W] : NoAttr K W.of s_part = True := eq_true wf.np
theorem fns [wf : Wf K W] : NoAttr K W.of s_sign = True := eq_true wf.ns
theorem fn1 [wf : Wf K W] : NoAttr K W.rd s_signs = True := eq_true wf.n1
theorem fn2 [wf : Wf K W] : NoAttr K W.rd s_at = True := eq_true wf.n2
theorem fn3 [wf : Wf K W] : NoAttr K W.rd s_done = True := eq_true wf.n3
end
mutual
theorem text_len : ∀ (t : Tr) (l : Nat), (t.text l).length ≤ tsz t
  | .step k b, l => by
    unfold Tr.text wrap tsz
    rw [if_neg (by decide)]
    cases b <;> simp
  | .often t s, l => by
    have := text_len t 3
    unfold Tr.text wrap tsz
    split <;> simp <;> omega
  | .node true ts, l => by
    have := textL_len ts 2 46
    unfold Tr.text wrap tsz
    split <;> simp <;> omega
  | .node false ts, l => by
    have := textL_len ts 1 124
    unfold Tr.text wrap tsz
    split <;> simp <;> omega
theorem textL_len : ∀ (ts : List Tr) (l c : Nat), (glue c (textL ts l)).length ≤ tszL ts
  | [], _, _ => by unfold textL glue; simp
  | [t], l, c => by
    have := text_len t l
    unfold textL textL glue tszL
    omega
  | t :: u :: r, l, c => by
    have h1 := text_len t l
    have h2 := textL_len (u :: r) l c
    unfold textL at h2 ⊢
    unfold textL
    unfold glue tszL
    rw [List.length_append, List.length_cons]
    omega
end
theorem textL_sum : ∀ (ts : List Tr) (l : Nat), ((textL ts l).map List.length).sum + (textL ts l).length ≤ tszL ts
  | [], _ => by unfold textL; simp
  | t :: r, l => by
    have h1 := text_len t l
    have h2 := textL_sum r l
    unfold textL tszL
    simp only [List.map_cons, List.sum_cons, List.length_cons]
    omega
/-- a text's brackets -/
theorem text_at (t : Tr) (l : Nat) (hl : l ≤ 3) : t.text l = wrap (decide (t.strength < l)) (t.text 0) := by
  cases t with
  | step k b =>
    unfold Tr.text Tr.strength wrap
    have e : decide (3 < l) = false := decide_eq_false (by omega)
    rw [e]
    simp
  | often t s => unfold Tr.text Tr.strength wrap; simp
  | node row ts => cases row <;> (unfold Tr.text Tr.strength wrap; simp)
theorem glue_join (c : Nat) : ∀ xs : List Cs, joinC [c] xs = glue c xs
  | [] => rfl
  | [_] => rfl
  | a :: b :: r => by
    unfold joinC glue
    rw [glue_join c (b :: r)]
    simp
/-! ### promises -/
/-- any tree is an instance without such an attribute -/
def obF (W : Cl) : Tr → List (Str × AV)
  | .step k b => [(s_kind, .pv (.str k)), (s_back, .pv (.bl b))]
  | .often t s => [(s_part, .pv (ob W t)), (s_sign, .pv (.str [s]))]
  | .node _ ts => [(s_parts, .pv (.lst (obL W ts)))]
theorem insM_ob (W : Cl) (S : Sto) (t : Tr) : insM S (.pv (ob W t)) = some (clsOf W t, obF W t) := by
  cases t with
  | step k b => rfl
  | often t s => rfl
  | node row ts => cases row <;> rfl
theorem obF_st (W : Cl) (k : Cs) (b : Bool) : obF W (.step k b) = [(s_kind, .pv (.str k)), (s_back, .pv (.bl b))] := rfl
theorem obF_of (W : Cl) (t : Tr) (s : Nat) : obF W (.often t s) = [(s_part, .pv (ob W t)), (s_sign, .pv (.str [s]))] := rfl
theorem obF_nd (W : Cl) (r : Bool) (ts : List Tr) : obF W (.node r ts) = [(s_parts, .pv (.lst (obL W ts)))] := rfl
open Lean in
local macro_rules
  | `(tactic| walk_at "ab") => `(tactic| try simp only [aSs, aS, aE, aA, aO, aT, aC, aI, adOf_K, adOf_sp, adOf_gv, adOf_ex, adOf_me, adOf_mks, adOf_exi, adOf_W, blkA_K, blkA_sp, blkA_gv, blkA_me, blkA_mks, insM_ins, List.map_cons, List.map_nil, mk2,
      List.lookup_cons, List.lookup_nil, beq_self_eq_true, List.getElem?_cons_zero, List.getElem?_cons_succ, List.length_cons, List.length_nil, tl_sOf, sOf_tl, setEnv0, setEnvS, wipeA,
      aBin, aCmp, aBF, aTF, aBM, aAdd_int, aAdd_str, aAdd_lst, aMul_int, aMul_str, aI2_int, aOrd_int, aOrd_str, aEq_int, aEq_str, aEq_bl, aIs_bl, aIs_non, isNonA, aIn_sign, aIn_tup, aIn_lst, flatP, aIx_str, aIx_lst, aIx_tup, aSl_str, aNeg_int, aTr_non, aTr_bl, aTr_int, aTr_str, bl?_bl,
      aLen_str, aLen_lst, aLen_tup, aInt_int, aInt_bl, aListF_lst, aTupF_lst, alc_t, pvs_nil, pvs_cons, pvk_nil, pvk_cons, aTyM_str, aTyM_lst, BM.ty, lstB_pv, seqA_lst, seqA_tup, extA_lst, extA_tup, Option.map_some, Option.map_none, Option.bind_some, Bool.false_xor, Bool.true_xor, Bool.not_true, Bool.not_false, true_and, and_true, reduceCtorEq, if_true, if_false,
      entL_new0, entR_new0, entL_new, entR_new, entL_0, entR_0, entR_0k, set_new, set_new0, len_new, app_one])
open Lean in
local macro_rules
  | `(tactic| walk_at "w") => `(tactic| (walk_at "ab"; try simp only [ne_kb, ne_ps, ne_as, ne_ds, ne_da, fcst, fcrw, fcch, fcof, fcrd, fnk, fnb, fnr, fnc, fnp, fns, fn1, fn2, fn3, insM_ob, obF_st, obF_of, obF_nd, true_and, and_true]; walk_at "ab"))
open Lean in
local macro_rules
  | `(tactic| walk_at "wm") => do
    let mt := mkIdent `mt
    `(tactic| (walk_at "w"; try simp only [($mt).str, ($mt).txt, ($mt).stp, ($mt).non]; walk_at "w"))
section
variable {K : Fg} {W : Cl} {EA : AEr} {QA : AQ} {S : Sto} [wf : Wf K W] {me : Addr → Str → Option (Nat × ASp)} {n : Nat}
theorem st_of (wf : Wf K W) {t : Tr} (h : clsOf W t = W.st) : ∃ k b, t = .step k b := by
  cases t with
  | step k b => exact ⟨k, b, rfl⟩
  | often t s => exact absurd h.symm wf.d3
  | node row ts => cases row; exact absurd h.symm wf.d2; exact absurd h.symm wf.d1
theorem of_of (wf : Wf K W) {t : Tr} (h : clsOf W t = W.of) : ∃ k b, t = .often k b := by
  cases t with
  | often k b => exact ⟨k, b, rfl⟩
  | step t s => exact absurd h wf.d3
  | node row ts => cases row; exact absurd h wf.d6; exact absurd h wf.d5
theorem rw_of (wf : Wf K W) {t : Tr} (h : clsOf W t = W.rw) : ∃ k, t = .node true k := by
  cases t with
  | often k b => exact absurd h.symm wf.d5
  | step t s => exact absurd h wf.d1
  | node row ts => cases row; exact absurd h.symm wf.d4; exact ⟨_, rfl⟩
theorem ch_of (wf : Wf K W) {t : Tr} (h : clsOf W t = W.ch) : ∃ k, t = .node false k := by
  cases t with
  | often k b => exact absurd h.symm wf.d6
  | step t s => exact absurd h wf.d2
  | node row ts => cases row; exact ⟨_, rfl⟩; exact absurd h wf.d4
/-! ### rows and choices -/
theorem lc_map {bind : IV → AEnv → Option AEnv} {ok : Sto → Prop} {σ0 : AEnv} {c : AEnv → Sto → QT → Prop} {e : AEnv → Sto → AQ → Prop} {Q : QL} {α : Type} (f : α → AV) (g : α → PV) (hok : ok S)
    (hc : ∀ σ R, c σ S R = R true S) : ∀ (xs : List α) (acc : List PV), acc.length + xs.length ≤ 16777216 → (∀ x ∈ xs, ∀ R : AQ, (∀ y, y = g x → R (.pv y) S) → ∃ σ, bind (.one (f x)) σ0 = some σ ∧ e σ S R) →
    Q ((acc ++ xs.map g).map .pv) S → aLcL bind ok σ0 c e (xs.map fun x => .one (f x)) (acc.map .pv) S Q
  | [], acc, _, _, q => ⟨hok, by simpa using q⟩
  | x :: r, acc, hl, h, q => by
    refine ⟨hok, ?_⟩
    obtain ⟨σ, hb, he⟩ := h x List.mem_cons_self (fun y S2 => (acc.map AV.pv).length < line ∧ aLcL bind ok σ0 c e (r.map fun x => .one (f x)) (acc.map .pv ++ [y]) S2 Q) (fun y hy => by
      subst hy
      rw [List.length_cons] at hl
      refine ⟨by rw [List.length_map]; show _ < 16777216; omega, ?_⟩
      have z := lc_map f g hok hc r (acc ++ [g x]) (by rw [List.length_append, List.length_cons, List.length_nil]; omega) (fun y hy => h y (List.mem_cons_of_mem _ hy)) (by simpa using q)
      rw [List.map_append] at z
      exact z)
    rw [hb]
    dsimp only
    rw [hc]
    exact he
end
end Q05
set_option Elab.async false
set_option autoImplicit false
set_option linter.all false
set_option maxRecDepth 100000
set_option maxHeartbeats 8000000
/-! Law k05: rows and choices. -/
namespace Q05
open PySem PySem.Spec PyProof.Rows L2 Rf K04
open Lean in
local macro_rules
  | `(tactic| walk_at "ab") => `(tactic| try simp only [aSs, aS, aE, aA, aO, aT, aC, aI, adOf_K, adOf_sp, adOf_gv, adOf_ex, adOf_me, adOf_mks, adOf_exi, adOf_W, blkA_K, blkA_sp, blkA_gv, blkA_me, blkA_mks, insM_ins, List.map_cons, List.map_nil, mk2,
      List.lookup_cons, List.lookup_nil, beq_self_eq_true, List.getElem?_cons_zero, List.getElem?_cons_succ, List.length_cons, List.length_nil, tl_sOf, sOf_tl, setEnv0, setEnvS, wipeA,
      aBin, aCmp, aBF, aTF, aBM, aAdd_int, aAdd_str, aAdd_lst, aMul_int, aMul_str, aI2_int, aOrd_int, aOrd_str, aEq_int, aEq_str, aEq_bl, aIs_bl, aIs_non, isNonA, aIn_sign, aIn_tup, aIn_lst, flatP, aIx_str, aIx_lst, aIx_tup, aSl_str, aNeg_int, aTr_non, aTr_bl, aTr_int, aTr_str, bl?_bl,
      aLen_str, aLen_lst, aLen_tup, aInt_int, aInt_bl, aListF_lst, aTupF_lst, alc_t, pvs_nil, pvs_cons, pvk_nil, pvk_cons, aTyM_str, aTyM_lst, BM.ty, lstB_pv, seqA_lst, seqA_tup, extA_lst, extA_tup, Option.map_some, Option.map_none, Option.bind_some, Bool.false_xor, Bool.true_xor, Bool.not_true, Bool.not_false, true_and, and_true, reduceCtorEq, if_true, if_false,
      entL_new0, entR_new0, entL_new, entR_new, entL_0, entR_0, entR_0k, set_new, set_new0, len_new, app_one])
open Lean in
local macro_rules
  | `(tactic| walk_at "w") => `(tactic| (walk_at "ab"; try simp only [ne_kb, ne_ps, ne_as, ne_ds, ne_da, fcst, fcrw, fcch, fcof, fcrd, fnk, fnb, fnr, fnc, fnp, fns, fn1, fn2, fn3, insM_ob, obF_st, obF_of, obF_nd, true_and, and_true]; walk_at "ab"))
open Lean in
local macro_rules
  | `(tactic| walk_at "wm") => do
    let mt := mkIdent `mt
    `(tactic| (walk_at "w"; try simp only [($mt).str, ($mt).txt, ($mt).stp, ($mt).non]; walk_at "w"))
theorem itemsA_lst {S : Sto} {xs : List PV} : itemsA S (.pv (.lst xs)) = some (xs.map fun p => .one (.pv p)) := by
  show (some (xs.map AV.pv)).map (fun zs => zs.map IV.one) = _
  rw [Option.map_some, List.map_map]
  rfl
theorem itemsA_tup {S : Sto} {xs : List PV} : itemsA S (.pv (.tup xs)) = some (xs.map fun p => .one (.pv p)) := by
  show (some (xs.map AV.pv)).map (fun zs => zs.map IV.one) = _
  rw [Option.map_some, List.map_map]
  rfl
theorem obL_one (W : Cl) (ts : List Tr) : ((obL W ts).map fun p => IV.one (.pv p)) = ts.map fun t => .one (.pv (ob W t)) := by
  rw [obL_map, List.map_map]
  rfl
section
variable {K : Fg} {W : Cl} {EA : AEr} {QA : AQ} {S : Sto} [wf : Wf K W] {me : Addr → Str → Option (Nat × ASp)} {n : Nat}
theorem tszL_mem : ∀ {ts : List Tr} {t : Tr}, t ∈ ts → tsz t ≤ tszL ts
  | u :: r, t, h => by
    unfold tszL
    rcases List.mem_cons.mp h with e | h
    · subst e; omega
    · have := tszL_mem h
      omega
theorem highL_mem : ∀ {ts : List Tr} {t : Tr}, t ∈ ts → high t ≤ highL ts
  | u :: r, t, h => by
    unfold highL
    rcases List.mem_cons.mp h with e | h
    · subst e; omega
    · have := highL_mem h
      omega
theorem tszL_len : ∀ ts : List Tr, ts.length ≤ tszL ts
  | [] => by simp
  | t :: r => by
    have := tszL_len r
    unfold tszL
    rw [List.length_cons]
    omega
theorem textL_map : ∀ (ts : List Tr) (l : Nat), textL ts l = ts.map fun t => t.text l
  | [], _ => by unfold textL; rfl
  | t :: r, l => by unfold textL; rw [List.map_cons, textL_map r l]
theorem strs_of (ts : List Tr) (l : Nat) : strsP ((ts.map fun t => PV.str (t.text l)).map AV.pv) = some (textL ts l) := by
  rw [textL_map]
  have e : ((ts.map fun t => PV.str (t.text l)).map AV.pv) = (ts.map fun t => t.text l).map fun b => .pv (.str b) := by
    rw [List.map_map, List.map_map]
    rfl
  rw [e]
  exact strsP_map _
end
end Q05
set_option Elab.async false
set_option autoImplicit false
set_option linter.all false
set_option maxRecDepth 100000
set_option maxHeartbeats 8000000
/-! Law k05: steps and nones of rows and choices; row_of, choice_of; __init__. -/
namespace Q05
open PySem PySem.Spec PyProof.Rows L2 Rf K04
open Lean in
local macro_rules
  | `(tactic| walk_at "ab") => `(tactic| try simp only [aSs, aS, aE, aA, aO, aT, aC, aI, adOf_K, adOf_sp, adOf_gv, adOf_ex, adOf_me, adOf_mks, adOf_exi, adOf_W, blkA_K, blkA_sp, blkA_gv, blkA_me, blkA_mks, insM_ins, List.map_cons, List.map_nil, mk2,
      List.lookup_cons, List.lookup_nil, beq_self_eq_true, List.getElem?_cons_zero, List.getElem?_cons_succ, List.length_cons, List.length_nil, tl_sOf, sOf_tl, setEnv0, setEnvS, wipeA,
      aBin, aCmp, aBF, aTF, aBM, aAdd_int, aAdd_str, aAdd_lst, aMul_int, aMul_str, aI2_int, aOrd_int, aOrd_str, aEq_int, aEq_str, aEq_bl, aIs_bl, aIs_non, isNonA, aIn_sign, aIn_tup, aIn_lst, flatP, aIx_str, aIx_lst, aIx_tup, aSl_str, aNeg_int, aTr_non, aTr_bl, aTr_int, aTr_str, bl?_bl,
      aLen_str, aLen_lst, aLen_tup, aInt_int, aInt_bl, aListF_lst, aTupF_lst, alc_t, pvs_nil, pvs_cons, pvk_nil, pvk_cons, aTyM_str, aTyM_lst, BM.ty, lstB_pv, seqA_lst, seqA_tup, extA_lst, extA_tup, Option.map_some, Option.map_none, Option.bind_some, Bool.false_xor, Bool.true_xor, Bool.not_true, Bool.not_false, true_and, and_true, reduceCtorEq, if_true, if_false,
      entL_new0, entR_new0, entL_new, entR_new, entL_0, entR_0, entR_0k, set_new, set_new0, len_new, app_one])
open Lean in
local macro_rules
  | `(tactic| walk_at "w") => `(tactic| (walk_at "ab"; try simp only [ne_kb, ne_ps, ne_as, ne_ds, ne_da, fcst, fcrw, fcch, fcof, fcrd, fnk, fnb, fnr, fnc, fnp, fns, fn1, fn2, fn3, insM_ob, obF_st, obF_of, obF_nd, true_and, and_true]; walk_at "ab"))
open Lean in
local macro_rules
  | `(tactic| walk_at "wm") => do
    let mt := mkIdent `mt
    `(tactic| (walk_at "w"; try simp only [($mt).str, ($mt).txt, ($mt).stp, ($mt).non]; walk_at "w"))
theorem stepsL_map : ∀ ts : List Tr, stepsL ts = (ts.map Tr.steps).sum
  | [] => by unfold stepsL; rfl
  | t :: r => by unfold stepsL; rw [stepsL_map r, List.map_cons, List.sum_cons]
theorem allN_map : ∀ ts : List Tr, allN ts = (ts.map Tr.isNone).all id
  | [] => by unfold allN; rfl
  | t :: r => by unfold allN; rw [allN_map r, List.map_cons, List.all_cons]; rfl
theorem anyN_map : ∀ ts : List Tr, anyN ts = (ts.map Tr.isNone).any id
  | [] => by unfold anyN; rfl
  | t :: r => by unfold anyN; rw [anyN_map r, List.map_cons, List.any_cons]; rfl
theorem sum_nat : ∀ l : List Nat, (l.map fun k : Nat => (k : Int)).sum = ((l.sum : Nat) : Int)
  | [] => rfl
  | a :: r => by rw [List.map_cons, List.sum_cons, List.sum_cons, sum_nat r]; omega
section
variable {K : Fg} {W : Cl} {EA : AEr} {QA : AQ} {S : Sto} [wf : Wf K W] {me : Addr → Str → Option (Nat × ASp)} {n : Nat}
/-! ### made by their classes -/
def spIni (C : Addr) (k : Nat) (f : List AV → Sto → Option (List (Str × AV))) : ASp := fun ws S Q _ => match ws with
  | .hnd n :: us => us.length = k ∧ entL S n = some (.ins C []) ∧ (match f us S with
    | some fs => Q (.pv .non) (S.set n (.live (.ins C fs)))
    | none => False)
  | _ => False
theorem mk_ini {C : Addr} {k : Nat} {f : List AV → Sto → Option (List (Str × AV))} {us : List AV} {S : Sto} {Q : AQ} {E : AEr} {fs : List (Str × PV)} (h : us.length = k) (hf : f us (S ++ [.live (.ins C [])]) = some (fs.map mk2)) (q : Q (.pv (.ins C fs)) S) : aMk false C (spIni C k f) us S Q E := by
  unfold aMk spIni
  refine ⟨h, by rw [entL_new0, entL_0], ?_⟩
  rw [hf]
  refine ⟨rfl, fs, ?_, q⟩
  rw [set_new0]
  rfl
theorem mk_iniH {C : Addr} {k : Nat} {f : List AV → Sto → Option (List (Str × AV))} {us : List AV} {S : Sto} {Q : AQ} {E : AEr} {fs : List (Str × AV)} (h : us.length = k) (hf : f us (S ++ [.live (.ins C [])]) = some fs) (q : Q (.hnd S.length) (S ++ [.live (.ins C fs)])) : aMk true C (spIni C k f) us S Q E := by
  unfold aMk spIni
  refine ⟨h, by rw [entL_new0, entL_0], ?_⟩
  rw [hf]
  refine ⟨rfl, ?_⟩
  rw [set_new0]
  exact q
def iniStep (us : List AV) (_ : Sto) : Option (List (Str × AV)) := match us with
  | [a, b] => some [(s_kind, a), (s_back, b)]
  | _ => none
def iniOften (us : List AV) (_ : Sto) : Option (List (Str × AV)) := match us with
  | [a, b] => some [(s_part, a), (s_sign, b)]
  | _ => none
def iniNode (us : List AV) (S : Sto) : Option (List (Str × AV)) := match us with
  | [a] => (match (seqA S a).bind pvs with
    | some ps => some [(s_parts, .pv (.lst ps))]
    | none => none)
  | _ => none
theorem iniNode_lst {xs : List PV} {S : Sto} : iniNode [.pv (.lst xs)] S = some [(s_parts, .pv (.lst xs))] := by
  show (match (some (xs.map AV.pv)).bind pvs with
    | some ps => some [(s_parts, AV.pv (.lst ps))]
    | none => none) = _
  rw [Option.bind_some, pvs_map]
def iniRead (us : List AV) (_ : Sto) : Option (List (Str × AV)) := match us with
  | [a] => some [(s_signs, a), (s_at, .pv (.int 0)), (s_done, .pv (.int 0))]
  | _ => none
theorem putFA_nil {f : Str} {y : AV} : putFA f y [] = [(f, y)] := rfl
theorem putFA_cons {f g : Str} {y v : AV} {r : List (Str × AV)} : putFA f y ((g, v) :: r) = if g = f then (g, y) :: r else (g, v) :: putFA f y r := rfl
theorem q_kb : (s_kind = s_back) = False := eq_false (by decide +kernel)
theorem q_ps : (s_part = s_sign) = False := eq_false (by decide +kernel)
theorem q_sa : (s_signs = s_at) = False := eq_false (by decide +kernel)
theorem q_sd : (s_signs = s_done) = False := eq_false (by decide +kernel)
theorem q_ad : (s_at = s_done) = False := eq_false (by decide +kernel)
theorem sem_Step_init (ws : List AV) (h : spIni W.st 2 iniStep ws S QA EA) : aSs (adOf K EA {}) rs_Step___init__ { nx := fun _ S' => QA (.pv .non) S', rt := QA } (envStart N_Step___init__ ws) S := by
  unfold spIni at h
  split at h
  · rename_i n us
    obtain ⟨hl, he, q⟩ := h
    match us, hl, q with
    | [a, b], _, q =>
      show aSs (adOf K EA {}) rs_Step___init__ { nx := fun _ S' => QA (.pv .non) S', rt := QA } [some (.hnd n), some a, some b] S
      unfold rs_Step___init__
      walk_at "w"
      simp only [he]
      walk_at "w"
      simp only [entL_set he]
      walk_at "w"
      simp only [putFA_nil, putFA_cons, q_kb, if_false, set_set]
      exact ⟨by simp, by simp, q⟩
  · exact h.elim
theorem sem_Often_init (ws : List AV) (h : spIni W.of 2 iniOften ws S QA EA) : aSs (adOf K EA {}) rs_Often___init__ { nx := fun _ S' => QA (.pv .non) S', rt := QA } (envStart N_Often___init__ ws) S := by
  unfold spIni at h
  split at h
  · rename_i n us
    obtain ⟨hl, he, q⟩ := h
    match us, hl, q with
    | [a, b], _, q =>
      show aSs (adOf K EA {}) rs_Often___init__ { nx := fun _ S' => QA (.pv .non) S', rt := QA } [some (.hnd n), some a, some b] S
      unfold rs_Often___init__
      walk_at "w"
      simp only [he]
      walk_at "w"
      simp only [entL_set he]
      walk_at "w"
      simp only [putFA_nil, putFA_cons, q_ps, if_false, set_set]
      exact ⟨by simp, by simp, q⟩
  · exact h.elim
theorem sem_Read_init (ws : List AV) (h : spIni W.rd 1 iniRead ws S QA EA) : aSs (adOf K EA {}) rs_Reading___init__ { nx := fun _ S' => QA (.pv .non) S', rt := QA } (envStart N_Reading___init__ ws) S := by
  unfold spIni at h
  split at h
  · rename_i n us
    obtain ⟨hl, he, q⟩ := h
    match us, hl, q with
    | [a], _, q =>
      show aSs (adOf K EA {}) rs_Reading___init__ { nx := fun _ S' => QA (.pv .non) S', rt := QA } [some (.hnd n), some a] S
      unfold rs_Reading___init__
      have e1 := entL_set (u := .ins W.rd (putFA s_signs a [])) he
      have e2 := entL_set (u := .ins W.rd (putFA s_at (.pv (.int 0)) (putFA s_signs a []))) e1
      walk_at "w"
      simp only [he]
      walk_at "w"
      simp only [e1]
      walk_at "w"
      simp only [e2]
      walk_at "w"
      simp only [putFA_nil, putFA_cons, q_sa, q_sd, q_ad, if_false, set_set]
      exact ⟨by simp, by simp, by simp, q⟩
  · exact h.elim
theorem node_init (C : Addr) (h1 : Cls K C ∧ NoAttr K C s_parts) (rs : RSs) (hrs : rs = .cons (.sfld (.var 0) s_parts (.ct .list (.cons (.var 1) .nil))) .nil) (ws : List AV) (h : spIni C 1 iniNode ws S QA EA) (N : List Str) (hN : N.length = 2) :
    aSs (adOf K EA {}) rs { nx := fun _ S' => QA (.pv .non) S', rt := QA } (envStart N ws) S := by
  unfold spIni at h
  split at h
  · rename_i n us
    obtain ⟨hl, he, q⟩ := h
    match us, hl, q with
    | [a], _, q =>
      have e0 : envStart N [.hnd n, a] = [some (.hnd n), some a] := by unfold envStart; rw [hN]; rfl
      rw [e0]
      subst hrs
      walk_at "w"
      unfold iniNode at q
      dsimp only at q
      split at q
      · rename_i fs ef
        split at ef
        · rename_i ps ep
          cases ef
          obtain ⟨zs, e1, e2⟩ := Option.bind_eq_some_iff.mp ep
          show (match seqA S a with
            | some ys => alc false (.lst ys) S _
            | none => False)
          rw [e1]
          dsimp only
          rw [alc_lst e2]
          simp only [he]
          refine ⟨h1, by simp, ?_⟩
          walk_at "w"
          exact q
        · cases ef
      · exact q.elim
  · exact h.elim
end
end Q05
set_option Elab.async false
set_option autoImplicit false
set_option linter.all false
set_option maxRecDepth 100000
set_option maxHeartbeats 8000000
/-! Law k05: row_of, choice_of; the reader in plain terms. -/
namespace Q05
open PySem PySem.Spec PyProof.Rows L2 Rf K04
open Lean in
local macro_rules
  | `(tactic| walk_at "ab") => `(tactic| try simp only [aSs, aS, aE, aA, aO, aT, aC, aI, adOf_K, adOf_sp, adOf_gv, adOf_ex, adOf_me, adOf_mks, adOf_exi, adOf_W, blkA_K, blkA_sp, blkA_gv, blkA_me, blkA_mks, insM_ins, List.map_cons, List.map_nil, mk2,
      List.lookup_cons, List.lookup_nil, beq_self_eq_true, List.getElem?_cons_zero, List.getElem?_cons_succ, List.length_cons, List.length_nil, tl_sOf, sOf_tl, setEnv0, setEnvS, wipeA,
      aBin, aCmp, aBF, aTF, aBM, aAdd_int, aAdd_str, aAdd_lst, aMul_int, aMul_str, aI2_int, aOrd_int, aOrd_str, aEq_int, aEq_str, aEq_bl, aIs_bl, aIs_non, isNonA, aIn_sign, aIn_tup, aIn_lst, flatP, aIx_str, aIx_lst, aIx_tup, aSl_str, aNeg_int, aTr_non, aTr_bl, aTr_int, aTr_str, bl?_bl,
      aLen_str, aLen_lst, aLen_tup, aInt_int, aInt_bl, aListF_lst, aTupF_lst, alc_t, pvs_nil, pvs_cons, pvk_nil, pvk_cons, aTyM_str, aTyM_lst, BM.ty, lstB_pv, seqA_lst, seqA_tup, extA_lst, extA_tup, Option.map_some, Option.map_none, Option.bind_some, Bool.false_xor, Bool.true_xor, Bool.not_true, Bool.not_false, true_and, and_true, reduceCtorEq, if_true, if_false,
      entL_new0, entR_new0, entL_new, entR_new, entL_0, entR_0, entR_0k, set_new, set_new0, len_new, app_one])
open Lean in
local macro_rules
  | `(tactic| walk_at "w") => `(tactic| (walk_at "ab"; try simp only [ne_kb, ne_ps, ne_as, ne_ds, ne_da, fcst, fcrw, fcch, fcof, fcrd, fnk, fnb, fnr, fnc, fnp, fns, fn1, fn2, fn3, insM_ob, obF_st, obF_of, obF_nd, true_and, and_true]; walk_at "ab"))
open Lean in
local macro_rules
  | `(tactic| walk_at "wm") => do
    let mt := mkIdent `mt
    `(tactic| (walk_at "w"; try simp only [($mt).str, ($mt).txt, ($mt).stp, ($mt).non]; walk_at "w"))
def spOf (W : Cl) (row : Bool) : ASp := fun ws S Q _ => ∃ ts : List Tr, ws = [.pv (.lst (obL W ts))] ∧ ts.length ≤ 1000 ∧ (flatK row ts).length ≤ 1000 ∧ Q (.pv (ob W (joinT row ts))) S
theorem flatK_cons (row : Bool) (t : Tr) (r : List Tr) : flatK row (t :: r) = flatK row [t] ++ flatK row r := by
  unfold flatK
  rw [List.flatMap_cons, List.flatMap_cons, List.flatMap_nil, List.append_nil]
theorem flatK_nil (row : Bool) : flatK row [] = [] := rfl
theorem obL_app (W : Cl) (a b : List Tr) : obL W (a ++ b) = obL W a ++ obL W b := by
  rw [obL_map, obL_map, obL_map, List.map_append]
def clsN (W : Cl) (row : Bool) : Addr := if row = true then W.rw else W.ch
/-- row_of, choice_of: the class that is looked for and made -/
def rsOf : RSs := .cons (.set 1 (.hnd (.lst (.nil))))
  (.cons (.fr 2 (.any (.var 0))
    (.cons (.ifs (.tru (.cb .isi (.cons (.var 2) (.cons (.gc 0) .nil))))
      (.cons (.ex (.mt .extend (.var 1) (.cons (.fld (.var 2) s_parts) .nil))) .nil)
      (.cons (.ex (.mt .append (.var 1) (.cons (.var 2) .nil))) .nil)) .nil))
  (.cons (.frz 1)
  (.cons (.ret (.ifE (.cmp .Eq (.cb .len (.cons (.var 1) .nil)) (.int 1)) (.ix (.var 1) (.int 0)) (.mk 0 (.cons (.var 1) .nil)))) .nil)))
theorem rs_row_of_eq : rs_row_of = rsOf := rfl
theorem rs_choice_of_eq : rs_choice_of = rsOf := rfl
section
variable {K : Fg} {W : Cl} {EA : AEr} {QA : AQ} {S : Sto} [wf : Wf K W] {me : Addr → Str → Option (Nat × ASp)} {n : Nat}
def agOf (W : Cl) (row : Bool) : AG := { gv := [.cl (clsN W row)], mks := [(clsN W row, 2, spIni (clsN W row) 1 iniNode)] }
/-- is it a node of this sort -/
def isN (row : Bool) : Tr → Option (List Tr)
  | .node r us => if r = row then some us else none
  | _ => none
theorem flatK_one (row : Bool) (t : Tr) : flatK row [t] = (isN row t).getD [t] := by
  unfold flatK isN
  rw [List.flatMap_cons, List.flatMap_nil, List.append_nil]
  cases t with
  | node r us =>
    by_cases h : r = row
    · simp [h]
    · simp [h]
  | _ => rfl
theorem tyA_ob (t : Tr) : tyA S (.pv (ob W t)) = some (.ins (clsOf W t)) := by
  cases t with
  | step k b => rfl
  | often t s => rfl
  | node row ts => cases row <;> rfl
theorem kit_ob (wf : Wf K W) (row : Bool) (t : Tr) : PySem.W.kitOne K (.ref (clsOf W t)) (.ref (clsN W row)) = some (isN row t).isSome := by
  cases row <;> cases t with
  | step k b => first | exact wf.k12 | exact wf.k13
  | often t s => first | exact wf.k42 | exact wf.k43
  | node r ts => cases r <;> first | exact wf.k22 | exact wf.k23 | exact wf.k32 | exact wf.k33
theorem insC_ob (wf : Wf K W) (t : Tr) : InsC K (clsOf W t) := by
  cases t with
  | step k b => exact wf.ist
  | often t s => exact wf.iof
  | node r ts => cases r; exact wf.ich; exact wf.irw
theorem isi_ob (wf : Wf K W) (row : Bool) (t : Tr) {Q : AQ} (q : Q (.pv (.bl (isN row t).isSome)) S) : aIsi K [.pv (ob W t), .pv (.cl (clsN W row))] S Q := by
  show (match tyA S (.pv (ob W t)), clA (.pv (.cl (clsN W row))) with
    | some t, some u => tyC K t ∧ ∃ b, PySem.W.kitOne K t.val u = some b ∧ Q (.pv (.bl b)) S
    | _, _ => False)
  rw [tyA_ob]
  exact ⟨insC_ob wf t, _, kit_ob wf row t, q⟩
theorem clsN_ok (wf : Wf K W) (row : Bool) : Cls K (clsN W row) ∧ NoAttr K (clsN W row) s_parts := by
  cases row with
  | true => exact ⟨wf.crw, wf.nr⟩
  | false => exact ⟨wf.cch, wf.nc⟩
theorem ob_node (W : Cl) (row : Bool) (ts : List Tr) : ob W (.node row ts) = .ins (clsN W row) [(s_parts, .lst (obL W ts))] := by cases row <;> rfl
theorem sem_of (row : Bool) (ws : List AV) (h : spOf W row ws S QA EA) : aSs (adOf K (tidyE S EA) (agOf W row)) rsOf { nx := fun _ S' => tidyQ S QA (.pv .non) S', rt := tidyQ S QA } (envStart N_row_of ws) S := by
  obtain ⟨ts, rfl, hl1, hl, q⟩ := h
  show aSs (adOf K (tidyE S EA) (agOf W row)) rsOf { nx := fun _ S' => tidyQ S QA (.pv .non) S', rt := tidyQ S QA } [some (.pv (.lst (obL W ts))), none, none] S
  unfold rsOf
  unfold aSs
  walk_at "w"
  refine ⟨by decide, ?_⟩
  simp only [itemsA_lst, obL_one]
  refine forL_inv (fun done σ S' => ∃ w, σ = [some (.pv (.lst (obL W ts))), some (.hnd S.length), w] ∧ S' = S ++ [.live (.lst ((obL W (flatK row done)).map .pv))]) (fun t => .one (.pv (ob W t))) ts ?_ ?_ ts [] _ _ rfl ⟨none, rfl, rfl⟩
  · rintro done t rest σ S' N e ⟨w, rfl, rfl⟩ next
    have e2 : flatK row (done ++ [t]) = flatK row done ++ (isN row t).getD [t] := by
      rw [← flatK_one]
      unfold flatK
      rw [List.flatMap_append]
    have hl2 : (flatK row (done ++ [t])).length ≤ 1000 := by
      refine Nat.le_trans ?_ hl
      have e3 : ts = (done ++ [t]) ++ rest := by rw [e, List.append_assoc]; rfl
      rw [e3]
      unfold flatK
      rw [List.flatMap_append (xs := done ++ [t])]
      simp
    have next2 := next [some (.pv (.lst (obL W ts))), some (.hnd S.length), some (.pv (ob W t))] _ ⟨_, rfl, rfl⟩
    rw [e2, obL_app, List.map_append] at next2
    rw [e2, List.length_append] at hl2
    refine ⟨trivial, _, rfl, ?_⟩
    unfold agOf
    walk_at "w"
    refine isi_ob wf row t ?_
    walk_at "w"
    cases ei : isN row t with
    | some us =>
      rw [ei] at next2 hl2
      obtain ⟨rfl⟩ : t = .node row us := by
        unfold isN at ei
        split at ei
        · rename_i r2 us2
          by_cases h : r2 = row
          · rw [if_pos h] at ei; cases ei; rw [h]
          · rw [if_neg h] at ei; cases ei
        · cases ei
      simp only [Option.isSome_some]
      rw [ob_node] at next2 ⊢
      walk_at "w"
      rw [aTyM_hnd (by rw [entL_new0, entL_0])]
      refine ⟨trivial, by have z := clsN_ok wf row; cases row <;> exact z, ?_⟩
      rw [aExt_hnd (ys := (obL W us).map .pv) (by rw [entL_new0, entL_0]) rfl]
      refine ⟨?_, ?_⟩
      · rw [List.length_map, List.length_map, obL_len, obL_len]
        show _ ≤ 16777216
        simp only [Option.getD_some] at hl2
        omega
      · rw [set_new0]
        exact next2
    | none =>
      rw [ei] at next2 hl2
      simp only [Option.isSome_none]
      walk_at "w"
      rw [aTyM_hnd (by rw [entL_new0, entL_0])]
      refine ⟨trivial, ?_⟩
      rw [aApp_hnd (by rw [entL_new0, entL_0])]
      refine ⟨?_, ?_⟩
      · rw [List.length_map, obL_len]
        show _ < 16777216
        simp only [Option.getD_none, List.length_cons, List.length_nil] at hl2
        omega
      · rw [set_new0]
        exact next2
  · rintro σ S' ⟨w, rfl, rfl⟩
    refine ⟨trivial, ?_⟩
    have ep : AO.pure (.lst ((obL W (flatK row ts)).map .pv)) = some (.lst (obL W (flatK row ts))) := by
      show (pvs _).map PV.lst = _
      rw [pvs_map]
      rfl
    unfold agOf
    walk_at "w"
    simp only [ep]
    walk_at "w"
    rw [obL_len]
    by_cases h1 : (flatK row ts).length = 1
    · rw [decide_eq_true (by omega)]
      obtain ⟨u, hu⟩ := List.length_eq_one_iff.mp h1
      have ej : joinT row ts = u := by unfold joinT; rw [hu]
      rw [hu]
      rw [ej] at q
      exact ⟨S, Drop.app S _, trivial, q⟩
    · rw [decide_eq_false (by omega)]
      have ej : joinT row ts = .node row (flatK row ts) := by
        unfold joinT
        split
        · rename_i u hu
          rw [hu] at h1
          exact absurd rfl h1
        · rfl
      rw [ej, ob_node] at q
      refine mk_ini (fs := [(s_parts, .lst (obL W (flatK row ts)))]) rfl ?_ ⟨S, Drop.app S _, trivial, q⟩
      rw [iniNode_lst]
      rfl
end
end Q05
set_option Elab.async false
set_option autoImplicit false
set_option linter.all false
set_option maxRecDepth 100000
set_option maxHeartbeats 8000000
/-! Law k05: the reader in plain terms, and that it keeps its bounds. -/
namespace Q05
open PySem PySem.Spec PyProof.Rows L2 Rf K04
theorem steps_step {k : Cs} {b : Bool} : (Tr.step k b).steps = 1 := by rw [Tr.steps]
theorem steps_oft {t : Tr} {s : Nat} : (Tr.often t s).steps = t.steps := by rw [Tr.steps]
theorem steps_node {r : Bool} {ts : List Tr} : (Tr.node r ts).steps = stepsL ts := by rw [Tr.steps]
theorem stepsL_nil : stepsL [] = 0 := by rw [stepsL]
theorem stepsL_cons {t : Tr} {r : List Tr} : stepsL (t :: r) = t.steps + stepsL r := by rw [stepsL]
theorem stepsL_one (t : Tr) : stepsL [t] = t.steps := by rw [stepsL_cons, stepsL_nil]; omega
/-- what reading ends with: a tree, the place and the steps behind it; or the place that is bad -/
inductive PR where
  | ok (t : Tr) (a n : Nat) | bad (p : Nat) | out
def letB (c : Nat) : Bool := decide (97 ≤ c) && decide (c ≤ 122)
/-- behind letters from a place on, nine at most -/
def letters (x : Cs) (first : Nat) : Nat → Nat → Option Nat
  | 0, _ => none
  | f + 1, a => match x[a]? with
    | some c => if letB c = true then (if a - first = 8 then some (a + 1) else letters x first f (a + 1)) else some a
    | none => some a
def rdStep (x : Cs) (a n : Nat) : PR :=
  let back : Bool := decide (x[a]? = some 45)
  if (back = false ∧ ¬ ((x[a]?).any letB = true)) ∨ n = 12 then .bad a
  else
    let first := if back = true then a + 1 else a
    match letters x first 10 first with
    | none => .out
    | some b => if b - first = 9 then .bad (first + 8) else if b = first then .bad first else .ok (.step ((x.drop first).take (b - first)) back) b (n + 1)
def oftenR (br st : Nat → Nat → PR) (x : Cs) (a n : Nat) : PR :=
  match (if x[a]? = some 40 then br a n else st a n) with
  | .ok t b m => (match x[b]? with
    | some c => if c = 42 ∨ c = 43 ∨ c = 63 then .ok (.often t c) (b + 1) m else .ok t b m
    | none => .ok t b m)
  | r => r
/-- more parts, each behind a sign -/
def moreR (item : Nat → Nat → PR) (sep : Nat) (row : Bool) (x : Cs) : Nat → List Tr → Nat → Nat → PR
  | 0, _, _, _ => .out
  | f + 1, ts, a, n => if x[a]? = some sep then (match item (a + 1) n with
      | .ok t b m => moreR item sep row x f (ts ++ [t]) b m
      | r => r) else .ok (joinT row ts) a n
def manyR (item : Nat → Nat → PR) (sep : Nat) (row : Bool) (x : Cs) (a n : Nat) : PR := match item a n with
  | .ok t b m => moreR item sep row x 14 [t] b m
  | r => r
def brackR (ch : Nat → Nat → PR) (x : Cs) (a n : Nat) : PR := match ch (a + 1) n with
  | .ok t b m => if x[b]? = some 41 then .ok t (b + 1) m else .bad b
  | r => r
/-- d: how many brackets more there may be -/
def brR (x : Cs) : Nat → Nat → Nat → PR
  | 0, a, _ => .bad a
  | d + 1, a, n => if x[a]? = some 40 then brackR (manyR (manyR (oftenR (brR x d) (rdStep x) x) 46 true x) 124 false x) x a n else .out
def ofR (x : Cs) (d : Nat) : Nat → Nat → PR := oftenR (brR x d) (rdStep x) x
def rwR (x : Cs) (d : Nat) : Nat → Nat → PR := manyR (ofR x d) 46 true x
def chR (x : Cs) (d : Nat) : Nat → Nat → PR := manyR (rwR x d) 124 false x
theorem brR_succ (x : Cs) (d a n : Nat) : brR x (d + 1) a n = if x[a]? = some 40 then brackR (chR x d) x a n else .out := rfl
/-- a step in each part -/
inductive Full : Tr → Prop
  | step {k : Cs} {b : Bool} : Full (.step k b)
  | oft {t : Tr} {s : Nat} : Full t → Full (.often t s)
  | node {r : Bool} {us : List Tr} : us ≠ [] → (∀ u ∈ us, Full u) → Full (.node r us)
theorem stepsL_big : ∀ ts : List Tr, (∀ t ∈ ts, 1 ≤ t.steps) → ts.length ≤ stepsL ts
  | [], _ => Nat.zero_le _
  | t :: r, h => by
    have h1 := h t List.mem_cons_self
    have h2 := stepsL_big r fun u hu => h u (List.mem_cons_of_mem _ hu)
    rw [stepsL_cons, List.length_cons]
    omega
theorem Full.one {t : Tr} (h : Full t) : 1 ≤ t.steps := by
  induction h with
  | step => rw [steps_step]; exact Nat.le_refl _
  | oft _ ih => rw [steps_oft]; exact ih
  | node ne _ ih =>
    rw [steps_node]
    refine Nat.le_trans ?_ (stepsL_big _ ih)
    exact Nat.pos_of_ne_zero fun e => ne (List.length_eq_zero_iff.mp e)
/-- bounds that reading keeps -/
def Keeps (x : Cs) (f : Nat → Nat → PR) : Prop := ∀ a n, a ≤ x.length → n ≤ 12 → match f a n with
  | .ok t b m => a ≤ b ∧ b ≤ x.length ∧ m = n + t.steps ∧ m ≤ 12 ∧ Full t
  | .bad p => p ≤ x.length
  | .out => False
theorem at_len {x : Cs} {a : Nat} {c : Nat} (h : x[a]? = some c) : a < x.length := (List.getElem?_eq_some_iff.mp h).1
theorem letters_ok (x : Cs) (first : Nat) : ∀ (f a : Nat), first ≤ a → a - first ≤ 8 → 9 - (a - first) < f → a ≤ x.length → ∃ b, letters x first f a = some b ∧ a ≤ b ∧ b ≤ x.length ∧ b - first ≤ 9
  | 0, a, _, _, h, _ => absurd h (Nat.not_lt_zero _)
  | f + 1, a, h1, h2, h3, h4 => by
    unfold letters
    cases e : x[a]? with
    | none => exact ⟨a, rfl, Nat.le_refl _, h4, by omega⟩
    | some c =>
      have hl := at_len e
      dsimp only
      by_cases hc : letB c = true
      · rw [if_pos hc]
        by_cases h8 : a - first = 8
        · rw [if_pos h8]
          exact ⟨a + 1, rfl, by omega, by omega, by omega⟩
        · rw [if_neg h8]
          obtain ⟨b, e1, e2, e3, e4⟩ := letters_ok x first f (a + 1) (by omega) (by omega) (by omega) (by omega)
          exact ⟨b, e1, by omega, e3, e4⟩
      · rw [if_neg hc]
        exact ⟨a, rfl, Nat.le_refl _, h4, by omega⟩
theorem rdStep_keeps (x : Cs) : Keeps x (rdStep x) := by
  intro a n ha hn
  unfold rdStep
  dsimp only
  by_cases h : (decide (x[a]? = some 45) = false ∧ ¬ ((x[a]?).any letB = true)) ∨ n = 12
  · rw [if_pos h]
    exact ha
  · rw [if_neg h]
    have hf : (if decide (x[a]? = some 45) = true then a + 1 else a) ≤ x.length := by
      by_cases hb : x[a]? = some 45
      · rw [if_pos (decide_eq_true hb)]
        exact at_len hb
      · rw [if_neg (by simpa using hb)]
        exact ha
    generalize hff : (if decide (x[a]? = some 45) = true then a + 1 else a) = first at hf ⊢
    have ha1 : a ≤ first := by rw [← hff]; split <;> omega
    obtain ⟨b, e1, e2, e3, e4⟩ := letters_ok x first 10 first (Nat.le_refl _) (by omega) (by omega) hf
    rw [e1]
    dsimp only
    by_cases h9 : b - first = 9
    · rw [if_pos h9]
      show first + 8 ≤ x.length
      omega
    · rw [if_neg h9]
      by_cases h0 : b = first
      · rw [if_pos h0]
        exact hf
      · rw [if_neg h0]
        show a ≤ b ∧ b ≤ x.length ∧ n + 1 = n + (Tr.step _ _).steps ∧ n + 1 ≤ 12 ∧ Full (Tr.step _ _)
        rw [steps_step]
        exact ⟨by omega, e3, rfl, by omega, .step⟩
theorem oftenR_keeps {x : Cs} {br st : Nat → Nat → PR} (h1 : Keeps x br) (h2 : Keeps x st) : Keeps x (oftenR br st x) := by
  intro a n ha hn
  unfold oftenR
  have key : match (if x[a]? = some 40 then br a n else st a n) with
    | .ok t b m => a ≤ b ∧ b ≤ x.length ∧ m = n + t.steps ∧ m ≤ 12 ∧ Full t
    | .bad p => p ≤ x.length
    | .out => False := by
    by_cases h : x[a]? = some 40
    · rw [if_pos h]; exact h1 a n ha hn
    · rw [if_neg h]; exact h2 a n ha hn
  cases e : (if x[a]? = some 40 then br a n else st a n) with
  | ok t b m =>
    rw [e] at key
    obtain ⟨k1, k2, k3, k4, k5⟩ := key
    dsimp only
    cases eb : x[b]? with
    | none => exact ⟨k1, k2, k3, k4, k5⟩
    | some c =>
      dsimp only
      have hl := at_len eb
      by_cases hc : c = 42 ∨ c = 43 ∨ c = 63
      · rw [if_pos hc]
        refine ⟨by omega, hl, ?_, k4, ?_⟩
        · rw [steps_oft]; exact k3
        · exact .oft k5
      · rw [if_neg hc]
        exact ⟨k1, k2, k3, k4, k5⟩
  | bad p => rw [e] at key; exact key
  | out => rw [e] at key; exact key
theorem stepsL_flatK (row : Bool) : ∀ ts : List Tr, stepsL (flatK row ts) = stepsL ts
  | [] => rfl
  | t :: r => by
    rw [flatK_cons, stepsL_app, stepsL_flatK row r, stepsL_cons, flatK_one]
    congr 1
    cases t with
    | node r2 us =>
      show stepsL ((if r2 = row then some us else none).getD [.node r2 us]) = _
      by_cases h : r2 = row
      · rw [if_pos h, steps_node]; rfl
      · rw [if_neg h]; exact stepsL_one _
    | step k b => exact stepsL_one _
    | often k b => exact stepsL_one _
theorem flatK_full {row : Bool} {ts : List Tr} (h : ∀ t ∈ ts, Full t) : ∀ u ∈ flatK row ts, Full u := by
  intro u hu
  unfold flatK at hu
  obtain ⟨t, ht, hu⟩ := List.mem_flatMap.mp hu
  have ft := h t ht
  cases ft with
  | step => rw [List.mem_singleton.mp hu]; exact .step
  | oft f => rw [List.mem_singleton.mp hu]; exact .oft f
  | @node r us ne f =>
    by_cases hr : r = row
    · simp only [hr, if_true] at hu
      exact f u hu
    · simp only [hr, if_false, List.mem_singleton] at hu
      rw [hu]
      exact .node ne f
theorem joinT_full {row : Bool} {ts : List Tr} (h : ∀ t ∈ ts, Full t) (ne : ts ≠ []) : Full (joinT row ts) := by
  have f := flatK_full (row := row) h
  unfold joinT
  split
  · rename_i t e
    rw [e] at f
    exact f t (List.mem_singleton.mpr rfl)
  · refine .node (fun e => ?_) f
    have := stepsL_flatK row ts
    rw [e] at this
    have h2 := stepsL_big ts fun t ht => (h t ht).one
    have h3 : 0 < ts.length := Nat.pos_of_ne_zero fun e => ne (List.length_eq_zero_iff.mp e)
    have h4 : stepsL ([] : List Tr) = 0 := stepsL_nil
    omega
theorem joinT_steps (row : Bool) (ts : List Tr) : (joinT row ts).steps = stepsL ts := by
  rw [← stepsL_flatK row ts]
  unfold joinT
  split
  · rename_i t e
    rw [e, stepsL_one]
  · rw [steps_node]
theorem moreR_keeps {x : Cs} {item : Nat → Nat → PR} {sep : Nat} {row : Bool} (h : Keeps x item) (a0 n0 : Nat) : ∀ (f : Nat) (ts : List Tr) (a n : Nat), a0 ≤ a → a ≤ x.length → n = n0 + stepsL ts → n ≤ 12 → (ts ≠ [] ∧ ∀ t ∈ ts, Full t) → 12 - n < f →
    match moreR item sep row x f ts a n with
    | .ok t b m => a0 ≤ b ∧ b ≤ x.length ∧ m = n0 + t.steps ∧ m ≤ 12 ∧ Full t
    | .bad p => p ≤ x.length
    | .out => False
  | 0, ts, a, n, _, _, _, _, _, hf => absurd hf (Nat.not_lt_zero _)
  | f + 1, ts, a, n, ha0, ha, hn, hn12, h1, hf => by
    unfold moreR
    by_cases hs : x[a]? = some sep
    · rw [if_pos hs]
      have hl := at_len hs
      have q := h (a + 1) n hl hn12
      cases e : item (a + 1) n with
      | ok t b m =>
        rw [e] at q
        obtain ⟨q1, q2, q3, q4, q5⟩ := q
        have e2 : stepsL (ts ++ [t]) = stepsL ts + t.steps := by
          rw [stepsL_app, stepsL_one]
        have q6 := q5.one
        exact moreR_keeps h a0 n0 f (ts ++ [t]) b m (by omega) q2 (by omega) q4 ⟨by simp, fun u hu => (List.mem_append.mp hu).elim (h1.2 u) fun z => by rw [List.mem_singleton.mp z]; exact q5⟩ (by omega)
      | bad p => rw [e] at q; exact q
      | out => rw [e] at q; exact q
    · rw [if_neg hs]
      show a0 ≤ a ∧ a ≤ x.length ∧ n = n0 + (joinT row ts).steps ∧ n ≤ 12 ∧ Full (joinT row ts)
      rw [joinT_steps]
      exact ⟨ha0, ha, hn, hn12, joinT_full h1.2 h1.1⟩
theorem manyR_keeps {x : Cs} {item : Nat → Nat → PR} {sep : Nat} {row : Bool} (h : Keeps x item) : Keeps x (manyR item sep row x) := by
  intro a n ha hn
  unfold manyR
  have q := h a n ha hn
  cases e : item a n with
  | ok t b m =>
    rw [e] at q
    obtain ⟨q1, q2, q3, q4, q5⟩ := q
    have e2 : stepsL [t] = t.steps := stepsL_one t
    exact moreR_keeps h a n 14 [t] b m q1 q2 (by rw [e2]; exact q3) q4 ⟨by simp, fun u hu => by rw [List.mem_singleton.mp hu]; exact q5⟩ (by have := q5.one; omega)
  | bad p => rw [e] at q; exact q
  | out => rw [e] at q; exact q
theorem brR_keeps (x : Cs) : ∀ d, Keeps x (fun a n => if x[a]? = some 40 then brR x d a n else .bad a)
  | 0 => by
    intro a n ha hn
    by_cases h : x[a]? = some 40
    · dsimp only; rw [if_pos h]; exact ha
    · dsimp only; rw [if_neg h]; exact ha
  | d + 1 => by
    intro a n ha hn
    by_cases h : x[a]? = some 40
    · dsimp only
      rw [if_pos h, brR_succ, if_pos h]
      unfold brackR
      have ih := brR_keeps x d
      have ko : Keeps x (ofR x d) := by
        intro a n ha hn
        have z := oftenR_keeps ih (rdStep_keeps x) a n ha hn
        unfold ofR
        unfold oftenR at z ⊢
        dsimp only at z
        by_cases hb : x[a]? = some 40
        · rw [if_pos hb, if_pos hb] at z
          rw [if_pos hb]
          exact z
        · rw [if_neg hb] at z
          rw [if_neg hb]
          exact z
      have kc : Keeps x (chR x d) := manyR_keeps (manyR_keeps ko)
      have q := kc (a + 1) n (at_len h) hn
      cases e : chR x d (a + 1) n with
      | ok t b m =>
        rw [e] at q
        obtain ⟨q1, q2, q3, q4, q5⟩ := q
        dsimp only
        by_cases hb : x[b]? = some 41
        · rw [if_pos hb]
          have := at_len hb
          exact ⟨by omega, this, q3, q4, q5⟩
        · rw [if_neg hb]
          exact q2
      | bad p => rw [e] at q; exact q
      | out => rw [e] at q; exact q
    · dsimp only; rw [if_neg h]; exact ha
theorem ofR_keeps (x : Cs) (d : Nat) : Keeps x (ofR x d) := by
  intro a n ha hn
  have z := oftenR_keeps (brR_keeps x d) (rdStep_keeps x) a n ha hn
  unfold ofR
  unfold oftenR at z ⊢
  dsimp only at z
  by_cases hb : x[a]? = some 40
  · rw [if_pos hb, if_pos hb] at z
    rw [if_pos hb]
    exact z
  · rw [if_neg hb] at z
    rw [if_neg hb]
    exact z
theorem rwR_keeps (x : Cs) (d : Nat) : Keeps x (rwR x d) := manyR_keeps (ofR_keeps x d)
theorem chR_keeps (x : Cs) (d : Nat) : Keeps x (chR x d) := manyR_keeps (rwR_keeps x d)
end Q05
set_option Elab.async false
set_option autoImplicit false
set_option linter.all false
set_option maxRecDepth 100000
set_option maxHeartbeats 8000000
/-! Law k05: the reader's methods. -/
namespace Q05
open PySem PySem.Spec PyProof.Rows L2 Rf K04
open Lean in
local macro_rules
  | `(tactic| walk_at "ab") => `(tactic| try simp only [aSs, aS, aE, aA, aO, aT, aC, aI, adOf_K, adOf_sp, adOf_gv, adOf_ex, adOf_me, adOf_mks, adOf_exi, adOf_W, blkA_K, blkA_sp, blkA_gv, blkA_me, blkA_mks, insM_ins, List.map_cons, List.map_nil, mk2,
      List.lookup_cons, List.lookup_nil, beq_self_eq_true, List.getElem?_cons_zero, List.getElem?_cons_succ, List.length_cons, List.length_nil, tl_sOf, sOf_tl, setEnv0, setEnvS, wipeA,
      aBin, aCmp, aBF, aTF, aBM, aAdd_int, aAdd_str, aAdd_lst, aMul_int, aMul_str, aI2_int, aOrd_int, aOrd_str, aEq_int, aEq_str, aEq_bl, aIs_bl, aIs_non, isNonA, aIn_sign, aIn_tup, aIn_lst, flatP, aIx_str, aIx_lst, aIx_tup, aSl_str, aNeg_int, aTr_non, aTr_bl, aTr_int, aTr_str, bl?_bl,
      aLen_str, aLen_lst, aLen_tup, aInt_int, aInt_bl, aListF_lst, aTupF_lst, alc_t, pvs_nil, pvs_cons, pvk_nil, pvk_cons, aTyM_str, aTyM_lst, BM.ty, lstB_pv, seqA_lst, seqA_tup, extA_lst, extA_tup, Option.map_some, Option.map_none, Option.bind_some, Bool.false_xor, Bool.true_xor, Bool.not_true, Bool.not_false, true_and, and_true, reduceCtorEq, if_true, if_false,
      entL_new0, entR_new0, entL_new, entR_new, entL_0, entR_0, entR_0k, set_new, set_new0, len_new, app_one])
open Lean in
local macro_rules
  | `(tactic| walk_at "w") => `(tactic| (walk_at "ab"; try simp only [ne_kb, ne_ps, ne_as, ne_ds, ne_da, fcst, fcrw, fcch, fcof, fcrd, fnk, fnb, fnr, fnc, fnp, fns, fn1, fn2, fn3, insM_ob, obF_st, obF_of, obF_nd, true_and, and_true]; walk_at "ab"))
open Lean in
local macro_rules
  | `(tactic| walk_at "wm") => do
    let mt := mkIdent `mt
    `(tactic| (walk_at "w"; try simp only [($mt).str, ($mt).txt, ($mt).stp, ($mt).non]; walk_at "w"))
def sgn (x : Cs) (a : Nat) : Cs := (x.drop a).take 1
theorem sgn_at {x : Cs} {a c : Nat} (h : x[a]? = some c) : sgn x a = [c] := by
  obtain ⟨hl, e⟩ := List.getElem?_eq_some_iff.mp h
  unfold sgn
  rw [List.drop_eq_getElem_cons hl, e]
  rfl
theorem sgn_end {x : Cs} {a : Nat} (h : x[a]? = none) : sgn x a = [] := by
  unfold sgn
  rw [List.drop_eq_nil_of_le (List.getElem?_eq_none_iff.mp h)]
  rfl
theorem sgn_is (x : Cs) (a c : Nat) : decide (sgn x a = [c]) = decide (x[a]? = some c) := by
  cases e : x[a]? with
  | none => rw [sgn_end e]; rfl
  | some d =>
    rw [sgn_at e]
    by_cases h : d = c
    · subst h; rw [decide_eq_true rfl, decide_eq_true rfl]
    · rw [decide_eq_false (by simp [h]), decide_eq_false (by simp [h])]
theorem cut_sgn (x : Cs) (a : Nat) : cutA x (some (a : Int)) (some ((a : Int) + 1)) = sgn x a := by
  have e : ((a : Int) + 1) = ((a + 1 : Nat) : Int) := rfl
  unfold cutA sgn
  rw [e, HT.sIx_nat, HT.sIx_nat]
  by_cases h : a < x.length
  · rw [Nat.min_eq_left (Nat.le_of_lt h), Nat.min_eq_left h]
    congr 1
    omega
  · rw [Nat.min_eq_right (Nat.le_of_not_lt h), Nat.min_eq_right (by omega), List.drop_length, List.drop_eq_nil_of_le (Nat.le_of_not_lt h), List.take_nil, List.take_nil]
theorem cut_mid {x : Cs} {a b : Nat} (h1 : a ≤ b) (h : b ≤ x.length) : cutA x (some (a : Int)) (some (b : Int)) = (x.drop a).take (b - a) := by
  unfold cutA
  rw [HT.sIx_nat, HT.sIx_nat, Nat.min_eq_left h, Nat.min_eq_left (Nat.le_trans h1 h)]
/-- between a and z -/
theorem let_eq (x : Cs) (a : Nat) : ((!decide (sgn x a < [97])) && (!decide ([122] < sgn x a))) = (x[a]?).any letB := by
  cases e : x[a]? with
  | none => rw [sgn_end e]; rfl
  | some c =>
    rw [sgn_at e]
    show _ = letB c
    unfold letB
    have e1 : ([c] < ([97] : Cs)) ↔ c < 97 := by
      rw [List.cons_lt_cons_iff]
      exact ⟨fun h => h.elim id fun h => absurd h.2 (by simp), .inl⟩
    have e2 : (([122] : Cs) < [c]) ↔ 122 < c := by
      rw [List.cons_lt_cons_iff]
      exact ⟨fun h => h.elim id fun h => absurd h.2 (by simp), .inl⟩
    by_cases h1 : c < 97 <;> by_cases h2 : 122 < c <;> simp [e1, e2, h1, h2] <;> omega
def rdF (x : Cs) (a dn : Int) : List (Str × AV) := [(s_signs, .pv (.str x)), (s_at, .pv (.int a)), (s_done, .pv (.int dn))]
def rdL (W : Cl) (x : Cs) (a dn : Int) : SE := .live (.ins W.rd (rdF x a dn))
theorem rdF_s {x : Cs} {a dn : Int} : (rdF x a dn).lookup s_signs = some (.pv (.str x)) := by
  simp only [rdF, List.lookup_cons, beq_self_eq_true]
theorem rdF_a {x : Cs} {a dn : Int} : (rdF x a dn).lookup s_at = some (.pv (.int a)) := by
  simp only [rdF, List.lookup_cons, beq_self_eq_true, ne_as]
theorem rdF_d {x : Cs} {a dn : Int} : (rdF x a dn).lookup s_done = some (.pv (.int dn)) := by
  simp only [rdF, List.lookup_cons, beq_self_eq_true, ne_ds, ne_da]
theorem rdF_no {x : Cs} {a dn : Int} : ∀ m ∈ [s_next_sign, s_read_row, s_read_often, s_read_bracket, s_read_step, s_read_choice], (rdF x a dn).lookup m = none := by
  have key : ∀ m ∈ [s_next_sign, s_read_row, s_read_often, s_read_bracket, s_read_step, s_read_choice], (m == s_signs) = false ∧ (m == s_at) = false ∧ (m == s_done) = false := by decide +kernel
  intro m h
  obtain ⟨a1, a2, a3⟩ := key m h
  simp only [rdF, List.lookup_cons, List.lookup_nil, a1, a2, a3]
section
variable {x : Cs} {a dn : Int}
theorem rdF_n : (rdF x a dn).lookup s_next_sign = none := rdF_no _ (by simp)
theorem rdF_w : (rdF x a dn).lookup s_read_row = none := rdF_no _ (by simp)
theorem rdF_o : (rdF x a dn).lookup s_read_often = none := rdF_no _ (by simp)
theorem rdF_b : (rdF x a dn).lookup s_read_bracket = none := rdF_no _ (by simp)
theorem rdF_p : (rdF x a dn).lookup s_read_step = none := rdF_no _ (by simp)
theorem rdF_c : (rdF x a dn).lookup s_read_choice = none := rdF_no _ (by simp)
theorem putA {k : Int} : putFA s_at (.pv (.int k)) (rdF x a dn) = rdF x k dn := by
  simp only [rdF, putFA_cons, q_sa, if_false, if_true]
theorem putD {k : Int} : putFA s_done (.pv (.int k)) (rdF x a dn) = rdF x a k := by
  simp only [rdF, putFA_cons, q_sd, q_ad, if_false, if_true]
theorem rdF_len : (rdF x a dn).length < 1000 := by
  show 3 < 1000
  decide
theorem rdF_inj {y : Cs} {b en : Int} (h : rdF x a dn = rdF y b en) : x = y ∧ a = b ∧ dn = en := by
  unfold rdF at h
  injection h with h1 h2
  injection h2 with h2 h3
  injection h3 with h3 h4
  cases h1; cases h2; cases h3
  exact ⟨rfl, rfl, rfl⟩
end
def spNs (W : Cl) : ASp := fun ws S Q _ => ∃ (n : Nat) (x : Cs) (a dn : Nat), ws = [.hnd n] ∧ entL S n = some (.ins W.rd (rdF x a dn)) ∧ x.length ≤ 10000 ∧ Q (.pv (.str (sgn x a))) S
theorem ns_eq {W : Cl} {S : Sto} {n a dn : Nat} {x : Cs} (he : entL S n = some (.ins W.rd (rdF x a dn))) (hx : x.length ≤ 10000) {Q : AQ} {E : AEr} : spNs W [.hnd n] S Q E = Q (.pv (.str (sgn x a))) S := by
  refine propext ⟨?_, fun q => ⟨n, x, a, dn, rfl, he, hx, q⟩⟩
  rintro ⟨n2, x2, a2, dn2, e1, e2, e3, q⟩
  cases e1
  rw [he] at e2
  injection e2 with e2
  injection e2 with _ e2
  obtain ⟨rfl, e4, e5⟩ := rdF_inj e2
  cases Int.ofNat.inj e4
  exact q
def deepA : Option Nat → List AV
  | none => []
  | some d => [.pv (.int ((10 : Int) - d))]
def spRd (W : Cl) (dd : Option Nat) (f : Cs → Nat → Nat → PR) : ASp := fun ws S Q E => ∃ (n : Nat) (x : Cs) (a dn : Nat), ws = .hnd n :: deepA dd ∧ entL S n = some (.ins W.rd (rdF x a dn)) ∧ x.length ≤ 10000 ∧ a ≤ x.length ∧ dn ≤ 12 ∧ (match f x a dn with
  | .ok t b m => Q (.pv (ob W t)) (S.set n (rdL W x b m))
  | .bad p => ∀ b m : Int, E W.bw [(s_place, .int p)] (S.set n (rdL W x b m))
  | .out => False)
structure MrT (W : Cl) (me : Addr → Str → Option (Nat × ASp)) : Prop where
  ns : me W.rd s_next_sign = some (1, spNs W)
theorem set_same {S : Sto} {n : Nat} {o : AO} (h : entL S n = some o) : S.set n (.live o) = S := by
  have e := entL_ok h
  obtain ⟨hl, e⟩ := List.getElem?_eq_some_iff.mp e
  exact List.ext_getElem (by simp) fun i h1 h2 => by
    rw [List.getElem_set]
    split
    · rename_i hi
      subst hi
      exact e.symm
    · rfl
theorem rd_set {W : Cl} {S : Sto} {n : Nat} {o : AO} {x : Cs} {b m : Int} (h : entL S n = some o) : entL (S.set n (rdL W x b m)) n = some (.ins W.rd (rdF x b m)) := entL_set h
open Lean in
local macro_rules
  | `(tactic| walk_at "wr") => do
    let he := mkIdent `he
    let hx := mkIdent `hx
    let mr := mkIdent `mr
    `(tactic| (walk_at "w"; try simp only [$he:term, insM_hnd $he, ns_eq $he $hx, rdF_s, rdF_a, rdF_d, rdF_n, rdF_w, rdF_o, rdF_b, rdF_p, rdF_c, ($mr).ns, true_and, and_true]; walk_at "w"))
section
variable {K : Fg} {W : Cl} {EA : AEr} {QA : AQ} {S : Sto} [wf : Wf K W] {me : Addr → Str → Option (Nat × ASp)}
theorem sem_next_sign (ws : List AV) (h : spNs W ws S QA EA) : aSs (adOf K EA {}) rs_Reading_next_sign { nx := fun _ S' => QA (.pv .non) S', rt := QA } (envStart N_Reading_next_sign ws) S := by
  obtain ⟨n, x, a, dn, rfl, he, hx, q⟩ := h
  show aSs (adOf K EA {}) rs_Reading_next_sign { nx := fun _ S' => QA (.pv .non) S', rt := QA } [some (.hnd n)] S
  unfold rs_Reading_next_sign
  walk_at "w"
  simp only [insM_hnd he, rdF_s, rdF_a]
  walk_at "w"
  rw [cut_sgn]
  exact ⟨Nat.le_trans hx (by decide), q⟩
/-- the refusal, at the store as it is -/
theorem bad_at {n : Nat} {x : Cs} {a dn : Int} {p : Nat} (he : entL S n = some (.ins W.rd (rdF x a dn))) (h : ∀ b m : Int, EA W.bw [(s_place, .int p)] (S.set n (rdL W x b m))) : EA W.bw [(s_place, .int p)] S := by
  have z := h a dn
  unfold rdL at z
  rw [set_same he] at z
  exact z
theorem sem_often (mr : MrT W me) (d : Nat) (hb : me W.rd s_read_bracket = some (2, spRd W (some d) (fun x => brR x d))) (hs : me W.rd s_read_step = some (1, spRd W none rdStep)) (ws : List AV) (h : spRd W (some d) (fun x => ofR x d) ws S QA EA) : aSs (adOf K EA { me := me, mks := [(W.of, 3, spIni W.of 2 iniOften)] }) rs_Reading_read_often { nx := fun _ S' => QA (.pv .non) S', rt := QA } (envStart N_Reading_read_often ws) S := by
  obtain ⟨n, x, a, dn, rfl, he, hx, ha, hd, q⟩ := h
  show aSs (adOf K EA { me := me, mks := [(W.of, 3, spIni W.of 2 iniOften)] }) rs_Reading_read_often { nx := fun _ S' => QA (.pv .non) S', rt := QA } [some (.hnd n), some (.pv (.int ((10 : Int) - d))), none, none] S
  have tail : ∀ t (b m : Nat), (match (match x[b]? with
      | some c => if c = 42 ∨ c = 43 ∨ c = 63 then PR.ok (.often t c) (b + 1) m else .ok t b m
      | none => .ok t b m) with
      | .ok t b m => QA (.pv (ob W t)) (S.set n (rdL W x b m))
      | .bad p => ∀ b m : Int, EA W.bw [(s_place, .int p)] (S.set n (rdL W x b m))
      | .out => False) → aSs (adOf K EA { me := me, mks := [(W.of, 3, spIni W.of 2 iniOften)] }) rt_Reading_read_often_1 { nx := fun _ S' => QA (.pv .non) S', rt := QA } [some (.hnd n), some (.pv (.int ((10 : Int) - d))), some (.pv (ob W t)), none] (S.set n (rdL W x b m)) := by
    intro t b m q
    have he0 := he
    have he := rd_set (W := W) (x := x) (b := b) (m := m) he0
    unfold rt_Reading_read_often_1 rh_Reading_read_often_1
    walk_at "wr"
    unfold rt_Reading_read_often_2 rh_Reading_read_often_2
    walk_at "wr"
    refine ⟨by decide, rfl, ?_⟩
    cases eb : x[b]? with
    | none =>
      rw [eb] at q
      rw [sgn_end eb]
      exact q
    | some c =>
      rw [eb] at q
      rw [sgn_at eb]
      dsimp only at q
      have e3 : inP (PV.str [c]) [PV.str [42], PV.str [43], PV.str [63]] = decide (c = 42 ∨ c = 43 ∨ c = 63) := by
        show (([42] : Cs) == [c] || (([43] : Cs) == [c] || (([63] : Cs) == [c] || false))) = _
        by_cases h1 : c = 42
        · subst h1; rfl
        · by_cases h2 : c = 43
          · subst h2; rfl
          · by_cases h3 : c = 63
            · subst h3; rfl
            · rw [decide_eq_false (by simp [h1, h2, h3])]
              have n1 : ¬ 42 = c := fun e => h1 e.symm
              have n2 : ¬ 43 = c := fun e => h2 e.symm
              have n3 : ¬ 63 = c := fun e => h3 e.symm
              simp [n1, n2, n3]
      rw [e3]
      by_cases hc : c = 42 ∨ c = 43 ∨ c = 63
      · rw [if_pos hc] at q
        rw [decide_eq_true hc]
        simp only [Bool.not_true]
        unfold rt_Reading_read_often_3 rh_Reading_read_often_3
        walk_at "wr"
        refine ⟨rdF_len, ?_⟩
        rw [putA]
        unfold rt_Reading_read_often_4 rh_Reading_read_often_4
        have he := rd_set (W := W) (x := x) (b := (b : Int) + 1) (m := m) he0
        walk_at "wr"
        refine mk_ini (fs := [(s_part, ob W t), (s_sign, .str [c])]) rfl rfl ?_
        unfold rdL
        rw [set_set]
        exact q
      · rw [if_neg hc] at q
        rw [decide_eq_false hc]
        exact q
  rw [rs_Reading_read_often_cut]
  unfold rt_Reading_read_often_0 rh_Reading_read_often_0
  have q : match ofR x d a dn with
    | .ok t b m => QA (.pv (ob W t)) (S.set n (rdL W x b m))
    | .bad p => ∀ b m : Int, EA W.bw [(s_place, .int p)] (S.set n (rdL W x b m))
    | .out => False := q
  unfold ofR oftenR at q
  walk_at "wr"
  rw [sgn_is]
  by_cases hc : x[a]? = some 40
  · rw [if_pos hc] at q
    rw [decide_eq_true hc]
    walk_at "wr"
    simp only [hb]
    walk_at "wr"
    refine ⟨n, x, a, dn, rfl, he, hx, ha, hd, ?_⟩
    dsimp only
    cases er : brR x d a dn with
    | ok t b m => rw [er] at q; exact tail t b m q
    | bad p => rw [er] at q; exact q
    | out => rw [er] at q; exact q
  · rw [if_neg hc] at q
    rw [decide_eq_false hc]
    walk_at "wr"
    simp only [hs]
    walk_at "wr"
    refine ⟨n, x, a, dn, rfl, he, hx, ha, hd, ?_⟩
    cases er : rdStep x a dn with
    | ok t b m => rw [er] at q; exact tail t b m q
    | bad p => rw [er] at q; exact q
    | out => rw [er] at q; exact q
end
end Q05
set_option Elab.async false
set_option autoImplicit false
set_option linter.all false
set_option maxRecDepth 100000
set_option maxHeartbeats 8000000
/-! Law k05: reading a bracket and a step. -/
namespace Q05
open PySem PySem.Spec PyProof.Rows L2 Rf K04
open Lean in
local macro_rules
  | `(tactic| walk_at "ab") => `(tactic| try simp only [aSs, aS, aE, aA, aO, aT, aC, aI, adOf_K, adOf_sp, adOf_gv, adOf_ex, adOf_me, adOf_mks, adOf_exi, adOf_W, blkA_K, blkA_sp, blkA_gv, blkA_me, blkA_mks, insM_ins, List.map_cons, List.map_nil, mk2,
      List.lookup_cons, List.lookup_nil, beq_self_eq_true, List.getElem?_cons_zero, List.getElem?_cons_succ, List.length_cons, List.length_nil, tl_sOf, sOf_tl, setEnv0, setEnvS, wipeA,
      aBin, aCmp, aBF, aTF, aBM, aAdd_int, aAdd_str, aAdd_lst, aMul_int, aMul_str, aI2_int, aOrd_int, aOrd_str, aEq_int, aEq_str, aEq_bl, aIs_bl, aIs_non, isNonA, aIn_sign, aIn_tup, aIn_lst, flatP, aIx_str, aIx_lst, aIx_tup, aSl_str, aNeg_int, aTr_non, aTr_bl, aTr_int, aTr_str, bl?_bl,
      aLen_str, aLen_lst, aLen_tup, aInt_int, aInt_bl, aListF_lst, aTupF_lst, alc_t, pvs_nil, pvs_cons, pvk_nil, pvk_cons, aTyM_str, aTyM_lst, BM.ty, lstB_pv, seqA_lst, seqA_tup, extA_lst, extA_tup, Option.map_some, Option.map_none, Option.bind_some, Bool.false_xor, Bool.true_xor, Bool.not_true, Bool.not_false, true_and, and_true, reduceCtorEq, if_true, if_false,
      entL_new0, entR_new0, entL_new, entR_new, entL_0, entR_0, entR_0k, set_new, set_new0, len_new, app_one])
open Lean in
local macro_rules
  | `(tactic| walk_at "w") => `(tactic| (walk_at "ab"; try simp only [ne_kb, ne_ps, ne_as, ne_ds, ne_da, fcst, fcrw, fcch, fcof, fcrd, fnk, fnb, fnr, fnc, fnp, fns, fn1, fn2, fn3, insM_ob, obF_st, obF_of, obF_nd, true_and, and_true]; walk_at "ab"))
open Lean in
local macro_rules
  | `(tactic| walk_at "wm") => do
    let mt := mkIdent `mt
    `(tactic| (walk_at "w"; try simp only [($mt).str, ($mt).txt, ($mt).stp, ($mt).non]; walk_at "w"))
open Lean in
local macro_rules
  | `(tactic| walk_at "wr") => do
    let he := mkIdent `he
    let hx := mkIdent `hx
    let mr := mkIdent `mr
    `(tactic| (walk_at "w"; try simp only [$he:term, insM_hnd $he, ns_eq $he $hx, rdF_s, rdF_a, rdF_d, rdF_n, rdF_w, rdF_o, rdF_b, rdF_p, rdF_c, ($mr).ns, true_and, and_true]; walk_at "w"))
section
variable {K : Fg} {W : Cl} {EA : AEr} {QA : AQ} {S : Sto} [wf : Wf K W] {me : Addr → Str → Option (Nat × ASp)}
def agBr (W : Cl) (me : Addr → Str → Option (Nat × ASp)) : AG := { me := me, gv := [.int 10], exi := [(W.bw, [s_place])] }
theorem sem_bracket0 (mr : MrT W me) (ws : List AV) (h : spRd W (some 0) (fun x => brR x 0) ws S QA EA) : aSs (adOf K EA (agBr W me)) rs_Reading_read_bracket { nx := fun _ S' => QA (.pv .non) S', rt := QA } (envStart N_Reading_read_bracket ws) S := by
  obtain ⟨n, x, a, dn, rfl, he, hx, ha, hd, q⟩ := h
  show aSs (adOf K EA (agBr W me)) rs_Reading_read_bracket { nx := fun _ S' => QA (.pv .non) S', rt := QA } [some (.hnd n), some (.pv (.int 10)), none] S
  rw [rs_Reading_read_bracket_cut]
  unfold agBr rt_Reading_read_bracket_0 rh_Reading_read_bracket_0
  walk_at "wr"
  exact ⟨by decide, bad_at he q⟩
theorem sem_bracketS (mr : MrT W me) (d : Nat) (hc : me W.rd s_read_choice = some (2, spRd W (some d) (fun x => chR x d))) (ws : List AV) (h : spRd W (some (d + 1)) (fun x => brR x (d + 1)) ws S QA EA) : aSs (adOf K EA (agBr W me)) rs_Reading_read_bracket { nx := fun _ S' => QA (.pv .non) S', rt := QA } (envStart N_Reading_read_bracket ws) S := by
  obtain ⟨n, x, a, dn, rfl, he, hx, ha, hd, q⟩ := h
  show aSs (adOf K EA (agBr W me)) rs_Reading_read_bracket { nx := fun _ S' => QA (.pv .non) S', rt := QA } [some (.hnd n), some (.pv (.int ((10 : Int) - (d + 1 : Nat)))), none] S
  rw [rs_Reading_read_bracket_cut]
  unfold agBr rt_Reading_read_bracket_0 rh_Reading_read_bracket_0
  walk_at "wr"
  rw [decide_eq_false (by omega)]
  simp only
  unfold rt_Reading_read_bracket_1 rh_Reading_read_bracket_1
  walk_at "wr"
  refine ⟨rdF_len, ?_⟩
  rw [putA]
  have he0 := he
  have he := rd_set (W := W) (x := x) (b := (a : Int) + 1) (m := dn) he0
  unfold rt_Reading_read_bracket_2 rh_Reading_read_bracket_2
  unfold rdL at he
  walk_at "wr"
  simp only [hc]
  walk_at "wr"
  have q : match brR x (d + 1) a dn with
    | .ok t b m => QA (.pv (ob W t)) (S.set n (rdL W x b m))
    | .bad p => ∀ b m : Int, EA W.bw [(s_place, .int p)] (S.set n (rdL W x b m))
    | .out => False := q
  rw [brR_succ] at q
  by_cases h40 : x[a]? = some 40
  · have hl := at_len h40
    rw [if_pos h40] at q
    unfold brackR at q
    refine ⟨n, x, a + 1, dn, ?_, he, hx, hl, hd, ?_⟩
    · show [AV.hnd n, AV.pv (.int _)] = [AV.hnd n, AV.pv (.int _)]
      have e : (10 : Int) - ((d + 1 : Nat) : Int) + 1 = 10 - (d : Int) := by omega
      rw [e]
    · dsimp only
      cases er : chR x d (a + 1) dn with
      | bad p =>
        rw [er] at q
        intro b m
        rw [set_set]
        exact q b m
      | out => rw [er] at q; exact q
      | ok t b m =>
        rw [er] at q
        dsimp only at q ⊢
        rw [set_set]
        have he := rd_set (W := W) (x := x) (b := b) (m := m) he0
        unfold rt_Reading_read_bracket_3 rh_Reading_read_bracket_3
        walk_at "wr"
        rw [sgn_is]
        by_cases hb : x[b]? = some 41
        · rw [if_pos hb] at q
          rw [decide_eq_true hb]
          simp only [Bool.not_true]
          unfold rt_Reading_read_bracket_4 rh_Reading_read_bracket_4
          walk_at "wr"
          refine ⟨rdF_len, ?_⟩
          rw [putA]
          unfold rt_Reading_read_bracket_5 rh_Reading_read_bracket_5
          walk_at "wr"
          unfold rdL
          rw [set_set]
          exact q
        · rw [if_neg hb] at q
          rw [decide_eq_false hb]
          simp only [Bool.not_false]
          walk_at "wr"
          exact ⟨by decide, q b m⟩
  · rw [if_neg h40] at q
    exact q.elim
theorem sem_step (mr : MrT W me) (ws : List AV) (h : spRd W none rdStep ws S QA EA) : aSs (adOf K EA { me := me, gv := [.int 12, .int 8], exi := [(W.bw, [s_place])], mks := [(W.st, 3, spIni W.st 2 iniStep)] }) rs_Reading_read_step { nx := fun _ S' => QA (.pv .non) S', rt := QA } (envStart N_Reading_read_step ws) S := by
  obtain ⟨n, x, a, dn, rfl, he, hx, ha, hd, q⟩ := h
  show aSs (adOf K EA { me := me, gv := [.int 12, .int 8], exi := [(W.bw, [s_place])], mks := [(W.st, 3, spIni W.st 2 iniStep)] }) rs_Reading_read_step { nx := fun _ S' => QA (.pv .non) S', rt := QA } [some (.hnd n), none, none] S
  rw [rs_Reading_read_step_cut]
  unfold rt_Reading_read_step_0 rh_Reading_read_step_0
  walk_at "wr"
  rw [sgn_is]
  unfold rdStep at q
  dsimp only at q
  have hbk : decide (x[a]? = some 45) = true → a + 1 ≤ x.length := fun h => at_len (of_decide_eq_true h)
  generalize decide (x[a]? = some 45) = back at q hbk ⊢
  have hl := let_eq x a
  unfold rt_Reading_read_step_1 rh_Reading_read_step_1
  walk_at "wr"
  generalize decide (sgn x a < [97]) = lo at hl ⊢
  generalize decide ([122] < sgn x a) = hi at hl ⊢
  rw [← hl] at q
  have e12 : decide ((dn : Int) = 12) = decide (dn = 12) := by
    by_cases h : dn = 12
    · rw [decide_eq_true h, decide_eq_true (by omega)]
    · rw [decide_eq_false h, decide_eq_false (by omega)]
  have tail : (match (match letters x (if back = true then a + 1 else a) 10 (if back = true then a + 1 else a) with
      | none => PR.out
      | some b => if (b - if back = true then a + 1 else a) = 9 then PR.bad ((if back = true then a + 1 else a) + 8)
        else if b = if back = true then a + 1 else a then PR.bad (if back = true then a + 1 else a)
        else PR.ok (.step ((x.drop (if back = true then a + 1 else a)).take (b - if back = true then a + 1 else a)) back) b (dn + 1)) with
      | .ok t b m => QA (.pv (ob W t)) (S.set n (rdL W x b m))
      | .bad p => ∀ b m : Int, EA W.bw [(s_place, .int p)] (S.set n (rdL W x b m))
      | .out => False) → (if back = true then a + 1 else a) ≤ x.length → dn ≠ 12 → aSs (adOf K EA { me := me, gv := [.int 12, .int 8], exi := [(W.bw, [s_place])], mks := [(W.st, 3, spIni W.st 2 iniStep)] }) rt_Reading_read_step_2 { nx := fun _ S' => QA (.pv .non) S', rt := QA } [some (.hnd n), some (.pv (.bl back)), none] S := by
    intro q hf h12
    have ef : (a : Int) + (if back = true then 1 else 0) = ((if back = true then a + 1 else a : Nat) : Int) := by
      cases back <;> simp
    generalize hff : (if back = true then a + 1 else a) = first at q hf ef
    unfold rt_Reading_read_step_2 rh_Reading_read_step_2
    walk_at "wr"
    refine ⟨rdF_len, ?_⟩
    rw [ef, putA]
    have he0 := he
    have he := rd_set (W := W) (x := x) (b := first) (m := dn) he0
    unfold rdL at he
    unfold rt_Reading_read_step_3 rh_Reading_read_step_3
    walk_at "wr"
    unfold rt_Reading_read_step_4 rh_Reading_read_step_4
    unfold aSs aS
    generalize e10 : letters x first 10 first = R at q
    refine ⟨10, whN_inv (fun k σ S' => ∃ a' : Nat, σ = [some (.hnd n), some (.pv (.bl back)), some (.pv (.int first))] ∧ S' = S.set n (rdL W x a' dn) ∧ first ≤ a' ∧ a' - first ≤ 8 ∧ a' ≤ x.length ∧ letters x first k a' = R) ?_ ?_ 10 _ _ ⟨first, rfl, rfl, Nat.le_refl _, by omega, hf, e10⟩⟩
    · rintro σ S' ⟨a', _, _, _, _, _, e⟩
      have e : none = R := e
      rw [← e] at q
      exact q
    · rintro k σ S' N ⟨a', rfl, rfl, h1, h2, h3, e⟩ next
      have he := rd_set (W := W) (x := x) (b := a') (m := dn) he0
      have hl := let_eq x a'
      walk_at "wr"
      generalize decide (sgn x a' < [97]) = lo at hl ⊢
      generalize decide ([122] < sgn x a') = hi at hl ⊢
      have out : (x[a']?).any letB = false → aSs (adOf K EA { me := me, gv := [.int 12, .int 8], exi := [(W.bw, [s_place])], mks := [(W.st, 3, spIni W.st 2 iniStep)] }) rt_Reading_read_step_5 { nx := fun _ S' => QA (.pv .non) S', rt := QA } [some (.hnd n), some (.pv (.bl back)), some (.pv (.int first))] (S.set n (rdL W x a' dn)) := by
        intro hn
        have er : R = some a' := by
          rw [← e]
          unfold letters
          cases ex : x[a']? with
          | none => rfl
          | some c =>
            rw [ex] at hn
            have hn : letB c = false := hn
            dsimp only
            rw [if_neg (by rw [hn]; decide)]
        rw [er] at q
        dsimp only at q
        rw [if_neg (by omega)] at q
        unfold rt_Reading_read_step_5 rh_Reading_read_step_5
        walk_at "wr"
        by_cases hz : a' = first
        · rw [if_pos hz] at q
          rw [decide_eq_true (by omega)]
          walk_at "wr"
          refine ⟨by decide, ?_⟩
          rw [hz]
          exact q first dn
        · rw [if_neg hz] at q
          rw [decide_eq_false (by omega)]
          simp only
          unfold rt_Reading_read_step_6 rh_Reading_read_step_6
          walk_at "wr"
          refine ⟨rdF_len, ?_⟩
          rw [putD]
          have he := rd_set (W := W) (x := x) (b := a') (m := (dn : Int) + 1) he0
          unfold rdL at he ⊢
          rw [set_set]
          unfold rt_Reading_read_step_7 rh_Reading_read_step_7
          walk_at "wr"
          refine ⟨Nat.le_trans hx (by decide), ?_⟩
          rw [cut_mid h1 h3]
          exact mk_ini (fs := [(s_kind, .str ((x.drop first).take (a' - first))), (s_back, .bl back)]) rfl rfl q
      cases lo with
      | true =>
        walk_at "wr"
        exact out (by rw [← hl]; rfl)
      | false =>
        cases hi with
        | true =>
          walk_at "wr"
          exact out (by rw [← hl]; rfl)
        | false =>
          cases ex : x[a']? with
          | none => rw [ex] at hl; cases hl
          | some c =>
            rw [ex] at hl
            have hl : letB c = true := hl.symm
            unfold letters at e
            rw [ex] at e
            dsimp only at e
            rw [if_pos hl] at e
            walk_at "wr"
            by_cases h8 : a' - first = 8
            · rw [if_pos h8] at e
              rw [← e] at q
              dsimp only at q
              rw [if_pos (by omega)] at q
              rw [decide_eq_true (by omega)]
              simp only
              walk_at "wr"
              refine ⟨by decide, ?_⟩
              have e2 : first + 8 = a' := by omega
              rw [e2] at q
              exact q a' dn
            · rw [if_neg h8] at e
              rw [decide_eq_false (by omega)]
              simp only
              walk_at "wr"
              refine ⟨rdF_len, ?_⟩
              rw [putA]
              refine next _ _ ⟨a' + 1, rfl, ?_, by omega, by omega, at_len ex, e⟩
              unfold rdL
              rw [set_set]
              rfl
  by_cases h12 : dn = 12
  · rw [if_pos (.inr h12)] at q
    rw [decide_eq_true h12] at e12
    cases back <;> cases lo <;> cases hi <;> ((walk_at "wr"); (try simp only [e12]); (try walk_at "wr"); exact ⟨by decide, bad_at he q⟩)
  · rw [decide_eq_false h12] at e12
    cases back with
    | true =>
      rw [if_neg (by simp [h12])] at q
      walk_at "wr"
      try simp only [e12]
      walk_at "wr"
      exact tail q (hbk rfl) h12
    | false =>
      cases lo <;> cases hi
      · rw [if_neg (by simp [h12])] at q
        walk_at "wr"
        simp only [e12]
        exact tail q ha h12
      all_goals
        rw [if_pos (.inl ⟨rfl, by decide⟩)] at q
        walk_at "wr"
        exact ⟨by decide, bad_at he q⟩
end
end Q05
set_option Elab.async false
set_option autoImplicit false
set_option linter.all false
set_option maxRecDepth 100000
set_option maxHeartbeats 8000000
/-! Law k05: reading rows and choices, and a whole text. -/
namespace Q05
open PySem PySem.Spec PyProof.Rows L2 Rf K04
open Lean in
local macro_rules
  | `(tactic| walk_at "ab") => `(tactic| try simp only [aSs, aS, aE, aA, aO, aT, aC, aI, adOf_K, adOf_sp, adOf_gv, adOf_ex, adOf_me, adOf_mks, adOf_exi, adOf_W, blkA_K, blkA_sp, blkA_gv, blkA_me, blkA_mks, insM_ins, List.map_cons, List.map_nil, mk2,
      List.lookup_cons, List.lookup_nil, beq_self_eq_true, List.getElem?_cons_zero, List.getElem?_cons_succ, List.length_cons, List.length_nil, tl_sOf, sOf_tl, setEnv0, setEnvS, wipeA,
      aBin, aCmp, aBF, aTF, aBM, aAdd_int, aAdd_str, aAdd_lst, aMul_int, aMul_str, aI2_int, aOrd_int, aOrd_str, aEq_int, aEq_str, aEq_bl, aIs_bl, aIs_non, isNonA, aIn_sign, aIn_tup, aIn_lst, flatP, aIx_str, aIx_lst, aIx_tup, aSl_str, aNeg_int, aTr_non, aTr_bl, aTr_int, aTr_str, bl?_bl,
      aLen_str, aLen_lst, aLen_tup, aInt_int, aInt_bl, aListF_lst, aTupF_lst, alc_t, pvs_nil, pvs_cons, pvk_nil, pvk_cons, aTyM_str, aTyM_lst, BM.ty, lstB_pv, seqA_lst, seqA_tup, extA_lst, extA_tup, Option.map_some, Option.map_none, Option.bind_some, Bool.false_xor, Bool.true_xor, Bool.not_true, Bool.not_false, true_and, and_true, reduceCtorEq, if_true, if_false,
      entL_new0, entR_new0, entL_new, entR_new, entL_0, entR_0, entR_0k, set_new, set_new0, len_new, app_one])
open Lean in
local macro_rules
  | `(tactic| walk_at "w") => `(tactic| (walk_at "ab"; try simp only [ne_kb, ne_ps, ne_as, ne_ds, ne_da, fcst, fcrw, fcch, fcof, fcrd, fnk, fnb, fnr, fnc, fnp, fns, fn1, fn2, fn3, insM_ob, obF_st, obF_of, obF_nd, true_and, and_true]; walk_at "ab"))
open Lean in
local macro_rules
  | `(tactic| walk_at "wm") => do
    let mt := mkIdent `mt
    `(tactic| (walk_at "w"; try simp only [($mt).str, ($mt).txt, ($mt).stp, ($mt).non]; walk_at "w"))
open Lean in
local macro_rules
  | `(tactic| walk_at "wr") => do
    let he := mkIdent `he
    let hx := mkIdent `hx
    let mr := mkIdent `mr
    `(tactic| (walk_at "w"; try simp only [$he:term, insM_hnd $he, ns_eq $he $hx, rdF_s, rdF_a, rdF_d, rdF_n, rdF_w, rdF_o, rdF_b, rdF_p, rdF_c, ($mr).ns, true_and, and_true]; walk_at "w"))
theorem entL_app {X : Sto} {k : Nat} {o : AO} (h : X.length = k) : entL (X ++ [.live o]) k = some o := by subst h; rw [entL_new0, entL_0]
theorem set_app {X : Sto} {k : Nat} {o : AO} {e : SE} (h : X.length = k) : (X ++ [SE.live o]).set k e = X ++ [e] := by subst h; rw [set_new0]; rfl
theorem rd_ok {W : Cl} {k : Nat} {x : Cs} {b m : Int} : okO k (.ins W.rd (rdF x b m)) := by
  show ∀ p ∈ rdF x b m, okV k p.2
  intro p hp
  unfold rdF at hp
  simp only [List.mem_cons, List.not_mem_nil, or_false] at hp
  obtain rfl | rfl | rfl := hp <;> trivial
def rsMany2 : RSs := .cons (.frz 2)
  (.cons (.ret (.call 0 (.cons (.var 2) .nil))) .nil)
def rsMany1 (m : Str) (sep : Nat) : RSs := .cons (.wh (.cmp .Eq (.own s_next_sign (.var 0) (.nil)) (.str (sOf [sep])))
    (.cons (.afld (.var 0) s_at false (.int 1))
    (.cons (.ex (.mt .append (.var 2) (.cons (.own m (.var 0) (.cons (.var 1) .nil)) .nil))) .nil))) rsMany2
def rsMany (m : Str) (sep : Nat) : RSs :=
  .cons (.set 2 (.hnd (.lst (.cons (.own m (.var 0) (.cons (.var 1) .nil)) .nil)))) (rsMany1 m sep)
theorem rs_choice_many : rs_Reading_read_choice = rsMany s_read_row 124 := rfl
theorem rs_row_many : rs_Reading_read_row = rsMany s_read_often 46 := rfl
section
variable {K : Fg} {W : Cl} {EA : AEr} {QA : AQ} {S : Sto} [wf : Wf K W] {me : Addr → Str → Option (Nat × ASp)}
theorem sem_many (mr : MrT W me) (row : Bool) (mth : Str) (sep d : Nat) (item : Cs → Nat → Nat → PR) (hm : me W.rd mth = some (2, spRd W (some d) item)) (hl : ∀ (x : Cs) (a dn : Int), (rdF x a dn).lookup mth = none) (hk : ∀ x, Keeps x (item x))
    (ws : List AV) (h : spRd W (some d) (fun x => manyR (item x) sep row x) ws S QA EA) : aSs (adOf K (tidyE S EA) { me := me, sp := [(1, spOf W row)] }) (rsMany mth sep) { nx := fun _ S' => tidyQ S QA (.pv .non) S', rt := tidyQ S QA } (envStart N_Reading_read_row ws) S := by
  obtain ⟨n, x, a, dn, rfl, he, hx, ha, hd, q⟩ := h
  show aSs (adOf K (tidyE S EA) { me := me, sp := [(1, spOf W row)] }) (rsMany mth sep) { nx := fun _ S' => tidyQ S QA (.pv .non) S', rt := tidyQ S QA } [some (.hnd n), some (.pv (.int ((10 : Int) - d))), none] S
  have q : match manyR (item x) sep row x a dn with
    | .ok t b m => QA (.pv (ob W t)) (S.set n (rdL W x b m))
    | .bad p => ∀ b m : Int, EA W.bw [(s_place, .int p)] (S.set n (rdL W x b m))
    | .out => False := q
  unfold manyR at q
  have key := hk x a dn ha hd
  have tid : ∀ (J : Sto) (b m : Int) (p : Nat), (∀ b m : Int, EA W.bw [(s_place, .int p)] (S.set n (rdL W x b m))) → tidyE S EA W.bw [(s_place, .int p)] (S.set n (rdL W x b m) ++ J) := fun J b m p h => ⟨S.set n (rdL W x b m), Drop.set rd_ok, h b m⟩
  have tid0 : ∀ (b m : Int) (p : Nat), (∀ b m : Int, EA W.bw [(s_place, .int p)] (S.set n (rdL W x b m))) → tidyE S EA W.bw [(s_place, .int p)] (S.set n (rdL W x b m)) := fun b m p h => by
    have z := tid [] b m p h
    rw [List.append_nil] at z
    exact z
  unfold rsMany
  unfold aSs
  walk_at "wr"
  simp only [hl, hm]
  walk_at "wr"
  refine ⟨n, x, a, dn, rfl, he, hx, ha, hd, ?_⟩
  cases er : item x a dn with
  | out => rw [er] at q; exact q
  | bad p =>
    rw [er] at q
    exact fun b m => tid0 b m p q
  | ok t b m =>
    rw [er] at q key
    dsimp only at q key ⊢
    refine ⟨by decide, ?_⟩
    obtain ⟨k1, k2, k3, k4, k5⟩ := key
    generalize hR : moreR (item x) sep row x 14 [t] b m = R at q
    unfold rsMany1 aSs aS
    have hX : ∀ b m : Int, (S.set n (rdL W x b m)).length = S.length := fun b m => List.length_set
    refine ⟨14, whN_inv (fun k σ S' => ∃ (ts : List Tr) (a' m' : Nat), σ = [some (.hnd n), some (.pv (.int ((10 : Int) - d))), some (.hnd S.length)] ∧ S' = S.set n (rdL W x a' m') ++ [SE.live (AO.lst ((obL W ts).map AV.pv))] ∧ a' ≤ x.length ∧ m' ≤ 12 ∧ m' = dn + stepsL ts ∧ (∀ t ∈ ts, Full t) ∧ moreR (item x) sep row x k ts a' m' = R) ?_ ?_ 14 _ _ ⟨[t], b, m, ?_, ?_, k2, k4, by rw [stepsL_one]; exact k3, fun u hu => by rw [List.mem_singleton.mp hu]; exact k5, hR⟩⟩
    · rintro σ S' ⟨ts, a', m', _, _, _, _, _, _, e⟩
      have e : PR.out = R := e
      rw [← e] at q
      exact q
    · rintro k σ S' N ⟨ts, a', m', rfl, rfl, h1, h2, h3, hf, e⟩ next
      have he0 := he
      have he : entL (S.set n (rdL W x a' m') ++ [SE.live (AO.lst ((obL W ts).map AV.pv))]) n = some (.ins W.rd (rdF x a' m')) := entL_old (rd_set he0)
      walk_at "wr"
      rw [sgn_is]
      have es : ∀ (b m c l : Int) (L : Sto), (S.set n (rdL W x b m) ++ L).set n (rdL W x c l) = S.set n (rdL W x c l) ++ L := by
        intro b m c l L
        rw [set_old (rd_set he0)]
        unfold rdL
        rw [set_set]
      by_cases hs : x[a']? = some sep
      · rw [decide_eq_true hs]
        walk_at "wr"
        refine ⟨rdF_len, ?_⟩
        rw [putA]
        have es1 : (S.set n (rdL W x a' m') ++ [SE.live (AO.lst ((obL W ts).map AV.pv))]).set n (SE.live (AO.ins W.rd (rdF x ((a' : Int) + 1) m'))) = S.set n (rdL W x ((a' + 1 : Nat) : Int) m') ++ [SE.live (AO.lst ((obL W ts).map AV.pv))] := es _ _ _ _ _
        have he : entL (S.set n (rdL W x ((a' + 1 : Nat) : Int) m') ++ [SE.live (AO.lst ((obL W ts).map AV.pv))]) n = some (.ins W.rd (rdF x ((a' + 1 : Nat) : Int) m')) := entL_old (rd_set he0)
        rw [es1, aTyM_hnd (entL_app (hX _ _)), insM_hnd he]
        simp only [hl, hm, true_and]
        refine ⟨n, x, a' + 1, m', rfl, he, hx, at_len hs, h2, ?_⟩
        unfold moreR at e
        rw [if_pos hs] at e
        have q2 := hk x (a' + 1) m' (at_len hs) h2
        cases er : item x (a' + 1) m' with
        | out => rw [er] at q2; exact q2.elim
        | bad p =>
          rw [er] at e
          dsimp only at e ⊢
          rw [← e] at q
          intro b m
          rw [es]
          exact tid _ b m p q
        | ok t b m =>
          rw [er] at e q2
          dsimp only at e q2 ⊢
          obtain ⟨k1, k2, k3, k4, k5⟩ := q2
          rw [es, aApp_hnd (entL_app (hX _ _)), set_app (hX _ _)]
          have hb := stepsL_big ts fun u hu => (hf u hu).one
          refine ⟨?_, next _ _ ⟨ts ++ [t], b, m, rfl, ?_, k2, k4, ?_, ?_, e⟩⟩
          · rw [List.length_map, obL_len]
            show _ < 16777216
            omega
          · rw [obL_app, List.map_append]
            rfl
          · rw [stepsL_app, stepsL_one]
            omega
          · exact fun u hu => (List.mem_append.mp hu).elim (hf u) fun z => by rw [List.mem_singleton.mp z]; exact k5
      · rw [decide_eq_false hs]
        simp only
        unfold moreR at e
        rw [if_neg hs] at e
        rw [← e] at q
        have ep : AO.pure (.lst ((obL W ts).map .pv)) = some (.lst (obL W ts)) := by
          show (pvs _).map PV.lst = _
          rw [pvs_map]
          rfl
        have hb := stepsL_big ts fun u hu => (hf u hu).one
        have hb2 := stepsL_big (flatK row ts) fun u hu => (flatK_full hf u hu).one
        rw [stepsL_flatK] at hb2
        unfold rsMany2
        walk_at "wr"
        simp only [entL_app (hX _ _), ep]
        walk_at "wr"
        refine ⟨ts, rfl, by omega, by omega, ?_⟩
        rw [set_app (hX _ _)]
        exact ⟨_, Drop.set rd_ok, trivial, q⟩
    · rw [hX]
    · rfl
end
end Q05
set_option Elab.async false
set_option autoImplicit false
set_option linter.all false
set_option maxRecDepth 100000
set_option maxHeartbeats 8000000
/-! Law k05: word_of. -/
namespace Q05
open PySem PySem.Spec PyProof.Rows L2 Rf K04
open Lean in
local macro_rules
  | `(tactic| walk_at "ab") => `(tactic| try simp only [aSs, aS, aE, aA, aO, aT, aC, aI, adOf_K, adOf_sp, adOf_gv, adOf_ex, adOf_me, adOf_mks, adOf_exi, adOf_W, blkA_K, blkA_sp, blkA_gv, blkA_me, blkA_mks, insM_ins, List.map_cons, List.map_nil, mk2,
      List.lookup_cons, List.lookup_nil, beq_self_eq_true, List.getElem?_cons_zero, List.getElem?_cons_succ, List.length_cons, List.length_nil, tl_sOf, sOf_tl, setEnv0, setEnvS, wipeA,
      aBin, aCmp, aBF, aTF, aBM, aAdd_int, aAdd_str, aAdd_lst, aMul_int, aMul_str, aI2_int, aOrd_int, aOrd_str, aEq_int, aEq_str, aEq_bl, aIs_bl, aIs_non, isNonA, aIn_sign, aIn_tup, aIn_lst, flatP, aIx_str, aIx_lst, aIx_tup, aSl_str, aNeg_int, aTr_non, aTr_bl, aTr_int, aTr_str, bl?_bl,
      aLen_str, aLen_lst, aLen_tup, aInt_int, aInt_bl, aListF_lst, aTupF_lst, alc_t, pvs_nil, pvs_cons, pvk_nil, pvk_cons, aTyM_str, aTyM_lst, BM.ty, lstB_pv, seqA_lst, seqA_tup, extA_lst, extA_tup, Option.map_some, Option.map_none, Option.bind_some, Bool.false_xor, Bool.true_xor, Bool.not_true, Bool.not_false, true_and, and_true, reduceCtorEq, if_true, if_false,
      entL_new0, entR_new0, entL_new, entR_new, entL_0, entR_0, entR_0k, set_new, set_new0, len_new, app_one])
open Lean in
local macro_rules
  | `(tactic| walk_at "w") => `(tactic| (walk_at "ab"; try simp only [ne_kb, ne_ps, ne_as, ne_ds, ne_da, fcst, fcrw, fcch, fcof, fcrd, fnk, fnb, fnr, fnc, fnp, fns, fn1, fn2, fn3, insM_ob, obF_st, obF_of, obF_nd, true_and, and_true]; walk_at "ab"))
open Lean in
local macro_rules
  | `(tactic| walk_at "wm") => do
    let mt := mkIdent `mt
    `(tactic| (walk_at "w"; try simp only [($mt).str, ($mt).txt, ($mt).stp, ($mt).non]; walk_at "w"))
open Lean in
local macro_rules
  | `(tactic| walk_at "wr") => do
    let he := mkIdent `he
    let hx := mkIdent `hx
    let mr := mkIdent `mr
    `(tactic| (walk_at "w"; try simp only [$he:term, insM_hnd $he, ns_eq $he $hx, rdF_s, rdF_a, rdF_d, rdF_n, rdF_w, rdF_o, rdF_b, rdF_p, rdF_c, ($mr).ns, true_and, and_true]; walk_at "w"))
def wordR (x : Cs) : PR := match chR x 10 0 0 with
  | .ok t b m => if b < x.length then .bad b else .ok t b m
  | r => r
def spWdT (W : Cl) : ASp := fun ws S Q E => ∃ x : Cs, ws = [.pv (.str x)] ∧ x.length ≤ 10000 ∧ (match wordR x with
  | .ok t _ _ => Q (.pv (ob W t)) S
  | .bad p => E W.bw [(s_place, .int p)] S
  | .out => False)
/-- also of what is no text -/
def spWd (W : Cl) (K : Fg) : ASp := fun ws S Q E => spWdT W ws S Q E ∨ ∃ (p : PV) (t : String), ws = [.pv p] ∧ tyA S (.pv p) = some (.ty t) ∧ PySem.W.kitOne K (.type t) (.type "str") = some false ∧ E W.bw [(s_place, .int 0)] S
theorem kit_ty {K : Fg} (n : String) : PySem.W.kitOne K (.type n) (.type n) = some true := by
  unfold PySem.W.kitOne
  rw [if_pos (beq_self_eq_true _)]
theorem isi_str {K : Fg} {x : Cs} {S : Sto} {Q : AQ} : aIsi K [.pv (.str x), .pv (.ty "str")] S Q = Q (.pv (.bl true)) S := by
  refine propext ⟨?_, fun q => ⟨trivial, true, kit_ty "str", q⟩⟩
  rintro ⟨_, b, e, q⟩
  have e : PySem.W.kitOne K (.type "str") (.type "str") = some b := e
  rw [kit_ty] at e
  cases e
  exact q
theorem isi_no {K : Fg} {p : PV} {t : String} {S : Sto} {Q : AQ} (ht : tyA S (.pv p) = some (.ty t)) (hk : PySem.W.kitOne K (.type t) (.type "str") = some false) (q : Q (.pv (.bl false)) S) : aIsi K [.pv p, .pv (.ty "str")] S Q := by
  show (match tyA S (.pv p), some (Value.type "str") with
    | some t, some u => tyC K t ∧ ∃ b, PySem.W.kitOne K t.val u = some b ∧ Q (.pv (.bl b)) S
    | _, _ => False)
  rw [ht]
  exact ⟨trivial, false, hk, q⟩
open Lean in
local macro_rules
  | `(tactic| walk_at "wa") => `(tactic| walk_at "w")
section
variable {K : Fg} {W : Cl} {EA : AEr} {QA : AQ} {S : Sto} [wf : Wf K W] {me : Addr → Str → Option (Nat × ASp)}
def agWd (W : Cl) (me : Addr → Str → Option (Nat × ASp)) : AG := { me := me, exi := [(W.bw, [s_place])], mks := [(W.rd, 2, spIni W.rd 1 iniRead)] }
theorem sem_word_ofT (mr : MrT W me) (hc : me W.rd s_read_choice = some (2, spRd W (some 10) (fun x => chR x 10))) (ws : List AV) (h : spWdT W ws S QA EA) : aSs (adOf K (tidyE S EA) (agWd W me)) rs_word_of { nx := fun _ S' => tidyQ S QA (.pv .non) S', rt := tidyQ S QA } (envStart N_word_of ws) S := by
  obtain ⟨x, rfl, hx, q⟩ := h
  show aSs (adOf K (tidyE S EA) (agWd W me)) rs_word_of { nx := fun _ S' => tidyQ S QA (.pv .non) S', rt := tidyQ S QA } [some (.pv (.str x)), none, none] S
  rw [rs_word_of_cut]
  unfold agWd rt_word_of_0 rh_word_of_0
  walk_at "wr"
  rw [isi_str]
  walk_at "wr"
  unfold rt_word_of_1 rh_word_of_1
  walk_at "wr"
  refine mk_iniH (fs := rdF x 0 0) rfl rfl ?_
  have he0 : entL (S ++ [SE.live (AO.ins W.rd (rdF x 0 0))]) S.length = some (.ins W.rd (rdF x 0 0)) := entL_app rfl
  have he := he0
  unfold rt_word_of_2 rh_word_of_2
  walk_at "wr"
  simp only [hc]
  walk_at "wr"
  refine ⟨S.length, x, 0, 0, rfl, he, hx, Nat.zero_le _, by decide, ?_⟩
  have key := chR_keeps x 10 0 0 (Nat.zero_le _) (by decide)
  unfold wordR at q
  dsimp only
  cases er : chR x 10 0 0 with
  | out => rw [er] at q; exact q
  | bad p =>
    rw [er] at q
    dsimp only at q ⊢
    intro b m
    rw [set_new0]
    exact ⟨S, Drop.app S _, q⟩
  | ok t b m =>
    rw [er] at q key
    dsimp only at q ⊢
    rw [set_new0]
    have he : entL (S ++ [rdL W x b m]) S.length = some (.ins W.rd (rdF x b m)) := entL_app rfl
    show aSs _ rt_word_of_3 _ [some (.pv (.str x)), some (.hnd S.length), some (.pv (ob W t))] (S ++ [rdL W x b m])
    unfold rt_word_of_3 rh_word_of_3
    walk_at "wr"
    refine ⟨Nat.le_trans hx (by decide), ?_⟩
    by_cases hb : b < x.length
    · rw [if_pos hb] at q
      rw [decide_eq_true (by omega)]
      walk_at "wr"
      exact ⟨by decide, S, Drop.app S _, q⟩
    · rw [if_neg hb] at q
      rw [decide_eq_false (by omega)]
      walk_at "wr"
      unfold rt_word_of_4 rh_word_of_4
      walk_at "wr"
      exact ⟨S, Drop.app S _, trivial, q⟩
theorem sem_word_of (mr : MrT W me) (hc : me W.rd s_read_choice = some (2, spRd W (some 10) (fun x => chR x 10))) (ws : List AV) (h : spWd W K ws S QA EA) : aSs (adOf K (tidyE S EA) (agWd W me)) rs_word_of { nx := fun _ S' => tidyQ S QA (.pv .non) S', rt := tidyQ S QA } (envStart N_word_of ws) S := by
  rcases h with h | ⟨p, t, rfl, ht, hk, q⟩
  · exact sem_word_ofT mr hc ws h
  · show aSs (adOf K (tidyE S EA) (agWd W me)) rs_word_of { nx := fun _ S' => tidyQ S QA (.pv .non) S', rt := tidyQ S QA } [some (.pv p), none, none] S
    rw [rs_word_of_cut]
    unfold agWd rt_word_of_0 rh_word_of_0
    walk_at "wa"
    refine isi_no ht hk ?_
    walk_at "wa"
    refine ⟨by decide, S, ?_, q⟩
    have z := Drop.app S []
    rw [List.append_nil] at z
    exact z
end
end Q05
set_option Elab.async false
set_option autoImplicit false
set_option linter.all false
set_option maxRecDepth 100000
set_option maxHeartbeats 8000000
/-! Law k05: what is written so is read. -/
namespace Q05
open PySem PySem.Spec PyProof.Rows L2 Rf K04
theorem drop_at {y : Cs} {a c : Nat} {r : Cs} (h : y.drop a = c :: r) : y[a]? = some c := by
  have e : (y.drop a)[0]? = some c := by rw [h]; rfl
  rw [List.getElem?_drop] at e
  exact e
theorem drop_end {y : Cs} {a : Nat} (h : y.drop a = []) : y[a]? = none := by
  have e : (y.drop a)[0]? = none := by rw [h]; rfl
  rw [List.getElem?_drop] at e
  exact e
theorem drop_one {y : Cs} {a c : Nat} {r : Cs} (h : y.drop a = c :: r) : y.drop (a + 1) = r := by
  rw [← List.drop_drop, h]
  rfl
theorem drop_more {y : Cs} {a : Nat} {x r : Cs} (h : y.drop a = x ++ r) : y.drop (a + x.length) = r := by
  rw [← List.drop_drop, h, List.drop_left]
/-- what may stand behind -/
def NX (l : Nat) (p : Cs) : Prop := ∀ c r, p = c :: r → letB c = false ∧ (l ≤ 2 → c ≠ 42 ∧ c ≠ 43 ∧ c ≠ 63) ∧ (l ≤ 1 → c ≠ 46) ∧ (l = 0 → c ≠ 124)
theorem NX.up {l m : Nat} {p : Cs} (h : NX l p) (hm : l ≤ m) : NX m p := fun c r e => by
  obtain ⟨h1, h2, h3, h4⟩ := h c r e
  exact ⟨h1, fun z => h2 (by omega), fun z => h3 (by omega), fun z => h4 (by omega)⟩
def atR (y : Cs) (D a n : Nat) : PR := if y[a]? = some 40 then brR y D a n else rdStep y a n
def lvl (l : Nat) (y : Cs) (D : Nat) : Nat → Nat → PR := match l with
  | 3 => atR y D
  | 2 => ofR y D
  | 1 => rwR y D
  | _ => chR y D
def rests (c : Nat) (xs : List Cs) : Cs := xs.flatMap (c :: ·)
theorem glue_rests (c : Nat) : ∀ (x : Cs) (xs : List Cs), glue c (x :: xs) = x ++ rests c xs
  | x, [] => by unfold glue rests; simp
  | x, u :: r => by
    unfold glue
    rw [glue_rests c u r]
    unfold rests
    rw [List.flatMap_cons]
    simp
theorem letters_run {y k post : Cs} {first : Nat} (hd : y.drop first = k ++ post) (hk : k.length ≤ 8) (hl : ∀ c ∈ k, 97 ≤ c ∧ c ≤ 122) (hp : NX 3 post) : ∀ (j f : Nat), j ≤ k.length → k.length - j < f → letters y first f (first + j) = some (first + k.length)
  | j, 0, _, h => absurd h (Nat.not_lt_zero _)
  | j, f + 1, hj, h => by
    have e : y[first + j]? = (k ++ post)[j]? := by rw [← hd, List.getElem?_drop]
    unfold letters
    rw [e]
    by_cases hh : j < k.length
    · rw [List.getElem?_append_left hh, List.getElem?_eq_getElem hh]
      dsimp only
      have hz := hl k[j] (List.getElem_mem hh)
      rw [if_pos (by unfold letB; rw [decide_eq_true hz.1, decide_eq_true hz.2]; rfl), if_neg (by omega)]
      exact letters_run hd hk hl hp (j + 1) f (by omega) (by omega)
    · have hj2 : j = k.length := by omega
      subst hj2
      rw [List.getElem?_append_right (Nat.le_refl _), Nat.sub_self]
      cases post with
      | nil => rfl
      | cons c r =>
        show (if letB c = true then _ else some (first + k.length)) = _
        rw [if_neg (by rw [(hp c r rfl).1]; decide)]
theorem rd_step {y k post : Cs} {b : Bool} {a n D : Nat} (h1 : 1 ≤ k.length) (h8 : k.length ≤ 8) (hl : ∀ c ∈ k, 97 ≤ c ∧ c ≤ 122) (hd : y.drop a = ((if b = true then [45] else []) ++ k) ++ post) (hn : n + 1 ≤ 12) (hp : NX 3 post) :
    atR y D a n = .ok (.step k b) (a + ((if b = true then [45] else []) ++ k).length) (n + 1) := by
  obtain ⟨c0, k0, rfl⟩ : ∃ c r, k = c :: r := by
    cases k with
    | nil => exact absurd h1 (by decide)
    | cons c r => exact ⟨c, r, rfl⟩
  have hc0 := hl c0 (List.mem_cons_self ..)
  have hb : letB c0 = true := by unfold letB; rw [decide_eq_true hc0.1, decide_eq_true hc0.2]; rfl
  have go : ∀ first : Nat, y.drop first = (c0 :: k0) ++ post → (match letters y first 10 first with
      | none => PR.out
      | some b' => if b' - first = 9 then PR.bad (first + 8) else if b' = first then PR.bad first else .ok (.step ((y.drop first).take (b' - first)) b) b' (n + 1)) = .ok (.step (c0 :: k0) b) (first + (c0 :: k0).length) (n + 1) := by
    intro first hf
    have e := letters_run hf h8 hl hp 0 10 (Nat.zero_le _) (by omega)
    rw [Nat.add_zero] at e
    rw [e]
    dsimp only
    have hlen : (c0 :: k0).length = k0.length + 1 := rfl
    rw [if_neg (by omega), if_neg (by omega), Nat.add_sub_cancel_left, hf, List.take_left]
  unfold atR
  cases b with
  | true =>
    have ha : y[a]? = some 45 := drop_at (r := (c0 :: k0) ++ post) (by rw [hd]; rfl)
    rw [if_neg (by rw [ha]; decide)]
    unfold rdStep
    rw [ha]
    dsimp only
    rw [if_neg (by rintro (⟨h, _⟩ | h); exact absurd h (by decide); omega)]
    have e : (if decide (some 45 = some (45 : Nat)) = true then a + 1 else a) = a + 1 := by rw [decide_eq_true rfl]; rfl
    simp only [e]
    have z := go (a + 1) (drop_one (c := 45) (by rw [hd]; rfl))
    have e2 : a + (([45] : Cs) ++ (c0 :: k0)).length = a + 1 + (c0 :: k0).length := by simp; omega
    simp only [if_true]
    rw [e2, ← z]
    rfl
  | false =>
    have ha : y[a]? = some c0 := drop_at (r := k0 ++ post) (by rw [hd]; rfl)
    rw [if_neg (by rw [ha]; intro z; cases z; omega)]
    unfold rdStep
    rw [ha]
    have e45 : decide (some c0 = some 45) = false := decide_eq_false (by intro z; cases z; omega)
    simp only [e45]
    rw [if_neg (by rintro (⟨_, h⟩ | h); exact h hb; omega)]
    have z := go a hd
    simp only [Bool.false_eq_true, if_false, List.nil_append]
    exact z
theorem rests_nx {l sep : Nat} {xs : List Cs} {post : Cs} (hl : letB sep = false) (hm : (l ≤ 2 → sep ≠ 42 ∧ sep ≠ 43 ∧ sep ≠ 63) ∧ (l ≤ 1 → sep ≠ 46) ∧ (l = 0 → sep ≠ 124)) (hp : NX l post) : NX l (rests sep xs ++ post) := by
  cases xs with
  | nil => exact hp
  | cons x xs =>
    intro c r e
    unfold rests at e
    rw [List.flatMap_cons] at e
    cases e
    exact ⟨hl, hm⟩
theorem TxL_ne {l d : Nat} {xs : List Cs} {ts : List Tr} (h : TxL l d xs ts) (ne : xs ≠ []) : ts ≠ [] := by
  intro e
  subst e
  cases h
  exact ne rfl
mutual
theorem Tx_full : ∀ {l d : Nat} {x : Cs} {t : Tr}, Tx l d x t → Full t
  | _, _, _, _, .step _ _ _ => .step
  | _, _, _, _, .brk h => Tx_full h
  | _, _, _, _, .atom h => Tx_full h
  | _, _, _, _, .oft h _ => .oft (Tx_full h)
  | _, _, _, _, .row h ne => joinT_full (TxL_full h) (TxL_ne h ne)
  | _, _, _, _, .choice h ne => joinT_full (TxL_full h) (TxL_ne h ne)
theorem TxL_full : ∀ {l d : Nat} {xs : List Cs} {ts : List Tr}, TxL l d xs ts → ∀ t ∈ ts, Full t
  | _, _, _, _, .nil => fun _ h => nomatch h
  | _, _, _, _, .cons h hs => List.forall_mem_cons.mpr ⟨Tx_full h, TxL_full hs⟩
end
mutual
theorem rd_ok2 : ∀ {l d : Nat} {x : Cs} {t : Tr}, Tx l d x t → ∀ (y : Cs) (a n D : Nat) (post : Cs), d ≤ D → y.drop a = x ++ post → n + t.steps ≤ 12 → NX l post → lvl l y D a n = .ok t (a + x.length) (n + t.steps)
  | _, _, _, _, .step h1 h8 hl, y, a, n, D, post, hD, hd, hn, hp => by
    rw [steps_step] at hn ⊢
    exact rd_step h1 h8 hl hd hn hp
  | _, _, _, _, .brk (d := d) (x := x) (t := t) h, y, a, n, D, post, hD, hd, hn, hp => by
    obtain ⟨D', rfl⟩ : ∃ D', D = D' + 1 := ⟨D - 1, by omega⟩
    have ha : y[a]? = some 40 := drop_at (r := (x ++ [41]) ++ post) (by rw [hd]; rfl)
    show atR y (D' + 1) a n = _
    unfold atR
    rw [if_pos ha, brR_succ, if_pos ha]
    unfold brackR
    have hd1 : y.drop (a + 1) = x ++ (41 :: post) := by
      rw [drop_one (c := 40) (r := (x ++ [41]) ++ post) (by rw [hd]; rfl)]
      simp
    have ih := rd_ok2 h y (a + 1) n D' (41 :: post) (by omega) hd1 hn (fun c r e => by cases e; exact ⟨rfl, fun _ => by decide, fun _ => by decide, fun _ => by decide⟩)
    have ih : chR y D' (a + 1) n = .ok t (a + 1 + x.length) (n + t.steps) := ih
    rw [ih]
    dsimp only
    rw [if_pos (drop_at (drop_more hd1))]
    congr 1
    simp
    omega
  | _, _, _, _, .atom (x := x) (t := t) h, y, a, n, D, post, hD, hd, hn, hp => by
    have ih := rd_ok2 h y a n D post hD hd hn (hp.up (by decide))
    have ih : atR y D a n = .ok t (a + x.length) (n + t.steps) := ih
    show ofR y D a n = _
    unfold ofR oftenR
    unfold atR at ih
    rw [ih]
    dsimp only
    have hq := drop_more hd
    cases post with
    | nil => rw [drop_end hq]
    | cons c r =>
      rw [drop_at hq]
      have z := (hp c r rfl).2.1 (by decide)
      dsimp only
      rw [if_neg (by rintro (e | e | e); exact z.1 e; exact z.2.1 e; exact z.2.2 e)]
  | _, _, _, _, .oft (x := x) (t := t) (s := s) h hs, y, a, n, D, post, hD, hd, hn, hp => by
    rw [steps_oft] at hn ⊢
    have hd1 : y.drop a = x ++ (s :: post) := by rw [hd]; simp
    have ih := rd_ok2 h y a n D (s :: post) hD hd1 hn (fun c r e => by cases e; refine ⟨by rcases hs with e | e | e <;> (subst e; rfl), fun z => absurd z (by decide), fun z => absurd z (by decide), fun z => absurd z (by decide)⟩)
    have ih : atR y D a n = .ok t (a + x.length) (n + t.steps) := ih
    show ofR y D a n = _
    unfold ofR oftenR
    unfold atR at ih
    rw [ih]
    dsimp only
    rw [drop_at (drop_more hd1)]
    dsimp only
    rw [if_pos hs, List.length_append]
    rfl
  | _, _, _, _, .row (.cons (x := x) (xs := xs) (t := t) (ts := ts) h hs) _, y, a, n, D, post, hD, hd, hn, hp => by
    rw [joinT_steps, stepsL_cons] at hn ⊢
    rw [glue_rests] at hd ⊢
    have hd1 : y.drop a = x ++ (rests 46 xs ++ post) := by rw [hd, List.append_assoc]
    have hb := stepsL_big ts fun u hu => (TxL_full hs u hu).one
    have ih := rd_ok2 h y a n D (rests 46 xs ++ post) hD hd1 (by omega) (rests_nx (by decide) (by decide) (hp.up (by decide)))
    have ih : ofR y D a n = .ok t (a + x.length) (n + t.steps) := ih
    show manyR (ofR y D) 46 true y a n = _
    unfold manyR
    rw [ih]
    dsimp only
    have z := rests_ok hs 46 true y (a + x.length) (n + t.steps) D post [t] 14 hD (drop_more hd1) (by omega) (hp.up (by decide)) (fun r e => ((hp 46 r e).2.2.1 (by decide)) rfl) (by decide) (by decide) (by omega)
    have z : moreR (ofR y D) 46 true y 14 [t] (a + x.length) (n + t.steps) = _ := z
    rw [z, List.length_append]
    congr 1 <;> omega
  | _, _, _, _, .choice (.cons (x := x) (xs := xs) (t := t) (ts := ts) h hs) _, y, a, n, D, post, hD, hd, hn, hp => by
    rw [joinT_steps, stepsL_cons] at hn ⊢
    rw [glue_rests] at hd ⊢
    have hd1 : y.drop a = x ++ (rests 124 xs ++ post) := by rw [hd, List.append_assoc]
    have hb := stepsL_big ts fun u hu => (TxL_full hs u hu).one
    have ih := rd_ok2 h y a n D (rests 124 xs ++ post) hD hd1 (by omega) (rests_nx (by decide) (by decide) (hp.up (by decide)))
    have ih : rwR y D a n = .ok t (a + x.length) (n + t.steps) := ih
    show manyR (rwR y D) 124 false y a n = _
    unfold manyR
    rw [ih]
    dsimp only
    have z := rests_ok hs 124 false y (a + x.length) (n + t.steps) D post [t] 14 hD (drop_more hd1) (by omega) (hp.up (by decide)) (fun r e => ((hp 124 r e).2.2.2 rfl) rfl) (by decide) (by decide) (by omega)
    have z : moreR (rwR y D) 124 false y 14 [t] (a + x.length) (n + t.steps) = _ := z
    rw [z, List.length_append]
    congr 1 <;> omega
theorem rests_ok : ∀ {l d : Nat} {xs : List Cs} {ts : List Tr}, TxL l d xs ts → ∀ (sep : Nat) (row : Bool) (y : Cs) (a n D : Nat) (post : Cs) (acc : List Tr) (f : Nat), d ≤ D → y.drop a = rests sep xs ++ post → n + stepsL ts ≤ 12 → NX l post → (∀ r, post = sep :: r → False) → letB sep = false → ((l ≤ 2 → sep ≠ 42 ∧ sep ≠ 43 ∧ sep ≠ 63) ∧ (l ≤ 1 → sep ≠ 46) ∧ (l = 0 → sep ≠ 124)) → ts.length < f →
    moreR (lvl l y D) sep row y f acc a n = .ok (joinT row (acc ++ ts)) (a + (rests sep xs).length) (n + stepsL ts)
  | _, _, _, _, .nil, sep, row, y, a, n, D, post, acc, f, hD, hd, hn, hp, hq, _, _, hf => by
    obtain ⟨f', rfl⟩ : ∃ f', f = f' + 1 := ⟨f - 1, by omega⟩
    unfold moreR
    have hne : ¬ y[a]? = some sep := by
      cases post with
      | nil => rw [drop_end (by rw [hd]; rfl)]; intro z; cases z
      | cons c r => rw [drop_at (r := r) (by rw [hd]; rfl)]; intro z; cases z; exact hq r rfl
    rw [if_neg hne, stepsL_nil, List.append_nil]
    rfl
  | l, _, _, _, .cons (x := x) (xs := xs) (t := t) (ts := ts) h hs, sep, row, y, a, n, D, post, acc, f, hD, hd, hn, hp, hq, hl, hm, hf => by
    obtain ⟨f', rfl⟩ : ∃ f', f = f' + 1 := ⟨f - 1, by omega⟩
    rw [stepsL_cons] at hn ⊢
    have er : rests sep (x :: xs) = sep :: (x ++ rests sep xs) := by unfold rests; rw [List.flatMap_cons]; rfl
    rw [er] at hd ⊢
    have ha : y[a]? = some sep := drop_at (r := (x ++ rests sep xs) ++ post) (by rw [hd]; rfl)
    have hd1 : y.drop (a + 1) = x ++ (rests sep xs ++ post) := by
      rw [drop_one (c := sep) (r := (x ++ rests sep xs) ++ post) (by rw [hd]; rfl), List.append_assoc]
    unfold moreR
    rw [if_pos ha]
    have ih := rd_ok2 h y (a + 1) n D (rests sep xs ++ post) hD hd1 (by omega) (rests_nx hl hm hp)
    rw [ih]
    dsimp only
    have z := rests_ok hs sep row y (a + 1 + x.length) (n + t.steps) D post (acc ++ [t]) f' hD (drop_more hd1) (by omega) hp hq hl hm (by rw [List.length_cons] at hf; omega)
    rw [z, List.append_assoc]
    simp only [List.length_cons, List.length_append, List.singleton_append]
    congr 1 <;> omega
end
/-- a whole text -/
theorem word_ok {x : Cs} {t : Tr} {d : Nat} (h : Tx 0 d x t) (hd : d ≤ 10) (hn : t.steps ≤ 12) : wordR x = .ok t x.length t.steps := by
  have z := rd_ok2 h x 0 0 10 [] hd (by rw [List.append_nil]; rfl) (by omega) (fun c r e => by cases e)
  have z : chR x 10 0 0 = .ok t (0 + x.length) (0 + t.steps) := z
  unfold wordR
  rw [z]
  dsimp only
  rw [Nat.zero_add, Nat.zero_add, if_neg (Nat.lt_irrefl _)]
end Q05
set_option Elab.async false
set_option autoImplicit false
set_option linter.all false
set_option maxRecDepth 100000
set_option maxHeartbeats 8000000
/-! Law k05: the law's own draws. -/
namespace Q05
open PySem PySem.Spec PyProof.Rows PySem.Builtin.Int L2 Rf K04 HT
open Lean in
local macro_rules
  | `(tactic| walk_at "ab") => `(tactic| try simp only [aSs, aS, aE, aA, aO, aT, aC, aI, adOf_K, adOf_sp, adOf_gv, adOf_ex, adOf_me, adOf_mks, adOf_exi, adOf_W, blkA_K, blkA_sp, blkA_gv, blkA_me, blkA_mks, insM_ins, List.map_cons, List.map_nil, mk2,
      List.lookup_cons, List.lookup_nil, beq_self_eq_true, List.getElem?_cons_zero, List.getElem?_cons_succ, List.length_cons, List.length_nil, tl_sOf, sOf_tl, setEnv0, setEnvS, wipeA,
      aBin, aCmp, aBF, aTF, aBM, aAdd_int, aAdd_str, aAdd_lst, aMul_int, aMul_str, aI2_int, aOrd_int, aOrd_str, aEq_int, aEq_str, aEq_bl, aIs_bl, aIs_non, isNonA, aIn_sign, aIn_tup, aIn_lst, flatP, aIx_str, aIx_lst, aIx_tup, aSl_str, aNeg_int, aTr_non, aTr_bl, aTr_int, aTr_str, bl?_bl,
      aLen_str, aLen_lst, aLen_tup, aInt_int, aInt_bl, aListF_lst, aTupF_lst, alc_t, pvs_nil, pvs_cons, pvk_nil, pvk_cons, aTyM_str, aTyM_lst, BM.ty, lstB_pv, seqA_lst, seqA_tup, extA_lst, extA_tup, Option.map_some, Option.map_none, Option.bind_some, Bool.false_xor, Bool.true_xor, Bool.not_true, Bool.not_false, true_and, and_true, reduceCtorEq, if_true, if_false,
      entL_new0, entR_new0, entL_new, entR_new, entL_0, entR_0, entR_0k, set_new, set_new0, len_new, app_one])
open Lean in
local macro_rules
  | `(tactic| walk_at "w") => `(tactic| (walk_at "ab"; try simp only [ne_kb, ne_ps, ne_as, ne_ds, ne_da, fcst, fcrw, fcch, fcof, fcrd, fnk, fnb, fnr, fnc, fnp, fns, fn1, fn2, fn3, insM_ob, obF_st, obF_of, obF_nd, true_and, and_true]; walk_at "ab"))
open Lean in
local macro_rules
  | `(tactic| walk_at "wm") => do
    let mt := mkIdent `mt
    `(tactic| (walk_at "w"; try simp only [($mt).str, ($mt).txt, ($mt).stp, ($mt).non]; walk_at "w"))
def wStep : Cs := [115, 116, 101, 112]
def wOft : Cs := [111, 102, 116, 101, 110]
def wRow : Cs := [114, 111, 119]
def wCho : Cs := [99, 104, 111, 105, 99, 101]
mutual
/-- the law's tuples -/
def tp : Tr → PV
  | .step k b => .tup [.str wStep, .str k, .bl b]
  | .often t s => .tup [.str wOft, tp t, .str [s]]
  | .node row ts => .tup [.str (if row = true then wRow else wCho), .tup (tpL ts)]
def tpL : List Tr → List PV
  | [] => []
  | t :: r => tp t :: tpL r
end
theorem tpL_map : ∀ ts : List Tr, tpL ts = ts.map tp
  | [] => rfl
  | t :: r => by unfold tpL; rw [List.map_cons, tpL_map r]
theorem tpL_len (ts : List Tr) : (tpL ts).length = ts.length := by rw [tpL_map, List.length_map]
def stD (c a l : Int) : AO := .dic [(.inr [99, 101, 108, 108], .pv (.int c)), (.inr [97, 116], .pv (.int a)), (.inr [108, 101, 102, 116], .pv (.int l))]
def Sm (c : Int) : Prop := intBits c ≤ 1048600
theorem put_at {c a l b : Int} : putL (κ := KC) [(.inr [99, 101, 108, 108], AV.pv (.int c)), (.inr [97, 116], .pv (.int a)), (.inr [108, 101, 102, 116], .pv (.int l))] (.inr [97, 116]) (.pv (.int b)) = [(.inr [99, 101, 108, 108], AV.pv (.int c)), (.inr [97, 116], .pv (.int b)), (.inr [108, 101, 102, 116], .pv (.int l))] := rfl
theorem put_left {c a l b : Int} : putL (κ := KC) [(.inr [99, 101, 108, 108], AV.pv (.int c)), (.inr [97, 116], .pv (.int a)), (.inr [108, 101, 102, 116], .pv (.int l))] (.inr [108, 101, 102, 116]) (.pv (.int b)) = [(.inr [99, 101, 108, 108], AV.pv (.int c)), (.inr [97, 116], .pv (.int a)), (.inr [108, 101, 102, 116], .pv (.int b))] := rfl
section
variable {S : Sto} {h : Nat} {c a l : Int} {Q : AQ}
theorem d_at (he : entL S h = some (stD c a l)) : aIx (.hnd h) (.pv (.str [97, 116])) S Q = Q (.pv (.int a)) S := by rw [aIx_hdic (k := .inr [97, 116]) (entR_of he) rfl]; rfl
theorem d_cell (he : entL S h = some (stD c a l)) : aIx (.hnd h) (.pv (.str [99, 101, 108, 108])) S Q = Q (.pv (.int c)) S := by rw [aIx_hdic (k := .inr [99, 101, 108, 108]) (entR_of he) rfl]; rfl
theorem d_left (he : entL S h = some (stD c a l)) : aIx (.hnd h) (.pv (.str [108, 101, 102, 116])) S Q = Q (.pv (.int l)) S := by rw [aIx_hdic (k := .inr [108, 101, 102, 116]) (entR_of he) rfl]; rfl
end
theorem atI_nat {α : Type} {xs : List α} {k : Nat} (h : k < xs.length) : atI xs (k : Int) = xs[k]? := by
  unfold atI ixN
  rw [if_pos (by omega), if_pos (by omega)]
  rfl
def spMix : ASp := fun ws S Q _ => ∃ c k : Int, ws = [.pv (.int c), .pv (.int k)] ∧ Sm c ∧ 0 ≤ k ∧ k ≤ 10000000 ∧ Q (.pv (.int (drawn c k))) S
def spCell : ASp := fun ws S Q _ => ∃ (n : Nat) (ns : List Int) (k : Nat), ws = [.hnd n, .pv (.int k)] ∧ entR S n = some (.lst (ns.map fun z => .pv (.int z))) ∧ Q (.pv (.int (ns.getD k 0))) S
def spDr : ASp := fun ws S Q _ => ∃ (h : Nat) (c a l : Int), ws = [.hnd h] ∧ entL S h = some (stD c a l) ∧ Sm c ∧ 0 ≤ a ∧ a ≤ 1000000 ∧ Q (.pv (.int (drawn c (a + 1)))) (S.set h (.live (stD c (a + 1) l)))
def spKind : ASp := fun ws S Q _ => ∃ n : Int, ws = [.pv (.int n)] ∧ 0 ≤ n ∧ n < 2147483647 ∧ Q (.pv (.str (kindOf n))) S
section
variable {K : Fg} {W : Cl} {EA : AEr} {QA : AQ} {S : Sto} {me : Addr → Str → Option (Nat × ASp)}
theorem sem_mixed (ws : List AV) (h : spMix ws S QA EA) : aSs (adOf K EA {}) rs_law_mixed { nx := fun _ S' => QA (.pv .non) S', rt := QA } (envStart N_law_mixed ws) S := by
  obtain ⟨c, k, rfl, hc, hk0, hk, q⟩ := h
  show aSs (adOf K EA {}) rs_law_mixed { nx := fun _ S' => QA (.pv .non) S', rt := QA } [some (.pv (.int c)), some (.pv (.int k)), none] S
  unfold rs_law_mixed
  have b1 : intBits (7919 * k) ≤ 64 := intBits_le_64 (by omega) (by omega)
  have b2 : intBits (c + 7919 * k + 3) ≤ 1048602 := bits_add (m := 1048601) (n := 64) (bits_add (m := 1048600) (n := 64) hc b1) (by decide +kernel)
  walk_at "ab"
  refine ⟨.l (by decide), ?_⟩
  refine ⟨mulOk_of_bits b2 b2 (by decide), ?_⟩
  refine ⟨by decide, .r (by decide), by decide, ?_⟩
  exact q
theorem sem_cell (ws : List AV) (h : spCell ws S QA EA) : aSs (adOf K EA {}) rs_law_cell_at { nx := fun _ S' => QA (.pv .non) S', rt := QA } (envStart N_law_cell_at ws) S := by
  obtain ⟨n, ns, k, rfl, he, q⟩ := h
  show aSs (adOf K EA {}) rs_law_cell_at { nx := fun _ S' => QA (.pv .non) S', rt := QA } [some (.hnd n), some (.pv (.int k))] S
  unfold rs_law_cell_at
  walk_at "ab"
  rw [aLen_hlst he]
  walk_at "ab"
  rw [List.length_map]
  by_cases hk : k < ns.length
  · rw [decide_eq_true (by omega)]
    walk_at "ab"
    rw [aIx_hlst he]
    have e : atI (ns.map fun z => AV.pv (.int z)) (k : Int) = some (.pv (.int (ns.getD k 0))) := by
      rw [atI_nat (by simpa using hk), List.getElem?_map, List.getElem?_eq_getElem hk, List.getD_eq_getElem?_getD, List.getElem?_eq_getElem hk]
      rfl
    rw [e]
    exact q
  · rw [decide_eq_false (by omega)]
    walk_at "ab"
    rw [List.getD_eq_getElem?_getD, List.getElem?_eq_none (by omega)] at q
    exact q
theorem sem_draw (ws : List AV) (h : spDr ws S QA EA) : aSs (adOf K EA { sp := [(2, spMix)] }) rs_law_draw { nx := fun _ S' => QA (.pv .non) S', rt := QA } (envStart N_law_draw ws) S := by
  obtain ⟨h, c, a, l, rfl, he, hc, ha0, ha, q⟩ := h
  show aSs (adOf K EA { sp := [(2, spMix)] }) rs_law_draw { nx := fun _ S' => QA (.pv .non) S', rt := QA } [some (.hnd h)] S
  unfold rs_law_draw
  walk_at "ab"
  simp only [d_at he]
  walk_at "ab"
  simp only [he, stD, keyO]
  refine ⟨by show 3 < 16777216; decide, ?_⟩
  rw [put_at]
  have he2 : entL (S.set h (.live (stD c (a + 1) l))) h = some (stD c (a + 1) l) := entL_set he
  show aIx (.hnd h) (.pv (.str [99, 101, 108, 108])) (S.set h (.live (stD c (a + 1) l))) _
  rw [d_cell he2, d_at he2]
  exact ⟨c, a + 1, rfl, hc, by omega, by omega, q⟩
theorem join_signs {α : Type} (g : α → Nat) : ∀ l : List α, joinC [] (l.map fun j => [g j]) = l.map g
  | [] => rfl
  | [_] => rfl
  | a :: b :: r => by
    have ih := join_signs g (b :: r)
    rw [List.map_cons, List.map_cons] at ih ⊢
    show [g a] ++ ([] ++ joinC [] ([g b] :: r.map fun j => [g j])) = _
    rw [ih]
    rfl
theorem strs_signs {α : Type} (g : α → Nat) (l : List α) : strsP ((l.map fun j => PV.str [g j]).map AV.pv) = some (l.map fun j => [g j]) := by
  have e : (l.map fun j => PV.str [g j]).map AV.pv = (l.map fun j => [g j]).map fun b => AV.pv (.str b) := by
    rw [List.map_map, List.map_map]
    rfl
  rw [e]
  exact strsP_map _
theorem sum_ones {α : Type} (g : α → Nat) : ∀ l : List α, ((l.map fun j => [g j]).map List.length).sum = l.length
  | [] => rfl
  | a :: r => by
    rw [List.map_cons, List.map_cons, List.sum_cons, sum_ones g r, List.length_cons, List.length_cons, List.length_nil]
    omega
theorem sem_kind (ws : List AV) (h : spKind ws S QA EA) : aSs (adOf K EA {}) rs_law_kind { nx := fun _ S' => QA (.pv .non) S', rt := QA } (envStart N_law_kind ws) S := by
  obtain ⟨n, rfl, h0, h1, q⟩ := h
  show aSs (adOf K EA {}) rs_law_kind { nx := fun _ S' => QA (.pv .non) S', rt := QA } [some (.pv (.int n)), none, none] S
  unfold rs_law_kind
  walk_at "ab"
  refine ⟨by decide, ⟨by omega, by omega⟩, by simp, ?_⟩
  refine lc_map (S := S) (fun i : Nat => AV.pv (.int ((0 : Int) + (i : Nat)))) (fun j : Nat => .str [ABC.getD ((n / 8 + (j : Int) * (1 + n / 208 % 25)) % 26).toNat 0]) trivial (fun σ R => rfl) (List.range (1 + n % 8).toNat) [] (by simp; omega) (fun i hi R hR => ⟨_, rfl, ?_⟩) ?_
  · have hi := List.mem_range.mp hi
    walk_at "ab"
    refine ⟨⟨by decide, by decide⟩, ⟨by decide, by decide⟩, by decide, IMul.l (by omega), by decide, ?_⟩
    have g1 := Int.emod_nonneg (n / 8 + (i : Int) * (1 + n / 208 % 25)) (show (26 : Int) ≠ 0 by decide)
    have g2 := Int.emod_lt_of_pos (n / 8 + (i : Int) * (1 + n / 208 % 25)) (show (0 : Int) < 26 by decide)
    rw [Int.zero_add]
    have e : (n / 8 + (i : Int) * (1 + n / 208 % 25)) % 26 = (((n / 8 + (i : Int) * (1 + n / 208 % 25)) % 26).toNat : Int) := (Int.toNat_of_nonneg g1).symm
    refine ⟨by decide, ?_⟩
    generalize hz : ((n / 8 + (i : Int) * (1 + n / 208 % 25)) % 26).toNat = z at e hR
    rw [e]
    have hz26 : z < 26 := by omega
    have ea : atI ABC (z : Int) = some (ABC.getD z 0) := by
      rw [atI_nat (by simpa [ABC] using hz26), List.getD_eq_getElem?_getD, List.getElem?_eq_getElem (by simpa [ABC] using hz26)]
      rfl
    show (match atI ABC (z : Int) with
      | some c => R (.pv (.str [c])) S
      | none => False)
    rw [ea]
    exact hR _ rfl
  · rw [List.nil_append, alc_lst (pvs_map _), aJoin_lst (strs_signs _ _)]
    refine ⟨?_, ?_⟩
    · rw [sum_ones]
      show _ ≤ 16777216
      simp only [List.length_nil, Nat.mul_zero, Nat.add_zero, List.length_range]
      omega
    · rw [join_signs]
      exact q
end
end Q05
set_option Elab.async false
set_option autoImplicit false
set_option linter.all false
set_option maxRecDepth 100000
set_option maxHeartbeats 8000000
/-! Law k05: the law's drawn tree. -/
namespace Q05
open PySem PySem.Spec PyProof.Rows PySem.Builtin.Int L2 Rf K04 HT
open Lean in
local macro_rules
  | `(tactic| walk_at "ab") => `(tactic| try simp only [aSs, aS, aE, aA, aO, aT, aC, aI, adOf_K, adOf_sp, adOf_gv, adOf_ex, adOf_me, adOf_mks, adOf_exi, adOf_W, blkA_K, blkA_sp, blkA_gv, blkA_me, blkA_mks, insM_ins, List.map_cons, List.map_nil, mk2,
      List.lookup_cons, List.lookup_nil, beq_self_eq_true, List.getElem?_cons_zero, List.getElem?_cons_succ, List.length_cons, List.length_nil, tl_sOf, sOf_tl, setEnv0, setEnvS, wipeA,
      aBin, aCmp, aBF, aTF, aBM, aAdd_int, aAdd_str, aAdd_lst, aMul_int, aMul_str, aI2_int, aOrd_int, aOrd_str, aEq_int, aEq_str, aEq_bl, aIs_bl, aIs_non, isNonA, aIn_sign, aIn_tup, aIn_lst, flatP, aIx_str, aIx_lst, aIx_tup, aSl_str, aNeg_int, aTr_non, aTr_bl, aTr_int, aTr_str, bl?_bl,
      aLen_str, aLen_lst, aLen_tup, aInt_int, aInt_bl, aListF_lst, aTupF_lst, alc_t, pvs_nil, pvs_cons, pvk_nil, pvk_cons, aTyM_str, aTyM_lst, BM.ty, lstB_pv, seqA_lst, seqA_tup, extA_lst, extA_tup, Option.map_some, Option.map_none, Option.bind_some, Bool.false_xor, Bool.true_xor, Bool.not_true, Bool.not_false, true_and, and_true, reduceCtorEq, if_true, if_false,
      entL_new0, entR_new0, entL_new, entR_new, entL_0, entR_0, entR_0k, set_new, set_new0, len_new, app_one])
open Lean in
local macro_rules
  | `(tactic| walk_at "w") => `(tactic| (walk_at "ab"; try simp only [ne_kb, ne_ps, ne_as, ne_ds, ne_da, fcst, fcrw, fcch, fcof, fcrd, fnk, fnb, fnr, fnc, fnp, fns, fn1, fn2, fn3, insM_ob, obF_st, obF_of, obF_nd, true_and, and_true]; walk_at "ab"))
open Lean in
local macro_rules
  | `(tactic| walk_at "wm") => do
    let mt := mkIdent `mt
    `(tactic| (walk_at "w"; try simp only [($mt).str, ($mt).txt, ($mt).stp, ($mt).non]; walk_at "w"))
theorem tree_at (c : Int) : ∀ (d : Nat) (s : Sta), s.at_ ≤ (treeOf c d s).2.at_ ∧ (treeOf c d s).2.at_ ≤ s.at_ + 2 * (5 ^ d : Nat) := by
  intro d
  induction d with
  | zero =>
    intro s
    rw [treeOf]
    dsimp only
    have e5 : (5 : Nat) ^ 0 = 1 := rfl
    rw [e5]
    omega
  | succ d ih =>
    have ihs : ∀ (m : Nat) (s : Sta), s.at_ ≤ (treesOf c d m s).2.at_ ∧ (treesOf c d m s).2.at_ ≤ s.at_ + m * (2 * (5 ^ d : Nat)) := by
      intro m
      induction m with
      | zero => intro s; rw [treesOf]; dsimp only; omega
      | succ m im =>
        intro s
        rw [treesOf]
        dsimp only
        have h1 := ih s
        have h2 := im (treeOf c d s).2
        have e : ((m + 1 : Nat) : Int) * (2 * (5 ^ d : Nat)) = (m : Int) * (2 * (5 ^ d : Nat)) + 2 * (5 ^ d : Nat) := by
          rw [Int.natCast_add, Int.add_mul]
          simp
        omega
    intro s
    have h5 : (5 : Nat) ^ (d + 1) = 5 * 5 ^ d := by rw [Nat.pow_succ, Nat.mul_comm]
    have h1 : 1 ≤ (5 : Nat) ^ d := Nat.one_le_pow _ _ (by decide)
    rw [treeOf]
    dsimp only
    generalize drawn c (s.at_ + 1) = n
    split
    · dsimp only; omega
    · split
      · have := ih ⟨s.at_ + 1, s.left⟩
        dsimp only at this ⊢
        omega
      · have h2 := ihs (2 + n / 8 % 3).toNat ⟨s.at_ + 1, s.left - (2 + n / 8 % 3 - 1)⟩
        dsimp only at h2 ⊢
        have h3 : (((2 + n / 8 % 3).toNat : Nat) : Int) ≤ 4 := by omega
        have h4 : (((2 + n / 8 % 3).toNat : Nat) : Int) * (2 * (5 ^ d : Nat)) ≤ 4 * (2 * (5 ^ d : Nat)) := Int.mul_le_mul_of_nonneg_right h3 (by omega)
        omega
/-- a comprehension, by what holds behind the items so far -/
theorem lcL_inv {α : Type} {bind : IV → AEnv → Option AEnv} {ok : Sto → Prop} {σ0 : AEnv} {c : AEnv → Sto → QT → Prop} {e : AEnv → Sto → AQ → Prop} {Q : QL} (P : List α → List AV → Sto → Prop) (g : α → IV) (all : List α) (hlen : all.length ≤ 16777216)
    (hl : ∀ done acc S, P done acc S → acc.length = done.length)
    (hs : ∀ done x rest acc S (R : AQ), all = done ++ x :: rest → P done acc S → (∀ y S', P (done ++ [x]) (acc ++ [y]) S' → R y S') → ok S ∧ ∃ σ, bind (g x) σ0 = some σ ∧ c σ S fun b S1 => b = true ∧ e σ S1 R)
    (hc : ∀ σ S R, c σ S R = R true S)
    (hd : ∀ acc S, P all acc S → ok S ∧ Q acc S) : ∀ (xs done : List α) (acc : List AV) (S : Sto), all = done ++ xs → P done acc S → aLcL bind ok σ0 c e (xs.map g) acc S Q
  | [], done, acc, S, e0, p => by
    rw [List.append_nil] at e0
    subst e0
    exact hd acc S p
  | x :: r, done, acc, S, e0, p => by
    have hlt : acc.length < line := by
      rw [hl done acc S p]
      rw [e0, List.length_append, List.length_cons] at hlen
      show _ < 16777216
      omega
    obtain ⟨o, σ, hb, q⟩ := hs done x r acc S (fun y S2 => acc.length < line ∧ aLcL bind ok σ0 c e (r.map g) (acc ++ [y]) S2 Q) e0 p fun y S' p' => ⟨hlt, lcL_inv P g all hlen hl hs hc hd r (done ++ [x]) (acc ++ [y]) S' (by rw [e0, List.append_assoc]; rfl) p'⟩
    refine ⟨o, ?_⟩
    rw [hb]
    dsimp only
    rw [hc] at q ⊢
    exact q.2
def spTree (d : Nat) : ASp := fun ws S Q _ => ∃ (h : Nat) (c a l : Int), ws = [.hnd h, .pv (.int d)] ∧ entL S h = some (stD c a l) ∧ Sm c ∧ 0 ≤ a ∧ a + 2 * (5 ^ d : Nat) ≤ 1000000 ∧
  Q (.pv (tp (treeOf c d ⟨a, l⟩).1)) (S.set h (.live (stD c (treeOf c d ⟨a, l⟩).2.at_ (treeOf c d ⟨a, l⟩).2.left)))
section
variable {K : Fg} {W : Cl} {EA : AEr} {QA : AQ} {S : Sto}
theorem st_set {h : Nat} {o : AO} {c a l : Int} (e : entL S h = some o) : entL (S.set h (.live (stD c a l))) h = some (stD c a l) := entL_set e
theorem stp {c a l : Int} {h : Nat} {R : AQ} {E1 E2 : AEr} (he : entL S h = some (stD c a l)) (hc : Sm c) (h0 : 0 ≤ a) (ha : a + 1 ≤ 1000000) (q : R (.pv (.str (kindOf (drawn c (a + 1))))) (S.set h (.live (stD c (a + 1) l)))) : spDr [.hnd h] S (fun x S1 => spKind [x] S1 R E1) E2 := by
  have hb := drawn_bd c (a + 1)
  exact ⟨h, c, a, l, rfl, he, hc, h0, by omega, _, rfl, hb.1, hb.2, q⟩
theorem sem_tree0 (X : Nat × ASp) (ws : List AV) (h : spTree 0 ws S QA EA) : aSs (adOf K EA { sp := [(1, spDr), (1, spKind), X] }) rs_law_tree { nx := fun _ S' => QA (.pv .non) S', rt := QA } (envStart N_law_tree ws) S := by
  obtain ⟨h, c, a, l, rfl, he, hc, h0, ha, q⟩ := h
  rw [treeOf] at q
  dsimp only at q
  show aSs (adOf K EA { sp := [(1, spDr), (1, spKind), X] }) rs_law_tree { nx := fun _ S' => QA (.pv .non) S', rt := QA } [some (.hnd h), some (.pv (.int 0)), none, none, none] S
  rw [rs_law_tree_cut]
  unfold rt_law_tree_0 rh_law_tree_0
  walk_at "ab"
  refine ⟨h, c, a, l, rfl, he, hc, h0, by omega, ?_⟩
  have he := st_set (c := c) (a := a + 1) (l := l) he
  have e5 : (5 : Nat) ^ 0 = 1 := rfl
  rw [e5] at ha
  unfold rt_law_tree_1 rh_law_tree_1
  walk_at "ab"
  refine ⟨⟨by decide, by decide⟩, by decide, ?_⟩
  unfold rt_law_tree_2 rh_law_tree_2
  walk_at "ab"
  simp only [show decide ((0 : Int) < 1) = true from rfl]
  refine stp he hc (by omega) (by omega) ?_
  walk_at "ab"
  refine ⟨⟨by decide, by decide⟩, by decide, by decide, ?_⟩
  unfold tp at q
  rw [set_set]
  have e : a + 1 + 1 = a + 2 := by omega
  rw [e]
  exact q
theorem sem_treeS (d : Nat) (ws : List AV) (h : spTree (d + 1) ws S QA EA) : aSs (adOf K EA { sp := [(1, spDr), (1, spKind), (2, spTree d)] }) rs_law_tree { nx := fun _ S' => QA (.pv .non) S', rt := QA } (envStart N_law_tree ws) S := by
  obtain ⟨h, c, a, l, rfl, he0, hc, h0, ha, q⟩ := h
  rw [treeOf] at q
  dsimp only at q
  show aSs (adOf K EA { sp := [(1, spDr), (1, spKind), (2, spTree d)] }) rs_law_tree { nx := fun _ S' => QA (.pv .non) S', rt := QA } [some (.hnd h), some (.pv (.int (d + 1 : Nat))), none, none, none] S
  rw [rs_law_tree_cut]
  unfold rt_law_tree_0 rh_law_tree_0
  walk_at "ab"
  have h5 : (5 : Nat) ^ (d + 1) = 5 * 5 ^ d := by rw [Nat.pow_succ, Nat.mul_comm]
  have h51 : 1 ≤ (5 : Nat) ^ d := Nat.one_le_pow _ _ (by decide)
  refine ⟨h, c, a, l, rfl, he0, hc, h0, by omega, ?_⟩
  have he := st_set (c := c) (a := a + 1) (l := l) he0
  have hb := drawn_bd c (a + 1)
  generalize drawn c (a + 1) = n at q hb ⊢
  unfold rt_law_tree_1 rh_law_tree_1
  walk_at "ab"
  refine ⟨⟨by decide, by decide⟩, by decide, ?_⟩
  have stepq : (n % 8 < 2 ∨ (n % 8 < 6 ∧ l < 2 + n / 8 % 3 - 1)) → spDr [AV.hnd h] (S.set h (.live (stD c (a + 1) l)))
      (fun x S1 => spKind [x] S1 (fun x S1 => ((0 : Int) < 8 ∧ (8 : Int) < 1073741824) ∧ (0 : Int) < 3 ∧ match Option.map (fun x => PV.str [115, 116, 101, 112] :: x) (pvs [x, AV.pv (PV.bl (decide (n / 8 % 3 = 1)))]) with
        | some ps => ps.length ≤ line ∧ QA (AV.pv (PV.tup ps)) S1
        | none => False) fun C gs S' => EA C gs S') fun C gs S' => EA C gs S' := by
    intro hz
    rw [if_pos hz] at q
    refine stp he hc (by omega) (by omega) ?_
    walk_at "ab"
    refine ⟨⟨by decide, by decide⟩, by decide, by decide, ?_⟩
    unfold tp at q
    rw [set_set]
    have e : a + 1 + 1 = a + 2 := by omega
    rw [e]
    exact q
  have rest : ¬ (n % 8 < 2 ∨ (n % 8 < 6 ∧ l < 2 + n / 8 % 3 - 1)) → aSs (adOf K EA { sp := [(1, spDr), (1, spKind), (2, spTree d)] }) rt_law_tree_3 { nx := fun _ S' => QA (.pv .non) S', rt := QA } [some (.hnd h), some (.pv (.int (d + 1 : Nat))), some (.pv (.int n)), some (.pv (.int (2 + n / 8 % 3))), none] (S.set h (.live (stD c (a + 1) l))) := by
    intro hz
    rw [if_neg hz] at q
    have ed : ((d + 1 : Nat) : Int) - 1 = (d : Int) := by omega
    unfold rt_law_tree_3 rh_law_tree_3
    walk_at "ab"
    refine ⟨by decide, ?_⟩
    by_cases h6 : 5 < n % 8
    · rw [if_pos h6] at q
      rw [decide_eq_true h6]
      walk_at "ab"
      rw [ed]
      refine ⟨h, c, a + 1, l, rfl, he, hc, by omega, by omega, ?_⟩
      walk_at "ab"
      refine ⟨⟨by decide, by decide⟩, by decide, by decide, ?_⟩
      have g1 := Int.emod_nonneg (n / 8) (show (3 : Int) ≠ 0 by decide)
      have g2 := Int.emod_lt_of_pos (n / 8) (show (0 : Int) < 3 by decide)
      have es : atI ([42, 43, 63] : Cs) (n / 8 % 3) = some (sign3 (n / 8 % 3)) := by
        have z : n / 8 % 3 = 0 ∨ n / 8 % 3 = 1 ∨ n / 8 % 3 = 2 := by omega
        rcases z with z | z | z <;> rw [z] <;> rfl
      rw [es]
      walk_at "ab"
      refine ⟨by decide, ?_⟩
      unfold tp at q
      rw [set_set]
      exact q
    · rw [if_neg h6] at q
      rw [decide_eq_false h6]
      walk_at "ab"
      unfold rt_law_tree_4 rh_law_tree_4
      walk_at "ab"
      simp only [d_left he]
      walk_at "ab"
      simp only [he, keyO]
      show 3 < 16777216 ∧ aSs (adOf K EA { sp := [(1, spDr), (1, spKind), (2, spTree d)] }) rt_law_tree_5 { nx := fun _ S' => QA (.pv .non) S', rt := QA } [some (.hnd h), some (.pv (.int (d + 1 : Nat))), some (.pv (.int n)), some (.pv (.int (2 + n / 8 % 3))), none] ((S.set h (.live (stD c (a + 1) l))).set h (.live (stD c (a + 1) (l - (2 + n / 8 % 3 - 1)))))
      refine ⟨by decide, ?_⟩
      rw [set_set]
      have he := st_set (c := c) (a := a + 1) (l := l - (2 + n / 8 % 3 - 1)) he0
      unfold rt_law_tree_5 rh_law_tree_5
      walk_at "ab"
      refine ⟨by decide, ?_⟩
      rw [alc_lst (ps := [PV.str wRow, PV.str wCho]) rfl]
      refine ⟨by decide, ?_⟩
      rw [aIx_lst]
      have er : atI [PV.str wRow, PV.str wCho] (n % 2) = some (.str (if decide (n % 2 = 0) = true then wRow else wCho)) := by
        have z : n % 2 = 0 ∨ n % 2 = 1 := by omega
        rcases z with z | z <;> rw [z] <;> rfl
      rw [er]
      refine ⟨by omega, by simp, ?_⟩
      generalize hG : 2 * 5 ^ d = G at *
      have hGI : (2 : Int) * ((5 ^ d : Nat) : Int) = (G : Int) := by rw [← hG]; rfl
      have hm4 : (2 + n / 8 % 3).toNat ≤ 4 := by omega
      generalize (2 + n / 8 % 3).toNat = m at q hm4 ⊢
      generalize hs0 : l - (2 + n / 8 % 3 - 1) = l0 at q he ⊢
      have hmG : m * G ≤ 4 * G := Nat.mul_le_mul_right _ hm4
      refine lcL_inv (fun (done : List Nat) acc S' => ∃ (s : Sta) (ts : List Tr) (r : Nat), done.length = ts.length ∧ m = ts.length + r ∧ acc = (tpL ts).map AV.pv ∧ S' = S.set h (.live (stD c s.at_ s.left)) ∧ 0 ≤ s.at_ ∧ s.at_ + ((r * G : Nat) : Int) ≤ 1000000 ∧ treesOf c d m ⟨a + 1, l0⟩ = (ts ++ (treesOf c d r s).1, (treesOf c d r s).2))
        (fun i : Nat => IV.one (.pv (.int ((0 : Int) + (i : Nat))))) (List.range m) (by simp; omega) ?_ ?_ (fun σ S R => rfl) ?_ (List.range m) [] [] _ rfl ⟨⟨a + 1, l0⟩, [], m, rfl, by simp, rfl, rfl, by dsimp only; omega, ?_, rfl⟩
      · rintro done acc S' ⟨s, ts, r, e1, _, rfl, _⟩
        rw [List.length_map, tpL_len, e1]
      · rintro done i rest acc S' R e ⟨s, ts, r, e1, e2, rfl, rfl, b1, b2, e3⟩ next
        have el := congrArg List.length e
        rw [List.length_range, List.length_append, List.length_cons] at el
        obtain ⟨r', rfl⟩ : ∃ r', r = r' + 1 := ⟨r - 1, by omega⟩
        rw [Nat.succ_mul] at b2
        have hat := tree_at c d s
        rw [hGI] at hat
        refine ⟨trivial, _, rfl, rfl, ?_⟩
        walk_at "ab"
        rw [ed]
        refine ⟨h, c, s.at_, s.left, rfl, st_set he0, hc, b1, by rw [hGI]; omega, ?_⟩
        rw [set_set]
        rw [treesOf] at e3
        refine next _ _ ⟨(treeOf c d s).2, ts ++ [(treeOf c d s).1], r', by rw [List.length_append, List.length_append, e1]; rfl, by rw [List.length_append]; simp; omega, ?_, rfl, by omega, by omega, ?_⟩
        · rw [tpL_map, tpL_map, List.map_append, List.map_append]
          rfl
        · rw [e3, List.append_assoc]
          rfl
      · rintro acc S' ⟨s, ts, r, e1, e2, rfl, rfl, b1, b2, e3⟩
        rw [List.length_range] at e1
        obtain rfl : r = 0 := by omega
        refine ⟨trivial, ?_⟩
        rw [alc_lst (pvs_map _), aTupF_lst]
        rw [treesOf, List.append_nil] at e3
        rw [e3] at q
        unfold tp at q
        exact ⟨by show 2 ≤ 16777216; decide, q⟩
      · dsimp only
        have : ((m * G : Nat) : Int) ≤ ((4 * G : Nat) : Int) := Int.ofNat_le.mpr hmG
        omega
  unfold rt_law_tree_2 rh_law_tree_2
  walk_at "ab"
  rw [decide_eq_false (by omega)]
  walk_at "ab"
  refine ⟨by decide, ?_⟩
  by_cases h2 : n % 8 < 2
  · rw [decide_eq_true h2]
    exact stepq (.inl h2)
  · rw [decide_eq_false h2]
    walk_at "ab"
    refine ⟨by decide, ?_⟩
    by_cases h6 : n % 8 < 6
    · rw [decide_eq_true h6]
      walk_at "ab"
      simp only [d_left he]
      walk_at "ab"
      by_cases h7 : l < 2 + n / 8 % 3 - 1
      · rw [decide_eq_true h7]
        exact stepq (.inr ⟨h6, h7⟩)
      · rw [decide_eq_false h7]
        exact rest (by rintro (z | z); exact h2 z; exact h7 z.2)
    · rw [decide_eq_false h6]
      exact rest (by rintro (z | z); exact h2 z; exact h6 z.1)
end
end Q05
set_option Elab.async false
set_option autoImplicit false
set_option linter.all false
set_option maxRecDepth 100000
set_option maxHeartbeats 8000000
/-! Law k05: the law's own view of a tree. -/
namespace Q05
open PySem PySem.Spec PyProof.Rows PySem.Builtin.Int L2 Rf K04 HT
open Lean in
local macro_rules
  | `(tactic| walk_at "ab") => `(tactic| try simp only [aSs, aS, aE, aA, aO, aT, aC, aI, adOf_K, adOf_sp, adOf_gv, adOf_ex, adOf_me, adOf_mks, adOf_exi, adOf_W, blkA_K, blkA_sp, blkA_gv, blkA_me, blkA_mks, insM_ins, List.map_cons, List.map_nil, mk2,
      List.lookup_cons, List.lookup_nil, beq_self_eq_true, List.getElem?_cons_zero, List.getElem?_cons_succ, List.length_cons, List.length_nil, tl_sOf, sOf_tl, setEnv0, setEnvS, wipeA,
      aBin, aCmp, aBF, aTF, aBM, aAdd_int, aAdd_str, aAdd_lst, aMul_int, aMul_str, aI2_int, aOrd_int, aOrd_str, aEq_int, aEq_str, aEq_bl, aIs_bl, aIs_non, isNonA, aIn_sign, aIn_tup, aIn_lst, flatP, aIx_str, aIx_lst, aIx_tup, aSl_str, aNeg_int, aTr_non, aTr_bl, aTr_int, aTr_str, bl?_bl,
      aLen_str, aLen_lst, aLen_tup, aInt_int, aInt_bl, aListF_lst, aTupF_lst, alc_t, pvs_nil, pvs_cons, pvk_nil, pvk_cons, aTyM_str, aTyM_lst, BM.ty, lstB_pv, seqA_lst, seqA_tup, extA_lst, extA_tup, Option.map_some, Option.map_none, Option.bind_some, Bool.false_xor, Bool.true_xor, Bool.not_true, Bool.not_false, true_and, and_true, reduceCtorEq, if_true, if_false,
      entL_new0, entR_new0, entL_new, entR_new, entL_0, entR_0, entR_0k, set_new, set_new0, len_new, app_one])
open Lean in
local macro_rules
  | `(tactic| walk_at "w") => `(tactic| (walk_at "ab"; try simp only [ne_kb, ne_ps, ne_as, ne_ds, ne_da, fcst, fcrw, fcch, fcof, fcrd, fnk, fnb, fnr, fnc, fnp, fns, fn1, fn2, fn3, insM_ob, obF_st, obF_of, obF_nd, true_and, and_true]; walk_at "ab"))
open Lean in
local macro_rules
  | `(tactic| walk_at "wm") => do
    let mt := mkIdent `mt
    `(tactic| (walk_at "w"; try simp only [($mt).str, ($mt).txt, ($mt).stp, ($mt).non]; walk_at "w"))
def nodeW (row : Bool) : Cs := if row = true then wRow else wCho
theorem tp_st (k : Cs) (b : Bool) : tp (.step k b) = .tup [.str wStep, .str k, .bl b] := by rw [tp]
theorem tp_of (t : Tr) (s : Nat) : tp (.often t s) = .tup [.str wOft, tp t, .str [s]] := by rw [tp]
theorem tp_nd (row : Bool) (ts : List Tr) : tp (.node row ts) = .tup [.str (nodeW row), .tup (tpL ts)] := by rw [tp]; rfl
theorem tpL_one (ts : List Tr) : ((tpL ts).map fun p => IV.one (.pv p)) = ts.map fun t => .one (.pv (tp t)) := by
  rw [tpL_map, List.map_map]
  rfl
theorem aSum_map {α : Type} (f : α → Int) (ts : List α) {S : Sto} {Q : AQ} : aSum [.pv (.lst (ts.map fun t => PV.int (f t)))] S Q = Q (.pv (.int (ts.map f).sum)) S := by
  have e : (lstB S (.pv (.lst (ts.map fun t => PV.int (f t))))).bind intsP = some (ts.map f) := by
    rw [lstB_pv, Option.bind_some]
    have e : ((ts.map fun t => PV.int (f t)).map AV.pv) = (ts.map f).map fun b => .pv (.int b) := by
      rw [List.map_map, List.map_map]
      rfl
    rw [e]
    exact intsP_map _
  show (match (lstB S (.pv (.lst (ts.map fun t => PV.int (f t))))).bind intsP with
    | some bs => Q (.pv (.int bs.sum)) S
    | none => False) = _
  rw [e]
theorem aAll_map {α : Type} (g : List Bool → Bool) (f : α → Bool) (ts : List α) {S : Sto} {Q : AQ} : aAll g [.pv (.lst (ts.map fun t => PV.bl (f t)))] S Q = Q (.pv (.bl (g (ts.map f)))) S := by
  have e : (lstB S (.pv (.lst (ts.map fun t => PV.bl (f t))))).bind blsP = some (ts.map f) := by
    rw [lstB_pv, Option.bind_some]
    have e : ((ts.map fun t => PV.bl (f t)).map AV.pv) = (ts.map f).map fun b => .pv (.bl b) := by
      rw [List.map_map, List.map_map]
      rfl
    rw [e]
    exact blsP_map _
  show (match (lstB S (.pv (.lst (ts.map fun t => PV.bl (f t))))).bind blsP with
    | some bs => Q (.pv (.bl (g bs))) S
    | none => False) = _
  rw [e]
section
variable {S : Sto} {Q : AQ} {x y z : PV}
theorem ix30 : aIx (.pv (.tup [x, y, z])) (.pv (.int 0)) S Q = Q (.pv x) S := rfl
theorem ix31 : aIx (.pv (.tup [x, y, z])) (.pv (.int 1)) S Q = Q (.pv y) S := rfl
theorem ix32 : aIx (.pv (.tup [x, y, z])) (.pv (.int 2)) S Q = Q (.pv z) S := rfl
theorem ix20 : aIx (.pv (.tup [x, y])) (.pv (.int 0)) S Q = Q (.pv x) S := rfl
theorem ix21 : aIx (.pv (.tup [x, y])) (.pv (.int 1)) S Q = Q (.pv y) S := rfl
section
variable {α : Type} {x y z : α}
theorem at30 : atI [x, y, z] 0 = some x := rfl
theorem at31 : atI [x, y, z] 1 = some y := rfl
theorem at32 : atI [x, y, z] 2 = some z := rfl
theorem at20 : atI [x, y] 0 = some x := rfl
theorem at21 : atI [x, y] 1 = some y := rfl
end
theorem w_ss : decide (wStep = [115, 116, 101, 112]) = true := rfl
theorem w_os : decide (wOft = [115, 116, 101, 112]) = false := rfl
theorem w_oo : decide (wOft = [111, 102, 116, 101, 110]) = true := rfl
theorem w_or : decide (wOft = [114, 111, 119]) = false := rfl
theorem w_ns {r : Bool} : decide (nodeW r = [115, 116, 101, 112]) = false := by cases r <;> rfl
theorem w_no {r : Bool} : decide (nodeW r = [111, 102, 116, 101, 110]) = false := by cases r <;> rfl
theorem w_nr {r : Bool} : decide (nodeW r = [114, 111, 119]) = r := by cases r <;> rfl
theorem w_nn {r s : Bool} : decide (nodeW r = nodeW s) = decide (r = s) := by cases r <;> cases s <;> rfl
theorem w_sn {r : Bool} : decide (wStep = nodeW r) = false := by cases r <;> rfl
theorem w_on {r : Bool} : decide (wOft = nodeW r) = false := by cases r <;> rfl
theorem itemsT (xs : List PV) : itemsA S (.pv (.tup xs)) = some (xs.map fun p => IV.one (.pv p)) := by
  show (some (xs.map AV.pv)).map (fun xs => xs.map IV.one) = _
  rw [Option.map_some, List.map_map]
  rfl
end
end Q05
set_option Elab.async false
set_option autoImplicit false
set_option linter.all false
set_option maxRecDepth 100000
set_option maxHeartbeats 8000000
/-! Law k05: the law's own text of a tree. -/
namespace Q05
open PySem PySem.Spec PyProof.Rows PySem.Builtin.Int L2 Rf K04 HT
open Lean in
local macro_rules
  | `(tactic| walk_at "ab") => `(tactic| try simp only [aSs, aS, aE, aA, aO, aT, aC, aI, adOf_K, adOf_sp, adOf_gv, adOf_ex, adOf_me, adOf_mks, adOf_exi, adOf_W, blkA_K, blkA_sp, blkA_gv, blkA_me, blkA_mks, insM_ins, List.map_cons, List.map_nil, mk2,
      List.lookup_cons, List.lookup_nil, beq_self_eq_true, List.getElem?_cons_zero, List.getElem?_cons_succ, List.length_cons, List.length_nil, tl_sOf, sOf_tl, setEnv0, setEnvS, wipeA,
      aBin, aCmp, aBF, aTF, aBM, aAdd_int, aAdd_str, aAdd_lst, aMul_int, aMul_str, aI2_int, aOrd_int, aOrd_str, aEq_int, aEq_str, aEq_bl, aIs_bl, aIs_non, isNonA, aIn_sign, aIn_tup, aIn_lst, flatP, aIx_str, aIx_lst, aIx_tup, aSl_str, aNeg_int, aTr_non, aTr_bl, aTr_int, aTr_str, bl?_bl,
      aLen_str, aLen_lst, aLen_tup, aInt_int, aInt_bl, aListF_lst, aTupF_lst, alc_t, pvs_nil, pvs_cons, pvk_nil, pvk_cons, aTyM_str, aTyM_lst, BM.ty, lstB_pv, seqA_lst, seqA_tup, extA_lst, extA_tup, Option.map_some, Option.map_none, Option.bind_some, Bool.false_xor, Bool.true_xor, Bool.not_true, Bool.not_false, true_and, and_true, reduceCtorEq, if_true, if_false,
      entL_new0, entR_new0, entL_new, entR_new, entL_0, entR_0, entR_0k, set_new, set_new0, len_new, app_one])
open Lean in
local macro_rules
  | `(tactic| walk_at "w") => `(tactic| (walk_at "ab"; try simp only [ne_kb, ne_ps, ne_as, ne_ds, ne_da, fcst, fcrw, fcch, fcof, fcrd, fnk, fnb, fnr, fnc, fnp, fns, fn1, fn2, fn3, insM_ob, obF_st, obF_of, obF_nd, true_and, and_true]; walk_at "ab"))
open Lean in
local macro_rules
  | `(tactic| walk_at "wm") => do
    let mt := mkIdent `mt
    `(tactic| (walk_at "w"; try simp only [($mt).str, ($mt).txt, ($mt).stp, ($mt).non]; walk_at "w"))
open Lean in
local macro_rules
  | `(tactic| walk_at "wt") => `(tactic| (walk_at "ab"; try simp only [tp_st, tp_of, tp_nd, ix30, ix31, ix32, ix20, ix21, at30, at31, at32, at20, at21, w_ss, w_os, w_oo, w_or, w_ns, w_no, w_nr, itemsT, tpL_one]; walk_at "ab"; try simp only [tp_st, tp_of, tp_nd, ix30, ix31, ix32, ix20, ix21, at30, at31, at32, at20, at21, w_ss, w_os, w_oo, w_or, w_ns, w_no, w_nr, itemsT, tpL_one]; walk_at "ab"; try simp only [tp_st, tp_of, tp_nd, ix30, ix31, ix32, ix20, ix21, at30, at31, at32, at20, at21, w_ss, w_os, w_oo, w_or, w_ns, w_no, w_nr, itemsT, tpL_one]; walk_at "ab"))
def sortW : Tr → Cs
  | .step _ _ => wStep
  | .often _ _ => wOft
  | .node row _ => nodeW row
theorem ix0_tp (t : Tr) {S : Sto} {Q : AQ} : aIx (.pv (tp t)) (.pv (.int 0)) S Q = Q (.pv (.str (sortW t))) S := by
  cases t with
  | step k b => rw [tp_st]; rfl
  | often t s => rw [tp_of]; rfl
  | node row ts => rw [tp_nd]; rfl
mutual
def dsz : Tr → Nat
  | .step k _ => k.length + 5
  | .often t _ => dsz t + 5
  | .node _ ts => dszL ts + 4
def dszL : List Tr → Nat
  | [] => 0
  | t :: r => dsz t + 1 + dszL r
end
mutual
/-- parts within parts -/
def cnt : Tr → Nat
  | .step _ _ => 1
  | .often t _ => cnt t + 1
  | .node _ ts => cntL ts + 1
def cntL : List Tr → Nat
  | [] => 0
  | t :: r => cnt t + cntL r
end
mutual
theorem tsz_dsz : ∀ t : Tr, tsz t ≤ dsz t
  | .step k _ => by unfold tsz dsz; omega
  | .often t _ => by have := tsz_dsz t; unfold tsz dsz; omega
  | .node _ ts => by have := tszL_dsz ts; unfold tsz dsz; omega
theorem tszL_dsz : ∀ ts : List Tr, tszL ts ≤ dszL ts
  | [] => Nat.le_refl _
  | t :: r => by have := tsz_dsz t; have := tszL_dsz r; unfold tszL dszL; omega
end
theorem wrap_len (b : Bool) (x : Cs) : (wrap b x).length ≤ x.length + 2 := by
  unfold wrap
  split <;> simp
theorem dress_len (st l : Nat) (n : Int) (x : Cs) : (dress st l n x).length ≤ x.length + 4 := by
  unfold dress
  have h1 := wrap_len (decide (n % 7 = 1)) (wrap (decide (st < l) || decide (n % 5 = 1)) x)
  have h2 := wrap_len (decide (st < l) || decide (n % 5 = 1)) x
  omega
theorem glue_len (c : Nat) : ∀ xs : List Cs, (glue c xs).length ≤ (xs.map List.length).sum + xs.length
  | [] => Nat.zero_le _
  | [a] => by unfold glue; simp
  | a :: b :: r => by
    have ih := glue_len c (b :: r)
    unfold glue
    rw [List.length_append, List.length_cons, List.map_cons, List.sum_cons, List.length_cons (a := a)]
    omega
mutual
theorem textOf_at (c : Int) : ∀ (t : Tr) (l : Nat) (a : Int), (textOf c t l a).2 = a + cnt t
  | .step k b, l, a => by unfold textOf cnt; rfl
  | .often t s, l, a => by
    have := textOf_at c t 3 a
    unfold textOf cnt
    dsimp only
    omega
  | .node row ts, l, a => by
    have := textsOf_at c ts (if row = true then 2 else 1) a
    unfold textOf cnt
    dsimp only
    omega
theorem textsOf_at (c : Int) : ∀ (ts : List Tr) (l : Nat) (a : Int), (textsOf c ts l a).2 = a + cntL ts
  | [], l, a => by unfold textsOf cntL; simp
  | t :: r, l, a => by
    have h1 := textOf_at c t l a
    have h2 := textsOf_at c r l (textOf c t l a).2
    unfold textsOf cntL
    dsimp only
    omega
end
mutual
theorem textOf_len (c : Int) : ∀ (t : Tr) (l : Nat) (a : Int), (textOf c t l a).1.length ≤ dsz t
  | .step k b, l, a => by
    unfold textOf dsz
    have h := dress_len 3 l (drawn c (a + 1)) ((if b = true then [45] else []) ++ k)
    have h2 : ((if b = true then [45] else [] : Cs) ++ k).length ≤ k.length + 1 := by cases b <;> simp
    dsimp only
    omega
  | .often t s, l, a => by
    have ih := textOf_len c t 3 a
    unfold textOf dsz
    have h := dress_len 2 l (drawn c ((textOf c t 3 a).2 + 1)) ((textOf c t 3 a).1 ++ [s])
    rw [List.length_append] at h
    dsimp only
    simp only [List.length_cons, List.length_nil] at h
    omega
  | .node row ts, l, a => by
    have ih := textsOf_sum c ts (if row = true then 2 else 1) a
    unfold textOf dsz
    have h := dress_len (if row = true then 1 else 0) l (drawn c ((textsOf c ts (if row = true then 2 else 1) a).2 + 1)) (glue (if row = true then 46 else 124) (textsOf c ts (if row = true then 2 else 1) a).1)
    have h2 := glue_len (if row = true then 46 else 124) (textsOf c ts (if row = true then 2 else 1) a).1
    dsimp only
    omega
theorem textsOf_sum (c : Int) : ∀ (ts : List Tr) (l : Nat) (a : Int), ((textsOf c ts l a).1.map List.length).sum + (textsOf c ts l a).1.length ≤ dszL ts
  | [], l, a => by unfold textsOf dszL; simp
  | t :: r, l, a => by
    have h1 := textOf_len c t l a
    have h2 := textsOf_sum c r l (textOf c t l a).2
    unfold textsOf dszL
    dsimp only
    simp only [List.map_cons, List.sum_cons, List.length_cons]
    omega
end
theorem textsOf_len2 (c : Int) : ∀ (ts : List Tr) (l : Nat) (a : Int), (textsOf c ts l a).1.length = ts.length
  | [], l, a => rfl
  | t :: r, l, a => by
    unfold textsOf
    dsimp only
    rw [List.length_cons, List.length_cons, textsOf_len2 c r]
theorem dszL_mem {t : Tr} : ∀ {ts : List Tr}, t ∈ ts → dsz t + 1 ≤ dszL ts
  | u :: r, h => by
    unfold dszL
    rcases List.mem_cons.mp h with e | e
    · subst e; omega
    · have := dszL_mem e; omega
/-- the text without a state -/
def spTxN (n : Nat) : ASp := fun ws S Q _ => ∃ (t : Tr) (l : Nat), ws = [.pv (tp t), .pv (.int l), .pv .non] ∧ l ≤ 3 ∧ high t < n ∧ dsz t ≤ 10000 ∧ Q (.pv (.str (t.text l))) S
/-- the text by the state's draws -/
def spTxS (n : Nat) : ASp := fun ws S Q _ => ∃ (t : Tr) (l h : Nat) (c a lf : Int), ws = [.pv (tp t), .pv (.int l), .hnd h] ∧ l ≤ 3 ∧ high t < n ∧ dsz t ≤ 10000 ∧ entL S h = some (stD c a lf) ∧ Sm c ∧ 0 ≤ a ∧ a + cnt t ≤ 1000000 ∧
  Q (.pv (.str (textOf c t l a).1)) (S.set h (.live (stD c (textOf c t l a).2 lf)))
def spTx (n : Nat) : ASp := fun ws S Q E => spTxN n ws S Q E ∨ spTxS n ws S Q E
theorem k_row : tl "row" = wRow := by decide +kernel
theorem k_cho : tl "choice" = wCho := by decide +kernel
theorem k_oft : tl "often" = wOft := by decide +kernel
theorem k_stp : tl "step" = wStep := by decide +kernel
section
variable {K : Fg} {EA : AEr} {QA : AQ} {S : Sto} {n : Nat}
theorem dct4 {x y z u : PV} {Q : AQ} : alc false (.dic (((keysTxt ["choice", "row", "often", "step"]).zip [.pv x, .pv y, .pv z, .pv u]).foldl (fun acc kv => putL acc kv.1 kv.2) [])) S Q = Q (.pv (.dic [(.inr wCho, x), (.inr wRow, y), (.inr wOft, z), (.inr wStep, u)])) S := by
  simp only [keysTxt, List.map_cons, List.map_nil, k_row, k_cho, k_oft, k_stp]
  rfl
theorem dct2 {x y : PV} {Q : AQ} : alc false (.dic (((keysTxt ["row", "choice"]).zip [.pv x, .pv y]).foldl (fun acc kv => putL acc kv.1 kv.2) [])) S Q = Q (.pv (.dic [(.inr wRow, x), (.inr wCho, y)])) S := by
  simp only [keysTxt, List.map_cons, List.map_nil, k_row, k_cho]
  rfl
theorem dix4 (t : Tr) {Q : AQ} : aIx (.pv (.dic [(.inr wCho, .int 0), (.inr wRow, .int 1), (.inr wOft, .int 2), (.inr wStep, .int 3)])) (.pv (.str (sortW t))) S Q = Q (.pv (.int t.strength)) S := by
  rw [aIx_dic (k := .inr (sortW t)) rfl]
  cases t with
  | step k b => rfl
  | often t s => rfl
  | node row ts => cases row <;> rfl
theorem dix2 (row : Bool) (x y : PV) {Q : AQ} : aIx (.pv (.dic [(.inr wRow, x), (.inr wCho, y)])) (.pv (.str (nodeW row))) S Q = Q (.pv (if row = true then x else y)) S := by
  rw [aIx_dic (k := .inr (nodeW row)) rfl]
  cases row <;> rfl
/-- what comes behind the bare text and the draw -/
theorem tail_2 (X Y : Nat × ASp) (t : Tr) (l : Nat) (x : Cs) (st : AV) (ν : Int) (v : Option AV) (hx : x.length ≤ 100000) (q : QA (.pv (.str (dress t.strength l ν x))) S) :
    aSs (adOf K EA { sp := [X, Y] }) rt_law_text_2 { nx := fun _ S' => QA (.pv .non) S', rt := QA } [some (.pv (tp t)), some (.pv (.int l)), some st, some (.pv (.int ν)), some (.pv (.str x)), v] S := by
  have e1 : ∀ y : Cs, ([40] ++ y ++ [41] : Cs) = wrap true y := fun y => rfl
  have fin : ∀ y : Cs, y.length ≤ 100010 → y = wrap (decide (t.strength < l) || decide (ν % 5 = 1)) x → aSs (adOf K EA { sp := [X, Y] }) rt_law_text_3 { nx := fun _ S' => QA (.pv .non) S', rt := QA } [some (.pv (tp t)), some (.pv (.int l)), some st, some (.pv (.int ν)), some (.pv (.str y)), v] S := by
    intro y hy ey
    unfold dress at q
    rw [← ey] at q
    unfold rt_law_text_3 rh_law_text_3
    walk_at "ab"
    refine ⟨by decide, ?_⟩
    cases e : decide (ν % 7 = 1) with
    | true =>
      rw [e] at q
      walk_at "ab"
      rw [e1]
      refine ⟨?_, ?_, q⟩
      · show _ ≤ 16777216; omega
      · rw [List.length_append]; show _ ≤ 16777216; simp; omega
    | false =>
      rw [e] at q
      exact q
  unfold rt_law_text_2 rh_law_text_2
  walk_at "ab"
  refine ⟨by decide, ?_⟩
  rw [dct4, ix0_tp, dix4, aOrd_int]
  walk_at "ab"
  have e2 : decide ((t.strength : Int) < (l : Int)) = decide (t.strength < l) := by
    rw [Bool.eq_iff_iff, decide_eq_true_iff, decide_eq_true_iff]
    omega
  rw [e2]
  have w := wrap_len true x
  cases e3 : decide (t.strength < l) with
  | true =>
    walk_at "ab"
    rw [e1]
    refine ⟨?_, ?_, fin _ (by omega) (by rw [e3]; rfl)⟩
    · show _ ≤ 16777216; omega
    · rw [List.length_append]; show _ ≤ 16777216; simp; omega
  | false =>
    walk_at "ab"
    refine ⟨by decide, ?_⟩
    cases e4 : decide (ν % 5 = 1) with
    | true =>
      walk_at "ab"
      rw [e1]
      refine ⟨?_, ?_, fin _ (by omega) (by rw [e3, e4]; rfl)⟩
      · show _ ≤ 16777216; omega
      · rw [List.length_append]; show _ ≤ 16777216; simp; omega
    | false =>
      exact fin x (by omega) (by rw [e3, e4]; rfl)
theorem tail_N (t : Tr) (l : Nat) (x : Cs) (v : Option AV) (X : Nat × ASp) (hx : x.length ≤ 100000) (q : QA (.pv (.str (wrap (decide (t.strength < l)) x))) S) :
    aSs (adOf K EA { sp := [X, (1, spDr)] }) rt_law_text_1 { nx := fun _ S' => QA (.pv .non) S', rt := QA } [some (.pv (tp t)), some (.pv (.int l)), some (.pv .non), none, some (.pv (.str x)), v] S := by
  unfold rt_law_text_1 rh_law_text_1
  walk_at "ab"
  refine tail_2 _ _ t l x _ 0 v hx ?_
  unfold dress
  rw [show decide ((0 : Int) % 5 = 1) = false from rfl, show decide ((0 : Int) % 7 = 1) = false from rfl, Bool.or_false]
  exact q
theorem tail_S (t : Tr) (l h : Nat) (x : Cs) (v : Option AV) (X : Nat × ASp) {c a lf : Int} (he : entL S h = some (stD c a lf)) (hc : Sm c) (h0 : 0 ≤ a) (ha : a ≤ 1000000) (hx : x.length ≤ 100000) (q : QA (.pv (.str (dress t.strength l (drawn c (a + 1)) x))) (S.set h (.live (stD c (a + 1) lf)))) :
    aSs (adOf K EA { sp := [X, (1, spDr)] }) rt_law_text_1 { nx := fun _ S' => QA (.pv .non) S', rt := QA } [some (.pv (tp t)), some (.pv (.int l)), some (.hnd h), none, some (.pv (.str x)), v] S := by
  unfold rt_law_text_1 rh_law_text_1
  walk_at "ab"
  try simp only [isNonA]
  exact ⟨h, c, a, lf, rfl, he, hc, h0, ha, tail_2 _ _ t l x _ _ v hx q⟩
theorem rep_b (b : Bool) : repC (if b = true then 1 else 0) [45] = (if b = true then [45] else [] : Cs) := by cases b <;> rfl
theorem strs_map {α : Type} (f : α → Cs) (ts : List α) : strsP ((ts.map fun t => PV.str (f t)).map AV.pv) = some (ts.map f) := by
  have e : ((ts.map fun t => PV.str (f t)).map AV.pv) = (ts.map f).map fun b => .pv (.str b) := by
    rw [List.map_map, List.map_map]
    rfl
  rw [e]
  exact strsP_map _
theorem cntL_app : ∀ us vs : List Tr, cntL (us ++ vs) = cntL us + cntL vs
  | [], vs => by show cntL vs = 0 + cntL vs; omega
  | t :: r, vs => by
    have ih := cntL_app r vs
    show cnt t + cntL (r ++ vs) = (cnt t + cntL r) + cntL vs
    omega
theorem textsOf_snoc (c : Int) (l : Nat) (t : Tr) : ∀ (done : List Tr) (a : Int), textsOf c (done ++ [t]) l a = ((textsOf c done l a).1 ++ [(textOf c t l (textsOf c done l a).2).1], (textOf c t l (textsOf c done l a).2).2)
  | [], a => by
    show textsOf c [t] l a = _
    unfold textsOf textsOf
    rfl
  | u :: r, a => by
    have ih := textsOf_snoc c l t r (textOf c u l a).2
    show textsOf c (u :: (r ++ [t])) l a = _
    unfold textsOf
    dsimp only
    rw [ih]
    rfl
def lstW (row : Bool) : Nat := if row = true then 2 else 1
def sepW (row : Bool) : Nat := if row = true then 46 else 124
theorem sem_ltextN (ws : List AV) (h : spTxN (n + 1) ws S QA EA) : aSs (adOf K EA { sp := [(3, spTx n), (1, spDr)] }) rs_law_text { nx := fun _ S' => QA (.pv .non) S', rt := QA } (envStart N_law_text ws) S := by
  rw [rs_law_text_cut]
  unfold rt_law_text_0 rh_law_text_0
  obtain ⟨t, l, rfl, hl, hh, hz, q⟩ := h
  show aSs (adOf K EA { sp := [(3, spTx n), (1, spDr)] }) _ { nx := fun _ S' => QA (.pv .non) S', rt := QA } [some (.pv (tp t)), some (.pv (.int l)), some (.pv .non), none, none, none] S
  cases t with
  | step k b =>
    unfold Tr.text wrap at q
    rw [if_neg (by decide)] at q
    unfold dsz at hz
    walk_at "wt"
    rw [rep_b]
    have z := tail_N (EA := EA) (K := K) (.step k b) l ((if b = true then [45] else []) ++ k) none (3, spTx n) (by rw [List.length_append]; cases b <;> simp <;> omega) (by
      rw [show decide ((Tr.step k b).strength < l) = false from decide_eq_false (by show ¬ 3 < l; omega)]
      exact q)
    rw [tp_st] at z
    refine ⟨by cases b <;> decide, by cases b <;> decide, by decide, ?_, z⟩
    show _ ≤ 16777216
    cases b <;> simp <;> omega
  | often t s =>
    unfold Tr.text at q
    unfold dsz at hz
    unfold high at hh
    have hz2 := tsz_dsz t
    have hz3 := text_len t 3
    walk_at "wt"
    refine .inl ⟨t, 3, rfl, by decide, by omega, by omega, ?_⟩
    walk_at "wt"
    have z := tail_N (EA := EA) (K := K) (.often t s) l (t.text 3 ++ [s]) none (3, spTx n) (by rw [List.length_append]; simp; omega) q
    rw [tp_of] at z
    refine ⟨?_, z⟩
    show _ ≤ 16777216
    omega
  | node row ts =>
    have q : QA (.pv (.str (wrap (decide ((Tr.node row ts).strength < l)) (glue (sepW row) (textL ts (lstW row)))))) S := by
      cases row <;> exact q
    unfold dsz at hz
    unfold high at hh
    have hz2 := tszL_dsz ts
    have hz3 := textL_len ts (lstW row) (sepW row)
    have hz4 := textL_sum ts (lstW row)
    have hlen := tszL_len ts
    walk_at "wt"
    refine ⟨by decide, ?_⟩
    rw [dct2, dix2]
    have ese : (if row = true then PV.str [46] else PV.str [124]) = .str [sepW row] := by cases row <;> rfl
    rw [ese]
    refine ⟨by rw [aTyM_str]; trivial, by simp, ?_⟩
    refine lc_map (fun t => .pv (tp t)) (fun t => .str (t.text (lstW row))) (by trivial) (fun σ R => rfl) ts [] (by simp; omega) (fun t ht R hR => ⟨_, rfl, ?_⟩) ?_
    · walk_at "wt"
      refine ⟨by decide, ?_⟩
      rw [dct2, dix2]
      have eli : (if row = true then PV.int 2 else PV.int 1) = .int (lstW row) := by cases row <;> rfl
      rw [eli]
      have a1 := dszL_mem ht
      have a2 := highL_mem ht
      exact .inl ⟨t, lstW row, rfl, by cases row <;> decide, by omega, by omega, hR _ rfl⟩
    · rw [List.nil_append, alc_lst (pvs_map _), aJoin_lst (strs_map (fun t => t.text (lstW row)) ts)]
      rw [← textL_map, glue_join]
      have z := tail_N (EA := EA) (K := K) (.node row ts) l (glue (sepW row) (textL ts (lstW row))) none (3, spTx n) (by omega) q
      rw [tp_nd] at z
      refine ⟨?_, z⟩
      show _ ≤ 16777216
      simp only [List.length_cons, List.length_nil]
      omega
theorem sem_ltextS (ws : List AV) (h : spTxS (n + 1) ws S QA EA) : aSs (adOf K EA { sp := [(3, spTx n), (1, spDr)] }) rs_law_text { nx := fun _ S' => QA (.pv .non) S', rt := QA } (envStart N_law_text ws) S := by
  rw [rs_law_text_cut]
  unfold rt_law_text_0 rh_law_text_0
  obtain ⟨t, l, h, c, a, lf, rfl, hl, hh, hz, he, hc, h0, ha, q⟩ := h
  show aSs (adOf K EA { sp := [(3, spTx n), (1, spDr)] }) _ { nx := fun _ S' => QA (.pv .non) S', rt := QA } [some (.pv (tp t)), some (.pv (.int l)), some (.hnd h), none, none, none] S
  cases t with
  | step k b =>
    unfold textOf at q
    dsimp only at q
    unfold dsz at hz
    unfold cnt at ha
    walk_at "wt"
    rw [rep_b]
    have z := tail_S (EA := EA) (K := K) (.step k b) l h ((if b = true then [45] else []) ++ k) none (3, spTx n) he hc h0 (by omega) (by rw [List.length_append]; cases b <;> simp <;> omega) q
    rw [tp_st] at z
    refine ⟨by cases b <;> decide, by cases b <;> decide, by decide, ?_, z⟩
    show _ ≤ 16777216
    cases b <;> simp <;> omega
  | often t s =>
    unfold textOf at q
    dsimp only at q
    unfold dsz at hz
    unfold high at hh
    unfold cnt at ha
    have hz3 := textOf_len c t 3 a
    have hat := textOf_at c t 3 a
    walk_at "wt"
    refine .inr ⟨t, 3, h, c, a, lf, rfl, by decide, by omega, by omega, he, hc, h0, by omega, ?_⟩
    walk_at "wt"
    have z := tail_S (EA := EA) (K := K) (S := S.set h (.live (stD c (textOf c t 3 a).2 lf))) (QA := QA) (.often t s) l h ((textOf c t 3 a).1 ++ [s]) none (3, spTx n) (st_set he) hc (by omega) (by omega) (by rw [List.length_append]; simp; omega) (by rw [set_set]; exact q)
    rw [tp_of] at z
    refine ⟨?_, z⟩
    show _ ≤ 16777216
    omega
  | node row ts =>
    have q : QA (.pv (.str (dress (Tr.node row ts).strength l (drawn c ((textsOf c ts (lstW row) a).2 + 1)) (glue (sepW row) (textsOf c ts (lstW row) a).1)))) (S.set h (.live (stD c ((textsOf c ts (lstW row) a).2 + 1) lf))) := by
      unfold textOf at q
      cases row <;> exact q
    unfold dsz at hz
    unfold high at hh
    unfold cnt at ha
    have hz3 := textsOf_sum c ts (lstW row) a
    have hz4 := glue_len (sepW row) (textsOf c ts (lstW row) a).1
    have hlen := textsOf_len2 c ts (lstW row) a
    walk_at "wt"
    refine ⟨by decide, ?_⟩
    rw [dct2, dix2]
    have ese : (if row = true then PV.str [46] else PV.str [124]) = .str [sepW row] := by cases row <;> rfl
    rw [ese]
    refine ⟨by rw [aTyM_str]; trivial, by simp, ?_⟩
    rw [textsOf_len2] at hlen
    refine lcL_inv (fun (done : List Tr) acc S' => acc = (textsOf c done (lstW row) a).1.map (fun x => AV.pv (.str x)) ∧ S' = S.set h (.live (stD c (textsOf c done (lstW row) a).2 lf))) (fun t => .one (.pv (tp t))) ts (by rw [textsOf_len2] at hz3; omega) ?_ ?_ (fun σ S R => rfl) ?_ ts [] [] _ rfl ⟨rfl, by unfold textsOf; exact (set_same he).symm⟩
    · rintro done acc S' ⟨rfl, rfl⟩
      rw [List.length_map, textsOf_len2]
    · rintro done t rest acc S' R e ⟨rfl, rfl⟩ next
      have ht : t ∈ ts := by rw [e]; simp
      have a1 := dszL_mem ht
      have a2 := highL_mem ht
      have hcn : cntL ts = cntL done + (cnt t + cntL rest) := by rw [e, cntL_app]; rfl
      have hat := textsOf_at c done (lstW row) a
      refine ⟨trivial, _, rfl, rfl, ?_⟩
      walk_at "wt"
      refine ⟨by decide, ?_⟩
      rw [dct2, dix2]
      have eli : (if row = true then PV.int 2 else PV.int 1) = .int (lstW row) := by cases row <;> rfl
      rw [eli]
      refine .inr ⟨t, lstW row, h, c, (textsOf c done (lstW row) a).2, lf, rfl, by cases row <;> decide, by omega, by omega, st_set he, hc, by omega, by omega, ?_⟩
      rw [set_set]
      refine next _ _ ⟨?_, ?_⟩
      · rw [textsOf_snoc, List.map_append]
        rfl
      · rw [textsOf_snoc]
    · rintro acc S' ⟨rfl, rfl⟩
      refine ⟨trivial, ?_⟩
      have hat := textsOf_at c ts (lstW row) a
      have ep : pvs ((textsOf c ts (lstW row) a).1.map (fun x => AV.pv (.str x))) = some ((textsOf c ts (lstW row) a).1.map fun x => PV.str x) := by
        have z := pvs_map ((textsOf c ts (lstW row) a).1.map fun x => PV.str x)
        rw [List.map_map] at z
        exact z
      rw [alc_lst ep, aJoin_lst (strs_map (fun x => x) _), List.map_id', glue_join]
      have z := tail_S (EA := EA) (K := K) (S := S.set h (.live (stD c (textsOf c ts (lstW row) a).2 lf))) (QA := QA) (.node row ts) l h (glue (sepW row) (textsOf c ts (lstW row) a).1) none (3, spTx n) (st_set he) hc (by omega) (by omega) (by omega) (by rw [set_set]; exact q)
      rw [tp_nd] at z
      refine ⟨?_, z⟩
      show _ ≤ 16777216
      simp only [List.length_cons, List.length_nil]
      omega
theorem sem_ltext (ws : List AV) (h : spTx (n + 1) ws S QA EA) : aSs (adOf K EA { sp := [(3, spTx n), (1, spDr)] }) rs_law_text { nx := fun _ S' => QA (.pv .non) S', rt := QA } (envStart N_law_text ws) S := by
  rcases h with h | h
  · exact sem_ltextN ws h
  · exact sem_ltextS ws h
end
end Q05
set_option Elab.async false
set_option autoImplicit false
set_option linter.all false
set_option maxRecDepth 100000
set_option maxHeartbeats 8000000
/-! Law k05: the law's own going along a text, in plain terms; it tells what reading tells. -/
namespace Q05
open PySem PySem.Spec PyProof.Rows L2 Rf K04
def lrun (x : Cs) (a : Nat) : Nat := a + ((x.drop a).takeWhile letB).length
theorem lrun_let {x : Cs} {a c : Nat} (h : x[a]? = some c) (hc : letB c = true) : lrun x a = lrun x (a + 1) := by
  obtain ⟨hl, e⟩ := List.getElem?_eq_some_iff.mp h
  unfold lrun
  rw [List.drop_eq_getElem_cons hl, e, List.takeWhile_cons_of_pos hc, List.length_cons]
  omega
theorem lrun_no {x : Cs} {a : Nat} (h : (x[a]?).any letB = false) : lrun x a = a := by
  unfold lrun
  cases e : x.drop a with
  | nil => rfl
  | cons c r =>
    rw [drop_at e] at h
    have h : letB c = false := h
    rw [List.takeWhile_cons_of_neg (by rw [h]; decide)]
    rfl
theorem lrun_ge (x : Cs) (a : Nat) : a ≤ lrun x a := Nat.le_add_right _ _
theorem lrun_len {x : Cs} {a : Nat} (h : a ≤ x.length) : lrun x a ≤ x.length := by
  unfold lrun
  have h1 : ((x.drop a).takeWhile letB).length ≤ (x.drop a).length := (List.takeWhile_prefix _).length_le
  rw [List.length_drop] at h1
  omega
theorem letters_run2 (x : Cs) (first : Nat) : ∀ (f a : Nat), first ≤ a → a ≤ first + 8 → 9 - (a - first) < f → letters x first f a = some (if lrun x a ≤ first + 8 then lrun x a else first + 9)
  | 0, _, _, _, h => absurd h (Nat.not_lt_zero _)
  | f + 1, a, h1, h2, h3 => by
    unfold letters
    cases e : x[a]? with
    | none =>
      have q : lrun x a = a := lrun_no (by rw [e]; rfl)
      rw [q, if_pos h2]
    | some c =>
      dsimp only
      by_cases hc : letB c = true
      · rw [if_pos hc, lrun_let e hc]
        by_cases h8 : a - first = 8
        · have := lrun_ge x (a + 1)
          rw [if_pos h8, if_neg (by omega)]
          congr 1; omega
        · rw [if_neg h8]
          exact letters_run2 x first f (a + 1) (by omega) (by omega) (by omega)
      · have q : lrun x a = a := lrun_no (by rw [e]; simpa using hc)
        rw [if_neg hc, q, if_pos h2]
def oftB (x : Cs) (a : Nat) : Bool := (x[a]?).any fun c => decide (c = 42 ∨ c = 43 ∨ c = 63)
def behO (x : Cs) (a : Nat) : Nat := if oftB x a = true then a + 1 else a
/-- the place behind a step, or that of what can't stand in it -/
def stepE (x : Cs) (a : Nat) : Except Nat Nat :=
  let first := if x[a]? = some 45 then a + 1 else a
  let e := lrun x first
  if e = first then .error first else if 8 < e - first then .error (first + 8) else .ok (behO x e)
structure Sc where
  a : Nat
  o : Nat
  n : Nat
  w : Bool
def scan (x : Cs) (s : Sc) : Sum Sc (Option Nat) :=
  if s.w = true ∧ x[s.a]? = some 40 ∧ s.o < 10 then .inl ⟨s.a + 1, s.o + 1, s.n, true⟩
  else if s.w = true then
    if (x[s.a]? ≠ some 45 ∧ (x[s.a]?).any letB = false) ∨ s.n = 12 then .inr (some s.a)
    else match stepE x s.a with
      | .error p => .inr (some p)
      | .ok b => .inl ⟨b, s.o, s.n + 1, false⟩
  else match x[s.a]? with
    | none => .inr (if 0 < s.o then some s.a else none)
    | some c => if c = 46 ∨ c = 124 then .inl ⟨s.a + 1, s.o, s.n, true⟩
      else if c = 41 ∧ 0 < s.o then .inl ⟨behO x (s.a + 1), s.o - 1, s.n, false⟩
      else .inr (some s.a)
def scanN (x : Cs) : Nat → Sc → Option (Option Nat)
  | 0, _ => none
  | k + 1, s => match scan x s with
    | .inl s' => scanN x k s'
    | .inr r => some r
def Ev (x : Cs) (s : Sc) (r : Option Nat) : Prop := ∃ k, scanN x k s = some r
theorem Ev.go {x : Cs} {s s' : Sc} {r : Option Nat} (h : scan x s = .inl s') (e : Ev x s' r) : Ev x s r := by
  obtain ⟨k, hk⟩ := e
  refine ⟨k + 1, ?_⟩
  unfold scanN
  rw [h]
  exact hk
theorem Ev.fin {x : Cs} {s : Sc} {r : Option Nat} (h : scan x s = .inr r) : Ev x s r := by
  refine ⟨1, ?_⟩
  unfold scanN
  rw [h]
/-- a reading that the going along follows; behind it holds Q -/
def SimQ (x : Cs) (o : Nat) (f : Nat → Nat → PR) (Q : Nat → Prop) : Prop := ∀ a n, match f a n with
  | .ok _ b m => (∀ r, Ev x ⟨b, o, m, false⟩ r → Ev x ⟨a, o, n, true⟩ r) ∧ Q b
  | .bad p => Ev x ⟨a, o, n, true⟩ (some p)
  | .out => True
theorem rd_sim {x : Cs} {o a n : Nat} (h40 : x[a]? ≠ some 40) : match rdStep x a n with
    | .ok _ b m => ∀ r, Ev x ⟨behO x b, o, m, false⟩ r → Ev x ⟨a, o, n, true⟩ r
    | .bad p => Ev x ⟨a, o, n, true⟩ (some p)
    | .out => True := by
  have e0 : scan x ⟨a, o, n, true⟩ = if (x[a]? ≠ some 45 ∧ (x[a]?).any letB = false) ∨ n = 12 then .inr (some a)
      else match stepE x a with
      | .error p => .inr (some p)
      | .ok b => .inl ⟨b, o, n + 1, false⟩ := by
    unfold scan
    rw [if_neg (fun z => h40 z.2.1), if_pos rfl]
  unfold rdStep
  dsimp only
  by_cases h : (x[a]? ≠ some 45 ∧ (x[a]?).any letB = false) ∨ n = 12
  · rw [if_pos h] at e0
    rw [if_pos (h.imp (fun z => ⟨decide_eq_false z.1, by rw [z.2]; decide⟩) id)]
    exact .fin e0
  · rw [if_neg h] at e0
    rw [if_neg (fun z => h (z.imp (fun z => ⟨of_decide_eq_false z.1, by simpa using z.2⟩) id))]
    have ef : (if decide (x[a]? = some 45) = true then a + 1 else a) = if x[a]? = some 45 then a + 1 else a := by
      by_cases hb : x[a]? = some 45
      · rw [if_pos hb, if_pos (decide_eq_true hb)]
      · rw [if_neg hb, if_neg (by simpa using hb)]
    unfold stepE at e0
    dsimp only at e0
    rw [ef]
    generalize (if x[a]? = some 45 then a + 1 else a) = first at e0 ⊢
    have hg := lrun_ge x first
    rw [letters_run2 x first 10 first (Nat.le_refl _) (by omega) (by omega)]
    dsimp only
    by_cases h8 : lrun x first ≤ first + 8
    · rw [if_pos h8, if_neg (by omega)]
      by_cases h0 : lrun x first = first
      · rw [if_pos h0] at e0 ⊢
        exact .fin e0
      · rw [if_neg h0, if_neg (by omega)] at e0
        rw [if_neg h0]
        exact fun r z => .go e0 z
    · rw [if_neg (by omega), if_pos (by omega)] at e0
      rw [if_neg h8, if_pos (by omega)]
      exact .fin e0
theorem of_sim {x : Cs} {o : Nat} {br : Nat → Nat → PR} (hb : ∀ a n, x[a]? = some 40 → match br a n with
    | .ok _ b m => ∀ r, Ev x ⟨behO x b, o, m, false⟩ r → Ev x ⟨a, o, n, true⟩ r
    | .bad p => Ev x ⟨a, o, n, true⟩ (some p)
    | .out => True) : SimQ x o (oftenR br (rdStep x) x) (fun _ => True) := by
  intro a n
  unfold oftenR
  have key : match (if x[a]? = some 40 then br a n else rdStep x a n) with
    | .ok _ b m => ∀ r, Ev x ⟨behO x b, o, m, false⟩ r → Ev x ⟨a, o, n, true⟩ r
    | .bad p => Ev x ⟨a, o, n, true⟩ (some p)
    | .out => True := by
    by_cases h : x[a]? = some 40
    · rw [if_pos h]; exact hb a n h
    · rw [if_neg h]; exact rd_sim h
  generalize (if x[a]? = some 40 then br a n else rdStep x a n) = R at key ⊢
  cases R with
  | out => trivial
  | bad p => exact key
  | ok t b m =>
    dsimp only at key ⊢
    unfold behO oftB at key
    cases e : x[b]? with
    | none =>
      rw [e] at key
      exact ⟨key, trivial⟩
    | some c =>
      rw [e] at key
      dsimp only
      by_cases hc : c = 42 ∨ c = 43 ∨ c = 63
      · rw [if_pos hc]
        rw [if_pos (show (some c).any (fun c => decide (c = 42 ∨ c = 43 ∨ c = 63)) = true from decide_eq_true hc)] at key
        exact ⟨key, trivial⟩
      · rw [if_neg hc]
        rw [if_neg (show ¬ (some c).any (fun c => decide (c = 42 ∨ c = 43 ∨ c = 63)) = true from fun z => hc (of_decide_eq_true z))] at key
        exact ⟨key, trivial⟩
theorem scan_sep {x : Cs} {a o n c : Nat} (h : x[a]? = some c) (hc : c = 46 ∨ c = 124) : scan x ⟨a, o, n, false⟩ = .inl ⟨a + 1, o, n, true⟩ := by
  unfold scan
  rw [if_neg (fun z => Bool.false_ne_true z.1), if_neg Bool.false_ne_true]
  dsimp only
  rw [h]
  dsimp only
  rw [if_pos hc]
theorem more_sim {x : Cs} {o : Nat} {item : Nat → Nat → PR} {sep : Nat} {row : Bool} {Q : Nat → Prop} (hs : sep = 46 ∨ sep = 124) (h : SimQ x o item Q) :
    ∀ (f : Nat) (ts : List Tr) (a n : Nat), Q a → match moreR item sep row x f ts a n with
      | .ok _ b m => (∀ r, Ev x ⟨b, o, m, false⟩ r → Ev x ⟨a, o, n, false⟩ r) ∧ Q b ∧ x[b]? ≠ some sep
      | .bad p => Ev x ⟨a, o, n, false⟩ (some p)
      | .out => True
  | 0, _, _, _, _ => trivial
  | f + 1, ts, a, n, hq => by
    unfold moreR
    by_cases e : x[a]? = some sep
    · rw [if_pos e]
      have sc := scan_sep (o := o) (n := n) e hs
      have q := h (a + 1) n
      cases er : item (a + 1) n with
      | out => trivial
      | bad p =>
        rw [er] at q
        exact .go sc q
      | ok t b m =>
        rw [er] at q
        dsimp only at q ⊢
        have z := more_sim (row := row) hs h f (ts ++ [t]) b m q.2
        cases em : moreR item sep row x f (ts ++ [t]) b m with
        | out => trivial
        | bad p =>
          rw [em] at z
          exact .go sc (q.1 _ z)
        | ok t2 b2 m2 =>
          rw [em] at z
          exact ⟨fun r k => .go sc (q.1 _ (z.1 r k)), z.2⟩
    · rw [if_neg e]
      exact ⟨fun _ k => k, hq, e⟩
theorem many_sim {x : Cs} {o : Nat} {item : Nat → Nat → PR} {sep : Nat} {row : Bool} {Q : Nat → Prop} (hs : sep = 46 ∨ sep = 124) (h : SimQ x o item Q) : SimQ x o (manyR item sep row x) (fun b => Q b ∧ x[b]? ≠ some sep) := by
  intro a n
  unfold manyR
  have q := h a n
  cases er : item a n with
  | out => trivial
  | bad p => rw [er] at q; exact q
  | ok t b m =>
    rw [er] at q
    dsimp only at q ⊢
    have z := more_sim (row := row) hs h 14 [t] b m q.2
    cases em : moreR item sep row x 14 [t] b m with
    | out => trivial
    | bad p => rw [em] at z; exact q.1 _ z
    | ok t2 b2 m2 => rw [em] at z; exact ⟨fun r k => q.1 _ (z.1 r k), z.2⟩
theorem scan_brk {x : Cs} {a o n : Nat} (h : x[a]? = some 40) (ho : o < 10) : scan x ⟨a, o, n, true⟩ = .inl ⟨a + 1, o + 1, n, true⟩ := by
  unfold scan
  rw [if_pos ⟨rfl, h, ho⟩]
theorem br_sim (x : Cs) : ∀ D, D ≤ 10 → ∀ a n, x[a]? = some 40 → match brR x D a n with
    | .ok _ b m => ∀ r, Ev x ⟨behO x b, 10 - D, m, false⟩ r → Ev x ⟨a, 10 - D, n, true⟩ r
    | .bad p => Ev x ⟨a, 10 - D, n, true⟩ (some p)
    | .out => True
  | 0, _, a, n, h => by
    show Ev x ⟨a, 10, n, true⟩ (some a)
    refine .fin ?_
    unfold scan
    rw [if_neg (fun z => absurd z.2.2 (Nat.lt_irrefl _)), if_pos rfl]
    dsimp only
    rw [if_pos (.inl ⟨by rw [h]; decide, by rw [h]; decide⟩)]
  | D + 1, hD, a, n, h => by
    rw [brR_succ, if_pos h]
    have io : SimQ x (10 - D) (ofR x D) (fun _ => True) := of_sim (br_sim x D (by omega))
    have ic := many_sim (sep := 124) (row := false) (.inr rfl) (many_sim (sep := 46) (row := true) (.inl rfl) io)
    have e10 : 10 - (D + 1) + 1 = 10 - D := by omega
    have sb := scan_brk (o := 10 - (D + 1)) (n := n) h (by omega)
    rw [e10] at sb
    unfold brackR
    have q := ic (a + 1) n
    unfold chR rwR
    cases er : manyR (manyR (ofR x D) 46 true x) 124 false x (a + 1) n with
    | out => trivial
    | bad p => rw [er] at q; exact .go sb q
    | ok t b m =>
      rw [er] at q
      dsimp only at q ⊢
      obtain ⟨q1, ⟨_, q2⟩, q3⟩ := q
      have es : scan x ⟨b, 10 - D, m, false⟩ = match x[b]? with
        | none => .inr (if 0 < 10 - D then some b else none)
        | some c => if c = 46 ∨ c = 124 then .inl ⟨b + 1, 10 - D, m, true⟩
          else if c = 41 ∧ 0 < 10 - D then .inl ⟨behO x (b + 1), 10 - D - 1, m, false⟩
          else .inr (some b) := by
        unfold scan
        rw [if_neg (fun z => Bool.false_ne_true z.1), if_neg Bool.false_ne_true]
      by_cases hb : x[b]? = some 41
      · rw [if_pos hb]
        rw [hb] at es
        dsimp only at es
        rw [if_neg (by decide), if_pos ⟨rfl, by omega⟩] at es
        have e11 : 10 - D - 1 = 10 - (D + 1) := by omega
        rw [e11] at es
        exact fun r k => .go sb (q1 _ (.go es k))
      · rw [if_neg hb]
        refine .go sb (q1 _ (.fin ?_))
        rw [es]
        cases ec : x[b]? with
        | none =>
          dsimp only
          rw [if_pos (by omega)]
        | some c =>
          rw [ec] at hb q2 q3
          dsimp only
          rw [if_neg (fun z => z.elim (fun z => q2 (by rw [z])) (fun z => q3 (by rw [z]))), if_neg (fun z => hb (by rw [z.1]))]
def wdO (r : PR) : Option Nat := match r with
  | .bad p => some p
  | _ => none
/-- the going along a whole text tells what reading tells -/
theorem place_word (x : Cs) : Ev x ⟨0, 0, 0, true⟩ (wdO (wordR x)) ∧ wordR x ≠ .out := by
  have io : SimQ x 0 (ofR x 10) (fun _ => True) := of_sim (br_sim x 10 (Nat.le_refl _))
  have ic := many_sim (sep := 124) (row := false) (.inr rfl) (many_sim (sep := 46) (row := true) (.inl rfl) io)
  have q := ic 0 0
  have k := chR_keeps x 10 0 0 (Nat.zero_le _) (by decide)
  unfold wordR
  unfold chR rwR at k ⊢
  cases er : manyR (manyR (ofR x 10) 46 true x) 124 false x 0 0 with
  | out => rw [er] at k; exact k.elim
  | bad p => rw [er] at q; exact ⟨q, fun e => by cases e⟩
  | ok t b m =>
    rw [er] at q
    dsimp only at q ⊢
    obtain ⟨q1, ⟨_, q2⟩, q3⟩ := q
    have es : scan x ⟨b, 0, m, false⟩ = match x[b]? with
      | none => .inr (if 0 < 0 then some b else none)
      | some c => if c = 46 ∨ c = 124 then .inl ⟨b + 1, 0, m, true⟩
        else if c = 41 ∧ 0 < 0 then .inl ⟨behO x (b + 1), 0 - 1, m, false⟩
        else .inr (some b) := by
      unfold scan
      rw [if_neg (fun z => Bool.false_ne_true z.1), if_neg Bool.false_ne_true]
    by_cases hb : b < x.length
    · rw [if_pos hb]
      refine ⟨q1 _ (.fin ?_), fun e => by cases e⟩
      rw [es]
      cases ec : x[b]? with
      | none => rw [List.getElem?_eq_none_iff] at ec; omega
      | some c =>
        rw [ec] at q2 q3
        dsimp only
        rw [if_neg (fun z => z.elim (fun z => q2 (by rw [z])) (fun z => q3 (by rw [z]))), if_neg (fun z => absurd z.2 (Nat.lt_irrefl _))]
        rfl
    · rw [if_neg hb]
      refine ⟨q1 _ (.fin ?_), fun e => by cases e⟩
      rw [es, List.getElem?_eq_none_iff.mpr (by omega)]
      rfl
end Q05
set_option Elab.async false
set_option autoImplicit false
set_option linter.all false
set_option maxRecDepth 100000
set_option maxHeartbeats 8000000
/-! Law k05: the walks of the law's own going along. -/
namespace Q05
open PySem PySem.Spec PyProof.Rows L2 Rf K04
open Lean in
local macro_rules
  | `(tactic| walk_at "ab") => `(tactic| try simp only [aSs, aS, aE, aA, aO, aT, aC, aI, adOf_K, adOf_sp, adOf_gv, adOf_ex, adOf_me, adOf_mks, adOf_exi, adOf_W, blkA_K, blkA_sp, blkA_gv, blkA_me, blkA_mks, insM_ins, List.map_cons, List.map_nil, mk2,
      List.lookup_cons, List.lookup_nil, beq_self_eq_true, List.getElem?_cons_zero, List.getElem?_cons_succ, List.length_cons, List.length_nil, tl_sOf, sOf_tl, setEnv0, setEnvS, wipeA,
      aBin, aCmp, aBF, aTF, aBM, aAdd_int, aAdd_str, aAdd_lst, aMul_int, aMul_str, aI2_int, aOrd_int, aOrd_str, aEq_int, aEq_str, aEq_bl, aIs_bl, aIs_non, isNonA, aIn_sign, aIn_tup, aIn_lst, flatP, aIx_str, aIx_lst, aIx_tup, aSl_str, aNeg_int, aTr_non, aTr_bl, aTr_int, aTr_str, bl?_bl,
      aLen_str, aLen_lst, aLen_tup, aInt_int, aInt_bl, aListF_lst, aTupF_lst, alc_t, pvs_nil, pvs_cons, pvk_nil, pvk_cons, aTyM_str, aTyM_lst, BM.ty, lstB_pv, seqA_lst, seqA_tup, extA_lst, extA_tup, Option.map_some, Option.map_none, Option.bind_some, Bool.false_xor, Bool.true_xor, Bool.not_true, Bool.not_false, true_and, and_true, reduceCtorEq, if_true, if_false,
      entL_new0, entR_new0, entL_new, entR_new, entL_0, entR_0, entR_0k, set_new, set_new0, len_new, app_one])
open Lean in
local macro_rules
  | `(tactic| walk_at "w") => `(tactic| (walk_at "ab"; try simp only [ne_kb, ne_ps, ne_as, ne_ds, ne_da, fcst, fcrw, fcch, fcof, fcrd, fnk, fnb, fnr, fnc, fnp, fns, fn1, fn2, fn3, insM_ob, obF_st, obF_of, obF_nd, true_and, and_true]; walk_at "ab"))
open Lean in
local macro_rules
  | `(tactic| walk_at "wm") => do
    let mt := mkIdent `mt
    `(tactic| (walk_at "w"; try simp only [($mt).str, ($mt).txt, ($mt).stp, ($mt).non]; walk_at "w"))
open Lean in
local macro_rules
  | `(tactic| walk_at "ws") => do
    let lx := mkIdent `lx
    `(tactic| (walk_at "ab"; try simp only [cut_sgn, $lx:term, true_and, and_true]; walk_at "ab"))
def spBl : ASp := fun ws S Q _ => ∃ (x : Cs) (a : Nat), ws = [.pv (.str x), .pv (.int a)] ∧ x.length ≤ 10000 ∧ Q (.pv (.int (lrun x a : Nat))) S
def spBo : ASp := fun ws S Q _ => ∃ (x : Cs) (a : Nat), ws = [.pv (.str x), .pv (.int a)] ∧ x.length ≤ 10000 ∧ Q (.pv (.int (behO x a : Nat))) S
def seI (r : Except Nat Nat) : Int := match r with
  | .ok b => b
  | .error p => -1 - p
def spSe : ASp := fun ws S Q _ => ∃ (x : Cs) (a : Nat), ws = [.pv (.str x), .pv (.int a)] ∧ x.length ≤ 10000 ∧ Q (.pv (.int (seI (stepE x a)))) S
def plV (r : Option Nat) : PV := match r with
  | some p => .int p
  | none => .non
def spPl : ASp := fun ws S Q _ => ∃ x : Cs, ws = [.pv (.str x)] ∧ x.length ≤ 10000 ∧ Q (.pv (plV (wdO (wordR x)))) S
theorem line_of {x : Cs} (hx : x.length ≤ 10000) : (x.length ≤ line) = True := eq_true (Nat.le_trans hx (by decide))
theorem in3 (x : Cs) (a : Nat) : inP (PV.str (sgn x a)) [PV.str [42], PV.str [43], PV.str [63]] = oftB x a := by
  unfold oftB
  cases e : x[a]? with
  | none =>
    rw [sgn_end e]
    rfl
  | some c =>
    rw [sgn_at e]
    show (([42] : Cs) == [c] || (([43] : Cs) == [c] || (([63] : Cs) == [c] || false))) = decide (c = 42 ∨ c = 43 ∨ c = 63)
    by_cases h1 : c = 42
    · subst h1; rfl
    · by_cases h2 : c = 43
      · subst h2; rfl
      · by_cases h3 : c = 63
        · subst h3; rfl
        · rw [decide_eq_false (by simp [h1, h2, h3])]
          have n1 : ¬ 42 = c := fun e => h1 e.symm
          have n2 : ¬ 43 = c := fun e => h2 e.symm
          have n3 : ¬ 63 = c := fun e => h3 e.symm
          simp [n1, n2, n3]
theorem in2 (x : Cs) (a : Nat) : inP (PV.str (sgn x a)) [PV.str [46], PV.str [124]] = (x[a]?).any fun c => decide (c = 46 ∨ c = 124) := by
  cases e : x[a]? with
  | none =>
    rw [sgn_end e]
    rfl
  | some c =>
    rw [sgn_at e]
    show (([46] : Cs) == [c] || (([124] : Cs) == [c] || false)) = decide (c = 46 ∨ c = 124)
    by_cases h1 : c = 46
    · subst h1; rfl
    · by_cases h2 : c = 124
      · subst h2; rfl
      · rw [decide_eq_false (by simp [h1, h2])]
        have n1 : ¬ 46 = c := fun e => h1 e.symm
        have n2 : ¬ 124 = c := fun e => h2 e.symm
        simp [n1, n2]
section
variable {K : Fg} {W : Cl} {EA : AEr} {QA : AQ} {S : Sto}
theorem sem_bletters (ws : List AV) (h : spBl ws S QA EA) : aSs (adOf K EA {}) rs_law_behind_letters { nx := fun _ S' => QA (.pv .non) S', rt := QA } (envStart N_law_behind_letters ws) S := by
  obtain ⟨x, a, rfl, hx, q⟩ := h
  have lx := line_of hx
  show aSs (adOf K EA {}) rs_law_behind_letters { nx := fun _ S' => QA (.pv .non) S', rt := QA } [some (.pv (.str x)), some (.pv (.int a))] S
  rw [rs_law_behind_letters_cut]
  unfold rt_law_behind_letters_0 rh_law_behind_letters_0
  unfold aSs aS
  refine ⟨x.length - a + 1, whN_inv (fun k σ S' => ∃ b : Nat, σ = [some (.pv (.str x)), some (.pv (.int b))] ∧ S' = S ∧ x.length - b + 1 ≤ k ∧ lrun x b = lrun x a) ?_ ?_ (x.length - a + 1) _ _ ⟨a, rfl, rfl, Nat.le_refl _, rfl⟩⟩
  · rintro σ S' ⟨b, _, _, hk, _⟩
    omega
  · rintro k σ S' N ⟨b, rfl, rfl, hk, e⟩ next
    have hl := let_eq x b
    walk_at "ws"
    have out : (x[b]?).any letB = false → aSs (adOf K EA {}) rt_law_behind_letters_1 { nx := fun _ S' => QA (.pv .non) S', rt := QA } [some (.pv (.str x)), some (.pv (.int b))] S' := by
      intro hn
      rw [← e, lrun_no hn] at q
      unfold rt_law_behind_letters_1 rh_law_behind_letters_1
      walk_at "ws"
      exact q
    generalize decide (sgn x b < [97]) = lo at hl ⊢
    generalize decide ([122] < sgn x b) = hi at hl ⊢
    cases lo with
    | true =>
      walk_at "ws"
      exact out (by rw [← hl]; rfl)
    | false =>
      cases hi with
      | true =>
        walk_at "ws"
        exact out (by rw [← hl]; rfl)
      | false =>
        walk_at "ws"
        cases ex : x[b]? with
        | none => rw [ex] at hl; cases hl
        | some c =>
          rw [ex] at hl
          have hc : letB c = true := hl.symm
          have := at_len ex
          rw [lrun_let ex hc] at e
          exact next _ _ ⟨b + 1, rfl, rfl, by omega, e⟩
theorem sem_boften (ws : List AV) (h : spBo ws S QA EA) : aSs (adOf K EA {}) rs_law_behind_often { nx := fun _ S' => QA (.pv .non) S', rt := QA } (envStart N_law_behind_often ws) S := by
  obtain ⟨x, a, rfl, hx, q⟩ := h
  have lx := line_of hx
  show aSs (adOf K EA {}) rs_law_behind_often { nx := fun _ S' => QA (.pv .non) S', rt := QA } [some (.pv (.str x)), some (.pv (.int a))] S
  unfold rs_law_behind_often
  walk_at "ws"
  refine ⟨by decide, rfl, ?_⟩
  rw [in3]
  unfold behO at q
  cases e : oftB x a with
  | true => rw [e] at q; exact q
  | false =>
    rw [e] at q
    have e0 : (a : Int) + (if false = true then 1 else 0) = (a : Int) := by simp
    simp only [Bool.false_eq_true, if_false] at q ⊢
    rw [Int.add_zero]
    exact q
theorem sem_stepend (ws : List AV) (h : spSe ws S QA EA) : aSs (adOf K EA { sp := [(2, spBl), (2, spBo)] }) rs_law_step_end { nx := fun _ S' => QA (.pv .non) S', rt := QA } (envStart N_law_step_end ws) S := by
  obtain ⟨x, a, rfl, hx, q⟩ := h
  have lx := line_of hx
  show aSs (adOf K EA { sp := [(2, spBl), (2, spBo)] }) rs_law_step_end { nx := fun _ S' => QA (.pv .non) S', rt := QA } [some (.pv (.str x)), some (.pv (.int a)), none, none] S
  rw [rs_law_step_end_cut]
  unfold rt_law_step_end_0 rh_law_step_end_0
  walk_at "ws"
  rw [sgn_is]
  have ef : (a : Int) + (if decide (x[a]? = some 45) = true then 1 else 0) = ((if x[a]? = some 45 then a + 1 else a : Nat) : Int) := by
    by_cases hb : x[a]? = some 45
    · simp [hb]
    · simp [hb]
  rw [ef]
  unfold stepE at q
  dsimp only at q
  generalize (if x[a]? = some 45 then a + 1 else a) = first at q ⊢
  unfold rt_law_step_end_1 rh_law_step_end_1
  walk_at "ws"
  refine ⟨x, first, rfl, hx, ?_⟩
  have hg := lrun_ge x first
  generalize lrun x first = e at q hg ⊢
  unfold rt_law_step_end_2 rh_law_step_end_2
  walk_at "ws"
  by_cases h0 : e = first
  · rw [if_pos h0] at q
    rw [decide_eq_true (by omega)]
    walk_at "ws"
    exact q
  · rw [if_neg h0] at q
    rw [decide_eq_false (by omega)]
    walk_at "ws"
    unfold rt_law_step_end_3 rh_law_step_end_3
    walk_at "ws"
    by_cases h8 : 8 < e - first
    · rw [if_pos h8] at q
      rw [decide_eq_true (by omega)]
      walk_at "ws"
      exact q
    · rw [if_neg h8] at q
      rw [decide_eq_false (by omega)]
      walk_at "ws"
      unfold rt_law_step_end_4 rh_law_step_end_4
      walk_at "ws"
      exact ⟨x, e, rfl, hx, q⟩
end
end Q05
set_option Elab.async false
set_option autoImplicit false
set_option linter.all false
set_option maxRecDepth 100000
set_option maxHeartbeats 8000000
/-! Law k05: the walk of the law's own place. -/
namespace Q05
open PySem PySem.Spec PyProof.Rows L2 Rf K04
open Lean in
local macro_rules
  | `(tactic| walk_at "ab") => `(tactic| try simp only [aSs, aS, aE, aA, aO, aT, aC, aI, adOf_K, adOf_sp, adOf_gv, adOf_ex, adOf_me, adOf_mks, adOf_exi, adOf_W, blkA_K, blkA_sp, blkA_gv, blkA_me, blkA_mks, insM_ins, List.map_cons, List.map_nil, mk2,
      List.lookup_cons, List.lookup_nil, beq_self_eq_true, List.getElem?_cons_zero, List.getElem?_cons_succ, List.length_cons, List.length_nil, tl_sOf, sOf_tl, setEnv0, setEnvS, wipeA,
      aBin, aCmp, aBF, aTF, aBM, aAdd_int, aAdd_str, aAdd_lst, aMul_int, aMul_str, aI2_int, aOrd_int, aOrd_str, aEq_int, aEq_str, aEq_bl, aIs_bl, aIs_non, isNonA, aIn_sign, aIn_tup, aIn_lst, flatP, aIx_str, aIx_lst, aIx_tup, aSl_str, aNeg_int, aTr_non, aTr_bl, aTr_int, aTr_str, bl?_bl,
      aLen_str, aLen_lst, aLen_tup, aInt_int, aInt_bl, aListF_lst, aTupF_lst, alc_t, pvs_nil, pvs_cons, pvk_nil, pvk_cons, aTyM_str, aTyM_lst, BM.ty, lstB_pv, seqA_lst, seqA_tup, extA_lst, extA_tup, Option.map_some, Option.map_none, Option.bind_some, Bool.false_xor, Bool.true_xor, Bool.not_true, Bool.not_false, true_and, and_true, reduceCtorEq, if_true, if_false,
      entL_new0, entR_new0, entL_new, entR_new, entL_0, entR_0, entR_0k, set_new, set_new0, len_new, app_one])
open Lean in
local macro_rules
  | `(tactic| walk_at "w") => `(tactic| (walk_at "ab"; try simp only [ne_kb, ne_ps, ne_as, ne_ds, ne_da, fcst, fcrw, fcch, fcof, fcrd, fnk, fnb, fnr, fnc, fnp, fns, fn1, fn2, fn3, insM_ob, obF_st, obF_of, obF_nd, true_and, and_true]; walk_at "ab"))
open Lean in
local macro_rules
  | `(tactic| walk_at "wm") => do
    let mt := mkIdent `mt
    `(tactic| (walk_at "w"; try simp only [($mt).str, ($mt).txt, ($mt).stp, ($mt).non]; walk_at "w"))
open Lean in
local macro_rules
  | `(tactic| walk_at "ws") => do
    let lx := mkIdent `lx
    `(tactic| (walk_at "ab"; try simp only [cut_sgn, $lx:term, true_and, and_true]; walk_at "ab"))
theorem sgn_nil (x : Cs) (a : Nat) : decide (sgn x a = []) = (x[a]?).isNone := by
  cases e : x[a]? with
  | none => rw [sgn_end e]; rfl
  | some c => rw [sgn_at e]; rfl
theorem dec_lt (a b : Nat) : decide ((a : Int) < (b : Int)) = decide (a < b) := by
  by_cases h : a < b
  · rw [decide_eq_true h, decide_eq_true (by omega)]
  · rw [decide_eq_false h, decide_eq_false (by omega)]
section
variable {K : Fg} {W : Cl} {EA : AEr} {QA : AQ} {S : Sto}
theorem sem_place (ws : List AV) (h : spPl ws S QA EA) : aSs (adOf K EA { sp := [(2, spSe), (2, spBo)] }) rs_law_place { nx := fun _ S' => QA (.pv .non) S', rt := QA } (envStart N_law_place ws) S := by
  obtain ⟨x, rfl, hx, q⟩ := h
  have lx := line_of hx
  have ev := (place_word x).1
  generalize wdO (wordR x) = r at q ev
  obtain ⟨k, hk⟩ := ev
  show aSs (adOf K EA { sp := [(2, spSe), (2, spBo)] }) rs_law_place { nx := fun _ S' => QA (.pv .non) S', rt := QA } [some (.pv (.str x)), none, none, none, none, none, none] S
  rw [rs_law_place_cut]
  unfold rt_law_place_0 rh_law_place_0
  walk_at "ws"
  unfold rt_law_place_1 rh_law_place_1
  walk_at "ws"
  unfold rt_law_place_2 rh_law_place_2
  walk_at "ws"
  unfold rt_law_place_3 rh_law_place_3
  walk_at "ws"
  unfold rt_law_place_4 rh_law_place_4
  unfold aSs aS
  refine ⟨k, whN_inv (fun k σ S' => ∃ (s : Sc) (v5 v6 : Option AV), σ = [some (.pv (.str x)), some (.pv (.int s.a)), some (.pv (.int s.o)), some (.pv (.int s.n)), some (.pv (.bl s.w)), v5, v6] ∧ S' = S ∧ scanN x k s = some r) ?_ ?_ k _ _ ⟨⟨0, 0, 0, true⟩, none, none, rfl, rfl, hk⟩⟩
  · rintro σ S' ⟨s, _, _, _, _, e⟩
    cases e
  · rintro k σ S' N ⟨⟨a, o, n, w⟩, v5, v6, rfl, rfl, e⟩ next
    walk_at "ws"
    unfold scanN at e
    have l1 := let_eq x a
    cases w with
    | true =>
      have e0 : scan x ⟨a, o, n, true⟩ = if x[a]? = some 40 ∧ o < 10 then .inl ⟨a + 1, o + 1, n, true⟩
          else if (x[a]? ≠ some 45 ∧ (x[a]?).any letB = false) ∨ n = 12 then .inr (some a)
          else match stepE x a with
          | .error p => .inr (some p)
          | .ok b => .inl ⟨b, o, n + 1, false⟩ := by
        unfold scan
        by_cases hh : x[a]? = some 40 ∧ o < 10
        · rw [if_pos ⟨rfl, hh⟩, if_pos hh]
        · rw [if_neg (fun z => hh z.2), if_neg hh, if_pos rfl]
          all_goals rfl
      rw [e0] at e
      walk_at "ws"
      simp only [sgn_is, dec_lt]
      generalize decide (sgn x a < [97]) = lo at l1 ⊢
      generalize decide ([122] < sgn x a) = hi at l1 ⊢
      have bad : ¬ (x[a]? = some 40 ∧ o < 10) → ((x[a]? ≠ some 45 ∧ (x[a]?).any letB = false) ∨ n = 12) → QA (AV.pv (PV.int a)) S' := fun h1 h2 => by
        rw [if_neg h1, if_pos h2] at e
        cases e
        exact q
      have stp : ¬ (x[a]? = some 40 ∧ o < 10) → ¬ ((x[a]? ≠ some 45 ∧ (x[a]?).any letB = false) ∨ n = 12) → spSe [AV.pv (PV.str x), AV.pv (PV.int a)] S'
            (fun w S1 =>
              aOrd (fun i j => decide (i < j)) (fun a b => decide (a < b)) w (AV.pv (PV.int 0)) S1 fun z S3 =>
                match bl? z with
                | some k =>
                  match k with
                  | true => aI2 (fun x x_1 => True) (fun i j => PV.int (i - j)) (AV.pv (PV.int (-1))) w S3 QA
                  | false =>
                    N
                      [some (AV.pv (PV.str x)), some w, some (AV.pv (PV.int o)), some (AV.pv (PV.int ((n : Int) + 1))),
                        some (AV.pv (PV.bl false)), some (AV.pv (PV.str (sgn x a))), some w]
                      S3
                | none => False)
            fun C gs S' => EA C gs S' := fun h1 h2 => by
        rw [if_neg h1, if_neg h2] at e
        refine ⟨x, a, rfl, hx, ?_⟩
        cases es : stepE x a with
        | error p =>
          rw [es] at e
          cases e
          unfold seI
          walk_at "ws"
          rw [decide_eq_true (by omega)]
          walk_at "ws"
          have ep : (-1 - (-1 - (p : Int))) = p := by omega
          rw [ep]
          exact q
        | ok b =>
          rw [es] at e
          unfold seI
          walk_at "ws"
          rw [decide_eq_false (by omega)]
          walk_at "ws"
          exact next _ _ ⟨⟨b, o, n + 1, false⟩, _, _, rfl, rfl, e⟩
      have e10 : decide ((o : Int) < 10) = decide (o < 10) := dec_lt o 10
      have e12 : decide ((n : Int) = 12) = decide (n = 12) := by
        by_cases h : n = 12
        · rw [decide_eq_true h, decide_eq_true (by omega)]
        · rw [decide_eq_false h, decide_eq_false (by omega)]
      rw [e10, e12]
      have last : ∀ hn : ¬ (x[a]? = some 40 ∧ o < 10), (x[a]? ≠ some 45 → (x[a]?).any letB = true) → (match decide (n = 12) with
          | true => QA (AV.pv (PV.int a)) S'
          | false => spSe [AV.pv (PV.str x), AV.pv (PV.int a)] S'
            (fun w S1 =>
              aOrd (fun i j => decide (i < j)) (fun a b => decide (a < b)) w (AV.pv (PV.int 0)) S1 fun z S3 =>
                match bl? z with
                | some k =>
                  match k with
                  | true => aI2 (fun x x_1 => True) (fun i j => PV.int (i - j)) (AV.pv (PV.int (-1))) w S3 QA
                  | false =>
                    N
                      [some (AV.pv (PV.str x)), some w, some (AV.pv (PV.int o)), some (AV.pv (PV.int ((n : Int) + 1))),
                        some (AV.pv (PV.bl false)), some (AV.pv (PV.str (sgn x a))), some w]
                      S3
                | none => False)
            fun C gs S' => EA C gs S') := fun hn hx => by
        by_cases h : n = 12
        · rw [decide_eq_true h]; exact bad hn (.inr h)
        · rw [decide_eq_false h]
          exact stp hn fun z => z.elim (fun z => by rw [hx z.1] at z; exact Bool.false_ne_true z.2.symm) h
      by_cases h40 : x[a]? = some 40 ∧ o < 10
      · rw [decide_eq_true h40.1, decide_eq_true h40.2]
        rw [if_pos h40] at e
        exact next _ _ ⟨⟨a + 1, o + 1, n, true⟩, _, _, rfl, rfl, e⟩
      · have rest : (match decide (x[a]? = some 45) with
            | true => (match decide (n = 12) with
              | true => QA (AV.pv (PV.int a)) S'
              | false => spSe [AV.pv (PV.str x), AV.pv (PV.int a)] S'
                (fun w S1 =>
                  aOrd (fun i j => decide (i < j)) (fun a b => decide (a < b)) w (AV.pv (PV.int 0)) S1 fun z S3 =>
                    match bl? z with
                    | some k =>
                      match k with
                      | true => aI2 (fun x x_1 => True) (fun i j => PV.int (i - j)) (AV.pv (PV.int (-1))) w S3 QA
                      | false =>
                        N
                          [some (AV.pv (PV.str x)), some w, some (AV.pv (PV.int o)), some (AV.pv (PV.int ((n : Int) + 1))),
                            some (AV.pv (PV.bl false)), some (AV.pv (PV.str (sgn x a))), some w]
                          S3
                    | none => False)
                fun C gs S' => EA C gs S')
            | false => (match some !lo with
              | some true => (match !!hi with
                | true => QA (AV.pv (PV.int a)) S'
                | false => (match decide (n = 12) with
                  | true => QA (AV.pv (PV.int a)) S'
                  | false => spSe [AV.pv (PV.str x), AV.pv (PV.int a)] S'
                    (fun w S1 =>
                      aOrd (fun i j => decide (i < j)) (fun a b => decide (a < b)) w (AV.pv (PV.int 0)) S1 fun z S3 =>
                        match bl? z with
                        | some k =>
                          match k with
                          | true => aI2 (fun x x_1 => True) (fun i j => PV.int (i - j)) (AV.pv (PV.int (-1))) w S3 QA
                          | false =>
                            N
                              [some (AV.pv (PV.str x)), some w, some (AV.pv (PV.int o)), some (AV.pv (PV.int ((n : Int) + 1))),
                                some (AV.pv (PV.bl false)), some (AV.pv (PV.str (sgn x a))), some w]
                              S3
                        | none => False)
                    fun C gs S' => EA C gs S'))
              | some false => QA (AV.pv (PV.int a)) S'
              | none => False)) := by
          by_cases h45 : x[a]? = some 45
          · rw [decide_eq_true h45]
            exact last h40 fun z => absurd h45 z
          · rw [decide_eq_false h45]
            cases lo with
            | true => exact bad h40 (.inl ⟨h45, by rw [← l1]; rfl⟩)
            | false =>
              cases hi with
              | true => exact bad h40 (.inl ⟨h45, by rw [← l1]; rfl⟩)
              | false => exact last h40 fun _ => by rw [← l1]; rfl
        by_cases h1 : x[a]? = some 40
        · rw [decide_eq_true h1, decide_eq_false (fun z => h40 ⟨h1, z⟩)]
          exact rest
        · rw [decide_eq_false h1]
          exact rest
    | false =>
      have e0 : scan x ⟨a, o, n, false⟩ = match x[a]? with
          | none => .inr (if 0 < o then some a else none)
          | some c => if c = 46 ∨ c = 124 then .inl ⟨a + 1, o, n, true⟩
            else if c = 41 ∧ 0 < o then .inl ⟨behO x (a + 1), o - 1, n, false⟩
            else .inr (some a) := by
        unfold scan
        rw [if_neg (fun z => Bool.false_ne_true z.1), if_neg Bool.false_ne_true]
        all_goals rfl
      rw [e0] at e
      walk_at "ws"
      rw [sgn_nil, in2, sgn_is]
      cases ex : x[a]? with
      | none =>
        rw [ex] at e
        dsimp only [Option.isNone] at e ⊢
        by_cases h0 : 0 < o
        · rw [if_pos h0] at e
          rw [decide_eq_true (by omega)]
          cases e
          exact q
        · rw [if_neg h0] at e
          rw [decide_eq_false (by omega)]
          cases e
          exact q
      | some c =>
        rw [ex] at e
        dsimp only [Option.isNone, Option.any] at e ⊢
        refine ⟨by decide, rfl, ?_⟩
        by_cases hc : c = 46 ∨ c = 124
        · rw [if_pos hc] at e
          rw [decide_eq_true hc]
          exact next _ _ ⟨⟨a + 1, o, n, true⟩, _, _, rfl, rfl, e⟩
        · rw [if_neg hc] at e
          rw [decide_eq_false hc]
          by_cases h41 : c = 41
          · rw [h41, decide_eq_true rfl]
            by_cases h0 : 0 < o
            · rw [if_pos ⟨h41, h0⟩] at e
              rw [decide_eq_true (by omega)]
              refine ⟨x, a + 1, rfl, hx, ?_⟩
              have eo : (o : Int) - 1 = ((o - 1 : Nat) : Int) := by omega
              rw [eo]
              exact next _ _ ⟨⟨behO x (a + 1), o - 1, n, false⟩, _, _, rfl, rfl, e⟩
            · rw [if_neg (fun z => h0 z.2)] at e
              rw [decide_eq_false (by omega)]
              cases e
              exact q
          · rw [if_neg (fun z => h41 z.1)] at e
            rw [decide_eq_false (fun z => h41 (by injection z))]
            cases e
            exact q
end
end Q05
set_option Elab.async false
set_option autoImplicit false
set_option linter.all false
set_option maxRecDepth 100000
set_option maxHeartbeats 8000000
/-! Law k05: texts at bounds, bent texts. -/
namespace Q05
open PySem PySem.Spec PyProof.Rows PySem.Builtin.Int L2 Rf K04 HT
open Lean in
local macro_rules
  | `(tactic| walk_at "ab") => `(tactic| try simp only [aSs, aS, aE, aA, aO, aT, aC, aI, adOf_K, adOf_sp, adOf_gv, adOf_ex, adOf_me, adOf_mks, adOf_exi, adOf_W, blkA_K, blkA_sp, blkA_gv, blkA_me, blkA_mks, insM_ins, List.map_cons, List.map_nil, mk2,
      List.lookup_cons, List.lookup_nil, beq_self_eq_true, List.getElem?_cons_zero, List.getElem?_cons_succ, List.length_cons, List.length_nil, tl_sOf, sOf_tl, setEnv0, setEnvS, wipeA,
      aBin, aCmp, aBF, aTF, aBM, aAdd_int, aAdd_str, aAdd_lst, aMul_int, aMul_str, aI2_int, aOrd_int, aOrd_str, aEq_int, aEq_str, aEq_bl, aIs_bl, aIs_non, isNonA, aIn_sign, aIn_tup, aIn_lst, flatP, aIx_str, aIx_lst, aIx_tup, aSl_str, aNeg_int, aTr_non, aTr_bl, aTr_int, aTr_str, bl?_bl,
      aLen_str, aLen_lst, aLen_tup, aInt_int, aInt_bl, aListF_lst, aTupF_lst, alc_t, pvs_nil, pvs_cons, pvk_nil, pvk_cons, aTyM_str, aTyM_lst, BM.ty, lstB_pv, seqA_lst, seqA_tup, extA_lst, extA_tup, Option.map_some, Option.map_none, Option.bind_some, Bool.false_xor, Bool.true_xor, Bool.not_true, Bool.not_false, true_and, and_true, reduceCtorEq, if_true, if_false,
      entL_new0, entR_new0, entL_new, entR_new, entL_0, entR_0, entR_0k, set_new, set_new0, len_new, app_one])
open Lean in
local macro_rules
  | `(tactic| walk_at "w") => `(tactic| (walk_at "ab"; try simp only [ne_kb, ne_ps, ne_as, ne_ds, ne_da, fcst, fcrw, fcch, fcof, fcrd, fnk, fnb, fnr, fnc, fnp, fns, fn1, fn2, fn3, insM_ob, obF_st, obF_of, obF_nd, true_and, and_true]; walk_at "ab"))
open Lean in
local macro_rules
  | `(tactic| walk_at "wm") => do
    let mt := mkIdent `mt
    `(tactic| (walk_at "w"; try simp only [($mt).str, ($mt).txt, ($mt).stp, ($mt).non]; walk_at "w"))
open Lean in
local macro_rules
  | `(tactic| walk_at "ws") => do
    let lx := mkIdent `lx
    `(tactic| (walk_at "ab"; try simp only [cut_sgn, $lx:term, true_and, and_true]; walk_at "ab"))
theorem cutA_len {α : Type} (x : List α) (lo hi : Option Int) : (cutA x lo hi).length ≤ x.length := by
  unfold cutA
  rw [List.length_take, List.length_drop]
  omega
theorem repC_len (j : Int) (a : Cs) : (repC j a).length = j.toNat * a.length := by
  unfold repC
  generalize j.toNat = k
  induction k with
  | zero => simp
  | succ k ih => rw [List.replicate_succ, List.flatten_cons, List.length_append, ih, Nat.succ_mul, Nat.add_comm]
theorem alc2 {x y : PV} {S : Sto} {Q : AQ} : alc false (.lst [.pv x, .pv y]) S Q = Q (.pv (.lst [x, y])) S := alc_lst (zs := [.pv x, .pv y]) (ps := [x, y]) rfl
theorem alc4 {x y z u : PV} {S : Sto} {Q : AQ} : alc false (.lst [.pv x, .pv y, .pv z, .pv u]) S Q = Q (.pv (.lst [x, y, z, u])) S := alc_lst (zs := [.pv x, .pv y, .pv z, .pv u]) (ps := [x, y, z, u]) rfl
theorem pick2 {a b : Cs} {i : Int} {S : Sto} {Q : AQ} (h0 : 0 ≤ i) (h1 : i < 2) : aIx (.pv (.lst [.str a, .str b])) (.pv (.int i)) S Q = Q (.pv (.str ([a, b].getD i.toNat []))) S := by
  have h : i = 0 ∨ i = 1 := by omega
  rcases h with rfl | rfl <;> rfl
theorem pick4 {a b c d : Cs} {i : Int} {S : Sto} {Q : AQ} (h0 : 0 ≤ i) (h1 : i < 4) : aIx (.pv (.lst [.str a, .str b, .str c, .str d])) (.pv (.int i)) S Q = Q (.pv (.str ([a, b, c, d].getD i.toNat []))) S := by
  have h : i = 0 ∨ i = 1 ∨ i = 2 ∨ i = 3 := by omega
  rcases h with rfl | rfl | rfl | rfl <;> rfl
theorem pickA {a b c d : Cs} {i : Int} (h0 : 0 ≤ i) (h1 : i < 4) : atI [PV.str a, .str b, .str c, .str d] i = some (.str ([a, b, c, d].getD i.toNat [])) := by
  have h : i = 0 ∨ i = 1 ∨ i = 2 ∨ i = 3 := by omega
  rcases h with rfl | rfl | rfl | rfl <;> rfl
theorem getD_le {xs : List Cs} {k m : Nat} (h : ∀ x ∈ xs, x.length ≤ m) : (xs.getD k []).length ≤ m := by
  rw [List.getD_eq_getElem?_getD]
  cases e : xs[k]? with
  | none => exact Nat.zero_le _
  | some y => exact h y (List.mem_of_getElem? e)
theorem joinC_len (c : Nat) : ∀ xs : List Cs, (joinC [c] xs).length ≤ (xs.map List.length).sum + xs.length := fun xs => by
  rw [glue_join]
  exact glue_len c xs
theorem sum_le {α : Type} (f : α → Nat) (m : Nat) (h : ∀ x, f x ≤ m) : ∀ xs : List α, (xs.map f).sum ≤ m * xs.length
  | [] => Nat.zero_le _
  | x :: r => by
    have h1 := h x
    have h2 := sum_le f m h r
    rw [List.map_cons, List.sum_cons, List.length_cons, Nat.mul_succ]
    omega
def spBd : ASp := fun ws S Q _ => ∃ n : Int, ws = [.pv (.int n)] ∧ 0 ≤ n ∧ n < 2147483647 ∧ ∀ x : Cs, x.length ≤ 1000 → Q (.pv (.str x)) S
def spBe : ASp := fun ws S Q _ => ∃ (y : Cs) (n : Int), ws = [.pv (.str y), .pv (.int n)] ∧ y.length ≤ 4000 ∧ 0 ≤ n ∧ n < 2147483647 ∧ ∀ x : Cs, x.length ≤ 10000 → Q (.pv (.str x)) S
section
variable {K : Fg} {W : Cl} {EA : AEr} {QA : AQ} {S : Sto}
theorem sem_bound (ws : List AV) (h : spBd ws S QA EA) : aSs (adOf K EA {}) rs_law_bound { nx := fun _ S' => QA (.pv .non) S', rt := QA } (envStart N_law_bound ws) S := by
  obtain ⟨n, rfl, h0, h1, q⟩ := h
  show aSs (adOf K EA {}) rs_law_bound { nx := fun _ S' => QA (.pv .non) S', rt := QA } [some (.pv (.int n)), none, none, none, none, none, none] S
  rw [rs_law_bound_cut]
  unfold rt_law_bound_0 rh_law_bound_0
  walk_at "ab"
  refine ⟨by decide, ?_⟩
  have m0 : 0 ≤ n / 4 := by omega
  have m1 : n / 4 < 2147483647 := by omega
  generalize n / 4 = m at m0 m1 ⊢
  unfold rt_law_bound_1 rh_law_bound_1
  walk_at "ab"
  refine ⟨by decide, ?_⟩
  cases decide (n % 4 = 0) with
  | true =>
    walk_at "ab"
    refine ⟨⟨by decide, by decide⟩, by decide, ⟨by omega, by omega⟩, by simp, ?_⟩
    refine lc_map (S := S) (fun i : Nat => AV.pv (.int ((0 : Int) + (i : Nat)))) (fun j : Nat => .str ([[97], [45, 98], [97, 98, 42], [40, 99, 41]].getD ((m / 2 + (j : Int) * (1 + m / 8)) % 4).toNat [])) trivial (fun σ R => rfl) (List.range (12 + m % 2).toNat) [] (by simp; omega) (fun i hi R hR => ⟨_, rfl, ?_⟩) ?_
    · walk_at "ab"
      refine ⟨by decide, ?_⟩
      rw [alc4]
      walk_at "ab"
      have hi := List.mem_range.mp hi
      refine ⟨⟨by decide, by decide⟩, IMul.l (by omega), by decide, ?_⟩
      rw [pickA (Int.emod_nonneg _ (by decide)) (Int.emod_lt_of_pos _ (by decide)), Int.zero_add]
      exact hR _ rfl
    · rw [List.nil_append, alc_lst (pvs_map _)]
      refine ⟨by decide, ?_⟩
      rw [alc2]
      refine ⟨⟨by decide, by decide⟩, by decide, ?_⟩
      rw [pick2 (Int.emod_nonneg _ (by decide)) (Int.emod_lt_of_pos _ (by decide)), aTyM_str]
      have e : ((List.range (12 + m % 2).toNat).map fun j : Nat => PV.str ([[97], [45, 98], [97, 98, 42], [40, 99, 41]].getD ((m / 2 + (j : Int) * (1 + m / 8)) % 4).toNat [])).map AV.pv = ((List.range (12 + m % 2).toNat).map fun j : Nat => ([[97], [45, 98], [97, 98, 42], [40, 99, 41]] : List Cs).getD ((m / 2 + (j : Int) * (1 + m / 8)) % 4).toNat []).map fun b => AV.pv (.str b) := by
        rw [List.map_map, List.map_map]
        rfl
      have hs : strsP (((List.range (12 + m % 2).toNat).map fun j : Nat => PV.str ([[97], [45, 98], [97, 98, 42], [40, 99, 41]].getD ((m / 2 + (j : Int) * (1 + m / 8)) % 4).toNat [])).map AV.pv) = some ((List.range (12 + m % 2).toNat).map fun j : Nat => ([[97], [45, 98], [97, 98, 42], [40, 99, 41]] : List Cs).getD ((m / 2 + (j : Int) * (1 + m / 8)) % 4).toNat []) := by
        rw [e]
        exact strsP_map _
      have hl : ((List.range (12 + m % 2).toNat).map fun j : Nat => ([[97], [45, 98], [97, 98, 42], [40, 99, 41]] : List Cs).getD ((m / 2 + (j : Int) * (1 + m / 8)) % 4).toNat []).length ≤ 13 := by
        rw [List.length_map, List.length_range]
        omega
      have hm : (((List.range (12 + m % 2).toNat).map fun j : Nat => ([[97], [45, 98], [97, 98, 42], [40, 99, 41]] : List Cs).getD ((m / 2 + (j : Int) * (1 + m / 8)) % 4).toNat []).map List.length).sum ≤ 3 * 13 := by
        rw [List.map_map]
        refine Nat.le_trans (sum_le _ 3 (fun j => ?_) _) (Nat.mul_le_mul_left _ ?_)
        · refine getD_le fun y hy => ?_
          simp only [List.mem_cons, List.not_mem_nil, or_false] at hy
          obtain rfl | rfl | rfl | rfl := hy <;> decide
        · rw [List.length_range]
          omega
      have hsep : ∃ c : Nat, ([[46], [124]] : List Cs).getD (m / 64 % 2).toNat [] = [c] := by
        have h : m / 64 % 2 = 0 ∨ m / 64 % 2 = 1 := by omega
        rcases h with h | h <;> rw [h]
        · exact ⟨46, rfl⟩
        · exact ⟨124, rfl⟩
      obtain ⟨c, hc⟩ := hsep
      rw [hc, aJoin_lst hs]
      generalize (List.range (12 + m % 2).toNat).map (fun j : Nat => ([[97], [45, 98], [97, 98, 42], [40, 99, 41]] : List Cs).getD ((m / 2 + (j : Int) * (1 + m / 8)) % 4).toNat []) = xs at hl hm
      have hj := joinC_len c xs
      refine ⟨trivial, ?_, q _ (by omega)⟩
      show _ ≤ 16777216
      simp only [List.length_cons, List.length_nil]
      omega
  | false =>
    walk_at "ab"
    unfold rt_law_bound_2 rh_law_bound_2
    walk_at "ab"
    refine ⟨by decide, ?_⟩
    cases decide (n % 4 = 1) with
    | true =>
      walk_at "ab"
      have r1 := repC_len (9 + m % 4) [40]
      have r2 := repC_len (9 + m % 4 - m / 4 % 5 / 4) [41]
      simp only [List.length_cons, List.length_nil, Nat.mul_one, Nat.zero_add] at r1 r2
      refine ⟨by decide, by omega, by omega, by decide, ?_, ⟨by decide, by decide⟩, by decide, ⟨by decide, by decide⟩, by omega, by omega, by decide, ?_, q _ ?_⟩
      · show _ ≤ 16777216; omega
      · show _ ≤ 16777216; rw [List.length_append, r1, r2]; simp only [List.length_cons, List.length_nil]; omega
      · rw [List.length_append, List.length_append, r1, r2]; simp only [List.length_cons, List.length_nil]; omega
    | false =>
      walk_at "ab"
      unfold rt_law_bound_3 rh_law_bound_3
      walk_at "ab"
      refine ⟨by decide, ?_⟩
      cases decide (n % 4 = 2) with
      | true =>
        walk_at "ab"
        have r1 := repC_len (m % 2) [45]
        have r2 := repC_len (7 + m / 2 % 4) [98]
        simp only [List.length_cons, List.length_nil, Nat.mul_one, Nat.zero_add] at r1 r2
        refine ⟨by decide, by omega, by omega, by decide, ?_, ⟨by decide, by decide⟩, by decide, by omega, by omega, by decide, ?_, by decide, ?_⟩
        · show _ ≤ 16777216; omega
        · show _ ≤ 16777216; rw [List.length_append, r1, r2]; simp only [List.length_cons, List.length_nil]; omega
        · rw [alc4]
          refine ⟨⟨by decide, by decide⟩, by decide, ?_⟩
          rw [pick4 (Int.emod_nonneg _ (by decide)) (Int.emod_lt_of_pos _ (by decide)), aAdd_str]
          have g : (([[], [46, 99], [43], [124, 40, 97, 41]] : List Cs).getD (m / 8 % 4).toNat []).length ≤ 4 := getD_le fun y hy => by
            simp only [List.mem_cons, List.not_mem_nil, or_false] at hy
            obtain rfl | rfl | rfl | rfl := hy <;> decide
          refine ⟨?_, q _ ?_⟩
          · show _ ≤ 16777216; rw [List.length_append, List.length_append, r1, r2]; simp only [List.length_cons, List.length_nil]; omega
          · rw [List.length_append, List.length_append, List.length_append, r1, r2]; simp only [List.length_cons, List.length_nil]; omega
      | false =>
        walk_at "ab"
        unfold rt_law_bound_4 rh_law_bound_4
        walk_at "ab"
        refine ⟨by decide, ?_⟩
        unfold rt_law_bound_5 rh_law_bound_5
        walk_at "ab"
        refine ⟨by decide, by decide, by decide, by decide, by decide, by decide, by decide, by decide, by decide, by decide, by decide, by omega, by omega, by decide, ?_⟩
        have e14 : (repC 6 [40] ++ [97] ++ repC 6 [41] ++ [46] : Cs).length = 14 := by decide
        have r0 := repC_len (1 + m % 3) (repC 6 [40] ++ [97] ++ repC 6 [41] ++ [46])
        rw [e14] at r0
        generalize repC (1 + m % 3) (repC 6 [40] ++ [97] ++ repC 6 [41] ++ [46]) = z at r0 ⊢
        have r1 := repC_len (m / 3 % 12) [40]
        have r2 := repC_len (m / 3 % 12) [41]
        simp only [List.length_cons, List.length_nil, Nat.mul_one, Nat.zero_add] at r1 r2
        unfold rt_law_bound_6 rh_law_bound_6
        walk_at "ab"
        refine ⟨by omega, by omega, by decide, ?_, ?_, by omega, by omega, by decide, ?_, q _ ?_⟩
        · show _ ≤ 16777216; omega
        · show _ ≤ 16777216; rw [List.length_append, r1]; omega
        · show _ ≤ 16777216; rw [List.length_append, List.length_append, r1, r2]; simp only [List.length_cons, List.length_nil]; omega
        · rw [List.length_append, List.length_append, List.length_append, r1, r2]; simp only [List.length_cons, List.length_nil]; omega
theorem sem_bent (ws : List AV) (h : spBe ws S QA EA) : aSs (adOf K EA { sp := [(1, spBd)] }) rs_law_bent { nx := fun _ S' => QA (.pv .non) S', rt := QA } (envStart N_law_bent ws) S := by
  obtain ⟨x, n, rfl, hy, h0, h1, q⟩ := h
  have lx := line_of (Nat.le_trans hy (by decide))
  show aSs (adOf K EA { sp := [(1, spBd)] }) rs_law_bent { nx := fun _ S' => QA (.pv .non) S', rt := QA } [some (.pv (.str x)), some (.pv (.int n)), none, none, none, none] S
  rw [rs_law_bent_cut]
  unfold rt_law_bent_0 rh_law_bent_0
  walk_at "ws"
  unfold rt_law_bent_1 rh_law_bent_1
  walk_at "ws"
  refine ⟨by decide, ?_⟩
  have m0 : 0 ≤ n / 7 := by omega
  have m1 : n / 7 < 2147483647 := by omega
  generalize n / 7 = m at m0 m1 ⊢
  unfold rt_law_bent_2 rh_law_bent_2
  walk_at "ws"
  refine ⟨by omega, ?_⟩
  generalize m % ((x.length : Int) + 1) = a
  unfold rt_law_bent_3 rh_law_bent_3
  walk_at "ws"
  refine ⟨by decide, by decide, by decide, by decide, ?_⟩
  have hs : ∃ c : Nat, atI ([97, 98, 122, 46, 124, 40, 41, 42, 43, 63, 45, 32, 65, 57, 44, 10, 95] : Cs) (m / 128 % 17) = some c := by
    have g0 : 0 ≤ m / 128 % 17 := by omega
    have g1 : m / 128 % 17 < 17 := by omega
    generalize m / 128 % 17 = i at g0 g1
    obtain ⟨k, rfl⟩ : ∃ k : Nat, i = k := ⟨i.toNat, by omega⟩
    rw [atI_nat (by show k < 17; omega)]
    exact ⟨_, List.getElem?_eq_getElem (by show k < 17; omega)⟩
  obtain ⟨c, hc⟩ := hs
  have hc : atI ([97, 98, 122, 46, 124, 40, 41, 42, 43, 63, 45, 32, 65, 57, 44, 10, 95] : Cs) (m / 128 % (((0 + 1 + 1 + 1 + 1 + 1 + 1 + 1 + 1 + 1 + 1 + 1 + 1 + 1 + 1 + 1 + 1 + 1 : Nat)) : Int)) = some c := hc
  rw [hc]
  dsimp only
  have c1 := fun lo hi => cutA_len x lo hi
  have fin : ∀ y : Cs, y.length ≤ 10000 → QA (AV.pv (PV.str y)) S := q
  unfold rt_law_bent_4 rh_law_bent_4
  walk_at "ws"
  refine ⟨by decide, ?_⟩
  cases decide (n % 7 = 0) with
  | true =>
    walk_at "ws"
    exact q _ (by omega)
  | false =>
    walk_at "ws"
    unfold rt_law_bent_5 rh_law_bent_5
    walk_at "ws"
    refine ⟨by decide, ?_⟩
    cases decide (n % 7 < 3) with
    | true =>
      walk_at "ws"
      have l1 := c1 none (some a)
      have l2 := c1 (some a) none
      refine ⟨?_, ?_, q _ ?_⟩
      · show _ ≤ 16777216; omega
      · show _ ≤ 16777216; rw [List.length_append, List.length_cons, List.length_nil]; omega
      · rw [List.length_append, List.length_append, List.length_cons, List.length_nil]; omega
    | false =>
      walk_at "ws"
      unfold rt_law_bent_6 rh_law_bent_6
      walk_at "ws"
      refine ⟨by decide, ?_⟩
      cases decide (n % 7 = 3) with
      | true =>
        walk_at "ws"
        have l1 := c1 none (some a)
        have l2 := c1 (some (a + 1)) none
        refine ⟨?_, q _ ?_⟩
        · show _ ≤ 16777216; omega
        · rw [List.length_append]; omega
      | false =>
        walk_at "ws"
        unfold rt_law_bent_7 rh_law_bent_7
        walk_at "ws"
        refine ⟨by decide, ?_⟩
        cases decide (n % 7 = 4) with
        | true =>
          walk_at "ws"
          have l1 := c1 none (some a)
          have l2 := c1 (some (a + 1)) none
          refine ⟨?_, ?_, q _ ?_⟩
          · show _ ≤ 16777216; omega
          · show _ ≤ 16777216; rw [List.length_append, List.length_cons, List.length_nil]; omega
          · rw [List.length_append, List.length_append, List.length_cons, List.length_nil]; omega
        | false =>
          walk_at "ws"
          unfold rt_law_bent_8 rh_law_bent_8
          walk_at "ws"
          refine ⟨by decide, ?_⟩
          cases decide (n % 7 = 5) with
          | true =>
            walk_at "ws"
            have l1 := c1 none (some a)
            exact q _ (by omega)
          | false =>
            walk_at "ws"
            exact ⟨m, rfl, m0, m1, fun y hy => q y (by omega)⟩
end
end Q05
set_option Elab.async false
set_option autoImplicit false
set_option linter.all false
set_option maxRecDepth 100000
set_option maxHeartbeats 8000000
/-! Law k05: the refusal, and what is looked at of it. -/
namespace Q05
open PySem PySem.Spec PyProof.Rows L2 Rf K04
open Lean in
local macro_rules
  | `(tactic| walk_at "ab") => `(tactic| try simp only [aSs, aS, aE, aA, aO, aT, aC, aI, adOf_K, adOf_sp, adOf_gv, adOf_ex, adOf_me, adOf_mks, adOf_exi, adOf_W, blkA_K, blkA_sp, blkA_gv, blkA_me, blkA_mks, insM_ins, List.map_cons, List.map_nil, mk2,
      List.lookup_cons, List.lookup_nil, beq_self_eq_true, List.getElem?_cons_zero, List.getElem?_cons_succ, List.length_cons, List.length_nil, tl_sOf, sOf_tl, setEnv0, setEnvS, wipeA,
      aBin, aCmp, aBF, aTF, aBM, aAdd_int, aAdd_str, aAdd_lst, aMul_int, aMul_str, aI2_int, aOrd_int, aOrd_str, aEq_int, aEq_str, aEq_bl, aIs_bl, aIs_non, isNonA, aIn_sign, aIn_tup, aIn_lst, flatP, aIx_str, aIx_lst, aIx_tup, aSl_str, aNeg_int, aTr_non, aTr_bl, aTr_int, aTr_str, bl?_bl,
      aLen_str, aLen_lst, aLen_tup, aInt_int, aInt_bl, aListF_lst, aTupF_lst, alc_t, pvs_nil, pvs_cons, pvk_nil, pvk_cons, aTyM_str, aTyM_lst, BM.ty, lstB_pv, seqA_lst, seqA_tup, extA_lst, extA_tup, Option.map_some, Option.map_none, Option.bind_some, Bool.false_xor, Bool.true_xor, Bool.not_true, Bool.not_false, true_and, and_true, reduceCtorEq, if_true, if_false,
      entL_new0, entR_new0, entL_new, entR_new, entL_0, entR_0, entR_0k, set_new, set_new0, len_new, app_one])
open Lean in
local macro_rules
  | `(tactic| walk_at "w") => `(tactic| (walk_at "ab"; try simp only [ne_kb, ne_ps, ne_as, ne_ds, ne_da, fcst, fcrw, fcch, fcof, fcrd, fnk, fnb, fnr, fnc, fnp, fns, fn1, fn2, fn3, insM_ob, obF_st, obF_of, obF_nd, true_and, and_true]; walk_at "ab"))
open Lean in
local macro_rules
  | `(tactic| walk_at "wm") => do
    let mt := mkIdent `mt
    `(tactic| (walk_at "w"; try simp only [($mt).str, ($mt).txt, ($mt).stp, ($mt).non]; walk_at "w"))
class Kc (K : Fg) (W : Cl) (gs : List Addr) (we : Addr) : Prop where
  any : PySem.W.kitAny K (.ref W.bw) (gs.map .ref) = some false
  bb : PySem.W.kitOne K (.ref W.bw) (.ref W.bw) = some true
  bv : PySem.W.kitOne K (.ref W.bw) (.type "ValueError") = some true
  exc : ExcC K W.bw
  na : NoAttr K W.bw s_place
  exm : PySem.W.exmOne K (.ref W.bw) (.ref we) = some true
  ib : PySem.W.kitOne K (.type "int") (.type "bool") = some false
  sn : PySem.W.kitOne K (.type "NoneType") (.type "str") = some false
  si : PySem.W.kitOne K (.type "int") (.type "str") = some false
  sb : PySem.W.kitOne K (.type "bool") (.type "str") = some false
  sl : PySem.W.kitOne K (.type "list") (.type "str") = some false
  st : PySem.W.kitOne K (.type "tuple") (.type "str") = some false
  sd : PySem.W.kitOne K (.type "dict") (.type "str") = some false
def rfV (W : Cl) (r : PR) : PV := match r with
  | .bad p => .err W.bw [(s_place, .int p)]
  | _ => .non
def spRf (W : Cl) (K : Fg) : ASp := fun ws S Q _ => (∃ x : Cs, ws = [.pv (.str x)] ∧ x.length ≤ 10000 ∧ Q (.pv (rfV W (wordR x))) S) ∨
  ∃ (p : PV) (t : String), ws = [.pv p] ∧ tyA S (.pv p) = some (.ty t) ∧ PySem.W.kitOne K (.type t) (.type "str") = some false ∧ Q (.pv (.err W.bw [(s_place, .int 0)])) S
def spIb (W : Cl) : ASp := fun ws S Q _ => ∃ p : Int, ws = [.pv (.err W.bw [(s_place, .int p)]), .pv (.int p)] ∧ Q (.pv (.bl true)) S
section
variable {K : Fg} {W : Cl} {EA : AEr} {QA : AQ} {S : Sto} {gs : List Addr} {we : Addr}
theorem isi_err {C D : Addr} {fs : List (Str × PV)} {b : Bool} {Q : AQ} (h : ExcC K C) (hk : PySem.W.kitOne K (.ref C) (.ref D) = some b) (q : Q (.pv (.bl b)) S) : aIsi K [.pv (.err C fs), .pv (.cl D)] S Q := ⟨h, b, hk, q⟩
theorem isi_errT {C : Addr} {n : String} {fs : List (Str × PV)} {b : Bool} {Q : AQ} (h : ExcC K C) (hk : PySem.W.kitOne K (.ref C) (.type n) = some b) (q : Q (.pv (.bl b)) S) : aIsi K [.pv (.err C fs), .pv (.ty n)] S Q := ⟨h, b, hk, q⟩
theorem clsPs_cl : ∀ ds : List Addr, clsPs (ds.map .cl) = some (ds.map Value.ref)
  | [] => rfl
  | d :: r => by
    show (clsPs (r.map .cl)).map (Value.ref d :: ·) = _
    rw [clsPs_cl r]
    rfl
theorem isi_errA {C : Addr} {ds : List Addr} {fs : List (Str × PV)} {b : Bool} {Q : AQ} (h : ExcC K C) (hk : PySem.W.kitAny K (.ref C) (ds.map .ref) = some b) (q : Q (.pv (.bl b)) S) : aIsi K [.pv (.err C fs), .pv (.tup (ds.map .cl))] S Q := by
  show (match tyA S (.pv (.err C fs)), clsPs (ds.map .cl) with
    | some t, some us => tyC K t ∧ ∃ b, PySem.W.kitAny K t.val us = some b ∧ Q (.pv (.bl b)) S
    | _, _ => False)
  rw [clsPs_cl]
  exact ⟨h, b, hk, q⟩
theorem isi_tt {n : String} {p : PV} {b : Bool} {t : String} {Q : AQ} (ht : tyA S (.pv p) = some (.ty t)) (hk : PySem.W.kitOne K (.type t) (.type n) = some b) (q : Q (.pv (.bl b)) S) : aIsi K [.pv p, .pv (.ty n)] S Q := by
  show (match tyA S (.pv p), some (Value.type n) with
    | some t, some u => tyC K t ∧ ∃ b, PySem.W.kitOne K t.val u = some b ∧ Q (.pv (.bl b)) S
    | _, _ => False)
  rw [ht]
  exact ⟨trivial, b, hk, q⟩
theorem sem_refusal (kc : Kc K W gs we) (ws : List AV) (h : spRf W K ws S QA EA) : aSs (adOf K EA { sp := [(1, spWd W K)], ex := [we] }) rs_law_refusal { nx := fun _ S' => QA (.pv .non) S', rt := QA } (envStart N_law_refusal ws) S := by
  have key : ∀ p : PV, ws = [.pv p] → (∀ EB : AEr, (EB W.bw [(s_place, .int 0)] S → True) → True) → True := fun _ _ _ => trivial
  rcases h with ⟨x, rfl, hx, q⟩ | ⟨p, t, rfl, ht, hk, q⟩
  · show aSs (adOf K EA { sp := [(1, spWd W K)], ex := [we] }) rs_law_refusal { nx := fun _ S' => QA (.pv .non) S', rt := QA } [some (.pv (.str x)), none, none] S
    rw [rs_law_refusal_cut]
    unfold rt_law_refusal_0 rh_law_refusal_0
    walk_at "ab"
    unfold rt_law_refusal_1 rh_law_refusal_1
    walk_at "ab"
    refine .inl ⟨x, rfl, hx, ?_⟩
    have hno := (place_word x).2
    cases e : wordR x with
    | out => exact absurd e hno
    | ok t b m =>
      rw [e] at q
      dsimp only
      unfold rt_law_refusal_2 rh_law_refusal_2
      walk_at "ab"
      exact q
    | bad p =>
      rw [e] at q
      dsimp only
      refine ⟨true, kc.exm, fun _ => ?_, fun h => by cases h⟩
      unfold rt_law_refusal_2 rh_law_refusal_2
      show aSs _ _ _ [some (.pv (.str x)), some (.pv (.err W.bw [(s_place, .int p)])), none] S
      walk_at "ab"
      exact q
  · show aSs (adOf K EA { sp := [(1, spWd W K)], ex := [we] }) rs_law_refusal { nx := fun _ S' => QA (.pv .non) S', rt := QA } [some (.pv p), none, none] S
    rw [rs_law_refusal_cut]
    unfold rt_law_refusal_0 rh_law_refusal_0
    walk_at "ab"
    unfold rt_law_refusal_1 rh_law_refusal_1
    walk_at "ab"
    refine .inr ⟨p, t, rfl, ht, hk, ?_⟩
    refine ⟨true, kc.exm, fun _ => ?_, fun h => by cases h⟩
    unfold rt_law_refusal_2 rh_law_refusal_2
    show aSs _ _ _ [some (.pv p), some (.pv (.err W.bw [(s_place, .int 0)])), none] S
    walk_at "ab"
    exact q
def agIb (W : Cl) (g0 g1 g2 g3 g4 g5 g6 g7 g8 : Addr) : AG := { gv := [.cl g0, .cl g1, .cl g2, .cl g3, .cl g4, .cl g5, .cl g6, .cl g7, .cl g8, .cl W.bw] }
theorem sem_is_bad {g0 g1 g2 g3 g4 g5 g6 g7 g8 : Addr} (kc : Kc K W [g8, g7, g6, g5, g4, g3, g2, g1, g0] we) (ws : List AV) (h : spIb W ws S QA EA) : aSs (adOf K EA (agIb W g0 g1 g2 g3 g4 g5 g6 g7 g8)) rs_law_is_bad { nx := fun _ S' => QA (.pv .non) S', rt := QA } (envStart N_law_is_bad ws) S := by
  obtain ⟨p, rfl, q⟩ := h
  show aSs (adOf K EA (agIb W g0 g1 g2 g3 g4 g5 g6 g7 g8)) rs_law_is_bad { nx := fun _ S' => QA (.pv .non) S', rt := QA } [some (.pv (.err W.bw [(s_place, .int p)])), some (.pv (.int p))] S
  rw [rs_law_is_bad_cut]
  unfold agIb rt_law_is_bad_0 rh_law_is_bad_0
  walk_at "ab"
  refine ⟨by decide, isi_errA (ds := [g8, g7, g6, g5, g4, g3, g2, g1, g0]) kc.exc kc.any ?_⟩
  walk_at "ab"
  unfold rt_law_is_bad_1 rh_law_is_bad_1
  walk_at "ab"
  refine isi_err kc.exc kc.bb ?_
  walk_at "ab"
  refine isi_errT kc.exc kc.bv ?_
  walk_at "ab"
  unfold rt_law_is_bad_2 rh_law_is_bad_2
  walk_at "ab"
  simp only [insM, insA, errM, List.lookup_cons, beq_self_eq_true]
  refine ⟨⟨kc.exc, kc.na⟩, isi_tt rfl (kit_ty "int") ?_⟩
  walk_at "ab"
  refine ⟨⟨kc.exc, kc.na⟩, isi_tt rfl kc.ib ?_⟩
  walk_at "ab"
  refine ⟨⟨kc.exc, kc.na⟩, ?_⟩
  simp only [decide_true]
  exact q
end
end Q05
set_option Elab.async false
set_option autoImplicit false
set_option linter.all false
set_option maxRecDepth 100000
set_option maxHeartbeats 8000000
/-! Law k05: the law. -/
namespace Q05
open PySem PySem.Spec PyProof.Rows PySem.Builtin.Int L2 Rf K04 HT
open Lean in
local macro_rules
  | `(tactic| walk_at "ab") => `(tactic| try simp only [aSs, aS, aE, aA, aO, aT, aC, aI, adOf_K, adOf_sp, adOf_gv, adOf_ex, adOf_me, adOf_mks, adOf_exi, adOf_W, blkA_K, blkA_sp, blkA_gv, blkA_me, blkA_mks, insM_ins, List.map_cons, List.map_nil, mk2,
      List.lookup_cons, List.lookup_nil, beq_self_eq_true, List.getElem?_cons_zero, List.getElem?_cons_succ, List.length_cons, List.length_nil, tl_sOf, sOf_tl, setEnv0, setEnvS, wipeA,
      aBin, aCmp, aBF, aTF, aBM, aAdd_int, aAdd_str, aAdd_lst, aMul_int, aMul_str, aI2_int, aOrd_int, aOrd_str, aEq_int, aEq_str, aEq_bl, aIs_bl, aIs_non, isNonA, aIn_sign, aIn_tup, aIn_lst, flatP, aIx_str, aIx_lst, aIx_tup, aSl_str, aNeg_int, aTr_non, aTr_bl, aTr_int, aTr_str, bl?_bl,
      aLen_str, aLen_lst, aLen_tup, aInt_int, aInt_bl, aListF_lst, aTupF_lst, alc_t, pvs_nil, pvs_cons, pvk_nil, pvk_cons, aTyM_str, aTyM_lst, BM.ty, lstB_pv, seqA_lst, seqA_tup, extA_lst, extA_tup, Option.map_some, Option.map_none, Option.bind_some, Bool.false_xor, Bool.true_xor, Bool.not_true, Bool.not_false, true_and, and_true, reduceCtorEq, if_true, if_false,
      entL_new0, entR_new0, entL_new, entR_new, entL_0, entR_0, entR_0k, set_new, set_new0, len_new, app_one])
open Lean in
local macro_rules
  | `(tactic| walk_at "w") => `(tactic| (walk_at "ab"; try simp only [ne_kb, ne_ps, ne_as, ne_ds, ne_da, fcst, fcrw, fcch, fcof, fcrd, fnk, fnb, fnr, fnc, fnp, fns, fn1, fn2, fn3, insM_ob, obF_st, obF_of, obF_nd, true_and, and_true]; walk_at "ab"))
open Lean in
local macro_rules
  | `(tactic| walk_at "wm") => do
    let mt := mkIdent `mt
    `(tactic| (walk_at "w"; try simp only [($mt).str, ($mt).txt, ($mt).stp, ($mt).non]; walk_at "w"))
open Lean in
local macro_rules
  | `(tactic| walk_at "wt") => `(tactic| (walk_at "ab"; try simp only [tp_st, tp_of, tp_nd, ix30, ix31, ix32, ix20, ix21, at30, at31, at32, at20, at21, w_ss, w_os, w_oo, w_or, w_ns, w_no, w_nr, itemsT, tpL_one]; walk_at "ab"; try simp only [tp_st, tp_of, tp_nd, ix30, ix31, ix32, ix20, ix21, at30, at31, at32, at20, at21, w_ss, w_os, w_oo, w_or, w_ns, w_no, w_nr, itemsT, tpL_one]; walk_at "ab"; try simp only [tp_st, tp_of, tp_nd, ix30, ix31, ix32, ix20, ix21, at30, at31, at32, at20, at21, w_ss, w_os, w_oo, w_or, w_ns, w_no, w_nr, itemsT, tpL_one]; walk_at "ab"))
theorem good_steps : ∀ t : Tr, good t = true → 1 ≤ t.steps
  | .step k b, _ => by rw [steps_step]; exact Nat.le_refl _
  | .often t s, h => by
    unfold good at h
    rw [Bool.and_eq_true] at h
    rw [steps_oft]
    exact good_steps t h.1
  | .node row [], h => by unfold good at h; simp at h
  | .node row (t :: r), h => by
    unfold good goodL at h
    simp only [Bool.and_eq_true] at h
    have := good_steps t h.2.1
    rw [steps_node, stepsL_cons]
    omega
mutual
theorem dsz_ok : ∀ (t : Tr) (h : Nat), good t = true → high t ≤ h → dsz t ≤ (14 + 5 * h) * t.steps
  | .step k b, h, hg, hh => by
    unfold good at hg
    simp only [Bool.and_eq_true, decide_eq_true_eq] at hg
    unfold dsz
    rw [steps_step]
    omega
  | .often t s, h, hg, hh => by
    unfold high at hh
    unfold good at hg
    rw [Bool.and_eq_true] at hg
    obtain ⟨h', rfl⟩ : ∃ h', h = h' + 1 := ⟨h - 1, by omega⟩
    have ih := dsz_ok t h' hg.1 (by omega)
    have hs := good_steps t hg.1
    unfold dsz
    rw [steps_oft]
    have e : (14 + 5 * (h' + 1)) * t.steps = (14 + 5 * h') * t.steps + 5 * t.steps := by
      rw [← Nat.add_mul]; congr 1
    omega
  | .node row ts, h, hg, hh => by
    have hs := good_steps _ hg
    unfold high at hh
    unfold good at hg
    rw [Bool.and_eq_true] at hg
    obtain ⟨h', rfl⟩ : ∃ h', h = h' + 1 := ⟨h - 1, by omega⟩
    have ih := dszL_ok ts h' hg.2 (by omega)
    unfold dsz
    rw [steps_node] at hs ⊢
    have e : (14 + 5 * (h' + 1)) * stepsL ts = (15 + 5 * h') * stepsL ts + 4 * stepsL ts := by
      rw [← Nat.add_mul]; congr 1; omega
    omega
theorem dszL_ok : ∀ (ts : List Tr) (h : Nat), goodL ts = true → highL ts ≤ h → dszL ts ≤ (15 + 5 * h) * stepsL ts
  | [], h, _, _ => Nat.zero_le _
  | t :: r, h, hg, hh => by
    unfold goodL at hg
    rw [Bool.and_eq_true] at hg
    unfold highL at hh
    have h1 := dsz_ok t h hg.1 (by omega)
    have h2 := dszL_ok r h hg.2 (by omega)
    have hs := good_steps t hg.1
    unfold dszL
    rw [stepsL_cons, Nat.mul_add]
    have e : (15 + 5 * h) * t.steps = (14 + 5 * h) * t.steps + t.steps := by
      rw [show 15 + 5 * h = (14 + 5 * h) + 1 by omega, Nat.add_mul]; omega
    omega
end
mutual
theorem cnt_dsz : ∀ t : Tr, cnt t ≤ dsz t
  | .step k b => by unfold cnt dsz; omega
  | .often t s => by have := cnt_dsz t; unfold cnt dsz; omega
  | .node _ ts => by have := cntL_dsz ts; unfold cnt dsz; omega
theorem cntL_dsz : ∀ ts : List Tr, cntL ts ≤ dszL ts
  | [] => Nat.le_refl _
  | t :: r => by have := cnt_dsz t; have := cntL_dsz r; unfold cntL dszL; omega
end
mutual
theorem steps_flat : ∀ t : Tr, t.flat.steps = t.steps
  | .step k b => by unfold Tr.flat; rfl
  | .often t s => by unfold Tr.flat; rw [steps_oft, steps_oft]; exact steps_flat t
  | .node row ts => by unfold Tr.flat; rw [steps_node, steps_node]; exact stepsL_flat row ts
theorem stepsL_flat (row : Bool) : ∀ ts : List Tr, stepsL (flatL row ts) = stepsL ts
  | [] => rfl
  | t :: r => by
    have h1 := steps_flat t
    have h2 := stepsL_flat row r
    rw [flatL_eq] at h2 ⊢
    rw [stepsL_flatK] at h2 ⊢
    rw [List.map_cons, stepsL_cons, stepsL_cons, h1, h2]
end
/-- what the law's tree is -/
structure Dr (t : Tr) : Prop where
  good : good t = true
  high : high t ≤ 4
  steps : t.steps ≤ 12
theorem Dr.dsz {t : Tr} (d : Dr t) : dsz t ≤ 10000 := by
  have h := dsz_ok t 4 d.good d.high
  have h2 : (14 + 5 * 4) * t.steps ≤ (14 + 5 * 4) * 12 := Nat.mul_le_mul_left _ d.steps
  omega
theorem dr_tree (c : Int) : Dr (treeOf c 4 ⟨0, 11⟩).1 := by
  have f := tree_fine c 4 ⟨0, 11⟩
  have h1 := f.left
  have h2 := f.nn (by decide)
  dsimp only at h1 h2
  exact ⟨f.good, f.high, by omega⟩
theorem k_cell : tl "cell" = [99, 101, 108, 108] := by decide +kernel
theorem k_at : tl "at" = [97, 116] := by decide +kernel
theorem k_left : tl "left" = [108, 101, 102, 116] := by decide +kernel
def spLaw : ASp := fun ws S Q _ => ∃ (n : Nat) (ns : List Int), ws = [.hnd n] ∧ entR S n = some (.lst (ns.map fun z => .pv (.int z))) ∧ ns.length ≤ 63 ∧ (∀ z ∈ ns, intBits z ≤ 1048576) ∧ ∀ S', Q (.pv (.bl true)) S'
theorem aI2L_int {f : Int → Int → Int} {i j : Int} {S : Sto} {Q : AQ} : aI2L f [.pv (.int i), .pv (.int j)] S Q = Q (.pv (.int (f i j))) S := rfl
section
variable {K : Fg} {W : Cl} {EA : AEr} {QA : AQ} {S : Sto} [wf : Wf K W] {gs : List Addr} {we : Addr}
theorem isi_of (t : Tr) {C : Addr} {b : Bool} {Q : AQ} (hk : PySem.W.kitOne K (.ref (clsOf W t)) (.ref C) = some b) (q : Q (.pv (.bl b)) S) : aIsi K [.pv (ob W t), .pv (.cl C)] S Q := by
  show (match tyA S (.pv (ob W t)), some (Value.ref C) with
    | some t, some u => tyC K t ∧ ∃ b, PySem.W.kitOne K t.val u = some b ∧ Q (.pv (.bl b)) S
    | _, _ => False)
  rw [tyA_ob]
  exact ⟨insC_ob wf t, b, hk, q⟩
theorem kit_wd (t : Tr) : PySem.W.kitOne K (.ref (clsOf W t)) (.ref W.wd) = some true := by
  cases t with
  | step k b => exact wf.k15
  | often t s => exact wf.k45
  | node row ts => cases row; exact wf.k35; exact wf.k25
theorem dsz4 {t : Tr} (d : Dr t) : dsz t ≤ 4000 := by
  have h := dsz_ok t 4 d.good d.high
  have h2 : (14 + 5 * 4) * t.steps ≤ (14 + 5 * 4) * 12 := Nat.mul_le_mul_left _ d.steps
  omega
/-- the odd things -/
def odds : List PV := [.non, .int 5, .bl true, .lst [.str [97]], .tup [.str [97]], .dic [], .bl false, .int (-7)]
theorem odd_ok (kc : Kc K W gs we) : ∀ p ∈ odds, ∃ t : String, tyA S (.pv p) = some (.ty t) ∧ PySem.W.kitOne K (.type t) (.type "str") = some false := by
  intro p hp
  unfold odds at hp
  simp only [List.mem_cons, List.not_mem_nil, or_false] at hp
  obtain rfl | rfl | rfl | rfl | rfl | rfl | rfl | rfl := hp
  · exact ⟨_, rfl, kc.sn⟩
  · exact ⟨_, rfl, kc.si⟩
  · exact ⟨_, rfl, kc.sb⟩
  · exact ⟨_, rfl, kc.sl⟩
  · exact ⟨_, rfl, kc.st⟩
  · exact ⟨_, rfl, kc.sd⟩
  · exact ⟨_, rfl, kc.sb⟩
  · exact ⟨_, rfl, kc.si⟩
theorem odd_at {i : Int} (h0 : 0 ≤ i) (h1 : i < 8) : ∃ p ∈ odds, atI odds i = some p := by
  obtain ⟨k, rfl⟩ : ∃ k : Nat, i = k := ⟨i.toNat, by omega⟩
  have hk : k < odds.length := by show k < 8; omega
  exact ⟨_, List.getElem_mem hk, by rw [atI_nat hk]; exact List.getElem?_eq_getElem hk⟩
def agLaw (W : Cl) (K : Fg) : AG := { sp := [(2, spCell), (2, spBe), (1, spDr), (3, spTx 5), (2, spTree 4), (1, spPl), (1, spRf W K), (1, spWd W K), (2, spIb W)], gv := [.cl W.wd] }
theorem sem_law (kc : Kc K W gs we) (ws : List AV) (h : spLaw ws S QA EA) : aSs (adOf K EA (agLaw W K)) rs_law { nx := fun _ S' => QA (.pv .non) S', rt := QA } (envStart N_law ws) S := by
  obtain ⟨n, ns, rfl, hr, hl, hb, q⟩ := h
  rw [rs_law_cut]
  show aSs (adOf K EA (agLaw W K)) _ { nx := fun _ S' => QA (.pv .non) S', rt := QA } [some (.hnd n), none, none, none, none, none, none, none] S
  unfold agLaw rt_law_0 rh_law_0
  walk_at "ab"
  rw [aLen_hlst hr]
  walk_at "ab"
  simp only [aI2L_int]
  refine ⟨by omega, ?_⟩
  have hm : (max 1 (min 63 (((ns.map fun z => AV.pv (.int z)).length : Nat) : Int))).toNat ≤ 63 := by omega
  generalize (max 1 (min 63 (((ns.map fun z => AV.pv (.int z)).length : Nat) : Int))).toNat = m at hm ⊢
  refine forL_inv (fun done σ S' => ∃ v1 v2 v3 v4 v5 v6 v7, σ = [some (.hnd n), v1, v2, v3, v4, v5, v6, v7] ∧ entR S' n = some (.lst (ns.map fun z => .pv (.int z)))) (fun i : Nat => IV.one (.pv (.int ((0 : Int) + (i : Nat))))) (List.range m) ?_ ?_ (List.range m) [] _ _ rfl ⟨_, _, _, _, _, _, _, rfl, hr⟩
  · rintro done k rest σ S' N e ⟨v1, v2, v3, v4, v5, v6, v7, rfl, hr⟩ next
    have hk : k < m := by
      have h : k ∈ List.range m := by rw [e]; simp
      exact List.mem_range.mp h
    refine ⟨trivial, _, rfl, ?_⟩
    unfold rt_law_0_0 rh_law_0_0
    walk_at "ab"
    rw [Int.zero_add]
    refine ⟨n, ns, k, rfl, hr, ?_⟩
    walk_at "ab"
    refine ⟨.l (by decide), by decide, ?_⟩
    have ed : (((keysTxt ["cell", "at", "left"]).zip [AV.pv (.int (ns.getD k 0 + 97 * (k : Int))), .pv (.int 0), .pv (.int 11)]).foldl (fun acc kv => putL acc kv.1 kv.2) []) = [(Sum.inr [99, 101, 108, 108], AV.pv (.int (ns.getD k 0 + 97 * (k : Int)))), (Sum.inr [97, 116], .pv (.int 0)), (Sum.inr [108, 101, 102, 116], .pv (.int 11))] := by
      simp only [keysTxt, List.map_cons, List.map_nil, k_cell, k_at, k_left]
      rfl
    rw [ed]
    have hc : Sm (ns.getD k 0 + 97 * (k : Int)) := by
      have b1 : intBits (97 * (k : Int)) ≤ 64 := intBits_le_64 (by omega) (by omega)
      have b2 : intBits (ns.getD k 0) ≤ 1048576 := by
        rw [List.getD_eq_getElem?_getD]
        cases en : ns[k]? with
        | none => show intBits 0 ≤ _; decide +kernel
        | some z => exact hb z (List.mem_of_getElem? en)
      exact Nat.le_trans (bits_add b2 b1) (by decide)
    generalize ns.getD k 0 + 97 * (k : Int) = c at hc ⊢
    have he : entL (S' ++ [SE.live (stD c 0 11)]) S'.length = some (stD c 0 11) := entL_app rfl
    show aSs _ rt_law_0_1 _ _ (S' ++ [SE.live (stD c 0 11)])
    unfold rt_law_0_1 rh_law_0_1
    walk_at "ab"
    refine ⟨S'.length, c, 0, 11, rfl, he, hc, Int.le_refl _, by decide, ?_⟩
    have hd := dr_tree c
    have ha := tree_at c 4 ⟨0, 11⟩
    generalize (treeOf c 4 ⟨0, 11⟩).1 = t at hd ⊢
    generalize (treeOf c 4 ⟨0, 11⟩).2.at_ = a at ha ⊢
    generalize (treeOf c 4 ⟨0, 11⟩).2.left = lf
    rw [set_new0]
    have es : ∀ e1 e2 : SE, ([e1].set 0 e2) = [e2] := fun _ _ => rfl
    rw [es]
    have he : entL (S' ++ [SE.live (stD c a lf)]) S'.length = some (stD c a lf) := entL_app rfl
    have ha1 : 0 ≤ a := ha.1
    have ha2 : a ≤ 1250 := ha.2
    have hcn := cnt_dsz t
    have hdz := dsz4 hd
    have hh := hd.high
    walk_at "ab"
    refine .inr ⟨t, 0, S'.length, c, a, lf, rfl, by decide, by omega, Nat.le_trans hdz (by decide), he, hc, ha1, by omega, ?_⟩
    have hat := textOf_at c t 0 a
    have hle := textOf_len c t 0 a
    rw [hat]
    generalize (textOf c t 0 a).1 = y at hle ⊢
    rw [set_new0, es]
    have b0 : 0 ≤ a + (cnt t : Int) := by omega
    have b1 : a + (cnt t : Int) ≤ 10000 := by omega
    generalize a + (cnt t : Int) = b at b0 b1 ⊢
    have he : entL (S' ++ [SE.live (stD c b lf)]) S'.length = some (stD c b lf) := entL_app rfl
    have db := drawn_bd c (b + 1)
    refine ⟨S'.length, c, b, lf, rfl, he, hc, b0, by omega, ?_⟩
    rw [set_new0, es]
    refine ⟨y, drawn c (b + 1), rfl, by omega, db.1, db.2, fun x hx => ?_⟩
    have hr1 : ∀ l : Int, entR (S' ++ [SE.live (stD c l lf)]) n = some (.lst (ns.map fun z => .pv (.int z))) := fun l => entR_old hr
    have wo := place_word x
    unfold rt_law_0_2 rh_law_0_2
    walk_at "ab"
    refine ⟨x, rfl, hx, ?_⟩
    unfold rt_law_0_3 rh_law_0_3
    walk_at "ab"
    refine ⟨by decide, ?_⟩
    refine forL_inv (fun done σ S'' => ∃ v5 v7, σ = [some (.hnd n), some (.pv (.int k)), some (.hnd S'.length), some (.pv (.str x)), some (.pv (plV (wdO (wordR x)))), v5, v6, v7] ∧ S'' = S' ++ [SE.live (stD c (b + 1) lf)]) (fun i : Nat => IV.one (.pv (.int ((0 : Int) + (i : Nat))))) (List.range 2) ?_ ?_ (List.range 2) [] _ _ rfl ⟨_, _, rfl, rfl⟩
    · rintro done2 k2 rest2 σ S2 N2 e2 ⟨v5, v7, rfl, rfl⟩ next2
      refine ⟨trivial, _, rfl, ?_⟩
      unfold rt_law_0_3_0 rh_law_0_3_0
      walk_at "ab"
      refine .inl ⟨x, rfl, hx, ?_⟩
      unfold rt_law_0_3_1 rh_law_0_3_1
      cases ew : wordR x with
      | out => exact absurd ew wo.2
      | ok t2 m2 n2 =>
        rw [ew] at next2
        simp only [plV, wdO, rfV]
        simp only [plV, wdO] at next2
        walk_at "ab"
        refine .inl ⟨x, rfl, hx, ?_⟩
        rw [ew]
        dsimp only
        refine isi_of t2 (kit_wd t2) ?_
        walk_at "ab"
        unfold rt_law_0_3_2 rh_law_0_3_2
        walk_at "ab"
        exact next2 _ _ ⟨_, _, rfl, rfl⟩
      | bad p =>
        rw [ew] at next2
        simp only [plV, wdO, rfV]
        simp only [plV, wdO] at next2
        walk_at "ab"
        unfold rt_law_0_3_2 rh_law_0_3_2
        walk_at "ab"
        refine ⟨p, rfl, ?_⟩
        walk_at "ab"
        exact next2 _ _ ⟨_, _, rfl, rfl⟩
    · rintro σ S2 ⟨v5, v7, rfl, rfl⟩
      refine ⟨trivial, ?_⟩
      unfold rt_law_0_4 rh_law_0_4
      walk_at "ab"
      refine ⟨by decide, ?_⟩
      have el1 : ∀ (x : PV) (S : Sto) (Q : AQ), alc false (.lst [.pv x]) S Q = Q (.pv (.lst [x])) S := fun x S Q => alc_lst (zs := [.pv x]) (ps := [x]) rfl
      have ed0 : ∀ (S : Sto) (Q : AQ), alc false (.dic []) S Q = Q (.pv (.dic [])) S := fun S Q => rfl
      have el8 : ∀ (S : Sto) (Q : AQ), alc false (.lst [.pv .non, .pv (.int 5), .pv (.bl true), .pv (.lst [.str [97]]), .pv (.tup [.str [97]]), .pv (.dic []), .pv (.bl false), .pv (.int (-7))]) S Q = Q (.pv (.lst odds)) S := fun S Q => alc_lst (zs := [.pv .non, .pv (.int 5), .pv (.bl true), .pv (.lst [.str [97]]), .pv (.tup [.str [97]]), .pv (.dic []), .pv (.bl false), .pv (.int (-7))]) (ps := odds) rfl
      rw [el1]
      refine ⟨by decide, ?_⟩
      rw [ed0]
      refine ⟨by decide, ?_⟩
      rw [el8]
      have he2 : entL (S' ++ [SE.live (stD c (b + 1) lf)]) S'.length = some (stD c (b + 1) lf) := entL_app rfl
      refine ⟨S'.length, c, b + 1, lf, rfl, he2, hc, by omega, by omega, ?_⟩
      rw [set_new0, es]
      generalize drawn c (b + 1 + 1) = g
      rw [aI2_int]
      refine ⟨by decide, ?_⟩
      obtain ⟨p, hp, ep⟩ := odd_at (i := g % 8) (Int.emod_nonneg _ (by decide)) (Int.emod_lt_of_pos _ (by decide))
      rw [aIx_lst, ep]
      dsimp only
      obtain ⟨ty, t1, t2⟩ := odd_ok (S := S' ++ [SE.live (stD c (b + 1 + 1) lf)]) kc p hp
      unfold rt_law_0_5 rh_law_0_5
      walk_at "ab"
      refine .inr ⟨p, ty, rfl, t1, t2, ?_⟩
      walk_at "ab"
      refine ⟨0, rfl, ?_⟩
      walk_at "ab"
      exact next _ _ ⟨_, _, _, _, _, _, _, rfl, hr1 _⟩
  · rintro σ S' ⟨v1, v2, v3, v4, v5, v6, v7, rfl, _⟩
    refine ⟨trivial, ?_⟩
    unfold rt_law_1 rh_law_1
    walk_at "ab"
    exact q _
end
end Q05
set_option Elab.async false
set_option autoImplicit false
set_option linter.all false
set_option maxRecDepth 100000
set_option maxHeartbeats 0
namespace Q05
open PySem PySem.Spec PyProof.Rows L2 Rf K04
def D_BadWord___init__ : He.DefD := ⟨("BadWord", some "__init__"), "__init__", "BadWord.__init__", defArgs (inClass (topS 9) 0), defBody (inClass (topS 9) 0), defScope (inClass (topS 9) 0), [], []⟩
def D_Step___init__ : He.DefD := ⟨("Step", some "__init__"), "__init__", "Step.__init__", defArgs (inClass (topS 18) 0), defBody (inClass (topS 18) 0), defScope (inClass (topS 18) 0), [], []⟩
def D_Row___init__ : He.DefD := ⟨("Row", some "__init__"), "__init__", "Row.__init__", defArgs (inClass (topS 19) 0), defBody (inClass (topS 19) 0), defScope (inClass (topS 19) 0), [], []⟩
def D_Choice___init__ : He.DefD := ⟨("Choice", some "__init__"), "__init__", "Choice.__init__", defArgs (inClass (topS 20) 0), defBody (inClass (topS 20) 0), defScope (inClass (topS 20) 0), [], []⟩
def D_Often___init__ : He.DefD := ⟨("Often", some "__init__"), "__init__", "Often.__init__", defArgs (inClass (topS 21) 0), defBody (inClass (topS 21) 0), defScope (inClass (topS 21) 0), [], []⟩
def D_row_of : He.DefD := ⟨("row_of", none), "row_of", "row_of", defArgs (topS 23), defBody (topS 23), defScope (topS 23), [], []⟩
def D_choice_of : He.DefD := ⟨("choice_of", none), "choice_of", "choice_of", defArgs (topS 24), defBody (topS 24), defScope (topS 24), [], []⟩
def D_Reading___init__ : He.DefD := ⟨("Reading", some "__init__"), "__init__", "Reading.__init__", defArgs (inClass (topS 25) 0), defBody (inClass (topS 25) 0), defScope (inClass (topS 25) 0), [], []⟩
def D_Reading_next_sign : He.DefD := ⟨("Reading", some "next_sign"), "next_sign", "Reading.next_sign", defArgs (inClass (topS 25) 1), defBody (inClass (topS 25) 1), defScope (inClass (topS 25) 1), [], []⟩
def D_Reading_read_choice : He.DefD := ⟨("Reading", some "read_choice"), "read_choice", "Reading.read_choice", defArgs (inClass (topS 25) 2), defBody (inClass (topS 25) 2), defScope (inClass (topS 25) 2), [], []⟩
def D_Reading_read_row : He.DefD := ⟨("Reading", some "read_row"), "read_row", "Reading.read_row", defArgs (inClass (topS 25) 3), defBody (inClass (topS 25) 3), defScope (inClass (topS 25) 3), [], []⟩
def D_Reading_read_often : He.DefD := ⟨("Reading", some "read_often"), "read_often", "Reading.read_often", defArgs (inClass (topS 25) 4), defBody (inClass (topS 25) 4), defScope (inClass (topS 25) 4), [], []⟩
def D_Reading_read_bracket : He.DefD := ⟨("Reading", some "read_bracket"), "read_bracket", "Reading.read_bracket", defArgs (inClass (topS 25) 5), defBody (inClass (topS 25) 5), defScope (inClass (topS 25) 5), [], []⟩
def D_Reading_read_step : He.DefD := ⟨("Reading", some "read_step"), "read_step", "Reading.read_step", defArgs (inClass (topS 25) 6), defBody (inClass (topS 25) 6), defScope (inClass (topS 25) 6), [], []⟩
def D_word_of : He.DefD := ⟨("word_of", none), "word_of", "word_of", defArgs (topS 26), defBody (topS 26), defScope (topS 26), [], []⟩
def D_law_cell_at : He.DefD := ⟨("_law_cell_at", none), "_law_cell_at", "_law_cell_at", defArgs (topS 28), defBody (topS 28), defScope (topS 28), [], []⟩
def D_law_mixed : He.DefD := ⟨("_law_mixed", none), "_law_mixed", "_law_mixed", defArgs (topS 29), defBody (topS 29), defScope (topS 29), [], []⟩
def D_law_draw : He.DefD := ⟨("_law_draw", none), "_law_draw", "_law_draw", defArgs (topS 30), defBody (topS 30), defScope (topS 30), [], []⟩
def D_law_kind : He.DefD := ⟨("_law_kind", none), "_law_kind", "_law_kind", defArgs (topS 31), defBody (topS 31), defScope (topS 31), [], []⟩
def D_law_tree : He.DefD := ⟨("_law_tree", none), "_law_tree", "_law_tree", defArgs (topS 32), defBody (topS 32), defScope (topS 32), [], []⟩
def D_law_text : He.DefD := ⟨("_law_text", none), "_law_text", "_law_text", defArgs (topS 33), defBody (topS 33), defScope (topS 33), [], []⟩
def D_law_behind_letters : He.DefD := ⟨("_law_behind_letters", none), "_law_behind_letters", "_law_behind_letters", defArgs (topS 34), defBody (topS 34), defScope (topS 34), [], []⟩
def D_law_behind_often : He.DefD := ⟨("_law_behind_often", none), "_law_behind_often", "_law_behind_often", defArgs (topS 35), defBody (topS 35), defScope (topS 35), [], []⟩
def D_law_step_end : He.DefD := ⟨("_law_step_end", none), "_law_step_end", "_law_step_end", defArgs (topS 36), defBody (topS 36), defScope (topS 36), [], []⟩
def D_law_place : He.DefD := ⟨("_law_place", none), "_law_place", "_law_place", defArgs (topS 37), defBody (topS 37), defScope (topS 37), [], []⟩
def D_law_bound : He.DefD := ⟨("_law_bound", none), "_law_bound", "_law_bound", defArgs (topS 38), defBody (topS 38), defScope (topS 38), [], []⟩
def D_law_bent : He.DefD := ⟨("_law_bent", none), "_law_bent", "_law_bent", defArgs (topS 39), defBody (topS 39), defScope (topS 39), [], []⟩
def D_law_refusal : He.DefD := ⟨("_law_refusal", none), "_law_refusal", "_law_refusal", defArgs (topS 40), defBody (topS 40), defScope (topS 40), [], []⟩
def D_law_is_bad : He.DefD := ⟨("_law_is_bad", none), "_law_is_bad", "_law_is_bad", defArgs (topS 41), defBody (topS 41), defScope (topS 41), [], []⟩
def D_law : He.DefD := ⟨("law", none), "law", "law", defArgs (topS 42), defBody (topS 42), defScope (topS 42), [], []⟩
def dfs : List He.DefD := [D_BadWord___init__, D_Step___init__, D_Row___init__, D_Choice___init__, D_Often___init__, D_row_of, D_choice_of, D_Reading___init__, D_Reading_next_sign, D_Reading_read_choice, D_Reading_read_row, D_Reading_read_often, D_Reading_read_bracket, D_Reading_read_step, D_word_of, D_law_cell_at, D_law_mixed, D_law_draw, D_law_kind, D_law_tree, D_law_text, D_law_behind_letters, D_law_behind_often, D_law_step_end, D_law_place, D_law_bound, D_law_bent, D_law_refusal, D_law_is_bad, D_law]
def frs : List Str := ["ValueError", "bool", "int", "isinstance", "len", "list", "max", "min", "range", "str", "tuple"]
def fasR : List He.Fa := [.glo "BadWord", .glo "WeaveError", .glo "Word", .glo "Step", .glo "Row", .glo "Choice", .glo "Often", .glo "Reading", .glo "Twice", .glo "TooMany", .glo "NoTie", .glo "NoThing", .glo "BadQuestion", .glo "BadPlan", .glo "BadNumber", .glo "BadName", .glo "BadLine", .glo "row_of", .glo "choice_of", .glo "word_of", .glo "_law_cell_at", .glo "_law_mixed", .glo "_law_draw", .glo "_law_kind", .glo "_law_tree", .glo "_law_text", .glo "_law_behind_letters", .glo "_law_behind_often", .glo "_law_step_end", .glo "_law_place", .glo "_law_bound", .glo "_law_bent", .glo "_law_refusal", .glo "_law_is_bad", .glo "law", .int "MOST_STEPS" 12, .int "MOST_OPEN" 10, .int "MOST_LETTERS" 8, .cls "Step", .cls "Row", .cls "Choice", .cls "Often", .cls "Reading", .noat "Step" "kind", .noat "Step" "back", .noat "Row" "parts", .noat "Choice" "parts", .noat "Often" "part", .noat "Often" "sign", .noat "Reading" "signs", .noat "Reading" "at", .noat "Reading" "done", .noat "BadWord" "place", .mkr "Step", .mkr "Row", .mkr "Choice", .mkr "Often", .mkr "Reading", .meth "Reading" "next_sign", .meth "Reading" "read_choice", .meth "Reading" "read_row", .meth "Reading" "read_often", .meth "Reading" "read_bracket", .meth "Reading" "read_step", .exc "WeaveError"]
def fas : List He.Fa := frs.map He.Fa.free ++ fasR
def ex0 (K : Fg) : Bool := kB K (.ref (He.ga K "Step")) (.ref (He.ga K "Step")) true && (kB K (.ref (He.ga K "Step")) (.ref (He.ga K "Row")) false && (kB K (.ref (He.ga K "Step")) (.ref (He.ga K "Choice")) false && (kB K (.ref (He.ga K "Step")) (.ref (He.ga K "Often")) false && (kB K (.ref (He.ga K "Step")) (.ref (He.ga K "Word")) true && (kB K (.ref (He.ga K "Row")) (.ref (He.ga K "Step")) false && (kB K (.ref (He.ga K "Row")) (.ref (He.ga K "Row")) true && (kB K (.ref (He.ga K "Row")) (.ref (He.ga K "Choice")) false && (kB K (.ref (He.ga K "Row")) (.ref (He.ga K "Often")) false && (kB K (.ref (He.ga K "Row")) (.ref (He.ga K "Word")) true && (kB K (.ref (He.ga K "Choice")) (.ref (He.ga K "Step")) false && (kB K (.ref (He.ga K "Choice")) (.ref (He.ga K "Row")) false && (kB K (.ref (He.ga K "Choice")) (.ref (He.ga K "Choice")) true && (kB K (.ref (He.ga K "Choice")) (.ref (He.ga K "Often")) false)))))))))))))
theorem ex0_ok {K : Fg} (h : ex0 K = true) : kB K (.ref (He.ga K "Step")) (.ref (He.ga K "Step")) true = true ∧ kB K (.ref (He.ga K "Step")) (.ref (He.ga K "Row")) false = true ∧ kB K (.ref (He.ga K "Step")) (.ref (He.ga K "Choice")) false = true ∧ kB K (.ref (He.ga K "Step")) (.ref (He.ga K "Often")) false = true ∧ kB K (.ref (He.ga K "Step")) (.ref (He.ga K "Word")) true = true ∧ kB K (.ref (He.ga K "Row")) (.ref (He.ga K "Step")) false = true ∧ kB K (.ref (He.ga K "Row")) (.ref (He.ga K "Row")) true = true ∧ kB K (.ref (He.ga K "Row")) (.ref (He.ga K "Choice")) false = true ∧ kB K (.ref (He.ga K "Row")) (.ref (He.ga K "Often")) false = true ∧ kB K (.ref (He.ga K "Row")) (.ref (He.ga K "Word")) true = true ∧ kB K (.ref (He.ga K "Choice")) (.ref (He.ga K "Step")) false = true ∧ kB K (.ref (He.ga K "Choice")) (.ref (He.ga K "Row")) false = true ∧ kB K (.ref (He.ga K "Choice")) (.ref (He.ga K "Choice")) true = true ∧ kB K (.ref (He.ga K "Choice")) (.ref (He.ga K "Often")) false = true := by
  unfold ex0 at h
  simp only [Bool.and_eq_true] at h
  exact h
def ex1 (K : Fg) : Bool := kB K (.ref (He.ga K "Choice")) (.ref (He.ga K "Word")) true && (kB K (.ref (He.ga K "Often")) (.ref (He.ga K "Step")) false && (kB K (.ref (He.ga K "Often")) (.ref (He.ga K "Row")) false && (kB K (.ref (He.ga K "Often")) (.ref (He.ga K "Choice")) false && (kB K (.ref (He.ga K "Often")) (.ref (He.ga K "Often")) true && (kB K (.ref (He.ga K "Often")) (.ref (He.ga K "Word")) true && (decide (He.ga K "Step" ≠ He.ga K "Row") && (decide (He.ga K "Step" ≠ He.ga K "Choice") && (decide (He.ga K "Step" ≠ He.ga K "Often") && (decide (He.ga K "Row" ≠ He.ga K "Choice") && (decide (He.ga K "Row" ≠ He.ga K "Often") && (decide (He.ga K "Choice" ≠ He.ga K "Often") && (insB K (He.ga K "Step") && (insB K (He.ga K "Row"))))))))))))))
theorem ex1_ok {K : Fg} (h : ex1 K = true) : kB K (.ref (He.ga K "Choice")) (.ref (He.ga K "Word")) true = true ∧ kB K (.ref (He.ga K "Often")) (.ref (He.ga K "Step")) false = true ∧ kB K (.ref (He.ga K "Often")) (.ref (He.ga K "Row")) false = true ∧ kB K (.ref (He.ga K "Often")) (.ref (He.ga K "Choice")) false = true ∧ kB K (.ref (He.ga K "Often")) (.ref (He.ga K "Often")) true = true ∧ kB K (.ref (He.ga K "Often")) (.ref (He.ga K "Word")) true = true ∧ decide (He.ga K "Step" ≠ He.ga K "Row") = true ∧ decide (He.ga K "Step" ≠ He.ga K "Choice") = true ∧ decide (He.ga K "Step" ≠ He.ga K "Often") = true ∧ decide (He.ga K "Row" ≠ He.ga K "Choice") = true ∧ decide (He.ga K "Row" ≠ He.ga K "Often") = true ∧ decide (He.ga K "Choice" ≠ He.ga K "Often") = true ∧ insB K (He.ga K "Step") = true ∧ insB K (He.ga K "Row") = true := by
  unfold ex1 at h
  simp only [Bool.and_eq_true] at h
  exact h
def ex2 (K : Fg) : Bool := insB K (He.ga K "Choice") && (insB K (He.ga K "Often") && (oexB K (He.ga K "BadWord") && (He.eqO (PySem.W.findIn K (.ref (He.ga K "BadWord")) "__init__") (some (some (.ref (He.ma K (He.ga K "BadWord") "__init__")))) && (decide (PySem.W.typeIn K (.ref (He.ma K (He.ga K "BadWord") "__init__")) = some (.type "function")) && (noListB K && (decide (PySem.W.kitAny K (.ref (He.ga K "BadWord")) ([He.ga K "BadLine", He.ga K "BadName", He.ga K "BadNumber", He.ga K "BadPlan", He.ga K "BadQuestion", He.ga K "NoThing", He.ga K "NoTie", He.ga K "TooMany", He.ga K "Twice"].map .ref) = some false) && (kB K (.ref (He.ga K "BadWord")) (.ref (He.ga K "BadWord")) true && (kB K (.ref (He.ga K "BadWord")) (.type "ValueError") true && (excB K (He.ga K "BadWord") && (decide (PySem.W.exmOne K (.ref (He.ga K "BadWord")) (.ref (He.ga K "WeaveError")) = some true) && (kB K (.type "int") (.type "bool") false && (kB K (.type "NoneType") (.type "str") false && (kB K (.type "int") (.type "str") false)))))))))))))
theorem ex2_ok {K : Fg} (h : ex2 K = true) : insB K (He.ga K "Choice") = true ∧ insB K (He.ga K "Often") = true ∧ oexB K (He.ga K "BadWord") = true ∧ He.eqO (PySem.W.findIn K (.ref (He.ga K "BadWord")) "__init__") (some (some (.ref (He.ma K (He.ga K "BadWord") "__init__")))) = true ∧ decide (PySem.W.typeIn K (.ref (He.ma K (He.ga K "BadWord") "__init__")) = some (.type "function")) = true ∧ noListB K = true ∧ decide (PySem.W.kitAny K (.ref (He.ga K "BadWord")) ([He.ga K "BadLine", He.ga K "BadName", He.ga K "BadNumber", He.ga K "BadPlan", He.ga K "BadQuestion", He.ga K "NoThing", He.ga K "NoTie", He.ga K "TooMany", He.ga K "Twice"].map .ref) = some false) = true ∧ kB K (.ref (He.ga K "BadWord")) (.ref (He.ga K "BadWord")) true = true ∧ kB K (.ref (He.ga K "BadWord")) (.type "ValueError") true = true ∧ excB K (He.ga K "BadWord") = true ∧ decide (PySem.W.exmOne K (.ref (He.ga K "BadWord")) (.ref (He.ga K "WeaveError")) = some true) = true ∧ kB K (.type "int") (.type "bool") false = true ∧ kB K (.type "NoneType") (.type "str") false = true ∧ kB K (.type "int") (.type "str") false = true := by
  unfold ex2 at h
  simp only [Bool.and_eq_true] at h
  exact h
def ex3 (K : Fg) : Bool := kB K (.type "bool") (.type "str") false && (kB K (.type "list") (.type "str") false && (kB K (.type "tuple") (.type "str") false && (kB K (.type "dict") (.type "str") false)))
theorem ex3_ok {K : Fg} (h : ex3 K = true) : kB K (.type "bool") (.type "str") false = true ∧ kB K (.type "list") (.type "str") false = true ∧ kB K (.type "tuple") (.type "str") false = true ∧ kB K (.type "dict") (.type "str") false = true := by
  unfold ex3 at h
  simp only [Bool.and_eq_true] at h
  exact h
def exK (K : Fg) : Bool := ex0 K && (ex1 K && (ex2 K && (ex3 K)))
theorem fR {K : Fg} (c : He.SaysD fas dfs K) (i : Nat) {f : He.Fa} (h : fasR[i]? = some f) : f.ok K = true := c.facts (List.mem_append_right _ (List.mem_of_getElem? h))
theorem fr_ok {K : Fg} {h : Heap} {mg : Str → Option Value} (c : He.SaysD fas dfs K) (X : K.In h) (G : h.Ns mainGlobals mg) : ∀ x ∈ frs, mg x = none := fun x hx => He.free_ok X G (c.facts (List.mem_append_left _ (List.mem_map_of_mem hx)))
theorem noL_ok {K : Fg} (h : exK K = true) : noListB K = true := by
  have hx0 := h
  unfold exK at hx0
  simp only [Bool.and_eq_true] at hx0
  obtain ⟨g0, g1, g2, g3⟩ := hx0
  obtain ⟨k11, k12, k13, k14, k15, k21, k22, k23, k24, k25, k31, k32, k33, k34⟩ := ex0_ok g0
  obtain ⟨k35, k41, k42, k43, k44, k45, d1, d2, d3, d4, d5, d6, i1, i2⟩ := ex1_ok g1
  obtain ⟨i3, i4, ob, fi, ft, nl, ka, kbb, kbv, ec, xm, tib, tn, ti⟩ := ex2_ok g2
  obtain ⟨tb, tl, tt, td⟩ := ex3_ok g3
  exact nl
def WK (K : Fg) : Cl := ⟨He.ga K "Step", He.ga K "Row", He.ga K "Choice", He.ga K "Often", He.ga K "Word", He.ga K "Reading", He.ga K "BadWord"⟩
theorem wf_ok {K : Fg} (c : He.SaysD fas dfs K) (h : exK K = true) : Wf K (WK K) := by
  have hx0 := h
  unfold exK at hx0
  simp only [Bool.and_eq_true] at hx0
  obtain ⟨g0, g1, g2, g3⟩ := hx0
  obtain ⟨k11, k12, k13, k14, k15, k21, k22, k23, k24, k25, k31, k32, k33, k34⟩ := ex0_ok g0
  obtain ⟨k35, k41, k42, k43, k44, k45, d1, d2, d3, d4, d5, d6, i1, i2⟩ := ex1_ok g1
  obtain ⟨i3, i4, ob, fi, ft, nl, ka, kbb, kbv, ec, xm, tib, tn, ti⟩ := ex2_ok g2
  obtain ⟨tb, tl, tt, td⟩ := ex3_ok g3
  exact ⟨He.cls_ok (fR c 38 (f := .cls "Step") rfl), He.cls_ok (fR c 39 (f := .cls "Row") rfl), He.cls_ok (fR c 40 (f := .cls "Choice") rfl), He.cls_ok (fR c 41 (f := .cls "Often") rfl), He.cls_ok (fR c 42 (f := .cls "Reading") rfl), He.noat_ok (fR c 43 (f := .noat "Step" "kind") rfl), He.noat_ok (fR c 44 (f := .noat "Step" "back") rfl), He.noat_ok (fR c 45 (f := .noat "Row" "parts") rfl), He.noat_ok (fR c 46 (f := .noat "Choice" "parts") rfl), He.noat_ok (fR c 47 (f := .noat "Often" "part") rfl), He.noat_ok (fR c 48 (f := .noat "Often" "sign") rfl), He.noat_ok (fR c 49 (f := .noat "Reading" "signs") rfl), He.noat_ok (fR c 50 (f := .noat "Reading" "at") rfl), He.noat_ok (fR c 51 (f := .noat "Reading" "done") rfl), of_decide_eq_true d1, of_decide_eq_true d2, of_decide_eq_true d3, of_decide_eq_true d4, of_decide_eq_true d5, of_decide_eq_true d6, insB_ok (He.cls_ok (fR c 38 (f := .cls "Step") rfl)) i1, insB_ok (He.cls_ok (fR c 39 (f := .cls "Row") rfl)) i2, insB_ok (He.cls_ok (fR c 40 (f := .cls "Choice") rfl)) i3, insB_ok (He.cls_ok (fR c 41 (f := .cls "Often") rfl)) i4, kB_ok k11, kB_ok k12, kB_ok k13, kB_ok k14, kB_ok k15, kB_ok k21, kB_ok k22, kB_ok k23, kB_ok k24, kB_ok k25, kB_ok k31, kB_ok k32, kB_ok k33, kB_ok k34, kB_ok k35, kB_ok k41, kB_ok k42, kB_ok k43, kB_ok k44, kB_ok k45⟩
theorem kc_ok {K : Fg} (c : He.SaysD fas dfs K) (h : exK K = true) : Kc K (WK K) [He.ga K "BadLine", He.ga K "BadName", He.ga K "BadNumber", He.ga K "BadPlan", He.ga K "BadQuestion", He.ga K "NoThing", He.ga K "NoTie", He.ga K "TooMany", He.ga K "Twice"] (He.ga K "WeaveError") := by
  have hx0 := h
  unfold exK at hx0
  simp only [Bool.and_eq_true] at hx0
  obtain ⟨g0, g1, g2, g3⟩ := hx0
  obtain ⟨k11, k12, k13, k14, k15, k21, k22, k23, k24, k25, k31, k32, k33, k34⟩ := ex0_ok g0
  obtain ⟨k35, k41, k42, k43, k44, k45, d1, d2, d3, d4, d5, d6, i1, i2⟩ := ex1_ok g1
  obtain ⟨i3, i4, ob, fi, ft, nl, ka, kbb, kbv, ec, xm, tib, tn, ti⟩ := ex2_ok g2
  obtain ⟨tb, tl, tt, td⟩ := ex3_ok g3
  exact ⟨of_decide_eq_true ka, kB_ok kbb, kB_ok kbv, excB_ok ec, He.noat_ok (fR c 52 (f := .noat "BadWord" "place") rfl), of_decide_eq_true xm, kB_ok tib, kB_ok tn, kB_ok ti, kB_ok tb, kB_ok tl, kB_ok tt, kB_ok td⟩
theorem F_BadWord___init__ {K : Fg} (c : He.SaysD fas dfs K) : ∃ fd, FunD K "__init__" "BadWord.__init__" (defArgs (inClass (topS 9) 0)) (defBody (inClass (topS 9) 0)) C_BadWord___init__.sc [] [] (He.ma K (He.ga K "BadWord") "__init__") fd := c.def_ 0 (d := D_BadWord___init__) rfl
theorem F_Step___init__ {K : Fg} (c : He.SaysD fas dfs K) : ∃ fd, FunD K "__init__" "Step.__init__" (defArgs (inClass (topS 18) 0)) (defBody (inClass (topS 18) 0)) C_Step___init__.sc [] [] (He.ma K (He.ga K "Step") "__init__") fd := c.def_ 1 (d := D_Step___init__) rfl
theorem F_Row___init__ {K : Fg} (c : He.SaysD fas dfs K) : ∃ fd, FunD K "__init__" "Row.__init__" (defArgs (inClass (topS 19) 0)) (defBody (inClass (topS 19) 0)) C_Row___init__.sc [] [] (He.ma K (He.ga K "Row") "__init__") fd := c.def_ 2 (d := D_Row___init__) rfl
theorem F_Choice___init__ {K : Fg} (c : He.SaysD fas dfs K) : ∃ fd, FunD K "__init__" "Choice.__init__" (defArgs (inClass (topS 20) 0)) (defBody (inClass (topS 20) 0)) C_Choice___init__.sc [] [] (He.ma K (He.ga K "Choice") "__init__") fd := c.def_ 3 (d := D_Choice___init__) rfl
theorem F_Often___init__ {K : Fg} (c : He.SaysD fas dfs K) : ∃ fd, FunD K "__init__" "Often.__init__" (defArgs (inClass (topS 21) 0)) (defBody (inClass (topS 21) 0)) C_Often___init__.sc [] [] (He.ma K (He.ga K "Often") "__init__") fd := c.def_ 4 (d := D_Often___init__) rfl
theorem F_row_of {K : Fg} (c : He.SaysD fas dfs K) : ∃ fd, FunD K "row_of" "row_of" (defArgs (topS 23)) (defBody (topS 23)) C_row_of.sc [] [] (He.ga K "row_of") fd := c.def_ 5 (d := D_row_of) rfl
theorem F_choice_of {K : Fg} (c : He.SaysD fas dfs K) : ∃ fd, FunD K "choice_of" "choice_of" (defArgs (topS 24)) (defBody (topS 24)) C_choice_of.sc [] [] (He.ga K "choice_of") fd := c.def_ 6 (d := D_choice_of) rfl
theorem F_Reading___init__ {K : Fg} (c : He.SaysD fas dfs K) : ∃ fd, FunD K "__init__" "Reading.__init__" (defArgs (inClass (topS 25) 0)) (defBody (inClass (topS 25) 0)) C_Reading___init__.sc [] [] (He.ma K (He.ga K "Reading") "__init__") fd := c.def_ 7 (d := D_Reading___init__) rfl
theorem F_Reading_next_sign {K : Fg} (c : He.SaysD fas dfs K) : ∃ fd, FunD K "next_sign" "Reading.next_sign" (defArgs (inClass (topS 25) 1)) (defBody (inClass (topS 25) 1)) C_Reading_next_sign.sc [] [] (He.ma K (He.ga K "Reading") "next_sign") fd := c.def_ 8 (d := D_Reading_next_sign) rfl
theorem F_Reading_read_choice {K : Fg} (c : He.SaysD fas dfs K) : ∃ fd, FunD K "read_choice" "Reading.read_choice" (defArgs (inClass (topS 25) 2)) (defBody (inClass (topS 25) 2)) C_Reading_read_choice.sc [] [] (He.ma K (He.ga K "Reading") "read_choice") fd := c.def_ 9 (d := D_Reading_read_choice) rfl
theorem F_Reading_read_row {K : Fg} (c : He.SaysD fas dfs K) : ∃ fd, FunD K "read_row" "Reading.read_row" (defArgs (inClass (topS 25) 3)) (defBody (inClass (topS 25) 3)) C_Reading_read_row.sc [] [] (He.ma K (He.ga K "Reading") "read_row") fd := c.def_ 10 (d := D_Reading_read_row) rfl
theorem F_Reading_read_often {K : Fg} (c : He.SaysD fas dfs K) : ∃ fd, FunD K "read_often" "Reading.read_often" (defArgs (inClass (topS 25) 4)) (defBody (inClass (topS 25) 4)) C_Reading_read_often.sc [] [] (He.ma K (He.ga K "Reading") "read_often") fd := c.def_ 11 (d := D_Reading_read_often) rfl
theorem F_Reading_read_bracket {K : Fg} (c : He.SaysD fas dfs K) : ∃ fd, FunD K "read_bracket" "Reading.read_bracket" (defArgs (inClass (topS 25) 5)) (defBody (inClass (topS 25) 5)) C_Reading_read_bracket.sc [] [] (He.ma K (He.ga K "Reading") "read_bracket") fd := c.def_ 12 (d := D_Reading_read_bracket) rfl
theorem F_Reading_read_step {K : Fg} (c : He.SaysD fas dfs K) : ∃ fd, FunD K "read_step" "Reading.read_step" (defArgs (inClass (topS 25) 6)) (defBody (inClass (topS 25) 6)) C_Reading_read_step.sc [] [] (He.ma K (He.ga K "Reading") "read_step") fd := c.def_ 13 (d := D_Reading_read_step) rfl
theorem F_word_of {K : Fg} (c : He.SaysD fas dfs K) : ∃ fd, FunD K "word_of" "word_of" (defArgs (topS 26)) (defBody (topS 26)) C_word_of.sc [] [] (He.ga K "word_of") fd := c.def_ 14 (d := D_word_of) rfl
theorem F_law_cell_at {K : Fg} (c : He.SaysD fas dfs K) : ∃ fd, FunD K "_law_cell_at" "_law_cell_at" (defArgs (topS 28)) (defBody (topS 28)) C_law_cell_at.sc [] [] (He.ga K "_law_cell_at") fd := c.def_ 15 (d := D_law_cell_at) rfl
theorem F_law_mixed {K : Fg} (c : He.SaysD fas dfs K) : ∃ fd, FunD K "_law_mixed" "_law_mixed" (defArgs (topS 29)) (defBody (topS 29)) C_law_mixed.sc [] [] (He.ga K "_law_mixed") fd := c.def_ 16 (d := D_law_mixed) rfl
theorem F_law_draw {K : Fg} (c : He.SaysD fas dfs K) : ∃ fd, FunD K "_law_draw" "_law_draw" (defArgs (topS 30)) (defBody (topS 30)) C_law_draw.sc [] [] (He.ga K "_law_draw") fd := c.def_ 17 (d := D_law_draw) rfl
theorem F_law_kind {K : Fg} (c : He.SaysD fas dfs K) : ∃ fd, FunD K "_law_kind" "_law_kind" (defArgs (topS 31)) (defBody (topS 31)) C_law_kind.sc [] [] (He.ga K "_law_kind") fd := c.def_ 18 (d := D_law_kind) rfl
theorem F_law_tree {K : Fg} (c : He.SaysD fas dfs K) : ∃ fd, FunD K "_law_tree" "_law_tree" (defArgs (topS 32)) (defBody (topS 32)) C_law_tree.sc [] [] (He.ga K "_law_tree") fd := c.def_ 19 (d := D_law_tree) rfl
theorem F_law_text {K : Fg} (c : He.SaysD fas dfs K) : ∃ fd, FunD K "_law_text" "_law_text" (defArgs (topS 33)) (defBody (topS 33)) C_law_text.sc [] [] (He.ga K "_law_text") fd := c.def_ 20 (d := D_law_text) rfl
theorem F_law_behind_letters {K : Fg} (c : He.SaysD fas dfs K) : ∃ fd, FunD K "_law_behind_letters" "_law_behind_letters" (defArgs (topS 34)) (defBody (topS 34)) C_law_behind_letters.sc [] [] (He.ga K "_law_behind_letters") fd := c.def_ 21 (d := D_law_behind_letters) rfl
theorem F_law_behind_often {K : Fg} (c : He.SaysD fas dfs K) : ∃ fd, FunD K "_law_behind_often" "_law_behind_often" (defArgs (topS 35)) (defBody (topS 35)) C_law_behind_often.sc [] [] (He.ga K "_law_behind_often") fd := c.def_ 22 (d := D_law_behind_often) rfl
theorem F_law_step_end {K : Fg} (c : He.SaysD fas dfs K) : ∃ fd, FunD K "_law_step_end" "_law_step_end" (defArgs (topS 36)) (defBody (topS 36)) C_law_step_end.sc [] [] (He.ga K "_law_step_end") fd := c.def_ 23 (d := D_law_step_end) rfl
theorem F_law_place {K : Fg} (c : He.SaysD fas dfs K) : ∃ fd, FunD K "_law_place" "_law_place" (defArgs (topS 37)) (defBody (topS 37)) C_law_place.sc [] [] (He.ga K "_law_place") fd := c.def_ 24 (d := D_law_place) rfl
theorem F_law_bound {K : Fg} (c : He.SaysD fas dfs K) : ∃ fd, FunD K "_law_bound" "_law_bound" (defArgs (topS 38)) (defBody (topS 38)) C_law_bound.sc [] [] (He.ga K "_law_bound") fd := c.def_ 25 (d := D_law_bound) rfl
theorem F_law_bent {K : Fg} (c : He.SaysD fas dfs K) : ∃ fd, FunD K "_law_bent" "_law_bent" (defArgs (topS 39)) (defBody (topS 39)) C_law_bent.sc [] [] (He.ga K "_law_bent") fd := c.def_ 26 (d := D_law_bent) rfl
theorem F_law_refusal {K : Fg} (c : He.SaysD fas dfs K) : ∃ fd, FunD K "_law_refusal" "_law_refusal" (defArgs (topS 40)) (defBody (topS 40)) C_law_refusal.sc [] [] (He.ga K "_law_refusal") fd := c.def_ 27 (d := D_law_refusal) rfl
theorem F_law_is_bad {K : Fg} (c : He.SaysD fas dfs K) : ∃ fd, FunD K "_law_is_bad" "_law_is_bad" (defArgs (topS 41)) (defBody (topS 41)) C_law_is_bad.sc [] [] (He.ga K "_law_is_bad") fd := c.def_ 28 (d := D_law_is_bad) rfl
theorem F_law {K : Fg} (c : He.SaysD fas dfs K) : ∃ fd, FunD K "law" "law" (defArgs (topS 42)) (defBody (topS 42)) C_law.sc [] [] (He.ga K "law") fd := c.def_ 29 (d := D_law) rfl
theorem m_BadWord {K : Fg} {h : Heap} {mg : Str → Option Value} (c : He.SaysD fas dfs K) (X : K.In h) (G : h.Ns mainGlobals mg) : mg "BadWord" = some (.ref (He.ga K "BadWord")) := He.glo_ok X G (fR c 0 (f := .glo "BadWord") rfl)
theorem m_WeaveError {K : Fg} {h : Heap} {mg : Str → Option Value} (c : He.SaysD fas dfs K) (X : K.In h) (G : h.Ns mainGlobals mg) : mg "WeaveError" = some (.ref (He.ga K "WeaveError")) := He.glo_ok X G (fR c 1 (f := .glo "WeaveError") rfl)
theorem m_Word {K : Fg} {h : Heap} {mg : Str → Option Value} (c : He.SaysD fas dfs K) (X : K.In h) (G : h.Ns mainGlobals mg) : mg "Word" = some (.ref (He.ga K "Word")) := He.glo_ok X G (fR c 2 (f := .glo "Word") rfl)
theorem m_Step {K : Fg} {h : Heap} {mg : Str → Option Value} (c : He.SaysD fas dfs K) (X : K.In h) (G : h.Ns mainGlobals mg) : mg "Step" = some (.ref (He.ga K "Step")) := He.glo_ok X G (fR c 3 (f := .glo "Step") rfl)
theorem m_Row {K : Fg} {h : Heap} {mg : Str → Option Value} (c : He.SaysD fas dfs K) (X : K.In h) (G : h.Ns mainGlobals mg) : mg "Row" = some (.ref (He.ga K "Row")) := He.glo_ok X G (fR c 4 (f := .glo "Row") rfl)
theorem m_Choice {K : Fg} {h : Heap} {mg : Str → Option Value} (c : He.SaysD fas dfs K) (X : K.In h) (G : h.Ns mainGlobals mg) : mg "Choice" = some (.ref (He.ga K "Choice")) := He.glo_ok X G (fR c 5 (f := .glo "Choice") rfl)
theorem m_Often {K : Fg} {h : Heap} {mg : Str → Option Value} (c : He.SaysD fas dfs K) (X : K.In h) (G : h.Ns mainGlobals mg) : mg "Often" = some (.ref (He.ga K "Often")) := He.glo_ok X G (fR c 6 (f := .glo "Often") rfl)
theorem m_Reading {K : Fg} {h : Heap} {mg : Str → Option Value} (c : He.SaysD fas dfs K) (X : K.In h) (G : h.Ns mainGlobals mg) : mg "Reading" = some (.ref (He.ga K "Reading")) := He.glo_ok X G (fR c 7 (f := .glo "Reading") rfl)
theorem m_Twice {K : Fg} {h : Heap} {mg : Str → Option Value} (c : He.SaysD fas dfs K) (X : K.In h) (G : h.Ns mainGlobals mg) : mg "Twice" = some (.ref (He.ga K "Twice")) := He.glo_ok X G (fR c 8 (f := .glo "Twice") rfl)
theorem m_TooMany {K : Fg} {h : Heap} {mg : Str → Option Value} (c : He.SaysD fas dfs K) (X : K.In h) (G : h.Ns mainGlobals mg) : mg "TooMany" = some (.ref (He.ga K "TooMany")) := He.glo_ok X G (fR c 9 (f := .glo "TooMany") rfl)
theorem m_NoTie {K : Fg} {h : Heap} {mg : Str → Option Value} (c : He.SaysD fas dfs K) (X : K.In h) (G : h.Ns mainGlobals mg) : mg "NoTie" = some (.ref (He.ga K "NoTie")) := He.glo_ok X G (fR c 10 (f := .glo "NoTie") rfl)
theorem m_NoThing {K : Fg} {h : Heap} {mg : Str → Option Value} (c : He.SaysD fas dfs K) (X : K.In h) (G : h.Ns mainGlobals mg) : mg "NoThing" = some (.ref (He.ga K "NoThing")) := He.glo_ok X G (fR c 11 (f := .glo "NoThing") rfl)
theorem m_BadQuestion {K : Fg} {h : Heap} {mg : Str → Option Value} (c : He.SaysD fas dfs K) (X : K.In h) (G : h.Ns mainGlobals mg) : mg "BadQuestion" = some (.ref (He.ga K "BadQuestion")) := He.glo_ok X G (fR c 12 (f := .glo "BadQuestion") rfl)
theorem m_BadPlan {K : Fg} {h : Heap} {mg : Str → Option Value} (c : He.SaysD fas dfs K) (X : K.In h) (G : h.Ns mainGlobals mg) : mg "BadPlan" = some (.ref (He.ga K "BadPlan")) := He.glo_ok X G (fR c 13 (f := .glo "BadPlan") rfl)
theorem m_BadNumber {K : Fg} {h : Heap} {mg : Str → Option Value} (c : He.SaysD fas dfs K) (X : K.In h) (G : h.Ns mainGlobals mg) : mg "BadNumber" = some (.ref (He.ga K "BadNumber")) := He.glo_ok X G (fR c 14 (f := .glo "BadNumber") rfl)
theorem m_BadName {K : Fg} {h : Heap} {mg : Str → Option Value} (c : He.SaysD fas dfs K) (X : K.In h) (G : h.Ns mainGlobals mg) : mg "BadName" = some (.ref (He.ga K "BadName")) := He.glo_ok X G (fR c 15 (f := .glo "BadName") rfl)
theorem m_BadLine {K : Fg} {h : Heap} {mg : Str → Option Value} (c : He.SaysD fas dfs K) (X : K.In h) (G : h.Ns mainGlobals mg) : mg "BadLine" = some (.ref (He.ga K "BadLine")) := He.glo_ok X G (fR c 16 (f := .glo "BadLine") rfl)
theorem m_row_of {K : Fg} {h : Heap} {mg : Str → Option Value} (c : He.SaysD fas dfs K) (X : K.In h) (G : h.Ns mainGlobals mg) : mg "row_of" = some (.ref (He.ga K "row_of")) := He.glo_ok X G (fR c 17 (f := .glo "row_of") rfl)
theorem m_choice_of {K : Fg} {h : Heap} {mg : Str → Option Value} (c : He.SaysD fas dfs K) (X : K.In h) (G : h.Ns mainGlobals mg) : mg "choice_of" = some (.ref (He.ga K "choice_of")) := He.glo_ok X G (fR c 18 (f := .glo "choice_of") rfl)
theorem m_word_of {K : Fg} {h : Heap} {mg : Str → Option Value} (c : He.SaysD fas dfs K) (X : K.In h) (G : h.Ns mainGlobals mg) : mg "word_of" = some (.ref (He.ga K "word_of")) := He.glo_ok X G (fR c 19 (f := .glo "word_of") rfl)
theorem m_law_cell_at {K : Fg} {h : Heap} {mg : Str → Option Value} (c : He.SaysD fas dfs K) (X : K.In h) (G : h.Ns mainGlobals mg) : mg "_law_cell_at" = some (.ref (He.ga K "_law_cell_at")) := He.glo_ok X G (fR c 20 (f := .glo "_law_cell_at") rfl)
theorem m_law_mixed {K : Fg} {h : Heap} {mg : Str → Option Value} (c : He.SaysD fas dfs K) (X : K.In h) (G : h.Ns mainGlobals mg) : mg "_law_mixed" = some (.ref (He.ga K "_law_mixed")) := He.glo_ok X G (fR c 21 (f := .glo "_law_mixed") rfl)
theorem m_law_draw {K : Fg} {h : Heap} {mg : Str → Option Value} (c : He.SaysD fas dfs K) (X : K.In h) (G : h.Ns mainGlobals mg) : mg "_law_draw" = some (.ref (He.ga K "_law_draw")) := He.glo_ok X G (fR c 22 (f := .glo "_law_draw") rfl)
theorem m_law_kind {K : Fg} {h : Heap} {mg : Str → Option Value} (c : He.SaysD fas dfs K) (X : K.In h) (G : h.Ns mainGlobals mg) : mg "_law_kind" = some (.ref (He.ga K "_law_kind")) := He.glo_ok X G (fR c 23 (f := .glo "_law_kind") rfl)
theorem m_law_tree {K : Fg} {h : Heap} {mg : Str → Option Value} (c : He.SaysD fas dfs K) (X : K.In h) (G : h.Ns mainGlobals mg) : mg "_law_tree" = some (.ref (He.ga K "_law_tree")) := He.glo_ok X G (fR c 24 (f := .glo "_law_tree") rfl)
theorem m_law_text {K : Fg} {h : Heap} {mg : Str → Option Value} (c : He.SaysD fas dfs K) (X : K.In h) (G : h.Ns mainGlobals mg) : mg "_law_text" = some (.ref (He.ga K "_law_text")) := He.glo_ok X G (fR c 25 (f := .glo "_law_text") rfl)
theorem m_law_behind_letters {K : Fg} {h : Heap} {mg : Str → Option Value} (c : He.SaysD fas dfs K) (X : K.In h) (G : h.Ns mainGlobals mg) : mg "_law_behind_letters" = some (.ref (He.ga K "_law_behind_letters")) := He.glo_ok X G (fR c 26 (f := .glo "_law_behind_letters") rfl)
theorem m_law_behind_often {K : Fg} {h : Heap} {mg : Str → Option Value} (c : He.SaysD fas dfs K) (X : K.In h) (G : h.Ns mainGlobals mg) : mg "_law_behind_often" = some (.ref (He.ga K "_law_behind_often")) := He.glo_ok X G (fR c 27 (f := .glo "_law_behind_often") rfl)
theorem m_law_step_end {K : Fg} {h : Heap} {mg : Str → Option Value} (c : He.SaysD fas dfs K) (X : K.In h) (G : h.Ns mainGlobals mg) : mg "_law_step_end" = some (.ref (He.ga K "_law_step_end")) := He.glo_ok X G (fR c 28 (f := .glo "_law_step_end") rfl)
theorem m_law_place {K : Fg} {h : Heap} {mg : Str → Option Value} (c : He.SaysD fas dfs K) (X : K.In h) (G : h.Ns mainGlobals mg) : mg "_law_place" = some (.ref (He.ga K "_law_place")) := He.glo_ok X G (fR c 29 (f := .glo "_law_place") rfl)
theorem m_law_bound {K : Fg} {h : Heap} {mg : Str → Option Value} (c : He.SaysD fas dfs K) (X : K.In h) (G : h.Ns mainGlobals mg) : mg "_law_bound" = some (.ref (He.ga K "_law_bound")) := He.glo_ok X G (fR c 30 (f := .glo "_law_bound") rfl)
theorem m_law_bent {K : Fg} {h : Heap} {mg : Str → Option Value} (c : He.SaysD fas dfs K) (X : K.In h) (G : h.Ns mainGlobals mg) : mg "_law_bent" = some (.ref (He.ga K "_law_bent")) := He.glo_ok X G (fR c 31 (f := .glo "_law_bent") rfl)
theorem m_law_refusal {K : Fg} {h : Heap} {mg : Str → Option Value} (c : He.SaysD fas dfs K) (X : K.In h) (G : h.Ns mainGlobals mg) : mg "_law_refusal" = some (.ref (He.ga K "_law_refusal")) := He.glo_ok X G (fR c 32 (f := .glo "_law_refusal") rfl)
theorem m_law_is_bad {K : Fg} {h : Heap} {mg : Str → Option Value} (c : He.SaysD fas dfs K) (X : K.In h) (G : h.Ns mainGlobals mg) : mg "_law_is_bad" = some (.ref (He.ga K "_law_is_bad")) := He.glo_ok X G (fR c 33 (f := .glo "_law_is_bad") rfl)
theorem m_law {K : Fg} {h : Heap} {mg : Str → Option Value} (c : He.SaysD fas dfs K) (X : K.In h) (G : h.Ns mainGlobals mg) : mg "law" = some (.ref (He.ga K "law")) := He.glo_ok X G (fR c 34 (f := .glo "law") rfl)
end Q05
set_option Elab.async false
set_option autoImplicit false
set_option linter.all false
set_option maxRecDepth 100000
set_option maxHeartbeats 0
namespace Q05
open PySem PySem.Spec PyProof.Rows L2 Rf K04
section
variable {P : Program} {w : World} {K : Fg} {mg : Str → Option Value} {base : Heap} {h : Heap} (c : He.SaysD fas dfs K) (X : K.In h) (G : h.Ns mainGlobals mg) (hx : exK K = true)
include c X G hx
theorem ok_law_mixed : OkAt P w K mg base 1 "_law_mixed" ["_law_cell", "_law_k"] (lift K 2 (spMix)) := by
  have wf := wf_ok c hx
  have kc := kc_ok c hx
  exact top_of (F_law_mixed c) (m_law_mixed c X G) (fun _ _ _ _ _ _ us hl => match us, hl with | [_, _], _ => rfl) fun fd F => def_ab F ck_law_mixed (ag := {}) (GOk.of (.nil) (.nil) (fun x hx => fr_ok c X G x ((by decide +kernel : ∀ x ∈ C_law_mixed.fr, x ∈ frs) x hx)) (.nil) (meG_none) (.nil) (.nil)) rfl fun ws S QA EA _ h => sem_mixed ws h
theorem ok_law_cell_at : OkAt P w K mg base 1 "_law_cell_at" ["_law_script", "_law_k"] (lift K 2 (spCell)) := by
  have wf := wf_ok c hx
  have kc := kc_ok c hx
  exact top_of (F_law_cell_at c) (m_law_cell_at c X G) (fun _ _ _ _ _ _ us hl => match us, hl with | [_, _], _ => rfl) fun fd F => def_ab F ck_law_cell_at (ag := {}) (GOk.of (.nil) (.nil) (fun x hx => fr_ok c X G x ((by decide +kernel : ∀ x ∈ C_law_cell_at.fr, x ∈ frs) x hx)) (.nil) (meG_none) (.nil) (.nil)) rfl fun ws S QA EA _ h => sem_cell ws h
theorem ok_law_kind : OkAt P w K mg base 1 "_law_kind" ["_law_number"] (lift K 1 (spKind)) := by
  have wf := wf_ok c hx
  have kc := kc_ok c hx
  exact top_of (F_law_kind c) (m_law_kind c X G) (fun _ _ _ _ _ _ us hl => match us, hl with | [_], _ => rfl) fun fd F => def_ab F ck_law_kind (ag := {}) (GOk.of (.nil) (.nil) (fun x hx => fr_ok c X G x ((by decide +kernel : ∀ x ∈ C_law_kind.fr, x ∈ frs) x hx)) (.nil) (meG_none) (.nil) (.nil)) rfl fun ws S QA EA _ h => sem_kind ws h
theorem ok_law_draw : OkAt P w K mg base 2 "_law_draw" ["_law_state"] (lift K 1 (spDr)) := by
  have wf := wf_ok c hx
  have kc := kc_ok c hx
  exact top_of (F_law_draw c) (m_law_draw c X G) (fun _ _ _ _ _ _ us hl => match us, hl with | [_], _ => rfl) fun fd F => def_ab F ck_law_draw (ag := { sp := [(2, spMix)], fa := [He.ga K "_law_mixed"] }) (GOk.of (.cons (ok_law_mixed c X G hx) (by omega) (.nil)) (.nil) (fun x hx => fr_ok c X G x ((by decide +kernel : ∀ x ∈ C_law_draw.fr, x ∈ frs) x hx)) (.nil) (meG_none) (.nil) (.nil)) rfl fun ws S QA EA _ h => sem_draw ws h
theorem ok_law_behind_letters : OkAt P w K mg base 1 "_law_behind_letters" ["_law_text_here", "_law_at"] (lift K 2 (spBl)) := by
  have wf := wf_ok c hx
  have kc := kc_ok c hx
  exact top_of (F_law_behind_letters c) (m_law_behind_letters c X G) (fun _ _ _ _ _ _ us hl => match us, hl with | [_, _], _ => rfl) fun fd F => def_ab F ck_law_behind_letters (ag := {}) (GOk.of (.nil) (.nil) (fun x hx => fr_ok c X G x ((by decide +kernel : ∀ x ∈ C_law_behind_letters.fr, x ∈ frs) x hx)) (.nil) (meG_none) (.nil) (.nil)) rfl fun ws S QA EA _ h => sem_bletters ws h
theorem ok_law_behind_often : OkAt P w K mg base 1 "_law_behind_often" ["_law_text_here", "_law_at"] (lift K 2 (spBo)) := by
  have wf := wf_ok c hx
  have kc := kc_ok c hx
  exact top_of (F_law_behind_often c) (m_law_behind_often c X G) (fun _ _ _ _ _ _ us hl => match us, hl with | [_, _], _ => rfl) fun fd F => def_ab F ck_law_behind_often (ag := {}) (GOk.of (.nil) (.nil) (fun x hx => fr_ok c X G x ((by decide +kernel : ∀ x ∈ C_law_behind_often.fr, x ∈ frs) x hx)) (.nil) (meG_none) (.nil) (.nil)) rfl fun ws S QA EA _ h => sem_boften ws h
theorem ok_law_step_end : OkAt P w K mg base 2 "_law_step_end" ["_law_text_here", "_law_at"] (lift K 2 (spSe)) := by
  have wf := wf_ok c hx
  have kc := kc_ok c hx
  exact top_of (F_law_step_end c) (m_law_step_end c X G) (fun _ _ _ _ _ _ us hl => match us, hl with | [_, _], _ => rfl) fun fd F => def_ab F ck_law_step_end (ag := { sp := [(2, spBl), (2, spBo)], fa := [He.ga K "_law_behind_letters", He.ga K "_law_behind_often"] }) (GOk.of (.cons (ok_law_behind_letters c X G hx) (by omega) (.cons (ok_law_behind_often c X G hx) (by omega) (.nil))) (.nil) (fun x hx => fr_ok c X G x ((by decide +kernel : ∀ x ∈ C_law_step_end.fr, x ∈ frs) x hx)) (.nil) (meG_none) (.nil) (.nil)) rfl fun ws S QA EA _ h => sem_stepend ws h
theorem ok_law_place : OkAt P w K mg base 3 "_law_place" ["_law_text_here"] (lift K 1 (spPl)) := by
  have wf := wf_ok c hx
  have kc := kc_ok c hx
  exact top_of (F_law_place c) (m_law_place c X G) (fun _ _ _ _ _ _ us hl => match us, hl with | [_], _ => rfl) fun fd F => def_ab F ck_law_place (ag := { sp := [(2, spSe), (2, spBo)], fa := [He.ga K "_law_step_end", He.ga K "_law_behind_often"] }) (GOk.of (.cons (ok_law_step_end c X G hx) (by omega) (.cons (ok_law_behind_often c X G hx) (by omega) (.nil))) (.nil) (fun x hx => fr_ok c X G x ((by decide +kernel : ∀ x ∈ C_law_place.fr, x ∈ frs) x hx)) (.nil) (meG_none) (.nil) (.nil)) rfl fun ws S QA EA _ h => sem_place ws h
theorem ok_law_bound : OkAt P w K mg base 1 "_law_bound" ["_law_number"] (lift K 1 (spBd)) := by
  have wf := wf_ok c hx
  have kc := kc_ok c hx
  exact top_of (F_law_bound c) (m_law_bound c X G) (fun _ _ _ _ _ _ us hl => match us, hl with | [_], _ => rfl) fun fd F => def_ab F ck_law_bound (ag := {}) (GOk.of (.nil) (.nil) (fun x hx => fr_ok c X G x ((by decide +kernel : ∀ x ∈ C_law_bound.fr, x ∈ frs) x hx)) (.nil) (meG_none) (.nil) (.nil)) rfl fun ws S QA EA _ h => sem_bound ws h
theorem ok_law_bent : OkAt P w K mg base 2 "_law_bent" ["_law_text_here", "_law_number"] (lift K 2 (spBe)) := by
  have wf := wf_ok c hx
  have kc := kc_ok c hx
  exact top_of (F_law_bent c) (m_law_bent c X G) (fun _ _ _ _ _ _ us hl => match us, hl with | [_, _], _ => rfl) fun fd F => def_ab F ck_law_bent (ag := { sp := [(1, spBd)], fa := [He.ga K "_law_bound"] }) (GOk.of (.cons (ok_law_bound c X G hx) (by omega) (.nil)) (.nil) (fun x hx => fr_ok c X G x ((by decide +kernel : ∀ x ∈ C_law_bent.fr, x ∈ frs) x hx)) (.nil) (meG_none) (.nil) (.nil)) rfl fun ws S QA EA _ h => sem_bent ws h
theorem ini_Step : IniAt P w K mg base 1 "Step" ["self", "kind", "back"] (lift K 3 (spIni (WK K).st 2 iniStep)) := by
  have wf := wf_ok c hx
  have kc := kc_ok c hx
  exact ini_of (F_Step___init__ c) (m_Step c X G) (He.mkr_ok (fR c 53 (f := .mkr "Step") rfl)) (fun _ _ _ _ _ _ us hl => match us, hl with | [_, _, _], _ => rfl) fun fd F => def_ab F ck_Step___init__ (ag := {}) (GOk.of (.nil) (.nil) (fun x hx => fr_ok c X G x ((by decide +kernel : ∀ x ∈ C_Step___init__.fr, x ∈ frs) x hx)) (.nil) (meG_none) (.nil) (.nil)) rfl fun ws S QA EA _ h => sem_Step_init ws h
theorem ini_Often : IniAt P w K mg base 1 "Often" ["self", "part", "sign"] (lift K 3 (spIni (WK K).of 2 iniOften)) := by
  have wf := wf_ok c hx
  have kc := kc_ok c hx
  exact ini_of (F_Often___init__ c) (m_Often c X G) (He.mkr_ok (fR c 56 (f := .mkr "Often") rfl)) (fun _ _ _ _ _ _ us hl => match us, hl with | [_, _, _], _ => rfl) fun fd F => def_ab F ck_Often___init__ (ag := {}) (GOk.of (.nil) (.nil) (fun x hx => fr_ok c X G x ((by decide +kernel : ∀ x ∈ C_Often___init__.fr, x ∈ frs) x hx)) (.nil) (meG_none) (.nil) (.nil)) rfl fun ws S QA EA _ h => sem_Often_init ws h
theorem ini_Reading : IniAt P w K mg base 1 "Reading" ["self", "signs"] (lift K 2 (spIni (WK K).rd 1 iniRead)) := by
  have wf := wf_ok c hx
  have kc := kc_ok c hx
  exact ini_of (F_Reading___init__ c) (m_Reading c X G) (He.mkr_ok (fR c 57 (f := .mkr "Reading") rfl)) (fun _ _ _ _ _ _ us hl => match us, hl with | [_, _], _ => rfl) fun fd F => def_ab F ck_Reading___init__ (ag := {}) (GOk.of (.nil) (.nil) (fun x hx => fr_ok c X G x ((by decide +kernel : ∀ x ∈ C_Reading___init__.fr, x ∈ frs) x hx)) (.nil) (meG_none) (.nil) (.nil)) rfl fun ws S QA EA _ h => sem_Read_init ws h
theorem ini_Row : IniAt P w K mg base 1 "Row" ["self", "parts"] (lift K 2 (spIni (WK K).rw 1 iniNode)) := by
  have wf := wf_ok c hx
  have kc := kc_ok c hx
  exact ini_of (F_Row___init__ c) (m_Row c X G) (He.mkr_ok (fR c 54 (f := .mkr "Row") rfl)) (fun _ _ _ _ _ _ us hl => match us, hl with | [_, _], _ => rfl) fun fd F => def_ab F ck_Row___init__ (ag := {}) (GOk.of (.nil) (.nil) (fun x hx => fr_ok c X G x ((by decide +kernel : ∀ x ∈ C_Row___init__.fr, x ∈ frs) x hx)) (.nil) (meG_none) (.nil) (.nil)) rfl fun ws S QA EA _ h => node_init _ ⟨wf.crw, wf.nr⟩ _ rfl ws h _ rfl
theorem ini_Choice : IniAt P w K mg base 1 "Choice" ["self", "parts"] (lift K 2 (spIni (WK K).ch 1 iniNode)) := by
  have wf := wf_ok c hx
  have kc := kc_ok c hx
  exact ini_of (F_Choice___init__ c) (m_Choice c X G) (He.mkr_ok (fR c 55 (f := .mkr "Choice") rfl)) (fun _ _ _ _ _ _ us hl => match us, hl with | [_, _], _ => rfl) fun fd F => def_ab F ck_Choice___init__ (ag := {}) (GOk.of (.nil) (.nil) (fun x hx => fr_ok c X G x ((by decide +kernel : ∀ x ∈ C_Choice___init__.fr, x ∈ frs) x hx)) (.nil) (meG_none) (.nil) (.nil)) rfl fun ws S QA EA _ h => node_init _ ⟨wf.cch, wf.nc⟩ _ rfl ws h _ rfl
theorem exi_BadWord : ExiAt P w K mg base 1 "BadWord" ["self", "place"] (spOex (WK K).bw [s_place]) := by
  have wf := wf_ok c hx
  have kc := kc_ok c hx
  have h := hx
  have hx0 := h
  unfold exK at hx0
  simp only [Bool.and_eq_true] at hx0
  obtain ⟨g0, g1, g2, g3⟩ := hx0
  obtain ⟨k11, k12, k13, k14, k15, k21, k22, k23, k24, k25, k31, k32, k33, k34⟩ := ex0_ok g0
  obtain ⟨k35, k41, k42, k43, k44, k45, d1, d2, d3, d4, d5, d6, i1, i2⟩ := ex1_ok g1
  obtain ⟨i3, i4, ob, fi, ft, nl, ka, kbb, kbv, ec, xm, tib, tn, ti⟩ := ex2_ok g2
  obtain ⟨tb, tl, tt, td⟩ := ex3_ok g3
  exact exi_of (F_BadWord___init__ c) (m_BadWord c X G) (oexB_ok ob) (He.eqO_ok fi) (of_decide_eq_true ft) (fun _ _ _ _ _ _ us hl => match us, hl with | [_, _], _ => rfl) fun fd F => def_oex1 F ck_BadWord___init__ (G := gbOf K {}) (GOk.of (.nil) (.nil) (fun x hx => fr_ok c X G x ((by decide +kernel : ∀ x ∈ C_BadWord___init__.fr, x ∈ frs) x hx)) (.nil) (meG_none) (.nil) (.nil)) rfl (oexB_ok ob) (He.noat_ok (fR c 52 (f := .noat "BadWord" "place") rfl))
theorem ok_row_of : OkAt P w K mg base 3 "row_of" ["parts"] (lift K 1 (spOf (WK K) true)) := by
  have wf := wf_ok c hx
  have kc := kc_ok c hx
  exact top_of (F_row_of c) (m_row_of c X G) (fun _ _ _ _ _ _ us hl => match us, hl with | [_], _ => rfl) fun fd F => def_abT F ck_row_of (ag := agOf (WK K) true) (GOk.of (.nil) (.cons (m_Row c X G) rfl (.nil)) (fun x hx => fr_ok c X G x ((by decide +kernel : ∀ x ∈ C_row_of.fr, x ∈ frs) x hx)) (.nil) (meG_none) (IniAt.cons (ini_Row c X G hx) (by omega) (.nil)) (.nil)) rfl fun ws S QA EA _ h => sem_of true ws h
theorem ok_choice_of : OkAt P w K mg base 3 "choice_of" ["parts"] (lift K 1 (spOf (WK K) false)) := by
  have wf := wf_ok c hx
  have kc := kc_ok c hx
  exact top_of (F_choice_of c) (m_choice_of c X G) (fun _ _ _ _ _ _ us hl => match us, hl with | [_], _ => rfl) fun fd F => def_abT F ck_choice_of (ag := agOf (WK K) false) (GOk.of (.nil) (.cons (m_Choice c X G) rfl (.nil)) (fun x hx => fr_ok c X G x ((by decide +kernel : ∀ x ∈ C_choice_of.fr, x ∈ frs) x hx)) (.nil) (meG_none) (IniAt.cons (ini_Choice c X G hx) (by omega) (.nil)) (.nil)) rfl fun ws S QA EA _ h => sem_of false ws h
end
end Q05
set_option Elab.async false
set_option autoImplicit false
set_option linter.all false
set_option maxRecDepth 100000
set_option maxHeartbeats 0
namespace Q05
open PySem PySem.Spec PyProof.Rows L2 Rf K04
theorem vac_tx (ws : List AV) (S : Sto) (Q : AQ) (E : AEr) (h : spTx 0 ws S Q E) : False := by
  rcases h with ⟨_, _, _, _, h, _⟩ | ⟨_, _, _, _, _, _, _, _, h, _⟩
  · exact absurd h (Nat.not_lt_zero _)
  · exact absurd h (Nat.not_lt_zero _)
section
variable {P : Program} {w : World} {K : Fg} {mg : Str → Option Value} {base : Heap} {h : Heap} (c : He.SaysD fas dfs K) (X : K.In h) (G : h.Ns mainGlobals mg) (hx : exK K = true)
include c X G hx
theorem mt_Reading_next_sign : MtAt P w K mg base 1 (He.ga K "Reading") "next_sign" ["self"] (lift K 1 (spNs (WK K))) := by
  have wf := wf_ok c hx
  have kc := kc_ok c hx
  exact mt_of (F_Reading_next_sign c) (He.meth_ok (fR c 58 (f := .meth "Reading" "next_sign") rfl)) (fun _ _ _ _ _ _ us hl => match us, hl with | [_], _ => rfl) fun fd F => def_ab F ck_Reading_next_sign (ag := {}) (GOk.of (.nil) (.nil) (fun x hx => fr_ok c X G x ((by decide +kernel : ∀ x ∈ C_Reading_next_sign.fr, x ∈ frs) x hx)) (.nil) (meG_none) (.nil) (.nil)) rfl fun ws S QA EA _ h => sem_next_sign ws h
theorem mt_Reading_read_step : MtAt P w K mg base 3 (He.ga K "Reading") "read_step" ["self"] (lift K 1 (spRd (WK K) none rdStep)) := by
  have wf := wf_ok c hx
  have kc := kc_ok c hx
  obtain ⟨t_MOST_STEPS, hi_MOST_STEPS⟩ := He.int_ok X G (fR c 35 (f := .int "MOST_STEPS" 12) rfl)
  obtain ⟨t_MOST_LETTERS, hi_MOST_LETTERS⟩ := He.int_ok X G (fR c 37 (f := .int "MOST_LETTERS" 8) rfl)
  exact mt_of (F_Reading_read_step c) (He.meth_ok (fR c 63 (f := .meth "Reading" "read_step") rfl)) (fun _ _ _ _ _ _ us hl => match us, hl with | [_], _ => rfl) fun fd F => def_ab F ck_Reading_read_step (ag := { me := meOf [(He.ga K "Reading", s_next_sign, 1, spNs (WK K))], gv := [.int 12, .int 8], exi := [((WK K).bw, [s_place])], mks := [((WK K).st, 3, spIni (WK K).st 2 iniStep)] }) (GOk.of (.nil) (.cons hi_MOST_STEPS ⟨_, rfl⟩ (.cons hi_MOST_LETTERS ⟨_, rfl⟩ (.nil))) (fun x hx => fr_ok c X G x ((by decide +kernel : ∀ x ∈ C_Reading_read_step.fr, x ∈ frs) x hx)) (.nil) (MeLs.meG (.cons wf.crd (mt_Reading_next_sign c X G hx) (by omega) .nil)) (IniAt.cons (ini_Step c X G hx) (by omega) (.nil)) (ExiAt.cons (exi_BadWord c X G hx) (by omega) (.nil))) rfl fun ws S QA EA _ h => sem_step ⟨meOf_here⟩ ws h
theorem mt_Reading_read_bracket0 : MtAt P w K mg base 3 (He.ga K "Reading") "read_bracket" ["self", "deep"] (lift K 2 (spRd (WK K) (some 0) (fun x => brR x 0))) := by
  have wf := wf_ok c hx
  have kc := kc_ok c hx
  obtain ⟨t_MOST_OPEN, hi_MOST_OPEN⟩ := He.int_ok X G (fR c 36 (f := .int "MOST_OPEN" 10) rfl)
  exact mt_of (F_Reading_read_bracket c) (He.meth_ok (fR c 62 (f := .meth "Reading" "read_bracket") rfl)) (fun _ _ _ _ _ _ us hl => match us, hl with | [_, _], _ => rfl) fun fd F => def_ab F ck_Reading_read_bracket (ag := { me := meOf [(He.ga K "Reading", s_next_sign, 1, spNs (WK K))], gv := [.int 10], exi := [((WK K).bw, [s_place])] }) (GOk.of (.nil) (.cons hi_MOST_OPEN ⟨_, rfl⟩ (.nil)) (fun x hx => fr_ok c X G x ((by decide +kernel : ∀ x ∈ C_Reading_read_bracket.fr, x ∈ frs) x hx)) (.nil) (MeLs.meG (.cons wf.crd (mt_Reading_next_sign c X G hx) (by omega) .nil)) (.nil) (ExiAt.cons (exi_BadWord c X G hx) (by omega) (.nil))) rfl fun ws S QA EA _ h => sem_bracket0 ⟨meOf_here⟩ ws h
theorem mt_Reading_read_bracket (d j : Nat) (hj : 2 ≤ j) (hc : MtAt P w K mg base j (He.ga K "Reading") "read_choice" ["self", "deep"] (lift K 2 (spRd (WK K) (some d) (fun x => chR x d)))) : MtAt P w K mg base (j + 1) (He.ga K "Reading") "read_bracket" ["self", "deep"] (lift K 2 (spRd (WK K) (some (d + 1)) (fun x => brR x (d + 1)))) := by
  have wf := wf_ok c hx
  have kc := kc_ok c hx
  obtain ⟨t_MOST_OPEN, hi_MOST_OPEN⟩ := He.int_ok X G (fR c 36 (f := .int "MOST_OPEN" 10) rfl)
  exact mt_of (F_Reading_read_bracket c) (He.meth_ok (fR c 62 (f := .meth "Reading" "read_bracket") rfl)) (fun _ _ _ _ _ _ us hl => match us, hl with | [_, _], _ => rfl) fun fd F => def_ab F ck_Reading_read_bracket (ag := { me := meOf [(He.ga K "Reading", s_next_sign, 1, spNs (WK K)), (He.ga K "Reading", s_read_choice, 2, spRd (WK K) (some d) (fun x => chR x d))], gv := [.int 10], exi := [((WK K).bw, [s_place])] }) (GOk.of (.nil) (.cons hi_MOST_OPEN ⟨_, rfl⟩ (.nil)) (fun x hx => fr_ok c X G x ((by decide +kernel : ∀ x ∈ C_Reading_read_bracket.fr, x ∈ frs) x hx)) (.nil) (MeLs.meG (.cons wf.crd (mt_Reading_next_sign c X G hx) (by omega) (.cons wf.crd hc (Nat.le_refl _) .nil))) (.nil) (ExiAt.cons (exi_BadWord c X G hx) (by omega) (.nil))) rfl fun ws S QA EA _ h => sem_bracketS ⟨meOf_here⟩ d ((meOf_skip (fun e => absurd e.2 (by decide +kernel))).trans (meOf_here)) ws h
theorem mt_Reading_read_often (d j : Nat) (hj : 3 ≤ j) (hb : MtAt P w K mg base j (He.ga K "Reading") "read_bracket" ["self", "deep"] (lift K 2 (spRd (WK K) (some d) (fun x => brR x d)))) : MtAt P w K mg base (j + 1) (He.ga K "Reading") "read_often" ["self", "deep"] (lift K 2 (spRd (WK K) (some d) (fun x => ofR x d))) := by
  have wf := wf_ok c hx
  have kc := kc_ok c hx
  exact mt_of (F_Reading_read_often c) (He.meth_ok (fR c 61 (f := .meth "Reading" "read_often") rfl)) (fun _ _ _ _ _ _ us hl => match us, hl with | [_, _], _ => rfl) fun fd F => def_ab F ck_Reading_read_often (ag := { me := meOf [(He.ga K "Reading", s_next_sign, 1, spNs (WK K)), (He.ga K "Reading", s_read_bracket, 2, spRd (WK K) (some d) (fun x => brR x d)), (He.ga K "Reading", s_read_step, 1, spRd (WK K) none rdStep)], mks := [((WK K).of, 3, spIni (WK K).of 2 iniOften)] }) (GOk.of (.nil) (.nil) (fun x hx => fr_ok c X G x ((by decide +kernel : ∀ x ∈ C_Reading_read_often.fr, x ∈ frs) x hx)) (.nil) (MeLs.meG (.cons wf.crd (mt_Reading_next_sign c X G hx) (by omega) (.cons wf.crd hb (Nat.le_refl _) (.cons wf.crd (mt_Reading_read_step c X G hx) (by omega) .nil)))) (IniAt.cons (ini_Often c X G hx) (by omega) (.nil)) (.nil)) rfl fun ws S QA EA _ h => sem_often ⟨meOf_here⟩ d ((meOf_skip (fun e => absurd e.2 (by decide +kernel))).trans (meOf_here)) ((meOf_skip (fun e => absurd e.2 (by decide +kernel))).trans ((meOf_skip (fun e => absurd e.2 (by decide +kernel))).trans (meOf_here))) ws h
theorem mt_Reading_read_row (d j : Nat) (hj : 3 ≤ j) (ho : MtAt P w K mg base j (He.ga K "Reading") "read_often" ["self", "deep"] (lift K 2 (spRd (WK K) (some d) (fun x => ofR x d)))) : MtAt P w K mg base (j + 1) (He.ga K "Reading") "read_row" ["self", "deep"] (lift K 2 (spRd (WK K) (some d) (fun x => rwR x d))) := by
  have wf := wf_ok c hx
  have kc := kc_ok c hx
  exact mt_of (F_Reading_read_row c) (He.meth_ok (fR c 60 (f := .meth "Reading" "read_row") rfl)) (fun _ _ _ _ _ _ us hl => match us, hl with | [_, _], _ => rfl) fun fd F => def_abT F ck_Reading_read_row (ag := { me := meOf [(He.ga K "Reading", s_next_sign, 1, spNs (WK K)), (He.ga K "Reading", s_read_often, 2, spRd (WK K) (some d) (fun x => ofR x d))], sp := [(1, spOf (WK K) true)], fa := [He.ga K "row_of"] }) (GOk.of (.cons (ok_row_of c X G hx) (by omega) (.nil)) (.nil) (fun x hx => fr_ok c X G x ((by decide +kernel : ∀ x ∈ C_Reading_read_row.fr, x ∈ frs) x hx)) (.nil) (MeLs.meG (.cons wf.crd (mt_Reading_next_sign c X G hx) (by omega) (.cons wf.crd ho (Nat.le_refl _) .nil))) (.nil) (.nil)) rfl fun ws S QA EA _ h => sem_many ⟨meOf_here⟩ true s_read_often 46 d (fun x => ofR x d) ((meOf_skip (fun e => absurd e.2 (by decide +kernel))).trans (meOf_here)) (fun _ _ _ => rdF_o) (fun x => ofR_keeps x d) ws h
theorem mt_Reading_read_choice (d j : Nat) (hj : 3 ≤ j) (ho : MtAt P w K mg base j (He.ga K "Reading") "read_row" ["self", "deep"] (lift K 2 (spRd (WK K) (some d) (fun x => rwR x d)))) : MtAt P w K mg base (j + 1) (He.ga K "Reading") "read_choice" ["self", "deep"] (lift K 2 (spRd (WK K) (some d) (fun x => chR x d))) := by
  have wf := wf_ok c hx
  have kc := kc_ok c hx
  exact mt_of (F_Reading_read_choice c) (He.meth_ok (fR c 59 (f := .meth "Reading" "read_choice") rfl)) (fun _ _ _ _ _ _ us hl => match us, hl with | [_, _], _ => rfl) fun fd F => def_abT F ck_Reading_read_choice (ag := { me := meOf [(He.ga K "Reading", s_next_sign, 1, spNs (WK K)), (He.ga K "Reading", s_read_row, 2, spRd (WK K) (some d) (fun x => rwR x d))], sp := [(1, spOf (WK K) false)], fa := [He.ga K "choice_of"] }) (GOk.of (.cons (ok_choice_of c X G hx) (by omega) (.nil)) (.nil) (fun x hx => fr_ok c X G x ((by decide +kernel : ∀ x ∈ C_Reading_read_choice.fr, x ∈ frs) x hx)) (.nil) (MeLs.meG (.cons wf.crd (mt_Reading_next_sign c X G hx) (by omega) (.cons wf.crd ho (Nat.le_refl _) .nil))) (.nil) (.nil)) rfl fun ws S QA EA _ h => sem_many ⟨meOf_here⟩ false s_read_row 124 d (fun x => rwR x d) ((meOf_skip (fun e => absurd e.2 (by decide +kernel))).trans (meOf_here)) (fun _ _ _ => rdF_w) (fun x => rwR_keeps x d) ws h
theorem mt_br (d : Nat) : MtAt P w K mg base (4 * d + 3) (He.ga K "Reading") "read_bracket" ["self", "deep"] (lift K 2 (spRd (WK K) (some d) (fun x => brR x d))) := by
  have wf := wf_ok c hx
  have kc := kc_ok c hx
  induction d with
  | zero => exact mt_Reading_read_bracket0 c X G hx
  | succ d ih =>
    have h1 := mt_Reading_read_often c X G hx d (4 * d + 3) (by omega) ih
    have h2 := mt_Reading_read_row c X G hx d (4 * d + 3 + 1) (by omega) h1
    have h3 := mt_Reading_read_choice c X G hx d (4 * d + 3 + 1 + 1) (by omega) h2
    exact (mt_Reading_read_bracket c X G hx d (4 * d + 3 + 1 + 1 + 1) (by omega) h3).up (by omega)
theorem mt_ch10 : MtAt P w K mg base 46 (He.ga K "Reading") "read_choice" ["self", "deep"] (lift K 2 (spRd (WK K) (some 10) (fun x => chR x 10))) := by
  have wf := wf_ok c hx
  have kc := kc_ok c hx
  exact mt_Reading_read_choice c X G hx 10 45 (by omega) (mt_Reading_read_row c X G hx 10 44 (by omega) (mt_Reading_read_often c X G hx 10 43 (by omega) (mt_br c X G hx 10)))
theorem ok_word_of : OkAt P w K mg base 47 "word_of" ["text"] (lift K 1 (spWd (WK K) K)) := by
  have wf := wf_ok c hx
  have kc := kc_ok c hx
  exact top_of (F_word_of c) (m_word_of c X G) (fun _ _ _ _ _ _ us hl => match us, hl with | [_], _ => rfl) fun fd F => def_abT F ck_word_of (ag := { me := meOf [(He.ga K "Reading", s_next_sign, 1, spNs (WK K)), (He.ga K "Reading", s_read_choice, 2, spRd (WK K) (some 10) (fun x => chR x 10))], exi := [((WK K).bw, [s_place])], mks := [((WK K).rd, 2, spIni (WK K).rd 1 iniRead)] }) (GOk.of (.nil) (.nil) (fun x hx => fr_ok c X G x ((by decide +kernel : ∀ x ∈ C_word_of.fr, x ∈ frs) x hx)) (.nil) (MeLs.meG (.cons wf.crd (mt_Reading_next_sign c X G hx) (by omega) (.cons wf.crd (mt_ch10 c X G hx) (by omega) .nil))) (IniAt.cons (ini_Reading c X G hx) (by omega) (.nil)) (ExiAt.cons (exi_BadWord c X G hx) (by omega) (.nil))) rfl fun ws S QA EA _ h => sem_word_of ⟨meOf_here⟩ ((meOf_skip (fun e => absurd e.2 (by decide +kernel))).trans (meOf_here)) ws h
theorem ok_tree_none : OkAt P w K mg base 0 "_law_tree" ["_law_state", "_law_deep"] (lift K 2 (fun _ _ _ _ => False)) := by
  have wf := wf_ok c hx
  have kc := kc_ok c hx
  exact top_of (F_law_tree c) (m_law_tree c X G) (fun _ _ _ _ _ _ us hl => match us, hl with | [_, _], _ => rfl) fun fd F => FnOk.vac (lift_vac fun ws S Q E z => z)
theorem ok_tree0 : OkAt P w K mg base 3 "_law_tree" ["_law_state", "_law_deep"] (lift K 2 (spTree 0)) := by
  have wf := wf_ok c hx
  have kc := kc_ok c hx
  exact top_of (F_law_tree c) (m_law_tree c X G) (fun _ _ _ _ _ _ us hl => match us, hl with | [_, _], _ => rfl) fun fd F => def_ab F ck_law_tree (ag := { sp := [(1, spDr), (1, spKind), (2, fun _ _ _ _ => False)], fa := [He.ga K "_law_draw", He.ga K "_law_kind", He.ga K "_law_tree"] }) (GOk.of (.cons (ok_law_draw c X G hx) (by omega) (.cons (ok_law_kind c X G hx) (by omega) (.cons (ok_tree_none c X G hx) (by omega) (.nil)))) (.nil) (fun x hx => fr_ok c X G x ((by decide +kernel : ∀ x ∈ C_law_tree.fr, x ∈ frs) x hx)) (.nil) (meG_none) (.nil) (.nil)) rfl fun ws S QA EA _ h => sem_tree0 _ ws h
theorem ok_treeS (d : Nat) (ht : OkAt P w K mg base (d + 3) "_law_tree" ["_law_state", "_law_deep"] (lift K 2 (spTree d))) : OkAt P w K mg base (d + 4) "_law_tree" ["_law_state", "_law_deep"] (lift K 2 (spTree (d + 1))) := by
  have wf := wf_ok c hx
  have kc := kc_ok c hx
  exact top_of (F_law_tree c) (m_law_tree c X G) (fun _ _ _ _ _ _ us hl => match us, hl with | [_, _], _ => rfl) fun fd F => def_ab F ck_law_tree (ag := { sp := [(1, spDr), (1, spKind), (2, spTree d)], fa := [He.ga K "_law_draw", He.ga K "_law_kind", He.ga K "_law_tree"] }) (GOk.of (.cons (ok_law_draw c X G hx) (by omega) (.cons (ok_law_kind c X G hx) (by omega) (.cons (ht) (by omega) (.nil)))) (.nil) (fun x hx => fr_ok c X G x ((by decide +kernel : ∀ x ∈ C_law_tree.fr, x ∈ frs) x hx)) (.nil) (meG_none) (.nil) (.nil)) rfl fun ws S QA EA _ h => sem_treeS d ws h
theorem ok_law_tree (d : Nat) : OkAt P w K mg base (d + 3) "_law_tree" ["_law_state", "_law_deep"] (lift K 2 (spTree d)) := by
  have wf := wf_ok c hx
  have kc := kc_ok c hx
  induction d with
  | zero => exact ok_tree0 c X G hx
  | succ d ih => exact ok_treeS c X G hx d ih
theorem ok_law_text (n : Nat) : OkAt P w K mg base (n + 3) "_law_text" ["_law_tree_here", "_law_least", "_law_state"] (lift K 3 (spTx n)) := by
  have wf := wf_ok c hx
  have kc := kc_ok c hx
  induction n with
  | zero => exact top_of (F_law_text c) (m_law_text c X G) (fun _ _ _ _ _ _ us hl => match us, hl with | [_, _, _], _ => rfl) fun fd F => FnOk.vac (lift_vac vac_tx)
  | succ n ih => exact top_of (F_law_text c) (m_law_text c X G) (fun _ _ _ _ _ _ us hl => match us, hl with | [_, _, _], _ => rfl) fun fd F => def_ab F ck_law_text (ag := { sp := [(3, spTx n), (1, spDr)], fa := [He.ga K "_law_text", He.ga K "_law_draw"] }) (GOk.of (.cons (ih) (by omega) (.cons (ok_law_draw c X G hx) (by omega) (.nil))) (.nil) (fun x hx => fr_ok c X G x ((by decide +kernel : ∀ x ∈ C_law_text.fr, x ∈ frs) x hx)) (.nil) (meG_none) (.nil) (.nil)) rfl fun ws S QA EA _ h => sem_ltext ws h
theorem ok_law_refusal : OkAt P w K mg base 48 "_law_refusal" ["_law_thing"] (lift K 1 (spRf (WK K) K)) := by
  have wf := wf_ok c hx
  have kc := kc_ok c hx
  exact top_of (F_law_refusal c) (m_law_refusal c X G) (fun _ _ _ _ _ _ us hl => match us, hl with | [_], _ => rfl) fun fd F => def_ab F ck_law_refusal (ag := { sp := [(1, spWd (WK K) K)], fa := [He.ga K "word_of"], ex := [He.ga K "WeaveError"] }) (GOk.of (.cons (ok_word_of c X G hx) (by omega) (.nil)) (.nil) (fun x hx => fr_ok c X G x ((by decide +kernel : ∀ x ∈ C_law_refusal.fr, x ∈ frs) x hx)) (.cons (m_WeaveError c X G) (fR c 64 (f := .exc "WeaveError") rfl) (.nil)) (meG_none) (.nil) (.nil)) rfl fun ws S QA EA _ h => sem_refusal kc ws h
theorem ok_law_is_bad : OkAt P w K mg base 1 "_law_is_bad" ["_law_found", "_law_due"] (lift K 2 (spIb (WK K))) := by
  have wf := wf_ok c hx
  have kc := kc_ok c hx
  exact top_of (F_law_is_bad c) (m_law_is_bad c X G) (fun _ _ _ _ _ _ us hl => match us, hl with | [_, _], _ => rfl) fun fd F => def_ab F ck_law_is_bad (ag := agIb (WK K) (He.ga K "Twice") (He.ga K "TooMany") (He.ga K "NoTie") (He.ga K "NoThing") (He.ga K "BadQuestion") (He.ga K "BadPlan") (He.ga K "BadNumber") (He.ga K "BadName") (He.ga K "BadLine")) (GOk.of (.nil) (.cons (m_Twice c X G) rfl (.cons (m_TooMany c X G) rfl (.cons (m_NoTie c X G) rfl (.cons (m_NoThing c X G) rfl (.cons (m_BadQuestion c X G) rfl (.cons (m_BadPlan c X G) rfl (.cons (m_BadNumber c X G) rfl (.cons (m_BadName c X G) rfl (.cons (m_BadLine c X G) rfl (.cons (m_BadWord c X G) rfl (.nil))))))))))) (fun x hx => fr_ok c X G x ((by decide +kernel : ∀ x ∈ C_law_is_bad.fr, x ∈ frs) x hx)) (.nil) (meG_none) (.nil) (.nil)) rfl fun ws S QA EA _ h => sem_is_bad kc ws h
theorem go_law : GOk P w K mg base 49 C_law (gbOf K { sp := [(2, spCell), (2, spBe), (1, spDr), (3, spTx 5), (2, spTree 4), (1, spPl), (1, spRf (WK K) K), (1, spWd (WK K) K), (2, spIb (WK K))], fa := [He.ga K "_law_cell_at", He.ga K "_law_bent", He.ga K "_law_draw", He.ga K "_law_text", He.ga K "_law_tree", He.ga K "_law_place", He.ga K "_law_refusal", He.ga K "word_of", He.ga K "_law_is_bad"], gv := [.cl (WK K).wd] }) := by
  have wf := wf_ok c hx
  have kc := kc_ok c hx
  exact (GOk.of (.cons (ok_law_cell_at c X G hx) (by omega) (.cons (ok_law_bent c X G hx) (by omega) (.cons (ok_law_draw c X G hx) (by omega) (.cons (ok_law_text c X G hx 5) (by omega) (.cons (ok_law_tree c X G hx 4) (by omega) (.cons (ok_law_place c X G hx) (by omega) (.cons (ok_law_refusal c X G hx) (by omega) (.cons (ok_word_of c X G hx) (by omega) (.cons (ok_law_is_bad c X G hx) (by omega) (.nil)))))))))) (.cons (m_Word c X G) rfl (.nil)) (fun x hx => fr_ok c X G x ((by decide +kernel : ∀ x ∈ C_law.fr, x ∈ frs) x hx)) (.nil) (meG_none) (.nil) (.nil))
end
end Q05
set_option Elab.async false
set_option autoImplicit false
set_option linter.all false
set_option maxRecDepth 100000
set_option maxHeartbeats 0
namespace Q05
open PySem PySem.Spec PyProof.Rows L2 Rf K04
def names : List PySem.Str := [PySem.Str.ofString "_wall", PySem.Str.ofString "WeaveError", PySem.Str.ofString "BadName", PySem.Str.ofString "BadNumber", PySem.Str.ofString "NoThing", PySem.Str.ofString "NoTie", PySem.Str.ofString "Twice", PySem.Str.ofString "TooMany", PySem.Str.ofString "BadWord", PySem.Str.ofString "BadQuestion", PySem.Str.ofString "BadPlan", PySem.Str.ofString "BadLine", PySem.Str.ofString "MOST_STEPS", PySem.Str.ofString "MOST_OPEN", PySem.Str.ofString "MOST_LETTERS", PySem.Str.ofString "Word", PySem.Str.ofString "Step", PySem.Str.ofString "Row", PySem.Str.ofString "Choice", PySem.Str.ofString "Often", PySem.Str.ofString "bracketed", PySem.Str.ofString "row_of", PySem.Str.ofString "choice_of", PySem.Str.ofString "Reading", PySem.Str.ofString "word_of", PySem.Str.ofString "_law_cell_at", PySem.Str.ofString "_law_mixed", PySem.Str.ofString "_law_draw", PySem.Str.ofString "_law_kind", PySem.Str.ofString "_law_tree", PySem.Str.ofString "_law_text", PySem.Str.ofString "_law_behind_letters", PySem.Str.ofString "_law_behind_often", PySem.Str.ofString "_law_step_end", PySem.Str.ofString "_law_place", PySem.Str.ofString "_law_bound", PySem.Str.ofString "_law_bent", PySem.Str.ofString "_law_refusal", PySem.Str.ofString "_law_is_bad"]
abbrev R : PySem.W.OpenRow := PySem.W.OpenLaw.row PySem.Challenge.rw_askweave_k05_words_refused
abbrev hk : PySem.W.Hook := He.hookX 4 fas dfs [] [] exK
noncomputable def obs (s : PySem.W.SharedT) : He.AlX := He.obsX 4 fas dfs [] [] exK (HandSHeadRun.getT s)
theorem obs_eq (s : PySem.W.SharedT) : obs s = hk.obs s.abs := He.obsX_eq (HandSHeadRun.getT_eq s)
theorem run (w : World) : HandSHeadRun.RunEq R (PySem.W.view R.prog [42]) hk obs 6000 names w := by
  intro os
  kernel_rfl
theorem facts {P : Program} {w : World} {K : PySem.W.Frag} {h : Heap} {mg : Str → Option Value} {f : Addr} (X : K.In h) (G : h.Ns mainGlobals mg) (hfa : mg ("law" : Str) = some (.ref f)) (cx : He.SaysX fas dfs [] [] exK w h K) :
    ∃ fd : FuncData, (∀ (s : Shared) (v : Value), BindsTo s fd ⟨[v], []⟩ [("_law_script", v)]) ∧ noListB K = true ∧ ∀ base : Heap, K.In base → base.Ns mainGlobals mg → FnOk P w K mg base CX0 50 f fd ["_law_script"] (lift K 1 spLaw) := by
  have c : He.SaysD fas dfs K := cx.t.d
  have hx := cx.more
  have e := hfa.symm.trans (m_law c X G)
  cases e
  obtain ⟨fd, F⟩ := F_law c
  have bA := FunD.bindsA (ps := ["_law_script"]) F fun _ _ _ _ _ _ us hl => match us, hl with | [_], _ => rfl
  refine ⟨fd, fun s v => bA s [v] rfl, noL_ok hx, fun base _ _ => ?_⟩
  have wf := wf_ok c hx
  have kc := kc_ok c hx
  exact FnOk.cx0 (def_ab F ck_law (go_law (P := P) (w := w) (base := base) c X G hx) rfl fun ws S QA EA _ h => sem_law kc ws h) fun vs H Q E z => by
    obtain ⟨hl, A, F, Xh, S, ws, QA, EA, st, r, h, con, cone⟩ := z
    exact ⟨hl, A, F, Xh, S, ws, QA, fun _ _ _ => False, st, r, h, con, fun _ _ _ _ _ _ _ z => z.elim⟩
end Q05
open PySem PySem.W PySem.Calls PyProof.Rows in
theorem PySem.Challenge.cw_askweave_k05_words_refused_holds : PySem.Challenge.rw_askweave_k05_words_refused.Holds := by
  w_on; o_law
  refine HandSHeadRun.head_any (r := OpenLaw.row PySem.Challenge.rw_askweave_k05_words_refused) (q := view (OpenLaw.row PySem.Challenge.rw_askweave_k05_words_refused).prog [42]) (H := Q05.hk) (ob := Q05.obs) (M := 6000) (loose := Q05.names) (d := HandSHeadRun.topDef (OpenLaw.row PySem.Challenge.rw_askweave_k05_words_refused).prog 42) (kwd := []) Q05.obs_eq
    (by kernel_rfl) (fun s => by kernel_rfl) Q05.run (by kernel_rfl) (by kernel_rfl) (by kernel_rfl) (by rfl) (by first | assumption | decide +kernel) (by decide +kernel) ⟨rfl, rfl, rfl, rfl, rfl, by decide +kernel⟩ ?hw ?hc
  case hw => w_witness2
  case hc =>
    refine L2.walk_ofEB (l := PySem.Challenge.rw_askweave_k05_words_refused) (n := 63) (k := 50) (x := "_law_script") (CX := L2.CX0) rfl (by decide) (by kernel_rfl) ⟨rfl, by decide, by decide⟩ ?F (fun _ _ _ _ z => z)
    intro w mg fa h Y G hmg0
    obtain ⟨K, KX, c⟩ := Y
    have hmg : mg ("law" : PySem.Str) = some (.ref fa) := by
      have e : (HandSHeadRun.topDef (OpenLaw.row PySem.Challenge.rw_askweave_k05_words_refused).prog 42).name = ("law" : PySem.Str) := by kernel_rfl
      rw [← e]
      exact hmg0
    obtain ⟨fd, hb, nl, hF⟩ := Q05.facts (P := (PySem.Challenge.rw_askweave_k05_words_refused).prog) (w := w) KX G hmg c
    refine ⟨K, fd, _, KX, hb, fun H a ns hl hbits hO hS => ?_, hF⟩
    rcases hS with (hS | ⟨o, hS⟩) | ⟨o, its, n, e, ec, _⟩
    · rcases hO a with z | ⟨_, _, z⟩
      · rw [z] at hS; cases hS
      · rw [z] at hS; cases hS
    · exact Rf.lift_law hS hO ⟨0, ns, rfl, rfl, hl, hbits, fun _ => rfl⟩ fun _ => rfl
    · exact absurd ec (Rf.noList_ok nl e)
