import PyProof.Rows.All
import Wide.All
import OpenK.AllK
import Wide.FinOn
import PySem.Challenge.RW_xm0425_01
open PySem PySem.W PyProof.Rows PySem.Calls
set_option Elab.async false
set_option linter.unusedVariables false
set_option linter.unusedSimpArgs false
set_option maxRecDepth 100000
set_option genSizeOf false
set_option genSizeOfSpec false
namespace Mine

/-- what a value stands for: data, a function of the text, the law's bench -/
inductive PV where
  | d (x : PyData)
  | fn (a : Addr)
  | bench

/-- a slot of a frame: a value that nothing turns, or a list that this frame alone holds -/
inductive Var where
  | val (p : PV)
  | own (l : List PyData)

abbrev REnv := List (Option Var)

inductive Tg where
  | one (i : Nat)
  | tup (l : List Nat)

inductive Bi where
  | len | abs | int | max | sum
  deriving DecidableEq

mutual
inductive Ex where
  | lit (x : PyData)
  | var (i : Nat)
  | glob (a : Addr)
  | bin (o : Operator) (a b : Ex)
  | rep (es : ExL) (k : Ex)
  | cmp (o : CmpOp) (a : Ex) (b : Rd)
  | not (a : Ex)
  | neg (a : Ex)
  | and (a b : Ex)
  | or (a b : Ex)
  | ite (c : Ts) (a b : Ex)
  | tup (l : ExL)
  | lst (l : ExL)
  | idx (a : Rd) (i : Ex)
  | slc (a : Ex) (lo hi : ExO)
  | call (f : Ex) (l : ExL)
  | bi (b : Bi) (l : ExL)
  | bits (a : Ex)
  | comp (k : Nat) (t : Tg) (s : Src) (c : TsO) (e : Ex)
inductive ExL where
  | nil
  | cons (a : Ex) (l : ExL)
inductive ExO where
  | no
  | so (a : Ex)
inductive Ts where
  | val (a : Ex)
  | not (a : Ts)
  | and (a b : Ts)
  | or (a b : Ts)
  | ite (c a b : Ts)
  | cmp (o : CmpOp) (a : Ex) (b : Rd)
inductive TsO where
  | no
  | so (a : Ts)
inductive Rd where
  | var (i : Nat)
  | of (a : Ex)
inductive Src where
  | rng (l : ExL)
  | zip (a b : Ex)
  | enm (a : Ex)
  | of (a : Ex)
end

mutual
inductive St where
  | asg (t : Tg) (e : Ex)
  | asgs (l : List (Nat × Bool × Ex))
  | new (i : Nat) (e : Ex)
  | mv (i j : Nat)
  | aug (i : Nat) (o : Operator) (e : Ex)
  | app (i : Nat) (e : Ex)
  | ext (i : Nat) (e : Ex)
  | set (i : Nat) (k e : Ex)
  | ret (e : Ex)
  | iff (c : Ts) (a b : StL)
  | whl (c : Ts) (b : StL)
  | for (t : Tg) (s : Src) (b : StL)
  | drp (e : Ex)
  | fail
inductive StL where
  | nil
  | cons (a : St) (l : StL)
end

/-! ### what they mean: predicate transformers -/
abbrev Spec := Addr → List PV → Nat → (PV → Nat → Prop) → Prop

noncomputable def dI (i : Int) : PV := .d (.int i)
noncomputable def dB (b : Bool) : PV := .d (.bool b)

noncomputable def int2 (x y : PV) (F : Int → Int → Prop) : Prop := match x with
  | .d (.int a) => (match y with
    | .d (.int b) => F a b
    | _ => False)
  | _ => False
noncomputable def list2 (x y : PV) (F : List PyData → List PyData → Prop) : Prop := match x with
  | .d (.list a) => (match y with
    | .d (.list b) => F a b
    | _ => False)
  | _ => False
noncomputable def tup2 (x y : PV) (F : List PyData → List PyData → Prop) : Prop := match x with
  | .d (.tuple a) => (match y with
    | .d (.tuple b) => F a b
    | _ => False)
  | _ => False
noncomputable def dat2 (x y : PV) (F : PyData → PyData → Prop) : Prop := match x with
  | .d a => (match y with
    | .d b => F a b
    | _ => False)
  | _ => False
noncomputable def int1 (x : PV) (F : Int → Prop) : Prop := match x with
  | .d (.int a) => F a
  | _ => False
noncomputable def bool1 (x : PV) (F : Bool → Prop) : Prop := match x with
  | .d (.bool a) => F a
  | _ => False
noncomputable def list1 (x : PV) (F : List PyData → Prop) : Prop := match x with
  | .d (.list a) => F a
  | _ => False
noncomputable def tup1 (x : PV) (F : List PyData → Prop) : Prop := match x with
  | .d (.tuple a) => F a
  | _ => False
theorem int2_inv {x y : PV} {F : Int → Int → Prop} (h : int2 x y F) : ∃ a b, x = dI a ∧ y = dI b ∧ F a b := by
  unfold int2 at h
  split at h
  · split at h
    · exact ⟨_, _, rfl, rfl, h⟩
    · exact h.elim
  · exact h.elim
theorem list2_inv {x y : PV} {F : List PyData → List PyData → Prop} (h : list2 x y F) : ∃ a b, x = .d (.list a) ∧ y = .d (.list b) ∧ F a b := by
  unfold list2 at h
  split at h
  · split at h
    · exact ⟨_, _, rfl, rfl, h⟩
    · exact h.elim
  · exact h.elim
theorem tup2_inv {x y : PV} {F : List PyData → List PyData → Prop} (h : tup2 x y F) : ∃ a b, x = .d (.tuple a) ∧ y = .d (.tuple b) ∧ F a b := by
  unfold tup2 at h
  split at h
  · split at h
    · exact ⟨_, _, rfl, rfl, h⟩
    · exact h.elim
  · exact h.elim
theorem dat2_inv {x y : PV} {F : PyData → PyData → Prop} (h : dat2 x y F) : ∃ a b, x = .d a ∧ y = .d b ∧ F a b := by
  unfold dat2 at h
  split at h
  · split at h
    · exact ⟨_, _, rfl, rfl, h⟩
    · exact h.elim
  · exact h.elim
theorem int1_inv {x : PV} {F : Int → Prop} (h : int1 x F) : ∃ a, x = dI a ∧ F a := by
  unfold int1 at h
  split at h
  · exact ⟨_, rfl, h⟩
  · exact h.elim
theorem bool1_inv {x : PV} {F : Bool → Prop} (h : bool1 x F) : ∃ a, x = dB a ∧ F a := by
  unfold bool1 at h
  split at h
  · exact ⟨_, rfl, h⟩
  · exact h.elim
theorem list1_inv {x : PV} {F : List PyData → Prop} (h : list1 x F) : ∃ a, x = .d (.list a) ∧ F a := by
  unfold list1 at h
  split at h
  · exact ⟨_, rfl, h⟩
  · exact h.elim
theorem tup1_inv {x : PV} {F : List PyData → Prop} (h : tup1 x F) : ∃ a, x = .d (.tuple a) ∧ F a := by
  unfold tup1 at h
  split at h
  · exact ⟨_, rfl, h⟩
  · exact h.elim
noncomputable def binP (o : Operator) (x y : PV) (Q : PV → Prop) : Prop := match o with
  | .Add => int2 x y (fun a b => Q (dI (a + b))) ∨ list2 x y (fun a b => a.length + b.length ≤ 2 ^ 20 ∧ Q (.d (.list (a ++ b)))) ∨ tup2 x y (fun a b => b.length = 1 ∧ a.length ≤ 2 ^ 20 ∧ Q (.d (.tuple (a ++ b))))
  | .Sub => int2 x y fun a b => Q (dI (a - b))
  | .Mult => int2 x y fun a b => a.natAbs < 2 ^ 31 ∧ Q (dI (a * b))
  | .FloorDiv => int2 x y fun a b => b ≠ 0 ∧ b.natAbs < 1073741824 ∧ Q (dI (a.fdiv b))
  | .Mod => int2 x y fun a b => b ≠ 0 ∧ Q (dI (a.fmod b))
  | .Pow => int2 x y fun a b => a.natAbs < 2 ^ 8 ∧ 0 ≤ b ∧ b < 2 ^ 8 ∧ Q (dI (a ^ b.toNat))
  | .BitAnd => int2 x y fun a b => Q (dI (Builtin.bitAnd a b))
  | .BitOr => int2 x y fun a b => Q (dI (Builtin.bitOr a b))
  | .BitXor => int2 x y fun a b => Q (dI (Builtin.bitXor a b))
  | .LShift => int2 x y fun a b => 0 ≤ b ∧ b < 2 ^ 8 ∧ a.natAbs < 2 ^ 31 ∧ Q (dI (a * 2 ^ b.toNat))
  | .RShift => int2 x y fun a b => 0 ≤ b ∧ Q (dI (a.fdiv (2 ^ b.toNat)))
  | _ => False

noncomputable def repP (xs : List PyData) (y : PV) (Q : PV → Prop) : Prop :=
  int1 y fun k => -2 ^ 20 ≤ k ∧ k ≤ 2 ^ 20 ∧ xs.length = 1 ∧ Q (.d (.list (List.replicate k.toNat xs).flatten))

noncomputable def okD (x : PyData) : Bool := SeqAt.shaped x

/-- among the items -/
noncomputable def inP (x y : PV) (F : List PyData → PyData → Prop) : Prop := dat2 x y fun a b => match b with
  | .list b => F b a
  | .tuple b => F b a
  | _ => False
noncomputable def cmpP (o : CmpOp) (x y : PV) (Q : Bool → Prop) : Prop := match o with
  | .Lt => int2 x y fun a b => Q (decide (a < b))
  | .LtE => int2 x y fun a b => Q (decide (a ≤ b))
  | .Gt => int2 x y fun a b => Q (decide (b < a))
  | .GtE => int2 x y fun a b => Q (decide (b ≤ a))
  | .Eq => dat2 x y fun a b => okD a = true ∧ okD b = true ∧ Q (PyData.eqv a b)
  | .NotEq => dat2 x y fun a b => okD a = true ∧ okD b = true ∧ Q (!PyData.eqv a b)
  | .In => inP x y fun b a => okD a = true ∧ okD (.list b) = true ∧ Q (b.any fun y => PyData.eqv y a)
  | .NotIn => inP x y fun b a => okD a = true ∧ okD (.list b) = true ∧ Q (!b.any fun y => PyData.eqv y a)
  | _ => False

noncomputable def truthP (x : PV) (Q : Bool → Prop) : Prop := bool1 x Q

noncomputable def pvDat : PV → Option PyData
  | .d x => some x
  | _ => none
noncomputable def pvDats : List PV → Option (List PyData)
  | [] => some []
  | p :: r => match pvDat p, pvDats r with
    | some x, some xs => some (x :: xs)
    | _, _ => none

noncomputable def atP (l : List PyData) (k : Int) (Q : PV → Prop) : Prop :=
  -(l.length : Int) ≤ k ∧ k < l.length ∧ l.length ≤ 2 ^ 24 ∧ ∃ y, l[(if k < 0 then k + l.length else k).toNat]? = some y ∧ Q (.d y)
noncomputable def idxP (x i : PV) (Q : PV → Prop) : Prop := int1 i fun k => list1 x (fun l => atP l k Q) ∨ tup1 x fun l => atP l k Q

noncomputable def slcP (x : PV) (lo hi : Option PV) (Q : PV → Prop) : Prop := list1 x fun l => l.length ≤ 2 ^ 20 ∧ match lo with
  | none => (match hi with
    | none => Q (.d (.list l))
    | some h => int1 h fun k => 0 ≤ k ∧ Q (.d (.list (l.take k.toNat))))
  | some o => (match hi with
    | none => int1 o fun k => 0 ≤ k ∧ Q (.d (.list (l.drop k.toNat)))
    | some _ => False)

noncomputable def sumOf : List PyData → Option Int
  | [] => some 0
  | .int i :: r => (sumOf r).map (i + ·)
  | _ => none

noncomputable def arg1 (xs : List PV) (F : PV → Prop) : Prop := match xs with
  | [x] => F x
  | _ => False
noncomputable def arg2 (xs : List PV) (F : PV → PV → Prop) : Prop := match xs with
  | [x, y] => F x y
  | _ => False
noncomputable def biP (b : Bi) (xs : List PV) (Q : PV → Prop) : Prop := match b with
  | .len => arg1 xs fun x => list1 x fun l => l.length ≤ 2 ^ 24 ∧ Q (dI l.length)
  | .abs => arg1 xs fun x => int1 x fun a => Q (dI (if a < 0 then -a else a))
  | .int => arg1 xs fun x => int1 x (fun a => Q (dI a)) ∨ bool1 x fun a => Q (dI (if a then 1 else 0))
  | .max => arg2 xs fun x y => int2 x y fun a b => Q (dI (if b > a then b else a))
  | .sum => arg1 xs fun x => list1 x fun l => l.length ≤ 2 ^ 20 ∧ ∃ i, sumOf l = some i ∧ Q (dI i)

noncomputable def bitsP (x : PV) (Q : PV → Prop) : Prop := int1 x fun a => Q (dI (Builtin.Int.intBits a))

noncomputable def rngItems (a : Int) (c : Int) (n : Nat) : List PyData := (List.range n).map fun (i : Nat) => PyData.int (a + (i : Int) * c)
noncomputable def small (a : Int) : Prop := a.natAbs < 2 ^ 30
noncomputable def rngP (xs : List PV) (Q : List PyData → Prop) : Prop := match xs with
  | [x] => int1 x fun b => small b ∧ b ≤ 2 ^ 20 ∧ Q (rngItems 0 1 (Builtin.Range.rangeSize 0 b 1).toNat)
  | [x, y] => int2 x y fun a b => small a ∧ small b ∧ b - a ≤ 2 ^ 20 ∧ Q (rngItems a 1 (Builtin.Range.rangeSize a b 1).toNat)
  | [x, y, z] => int2 x y fun a b => int1 z fun c => small a ∧ small b ∧ small c ∧ c ≠ 0 ∧ Builtin.Range.rangeSize a b c ≤ 2 ^ 20 ∧ Q (rngItems a c (Builtin.Range.rangeSize a b c).toNat)
  | _ => False
noncomputable def zipItems : List PyData → List PyData → List PyData
  | x :: xs, y :: ys => .tuple [x, y] :: zipItems xs ys
  | _, _ => []
noncomputable def zipP (x y : PV) (Q : List PyData → Prop) : Prop := list1 x fun a => list1 y (fun b => a.length ≤ 2 ^ 20 ∧ b.length ≤ 2 ^ 20 ∧ Q (zipItems a b)) ∨ tup1 y fun b => a.length ≤ 2 ^ 20 ∧ a.length ≤ b.length ∧ Q (zipItems a b)
noncomputable def enmFrom : Int → List PyData → List PyData
  | _, [] => []
  | k, x :: xs => .tuple [.int k, x] :: enmFrom (k + 1) xs
noncomputable def enmP (x : PV) (Q : List PyData → Prop) : Prop := list1 x fun a => a.length ≤ 2 ^ 20 ∧ Q (enmFrom 0 a)
noncomputable def ofP (x : PV) (Q : List PyData → Prop) : Prop := list1 x fun a => a.length ≤ 2 ^ 20 ∧ Q a

noncomputable def setAll : REnv → List Nat → List PyData → REnv
  | ρ, i :: is, x :: xs => setAll (ρ.set i (some (.val (.d x)))) is xs
  | ρ, _, _ => ρ
noncomputable def bindT (t : Tg) (x : PyData) (ρ : REnv) (K : REnv → Prop) : Prop :=
  match t, x with
  | .one i, x => K (ρ.set i (some (.val (.d x))))
  | .tup is, .tuple xs => xs.length = is.length ∧ K (setAll ρ is xs)
  | _, _ => False

/-- inside a comprehension no list is held -/
noncomputable def dropOwn : Option Var → Option Var
  | some (.own _) => none
  | v => v
/-- a comprehension's turns -/
noncomputable def compG (tst : REnv → Nat → (Bool → Nat → Prop) → Prop) (elt : REnv → Nat → (PV → Nat → Prop) → Prop) (t : Tg) (ρ : REnv) :
    List PyData → List PyData → Nat → (List PyData → Nat → Prop) → Prop
  | [], acc, n, Q => Q acc n
  | x :: xs, acc, n, Q => bindT t x ρ fun ρ' => tst ρ' n fun b n => match b with
    | true => elt ρ' n fun p n => match p with
      | .d y => compG tst elt t ρ xs (acc ++ [y]) n Q
      | _ => False
    | false => compG tst elt t ρ xs acc n Q

mutual
noncomputable def evP (S : Spec) : Ex → REnv → Nat → (PV → Nat → Prop) → Prop
  | .lit x, _, n, Q => Q (.d x) n
  | .var i, ρ, n, Q => match ρ[i]? with
    | some (some (.val p)) => Q p n
    | _ => False
  | .glob a, _, n, Q => Q (.fn a) n
  | .bin o a b, ρ, n, Q => evP S a ρ n fun x n => evP S b ρ n fun y n => binP o x y fun z => Q z n
  | .rep es k, ρ, n, Q => evLP S es ρ n fun xs n => evP S k ρ n fun y n => match pvDats xs with
    | some xs => repP xs y fun z => Q z n
    | none => False
  | .cmp o a b, ρ, n, Q => evP S a ρ n fun x n => rdP S b ρ n fun y n => cmpP o x y fun z => Q (dB z) n
  | .not a, ρ, n, Q => evP S a ρ n fun x n => truthP x fun b => Q (dB (!b)) n
  | .neg a, ρ, n, Q => evP S a ρ n fun x n => int1 x fun i => Q (dI (-i)) n
  | .and a b, ρ, n, Q => evP S a ρ n fun x n => truthP x fun c => match c with
    | true => evP S b ρ n Q
    | false => Q x n
  | .or a b, ρ, n, Q => evP S a ρ n fun x n => truthP x fun c => match c with
    | true => Q x n
    | false => evP S b ρ n Q
  | .ite c a b, ρ, n, Q => tsP S c ρ n fun t n => match t with
    | true => evP S a ρ n Q
    | false => evP S b ρ n Q
  | .tup l, ρ, n, Q => evLP S l ρ n fun xs n => match pvDats xs with
    | some ys => Q (.d (.tuple ys)) n
    | none => False
  | .lst l, ρ, n, Q => evLP S l ρ n fun xs n => match pvDats xs with
    | some ys => Q (.d (.list ys)) n
    | none => False
  | .idx a i, ρ, n, Q => rdP S a ρ n fun x n => evP S i ρ n fun y n => idxP x y fun z => Q z n
  | .slc a lo hi, ρ, n, Q => evP S a ρ n fun x n => evOP S lo ρ n fun l n => evOP S hi ρ n fun h n => slcP x l h fun z => Q z n
  | .call f l, ρ, n, Q => evP S f ρ n fun g n => evLP S l ρ n fun xs n => match g with
    | .fn a => S a xs n Q
    | _ => False
  | .bi b l, ρ, n, Q => evLP S l ρ n fun xs n => biP b xs fun z => Q z n
  | .bits a, ρ, n, Q => evP S a ρ n fun x n => bitsP x fun z => Q z n
  | .comp k t s c e, ρ, n, Q => srcP S s ρ n fun xs n =>
      compG (fun ρ n Q => tsOP S c ρ n Q) (fun ρ n Q => evP S e ρ n Q) t (ρ.map dropOwn ++ List.replicate k none) xs [] n fun ys n => Q (.d (.list ys)) n
/-- a test -/
noncomputable def tsP (S : Spec) : Ts → REnv → Nat → (Bool → Nat → Prop) → Prop
  | .not a, ρ, n, Q => tsP S a ρ n fun b n => Q (!b) n
  | .and a b, ρ, n, Q => tsP S a ρ n fun c n => match c with
    | true => tsP S b ρ n Q
    | false => Q false n
  | .or a b, ρ, n, Q => tsP S a ρ n fun c n => match c with
    | true => Q true n
    | false => tsP S b ρ n Q
  | .ite c a b, ρ, n, Q => tsP S c ρ n fun t n => match t with
    | true => tsP S a ρ n Q
    | false => tsP S b ρ n Q
  | .cmp o a b, ρ, n, Q => evP S a ρ n fun x n => rdP S b ρ n fun y n => cmpP o x y fun z => Q z n
  | .val e, ρ, n, Q => evP S e ρ n fun x n => truthP x fun b => Q b n
/-- what is looked at only: a list that the frame holds may be read -/
noncomputable def rdP (S : Spec) : Rd → REnv → Nat → (PV → Nat → Prop) → Prop
  | .var i, ρ, n, Q => match ρ[i]? with
    | some (some (.val p)) => Q p n
    | some (some (.own l)) => Q (.d (.list l)) n
    | _ => False
  | .of e, ρ, n, Q => evP S e ρ n Q
noncomputable def evLP (S : Spec) : ExL → REnv → Nat → (List PV → Nat → Prop) → Prop
  | .nil, _, n, Q => Q [] n
  | .cons a l, ρ, n, Q => evP S a ρ n fun x n => evLP S l ρ n fun xs n => Q (x :: xs) n
noncomputable def evOP (S : Spec) : ExO → REnv → Nat → (Option PV → Nat → Prop) → Prop
  | .no, _, n, Q => Q none n
  | .so a, ρ, n, Q => evP S a ρ n fun x n => Q (some x) n
noncomputable def tsOP (S : Spec) : TsO → REnv → Nat → (Bool → Nat → Prop) → Prop
  | .no, _, n, Q => Q true n
  | .so a, ρ, n, Q => tsP S a ρ n Q
noncomputable def srcP (S : Spec) : Src → REnv → Nat → (List PyData → Nat → Prop) → Prop
  | .rng l, ρ, n, Q => evLP S l ρ n fun xs n => rngP xs fun r => Q r n
  | .zip a b, ρ, n, Q => evP S a ρ n fun x n => evP S b ρ n fun y n => zipP x y fun r => Q r n
  | .enm a, ρ, n, Q => evP S a ρ n fun x n => enmP x fun r => Q r n
  | .of a, ρ, n, Q => evP S a ρ n fun x n => ofP x fun r => Q r n
end
noncomputable def frz : Option Var → Option Var
  | some (.own l) => some (.val (.d (.list l)))
  | v => v
noncomputable def varAt (ρ : REnv) (i : Nat) : Option Var := (ρ[i]?).join

noncomputable def asgsP (S : Spec) (ρ : REnv) : List (Nat × Bool × Ex) → REnv → Nat → (REnv → Nat → Prop) → Prop
  | [], ρ', n, N => N ρ' n
  | (i, b, e) :: r, ρ', n, N => evP S e ρ n fun x n => match b, x with
    | true, .d (.list l) => asgsP S ρ r (ρ'.set i (some (.own l))) n N
    | false, .d x => asgsP S ρ r (ρ'.set i (some (.val (.d x)))) n N
    | _, _ => False

noncomputable def forG (bd : REnv → Nat → (REnv → Nat → Prop) → (PV → Nat → Prop) → Prop) (t : Tg) : List PyData → REnv → Nat → (REnv → Nat → Prop) → (PV → Nat → Prop) → Prop
  | [], ρ, n, N, _ => N ρ n
  | x :: xs, ρ, n, N, R => bindT t x ρ fun ρ => bd ρ n (fun ρ n => forG bd t xs ρ n N R) R

noncomputable def whG (tst : REnv → Nat → (Bool → Nat → Prop) → Prop) (bd : REnv → Nat → (REnv → Nat → Prop) → (PV → Nat → Prop) → Prop) : Nat → REnv → Nat → (REnv → Nat → Prop) → (PV → Nat → Prop) → Prop
  | 0, _, _, _, _ => False
  | k + 1, ρ, n, N, R => tst ρ n fun b n => match b with
    | true => bd ρ n (fun ρ n => whG tst bd k ρ n N R) R
    | false => N ρ n

mutual
noncomputable def exP (S : Spec) : St → REnv → Nat → (REnv → Nat → Prop) → (PV → Nat → Prop) → Prop
  | .asg t e, ρ, n, N, _ => evP S e ρ n fun x n => match x with
    | .d x => bindT t x ρ fun ρ => N ρ n
    | _ => False
  | .asgs l, ρ, n, N, _ => asgsP S ρ l ρ n N
  | .new i e, ρ, n, N, _ => evP S e ρ n fun x n => list1 x fun l => N (ρ.set i (some (.own l))) n
  | .mv i j, ρ, n, N, _ => match varAt ρ j with
    | some (.own l) => N ((ρ.set j none).set i (some (.val (.d (.list l))))) n
    | some (.val p) => N (ρ.set i (some (.val p))) n
    | none => False
  | .aug i o e, ρ, n, N, _ => match varAt ρ i with
    | some (.val x) => evP S e ρ n fun y n => (o == .Add || o == .Sub || o == .RShift) = true ∧ int2 x y fun a b => binP o (dI a) (dI b) fun z => N (ρ.set i (some (.val z))) n
    | _ => False
  | .app i e, ρ, n, N, _ => match varAt ρ i with
    | some (.own l) => evP S e ρ n fun y n => match y with
      | .d y => l.length ≤ 2 ^ 20 ∧ N (ρ.set i (some (.own (l ++ [y])))) n
      | _ => False
    | _ => False
  | .ext i e, ρ, n, N, _ => match varAt ρ i with
    | some (.own l) => evP S e ρ n fun y n => list1 y fun ys => l.length + ys.length ≤ 2 ^ 20 ∧ N (ρ.set i (some (.own (l ++ ys)))) n
    | _ => False
  | .set i k e, ρ, n, N, _ => match varAt ρ i with
    | some (.own l) => evP S e ρ n fun v n => evP S k ρ n fun k n => dat2 v k fun v _ => int1 k fun k => 0 ≤ k ∧ k < l.length ∧ l.length ≤ 2 ^ 20 ∧ N (ρ.set i (some (.own (l.set k.toNat v)))) n
    | _ => False
  | .ret e, ρ, n, _, R => evP S e (ρ.map frz) n R
  | .iff c a b, ρ, n, N, R => tsP S c ρ n fun t n => match t with
    | true => exLP S a ρ n N R
    | false => exLP S b ρ n N R
  | .whl c b, ρ, n, N, R => ∃ k, whG (fun ρ n Q => tsP S c ρ n Q) (fun ρ n N R => exLP S b ρ n N R) k ρ n N R
  | .for t s b, ρ, n, N, R => srcP S s ρ n fun xs n => forG (fun ρ n N R => exLP S b ρ n N R) t xs ρ n N R
  | .drp e, ρ, n, N, _ => evP S e ρ n fun x n => match x with
    | .d .none => N ρ n
    | _ => False
  | .fail, _, _, _, _ => False
noncomputable def exLP (S : Spec) : StL → REnv → Nat → (REnv → Nat → Prop) → (PV → Nat → Prop) → Prop
  | .nil, ρ, n, N, _ => N ρ n
  | .cons a l, ρ, n, N, R => exP S a ρ n (fun ρ n => exLP S l ρ n N R) R
end

/-! ### options, plainly -/
section
variable {α β : Type} {z : α}
/-- if so -/
noncomputable def sh (c : Bool) (z : Option α) : Option α := match c with
  | true => z
  | false => none
theorem sh_inv {c : Bool} {o : Option α} (h : sh c o = some z) : c = true ∧ o = some z := by
  cases c with
  | true => exact ⟨rfl, h⟩
  | false => cases h
theorem bd_inv {a : Option β} {f : β → Option α} (h : a.bind f = some z) : ∃ y, a = some y ∧ f y = some z := by
  cases a with
  | none => cases h
  | some y => exact ⟨y, rfl, h⟩
theorem mp_inv {a : Option β} {f : β → α} (h : a.map f = some z) : ∃ y, a = some y ∧ f y = z := by
  cases a with
  | none => cases h
  | some y => exact ⟨y, rfl, Option.some.inj h⟩
noncomputable def one (l : List α) : Option α := match l with
  | [] => none
  | a :: r => sh r.isEmpty (some a)
theorem one_inv {l : List α} (h : one l = some z) : l = [z] := by
  cases l with
  | nil => cases h
  | cons a r =>
    cases r with
    | nil => cases h; rfl
    | cons _ _ => cases h
noncomputable def two (l : List α) : Option (α × α) := match l with
  | [] => none
  | a :: r => (one r).map fun b => (a, b)
theorem two_inv {l : List α} {p : α × α} (h : two l = some p) : l = [p.1, p.2] := by
  cases l with
  | nil => cases h
  | cons a r =>
    obtain ⟨b, h1, rfl⟩ := mp_inv h
    rw [one_inv h1]
end

/-! ### from the text -/
structure Sc where
  names : List (Str × NameKind)
  slots : List (Str × Nat)
  len : Nat
  held : List Str

inductive BK where
  | bi (b : Bi)
  | rng | zip | enm
  deriving DecidableEq

noncomputable def bis : List (Str × BK) := [("len", .bi .len), ("abs", .bi .abs), ("int", .bi .int), ("max", .bi .max), ("sum", .bi .sum), ("range", .rng), ("zip", .zip), ("enumerate", .enm)]

structure CR where
  ex : Option Ex := none
  ts : Option Ts := none
  rd : Option Rd := none
  src : Option Src := none
  sl : Option (ExO × ExO) := none
  isSl : Bool := false
  rp : Option ExL := none
  bl : Option Ex := none
  fresh : Bool := false

/-- an expression read as a value only -/
noncomputable def CR.of (e : Option Ex) : CR := { ex := e, ts := e.map .val, rd := e.map .of, src := e.map .of }

noncomputable def cVar (sc : Sc) (x : Str) : Option Nat := match sc.names.lookup x with
  | some .local | some .cell => sc.slots.lookup x
  | some .free => if x == ("__classdict__" : Str) then none else sc.slots.lookup x
  | _ => none
noncomputable def cGlob (fns : List (Str × Addr)) (sc : Sc) (x : Str) : Option Addr := match sc.names.lookup x with
  | some .globalImplicit => fns.lookup x
  | _ => none
noncomputable def cBi (sc : Sc) (x : Str) : Option BK := match sc.names.lookup x with
  | some .globalImplicit => bis.lookup x
  | _ => none
noncomputable def cName (fns : List (Str × Addr)) (sc : Sc) (x : Str) : Option Ex :=
  if x == ("__debug__" : Str) then none else match cVar sc x with
  | some i => some (.var i)
  | none => (cGlob fns sc x).map .glob
noncomputable def nameIs : Expr → Option Str
  | .Name x _ => some x
  | _ => none
/-- where a store goes: a local or a cell -/
noncomputable def cStore (sc : Sc) (x : Str) : Option Nat := match sc.names.lookup x with
  | some .local | some .cell => sc.slots.lookup x
  | _ => none
noncomputable def cStores (sc : Sc) : List Expr → Option (List Nat)
  | [] => some []
  | .Name x _ :: r => match cStore sc x, cStores sc r with
    | some i, some is => some (i :: is)
    | _, _ => none
  | _ => none
noncomputable def cTg (sc : Sc) : Expr → Option Tg
  | .Name x _ => (cStore sc x).map .one
  | .Tuple es _ _ => match cStores sc es with
    | some is => if is.length ≥ 1 then some (.tup is) else none
    | none => none
  | _ => none
noncomputable def cConst : Const → Option PyData
  | .int i => some (.int i)
  | .bool b => some (.bool b)
  | .none => some .none
  | _ => none
noncomputable def relab (sc : Sc) (names : List (Str × NameKind)) : List (Str × NameKind) :=
  names.map fun (n, k) => if k == .free && true && sc.names.lookup n == some .cell then (n, .cell) else (n, k)
noncomputable def ownSlots : List (Str × NameKind) → Nat → List (Str × Nat)
  | [], _ => []
  | (n, k) :: r, i => if k == .local || k == .cell then (n, i) :: ownSlots r (i + 1) else ownSlots r i
noncomputable def freeSlots (sc : Sc) : List (Str × NameKind) → List (Str × Nat)
  | [] => []
  | (n, k) :: r => if k == .free then (match sc.slots.lookup n with
    | some i => (n, i) :: freeSlots sc r
    | none => freeSlots sc r) else freeSlots sc r
noncomputable def nOwn (names : List (Str × NameKind)) : Nat := (names.filter fun x => x.2 == .local || x.2 == .cell).length
noncomputable def inSc (sc : Sc) (scope : Scope) : Sc := ⟨relab sc scope.names, ownSlots scope.names sc.len ++ freeSlots sc scope.names, sc.len + nOwn scope.names, []⟩
/-- names of a scope stand once; free ones have a slot -/
noncomputable def okSc (sc : Sc) (scope : Scope) : Bool :=
  decide (scope.names.map (·.1)).Nodup && scope.kind == .function && (scope.names.all fun x => x.2 != .globalExplicit && (x.2 != .free || (sc.slots.lookup x.1).isSome && (sc.names.lookup x.1 == some .cell || sc.names.lookup x.1 == some .free)))
noncomputable def tsOf : List CR → Option TsO
  | [] => some .no
  | [c] => c.ts.map .so
  | _ => none
noncomputable def exsOf : List CR → Option ExL
  | [] => some .nil
  | c :: r => c.ex.bind fun e => (exsOf r).map fun l => .cons e l
/-- sources whose turns are pairs -/
noncomputable def needT : Src → Bool
  | .zip .. | .enm .. => true
  | _ => false
noncomputable def isTup : Expr → Bool
  | .Tuple .. => true
  | _ => false
noncomputable def tgGe (k : Nat) : Tg → Bool
  | .one i => k ≤ i
  | .tup l => l.all (k ≤ ·)
noncomputable def freshOf (o : Operator) (l r : CR) : Bool := o == .Mult && l.rp.isSome && r.ex.isSome
noncomputable def attrOf : Expr → Option (Expr × Str × Pos)
  | .Attribute o nm q => some (o, nm, q)
  | _ => none
noncomputable def notCallName : Expr → Bool
  | .Call .. => false
  | _ => true
noncomputable def kName (fns : List (Str × Addr)) (sc : Sc) (x : Str) : CR := { CR.of (cName fns sc x) with rd := sh (!(x == ("__debug__" : Str))) ((cVar sc x).map .var) }
noncomputable def mulRep (o : Operator) (a b : CR) : Option (ExL × Ex) := match o with
  | .Mult => a.rp.bind fun es => b.ex.map fun k => (es, k)
  | _ => none
noncomputable def kBin (o : Operator) (a b : CR) : CR := match mulRep o a b with
  | some t => { CR.of (some (.rep t.1 t.2)) with fresh := true }
  | none => CR.of (a.ex.bind fun x => b.ex.map fun y => .bin o x y)
noncomputable def kUn (o : UnaryOp) (a : CR) : CR := match o with
  | .Not => { CR.of (a.ex.map .not) with ts := a.ts.map .not }
  | .USub => CR.of (a.ex.map .neg)
  | _ => {}
noncomputable def bo2 (o : BoolOp) (x y : Ex) : Ex := match o with
  | .And => .and x y
  | .Or => .or x y
noncomputable def bt2 (o : BoolOp) (x y : Ts) : Ts := match o with
  | .And => .and x y
  | .Or => .or x y
noncomputable def kBool (o : BoolOp) (cs : List CR) : CR := { CR.of ((two cs).bind fun p => p.1.ex.bind fun x => p.2.ex.map fun y => bo2 o x y) with ts := (two cs).bind fun p => p.1.ts.bind fun x => p.2.ts.map fun y => bt2 o x y }
noncomputable def kIf (c a b : CR) : CR := { CR.of (c.ts.bind fun t => a.ex.bind fun x => b.ex.map fun y => .ite t x y) with ts := none }
noncomputable def cmp3 (ops : List CmpOp) (cs : List Expr) (a : CR) (bs : List CR) : Option (CmpOp × Ex × Rd) :=
  (one ops).bind fun o => (one cs).bind fun e => (one bs).bind fun b => sh (!behindInMarks o e) (a.ex.bind fun x => b.rd.map fun y => (o, x, y))
noncomputable def kCmp (ops : List CmpOp) (cs : List Expr) (a : CR) (bs : List CR) : CR := { CR.of ((cmp3 ops cs a bs).map fun t => .cmp t.1 t.2.1 t.2.2) with ts := (cmp3 ops cs a bs).map fun t => .cmp t.1 t.2.1 t.2.2 }
noncomputable def exL1 (l : ExL) : Option Ex := match l with
  | .nil => none
  | .cons a r => (match r with
    | .nil => some a
    | .cons _ _ => none)
noncomputable def exL2 (l : ExL) : Option (Ex × Ex) := match l with
  | .nil => none
  | .cons a r => (exL1 r).map fun b => (a, b)
noncomputable def kBk (k : BK) (l : ExL) : CR := match k with
  | .bi b => CR.of (some (.bi b l))
  | .rng => { src := some (.rng l) }
  | .zip => { src := (exL2 l).map fun t => .zip t.1 t.2 }
  | .enm => { src := (exL1 l).map .enm }
noncomputable def kNm (sc : Sc) (x : Str) (fr : CR) (l : ExL) : CR := match cBi sc x with
  | some k => kBk k l
  | none => CR.of (fr.ex.map fun g => .call g l)
noncomputable def kAt (f : Expr) (p : Pos) (fr : CR) : CR := CR.of ((attrOf f).bind fun t => sh (t.2.1 == ("bit_length" : Str) && t.2.2.endLine == p.line) (fr.bl.map .bits))
noncomputable def kCall (sc : Sc) (f : Expr) (as : List Expr) (ks : List Keyword) (p : Pos) (fr : CR) (xs : Option ExL) : CR := match ks.isEmpty && decide (as.length < 10) with
  | false => {}
  | true => match nameIs f with
    | some x => (match x == ("__debug__" : Str) with
      | true => {}
      | false => (match xs with
        | some l => kNm sc x fr l
        | none => {}))
    | none => (match as.isEmpty with
      | true => kAt f p fr
      | false => {})
noncomputable def kAttr (o : Expr) (a : CR) : CR := { bl := sh (notCallName o) a.ex }
noncomputable def kSub (a b : CR) : CR := CR.of (match b.isSl with
  | true => b.sl.bind fun t => a.ex.map fun x => .slc x t.1 t.2
  | false => a.rd.bind fun x => b.ex.map fun y => .idx x y)
noncomputable def kSlice (st : Option Expr) (l h : Option ExO) : CR := { isSl := true, sl := sh st.isNone (l.bind fun l => h.map fun h => (l, h)) }
noncomputable def kList (es : List Expr) (xs : Option ExL) : CR := match decide (es.length < 1000) with
  | true => { CR.of (xs.map .lst) with rp := xs, fresh := true }
  | false => {}
noncomputable def kTuple (es : List Expr) (xs : Option ExL) : CR := CR.of (sh (decide (es.length < 1000)) (xs.map .tup))
noncomputable def kComp (sc : Sc) (scope : Scope) (g : Option (Tg × Src × TsO)) (e : CR) : CR := { CR.of (sh (okSc sc scope) (g.bind fun t => e.ex.map fun e => .comp (nOwn scope.names) t.1 t.2.1 t.2.2 e)) with fresh := true }
mutual
noncomputable def cA (fns : List (Str × Addr)) : Expr → Sc → CR
  | .Constant c _ _, _ => CR.of ((cConst c).map .lit)
  | .Name x _, sc => kName fns sc x
  | .BinOp l o r _, sc => kBin o (cA fns l sc) (cA fns r sc)
  | .UnaryOp o x _, sc => kUn o (cA fns x sc)
  | .BoolOp o vs _, sc => kBool o (cAs fns vs sc)
  | .IfExp c x y _, sc => kIf (cA fns c sc) (cA fns x sc) (cA fns y sc)
  | .Compare l ops cs _, sc => kCmp ops cs (cA fns l sc) (cAs fns cs sc)
  | .Call f as ks p, sc => kCall sc f as ks p (cA fns f sc) (exsOf (cAs fns as sc))
  | .Attribute o _ _, sc => kAttr o (cA fns o sc)
  | .Subscript v s _, sc => kSub (cA fns v sc) (cA fns s sc)
  | .Slice lo hi st _, sc => kSlice st (cO fns lo sc) (cO fns hi sc)
  | .List es _, sc => kList es (exsOf (cAs fns es sc))
  | .Tuple es _ _, sc => kTuple es (exsOf (cAs fns es sc))
  | .ListComp elt gs scope _, sc => kComp sc scope (cGs fns gs sc (inSc sc scope)) (cA fns elt (inSc sc scope))
  | _, _ => {}
noncomputable def cAs (fns : List (Str × Addr)) : List Expr → Sc → List CR
  | [], _ => []
  | e :: r, sc => cA fns e sc :: cAs fns r sc
noncomputable def cO (fns : List (Str × Addr)) : Option Expr → Sc → Option ExO
  | none, _ => some .no
  | some e, sc => (cA fns e sc).ex.map .so
noncomputable def cG (fns : List (Str × Addr)) : Comprehension → Sc → Sc → Option (Tg × Src × TsO)
  | ⟨t, it, ifs, a⟩, sc, si => (cTg si t).bind fun t' => (cA fns it sc).src.bind fun s => (tsOf (cAs fns ifs si)).bind fun c => sh (a == 0 && (!needT s || isTup t) && tgGe sc.len t') (some (t', s, c))
noncomputable def cGs (fns : List (Str × Addr)) : List Comprehension → Sc → Sc → Option (Tg × Src × TsO)
  | [], _, _ => none
  | g :: gs, sc, si => sh gs.isEmpty (cG fns g sc si)
end

noncomputable def isNm : Expr → Bool
  | .Name .. => true
  | _ => false
noncomputable def isComp : Expr → Bool
  | .ListComp .. => true
  | _ => false
noncomputable def tupOf : Expr → Option (List Expr)
  | .Tuple es _ _ => some es
  | _ => none
noncomputable def subOf : Expr → Option (Expr × Expr)
  | .Subscript v k _ => some (v, k)
  | _ => none
noncomputable def callOf : Expr → Option (Expr × List Expr × List Keyword × Pos)
  | .Call f as ks p => some (f, as, ks, p)
  | _ => none
/-- parallel stores: the targets' slots, the sources -/
noncomputable def cPar (fns : List (Str × Addr)) (sc : Sc) : List Expr → List Expr → Option (List (Nat × Bool × Ex))
  | [], es => sh es.isEmpty (some [])
  | t :: ts, es => match es with
    | [] => none
    | e :: es => (nameIs t).bind fun x => (cStore sc x).bind fun i => ((cA fns e sc).ex).bind fun y => (cPar fns sc ts es).map fun r => (i, (cA fns e sc).fresh && sc.held.contains x, y) :: r
noncomputable def kAsgN (fns : List (Str × Addr)) (sc : Sc) (x : Str) (i : Nat) (v : Expr) : Option St := match nameIs v with
  | some y => sh (!(y == ("__debug__" : Str))) ((cVar sc y).map (.mv i))
  | none => match (cA fns v sc).fresh && sc.held.contains x && !isComp v with
    | true => (cA fns v sc).ex.map (.new i)
    | false => (cA fns v sc).ex.map (.asg (.one i))
noncomputable def kAsgT (fns : List (Str × Addr)) (sc : Sc) (t : Expr) (ts : List Expr) (v : Expr) : Option St := match tupOf v with
  | some vs => sh (!vs.all (constantsAlone 8)) ((cPar fns sc ts vs).bind fun l => sh (decide (l.length ≥ 1) && decide (l.map (·.1)).Nodup && decide (vs.length < 1000)) (some (.asgs l)))
  | none => (cTg sc t).bind fun t' => (cA fns v sc).ex.map fun e => .asg t' e
noncomputable def kAsg (fns : List (Str × Addr)) (sc : Sc) (t v : Expr) : Option St := match nameIs t with
  | some x => (cStore sc x).bind fun i => kAsgN fns sc x i v
  | none => match tupOf t with
    | some ts => kAsgT fns sc t ts v
    | none => (subOf t).bind fun s => (nameIs s.1).bind fun x => (cStore sc x).bind fun i => (cA fns s.2 sc).ex.bind fun k => (cA fns v sc).ex.bind fun e => sh (!(x == ("__debug__" : Str))) (some (.set i k e))
noncomputable def kExpr (fns : List (Str × Addr)) (sc : Sc) (v : Expr) : Option St := (callOf v).bind fun c => match attrOf c.1 with
  | some a => (nameIs a.1).bind fun x => (one c.2.1).bind fun e => sh (c.2.2.1.isEmpty && !(x == ("__debug__" : Str)) && a.2.2.endLine == c.2.2.2.line) ((cVar sc x).bind fun i => (cA fns e sc).ex.bind fun y =>
    match a.2.1 == ("append" : Str) with
    | true => some (.app i y)
    | false => sh (a.2.1 == ("extend" : Str) && (cA fns e sc).fresh) (some (.ext i y)))
  | none => sh (isNm c.1) ((cA fns v sc).ex.map .drp)
mutual
noncomputable def cS (fns : List (Str × Addr)) : Stmt → Sc → Option St
  | .Assign ts v _, sc => (one ts).bind fun t => kAsg fns sc t v
  | .AugAssign t o v _, sc => (nameIs t).bind fun x => (cStore sc x).bind fun i => (cA fns v sc).ex.map fun e => .aug i o e
  | .Expr v _, sc => kExpr fns sc v
  | .Return e _, sc => e.bind fun e => (cA fns e sc).ex.map .ret
  | .If c a b _, sc => (cA fns c sc).ts.bind fun c => (cSs fns a sc).bind fun a => (cSs fns b sc).map fun b => .iff c a b
  | .While c b o _, sc => (cA fns c sc).ts.bind fun c => (cSs fns b sc).bind fun b => sh o.isEmpty (some (.whl c b))
  | .For t it b o _, sc => (cTg sc t).bind fun t' => (cA fns it sc).src.bind fun s => (cSs fns b sc).bind fun b => sh (o.isEmpty && (!needT s || isTup t)) (some (.for t' s b))
  | .Raise .., _ => some .fail
  | _, _ => none
noncomputable def cSs (fns : List (Str × Addr)) : List Stmt → Sc → Option StL
  | [], _ => some .nil
  | s :: r, sc => (cS fns s sc).bind fun s => (cSs fns r sc).map fun r => .cons s r
end

theorem nameIs_inv {e : Expr} {x : Str} (h : nameIs e = some x) : ∃ p, e = .Name x p := by
  unfold nameIs at h
  split at h
  · cases h; exact ⟨_, rfl⟩
  · cases h
theorem tupOf_inv {e : Expr} {x : List Expr} (h : tupOf e = some x) : ∃ k p, e = .Tuple x k p := by
  unfold tupOf at h
  split at h
  · cases h; exact ⟨_, _, rfl⟩
  · cases h
theorem subOf_inv {e : Expr} {x : Expr × Expr} (h : subOf e = some x) : ∃ p, e = .Subscript x.1 x.2 p := by
  unfold subOf at h
  split at h
  · cases h; exact ⟨_, rfl⟩
  · cases h
theorem callOf_inv {e : Expr} {x : Expr × List Expr × List Keyword × Pos} (h : callOf e = some x) : e = .Call x.1 x.2.1 x.2.2.1 x.2.2.2 := by
  unfold callOf at h
  split at h
  · cases h; rfl
  · cases h
theorem attrOf_inv {e : Expr} {x : Expr × Str × Pos} (h : attrOf e = some x) : e = .Attribute x.1 x.2.1 x.2.2 := by
  unfold attrOf at h
  split at h
  · cases h; rfl
  · cases h
theorem nb {c : Bool} (h : (!c) = true) : c = false := by
  cases c with
  | false => rfl
  | true => cases h
theorem an {a b : Bool} (h : (a && b) = true) : a = true ∧ b = true := Bool.and_eq_true_iff.mp h

/-- a function's scope -/
noncomputable def fnSc (scope : Scope) (held : List Str) : Sc := ⟨scope.names, ownSlots scope.names 0, nOwn scope.names, held⟩

/-- a list that the run may turn under our hands: where, what is known of it, which value bears it -/
structure Bx where
  set : Addr → Prop
  inv : Nat → Heap → Prop
  val : Value → Prop
  floor : Addr → Prop
structure BxOk (b : Bx) : Prop where
  keep : ∀ n h h', (∀ a o, b.set a → h.get? a = some o → h'.get? a = some o) → b.inv n h → b.inv n h'
  there : ∀ n h a, b.inv n h → b.set a → ∃ o, h.get? a = some o ∧ o.cls = .type "list" ∧ ∃ vs k, o.data = .seq vs k

noncomputable def Bx.none : Bx := ⟨fun _ => False, fun _ _ => True, fun _ => False, fun _ => False⟩
theorem Bx.none_ok : BxOk Bx.none := ⟨fun _ _ _ _ _ => trivial, fun _ _ _ _ h => h.elim⟩

/-- one heap goes over into another: all stands, but for the box -/
noncomputable def HS (b : Bx) (n n' : Nat) (h h' : Heap) : Prop := (∀ a o, ¬ b.set a → h.get? a = some o → h'.get? a = some o) ∧ b.inv n' h'
noncomputable def SS (b : Bx) (n n' : Nat) (s s' : Shared) : Prop := ∃ h' tk, s' = { s with heap := h', toks := tk } ∧ HS b n n' s.heap h'

section
variable {b : Bx} {n n' n'' : Nat} {h h' h'' : Heap}
theorem HS.refl (hi : b.inv n h) : HS b n n h h := ⟨fun _ _ _ e => e, hi⟩
theorem HS.trans (x : HS b n n' h h') (y : HS b n' n'' h' h'') : HS b n n'' h h'' := ⟨fun a o ha e => y.1 a o ha (x.1 a o ha e), y.2⟩
theorem HS.of (ok : BxOk b) (hi : b.inv n h) (k : ∀ a o, h.get? a = some o → h'.get? a = some o) : HS b n n h h' := ⟨fun a o _ e => k a o e, ok.keep n h h' (fun a o _ e => k a o e) hi⟩
theorem SS.refl {s : Shared} (hi : b.inv n s.heap) : SS b n n s s := ⟨s.heap, s.toks, rfl, HS.refl hi⟩
theorem SS.trans {s s' s'' : Shared} (x : SS b n n' s s') (y : SS b n' n'' s' s'') : SS b n n'' s s'' := by
  obtain ⟨h1, t1, rfl, k1⟩ := x
  obtain ⟨h2, t2, rfl, k2⟩ := y
  exact ⟨h2, t2, rfl, k1.trans k2⟩
theorem SS.of {s : Shared} {h' : Heap} {tk : Nat} (ok : BxOk b) (hi : b.inv n s.heap) (k : ∀ a o, s.heap.get? a = some o → h'.get? a = some o) : SS b n n s { s with heap := h', toks := tk } := ⟨h', tk, rfl, HS.of ok hi k⟩
theorem SS.inv {s s' : Shared} (x : SS b n n' s s') : b.inv n' s'.heap := by obtain ⟨_, _, rfl, k⟩ := x; exact k.2
theorem SS.get {s s' : Shared} {a : Addr} {o : Obj} (x : SS b n n' s s') (ha : ¬ b.set a) (e : s.heap.get? a = some o) : s'.heap.get? a = some o := by obtain ⟨_, _, rfl, k⟩ := x; exact k.1 a o ha e

/-- what is no list is none of the box's -/
theorem not_box (ok : BxOk b) (hi : b.inv n h) {a : Addr} {o : Obj} (e : h.get? a = some o) (hn : o.cls ≠ .type "list" ∨ ∀ vs k, o.data ≠ .seq vs k) : ¬ b.set a := fun hs => by
  obtain ⟨o', e', c, vs, k, hd⟩ := ok.there n h a hi hs
  rw [e] at e'
  cases e'
  rcases hn with hn | hn
  · exact hn c
  · exact hn vs k hd
end

noncomputable def Ave (U : Addr → Prop) (as : List Addr) : Prop := ∀ a ∈ as, ¬ U a
theorem Ave.nil {U : Addr → Prop} : Ave U [] := fun _ h => nomatch h
theorem Ave.app {U : Addr → Prop} {as bs : List Addr} (x : Ave U as) (y : Ave U bs) : Ave U (as ++ bs) := fun a h => (List.mem_append.mp h).elim (x a) (y a)
theorem Ave.left {U : Addr → Prop} {as bs : List Addr} (x : Ave U (as ++ bs)) : Ave U as := fun a h => x a (List.mem_append_left _ h)
theorem Ave.right {U : Addr → Prop} {as bs : List Addr} (x : Ave U (as ++ bs)) : Ave U bs := fun a h => x a (List.mem_append_right _ h)

mutual
/-- a value stands for data, and none of its lists and tuples is turned -/
inductive RepD (h : Heap) (U : Addr → Prop) : Value → PyData → Prop
  | none : RepD h U .none .none
  | bool (c : Bool) : RepD h U (.bool c) (.bool c)
  | int (i : Int) (t : Tok) : RepD h U (.int i t) (.int i)
  | list {a : Addr} {o : Obj} {vs : List Value} {k : Nat} {xs : List PyData} : h.get? a = some o → o.cls = .type "list" → o.data = .seq vs.toArray k → ¬ U a → RepL h U vs xs → RepD h U (.ref a) (.list xs)
  | tuple {a : Addr} {o : Obj} {vs : List Value} {k : Nat} {xs : List PyData} : h.get? a = some o → o.cls = .type "tuple" → o.data = .seq vs.toArray k → ¬ U a → RepL h U vs xs → RepD h U (.ref a) (.tuple xs)
inductive RepL (h : Heap) (U : Addr → Prop) : List Value → List PyData → Prop
  | nil : RepL h U [] []
  | cons {v : Value} {vs : List Value} {x : PyData} {xs : List PyData} : RepD h U v x → RepL h U vs xs → RepL h U (v :: vs) (x :: xs)
end
section
variable {h h' : Heap} {U U' : Addr → Prop}
mutual
theorem RepD.map (k : ∀ a o, h.get? a = some o → (∃ vs m, o.data = .seq vs m) → ¬ U a → h'.get? a = some o ∧ ¬ U' a) : ∀ {v : Value} {x : PyData}, RepD h U v x → RepD h' U' v x
  | _, _, .none => .none
  | _, _, .bool c => .bool c
  | _, _, .int i t => .int i t
  | _, _, .list e c d u r => .list (k _ _ e ⟨_, _, d⟩ u).1 c d (k _ _ e ⟨_, _, d⟩ u).2 (RepL.map k r)
  | _, _, .tuple e c d u r => .tuple (k _ _ e ⟨_, _, d⟩ u).1 c d (k _ _ e ⟨_, _, d⟩ u).2 (RepL.map k r)
theorem RepL.map (k : ∀ a o, h.get? a = some o → (∃ vs m, o.data = .seq vs m) → ¬ U a → h'.get? a = some o ∧ ¬ U' a) : ∀ {v : List Value} {x : List PyData}, RepL h U v x → RepL h' U' v x
  | _, _, .nil => .nil
  | _, _, .cons a r => .cons (RepD.map k a) (RepL.map k r)
end
mutual
theorem RepD.reads : ∀ {v : Value} {x : PyData}, RepD h U v x → ∃ as, Reads h v x as ∧ Ave U as
  | _, _, .none => ⟨[], .none, .nil⟩
  | _, _, .bool c => ⟨[], .bool c, .nil⟩
  | _, _, .int i t => ⟨[], .int i t, .nil⟩
  | _, _, .list e c d u r => let ⟨as, q, ha⟩ := RepL.reads r; ⟨_ :: as, .list e c d q, fun x m => by cases m with | head => exact u | tail _ m => exact ha x m⟩
  | _, _, .tuple e c d u r => let ⟨as, q, ha⟩ := RepL.reads r; ⟨as, .tuple e c d q, ha⟩
theorem RepL.reads : ∀ {v : List Value} {x : List PyData}, RepL h U v x → ∃ as, ReadsAll h v x as ∧ Ave U as
  | _, _, .nil => ⟨[], .nil, .nil⟩
  | _, _, .cons a r => let ⟨as, q, ha⟩ := RepD.reads a; let ⟨bs, q', hb⟩ := RepL.reads r; ⟨as ++ bs, .cons q q', ha.app hb⟩
end
end

noncomputable def RepV (b : Bx) (h : Heap) (U : Addr → Prop) (v : Value) : PV → Prop
  | .d x => RepD h U v x
  | .fn a => v = .ref a
  | .bench => b.val v

section
variable {b : Bx} {n n' : Nat} {h h' : Heap} {U : Addr → Prop}
theorem RepD.step (hU : ∀ a, b.set a → U a) (k : HS b n n' h h') {v : Value} {x : PyData} (r : RepD h U v x) : RepD h' U v x := r.map fun a o e _ u => ⟨k.1 a o (fun q => u (hU a q)) e, u⟩
theorem RepL.step (hU : ∀ a, b.set a → U a) (k : HS b n n' h h') {v : List Value} {x : List PyData} (r : RepL h U v x) : RepL h' U v x := r.map fun a o e _ u => ⟨k.1 a o (fun q => u (hU a q)) e, u⟩
theorem RepV.step (hU : ∀ a, b.set a → U a) (k : HS b n n' h h') {v : Value} {p : PV} (r : RepV b h U v p) : RepV b h' U v p := by
  cases p with
  | d x => exact RepD.step hU k r
  | fn a => exact r
  | bench => exact r
theorem RepL.inv {vs : List Value} {x : PyData} {xs : List PyData} (r : RepL h U vs (x :: xs)) : ∃ v r', vs = v :: r' ∧ RepD h U v x ∧ RepL h U r' xs := by
  cases r with
  | cons r1 r2 => exact ⟨_, _, rfl, r1, r2⟩
theorem RepL.nil_inv {vs : List Value} (r : RepL h U vs []) : vs = [] := by cases r; rfl
theorem RepL.length {vs : List Value} {xs : List PyData} (r : RepL h U vs xs) : vs.length = xs.length := by
  induction xs generalizing vs with
  | nil => rw [r.nil_inv]; rfl
  | cons x xs ih => obtain ⟨v, r', rfl, _, r2⟩ := r.inv; rw [List.length_cons, List.length_cons, ih r2]
theorem RepL.get {vs : List Value} {xs : List PyData} (r : RepL h U vs xs) {i : Nat} {y : PyData} (e : xs[i]? = some y) : ∃ v, vs[i]? = some v ∧ RepD h U v y := by
  induction xs generalizing vs i with
  | nil => simp at e
  | cons x xs ih =>
    obtain ⟨v, r', rfl, r1, r2⟩ := r.inv
    cases i with
    | zero => simp at e; subst e; exact ⟨v, by simp, r1⟩
    | succ i => simp at e; obtain ⟨v', e', q⟩ := ih r2 e; exact ⟨v', by simpa using e', q⟩
theorem RepL.app {vs ws : List Value} {xs ys : List PyData} (r : RepL h U vs xs) (q : RepL h U ws ys) : RepL h U (vs ++ ws) (xs ++ ys) := by
  induction xs generalizing vs with
  | nil => rw [r.nil_inv]; exact q
  | cons x xs ih => obtain ⟨v, r', rfl, r1, r2⟩ := r.inv; exact .cons r1 (ih r2)
theorem RepL.drop {vs : List Value} {xs : List PyData} (k : Nat) (r : RepL h U vs xs) : RepL h U (vs.drop k) (xs.drop k) := by
  induction k generalizing vs xs with
  | zero => exact r
  | succ k ih =>
    cases xs with
    | nil => rw [r.nil_inv]; exact RepL.nil
    | cons x xs => obtain ⟨v, r', rfl, _, r2⟩ := r.inv; exact ih r2
theorem RepL.take {vs : List Value} {xs : List PyData} (k : Nat) (r : RepL h U vs xs) : RepL h U (vs.take k) (xs.take k) := by
  induction k generalizing vs xs with
  | zero => exact RepL.nil
  | succ k ih =>
    cases xs with
    | nil => rw [r.nil_inv]; exact RepL.nil
    | cons x xs => obtain ⟨v, r', rfl, r1, r2⟩ := r.inv; exact .cons r1 (ih r2)
theorem RepL.set {vs : List Value} {xs : List PyData} {v : Value} {y : PyData} (q : RepD h U v y) (k : Nat) (r : RepL h U vs xs) : RepL h U (vs.set k v) (xs.set k y) := by
  induction k generalizing vs xs with
  | zero =>
    cases xs with
    | nil => rw [r.nil_inv]; exact RepL.nil
    | cons x xs => obtain ⟨v, r', rfl, r1, r2⟩ := r.inv; exact .cons q r2
  | succ k ih =>
    cases xs with
    | nil => rw [r.nil_inv]; exact RepL.nil
    | cons x xs => obtain ⟨v, r', rfl, r1, r2⟩ := r.inv; exact .cons r1 (ih r2)
theorem RepL.flat {vs : List Value} {xs : List PyData} (r : RepL h U vs xs) : ∀ k : Nat, RepL h U (List.replicate k vs).flatten (List.replicate k xs).flatten
  | 0 => RepL.nil
  | k + 1 => by rw [List.replicate_succ, List.replicate_succ, List.flatten_cons, List.flatten_cons]; exact r.app (r.flat k)

theorem RepD.list_inv {v : Value} {xs : List PyData} (r : RepD h U v (.list xs)) : ∃ a o vs k, v = .ref a ∧ h.get? a = some o ∧ o.cls = .type "list" ∧ o.data = .seq (List.toArray vs) k ∧ ¬ U a ∧ RepL h U vs xs := by
  cases r with
  | list h1 h2 h3 h4 h5 => exact ⟨_, _, _, _, rfl, h1, h2, h3, h4, h5⟩
theorem RepD.tuple_inv {v : Value} {xs : List PyData} (r : RepD h U v (.tuple xs)) : ∃ a o vs k, v = .ref a ∧ h.get? a = some o ∧ o.cls = .type "tuple" ∧ o.data = .seq (List.toArray vs) k ∧ ¬ U a ∧ RepL h U vs xs := by
  cases r with
  | tuple h1 h2 h3 h4 h5 => exact ⟨_, _, _, _, rfl, h1, h2, h3, h4, h5⟩
theorem RepD.int_inv {v : Value} {i : Int} (r : RepD h U v (.int i)) : ∃ t, v = .int i t := by cases r with | int _ t => exact ⟨t, rfl⟩
theorem RepD.bool_inv {v : Value} {i : Bool} (r : RepD h U v (.bool i)) : v = .bool i := by cases r; rfl
theorem RepD.none_inv {v : Value} (r : RepD h U v .none) : v = .none := by cases r; rfl
theorem RepD.mono {U' : Addr → Prop} (hU : ∀ a, U' a → U a) {v : Value} {x : PyData} (r : RepD h U v x) : RepD h U' v x := r.map fun a o e _ u => ⟨e, fun q => u (hU a q)⟩
theorem RepL.mono {U' : Addr → Prop} (hU : ∀ a, U' a → U a) {v : List Value} {x : List PyData} (r : RepL h U v x) : RepL h U' v x := r.map fun a o e _ u => ⟨e, fun q => u (hU a q)⟩
theorem RepD.more {U' : Addr → Prop} (hU : ∀ a, U' a → U a ∨ h.get? a = Option.none) {v : Value} {x : PyData} (r : RepD h U v x) : RepD h U' v x :=
  r.map fun a o e _ u => ⟨e, fun q => (hU a q).elim u fun q => by rw [q] at e; cases e⟩
theorem RepL.more {U' : Addr → Prop} (hU : ∀ a, U' a → U a ∨ h.get? a = Option.none) {v : List Value} {x : List PyData} (r : RepL h U v x) : RepL h U' v x :=
  r.map fun a o e _ u => ⟨e, fun q => (hU a q).elim u fun q => by rw [q] at e; cases e⟩
end

/-- a frame's name holds a value -/
noncomputable def VarAt (h : Heap) (env : Env) (x : Str) (v : Value) : Prop :=
  (env.kindOf x = some .local ∧ ∃ m, h.Ns env.locals m ∧ m x = some v) ∨
  ((env.kindOf x = some .cell ∨ env.kindOf x = some .free) ∧ ∃ c, env.cells.lookup x = some c ∧ h.IsCell c (some v))
noncomputable def VarOk (b : Bx) (h : Heap) (U : Addr → Prop) (v : Value) : Var → Prop
  | .val p => RepV b h U v p
  | .own l => ∃ a vs, v = .ref a ∧ (¬ b.set a ∧ ¬ b.floor a) ∧ U a ∧ h.PlainList a (List.toArray vs) ∧ RepL h U vs l

/-- the slots' values -/
structure EnvF (b : Bx) (h : Heap) (U : Addr → Prop) (env : Env) (sc : Sc) (ρ : REnv) (f : Nat → Value) : Prop where
  at_ : ∀ x i, sc.slots.lookup x = some i → ∀ var, varAt ρ i = some var → VarAt h env x (f i) ∧ VarOk b h U (f i) var
  inj : ∀ x y i j l l', sc.slots.lookup x = some i → sc.slots.lookup y = some j → varAt ρ i = some (.own l) → varAt ρ j = some (.own l') → f i = f j → i = j
noncomputable def EnvE (b : Bx) (h : Heap) (U : Addr → Prop) (env : Env) (sc : Sc) (ρ : REnv) : Prop := ∃ f, EnvF b h U env sc ρ f
theorem EnvE.at {b : Bx} {h : Heap} {U : Addr → Prop} {env : Env} {sc : Sc} {ρ : REnv} (r : EnvE b h U env sc ρ) (x : Str) (i : Nat) (hx : sc.slots.lookup x = some i) (var : Var) (hv : varAt ρ i = some var) : ∃ v, VarAt h env x v ∧ VarOk b h U v var :=
  let ⟨f, r, _⟩ := r; ⟨f i, r x i hx var hv⟩

structure EnvS (env : Env) (sc : Sc) : Prop where
  kind : env.scope.kind = .function
  names : env.scope.names = sc.names
  globals : env.globals = mainGlobals
  builtins : env.builtins = builtinsNs

section
variable {b : Bx} {n n' : Nat} {h h' : Heap} {U : Addr → Prop} {env : Env} {sc : Sc} {ρ : REnv} {x : Str} {v : Value}
theorem VarAt.step (ok : BxOk b) (hi : b.inv n h) (k : HS b n n' h h') (r : VarAt h env x v) : VarAt h' env x v := by
  rcases r with ⟨hk, m, hm, e⟩ | ⟨hk, c, hc, hv⟩
  · obtain ⟨o, es, ep, ho, hd, r⟩ := hm
    exact .inl ⟨hk, m, ⟨o, es, ep, k.1 _ _ (not_box ok hi ho (.inr fun vs k e => by rw [hd] at e; cases e)) ho, hd, r⟩, e⟩
  · obtain ⟨o, ho, hd⟩ := hv
    exact .inr ⟨hk, c, hc, o, k.1 _ _ (not_box ok hi ho (.inr fun vs k e => by rw [hd] at e; cases e)) ho, hd⟩
theorem VarOk.step (ok : BxOk b) (hi : b.inv n h) (hU : ∀ a, b.set a → U a) (k : HS b n n' h h') {var : Var} (r : VarOk b h U v var) : VarOk b h' U v var := by
  cases var with
  | val p => exact RepV.step hU k r
  | own l =>
    obtain ⟨a, vs, e, hb, hu, ⟨kk, hp⟩, r⟩ := r
    exact ⟨a, vs, e, hb, hu, ⟨kk, k.1 _ _ hb.1 hp⟩, RepL.step hU k r⟩
theorem EnvF.step {f : Nat → Value} (ok : BxOk b) (hi : b.inv n h) (hU : ∀ a, b.set a → U a) (k : HS b n n' h h') (r : EnvF b h U env sc ρ f) : EnvF b h' U env sc ρ f :=
  ⟨fun x i hx var hv => ⟨(r.at_ x i hx var hv).1.step ok hi k, (r.at_ x i hx var hv).2.step ok hi hU k⟩, r.inj⟩
theorem EnvE.step (ok : BxOk b) (hi : b.inv n h) (hU : ∀ a, b.set a → U a) (k : HS b n n' h h') (r : EnvE b h U env sc ρ) : EnvE b h' U env sc ρ := let ⟨f, r⟩ := r; ⟨f, r.step ok hi hU k⟩
end

noncomputable def bkVal : BK → Value
  | .bi .len => .builtin "len"
  | .bi .abs => .builtin "abs"
  | .bi .int => .type "int"
  | .bi .max => .builtin "max"
  | .bi .sum => .builtin "sum"
  | .rng => .type "range"
  | .zip => .type "zip"
  | .enm => .type "enumerate"

/-- what stands when the law is called, and stays -/
structure Grd (fns : List (Str × Addr)) (h0 : Heap) : Prop where
  nolimit : h0.NoLimit
  glob : ∃ mg mb, h0.Ns mainGlobals mg ∧ h0.Ns builtinsNs mb ∧ (∀ x a, fns.lookup x = some a → mg x = some (.ref a)) ∧ (∀ x k, bis.lookup x = some k → mg x = none ∧ mb x = some (bkVal k))
  fn : ∀ x a, fns.lookup x = some a → ∃ o fd, h0.get? a = some o ∧ o.data = .func fd

noncomputable def Stays (h0 h : Heap) : Prop := ∀ a o, h0.get? a = some o → h.get? a = some o

/-- around a tree: no exception in hand, room for D calls -/
structure Rm (A : Around) (D : Nat) : Prop where
  handled : A.handled = none
  depth : A.depth + D < recursionLimit
  units : A.units + 100 + 8 * D < cLine

section
variable {prog : Program} {w : World} {b : Bx} {fns : List (Str × Addr)} {h0 : Heap}

/-- the state ahead of a tree -/
structure Hy (b : Bx) (h0 : Heap) (n : Nat) (U : Addr → Prop) (h : Heap) : Prop where
  base : Stays h0 h
  inv : b.inv n h
  sub : ∀ a, b.set a → U a
  off : ∀ a, U a → ∃ o, h.get? a = some o
  new : ∀ a o, h0.get? a = some o → ¬ U a
theorem Hy.step {n n' : Nat} {U : Addr → Prop} {h h' : Heap} (ok : BxOk b) (H : Hy b h0 n U h) (k : HS b n n' h h') : Hy b h0 n' U h' := by
  refine ⟨fun a o e => k.1 a o (fun q => H.new a o e (H.sub a q)) (H.base a o e), k.2, H.sub, fun a ha => ?_, H.new⟩
  by_cases hb : b.set a
  · obtain ⟨o, e, _⟩ := ok.there n' h' a k.2 hb
    exact ⟨o, e⟩
  · obtain ⟨o, e⟩ := H.off a ha
    exact ⟨o, k.1 a o hb e⟩
theorem Hy.stepS {n n' : Nat} {U : Addr → Prop} {s s' : Shared} (ok : BxOk b) (H : Hy b h0 n U s.heap) (k : SS b n n' s s') : Hy b h0 n' U s'.heap := by
  obtain ⟨h', tk, rfl, k⟩ := k
  exact H.step ok k
theorem Hy.fresh {n : Nat} {U : Addr → Prop} {h : Heap} (H : Hy b h0 n U h) {a : Addr} (e : h.get? a = none) : ¬ U a := fun hu => by
  obtain ⟨o, e'⟩ := H.off a hu
  rw [e] at e'
  cases e'
theorem EnvE.stepS {n n' : Nat} {U : Addr → Prop} {s s' : Shared} {env : Env} {sc : Sc} {ρ : REnv} (ok : BxOk b) (H : Hy b h0 n U s.heap) (k : SS b n n' s s') (r : EnvE b s.heap U env sc ρ) : EnvE b s'.heap U env sc ρ := by
  obtain ⟨h', tk, rfl, k⟩ := k
  exact r.step ok H.inv H.sub k
theorem RepV.stepS {n n' : Nat} {U : Addr → Prop} {s s' : Shared} (ok : BxOk b) (H : Hy b h0 n U s.heap) (k : SS b n n' s s') {v : Value} {p : PV} (r : RepV b s.heap U v p) : RepV b s'.heap U v p := by
  obtain ⟨h', tk, rfl, k⟩ := k
  exact r.step H.sub k
theorem RepD.stepS {n n' : Nat} {U : Addr → Prop} {s s' : Shared} (ok : BxOk b) (H : Hy b h0 n U s.heap) (k : SS b n n' s s') {v : Value} {p : PyData} (r : RepD s.heap U v p) : RepD s'.heap U v p := by
  obtain ⟨h', tk, rfl, k⟩ := k
  exact r.step H.sub k
theorem RepL.stepS {n n' : Nat} {U : Addr → Prop} {s s' : Shared} (ok : BxOk b) (H : Hy b h0 n U s.heap) (k : SS b n n' s s') {v : List Value} {p : List PyData} (r : RepL s.heap U v p) : RepL s'.heap U v p := by
  obtain ⟨h', tk, rfl, k⟩ := k
  exact r.step H.sub k

theorem get_size (h : Heap) : h.get? h.objs.size = none := by
  cases e : h.get? h.objs.size with
  | none => rfl
  | some o => exact absurd (Heap.lt_size e) (Nat.lt_irrefl _)

/-- what a value's tree ends in -/
noncomputable def EvPost (b : Bx) (U : Addr → Prop) (n : Nat) (s : Shared) (Q : PV → Nat → Prop) (v : Value) (s' : Shared) : Prop := ∃ p n', SS b n n' s s' ∧ RepV b s'.heap U v p ∧ Q p n'

noncomputable def RepVs (b : Bx) (h : Heap) (U : Addr → Prop) : List Value → List PV → Prop
  | [], [] => True
  | v :: vs, p :: ps => RepV b h U v p ∧ RepVs b h U vs ps
  | _, _ => False

/-- functions of the text do what is said of them -/
noncomputable def FnOk (prog : Program) (w : World) (b : Bx) (h0 : Heap) (D : Nat) (S : Spec) : Prop :=
  ∀ a ps n Q, S a ps n Q → ∀ A s vs U E, Rm A D → Hy b h0 n U s.heap → RepVs b s.heap U vs ps →
    wpAny (model prog w) A (call (.ref a) vs) (EvPost b U n s Q) E s

/-- the frame's own objects -/
structure FrO (h : Heap) (U : Addr → Prop) (env : Env) (sc : Sc) : Prop where
  ns : ∃ m, h.Ns env.locals m
  cell : ∀ x c, env.cells.lookup x = some c → ∃ v, h.IsCell c v
  own : ∀ x, sc.names.lookup x = some .cell ∨ sc.names.lookup x = some .free → ∃ c, env.cells.lookup x = some c
  inj : ∀ x y c, env.cells.lookup x = some c → env.cells.lookup y = some c → x = y
  uL : U env.locals
  uC : ∀ x c, env.cells.lookup x = some c → U c
structure Wf (sc : Sc) : Prop where
  inj : ∀ x y i, sc.slots.lookup x = some i → sc.slots.lookup y = some i → x = y
  lt : ∀ x i, sc.slots.lookup x = some i → i < sc.len
theorem ns_step {b : Bx} {n n' : Nat} {h h' : Heap} (ok : BxOk b) (hi : b.inv n h) (k : HS b n n' h h') {C : Addr} {m : Str → Option Value} (hm : h.Ns C m) : h'.Ns C m := by
  obtain ⟨o, es, ep, ho, hd, r⟩ := hm
  exact ⟨o, es, ep, k.1 _ _ (not_box ok hi ho (.inr fun vs k e => by rw [hd] at e; cases e)) ho, hd, r⟩
theorem cell_step {b : Bx} {n n' : Nat} {h h' : Heap} (ok : BxOk b) (hi : b.inv n h) (k : HS b n n' h h') {C : Addr} {m : Option Value} (hm : h.IsCell C m) : h'.IsCell C m := by
  obtain ⟨o, ho, hd⟩ := hm
  exact ⟨o, k.1 _ _ (not_box ok hi ho (.inr fun vs k e => by rw [hd] at e; cases e)) ho, hd⟩
theorem FrO.stepS {b : Bx} {h0 : Heap} {n n' : Nat} {U : Addr → Prop} {s s' : Shared} {env : Env} {sc : Sc} (ok : BxOk b) (H : Hy b h0 n U s.heap) (k : SS b n n' s s') (r : FrO s.heap U env sc) : FrO s'.heap U env sc := by
  obtain ⟨h', tk, rfl, k⟩ := k
  obtain ⟨m, hm⟩ := r.ns
  exact ⟨⟨m, ns_step ok H.inv k hm⟩, fun x c e => (r.cell x c e).imp fun v hv => cell_step ok H.inv k hv, r.own, r.inj, r.uL, r.uC⟩

/-- what the callers hold: not this frame's -/
structure Fl (b : Bx) (U : Addr → Prop) (env : Env) : Prop where
  sub : ∀ a, b.floor a → U a
  loc : ¬ b.floor env.locals
  cel : ∀ x c, env.cells.lookup x = some c → ¬ b.floor c
/-- all that stands ahead of a tree -/
structure HH (b : Bx) (h0 : Heap) (D : Nat) (sc : Sc) (env : Env) (A : Around) (s : Shared) (n : Nat) (U : Addr → Prop) (ρ : REnv) : Prop where
  rm : Rm A D
  hy : Hy b h0 n U s.heap
  es : EnvS env sc
  ee : EnvE b s.heap U env sc ρ
  len : ρ.length = sc.len
  fr : FrO s.heap U env sc
  wf : Wf sc
  fl : Fl b U env
theorem HH.step {D : Nat} {sc : Sc} {env : Env} {A : Around} {s s' : Shared} {n n' : Nat} {U : Addr → Prop} {ρ : REnv} (ok : BxOk b) (H : HH b h0 D sc env A s n U ρ) (k : SS b n n' s s') : HH b h0 D sc env A s' n' U ρ :=
  ⟨H.rm, H.hy.stepS ok k, H.es, H.ee.stepS ok H.hy k, H.len, H.fr.stepS ok H.hy k, H.wf, H.fl⟩

noncomputable def GoodE (prog : Program) (w : World) (b : Bx) (h0 : Heap) (D : Nat) (S : Spec) (sc : Sc) (e : Expr) (x : Ex) : Prop :=
  ∀ env A s n U ρ Q E, HH b h0 D sc env A s n U ρ → evP S x ρ n Q → wpAny (model prog w) A (eval e env) (EvPost b U n s Q) E s

/-- a function's value is kept by the frame or by the machine -/
theorem keeper_fn {h : Heap} {a : Addr} {o : Obj} {fd : FuncData} (e : h.get? a = some o) (hd : o.data = .func fd) : Looks (model prog w) h (keeperOf (.ref a)) .frame := by
  intro A Q E s k q
  unfold keeperOf
  refine wpAny_bind (wpAny_load (k _ _ e) ?_)
  rw [hd]
  exact wpAny_pure q
end

section
variable {prog : Program} {w : World} {b : Bx} {fns : List (Str × Addr)} {h0 : Heap} {D : Nat} {S : Spec} {sc : Sc} {env : Env} {A : Around} {s : Shared} {n : Nat} {U : Addr → Prop} {ρ : REnv} {E : Value → Shared → Prop}

theorem load_var {x : Str} {v : Value} {Q : Value → Shared → Prop} (hk : env.scope.kind = .function) (hn : (x == ("__classdict__" : Str)) = false ∨ env.kindOf x ≠ some .free) (r : VarAt s.heap env x v) (h : Q v s) : wpAny (model prog w) A (loadName env x) Q E s := by
  rcases r with ⟨hl, m, hm, e⟩ | ⟨hc | hc, c, hl, hv⟩
  · exact wpAny_loadName_local hk hl hm e h
  · exact wpAny_loadName_cell hk hc hl hv h
  · exact wpAny_loadName_free hk hc hl hv h (hn.resolve_right fun q => q hc)

theorem cVar_some {x : Str} {i : Nat} (e : cVar sc x = some i) : sc.slots.lookup x = some i ∧ ((x == ("__classdict__" : Str)) = false ∨ sc.names.lookup x ≠ some .free) := by
  unfold cVar at e
  split at e
  · rename_i h; exact ⟨e, .inr (by rw [h]; decide)⟩
  · rename_i h; exact ⟨e, .inr (by rw [h]; decide)⟩
  · rename_i h
    split at e
    · cases e
    · rename_i q; exact ⟨e, .inl (by simpa using q)⟩
  · cases e

theorem name_var {x : Str} {pos : Pos} {i : Nat} {v : Value} {Q : Value → Shared → Prop} (hS : EnvS env sc) (hd : (x == ("__debug__" : Str)) = false) (e : cVar sc x = some i) (r : VarAt s.heap env x v) (h : Q v s) : wpAny (model prog w) A (eval (.Name x pos) env) Q E s := by
  obtain ⟨_, h2⟩ := cVar_some e
  exact wpAny_Name (load_var hS.kind (h2.imp id fun q => by unfold Env.kindOf; rw [hS.names]; exact q) r h) hd

theorem name_glob {x : Str} {pos : Pos} {a : Addr} {Q : Value → Shared → Prop} (G : Grd fns h0) (hb : Stays h0 s.heap) (hS : EnvS env sc) (hd : (x == ("__debug__" : Str)) = false) (e : cGlob fns sc x = some a) (h : Q (.ref a) s) : wpAny (model prog w) A (eval (.Name x pos) env) Q E s := by
  unfold cGlob at e
  split at e
  · rename_i hk
    obtain ⟨mg, mb, hg, hB, h1, _⟩ := G.glob
    refine Name_function_global hS.kind (by unfold Env.kindOf; rw [hS.names]; exact hk) (loadGlobal_global (mg := mg) ?_ (h1 _ _ e) h) hd
    rw [hS.globals]
    exact hg.keeps hb
  · cases e
theorem name_bi {x : Str} {pos : Pos} {k : BK} {Q : Value → Shared → Prop} (G : Grd fns h0) (hb : Stays h0 s.heap) (hS : EnvS env sc) (hd : (x == ("__debug__" : Str)) = false) (e : cBi sc x = some k) (h : Q (bkVal k) s) : wpAny (model prog w) A (eval (.Name x pos) env) Q E s := by
  unfold cBi at e
  split at e
  · rename_i hk
    obtain ⟨mg, mb, hg, hB, _, h2⟩ := G.glob
    obtain ⟨h3, h4⟩ := h2 _ _ e
    refine Name_function_global hS.kind (by unfold Env.kindOf; rw [hS.names]; exact hk) (loadGlobal_builtin (mg := mg) (mb := mb) ?_ h3 ?_ h4 h) hd
    · rw [hS.globals]; exact hg.keeps hb
    · rw [hS.builtins]; exact hB.keeps hb
  · cases e

theorem good_Name {x : Str} {pos : Pos} {y : Ex} (G : Grd fns h0) (e : cName fns sc x = some y) : GoodE prog w b h0 D S sc (.Name x pos) y := by
  intro env A s n U ρ Q E HX hQ
  obtain ⟨hA, H, hS, hE, hl, _, _, _⟩ := HX
  unfold cName at e
  split at e
  · cases e
  · rename_i hd
    have hd' : (x == ("__debug__" : Str)) = false := by simpa using hd
    split at e
    · rename_i i hi
      cases e
      unfold evP at hQ
      split at hQ
      · rename_i p hp
        obtain ⟨v, h1, h2⟩ := hE.at x i (cVar_some hi).1 (.val p) (by unfold varAt; rw [hp]; rfl)
        exact name_var hS hd' hi h1 ⟨p, n, SS.refl H.inv, h2, hQ⟩
      · exact hQ.elim
    · obtain ⟨a, ha, rfl⟩ := Option.map_eq_some_iff.mp e
      unfold evP at hQ
      exact name_glob G H.base hS hd' ha ⟨.fn a, n, SS.refl H.inv, rfl, hQ⟩

theorem good_Const {c : Const} {k : Nat} {pos : Pos} {x : PyData} (e : cConst c = some x) : GoodE prog w b h0 D S sc (.Constant c k pos) (.lit x) := by
  intro env A s n U ρ Q E HX hQ
  obtain ⟨hA, H, hS, hE, hl, _, _, _⟩ := HX
  unfold evP at hQ
  cases c <;> simp only [cConst, Option.some.injEq, reduceCtorEq] at e
  · subst e; exact wpAny_pure ⟨.d .none, n, SS.refl H.inv, RepD.none, hQ⟩
  · subst e; exact wpAny_pure ⟨.d (.bool _), n, SS.refl H.inv, RepD.bool _, hQ⟩
  · subst e; exact wpAny_mkInt ⟨.d (.int _), n, ⟨s.heap, s.toks + 1, rfl, HS.refl H.inv⟩, RepD.int _ _, hQ⟩
end

section
variable {prog : Program} {w : World} {b : Bx} {h0 : Heap} {A : Around} {s : Shared} {n : Nat} {U : Addr → Prop} {E : Value → Shared → Prop}

/-- what an operation's tree ends in -/
noncomputable def OpPost (b : Bx) (U : Addr → Prop) (n : Nat) (s : Shared) (Q : PV → Prop) (v : Value) (s' : Shared) : Prop := ∃ p, SS b n n s s' ∧ RepV b s'.heap U v p ∧ Q p

theorem op_same {tk : Nat} {Q : PV → Prop} {v : Value} {p : PV} (H : Hy b h0 n U s.heap) (r : RepV b s.heap U v p) (q : Q p) : OpPost b U n s Q v { s with toks := tk } := ⟨p, ⟨s.heap, tk, rfl, HS.refl H.inv⟩, r, q⟩
theorem op_int {tk : Nat} {Q : PV → Prop} {i : Int} {t : Tok} (H : Hy b h0 n U s.heap) (q : Q (dI i)) : OpPost b U n s Q (.int i t) { s with toks := tk } := ⟨dI i, ⟨s.heap, tk, rfl, HS.refl H.inv⟩, RepD.int i t, q⟩
theorem op_bool {Q : PV → Prop} {i : Bool} (H : Hy b h0 n U s.heap) (q : Q (dB i)) : OpPost b U n s Q (.bool i) s := ⟨dB i, SS.refl H.inv, RepD.bool i, q⟩

theorem push_keep (h : Heap) (o : Obj) : ∀ a o', h.get? a = some o' → (h.push o).get? a = some o' := fun _ _ e => Heap.get?_push_of_some o e
theorem RepL.keep {h h' : Heap} (k : ∀ a o, h.get? a = some o → h'.get? a = some o) {vs : List Value} {xs : List PyData} (r : RepL h U vs xs) : RepL h' U vs xs := r.map fun a o e _ u => ⟨k a o e, u⟩
theorem RepD.keep {h h' : Heap} (k : ∀ a o, h.get? a = some o → h'.get? a = some o) {v : Value} {x : PyData} (r : RepD h U v x) : RepD h' U v x := r.map fun a o e _ u => ⟨k a o e, u⟩

/-- a new list -/
theorem op_newlist (ok : BxOk b) {Q : PV → Prop} {vs : List Value} {xs : List PyData} {tk k : Nat} (H : Hy b h0 n U s.heap) (r : RepL s.heap U vs xs) (q : Q (.d (.list xs))) :
    OpPost b U n s Q (.ref s.heap.objs.size) { s with heap := s.heap.push { cls := .type "list", data := .seq vs.toArray k }, toks := tk } :=
  ⟨.d (.list xs), SS.of ok H.inv (push_keep _ _), RepD.list (o := { cls := .type "list", data := .seq vs.toArray k }) (Heap.get?_push_size _ rfl) rfl rfl (H.fresh (get_size _)) (r.keep (push_keep _ _)), q⟩
theorem op_newtup (ok : BxOk b) {Q : PV → Prop} {vs : List Value} {xs : List PyData} {tk k : Nat} (H : Hy b h0 n U s.heap) (r : RepL s.heap U vs xs) (q : Q (.d (.tuple xs))) :
    OpPost b U n s Q (.ref s.heap.objs.size) { s with heap := s.heap.push { cls := .type "tuple", data := .seq vs.toArray k }, toks := tk } :=
  ⟨.d (.tuple xs), SS.of ok H.inv (push_keep _ _), RepD.tuple (o := { cls := .type "tuple", data := .seq vs.toArray k }) (Heap.get?_push_size _ rfl) rfl rfl (H.fresh (get_size _)) (r.keep (push_keep _ _)), q⟩

theorem mulOk_small {a c : Int} (h : a.natAbs < 2 ^ 31) : IntMulOk a c := IntMulOk.of_left (intBits_le_64 (by (first | lia | omega)) (by (first | lia | omega)))

theorem list_add (ok : BxOk b) {l r : Addr} {o o' : Obj} {vs ws : List Value} {k k' : Nat} {xs ys : List PyData} {Q : PV → Prop} (H : Hy b h0 n U s.heap)
    (e1 : s.heap.get? l = some o) (c1 : o.cls = .type "list") (d1 : o.data = .seq vs.toArray k) (e2 : s.heap.get? r = some o') (c2 : o'.cls = .type "list") (d2 : o'.data = .seq ws.toArray k')
    (r1 : RepL s.heap U vs xs) (r2 : RepL s.heap U ws ys) (hsz : vs.length + ws.length ≤ sizeLine) (q : Q (.d (.list (xs ++ ys)))) : wpAny (model prog w) A (binaryOp .Add (.ref l) (.ref r)) (OpPost b U n s Q) E s := by
  obtain ⟨cls, dd, data, sl⟩ := o
  obtain ⟨cls', dd', data', sl'⟩ := o'
  dsimp only at c1 d1 c2 d2
  subst c1 d1 c2 d2
  have e : vs.toArray ++ ws.toArray = (vs ++ ws).toArray := by simp
  refine concat_meets ⟨_, e1, rfl⟩ ⟨_, e2, rfl⟩ noFill_list_add seq_list_add PySem.F.slot_list_add PySem.F.entry_list_add (PySem.F.args_list_add_2 _ _) (list_addW l r vs.toArray ws.toArray k k' dd dd' sl sl' (by simpa using hsz)) ⟨e1, e2, ?_⟩
  rw [e]
  exact op_newlist ok H (r1.app r2) q
theorem tup_add (ok : BxOk b) {l r : Addr} {o o' : Obj} {vs ws : List Value} {k k' : Nat} {xs ys : List PyData} {Q : PV → Prop} (H : Hy b h0 n U s.heap)
    (e1 : s.heap.get? l = some o) (c1 : o.cls = .type "tuple") (d1 : o.data = .seq vs.toArray k) (e2 : s.heap.get? r = some o') (c2 : o'.cls = .type "tuple") (d2 : o'.data = .seq ws.toArray k')
    (hur : ¬ U r) (r1 : RepL s.heap U vs xs) (r2 : RepL s.heap U ws ys) (hw : ws ≠ []) (hsz : vs.length + ws.length ≤ sizeLine) (q : Q (.d (.tuple (xs ++ ys)))) : wpAny (model prog w) A (binaryOp .Add (.ref l) (.ref r)) (OpPost b U n s Q) E s := by
  obtain ⟨cls, dd, data, sl⟩ := o
  obtain ⟨cls', dd', data', sl'⟩ := o'
  dsimp only at c1 d1 c2 d2
  subst c1 d1 c2 d2
  have e : vs.toArray ++ ws.toArray = (vs ++ ws).toArray := by simp
  by_cases hv : vs = []
  · subst hv
    have hx : xs = [] := by have := r1.length; simpa using this.symm
    subst hx
    refine concat_meets ⟨_, e1, rfl⟩ ⟨_, e2, rfl⟩ noFill_tuple_add seq_tuple_add PySem.F.slot_tuple_add PySem.F.entry_tuple_add (PySem.F.args_tuple_add_2 _ _) (tuple_addW0 l r _ ws.toArray k k' dd dd' sl sl' (by simp)) ⟨e1, e2, ?_⟩
    exact op_same (p := .d (.tuple ys)) (tk := s.toks) H (RepD.tuple e2 rfl rfl hur r2) q
  · refine concat_meets ⟨_, e1, rfl⟩ ⟨_, e2, rfl⟩ noFill_tuple_add seq_tuple_add PySem.F.slot_tuple_add PySem.F.entry_tuple_add (PySem.F.args_tuple_add_2 _ _)
      (tuple_addW2 l r vs.toArray ws.toArray k k' dd dd' sl sl' (by simpa using hv) (by simpa using hw) (by rw [List.size_toArray, List.size_toArray]; exact hsz)) ⟨e1, e2, ?_⟩
    rw [e]
    exact op_newtup ok H (r1.app r2) q

theorem line_of {k : Nat} (h : k ≤ 2 ^ 22) : k ≤ sizeLine := Nat.le_trans h (by rw [sizeLine_eq]; decide)

theorem twoI {x y : PV} {vx vy : Value} {F : Int → Int → Prop} (rx : RepV b s.heap U vx x) (ry : RepV b s.heap U vy y) (q : int2 x y F) : ∃ a c t u, vx = .int a t ∧ vy = .int c u ∧ F a c := by
  obtain ⟨a, c, rfl, rfl, q⟩ := int2_inv q
  obtain ⟨t, rfl⟩ := RepD.int_inv rx
  obtain ⟨u, rfl⟩ := RepD.int_inv ry
  exact ⟨a, c, t, u, rfl, rfl, q⟩
theorem bin_ok (ok : BxOk b) {o : Operator} {x y : PV} {vx vy : Value} {Q : PV → Prop} (H : Hy b h0 n U s.heap) (rx : RepV b s.heap U vx x) (ry : RepV b s.heap U vy y) (q : binP o x y Q) :
    wpAny (model prog w) A (binaryOp o vx vy) (OpPost b U n s Q) E s := by
  cases o <;> first | exact q.elim | skip
  · rcases q with q | q | q
    · obtain ⟨a, c, t, u, rfl, rfl, q⟩ := twoI rx ry q; exact PyProof.Rows.add_int (op_int H q)
    · obtain ⟨a, c, rfl, rfl, q⟩ := list2_inv q
      obtain ⟨l, ol, vs, k, rfl, e1, c1, d1, _, r1⟩ := RepD.list_inv rx
      obtain ⟨r, o', ws, k', rfl, e2, c2, d2, _, r2⟩ := RepD.list_inv ry
      exact list_add ok H e1 c1 d1 e2 c2 d2 r1 r2 (line_of (by rw [r1.length, r2.length]; (first | lia | omega))) q.2
    · obtain ⟨a, c, rfl, rfl, h1, h2, q⟩ := tup2_inv q
      obtain ⟨l, ol, vs, k, rfl, e1, c1, d1, _, r1⟩ := RepD.tuple_inv rx
      obtain ⟨r, o', ws, k', rfl, e2, c2, d2, hur, r2⟩ := RepD.tuple_inv ry
      have hl := r2.length
      have hm := r1.length
      exact tup_add ok H e1 c1 d1 e2 c2 d2 hur r1 r2 (by intro e; subst e; simp at hl; (first | lia | omega)) (line_of (by (first | lia | omega))) q
  · obtain ⟨a, c, t, u, rfl, rfl, q⟩ := twoI rx ry q; exact PyProof.Rows.sub_int (op_int H q)
  · obtain ⟨a, c, t, u, rfl, rfl, q⟩ := twoI rx ry q; exact PyProof.Rows.mul_int (op_int H q.2) (mulOk_small q.1)
  · obtain ⟨a, c, t, u, rfl, rfl, q⟩ := twoI rx ry q; exact mod_int' q.1 (op_int H q.2)
  · obtain ⟨a, c, t, u, rfl, rfl, h1, h2, h3, q⟩ := twoI rx ry q
    refine pow_int h2 ?_ (op_int H q)
    have hb : Builtin.Int.intBits a ≤ 8 := intBits_le h1
    have h5 : (Builtin.Int.intBits a : Int) * c ≤ 8 * c := Int.mul_le_mul_of_nonneg_right (by (first | lia | omega)) h2
    (first | lia | omega)
  · obtain ⟨a, c, t, u, rfl, rfl, h1, h2, h3, q⟩ := twoI rx ry q
    exact lshift_int_small h1 (by (first | lia | omega)) (by (first | lia | omega)) (op_int H q)
  · obtain ⟨a, c, t, u, rfl, rfl, q⟩ := twoI rx ry q; exact rshift_int q.1 (op_int H q.2)
  · obtain ⟨a, c, t, u, rfl, rfl, q⟩ := twoI rx ry q; exact or_int (op_int H q)
  · obtain ⟨a, c, t, u, rfl, rfl, q⟩ := twoI rx ry q; exact xor_int (op_int H q)
  · obtain ⟨a, c, t, u, rfl, rfl, q⟩ := twoI rx ry q; exact and_int (op_int H q)
  · obtain ⟨a, c, t, u, rfl, rfl, q⟩ := twoI rx ry q; exact floordiv_int q.1 (op_int H q.2.2) (.inl (PyProof.noPylong_small q.2.1))

theorem aug_ok {o : Operator} {x y : Int} {t u : Tok} {Q : PV → Prop} (H : Hy b h0 n U s.heap) (ho : (o == .Add || o == .Sub || o == .RShift) = true) (q : binP o (dI x) (dI y) Q) :
    wpAny (model prog w) A (inplaceOp o (.int x t) (.int y u)) (OpPost b U n s Q) E s := by
  cases o <;> first | (exfalso; revert ho; decide) | skip
  · rcases q with q | q | q
    · exact PyProof.Rows.iadd_int (op_int H q)
    · exact q.elim
    · exact q.elim
  · exact PyProof.Rows.isub_int (op_int H q)
  · exact irshift_int q.1 (op_int H q.2)

theorem okD_parts {x : PyData} (h : okD x = true) : x.canLay0 = true ∧ x.depth ≤ 64 := ⟨SeqAt.canLay_of_shaped h, SeqAt.depth_of_shaped h⟩

theorem cmp_ok {o : CmpOp} {x y : PV} {vx vy : Value} {Q : Bool → Prop} {D : Nat} (hA : Rm A D) (H : Hy b h0 n U s.heap) (rx : RepV b s.heap U vx x) (U' : Addr → Prop) (ry : RepV b s.heap U' vy y) (q : cmpP o x y Q) :
    wpAny (model prog w) A (compareOp o vx vy) (OpPost b U n s fun p => ∃ c, p = dB c ∧ Q c) E s := by
  have hu : A.units + 66 < cLine := by have := hA.units; (first | lia | omega)
  have twoI' : ∀ {F : Int → Int → Prop}, int2 x y F → ∃ a c t u, vx = .int a t ∧ vy = .int c u ∧ F a c := fun q => by
    obtain ⟨a, c, rfl, rfl, q⟩ := int2_inv q
    obtain ⟨t, rfl⟩ := RepD.int_inv rx
    obtain ⟨u, rfl⟩ := RepD.int_inv ry
    exact ⟨a, c, t, u, rfl, rfl, q⟩
  cases o <;> first | exact q.elim | skip
  · obtain ⟨a, c, rfl, rfl, q⟩ := dat2_inv q
    obtain ⟨as, rx, _⟩ := RepD.reads rx; obtain ⟨bs, ry, _⟩ := RepD.reads ry
    exact SeqAt.compareEq_shaped rx ry q.1 q.2.1 (by (first | lia | omega)) (op_bool H ⟨_, rfl, q.2.2⟩)
  · obtain ⟨a, c, rfl, rfl, q⟩ := dat2_inv q
    obtain ⟨as, rx, _⟩ := RepD.reads rx; obtain ⟨bs, ry, _⟩ := RepD.reads ry
    exact SeqAt.compareNe_shaped rx ry q.1 q.2.1 (by (first | lia | omega)) (op_bool H ⟨_, rfl, q.2.2⟩)
  · obtain ⟨a, c, t, u, rfl, rfl, q⟩ := twoI' q; exact PyProof.Rows.lt_int (op_bool H ⟨_, rfl, q⟩)
  · obtain ⟨a, c, t, u, rfl, rfl, q⟩ := twoI' q; exact PyProof.Rows.le_int (op_bool H ⟨_, rfl, q⟩)
  · obtain ⟨a, c, t, u, rfl, rfl, q⟩ := twoI' q; exact PyProof.Rows.gt_int (op_bool H ⟨_, rfl, q⟩)
  · obtain ⟨a, c, t, u, rfl, rfl, q⟩ := twoI' q; exact PyProof.Rows.ge_int (op_bool H ⟨_, rfl, q⟩)
  · obtain ⟨a, c, rfl, rfl, q⟩ := dat2_inv q
    obtain ⟨as, rx, _⟩ := RepD.reads rx; obtain ⟨bs, ry, _⟩ := RepD.reads ry
    cases c <;> first | exact q.elim | skip
    · obtain ⟨h1, h2⟩ := okD_parts q.1
      exact SeqAt.in_list_reads ry rx (by simpa [PyData.canLay0] using (okD_parts q.2.1).1) h1 (by have := Nat.min_le_right (PyData.depthAll ‹List PyData›) (PyData.depth ‹PyData›); (first | lia | omega)) (op_bool H ⟨_, rfl, q.2.2⟩)
    · obtain ⟨h1, h2⟩ := okD_parts q.1
      exact SeqAt.in_tuple_reads ry rx (by simpa [PyData.canLay0] using (okD_parts q.2.1).1) h1 (by have := Nat.min_le_right (PyData.depthAll ‹List PyData›) (PyData.depth ‹PyData›); (first | lia | omega)) (op_bool H ⟨_, rfl, q.2.2⟩)
  · obtain ⟨a, c, rfl, rfl, q⟩ := dat2_inv q
    obtain ⟨as, rx, _⟩ := RepD.reads rx; obtain ⟨bs, ry, _⟩ := RepD.reads ry
    cases c <;> first | exact q.elim | skip
    · obtain ⟨h1, h2⟩ := okD_parts q.1
      exact SeqAt.notIn_list_reads ry rx (by simpa [PyData.canLay0] using (okD_parts q.2.1).1) h1 (by have := Nat.min_le_right (PyData.depthAll ‹List PyData›) (PyData.depth ‹PyData›); (first | lia | omega)) (op_bool H ⟨_, rfl, q.2.2⟩)
    · obtain ⟨h1, h2⟩ := okD_parts q.1
      exact SeqAt.notIn_tuple_reads ry rx (by simpa [PyData.canLay0] using (okD_parts q.2.1).1) h1 (by have := Nat.min_le_right (PyData.depthAll ‹List PyData›) (PyData.depth ‹PyData›); (first | lia | omega)) (op_bool H ⟨_, rfl, q.2.2⟩)

theorem truth_ok {x : PV} {v : Value} {Q : Bool → Prop} (rx : RepV b s.heap U v x) (q : truthP x Q) : wpAny (model prog w) A (truthy v) (fun c s' => s' = s ∧ Q c) E s := by
  obtain ⟨c, rfl, q⟩ := bool1_inv q
  obtain rfl := RepD.bool_inv rx
  exact wpAny_truthy_bool ⟨rfl, q⟩
end

section
variable {prog : Program} {w : World} {b : Bx} {fns : List (Str × Addr)} {h0 : Heap} {D : Nat} {S : Spec} {sc : Sc}

noncomputable def GoodT (prog : Program) (w : World) (b : Bx) (h0 : Heap) (D : Nat) (S : Spec) (sc : Sc) (e : Expr) (t : Ts) : Prop :=
  ∀ env A s n U ρ Q E, HH b h0 D sc env A s n U ρ → tsP S t ρ n Q → wpAny (model prog w) A (isTrue e env (eval e env)) (fun c s' => ∃ n', SS b n n' s s' ∧ Q c n') E s
/-- read, not handed on: a list of the frame's own may come -/
noncomputable def RepR (b : Bx) (h : Heap) (U : Addr → Prop) (v : Value) (p : PV) : Prop :=
  RepV b h U v p ∨ ∃ l a vs, p = .d (.list l) ∧ v = .ref a ∧ ¬ b.set a ∧ h.PlainList a (List.toArray vs) ∧ RepL h U vs l
noncomputable def GoodR (prog : Program) (w : World) (b : Bx) (h0 : Heap) (D : Nat) (S : Spec) (sc : Sc) (e : Expr) (r : Rd) : Prop :=
  ∀ env A s n U ρ Q E, HH b h0 D sc env A s n U ρ → rdP S r ρ n Q → wpAny (model prog w) A (eval e env) (fun v s' => ∃ p n', SS b n n' s s' ∧ RepR b s'.heap U v p ∧ Q p n') E s
/-- a list made here -/
noncomputable def GoodF (prog : Program) (w : World) (b : Bx) (h0 : Heap) (D : Nat) (S : Spec) (sc : Sc) (e : Expr) (x : Ex) : Prop :=
  ∀ env A s n U ρ Q E, HH b h0 D sc env A s n U ρ → evP S x ρ n Q → wpAny (model prog w) A (eval e env)
    (fun v s' => ∃ a vs xs n', v = .ref a ∧ s.heap.get? a = none ∧ SS b n n' s s' ∧ s'.heap.PlainList a (List.toArray vs) ∧ RepL s'.heap (fun x => U x ∨ x = a) vs xs ∧ Q (.d (.list xs)) n') E s
noncomputable def LsPost (b : Bx) (U : Addr → Prop) (n : Nat) (s : Shared) (k : Nat) (Q : List PV → Nat → Prop) (vs : List Value) (s' : Shared) : Prop := ∃ ps n', SS b n n' s s' ∧ RepVs b s'.heap U vs ps ∧ vs.length = k ∧ Q ps n'
noncomputable def GoodL (prog : Program) (w : World) (b : Bx) (h0 : Heap) (D : Nat) (S : Spec) (sc : Sc) (es : List Expr) (l : ExL) : Prop :=
  ∀ pos env A s n U ρ Q E, HH b h0 D sc env A s n U ρ → evLP S l ρ n Q → wpAny (model prog w) A (spliced (backTo pos (starEach es env))) (LsPost b U n s es.length Q) E s
noncomputable def noStar (es : List Expr) : Prop := ∀ pos env, starEach es env = es.map (fun e => (false, eval e env)) ∧ ((backTo pos (starEach es env)).any (·.1)) = false

theorem starEach_plain {e : Expr} {r : List Expr} {env : Env} (h : ∀ x p, e ≠ .Starred x p) : starEach (e :: r) env = (false, eval e env) :: starEach r env := by
  cases e <;> first | rfl | exact absurd rfl (h _ _)
theorem notStar {e : Expr} {x : Ex} (h : (cA fns e sc).ex = some x) : ∀ y p, e ≠ .Starred y p := fun y p e' => by
  subst e'
  exact nomatch (show none = some x from h)

theorem goodL_nil : GoodL prog w b h0 D S sc [] .nil := fun pos env A s n U ρ Q E H hQ => by
  exact wpAny_pure ⟨[], n, SS.refl H.hy.inv, trivial, rfl, hQ⟩
theorem RepVs.stepS {n n' : Nat} {U : Addr → Prop} {s s' : Shared} (ok : BxOk b) (H : Hy b h0 n U s.heap) (k : SS b n n' s s') : ∀ {vs : List Value} {ps : List PV}, RepVs b s.heap U vs ps → RepVs b s'.heap U vs ps
  | [], [], _ => trivial
  | _ :: _, _ :: _, h => ⟨RepV.stepS ok H k h.1, RepVs.stepS ok H k h.2⟩
  | [], _ :: _, h => h.elim
  | _ :: _, [], h => h.elim
theorem RepVs.keep {h h' : Heap} {U U' : Addr → Prop} (k : ∀ v p, RepV b h U v p → RepV b h' U' v p) : ∀ {vs : List Value} {ps : List PV}, RepVs b h U vs ps → RepVs b h' U' vs ps
  | [], [], _ => trivial
  | _ :: _, _ :: _, h => ⟨k _ _ h.1, RepVs.keep k h.2⟩
  | [], _ :: _, h => h.elim
  | _ :: _, [], h => h.elim
theorem RepVs.len {h : Heap} {U : Addr → Prop} : ∀ {vs : List Value} {ps : List PV}, RepVs b h U vs ps → vs.length = ps.length
  | [], [], _ => rfl
  | _ :: _, _ :: _, h => by rw [List.length_cons, List.length_cons, RepVs.len h.2]
  | [], _ :: _, h => h.elim
  | _ :: _, [], h => h.elim
theorem RepVs.dats {h : Heap} {U : Addr → Prop} : ∀ {vs : List Value} {ps : List PV} {xs : List PyData}, RepVs b h U vs ps → pvDats ps = some xs → RepL h U vs xs
  | [], [], _, _, e => by cases e; exact RepL.nil
  | v :: vs, p :: ps, xs, r, e => by
    unfold pvDats at e
    cases hp : pvDat p with
    | none => rw [hp] at e; cases e
    | some x =>
      cases hq : pvDats ps with
      | none => rw [hp, hq] at e; cases e
      | some ys =>
        rw [hp, hq] at e
        cases e
        cases p with
        | d y => cases hp; exact .cons r.1 (RepVs.dats r.2 hq)
        | fn a => cases hp
        | bench => cases hp
  | [], _ :: _, _, h, _ => h.elim
  | _ :: _, [], _, h, _ => h.elim

theorem goodL_cons (ok : BxOk b) {e : Expr} {es : List Expr} {x : Ex} {l : ExL} (hs : ∀ y p, e ≠ .Starred y p) (g : GoodE prog w b h0 D S sc e x) (gs : GoodL prog w b h0 D S sc es l) :
    GoodL prog w b h0 D S sc (e :: es) (.cons x l) := fun pos env A s n U ρ Q E H hQ => by
  rw [starEach_plain hs]
  refine Calls.spliced_cons (wpAny_mono (g env A s n U ρ _ E H hQ) (fun v s₁ h₁ => ?_) fun _ _ h => h)
  obtain ⟨p, n₁, k₁, r₁, q₁⟩ := h₁
  refine wpAny_mono (gs pos env A s₁ n₁ U ρ _ E (H.step ok k₁) q₁) (fun vs s₂ h₂ => ?_) fun _ _ h => h
  obtain ⟨ps, n₂, k₂, r₂, hl, q₂⟩ := h₂
  exact ⟨p :: ps, n₂, k₁.trans k₂, ⟨RepV.stepS ok (H.hy.stepS ok k₁) k₂ r₁, r₂⟩, by rw [List.length_cons, List.length_cons, hl], q₂⟩

theorem evPost_of {n n₁ : Nat} {U : Addr → Prop} {s s₁ : Shared} {Q : PV → Nat → Prop} {v : Value} {s₂ : Shared} (k : SS b n n₁ s s₁) (h : OpPost b U n₁ s₁ (fun z => Q z n₁) v s₂) : EvPost b U n s Q v s₂ := by
  obtain ⟨p, k₂, r, q⟩ := h
  exact ⟨p, n₁, k.trans k₂, r, q⟩

theorem good_Bin (ok : BxOk b) {l r : Expr} {o : Operator} {pos : Pos} {x y : Ex} (gl : GoodE prog w b h0 D S sc l x) (gr : GoodE prog w b h0 D S sc r y) : GoodE prog w b h0 D S sc (.BinOp l o r pos) (.bin o x y) := by
  intro env A s n U ρ Q E H hQ
  refine wpAny_BinOp (wpAny_mono (gl env A s n U ρ _ E H hQ) (fun v s₁ h₁ => ?_) fun _ _ h => h)
  obtain ⟨p, n₁, k₁, r₁, q₁⟩ := h₁
  refine wpAny_mono (gr env A s₁ n₁ U ρ _ E (H.step ok k₁) q₁) (fun v₂ s₂ h₂ => ?_) fun _ _ h => h
  obtain ⟨p₂, n₂, k₂, r₂, q₂⟩ := h₂
  have H₂ := (H.hy.stepS ok k₁).stepS ok k₂
  exact wpAny_mono (bin_ok ok H₂ (RepV.stepS ok (H.hy.stepS ok k₁) k₂ r₁) r₂ q₂) (fun v₃ s₃ h₃ => evPost_of (k₁.trans k₂) h₃) fun _ _ h => h

theorem good_Not (ok : BxOk b) {x : Expr} {pos : Pos} {y : Ex} (g : GoodE prog w b h0 D S sc x y) : GoodE prog w b h0 D S sc (.UnaryOp .Not x pos) (.not y) := by
  intro env A s n U ρ Q E H hQ
  refine wpAny_UnaryOp (wpAny_mono (g env A s n U ρ _ E H hQ) (fun v s₁ h₁ => ?_) fun _ _ h => h)
  obtain ⟨p, n₁, k₁, r₁, q₁⟩ := h₁
  refine not_of (wpAny_mono (truth_ok r₁ q₁) (fun c s₂ h₂ => ?_) fun _ _ h => h)
  obtain ⟨rfl, q₂⟩ := h₂
  exact ⟨dB (!c), n₁, k₁, RepD.bool _, q₂⟩
theorem good_Neg (ok : BxOk b) {x : Expr} {pos : Pos} {y : Ex} (g : GoodE prog w b h0 D S sc x y) : GoodE prog w b h0 D S sc (.UnaryOp .USub x pos) (.neg y) := by
  intro env A s n U ρ Q E H hQ
  refine wpAny_UnaryOp (wpAny_mono (g env A s n U ρ _ E H hQ) (fun v s₁ h₁ => ?_) fun _ _ h => h)
  obtain ⟨p, n₁, k₁, r₁, q₁⟩ := h₁
  obtain ⟨a, rfl, q₁⟩ := int1_inv q₁
  obtain ⟨t, rfl⟩ := RepD.int_inv r₁
  exact PyProof.Rows.neg_int (evPost_of k₁ (op_int (H.hy.stepS ok k₁) q₁))

theorem good_And (ok : BxOk b) {x y : Expr} {pos : Pos} {a c : Ex} (gx : GoodE prog w b h0 D S sc x a) (gy : GoodE prog w b h0 D S sc y c) : GoodE prog w b h0 D S sc (.BoolOp .And [x, y] pos) (.and a c) := by
  intro env A s n U ρ Q E H hQ
  refine wpAny_And2 (wpAny_mono (gx env A s n U ρ _ E H hQ) (fun v s₁ h₁ => ?_) fun _ _ h => h)
  obtain ⟨p, n₁, k₁, r₁, q₁⟩ := h₁
  refine wpAny_mono (truth_ok r₁ q₁) (fun t s₂ h₂ => ?_) fun _ _ h => h
  obtain ⟨rfl, q₂⟩ := h₂
  cases t with
  | true =>
    rw [if_pos rfl]
    refine wpAny_mono (gy env A s₂ n₁ U ρ _ E (H.step ok k₁) q₂) (fun v₃ s₃ h₃ => ?_) fun _ _ h => h
    obtain ⟨p₃, n₃, k₃, r₃, q₃⟩ := h₃
    exact ⟨p₃, n₃, k₁.trans k₃, r₃, q₃⟩
  | false =>
    rw [if_neg Bool.false_ne_true]
    exact ⟨p, n₁, k₁, r₁, q₂⟩
theorem good_Or (ok : BxOk b) {x y : Expr} {pos : Pos} {a c : Ex} (gx : GoodE prog w b h0 D S sc x a) (gy : GoodE prog w b h0 D S sc y c) : GoodE prog w b h0 D S sc (.BoolOp .Or [x, y] pos) (.or a c) := by
  intro env A s n U ρ Q E H hQ
  refine wpAny_Or2 (wpAny_mono (gx env A s n U ρ _ E H hQ) (fun v s₁ h₁ => ?_) fun _ _ h => h)
  obtain ⟨p, n₁, k₁, r₁, q₁⟩ := h₁
  refine wpAny_mono (truth_ok r₁ q₁) (fun t s₂ h₂ => ?_) fun _ _ h => h
  obtain ⟨rfl, q₂⟩ := h₂
  cases t with
  | false =>
    rw [if_neg Bool.false_ne_true]
    refine wpAny_mono (gy env A s₂ n₁ U ρ _ E (H.step ok k₁) q₂) (fun v₃ s₃ h₃ => ?_) fun _ _ h => h
    obtain ⟨p₃, n₃, k₃, r₃, q₃⟩ := h₃
    exact ⟨p₃, n₃, k₁.trans k₃, r₃, q₃⟩
  | true =>
    rw [if_pos rfl]
    exact ⟨p, n₁, k₁, r₁, q₂⟩
theorem good_If (ok : BxOk b) {c x y : Expr} {pos : Pos} {t : Ts} {a d : Ex} (gc : GoodT prog w b h0 D S sc c t) (gx : GoodE prog w b h0 D S sc x a) (gy : GoodE prog w b h0 D S sc y d) : GoodE prog w b h0 D S sc (.IfExp c x y pos) (.ite t a d) := by
  intro env A s n U ρ Q E H hQ
  refine wpAny_IfExp (wpAny_mono (gc env A s n U ρ _ E H hQ) (fun t s₁ h₁ => ?_) fun _ _ h => h)
  obtain ⟨n₁, k₁, q₁⟩ := h₁
  cases t with
  | true =>
    rw [if_pos rfl]
    refine wpAny_mono (gx env A s₁ n₁ U ρ _ E (H.step ok k₁) q₁) (fun v₃ s₃ h₃ => ?_) fun _ _ h => h
    obtain ⟨p₃, n₃, k₃, r₃, q₃⟩ := h₃
    exact ⟨p₃, n₃, k₁.trans k₃, r₃, q₃⟩
  | false =>
    rw [if_neg Bool.false_ne_true]
    refine wpAny_mono (gy env A s₁ n₁ U ρ _ E (H.step ok k₁) q₁) (fun v₃ s₃ h₃ => ?_) fun _ _ h => h
    obtain ⟨p₃, n₃, k₃, r₃, q₃⟩ := h₃
    exact ⟨p₃, n₃, k₁.trans k₃, r₃, q₃⟩

theorem RepR.stepS {n n' : Nat} {U : Addr → Prop} {s s' : Shared} (ok : BxOk b) (H : Hy b h0 n U s.heap) (k : SS b n n' s s') {v : Value} {p : PV} (r : RepR b s.heap U v p) : RepR b s'.heap U v p := by
  rcases r with r | ⟨l, a, vs, e, e', hb, ⟨kk, hp⟩, r⟩
  · exact .inl (RepV.stepS ok H k r)
  · exact .inr ⟨l, a, vs, e, e', hb, ⟨kk, k.get hb hp⟩, RepL.stepS ok H k r⟩
theorem RepR.weak {h : Heap} {U : Addr → Prop} {v : Value} {p : PV} (r : RepR b h U v p) : ∃ U', RepV b h U' v p := by
  rcases r with r | ⟨l, a, vs, rfl, rfl, hb, ⟨kk, hp⟩, r⟩
  · exact ⟨U, r⟩
  · exact ⟨fun _ => False, RepD.list hp rfl rfl id (r.mono fun _ q => q.elim)⟩

theorem cmp_core (ok : BxOk b) {l r : Expr} {o : CmpOp} {x : Ex} {y : Rd} (gl : GoodE prog w b h0 D S sc l x) (gr : GoodR prog w b h0 D S sc r y) {env : Env} {A : Around} {s : Shared} {n : Nat} {U : Addr → Prop} {ρ : REnv} {Q : Bool → Nat → Prop} {E : Value → Shared → Prop}
    (H : HH b h0 D sc env A s n U ρ) (hQ : evP S x ρ n fun x n => rdP S y ρ n fun y n => cmpP o x y fun z => Q z n) :
    wpAny (model prog w) A (eval l env) (fun a s₁ => wpAny (model prog w) A (eval r env) (fun c s₂ => wpAny (model prog w) A (compareOp o a c) (fun v s' => ∃ z n', v = .bool z ∧ SS b n n' s s' ∧ Q z n') E s₂) E s₁) E s := by
  refine wpAny_mono (gl env A s n U ρ _ E H hQ) (fun v s₁ h₁ => ?_) fun _ _ h => h
  obtain ⟨p, n₁, k₁, r₁, q₁⟩ := h₁
  refine wpAny_mono (gr env A s₁ n₁ U ρ _ E (H.step ok k₁) q₁) (fun v₂ s₂ h₂ => ?_) fun _ _ h => h
  obtain ⟨p₂, n₂, k₂, r₂, q₂⟩ := h₂
  obtain ⟨U', r₂⟩ := r₂.weak
  have H₂ := (H.hy.stepS ok k₁).stepS ok k₂
  refine wpAny_mono (cmp_ok H.rm H₂ (RepV.stepS ok (H.hy.stepS ok k₁) k₂ r₁) U' r₂ q₂) (fun v₃ s₃ h₃ => ?_) fun _ _ h => h
  obtain ⟨p₃, k₃, r₃, c, rfl, q₃⟩ := h₃
  exact ⟨c, n₂, RepD.bool_inv r₃, (k₁.trans k₂).trans k₃, q₃⟩
theorem good_Cmp (ok : BxOk b) {l r : Expr} {o : CmpOp} {pos : Pos} {x : Ex} {y : Rd} (hm : behindInMarks o r = false) (gl : GoodE prog w b h0 D S sc l x) (gr : GoodR prog w b h0 D S sc r y) : GoodE prog w b h0 D S sc (.Compare l [o] [r] pos) (.cmp o x y) := by
  intro env A s n U ρ Q E H hQ
  refine wpAny_Compare1 (wpAny_mono (cmp_core ok gl gr H hQ) (fun v s₁ h₁ => wpAny_mono h₁ (fun v₂ s₂ h₂ => wpAny_mono h₂ (fun v₃ s₃ h₃ => ?_) fun _ _ h => h) fun _ _ h => h) fun _ _ h => h) hm
  obtain ⟨z, n', rfl, k, q⟩ := h₃
  exact ⟨dB z, n', k, RepD.bool _, q⟩
theorem goodT_Cmp (ok : BxOk b) {l r : Expr} {o : CmpOp} {pos : Pos} {x : Ex} {y : Rd} (hm : behindInMarks o r = false) (gl : GoodE prog w b h0 D S sc l x) (gr : GoodR prog w b h0 D S sc r y) : GoodT prog w b h0 D S sc (.Compare l [o] [r] pos) (.cmp o x y) := by
  intro env A s n U ρ Q E H hQ
  refine wpAny_isTrue_Compare1 (wpAny_mono (cmp_core ok gl gr H hQ) (fun v s₁ h₁ => wpAny_mono h₁ (fun v₂ s₂ h₂ => wpAny_mono h₂ (fun v₃ s₃ h₃ => ?_) fun _ _ h => h) fun _ _ h => h) fun _ _ h => h) hm
  obtain ⟨z, n', rfl, k, q⟩ := h₃
  exact wpAny_truthy_bool ⟨n', k, q⟩

noncomputable def plainTest : Expr → Bool
  | .UnaryOp .Not _ _ | .BoolOp .. | .IfExp .. | .Compare .. => false
  | _ => true
theorem goodT_val (ok : BxOk b) {e : Expr} {x : Ex} (hp : plainTest e = true) (g : GoodE prog w b h0 D S sc e x) : GoodT prog w b h0 D S sc e (.val x) := by
  intro env A s n U ρ Q E H hQ
  refine wpAny_isTrue_value (wpAny_mono (g env A s n U ρ _ E H hQ) (fun v s₁ h₁ => ?_) fun _ _ h => h) ?_
  · obtain ⟨p, n₁, k₁, r₁, q₁⟩ := h₁
    refine wpAny_mono (truth_ok r₁ q₁) (fun c s₂ h₂ => ?_) fun _ _ h => h
    obtain ⟨rfl, q₂⟩ := h₂
    exact ⟨n₁, k₁, q₂⟩
  · cases e <;> first | rfl | exact absurd hp Bool.false_ne_true | (rename_i o _ _; cases o <;> first | rfl | exact absurd hp Bool.false_ne_true)
theorem goodT_Not (ok : BxOk b) {x : Expr} {pos : Pos} {t : Ts} (g : GoodT prog w b h0 D S sc x t) : GoodT prog w b h0 D S sc (.UnaryOp .Not x pos) (.not t) := by
  intro env A s n U ρ Q E H hQ
  exact wpAny_isTrue_Not (g env A s n U ρ _ E H hQ)
theorem goodT_And (ok : BxOk b) {x y : Expr} {pos : Pos} {t u : Ts} (gx : GoodT prog w b h0 D S sc x t) (gy : GoodT prog w b h0 D S sc y u) : GoodT prog w b h0 D S sc (.BoolOp .And [x, y] pos) (.and t u) := by
  intro env A s n U ρ Q E H hQ
  refine wpAny_isTrue_BoolOp (wpAny_allTrue_And_cons (wpAny_mono (gx env A s n U ρ _ E H hQ) (fun c s₁ h₁ => ?_) fun _ _ h => h))
  obtain ⟨n₁, k₁, q₁⟩ := h₁
  cases c with
  | true =>
    rw [if_pos rfl]
    refine wpAny_allTrue_And_cons (wpAny_mono (gy env A s₁ n₁ U ρ _ E (H.step ok k₁) q₁) (fun c s₂ h₂ => ?_) fun _ _ h => h)
    obtain ⟨n₂, k₂, q₂⟩ := h₂
    cases c with
    | true => rw [if_pos rfl]; exact wpAny_allTrue_And_nil ⟨n₂, k₁.trans k₂, q₂⟩
    | false => rw [if_neg Bool.false_ne_true]; exact ⟨n₂, k₁.trans k₂, q₂⟩
  | false => rw [if_neg Bool.false_ne_true]; exact ⟨n₁, k₁, q₁⟩
theorem goodT_Or (ok : BxOk b) {x y : Expr} {pos : Pos} {t u : Ts} (gx : GoodT prog w b h0 D S sc x t) (gy : GoodT prog w b h0 D S sc y u) : GoodT prog w b h0 D S sc (.BoolOp .Or [x, y] pos) (.or t u) := by
  intro env A s n U ρ Q E H hQ
  refine wpAny_isTrue_BoolOp (wpAny_allTrue_Or_cons (wpAny_mono (gx env A s n U ρ _ E H hQ) (fun c s₁ h₁ => ?_) fun _ _ h => h))
  obtain ⟨n₁, k₁, q₁⟩ := h₁
  cases c with
  | false =>
    rw [if_neg Bool.false_ne_true]
    refine wpAny_allTrue_Or_cons (wpAny_mono (gy env A s₁ n₁ U ρ _ E (H.step ok k₁) q₁) (fun c s₂ h₂ => ?_) fun _ _ h => h)
    obtain ⟨n₂, k₂, q₂⟩ := h₂
    cases c with
    | false => rw [if_neg Bool.false_ne_true]; exact wpAny_allTrue_Or_nil ⟨n₂, k₁.trans k₂, q₂⟩
    | true => rw [if_pos rfl]; exact ⟨n₂, k₁.trans k₂, q₂⟩
  | true => rw [if_pos rfl]; exact ⟨n₁, k₁, q₁⟩
theorem goodR_of {e : Expr} {x : Ex} (g : GoodE prog w b h0 D S sc e x) : GoodR prog w b h0 D S sc e (.of x) := by
  intro env A s n U ρ Q E H hQ
  refine wpAny_mono (g env A s n U ρ _ E H hQ) (fun v s₁ h₁ => ?_) fun _ _ h => h
  obtain ⟨p, n₁, k₁, r₁, q₁⟩ := h₁
  exact ⟨p, n₁, k₁, .inl r₁, q₁⟩
theorem goodR_var {x : Str} {pos : Pos} {i : Nat} (hd : (x == ("__debug__" : Str)) = false) (e : cVar sc x = some i) : GoodR prog w b h0 D S sc (.Name x pos) (.var i) := by
  intro env A s n U ρ Q E H hQ
  unfold rdP at hQ
  split at hQ
  · rename_i p hp
    obtain ⟨v, h1, h2⟩ := H.ee.at x i (cVar_some e).1 (.val p) (by unfold varAt; rw [hp]; rfl)
    exact name_var H.es hd e h1 ⟨p, n, SS.refl H.hy.inv, .inl h2, hQ⟩
  · rename_i l hp
    obtain ⟨v, h1, a, vs, rfl, hb, _, h2, h3⟩ := H.ee.at x i (cVar_some e).1 (.own l) (by unfold varAt; rw [hp]; rfl)
    exact name_var H.es hd e h1 ⟨.d (.list l), n, SS.refl H.hy.inv, .inr ⟨l, a, vs, rfl, rfl, hb.1, h2, h3⟩, hQ⟩
  · exact hQ.elim
end

section
variable {prog : Program} {w : World} {b : Bx} {fns : List (Str × Addr)} {h0 : Heap} {D : Nat} {S : Spec} {sc : Sc} {env : Env} {A : Around} {s : Shared} {n : Nat} {U : Addr → Prop} {E : Value → Shared → Prop}

section
variable {U : Addr → Prop} {h h' : Heap}
theorem repV_grow {U' : Addr → Prop} (hU : ∀ a, U' a → U a ∨ h.get? a = none) (k : ∀ a o, h.get? a = some o → h'.get? a = some o) {v : Value} {p : PV} (r : RepV b h U v p) : RepV b h' U' v p := by
  cases p with
  | d x => exact (RepD.more hU r).keep k
  | fn a => exact r
  | bench => exact r
end

theorem evalArgs_trees {f : Value} {trees : List (Bool × Sem Value)} {Q : Args → Shared → Prop} (hp : trees.any (·.1) = false) (h : wpAny (model prog w) A (spliced trees) (fun vs s' => Q ⟨vs, []⟩ s') E s) :
    wpAny (model prog w) A (evalArgs f true trees []) Q E s := by
  cases trees with
  | nil =>
    unfold evalArgs
    show wpAny _ A (spliced [] >>= _) Q E s
    refine wpAny_bind (wpAny_mono h (fun vs s' q => wpAny_bind (wpAny_pure ?_)) fun _ _ e => e)
    refine wpAny_holding ?_
    refine wpAny_bind (wpAny_pure (wpAny_bind (wpAny_pure (wpAny_pure ?_))))
    exact q
  | cons x r =>
    obtain ⟨c, t⟩ := x
    have hc : c = false := by
      rw [List.any_cons] at hp
      cases c with
      | false => rfl
      | true => simp at hp
    subst hc
    exact evalArgs_plain h

noncomputable def NoStar (es : List Expr) : Prop := ∀ e ∈ es, ∀ x p, e ≠ .Starred x p
theorem trees_plain {es : List Expr} (h : NoStar es) (pos : Pos) (env : Env) : (backTo pos (starEach es env)).any (·.1) = false := by
  induction es with
  | nil => rfl
  | cons e r ih =>
    rw [starEach_plain (h e (.head _))]
    show (false || (backTo pos (starEach r env)).any (·.1)) = false
    rw [ih fun e he => h e (.tail _ he)]; rfl
theorem exsOf_nostar {es : List Expr} {sc : Sc} {l : ExL} (h : exsOf (cAs fns es sc) = some l) : NoStar es := by
  induction es generalizing l with
  | nil => intro e he; cases he
  | cons e r ih =>
    obtain ⟨x, hx, h⟩ := bd_inv (show ((cA fns e sc).ex.bind fun e => (exsOf (cAs fns r sc)).map fun l => .cons e l) = some l from h)
    obtain ⟨l', hl, rfl⟩ := mp_inv h
    intro e' he
    cases he with
    | head => exact notStar hx
    | tail _ he => exact ih hl e' he


theorem call_of (ok : BxOk b) {f : Value} {es : List Expr} {l : ExL} {pos : Pos} {ρ : REnv} {P : Heap → Prop} {Q : Value → Shared → Prop} {Q' : List PV → Nat → Prop}
    (hP : ∀ h, P h → ∃ k, (k = Keeper.frame ∨ k = Keeper.machine ∨ k = Keeper.boundFrame) ∧ Looks (model prog w) h (keeperOf f) k)
    (hs : NoStar es) (g : GoodL prog w b h0 D S sc es l) (H : HH b h0 D sc env A s n U ρ) (hQ : evLP S l ρ n Q')
    (h : ∀ vs ps n' s', SS b n n' s s' → RepVs b s'.heap U vs ps → Q' ps n' → P s'.heap ∧ wpAny (model prog w) A (call f vs) Q E s') :
    wpAny (model prog w) A (callWith pos f [] (backTo pos (starEach es env)) []) Q E s := by
  refine callWith_of (by rw [trees_plain hs]; rfl) hP (evalArgs_trees (trees_plain hs pos env) (wpAny_mono (g pos env A s n U ρ _ E H hQ) (fun vs s' h' => ?_) fun _ _ e => e))
  obtain ⟨ps, n', k', r, _, q⟩ := h'
  exact h vs ps n' s' k' r q

theorem good_Tuple (ok : BxOk b) {es : List Expr} {l : ExL} {k : Nat} {pos : Pos} (hl : es.length < 1000) (g : GoodL prog w b h0 D S sc es l) : GoodE prog w b h0 D S sc (.Tuple es k pos) (.tup l) := by
  intro env A s n U ρ Q E H hQ
  refine wpAny_Tuple (wpAny_mono (g pos env A s n U ρ _ E H hQ) (fun vs s₁ h₁ => ?_) fun _ _ h => h)
  obtain ⟨ps, n₁, k₁, r₁, hv, q₁⟩ := h₁
  split at q₁
  · rename_i ys hy
    exact ⟨line_of (by (first | lia | omega)), evPost_of k₁ (op_newtup (tk := s₁.toks) ok (H.hy.stepS ok k₁) (r₁.dats hy) q₁)⟩
  · exact q₁.elim
/-- a list display: a new list -/
theorem disp_List (ok : BxOk b) {es : List Expr} {l : ExL} {pos : Pos} {ρ : REnv} {Q : List PV → Nat → Prop} (hl : es.length < 1000) (g : GoodL prog w b h0 D S sc es l) (H : HH b h0 D sc env A s n U ρ) (hQ : evLP S l ρ n Q) :
    wpAny (model prog w) A (eval (.List es pos) env) (fun v s' => ∃ a vs ps n', v = .ref a ∧ s.heap.get? a = none ∧ SS b n n' s s' ∧ s'.heap.get? a = some { cls := .type "list", data := .seq (List.toArray vs) 0 } ∧ RepVs b s'.heap (fun x => U x ∨ x = a) vs ps ∧ Q ps n') E s := by
  refine wpAny_List (wpAny_mono (g pos env A s n U ρ _ E H hQ) (fun vs s₁ h₁ => ?_) fun _ _ h => h)
  obtain ⟨ps, n₁, k₁, r₁, hv, q₁⟩ := h₁
  have hk : SS b n₁ n₁ s₁ { s₁ with heap := s₁.heap.push { cls := .type "list", data := .seq vs.toArray } } := SS.of (tk := s₁.toks) ok k₁.inv (push_keep _ _)
  refine ⟨line_of (by (first | lia | omega)), _, vs, ps, n₁, rfl, ?_, k₁.trans hk, Heap.get?_push_size _ rfl, RepVs.keep (fun v p r => repV_grow (fun a h => h.imp id fun h => by rw [h]; exact get_size _) (push_keep _ _) r) r₁, q₁⟩
  cases e : s.heap.get? s₁.heap.objs.size with
  | none => rfl
  | some o =>
    by_cases hb : b.set s₁.heap.objs.size
    · obtain ⟨o', e', _⟩ := ok.there n₁ s₁.heap _ k₁.inv hb
      rw [get_size] at e'; cases e'
    · have := k₁.get hb e
      rw [get_size] at this; cases this
theorem good_List (ok : BxOk b) {es : List Expr} {l : ExL} {pos : Pos} (hl : es.length < 1000) (g : GoodL prog w b h0 D S sc es l) : GoodE prog w b h0 D S sc (.List es pos) (.lst l) := by
  intro env A s n U ρ Q E H hQ
  refine wpAny_mono (disp_List ok hl g H hQ) (fun v s₁ h₁ => ?_) fun _ _ h => h
  obtain ⟨a, vs, ps, n₁, rfl, hf, k₁, e₁, r₁, q₁⟩ := h₁
  split at q₁
  · rename_i ys hy
    exact ⟨.d (.list ys), n₁, k₁, RepD.list e₁ rfl rfl (H.hy.fresh hf) ((r₁.dats hy).mono fun _ => .inl), q₁⟩
  · exact q₁.elim
theorem goodF_List (ok : BxOk b) {es : List Expr} {l : ExL} {pos : Pos} (hl : es.length < 1000) (g : GoodL prog w b h0 D S sc es l) : GoodF prog w b h0 D S sc (.List es pos) (.lst l) := by
  intro env A s n U ρ Q E H hQ
  refine wpAny_mono (disp_List ok hl g H hQ) (fun v s₁ h₁ => ?_) fun _ _ h => h
  obtain ⟨a, vs, ps, n₁, rfl, hf, k₁, e₁, r₁, q₁⟩ := h₁
  split at q₁
  · rename_i ys hy
    exact ⟨a, vs, ys, n₁, rfl, hf, k₁, ⟨0, e₁⟩, r₁.dats hy, q₁⟩
  · exact q₁.elim

/-- a display times a number: a new list -/
theorem goodF_Rep (ok : BxOk b) {es : List Expr} {l : ExL} {r : Expr} {y : Ex} {lp pos : Pos} (hl : es.length < 1000) (g : GoodL prog w b h0 D S sc es l) (gr : GoodE prog w b h0 D S sc r y) : GoodF prog w b h0 D S sc (.BinOp (.List es lp) .Mult r pos) (.rep l y) := by
  intro env A s n U ρ Q E H hQ
  refine wpAny_BinOp (wpAny_mono (disp_List ok hl g H hQ) (fun v s₁ h₁ => ?_) fun _ _ h => h)
  obtain ⟨a, vs, ps, n₁, rfl, hf, k₁, e₁, r₁, q₁⟩ := h₁
  refine wpAny_mono (gr env A s₁ n₁ U ρ _ E (H.step ok k₁) q₁) (fun v₂ s₂ h₂ => ?_) fun _ _ h => h
  obtain ⟨p₂, n₂, k₂, r₂, q₂⟩ := h₂
  have H₁ := H.hy.stepS ok k₁
  have H₂ := H₁.stepS ok k₂
  split at q₂
  · rename_i xs hx
    have e₂ := k₂.get (fun hb => H.hy.fresh hf (H.hy.sub a hb)) e₁
    have rl := ((RepVs.dats r₁ hx).mono fun _ => .inl).stepS ok H₁ k₂
    have back : ∀ a', s₂.heap.get? a' = none → s.heap.get? a' = none := fun a' ha => by
      cases e : s.heap.get? a' with
      | none => rfl
      | some o =>
        by_cases hb : b.set a'
        · obtain ⟨o', e', _⟩ := ok.there n₂ s₂.heap _ k₂.inv hb
          rw [ha] at e'; cases e'
        · have := (k₁.trans k₂).get hb e
          rw [ha] at this; cases this
    obtain ⟨c, rfl, q₂⟩ := int1_inv q₂
    · obtain ⟨u, rfl⟩ := RepD.int_inv r₂
      obtain ⟨h1, h2, h3, q⟩ := q₂
      have hl := rl.length
      have hne : vs.toArray.isEmpty = false := by
        cases vs with
        | nil => simp at hl; (first | lia | omega)
        | cons v vs => rfl
      have hsz : vs.toArray.size * c.toNat ≤ 2 ^ 24 := by
        rw [List.size_toArray, hl, h3, Nat.one_mul]; (first | lia | omega)
      refine wpAny_binaryOp_repeat_ref (T := "list") (U := "int") (by decide) ⟨_, e₂, rfl⟩ (fun s' => typeIs_int s' c u) noFill_list_mul PySem.F.fills_int_mul PySem.F.slot_int_rmul repeat_list PySem.F.slot_int_index.lookup
        (call_meets PySem.F.slot_int_rmul (typeIs_int s₂ c u) PySem.F.entry_int_rmul (PySem.F.args_int_rmul_2 _ _) (int___rmul___int_list c u a vs.toArray 0)
          ⟨e₂, rfl, ⟨_, e₂, rfl⟩, call_meets PySem.F.slot_list_mul ⟨_, e₂, rfl⟩ PySem.F.entry_list_mul (PySem.F.args_list_mul_2 _ _)
            (AutoListH.list___mul___list_int_3 a vs.toArray 0 c u (by simp [Builtin.List.listFitsIndex]; (first | lia | omega)) (by (first | lia | omega)) (by simp only [Builtin.List.listTooLong, sizeLine]; simp; omega))
            ⟨e₂, ?_⟩⟩)
      rw [hne]
      simp only [Bool.false_eq_true, if_false, listMul_foldl]
      have e' : (([] : List Value) ++ (List.replicate c.toNat vs).flatten) = (List.replicate c.toNat vs).flatten := rfl
      exact ⟨_, _, _, n₂, rfl, back _ (get_size _), (k₁.trans k₂).trans (SS.of ok k₂.inv (push_keep _ _)), ⟨0, Heap.get?_push_size _ rfl⟩, ((rl.flat c.toNat).more fun a h => h.imp id fun h => by rw [h]; exact get_size _).keep (push_keep _ _), q⟩
  · exact q₂.elim
theorem GoodF.e {e : Expr} {x : Ex} (g : GoodF prog w b h0 D S sc e x) : GoodE prog w b h0 D S sc e x := by
  intro env A s n U ρ Q E H hQ
  refine wpAny_mono (g env A s n U ρ Q E H hQ) (fun v s₁ h₁ => ?_) fun _ _ h => h
  obtain ⟨a, vs, xs, n₁, rfl, hf, k₁, ⟨k, e₁⟩, r₁, q₁⟩ := h₁
  exact ⟨.d (.list xs), n₁, k₁, RepD.list e₁ rfl rfl (H.hy.fresh hf) (r₁.mono fun _ => .inl), q₁⟩

theorem toNat_get {xs : List PyData} {k : Int} {y : PyData} (h1 : -(xs.length : Int) ≤ k) (h2 : k < xs.length) (e : xs[(if k < 0 then k + xs.length else k).toNat]? = some y) {vs : List Value} (hl : vs.length = xs.length) :
    seqIndex? k vs.toArray.size = some (if k < 0 then k + xs.length else k).toNat := by
  unfold seqIndex?
  rw [List.size_toArray, hl]
  have : (decide (0 ≤ (if k < 0 then k + (xs.length : Int) else k)) && decide ((if k < 0 then k + (xs.length : Int) else k) < (xs.length : Int))) = true := by
    simp only [Bool.and_eq_true, decide_eq_true_eq]
    split <;> (first | lia | omega)
  simp only [this, if_true]

theorem idx_ok {x i : PV} {vx vi : Value} {slice value : Expr} {Q : PV → Prop} (hsl : ∀ o i, subscripted slice false o i = operate [o, i] (getItem o i)) (H : Hy b h0 n U s.heap) (rx : RepR b s.heap U vx x) (ri : RepV b s.heap U vi i) (q : idxP x i Q) :
    wpAny (model prog w) A (subscriptTail value slice vx vi) (OpPost b U n s Q) E s := by
  obtain ⟨k, rfl, q⟩ := int1_inv q
  obtain ⟨u, rfl⟩ := RepD.int_inv ri
  rcases q with q | q
  · obtain ⟨l, rfl, h1, h2, h3, y, hy, q⟩ := list1_inv q
    have hL : ∃ a vs, vx = .ref a ∧ s.heap.IsList a (List.toArray vs) ∧ RepL s.heap U vs l := by
      rcases rx with rx | ⟨l', a, vs, e1, e2, _, ⟨kk, e3⟩, r⟩
      · obtain ⟨a, o, vs, kk, rfl, e1, c1, d1, _, r⟩ := RepD.list_inv rx
        exact ⟨a, vs, rfl, ⟨o, e1, c1, kk, d1⟩, r⟩
      · cases e1
        exact ⟨a, vs, e2, ⟨_, e3, rfl, kk, rfl⟩, r⟩
    obtain ⟨a, vs, rfl, hL, r⟩ := hL
    obtain ⟨v, hv, rv⟩ := r.get hy
    refine tail_any hL.typeIs slot_list_getitem.lookup ?_ (hsl _ _)
    have hlen := r.length
    by_cases hk : k < 0
    · rw [if_pos hk] at hv
      exact wpAny_getItem_list_neg hL hk (by rw [List.size_toArray, hlen]; exact h1) (by (first | lia | omega)) (by rw [List.size_toArray, hlen]; simpa using hv) (op_same (p := .d y) (tk := s.toks) H rv q)
    · rw [if_neg hk] at hv
      exact wpAny_getItem_list hL (by (first | lia | omega)) (by (first | lia | omega)) (by simpa using hv) (op_same (p := .d y) (tk := s.toks) H rv q)
  · obtain ⟨l, rfl, h1, h2, h3, y, hy, q⟩ := tup1_inv q
    have rx : RepV b s.heap U vx (.d (.tuple l)) := by
      rcases rx with rx | ⟨l', a, vs, e1, e2, _, ⟨kk, e3⟩, r⟩
      · exact rx
      · cases e1
    obtain ⟨a, o, vs, kk, rfl, e1, c1, d1, _, r⟩ := RepD.tuple_inv rx
    obtain ⟨v, hv, rv⟩ := r.get hy
    have hT : IsTup s.heap a vs.toArray := ⟨o, e1, c1, kk, d1⟩
    have hlen := r.length
    refine tail_any hT.typeIs slot_tuple_getitem.lookup (PyProof.Rows.getItem_tuple hT (by (first | lia | omega)) (by (first | lia | omega)) (toNat_get h1 h2 hy hlen) (by simpa using hv) (op_same (p := .d y) (tk := s.toks) H rv q)) (hsl _ _)
end

section
variable {prog : Program} {w : World} {b : Bx} {fns : List (Str × Addr)} {h0 : Heap} {D : Nat} {S : Spec} {sc : Sc} {env : Env} {A : Around} {s : Shared} {n : Nat} {U : Addr → Prop} {E : Value → Shared → Prop}

theorem good_Idx (ok : BxOk b) {v i : Expr} {pos : Pos} {x : Rd} {y : Ex} (hsl : ∀ o j, subscripted i false o j = operate [o, j] (getItem o j)) (gv : GoodR prog w b h0 D S sc v x) (gi : GoodE prog w b h0 D S sc i y) : GoodE prog w b h0 D S sc (.Subscript v i pos) (.idx x y) := by
  intro env A s n U ρ Q E H hQ
  refine Subscript_ (wpAny_mono (gv env A s n U ρ _ E H hQ) (fun v s₁ h₁ => ?_) fun _ _ h => h)
  obtain ⟨p, n₁, k₁, r₁, q₁⟩ := h₁
  refine wpAny_mono (gi env A s₁ n₁ U ρ _ E (H.step ok k₁) q₁) (fun v₂ s₂ h₂ => ?_) fun _ _ h => h
  obtain ⟨p₂, n₂, k₂, r₂, q₂⟩ := h₂
  have H₁ := H.hy.stepS ok k₁
  exact wpAny_mono (idx_ok hsl (H₁.stepS ok k₂) (r₁.stepS ok H₁ k₂) r₂ q₂) (fun v₃ s₃ h₃ => evPost_of (k₁.trans k₂) h₃) fun _ _ h => h

theorem looks_machine {f : Value} (h : ∀ a, f ≠ .ref a) : ∀ hp : Heap, True → ∃ k, (k = Keeper.frame ∨ k = Keeper.machine ∨ k = Keeper.boundFrame) ∧ Looks (model prog w) hp (keeperOf f) k := fun hp _ =>
  ⟨.machine, .inr (.inl rfl), Looks.of_pure (by cases f <;> first | rfl | exact absurd rfl (h _))⟩

theorem sum_ints {h : Heap} {U : Addr → Prop} : ∀ {vs : List Value} {l : List PyData} {i : Int}, RepL h U vs l → sumOf l = some i → (∀ v, v ∈ vs.toArray → ∃ a t, v = .int a t) ∧ (numsOf vs).sum = i
  | [], [], i, _, e => by cases e; exact ⟨fun v hv => by simp at hv, rfl⟩
  | vs, x :: l, i, r, e => by
    obtain ⟨v, r', rfl, r1, r2⟩ := r.inv
    cases x with
    | int a =>
      obtain ⟨t, rfl⟩ := RepD.int_inv r1
      unfold sumOf at e
      obtain ⟨j, hj, rfl⟩ := Option.map_eq_some_iff.mp e
      obtain ⟨h1, h2⟩ := sum_ints r2 hj
      refine ⟨fun v hv => ?_, ?_⟩
      · have hv' : v = .int a t ∨ v ∈ r' := by simpa using hv
        rcases hv' with rfl | hv'
        · exact ⟨a, t, rfl⟩
        · exact h1 v (by simpa using hv')
      · show (a :: numsOf r').sum = a + j
        rw [List.sum_cons, h2]
    | _ => simp [sumOf] at e
  | v :: vs, [], i, r, _ => by have := r.length; simp at this

theorem bi_ok (ok : BxOk b) {D : Nat} (hA : Rm A D) {k : Bi} {vs : List Value} {ps : List PV} {Q : PV → Prop} (H : Hy b h0 n U s.heap) (r : RepVs b s.heap U vs ps) (q : biP k ps Q) :
    wpAny (model prog w) A (call (bkVal (.bi k)) vs) (OpPost b U n s Q) E s := by
  have one : ∀ {F : PV → Prop}, arg1 ps F → ∃ v x, vs = [v] ∧ RepV b s.heap U v x ∧ F x := fun {F} q => by
    match ps, q, vs, r with
    | [x], q, [v], r => exact ⟨v, x, rfl, r.1, q⟩
  cases k
  · obtain ⟨v, x, rfl, r, q⟩ := one q
    obtain ⟨l, rfl, q⟩ := list1_inv q
    obtain ⟨a, o, us, kk, rfl, e1, c1, d1, _, r1⟩ := RepD.list_inv r
    have hl := r1.length
    refine call_len_list (items := us.toArray) ⟨o, e1, c1, kk, d1⟩ (by rw [List.size_toArray, hl]; (first | lia | omega)) ?_
    rw [List.size_toArray, hl]
    exact op_int H q.2
  · obtain ⟨v, x, rfl, r, q⟩ := one q
    obtain ⟨a, rfl, q⟩ := int1_inv q
    obtain ⟨t, rfl⟩ := RepD.int_inv r
    exact call_abs_int fun u tk => op_int H q
  · obtain ⟨v, x, rfl, r, q⟩ := one q
    rcases q with q | q
    · obtain ⟨a, rfl, q⟩ := int1_inv q
      obtain ⟨t, rfl⟩ := RepD.int_inv r
      exact call_int_int (op_int (tk := s.toks) H q)
    · obtain ⟨a, rfl, q⟩ := bool1_inv q
      obtain rfl := RepD.bool_inv r
      exact call_int_bool (op_int H q)
  · have two : ∀ {F : PV → PV → Prop}, arg2 ps F → ∃ v u x y, vs = [v, u] ∧ RepV b s.heap U v x ∧ RepV b s.heap U u y ∧ F x y := fun {F} q => by
      match ps, q, vs, r with
      | [x, y], q, [v, u], r => exact ⟨v, u, x, y, rfl, r.1, r.2.1, q⟩
    obtain ⟨v, u, x, y, rfl, r1, r2, q0⟩ := two q
    · obtain ⟨a, c, rfl, rfl, q1⟩ := int2_inv q0
      obtain ⟨t, rfl⟩ := RepD.int_inv r1
      obtain ⟨t', rfl⟩ := RepD.int_inv r2
      refine max_two_ints hA.handled fun h' tk hk => ?_
      by_cases hc : c > a
      · rw [if_pos hc] at q1 ⊢
        exact ⟨dI c, SS.of ok H.inv hk, RepD.int _ _, q1⟩
      · rw [if_neg hc] at q1 ⊢
        exact ⟨dI a, SS.of ok H.inv hk, RepD.int _ _, q1⟩
  · obtain ⟨v, x, rfl, r, q⟩ := one q
    obtain ⟨l, rfl, h1, i, hi, q⟩ := list1_inv q
    obtain ⟨a, o, us, kk, rfl, e1, c1, d1, _, r1⟩ := RepD.list_inv r
    obtain ⟨h2, h3⟩ := sum_ints r1 hi
    obtain ⟨xs, hx⟩ := AllInts.items (vs := us.toArray) h2
    have hL : s.heap.IsList a us.toArray := ⟨o, e1, c1, kk, d1⟩
    rw [hx] at hL
    refine sum_intListG hA.handled hL fun h' tk t' hk => ?_
    have e : preSum (numAt xs) xs.size = i := by
      rw [preSum_eq, List.take_of_length_le (by simp), ← nums_intItems, ← hx]
      exact h3
    rw [e]
    exact ⟨dI i, SS.of ok H.inv hk, RepD.int _ _, q⟩

theorem good_Bi (ok : BxOk b) (G : Grd fns h0) {x : Str} {np pos : Pos} {k : Bi} {es : List Expr} {l : ExL} (hd : (x == ("__debug__" : Str)) = false) (e : cBi sc x = some (.bi k)) (hs : NoStar es) (g : GoodL prog w b h0 D S sc es l) :
    GoodE prog w b h0 D S sc (.Call (.Name x np) es [] pos) (.bi k l) := by
  intro env A s n U ρ Q E H hQ
  refine wpAny_Call_NameR (name_bi G H.hy.base H.es hd e ?_)
  refine call_of ok (looks_machine (by intro a; cases k <;> simp [bkVal])) hs g H hQ fun vs ps n' s' k' r q => ⟨trivial, ?_⟩
  exact wpAny_mono (bi_ok ok H.rm (H.hy.stepS ok k') r q) (fun v₃ s₃ h₃ => evPost_of k' h₃) fun _ _ h => h

theorem good_Call (ok : BxOk b) (G : Grd fns h0) (F : FnOk prog w b h0 D S) (hfn : ∀ a ps n Q, S a ps n Q → ∃ o fd, h0.get? a = some o ∧ o.data = .func fd) {x : Str} {np pos : Pos} {f : Ex} {es : List Expr} {l : ExL} (gf : GoodE prog w b h0 D S sc (.Name x np) f) (hs : NoStar es) (g : GoodL prog w b h0 D S sc es l) :
    GoodE prog w b h0 D S sc (.Call (.Name x np) es [] pos) (.call f l) := by
  intro env A s n U ρ Q E H hQ
  refine wpAny_Call_NameR (wpAny_mono (gf env A s n U ρ _ E H hQ) (fun v s₁ h₁ => ?_) fun _ _ h => h)
  obtain ⟨p, n₁, k₁, r₁, q₁⟩ := h₁
  have H₁ := H.step ok k₁
  cases p with
  | fn a =>
    have hv : v = .ref a := r₁
    subst hv
    refine call_of ok (P := fun hp => ∃ o fd, hp.get? a = some o ∧ o.data = .func fd) (fun hp ⟨o, fd, e1, e2⟩ => ⟨.frame, .inl rfl, keeper_fn e1 e2⟩) hs g H₁ q₁ fun vs ps n' s' k' r q => ?_
    have H₂ := H₁.hy.stepS ok k'
    obtain ⟨o, fd, e1, e2⟩ := hfn a ps n' Q q
    refine ⟨⟨o, fd, H₂.base _ _ e1, e2⟩, ?_⟩
    refine wpAny_mono (F a ps n' Q q A s' vs U E H.rm H₂ r) (fun v₃ s₃ h₃ => ?_) fun _ _ h => h
    obtain ⟨p₃, n₃, k₃, r₃, q₃⟩ := h₃
    exact ⟨p₃, n₃, (k₁.trans k').trans k₃, r₃, q₃⟩
  | d y =>
    refine call_of ok (P := fun hp => False) (fun hp h => h.elim) hs g H₁ q₁ fun vs ps n' s' k' r q => ?_
    exact (show False from q).elim
  | bench =>
    refine call_of ok (P := fun hp => False) (fun hp h => h.elim) hs g H₁ q₁ fun vs ps n' s' k' r q => ?_
    exact (show False from q).elim

theorem good_Bits (ok : BxOk b) {o : Expr} {ap pos : Pos} {x : Ex} (ho : notCallName o = true) (hline : (ap.endLine == pos.line) = true) (g : GoodE prog w b h0 D S sc o x) : GoodE prog w b h0 D S sc (.Call (.Attribute o "bit_length" ap) [] [] pos) (.bits x) := by
  intro env A s n U ρ Q E H hQ
  refine wpAny_Call_method0_late ?_ hline (wpAny_mono (g env A s n U ρ _ E H hQ) (fun v s₁ h₁ => ?_) fun _ _ h => h)
  · cases o <;> first | rfl | exact absurd ho Bool.false_ne_true
  · obtain ⟨p, n₁, k₁, r₁, q₁⟩ := h₁
    obtain ⟨a, rfl, q₁⟩ := int1_inv q₁
    · obtain ⟨t, rfl⟩ := RepD.int_inv r₁
      refine ⟨"int", "int.bit_length", PySem.F.plainAttrs_int, slot_int_bit_length, type_int_bit_length, rfl, (fun _ h => nomatch h), ?_⟩
      refine Calls.callWith_builtin rfl (evalArgs_nil3 ?_)
      exact call_int_bit_length (evPost_of k₁ (op_int (H.hy.stepS ok k₁) q₁))

noncomputable def GoodO (prog : Program) (w : World) (b : Bx) (h0 : Heap) (D : Nat) (S : Spec) (sc : Sc) (e : Option Expr) (x : ExO) : Prop :=
  ∀ env A s n U ρ Q E, HH b h0 D sc env A s n U ρ → evOP S x ρ n Q → wpAny (model prog w) A (evalPart e env) (fun v s' => ∃ p n', SS b n n' s s' ∧ (match p with | none => v = .none | some p => RepV b s'.heap U v p) ∧ Q p n') E s
theorem goodO_none : GoodO prog w b h0 D S sc none .no := fun env A s n U ρ Q E H hQ => by
  exact wpAny_evalPart_none ⟨none, n, SS.refl H.hy.inv, rfl, hQ⟩
theorem goodO_some {e : Expr} {x : Ex} (g : GoodE prog w b h0 D S sc e x) : GoodO prog w b h0 D S sc (some e) (.so x) := fun env A s n U ρ Q E H hQ => by
  refine wpAny_evalPart_some (wpAny_mono (g env A s n U ρ _ E H hQ) (fun v s₁ h₁ => ?_) fun _ _ h => h)
  obtain ⟨p, n₁, k₁, r₁, q₁⟩ := h₁
  exact ⟨some p, n₁, k₁, r₁, q₁⟩

theorem slc_end (ok : BxOk b) {n₁ : Nat} {s₁ : Shared} {vs ws : List Value} {ys : List PyData} {vl vu : Value} {items : Array Value} {Q : PV → Nat → Prop} {H : Hy b h0 n₁ U s₁.heap} (k : SS b n n₁ s s₁) (e : items = ws.toArray) (r : RepL s₁.heap U ws ys) (q : Q (.d (.list ys)) n₁) :
    EvPost b U n s Q (.ref (s₁.heap.objs.size + 1)) { s₁ with heap := (s₁.heap.push { cls := .type "slice", data := .fields #[vl, vu, .none] }).push { cls := .type "list", data := .seq items } } := by
  subst e
  have hk : ∀ a o, s₁.heap.get? a = some o → ((s₁.heap.push { cls := .type "slice", data := .fields #[vl, vu, .none] }).push { cls := .type "list", data := .seq ws.toArray }).get? a = some o := fun a o e => Heap.get?_push_of_some _ (Heap.get?_push_of_some _ e)
  have hsz : (s₁.heap.push { cls := .type "slice", data := .fields #[vl, vu, .none] }).objs.size = s₁.heap.objs.size + 1 := Heap.size_push ..
  have hn : s₁.heap.get? (s₁.heap.objs.size + 1) = none := by
    cases e : s₁.heap.get? (s₁.heap.objs.size + 1) with
    | none => rfl
    | some o => exact absurd (Heap.lt_size e) (Nat.not_lt.mpr (Nat.le_succ _))
  refine ⟨.d (.list ys), n₁, k.trans (SS.of (tk := s₁.toks) ok k.inv hk), ?_, q⟩
  refine RepD.list (o := { cls := .type "list", data := .seq ws.toArray }) ?_ rfl rfl (H.fresh hn) (r.keep hk)
  have := Heap.get?_push_size (s₁.heap.push { cls := .type "slice", data := .fields #[vl, vu, .none] }) (o := { cls := .type "list", data := .seq ws.toArray }) rfl
  rw [hsz] at this
  exact this

theorem good_Slc (ok : BxOk b) {ve : Expr} {lo hi : Option Expr} {sp pos : Pos} {x : Ex} {l h : ExO} (gv : GoodE prog w b h0 D S sc ve x) (gl : GoodO prog w b h0 D S sc lo l) (gh : GoodO prog w b h0 D S sc hi h) : GoodE prog w b h0 D S sc (.Subscript ve (.Slice lo hi none sp) pos) (.slc x l h) := by
  intro env A s n U ρ Q E H hQ
  refine Subscript_ (wpAny_mono (gv env A s n U ρ _ E H hQ) (fun v s₁ h₁ => ?_) fun _ _ h => h)
  obtain ⟨p, n₁, k₁, r₁, q₁⟩ := h₁
  have H₁ := H.step ok k₁
  refine wpAny_Slice (wpAny_mono (gl env A s₁ n₁ U ρ _ E H₁ q₁) (fun v₂ s₂ h₂ => ?_) fun _ _ h => h)
  obtain ⟨p₂, n₂, k₂, r₂, q₂⟩ := h₂
  have H₂ := H₁.step ok k₂
  refine wpAny_mono (gh env A s₂ n₂ U ρ _ E H₂ q₂) (fun v₃ s₃ h₃ => wpAny_evalPart_none ?_) fun _ _ h => h
  obtain ⟨p₃, n₃, k₃, r₃, q₃⟩ := h₃
  have H₃ := H₂.step ok k₃
  have rx := RepV.stepS ok H₂.hy k₃ (RepV.stepS ok H₁.hy k₂ r₁)
  have kk := (k₁.trans k₂).trans k₃
  have tail : ∀ {a : Addr} {o : Obj} {us : List Value} {m : Nat} {lo' hi' : Option Int} {ws : List Value} {ys : List PyData}, s₃.heap.get? a = some o → o.cls = .type "list" → o.data = .seq us.toArray m → us.length ≤ 2 ^ 20 → IsPart v₂ lo' → IsPart v₃ hi' →
      slicePick us.toArray lo' hi' none = ws.toArray → RepL s₃.heap U ws ys → Q (.d (.list ys)) n₃ →
      wpAny (model prog w) A (subscriptTail ve (.Slice lo hi none sp) (.ref a) (.ref s₃.heap.objs.size)) (EvPost b U n s Q) E { s₃ with heap := s₃.heap.push { cls := .type "slice", data := .fields #[v₂, v₃, .none] } } := by
    intro a o us m lo' hi' ws ys e1 c1 d1 hl p1 p2 e r q
    have hL : (s₃.heap.push { cls := .type "slice", data := .fields #[v₂, v₃, .none] }).IsList a us.toArray := ⟨o, Heap.get?_push_of_some _ e1, c1, m, d1⟩
    refine tail_any (s := { s₃ with heap := s₃.heap.push { cls := .type "slice", data := .fields #[v₂, v₃, .none] } }) hL.typeIs slot_list_getitem.lookup ?_ rfl
    refine wpAny_getItem_list_slice (s := { s₃ with heap := s₃.heap.push { cls := .type "slice", data := .fields #[v₂, v₃, .none] } }) hL ⟨_, Heap.get?_push_size _ rfl, rfl, rfl⟩ p1 p2 .none (by simp) ?_ (by rw [List.size_toArray]; exact line_of (by (first | lia | omega)))
    have hsz : (s₃.heap.push { cls := .type "slice", data := .fields #[v₂, v₃, .none] }).objs.size = s₃.heap.objs.size + 1 := Heap.size_push ..
    show EvPost b U n s Q (.ref (s₃.heap.push { cls := .type "slice", data := .fields #[v₂, v₃, .none] }).objs.size) _
    rw [hsz]
    exact slc_end (vs := us) (H := H₃.hy) ok kk e r q
  obtain ⟨l', rfl, hlen, q₃⟩ := list1_inv q₃
  obtain ⟨a, o, us, m, rfl, e1, c1, d1, _, r⟩ := RepD.list_inv rx
  cases p₂ with
  | none =>
    have h2 : v₂ = .none := r₂
    subst h2
    cases p₃ with
    | none =>
      have h3 : v₃ = .none := r₃
      subst h3
      exact tail e1 c1 d1 (by rw [r.length]; exact hlen) .none .none (slicePick_all _) r q₃
    | some p =>
      obtain ⟨k, rfl, hk0, q₃⟩ := int1_inv q₃
      obtain ⟨t, h3⟩ := RepD.int_inv r₃
      subst h3
      have hk : k = ((k.toNat : Nat) : Int) := by (first | lia | omega)
      exact tail (lo' := none) (hi' := some ((k.toNat : Nat) : Int)) e1 c1 d1 (by rw [r.length]; exact hlen) .none (by rw [← hk]; exact .int k t) (slicePick_upto' _ _) (r.take k.toNat) q₃
  | some p =>
    cases p₃ with
    | none =>
      obtain ⟨k, rfl, hk0, q₃⟩ := int1_inv q₃
      obtain ⟨t, h2⟩ := RepD.int_inv r₂
      have h3 : v₃ = .none := r₃
      subst h2 h3
      have hk : k = ((k.toNat : Nat) : Int) := by (first | lia | omega)
      exact tail (lo' := some ((k.toNat : Nat) : Int)) (hi' := none) e1 c1 d1 (by rw [r.length]; exact hlen) (by rw [← hk]; exact .int k t) .none (slicePick_from' _ _) (r.drop k.toNat) q₃
    | some p' => exact q₃.elim
end

/-- all stays, but for what may be turned -/
noncomputable def MK (U : Addr → Prop) (h h' : Heap) : Prop := ∀ a o, ¬ U a → h.get? a = some o → h'.get? a = some o
section
variable {b : Bx} {U : Addr → Prop} {h h' h'' : Heap} {n n' : Nat}
theorem MK.refl : MK U h h := fun _ _ _ e => e
theorem MK.trans (x : MK U h h') (y : MK U h' h'') : MK U h h'' := fun a o c e => y a o c (x a o c e)
theorem MK.all (k : ∀ a o, h.get? a = some o → h'.get? a = some o) : MK U h h' := fun a o _ e => k a o e
theorem MK.hs (hU : ∀ a, b.set a → U a) (k : HS b n n' h h') : MK U h h' := fun a o c e => k.1 a o (fun q => c (hU a q)) e
theorem RepD.mk (k : MK U h h') {v : Value} {x : PyData} (r : RepD h U v x) : RepD h' U v x := r.map fun a o e _ u => ⟨k a o u e, u⟩
theorem RepL.mk (k : MK U h h') {v : List Value} {x : List PyData} (r : RepL h U v x) : RepL h' U v x := r.map fun a o e _ u => ⟨k a o u e, u⟩
theorem RepV.mk (k : MK U h h') {v : Value} {p : PV} (r : RepV b h U v p) : RepV b h' U v p := by
  cases p with
  | d x => exact RepD.mk k r
  | fn a => exact r
  | bench => exact r
theorem RepV.more {U' : Addr → Prop} (hU : ∀ a, U' a → U a ∨ h.get? a = none) {v : Value} {p : PV} (r : RepV b h U v p) : RepV b h U' v p := by
  cases p with
  | d x => exact RepD.more hU r
  | fn a => exact r
  | bench => exact r
end

/-- a turn's value: data, or a pair that is laid out at once -/
noncomputable def ItemOk (target : Expr) (h : Heap) (U : Addr → Prop) (v : Value) (x : PyData) : Prop :=
  RepD h U v x ∨ (isTup target = true ∧ ∃ T vs ys, v = .ref T ∧ x = .tuple ys ∧ h.IsTuple T (List.toArray vs) ∧ RepL h U vs ys)

/-- an object of a walk: no list, no frame, no cell -/
noncomputable def Itr (o : Obj) : Prop := o.cls ≠ .type "list" ∧ (∀ es ep, o.data ≠ .dict es ep) ∧ ∀ v, o.data ≠ .cell v
/-- an iterator that gives these data, one by one -/
noncomputable def Turns (prog : Program) (w : World) (A : Around) (U : Addr → Prop) (hO h : Heap) (target : Expr) (it : Value) (xs : List PyData) : Prop :=
  ∃ (I : Addr) (fp wr : List Addr) (P Md : Nat → Value → Heap → Prop) (Sf : Nat → Heap → Prop), it = .ref I ∧ KTurns prog w A target I fp wr xs.length P Md Sf ∧ Sf 0 h ∧ (∀ a ∈ fp, ¬ U a ∧ ∃ o, h.get? a = some o) ∧ (∀ a ∈ wr, hO.get? a = none) ∧ (∀ i h', Sf i h' → ∀ a ∈ wr, ∃ o, h'.get? a = some o ∧ Itr o) ∧
    (∀ i v h' U', P i v h' → (∀ a, U' a → U a ∨ hO.get? a = none) → MK U' hO h' → ∃ x, xs[i]? = some x ∧ ItemOk target h' U' v x) ∧ (∀ s Q E, Sf 0 s.heap → Q it s → wpAny (model prog w) A (pyIter it) Q E s)

section
variable {prog : Program} {w : World} {b : Bx} {h0 : Heap} {A : Around} {s : Shared} {n : Nat} {U : Addr → Prop} {E : Value → Shared → Prop} {target : Expr}

theorem lt_of_get {h : Heap} {a : Addr} {o : Obj} (e : h.get? a = some o) : a < h.objs.size := Heap.lt_size e
theorem none_of_ge {h : Heap} {a : Addr} (e : h.objs.size ≤ a) : h.get? a = none := by
  cases q : h.get? a with
  | none => rfl
  | some o => exact absurd (Heap.lt_size q) (Nat.not_lt.mpr e)

theorem iter_list (hh : A.handled = none) (H : Hy b h0 n U s.heap) (ok : BxOk b) {l : Addr} {vs : List Value} {xs : List PyData} {Q : Value → Shared → Prop} (hL : s.heap.IsList l vs.toArray) (hl : ¬ U l) (r : RepL s.heap U vs xs)
    (h : ∀ it h', SS b n n s { s with heap := h' } → MK U s.heap h' → Turns prog w A U s.heap h' target it xs → Q it { s with heap := h' }) : wpAny (model prog w) A (pyIter (.ref l)) Q E s := by
  obtain ⟨ol, hol, _⟩ := id hL
  have hne : l ≠ s.heap.objs.size := Nat.ne_of_lt (lt_of_get hol)
  refine wpAny_pyIter_list hL (h _ _ (SS.of (tk := s.toks) ok H.inv (push_keep _ _)) (MK.all (push_keep _ _)) ?_)
  have W := Walks.list (prog := prog) (w := w) hh s.heap.objs.size l hne vs.toArray
  have hlen : vs.toArray.size = xs.length := by rw [List.size_toArray]; exact r.length
  rw [hlen] at W
  refine ⟨s.heap.objs.size, [s.heap.objs.size, l], [s.heap.objs.size], _, _, _, rfl, KTurns.ofWalks W (fun i v s Q E st q => letGo_listiter st.1 q), ⟨⟨_, Heap.get?_push_size _ rfl, rfl, rfl⟩, hL.at fun o e => push_keep _ _ _ _ e⟩, ?_, ?_, ?_, ?_, ?_⟩
  · intro a ha
    rcases List.mem_cons.mp ha with rfl | ha
    · exact ⟨H.fresh (get_size _), _, Heap.get?_push_size _ rfl⟩
    · rw [List.mem_singleton.mp ha]
      exact ⟨hl, _, push_keep _ _ _ _ hol⟩
  · intro a ha
    rw [List.mem_singleton.mp ha]
    exact get_size _
  · intro i h' st a ha
    rw [List.mem_singleton.mp ha]
    obtain ⟨⟨o, e, c, d⟩, _⟩ := st
    exact ⟨o, e, by rw [c]; decide, fun _ _ q => by (rw [d] at q; cases q), fun _ q => by (rw [d] at q; cases q)⟩
  · intro i v h' U' hP hU' hk
    have hP' : vs[i]? = some v := by simpa using (show vs.toArray[i]? = some v from hP)
    have r' := (r.more hU').mk hk
    have hi : i < xs.length := by rw [← r.length]; exact (List.getElem?_eq_some_iff.mp hP').1
    obtain ⟨v', e', q⟩ := r'.get (List.getElem?_eq_getElem hi)
    rw [hP'] at e'
    cases e'
    exact ⟨_, List.getElem?_eq_getElem hi, .inl q⟩
  · intro s' Q E st q
    exact W.self 0 s' Q E st q

theorem rng_get (a c : Int) (k i : Nat) (hi : i < k) : (rngItems a c k)[i]? = some (.int (a + (i : Int) * c)) := by
  unfold rngItems
  rw [List.getElem?_map, List.getElem?_range hi]
  rfl
theorem iter_range (hh : A.handled = none) (H : Hy b h0 n U s.heap) (ok : BxOk b) {r : Addr} {a e c : Int} {t u v : Tok} {Q : Value → Shared → Prop} (hR : IsRange s.heap r a e c t u v) (hsm : Builtin.Range.small a e c = true)
    (h : ∀ it h', SS b n n s { s with heap := h' } → MK U s.heap h' → Turns prog w A U s.heap h' target it (rngItems a c (Builtin.Range.rangeSize a e c).toNat) → Q it { s with heap := h' }) : wpAny (model prog w) A (pyIter (.ref r)) Q E s := by
  refine wpAny_pyIter_range hR hsm (h _ _ (SS.of (tk := s.toks) ok H.inv (push_keep _ _)) (MK.all (push_keep _ _)) ?_)
  have hnn : 0 ≤ Builtin.Range.rangeSize a e c := by
    unfold Builtin.Range.rangeSize
    split
    · split
      · have := Int.ediv_nonneg (a := e - a - 1) (b := c) (by (first | lia | omega)) (by (first | lia | omega)); (first | lia | omega)
      · (first | lia | omega)
    · split
      · have := Int.ediv_nonneg (a := a - e - 1) (b := -c) (by (first | lia | omega)) (by (first | lia | omega)); (first | lia | omega)
      · (first | lia | omega)
  have W := Walks.range (prog := prog) (w := w) hh s.heap.objs.size a c (Builtin.Range.rangeSize a e c).toNat
  have hlen : (Builtin.Range.rangeSize a e c).toNat = (rngItems a c (Builtin.Range.rangeSize a e c).toNat).length := by unfold rngItems; simp
  refine ⟨s.heap.objs.size, [s.heap.objs.size], [s.heap.objs.size], fun i v h => (∃ t, v = .int (a + (i : Nat) * c) t) ∧ i < (Builtin.Range.rangeSize a e c).toNat,
    fun i v h => ((∃ t, v = .int (a + (i : Nat) * c) t) ∧ i < (Builtin.Range.rangeSize a e c).toNat) ∧ IsRangeIter h s.heap.objs.size (a + ((i + 1 : Nat) : Int) * c) (((Builtin.Range.rangeSize a e c).toNat : Int) - ((i + 1 : Nat) : Int)) c,
    fun i h => IsRangeIter h s.heap.objs.size (a + (i : Nat) * c) (((Builtin.Range.rangeSize a e c).toNat : Int) - (i : Nat)) c, rfl, ?_, ?_, ?_, ?_, ?_, ?_, ?_⟩
  · rw [← hlen]
    exact {
      sub := W.sub
      frame := W.frame
      item := fun i s Q E hi st hQ => W.item i s Q E hi st fun v h' tk hP st' hk => hQ v h' tk ⟨⟨hP, hi⟩, st'⟩ hk
      go := fun i v s Q E hm hQ => by
        obtain ⟨⟨⟨t, rfl⟩, hi⟩, st⟩ := hm
        have e' : ∀ I : Addr, letOwnedTupleGo target (.ref I) (.int (a + (i : Nat) * c) t) = pure () := fun I => by cases target <;> rfl
        exact wpAny_of_eq (e' _) (hQ s.heap ⟨⟨t, rfl⟩, hi⟩ st fun _ _ _ e => e)
      done := W.done }
  · show IsRangeIter _ _ _ _ _
    have e1 : a + ((0 : Nat) : Int) * c = a := by simp
    have e2 : (((Builtin.Range.rangeSize a e c).toNat : Int) - ((0 : Nat) : Int)) = Builtin.Range.rangeSize a e c := by (first | lia | omega)
    rw [e1, e2]
    exact Heap.get?_push_size _ rfl
  · intro x hx
    rw [List.mem_singleton.mp hx]
    exact ⟨H.fresh (get_size _), _, Heap.get?_push_size _ rfl⟩
  · intro x hx
    rw [List.mem_singleton.mp hx]
    exact get_size _
  · intro i h' st a ha
    rw [List.mem_singleton.mp ha]
    exact ⟨_, st, by simp, (fun _ _ q => nomatch q), fun _ q => nomatch q⟩
  · intro i v h' U' hP hU' hk
    obtain ⟨⟨t, rfl⟩, hi⟩ := hP
    exact ⟨_, rng_get a c _ i hi, .inl (RepD.int _ _)⟩
  · intro s' Q E st q
    exact W.self 0 s' Q E st q
end

theorem zipItems_len : ∀ a c : List PyData, (zipItems a c).length = min a.length c.length
  | [], [] => rfl
  | [], _ :: _ => by simp [zipItems]
  | _ :: _, [] => by simp [zipItems]
  | x :: a, y :: c => by simp only [zipItems, List.length_cons, zipItems_len a c]; (first | lia | omega)
theorem zipItems_get : ∀ (a c : List PyData) (i : Nat) {x y : PyData}, a[i]? = some x → c[i]? = some y → (zipItems a c)[i]? = some (.tuple [x, y])
  | [], _, i, _, _, h, _ => by simp at h
  | _ :: _, [], i, _, _, _, h => by simp at h
  | x :: a, y :: c, 0, _, _, h1, h2 => by simp at h1 h2; subst h1 h2; rfl
  | x :: a, y :: c, i + 1, _, _, h1, h2 => by simp only [zipItems, List.getElem?_cons_succ] at h1 h2 ⊢; exact zipItems_get a c i h1 h2
theorem enmFrom_len : ∀ (k : Int) (a : List PyData), (enmFrom k a).length = a.length
  | _, [] => rfl
  | k, x :: a => by simp only [enmFrom, List.length_cons, enmFrom_len (k + 1) a]
theorem enmFrom_get : ∀ (k : Int) (a : List PyData) (i : Nat) {x : PyData}, a[i]? = some x → (enmFrom k a)[i]? = some (.tuple [.int (k + i), x])
  | _, [], i, _, h => by simp at h
  | k, x :: a, 0, _, h => by simp at h; subst h; simp [enmFrom]
  | k, x :: a, i + 1, _, h => by
    simp only [enmFrom, List.getElem?_cons_succ] at h ⊢
    rw [enmFrom_get (k + 1) a i h]
    have : k + 1 + (i : Int) = k + ((i + 1 : Nat) : Int) := by push_cast; (first | lia | omega)
    rw [this]

section
variable {prog : Program} {w : World} {b : Bx} {h0 : Heap} {A : Around} {s : Shared} {n : Nat} {U : Addr → Prop} {E : Value → Shared → Prop} {target : Expr}

theorem pair_ok {h' : Heap} {elts : List Expr} {kk : Nat} {tp : Pos} {T : Addr} {v u : Value} {x y : PyData} (hT : h'.IsTuple T #[v, u]) (r1 : RepD h' U v x) (r2 : RepD h' U u y) : ItemOk (.Tuple elts kk tp) h' U (.ref T) (.tuple [x, y]) :=
  .inr ⟨rfl, T, [v, u], [x, y], rfl, rfl, hT, .cons r1 (.cons r2 .nil)⟩

/-- zip of two lists -/
theorem iter_zip (hh : A.handled = none) (H : Hy b h0 n U s.heap) (ok : BxOk b) {elts : List Expr} {kk : Nat} {tp : Pos} {l1 l2 : Addr} {vs us : List Value} {xs ys : List PyData} {Q : Value → Shared → Prop}
    (hL1 : s.heap.IsList l1 vs.toArray) (hL2 : s.heap.IsList l2 us.toArray) (hl1 : ¬ U l1) (hl2 : ¬ U l2) (r1 : RepL s.heap U vs xs) (r2 : RepL s.heap U us ys)
    (h : ∀ it s', SS b n n s s' → MK U s.heap s'.heap → Turns prog w A U s.heap s'.heap (.Tuple elts kk tp) it (zipItems xs ys) → Q it s') :
    wpAny (model prog w) A (call (.type "zip") [.ref l1, .ref l2]) (fun x s₁ => wpAny (model prog w) A (pyIter x) Q E s₁) E s := by
  obtain ⟨o1, e1, _⟩ := id hL1
  obtain ⟨o2, e2, _⟩ := id hL2
  have g1 : l1 < s.heap.objs.size := lt_of_get e1
  have g2 : l2 < s.heap.objs.size := lt_of_get e2
  refine call_zip_2 hL1 hL2 fun h' hz hTI hTO hi1 hi2 hsz hk => ?_
  refine wpAny_pyIter_zip hz (h _ _ (SS.of (tk := s.toks) ok H.inv hk) (MK.all hk) ?_)
  have D : ZipApart (s.heap.objs.size + 4) (s.heap.objs.size + 2) (s.heap.objs.size + 3) s.heap.objs.size (s.heap.objs.size + 1) l1 l2 := zipApart_new g1 g2
  have W := (WalksT.zip2 (prog := prog) (w := w) hh _ _ _ _ _ _ _ D vs.toArray us.toArray).toU
  have hlen : min vs.toArray.size us.toArray.size = (zipItems xs ys).length := by
    rw [zipItems_len, List.size_toArray, List.size_toArray, r1.length, r2.length]
  rw [hlen] at W
  refine ⟨_, _, _, _, _, _, rfl, KTurns.ofWalksU W, ?_, ?_, ?_, ?_, ?_, ?_⟩
  · exact ⟨hz, hTI, ⟨_, _, hTO⟩, hi1, hi2, hL1.at fun o e => hk _ _ e, hL2.at fun o e => hk _ _ e⟩
  · intro a ha
    have fr : ∀ j, ¬ U (s.heap.objs.size + j) := fun j => H.fresh (none_of_ge (Nat.le_add_right _ _))
    simp only [List.mem_cons, List.not_mem_nil, or_false] at ha
    rcases ha with rfl | rfl | rfl | rfl | rfl | rfl | rfl
    · exact ⟨fr 4, _, hz⟩
    · exact ⟨fr 2, _, hTI⟩
    · exact ⟨fr 3, _, hTO⟩
    · obtain ⟨o, e, _⟩ := hi1; exact ⟨fr 0, o, e⟩
    · obtain ⟨o, e, _⟩ := hi2; exact ⟨fr 1, o, e⟩
    · exact ⟨hl1, _, hk _ _ e1⟩
    · exact ⟨hl2, _, hk _ _ e2⟩
  · intro a ha
    have fr : ∀ j, s.heap.get? (s.heap.objs.size + j) = none := fun j => none_of_ge (Nat.le_add_right _ _)
    simp only [List.mem_cons, List.not_mem_nil, or_false] at ha
    rcases ha with rfl | rfl | rfl | rfl
    · exact fr 4
    · exact fr 3
    · exact fr 0
    · exact fr 1
  · intro i h' st a ha
    obtain ⟨st1, st2, ⟨_, _, st3⟩, st4, st5, _, _⟩ := st
    simp only [List.mem_cons, List.not_mem_nil, or_false] at ha
    rcases ha with rfl | rfl | rfl | rfl
    · exact ⟨_, st1, by simp, (fun _ _ q => nomatch q), fun _ q => nomatch q⟩
    · exact ⟨_, st3, by simp, (fun _ _ q => nomatch q), fun _ q => nomatch q⟩
    · obtain ⟨o, e, c, d⟩ := st4
      exact ⟨o, e, by rw [c]; decide, fun _ _ q => by (rw [d] at q; cases q), fun _ q => by (rw [d] at q; cases q)⟩
    · obtain ⟨o, e, c, d⟩ := st5
      exact ⟨o, e, by rw [c]; decide, fun _ _ q => by (rw [d] at q; cases q), fun _ q => by (rw [d] at q; cases q)⟩
  · rintro i v h'' U' ⟨T, vals, rfl, ⟨x, y, hx, hy, rfl⟩, hT⟩ hU' hk'
    have hx' : vs[i]? = some x := by simpa using hx
    have hy' : us[i]? = some y := by simpa using hy
    have i1 : i < xs.length := by rw [← r1.length]; exact (List.getElem?_eq_some_iff.mp hx').1
    have i2 : i < ys.length := by rw [← r2.length]; exact (List.getElem?_eq_some_iff.mp hy').1
    obtain ⟨x', ex, qx⟩ := ((r1.more hU').mk hk').get (List.getElem?_eq_getElem i1)
    obtain ⟨y', ey, qy⟩ := ((r2.more hU').mk hk').get (List.getElem?_eq_getElem i2)
    rw [hx'] at ex; cases ex
    rw [hy'] at ey; cases ey
    exact ⟨_, zipItems_get xs ys i (List.getElem?_eq_getElem i1) (List.getElem?_eq_getElem i2), pair_ok hT qx qy⟩
  · intro s' Q E st q
    exact W.self 0 s' Q E st q

/-- enumerate of a list -/
theorem iter_enum (hh : A.handled = none) (H : Hy b h0 n U s.heap) (ok : BxOk b) {elts : List Expr} {kk : Nat} {tp : Pos} {l : Addr} {vs : List Value} {xs : List PyData} {Q : Value → Shared → Prop}
    (hL : s.heap.IsList l vs.toArray) (hl : ¬ U l) (r : RepL s.heap U vs xs)
    (h : ∀ it s', SS b n n s s' → MK U s.heap s'.heap → Turns prog w A U s.heap s'.heap (.Tuple elts kk tp) it (enmFrom 0 xs) → Q it s') :
    wpAny (model prog w) A (call (.type "enumerate") [.ref l]) (fun x s₁ => wpAny (model prog w) A (pyIter x) Q E s₁) E s := by
  obtain ⟨o1, e1, _⟩ := id hL
  have g1 : l < s.heap.objs.size := lt_of_get e1
  refine call_enumerate_list hL fun h' he hit hsz hk => ?_
  refine wpAny_pyIter_enum he (h _ _ (SS.of (tk := s.toks) ok H.inv hk) (MK.all hk) ?_)
  have W := (WalksT.enumerate (prog := prog) (w := w) hh (s.heap.objs.size + 1) s.heap.objs.size l (Nat.succ_ne_self _) (Nat.ne_of_lt (Nat.lt_succ_of_lt g1)) (Nat.ne_of_lt g1) vs.toArray).toU
  have hlen : vs.toArray.size = (enmFrom 0 xs).length := by rw [enmFrom_len, List.size_toArray, r.length]
  rw [hlen] at W
  refine ⟨_, _, _, _, _, _, rfl, KTurns.ofWalksU W, ?_, ?_, ?_, ?_, ?_, ?_⟩
  · exact ⟨⟨_, he⟩, hit, hL.at fun o e => hk _ _ e⟩
  · intro a ha
    have fr : ∀ j, ¬ U (s.heap.objs.size + j) := fun j => H.fresh (none_of_ge (Nat.le_add_right _ _))
    simp only [List.mem_cons, List.not_mem_nil, or_false] at ha
    rcases ha with rfl | rfl | rfl
    · exact ⟨fr 1, _, he⟩
    · obtain ⟨o, e, _⟩ := hit; exact ⟨fr 0, o, e⟩
    · exact ⟨hl, _, hk _ _ e1⟩
  · intro a ha
    have fr : ∀ j, s.heap.get? (s.heap.objs.size + j) = none := fun j => none_of_ge (Nat.le_add_right _ _)
    simp only [List.mem_cons, List.not_mem_nil, or_false] at ha
    rcases ha with rfl | rfl
    · exact fr 1
    · exact fr 0
  · intro i h' st a ha
    obtain ⟨⟨_, st1⟩, st4, _⟩ := st
    simp only [List.mem_cons, List.not_mem_nil, or_false] at ha
    rcases ha with rfl | rfl
    · exact ⟨_, st1, by simp, (fun _ _ q => nomatch q), fun _ q => nomatch q⟩
    · obtain ⟨o, e, c, d⟩ := st4
      exact ⟨o, e, by rw [c]; decide, fun _ _ q => by (rw [d] at q; cases q), fun _ q => by (rw [d] at q; cases q)⟩
  · rintro i v h'' U' ⟨T, vals, rfl, ⟨t, x, hx, rfl⟩, hT⟩ hU' hk'
    have hx' : vs[i]? = some x := by simpa using hx
    have i1 : i < xs.length := by rw [← r.length]; exact (List.getElem?_eq_some_iff.mp hx').1
    obtain ⟨x', ex, qx⟩ := ((r.more hU').mk hk').get (List.getElem?_eq_getElem i1)
    rw [hx'] at ex; cases ex
    have e := enmFrom_get 0 xs i (List.getElem?_eq_getElem i1)
    rw [Int.zero_add] at e
    exact ⟨_, e, pair_ok hT (RepD.int _ _) qx⟩
  · intro s' Q E st q
    exact W.self 0 s' Q E st q
end

section
variable {prog : Program} {w : World} {A : Around} {E : Value → Shared → Prop} {s : Shared}

/-- a step of a tuple's iterator -/
theorem tup_step {it t : Addr} {i : Nat} {items : Array Value} {x : Value} {Q : Value → Shared → Prop} (hit : s.heap.IsTupleIter it t i) (ht : s.heap.IsTuple t items) (hx : items[i]? = some x)
    (h : ∀ h', h'.IsTupleIter it t (i + 1) → Heap.SameBut it s.heap h' → Q x { s with heap := h' }) : wpAny (model prog w) A (Builtin.SmallTypes.nextOf (.ref it)) Q E s := by
  obtain ⟨oi, gi, ci, di⟩ := id hit
  obtain ⟨ot, gt, _, kt, dt⟩ := ht
  refine wpAny_bind (wpAny_callSpecial?_slot (name := Str.ofString "__next__") hit.typeIs F.slot_tuple_iterator_next (wpAny_call_entry F.slot_tuple_iterator_next hit.typeIs F.entry_tuple_iterator_next ?_ (F.args_tuple_iterator_next_1 _)))
  show wpAny _ _ (field (.ref it) 0 >>= _) _ _ s
  refine wpAny_bind (wpAny_field gi di (x := .ref t) rfl ?_)
  show wpAny _ _ (if (Value.ref t == Value.none) = true then _ else _) _ _ s
  have hne : ¬ (Value.ref t == Value.none) = true := Bool.false_ne_true
  rw [if_neg hne]
  show wpAny _ _ (field (.ref it) 1 >>= _) _ _ s
  refine wpAny_bind (wpAny_field gi di (x := .int i 0) rfl ?_)
  show wpAny _ _ (seqItems? (.ref t) >>= _) _ _ s
  refine wpAny_bind (wpAny_seqItems gt dt ?_)
  dsimp only
  rw [show items[((i : Nat) : Int).toNat]? = some x by rw [Int.toNat_natCast]; exact hx]
  refine wpAny_bind (wpAny_setField gi di (by simp) (wpAny_pure ⟨x, rfl, wpAny_pure (h _ ⟨_, Heap.get?_update_self _ gi (Obj.isFreed_of_fields (Obj.data_mapFields di _)), (Obj.cls_mapFields ..).trans ci, ?_⟩ (Heap.SameBut.update ..))⟩))
  rw [Obj.data_mapFields di]
  simp [rawInt]

/-- the objects of a zip of a list and a tuple stand apart -/
structure ZT (h : Heap) (z TI TO i1 i2 l1 l2 : Addr) (k : Nat) (xs ys : Array Value) (f0 : Value) : Prop where
  zip : IsZip h z TI TO f0
  its : IsPair h TI (.ref i1) (.ref i2)
  out : ∃ a c, IsPair h TO a c
  one : h.IsListIter i1 l1 k
  two : h.IsTupleIter i2 l2 k
  lst : h.IsList l1 xs
  tup : h.IsTuple l2 ys

theorem zt_get {h : Heap} {z TI TO i1 i2 l1 l2 : Addr} {k : Nat} {xs ys : Array Value} {f0 : Value} (Z : ZT h z TI TO i1 i2 l1 l2 k xs ys f0) (hTT : TI ≠ TO) (hTl : l2 ≠ TO) :
    TI ≠ z ∧ TO ≠ z ∧ i1 ≠ z ∧ i2 ≠ z ∧ TI ≠ i1 ∧ TI ≠ i2 ∧ TO ≠ i1 ∧ TO ≠ i2 ∧ i1 ≠ i2 ∧ l1 ≠ z ∧ l1 ≠ TO ∧ l1 ≠ i1 ∧ l1 ≠ i2 ∧ l2 ≠ z ∧ l2 ≠ i1 ∧ l2 ≠ i2 := by
  obtain ⟨z1, z2, ⟨a, c, z3⟩, ⟨o4, e4, c4, _⟩, ⟨o5, e5, c5, _⟩, ⟨o6, e6, c6, _⟩, ⟨o7, e7, c7, _⟩⟩ := Z
  have ne : ∀ {p q : Addr} {o o' : Obj}, h.get? p = some o → h.get? q = some o' → o.cls ≠ o'.cls → p ≠ q := fun e e' hc hpq => by
    subst hpq; rw [e] at e'; cases e'; exact hc rfl
  refine ⟨ne z2 z1 (by simp), ne z3 z1 (by simp), ne e4 z1 (by rw [c4]; simp), ne e5 z1 (by rw [c5]; simp), ne z2 e4 (by rw [c4]; simp), ne z2 e5 (by rw [c5]; simp), ne z3 e4 (by rw [c4]; simp), ne z3 e5 (by rw [c5]; simp), ne e4 e5 (by rw [c4, c5]; simp),
    ne e6 z1 (by rw [c6]; simp), ne e6 z3 (by rw [c6]; simp), ne e6 e4 (by rw [c6, c4]; simp), ne e6 e5 (by rw [c6, c5]; simp), ne e7 z1 (by rw [c7]; simp), ne e7 e4 (by rw [c7, c4]; simp), ne e7 e5 (by rw [c7, c5]; simp)⟩

/-- one more pair -/
theorem zt_item {z TI TO i1 i2 l1 l2 : Addr} {k : Nat} {xs ys : Array Value} {x y : Value} {Q : Option Value → Shared → Prop} (Z : ZT s.heap z TI TO i1 i2 l1 l2 k xs ys .none) (hTT : TI ≠ TO) (hTl : l2 ≠ TO) (hx : xs[k]? = some x) (hy : ys[k]? = some y)
    (h : ∀ h', ZT h' z TI TO i1 i2 l1 l2 (k + 1) xs ys (rawInt s.heap.objs.size) → IsPair h' s.heap.objs.size x y → (∀ c o, c ≠ z → c ≠ TO → c ≠ i1 → c ≠ i2 → s.heap.get? c = some o → h'.get? c = some o) → Q (some (.ref s.heap.objs.size)) { s with heap := h' }) :
    wpAny (model prog w) A (pyNext (.ref z)) Q E s := by
  obtain ⟨dTIz, dTOz, d1z, d2z, dTI1, dTI2, dTO1, dTO2, d12, dl1z, dl1O, dl11, dl12, dl2z, dl21, dl22⟩ := zt_get Z hTT hTl
  obtain ⟨hz, hTI, ⟨a, c, hTO⟩, h1, h2, hl1, hl2⟩ := Z
  have hT : s.TypeIs (.ref z) "zip" := ⟨_, hz, rfl⟩
  unfold pyNext
  refine wpAny_bind (wpAny_attempt (wpAny_callSpecial?_slot (name := Str.ofString "__next__") hT F.slot_zip_next (wpAny_call_entry F.slot_zip_next hT F.entry_zip_next ?_ (F.args_zip_next_1 _))))
  show wpAny _ _ (field (.ref z) 2 >>= _) _ _ _
  refine wpAny_bind (wpAny_field hz rfl (x := .bool false) rfl ?_)
  show wpAny _ _ (field (.ref z) 3 >>= _) _ _ _
  refine wpAny_bind (wpAny_field hz rfl (x := .ref TI) rfl (wpAny_bind (wpAny_seqItems hTI rfl ?_)))
  show wpAny _ _ (Builtin.SmallTypes.ownedTupleIsFree (.ref z) >>= _) _ _ _
  unfold Builtin.SmallTypes.ownedTupleIsFree
  refine wpAny_bind (wpAny_bind (wpAny_field hz rfl (x := .none) rfl (wpAny_pure ?_)))
  simp only [if_true]
  refine wpAny_bind (wpAny_rule (wpAny_bind (wpAny_field hz rfl (x := .ref TO) rfl (wpAny_bind (wpAny_setField_rec hz (by simp) fun g1 hz1 s1 => ?_)))))
  replace hz1 : IsZip g1 z TI TO .ellipsis := hz1
  refine wpAny_bind ?_
  simp only [List.zipIdx_cons, List.zipIdx_nil, List.forIn_cons, List.forIn_nil]
  refine wpAny_bind (wpAny_bind (wpAny_onRaise ?_))
  show wpAny _ _ (Builtin.SmallTypes.nextOf (.ref i1) >>= _) _ _ _
  refine wpAny_bind (wpAny_nextOf_list_item (h1.extBut s1.extBut d1z) (hl1.extBut s1.extBut dl1z) hx fun g2 n1 s2 => wpAny_pure ?_)
  have hTO2 : IsPair g2 TO a c := s2.extBut _ _ dTO1 (s1.extBut _ _ dTOz hTO)
  refine wpAny_bind (wpAny_seqItems hTO2 rfl (wpAny_bind (wpAny_updateSeq_pair hTO2 fun g3 hTO3 s3 => ?_)))
  replace hTO3 : IsPair g3 TO x c := hTO3
  refine wpAny_bind (wpAny_letGo (wpAny_pure ?_))
  refine wpAny_bind (wpAny_bind (wpAny_onRaise ?_))
  show wpAny _ _ (Builtin.SmallTypes.nextOf (.ref i2) >>= _) _ _ _
  have two : ∀ {g : Heap}, (∀ o, s.heap.get? i2 = some o → g.get? i2 = some o) → g.IsTupleIter i2 l2 k := fun hk => let ⟨o, e, r⟩ := h2; ⟨o, hk o e, r⟩
  have tup : ∀ {g : Heap}, (∀ o, s.heap.get? l2 = some o → g.get? l2 = some o) → g.IsTuple l2 ys := fun hk => let ⟨o, e, r⟩ := hl2; ⟨o, hk o e, r⟩
  refine wpAny_bind (tup_step (two fun o e => s3.extBut _ _ dTO2.symm (s2.extBut _ _ d12.symm (s1.extBut _ _ d2z e))) (tup fun o e => s3.extBut _ _ hTl (s2.extBut _ _ dl21 (s1.extBut _ _ dl2z e))) hy fun g4 n2 s4 => wpAny_pure ?_)
  have hTO4 : IsPair g4 TO x c := s4.extBut _ _ dTO2 hTO3
  refine wpAny_bind (wpAny_seqItems hTO4 rfl (wpAny_bind (wpAny_updateSeq_pair hTO4 fun g5 hTO5 s5 => ?_)))
  replace hTO5 : IsPair g5 TO x y := hTO5
  refine wpAny_bind (wpAny_letGo (wpAny_pure (wpAny_pure ?_)))
  refine wpAny_bind (wpAny_seqItems hTO5 rfl (wpAny_bind (wpAny_newTuple ?_)))
  have hsz : g5.objs.size = s.heap.objs.size := by rw [s5.1, s4.1, s3.1, s2.1, s1.1]
  have hz5 : IsZip g5 z TI TO .ellipsis := s5.extBut _ _ dTOz.symm (s4.extBut _ _ d2z.symm (s3.extBut _ _ dTOz.symm (s2.extBut _ _ d1z.symm hz1)))
  have old5 : ∀ c o, c ≠ z → c ≠ TO → c ≠ i1 → c ≠ i2 → s.heap.get? c = some o → g5.get? c = some o := fun c o a1 a2 a3 a4 e =>
    s5.extBut _ _ a2 (s4.extBut _ _ a4 (s3.extBut _ _ a2 (s2.extBut _ _ a3 (s1.extBut _ _ a1 e))))
  have one5 : g5.IsListIter i1 l1 (k + 1) := ((n1.extBut s3.extBut dTO1.symm).extBut s4.extBut d12).extBut s5.extBut dTO1.symm
  have two5 : g5.IsTupleIter i2 l2 (k + 1) := let ⟨o, e, r⟩ := n2; ⟨o, s5.extBut _ _ dTO2.symm e, r⟩
  show wpAny _ _ (Builtin.SmallTypes.ownedTupleHandOut (.ref z) (.ref g5.objs.size) >>= _) _ _ _
  unfold Builtin.SmallTypes.ownedTupleHandOut
  refine wpAny_bind ?_
  have hz6 : IsZip (g5.push { cls := .type "tuple", data := .seq #[x, y] }) z TI TO .ellipsis := Heap.get?_push_of_some _ hz5
  refine wpAny_bind (wpAny_setField_rec hz6 (by simp) fun g7 hz7 s7 => ?_)
  replace hz7 : IsZip g7 z TI TO (rawInt g5.objs.size) := hz7
  refine wpAny_setField_rec hz7 (by simp) fun g8 hz8 s8 => ?_
  replace hz8 : IsZip g8 z TI TO (rawInt g5.objs.size) := hz8
  have up : ∀ c o, c ≠ z → g5.get? c = some o → g8.get? c = some o := fun c o a1 e => s8.extBut _ _ a1 (s7.extBut _ _ a1 (Heap.get?_push_of_some _ e))
  have hzlt : z < g5.objs.size := Heap.lt_size hz5
  have hT8 : IsPair g8 g5.objs.size x y := s8.extBut _ _ (Nat.ne_of_gt hzlt) (s7.extBut _ _ (Nat.ne_of_gt hzlt) (Heap.get?_push_size _ rfl))
  rw [hsz] at hz8 hT8
  refine wpAny_pure ⟨.ref g5.objs.size, rfl, wpAny_pure ?_⟩
  rw [hsz]
  have keep : ∀ c o, c ≠ z → c ≠ TO → c ≠ i1 → c ≠ i2 → s.heap.get? c = some o → g8.get? c = some o := fun c o a1 a2 a3 a4 e => up c o a1 (old5 c o a1 a2 a3 a4 e)
  refine h g8 ⟨hz8, keep _ _ dTIz hTT dTI1 dTI2 hTI, ⟨x, y, up _ _ dTOz hTO5⟩, one5.at fun o e => up _ o d1z e, let ⟨o, e, r⟩ := two5; ⟨o, up _ o d2z e, r⟩, hl1.at fun o e => keep _ o dl1z dl1O dl11 dl12 e, let ⟨o, e, r⟩ := hl2; ⟨o, keep _ o dl2z hTl dl21 dl22 e, r⟩⟩ hT8 keep

/-- the list is at its end -/
theorem zt_end {z TI TO i1 i2 l1 l2 : Addr} {k : Nat} {xs ys : Array Value} {Q : Option Value → Shared → Prop} (hh : A.handled = none) (Z : ZT s.heap z TI TO i1 i2 l1 l2 k xs ys .none) (hTT : TI ≠ TO) (hTl : l2 ≠ TO) (hx : xs[k]? = none)
    (h : ∀ h', (∀ c o, c ≠ z → c ≠ TO → c ≠ i1 → c ≠ i2 → s.heap.get? c = some o → h'.get? c = some o) → Q none { s with heap := h' }) : wpAny (model prog w) A (pyNext (.ref z)) Q E s := by
  obtain ⟨dTIz, dTOz, d1z, d2z, dTI1, dTI2, dTO1, dTO2, d12, dl1z, dl1O, dl11, dl12, dl2z, dl21, dl22⟩ := zt_get Z hTT hTl
  obtain ⟨hz, hTI, ⟨a, c, hTO⟩, h1, h2, hl1, hl2⟩ := Z
  have hT : s.TypeIs (.ref z) "zip" := ⟨_, hz, rfl⟩
  unfold pyNext
  have fin : ∀ (h' : Heap) (e : Addr), (∀ c o, c ≠ z → c ≠ TO → c ≠ i1 → c ≠ i2 → s.heap.get? c = some o → h'.get? c = some o) → (∃ o, h'.get? e = some o ∧ o.cls = .type "StopIteration") →
      wpAny (model prog w) A (do if ← isInstance (.ref e) (.type "StopIteration") then pure none else throw (.ref e) : Sem (Option Value)) Q E { s with heap := h' } := fun h' e hk ⟨o, ho, hc⟩ => by
    refine wpAny_bind (wpAny_isInstance (T := "StopIteration") (b := true) ⟨o, ho, hc⟩ isSubtype_stop ?_)
    exact wpAny_pure (h _ hk)
  refine wpAny_bind (wpAny_attempt (wpAny_callSpecial?_slot (name := Str.ofString "__next__") hT F.slot_zip_next (wpAny_call_entry F.slot_zip_next hT F.entry_zip_next ?_ (F.args_zip_next_1 _))))
  show wpAny _ _ (field (.ref z) 2 >>= _) _ _ _
  refine wpAny_bind (wpAny_field hz rfl (x := .bool false) rfl ?_)
  show wpAny _ _ (field (.ref z) 3 >>= _) _ _ _
  refine wpAny_bind (wpAny_field hz rfl (x := .ref TI) rfl (wpAny_bind (wpAny_seqItems hTI rfl ?_)))
  show wpAny _ _ (Builtin.SmallTypes.ownedTupleIsFree (.ref z) >>= _) _ _ _
  unfold Builtin.SmallTypes.ownedTupleIsFree
  refine wpAny_bind (wpAny_bind (wpAny_field hz rfl (x := .none) rfl (wpAny_pure ?_)))
  simp only [if_true]
  refine wpAny_bind (wpAny_rule (wpAny_bind (wpAny_field hz rfl (x := .ref TO) rfl (wpAny_bind (wpAny_setField_rec hz (by simp) fun g1 hz1 s1 => ?_)))))
  replace hz1 : IsZip g1 z TI TO .ellipsis := hz1
  refine wpAny_bind ?_
  simp only [List.zipIdx_cons, List.zipIdx_nil, List.forIn_cons, List.forIn_nil]
  refine wpAny_bind (wpAny_bind (wpAny_onRaise ?_))
  show wpAny _ _ (Builtin.SmallTypes.nextOf (.ref i1) >>= _) _ _ _
  refine wpAny_bind (wpAny_nextOf_list_end hh (h1.extBut s1.extBut d1z) (hl1.extBut s1.extBut dl1z) hx fun g2 e s2 he => ?_)
  obtain ⟨oe, hoe, hce⟩ := he
  have hz2 : IsZip g2 z TI TO .ellipsis := s2 _ _ d1z.symm hz1
  have hez : e ≠ z := fun q => by subst q; rw [hz2] at hoe; cases hoe; simp at hce
  refine wpAny_setField_rec hz2 (by simp) fun g3 _ s3 => ?_
  exact fin g3 e (fun c o a1 _ a3 _ q => s3.extBut _ _ a1 (s2 _ _ a3 (s1.extBut _ _ a1 q))) ⟨oe, s3.extBut _ _ hez hoe, hce⟩
end

/-- the heap when the pair of iterators stands -/
noncomputable abbrev ztH (h : Heap) (l1 l2 : Addr) : Heap :=
  ((((h.push { cls := .type "list_iterator", data := .fields #[.ref l1, .int 0 0] }).push { cls := .type "tuple_iterator", data := .fields #[.ref l2, .int 0 0] }).push { cls := .type "tuple", data := .seq #[.ref h.objs.size, .ref (h.objs.size + 1)] }).push
    { cls := .type "tuple", data := .seq #[.none, .none] }).push { cls := .type "zip", data := .fields #[.none, .bool false, .bool false, .ref (h.objs.size + 2), .ref (h.objs.size + 3)] }
theorem zt_meets (l1 l2 : Addr) (xs ys : Array Value) :
    Meets (Builtin.«zip.__new__» ⟨[.type "zip", .ref l1, .ref l2], []⟩) (fun _ R s => s.heap.IsList l1 xs ∧ s.heap.IsTuple l2 ys ∧ R (.ok (.ret (.ref (s.heap.objs.size + 4)))) { s with heap := ztH s.heap l1 l2 }) :=
  .of_wp fun prog w A R s h => by
    obtain ⟨hp, g, d, tk, os⟩ := s; obtain ⟨hl1, hl2, h⟩ := h
    have hsub := sub_zip
    have hL1 : Heap.IsList (Shared.heap ⟨hp, g, d, tk, os⟩) l1 xs := hl1
    have hL2 : Heap.IsTuple (Shared.heap ⟨hp.push { cls := .type "list_iterator", data := .fields #[.ref l1, .int 0 0] }, g, d, tk, os⟩) l2 ys := Heap.IsTuple.push hl2 _
    have z : ∀ (h : Heap) (o : Obj), (h.push o).objs.size = h.objs.size + 1 := fun h o => Heap.size_push ..
    wp_walk using wpAny_pyIter_list hL1, wpAny_pyIter_tuple hL2
    simp only [ztH, z] at h ⊢
    exact ⟨_, rfl, h⟩
section
variable {prog : Program} {w : World} {A : Around} {E : Value → Shared → Prop} {s : Shared}
theorem zt_new {l1 l2 : Addr} {xs ys : Array Value} {Q : Value → Shared → Prop} (hl1 : s.heap.IsList l1 xs) (hl2 : s.heap.IsTuple l2 ys)
    (h : ∀ h', ZT h' (s.heap.objs.size + 4) (s.heap.objs.size + 2) (s.heap.objs.size + 3) s.heap.objs.size (s.heap.objs.size + 1) l1 l2 0 xs ys .none → (∀ c o, s.heap.get? c = some o → h'.get? c = some o) → Q (.ref (s.heap.objs.size + 4)) { s with heap := h' }) :
    wpAny (model prog w) A (call (.type "zip") [.ref l1, .ref l2]) Q E s := by
  have keep : ∀ c o, s.heap.get? c = some o → (ztH s.heap l1 l2).get? c = some o := fun c o x => Heap.get?_push_of_some _ (Heap.get?_push_of_some _ (Heap.get?_push_of_some _ (Heap.get?_push_of_some _ (Heap.get?_push_of_some _ x))))
  have z : ∀ (h : Heap) (o : Obj), (h.push o).objs.size = h.objs.size + 1 := fun h o => Heap.size_push ..
  have g5 := Heap.get?_push_size ((((s.heap.push { cls := .type "list_iterator", data := .fields #[.ref l1, .int 0 0] }).push { cls := .type "tuple_iterator", data := .fields #[.ref l2, .int 0 0] }).push { cls := .type "tuple", data := .seq #[.ref s.heap.objs.size, .ref (s.heap.objs.size + 1)] }).push
    { cls := .type "tuple", data := .seq #[.none, .none] }) (o := { cls := .type "zip", data := .fields #[.none, .bool false, .bool false, .ref (s.heap.objs.size + 2), .ref (s.heap.objs.size + 3)] }) rfl
  have g4 := Heap.get?_push_of_some { cls := .type "zip", data := .fields #[.none, .bool false, .bool false, .ref (s.heap.objs.size + 2), .ref (s.heap.objs.size + 3)] } (Heap.get?_push_size (((s.heap.push { cls := .type "list_iterator", data := .fields #[.ref l1, .int 0 0] }).push { cls := .type "tuple_iterator", data := .fields #[.ref l2, .int 0 0] }).push { cls := .type "tuple", data := .seq #[.ref s.heap.objs.size, .ref (s.heap.objs.size + 1)] })
    (o := { cls := .type "tuple", data := .seq #[.none, .none] }) rfl)
  have g3 : (ztH s.heap l1 l2).get? ((s.heap.push { cls := .type "list_iterator", data := .fields #[.ref l1, .int 0 0] }).push { cls := .type "tuple_iterator", data := .fields #[.ref l2, .int 0 0] }).objs.size = some _ := Heap.get?_push_of_some _ (Heap.get?_push_of_some _ (Heap.get?_push_size _ rfl))
  have g2 : (ztH s.heap l1 l2).get? (s.heap.push { cls := .type "list_iterator", data := .fields #[.ref l1, .int 0 0] }).objs.size = some _ := Heap.get?_push_of_some _ (Heap.get?_push_of_some _ (Heap.get?_push_of_some _ (Heap.get?_push_size _ rfl)))
  have g1 : (ztH s.heap l1 l2).get? s.heap.objs.size = some _ := Heap.get?_push_of_some _ (Heap.get?_push_of_some _ (Heap.get?_push_of_some _ (Heap.get?_push_of_some _ (Heap.get?_push_size _ rfl))))
  simp only [z] at g5 g4 g3 g2
  refine callType_new F.called_zip (by decide) (F.typeCall_zip_2 _ _) (F.newCall_zip_2 _ _) (fun obj => F.args_object_init_3 obj _ _) F.entry_zip_new (zt_meets l1 l2 xs ys) ⟨hl1, hl2, ⟨_, g5, rfl⟩, h _ ⟨g5, g3, ⟨_, _, g4⟩, ⟨_, g1, rfl, rfl⟩, ⟨_, g2, rfl, rfl⟩, hl1.at fun o e => keep _ o e, let ⟨o, e, r⟩ := hl2; ⟨o, keep _ o e, r⟩⟩ keep⟩
end

section
variable {prog : Program} {w : World} {b : Bx} {h0 : Heap} {A : Around} {s : Shared} {n : Nat} {U : Addr → Prop} {E : Value → Shared → Prop}
/-- zip of a list and a tuple that is no shorter -/
theorem iter_ziptup (hh : A.handled = none) (H : Hy b h0 n U s.heap) (ok : BxOk b) {elts : List Expr} {kk : Nat} {tp : Pos} {l1 l2 : Addr} {vs us : List Value} {xs ys : List PyData} {Q : Value → Shared → Prop}
    (hL1 : s.heap.IsList l1 vs.toArray) (hL2 : s.heap.IsTuple l2 us.toArray) (hl1 : ¬ U l1) (hl2 : ¬ U l2) (r1 : RepL s.heap U vs xs) (r2 : RepL s.heap U us ys) (hle : xs.length ≤ ys.length)
    (h : ∀ it s', SS b n n s s' → MK U s.heap s'.heap → Turns prog w A U s.heap s'.heap (.Tuple elts kk tp) it (zipItems xs ys) → Q it s') :
    wpAny (model prog w) A (call (.type "zip") [.ref l1, .ref l2]) (fun x s₁ => wpAny (model prog w) A (pyIter x) Q E s₁) E s := by
  obtain ⟨o1, e1, _⟩ := id hL1
  obtain ⟨o2, e2, _⟩ := id hL2
  have g1 : l1 < s.heap.objs.size := lt_of_get e1
  have g2 : l2 < s.heap.objs.size := lt_of_get e2
  refine zt_new hL1 hL2 fun h' Z hk => ?_
  refine wpAny_pyIter_zip Z.zip (h _ _ (SS.of (tk := s.toks) ok H.inv hk) (MK.all hk) ?_)
  have hTT : s.heap.objs.size + 2 ≠ s.heap.objs.size + 3 := by (first | lia | omega)
  have hTl : l2 ≠ s.heap.objs.size + 3 := Nat.ne_of_lt (Nat.lt_of_lt_of_le g2 (Nat.le_add_right _ 3))
  have hlen : (zipItems xs ys).length = vs.length := by rw [zipItems_len, r1.length]; (first | lia | omega)
  generalize hz : s.heap.objs.size + 4 = z at Z
  generalize hTI : s.heap.objs.size + 2 = TI at Z hTT
  generalize hTO : s.heap.objs.size + 3 = TO at Z hTT hTl
  generalize hi1 : s.heap.objs.size = i1 at Z
  generalize hi2 : i1 + 1 = i2 at Z
  have fr : ∀ j, s.heap.objs.size ≤ j → s.heap.get? j = none := fun j hj => none_of_ge hj
  have zat : ∀ {g g' : Heap} {k : Nat} {f0 : Value}, ZT g z TI TO i1 i2 l1 l2 k vs.toArray us.toArray f0 → (∀ c ∈ [z, TI, TO, i1, i2, l1, l2], ∀ o, g.get? c = some o → g'.get? c = some o) → ZT g' z TI TO i1 i2 l1 l2 k vs.toArray us.toArray f0 := fun {g g' k f0} Z hk => by
    obtain ⟨z1, z2, ⟨a, c, z3⟩, ⟨o4, e4, r4⟩, ⟨o5, e5, r5⟩, ⟨o6, e6, r6⟩, ⟨o7, e7, r7⟩⟩ := Z
    exact ⟨hk _ (by simp) _ z1, hk _ (by simp) _ z2, ⟨a, c, hk _ (by simp) _ z3⟩, ⟨o4, hk _ (by simp) _ e4, r4⟩, ⟨o5, hk _ (by simp) _ e5, r5⟩, ⟨o6, hk _ (by simp) _ e6, r6⟩, ⟨o7, hk _ (by simp) _ e7, r7⟩⟩
  refine ⟨z, [z, TI, TO, i1, i2, l1, l2], [z, TO, i1, i2], fun i v g => ∃ T x y, v = .ref T ∧ vs[i]? = some x ∧ us[i]? = some y ∧ g.IsTuple T #[x, y],
    fun i v g => ∃ T x y, v = .ref T ∧ vs[i]? = some x ∧ us[i]? = some y ∧ IsPair g T x y ∧ ZT g z TI TO i1 i2 l1 l2 (i + 1) vs.toArray us.toArray (rawInt T),
    fun i g => ZT g z TI TO i1 i2 l1 l2 i vs.toArray us.toArray .none, rfl, ?_, Z, ?_, ?_, ?_, ?_, ?_⟩
  · rw [hlen]
    refine { sub := fun c hc => by simp only [List.mem_cons, List.not_mem_nil, or_false] at hc ⊢; rcases hc with q | q | q | q <;> simp [q], frame := fun i g g' st hk => zat st hk, item := fun i st Q E hi Z hQ => ?_, go := fun i v st Q E hm hQ => ?_, done := fun st Q E Z hQ => ?_ }
    · have hiu : i < us.length := by rw [r2.length]; rw [r1.length] at hi; (first | lia | omega)
      refine zt_item (x := vs[i]) (y := us[i]) Z hTT hTl (by simp [hi]) (by simp [hiu]) fun g' Z' hp hk => ?_
      exact hQ _ g' st.toks ⟨_, _, _, rfl, List.getElem?_eq_getElem hi, List.getElem?_eq_getElem hiu, hp, Z'⟩ fun c o hc e => by
        simp only [List.mem_cons, List.not_mem_nil, or_false, not_or] at hc
        exact hk c o hc.1 hc.2.1 hc.2.2.1 hc.2.2.2 e
    · obtain ⟨T, x, y, rfl, hx, hy, hp, Z⟩ := hm
      have hTz : T ≠ z := fun q => by
        subst q
        have e : st.heap.get? T = _ := Z.zip
        have e2 : st.heap.get? T = _ := hp
        rw [e2] at e
        have := congrArg Obj.cls (Option.some.inj e)
        simp at this
      obtain ⟨dTIz, dTOz, d1z, d2z, _, _, _, _, _, dl1z, _, _, _, dl2z, _, _⟩ := zt_get Z hTT hTl
      refine wpAny_letOwnedTupleGo_zip Z.zip fun g' hz' hs' => ?_
      have up : ∀ c o, c ≠ z → st.heap.get? c = some o → g'.get? c = some o := fun c o a1 e => (hs'.2 c a1).trans e
      refine hQ g' ⟨T, x, y, rfl, hx, hy, ⟨_, up _ _ hTz hp, rfl, 0, rfl⟩⟩ ?_ fun c o hc e => up c o (fun q => hc (by rw [q]; exact .head _)) e
      obtain ⟨z1, z2, ⟨a, c, z3⟩, ⟨o4, e4, r4⟩, ⟨o5, e5, r5⟩, ⟨o6, e6, r6⟩, ⟨o7, e7, r7⟩⟩ := Z
      exact ⟨hz', up _ _ dTIz z2, ⟨a, c, up _ _ dTOz z3⟩, ⟨o4, up _ _ d1z e4, r4⟩, ⟨o5, up _ _ d2z e5, r5⟩, ⟨o6, up _ _ dl1z e6, r6⟩, ⟨o7, up _ _ dl2z e7, r7⟩⟩
    · refine zt_end hh Z hTT hTl (by simp) fun g' hk => hQ g' st.toks fun c o hc e => by
        simp only [List.mem_cons, List.not_mem_nil, or_false, not_or] at hc
        exact hk c o hc.1 hc.2.1 hc.2.2.1 hc.2.2.2 e
  · obtain ⟨z1, z2, ⟨a, c, z3⟩, ⟨o4, e4, _⟩, ⟨o5, e5, _⟩, _, _⟩ := Z
    intro q hq
    simp only [List.mem_cons, List.not_mem_nil, or_false] at hq
    rcases hq with rfl | rfl | rfl | rfl | rfl | rfl | rfl
    · exact ⟨H.fresh (fr _ (by (first | lia | omega))), _, z1⟩
    · exact ⟨H.fresh (fr _ (by (first | lia | omega))), _, z2⟩
    · exact ⟨H.fresh (fr _ (by (first | lia | omega))), _, z3⟩
    · exact ⟨H.fresh (fr _ (by (first | lia | omega))), _, e4⟩
    · exact ⟨H.fresh (fr _ (by (first | lia | omega))), _, e5⟩
    · exact ⟨hl1, _, hk _ _ e1⟩
    · exact ⟨hl2, _, hk _ _ e2⟩
  · intro q hq
    simp only [List.mem_cons, List.not_mem_nil, or_false] at hq
    rcases hq with rfl | rfl | rfl | rfl <;> exact fr _ (by (first | lia | omega))
  · intro i g Z q hq
    obtain ⟨z1, z2, ⟨a, c, z3⟩, ⟨o4, e4, c4, d4⟩, ⟨o5, e5, c5, d5⟩, _, _⟩ := Z
    simp only [List.mem_cons, List.not_mem_nil, or_false] at hq
    rcases hq with rfl | rfl | rfl | rfl
    · exact ⟨_, z1, by simp, (fun _ _ q => nomatch q), fun _ q => nomatch q⟩
    · exact ⟨_, z3, by simp, (fun _ _ q => nomatch q), fun _ q => nomatch q⟩
    · exact ⟨o4, e4, by rw [c4]; decide, fun _ _ q => by (rw [d4] at q; cases q), fun _ q => by (rw [d4] at q; cases q)⟩
    · exact ⟨o5, e5, by rw [c5]; decide, fun _ _ q => by (rw [d5] at q; cases q), fun _ q => by (rw [d5] at q; cases q)⟩
  · rintro i v g U' ⟨T, x, y, rfl, hx, hy, hT⟩ hU' hk'
    have q1 : i < xs.length := by rw [← r1.length]; exact (List.getElem?_eq_some_iff.mp hx).1
    have q2 : i < ys.length := by rw [← r2.length]; exact (List.getElem?_eq_some_iff.mp hy).1
    obtain ⟨x', ex, qx⟩ := ((r1.more hU').mk hk').get (List.getElem?_eq_getElem q1)
    obtain ⟨y', ey, qy⟩ := ((r2.more hU').mk hk').get (List.getElem?_eq_getElem q2)
    rw [hx] at ex; cases ex
    rw [hy] at ey; cases ey
    exact ⟨_, zipItems_get xs ys i (List.getElem?_eq_getElem q1) (List.getElem?_eq_getElem q2), pair_ok hT qx qy⟩
  · intro s' Q E st q
    exact wpAny_pyIter_zip st.zip q
end

theorem varAt_set (ρ : REnv) (i j : Nat) (x : Option Var) : varAt (ρ.set i x) j = if i = j ∧ i < ρ.length then x else varAt ρ j := by
  unfold varAt
  rw [List.getElem?_set]
  by_cases h : i = j
  · subst h
    by_cases hl : i < ρ.length
    · simp [hl]
    · simp [hl]
  · simp [h]

theorem ns_uniq {h : Heap} {a : Addr} {m m' : Str → Option Value} (x : h.Ns a m) (y : h.Ns a m') : m = m' := by
  obtain ⟨o, es, ep, ho, hd, _, f⟩ := x
  obtain ⟨o', es', ep', ho', hd', _, f'⟩ := y
  rw [ho] at ho'; cases ho'
  rw [hd] at hd'; cases hd'
  funext n
  rw [← f n, ← f' n]
theorem ns_cell_ne {h : Heap} {a c : Addr} {m : Str → Option Value} {v : Option Value} (x : h.Ns a m) (y : h.IsCell c v) : a ≠ c := fun e => by
  subst e
  obtain ⟨o, es, ep, ho, hd, _⟩ := x
  obtain ⟨o', ho', hd'⟩ := y
  rw [ho] at ho'; cases ho'
  rw [hd] at hd'; cases hd'
theorem cell_uniq {h : Heap} {c : Addr} {v v' : Option Value} (x : h.IsCell c v) (y : h.IsCell c v') : v = v' := by
  obtain ⟨o, ho, hd⟩ := x
  obtain ⟨o', ho', hd'⟩ := y
  rw [ho] at ho'; cases ho'
  rw [hd] at hd'; cases hd'; rfl

section
variable {prog : Program} {w : World} {b : Bx} {fns : List (Str × Addr)} {h0 : Heap} {D : Nat} {S : Spec} {sc : Sc} {env : Env} {A : Around} {s : Shared} {n : Nat} {U : Addr → Prop} {ρ : REnv} {E : Value → Shared → Prop}

/-- the frame's objects: no list -/
theorem frame_not {a0 : Addr} {h : Heap} (fr : FrO h U env sc) (ha : a0 = env.locals ∨ ∃ x, env.cells.lookup x = some a0) : ∃ o, h.get? a0 = some o ∧ ∀ vs k, o.data ≠ .seq vs k := by
  rcases ha with rfl | ⟨x, hx⟩
  · obtain ⟨m, o, es, ep, ho, hd, _⟩ := fr.ns
    exact ⟨o, ho, fun vs k e => by rw [hd] at e; cases e⟩
  · obtain ⟨v, o, ho, hd⟩ := fr.cell x a0 hx
    exact ⟨o, ho, fun vs k e => by rw [hd] at e; cases e⟩
theorem frame_U {a0 : Addr} {h : Heap} (fr : FrO h U env sc) (ha : a0 = env.locals ∨ ∃ x, env.cells.lookup x = some a0) : U a0 := by
  rcases ha with rfl | ⟨x, hx⟩
  · exact fr.uL
  · exact fr.uC x a0 hx
theorem plain_not {a a0 : Addr} {h : Heap} {its : Array Value} {o : Obj} (hp : h.PlainList a its) (e : h.get? a0 = some o) (hn : ∀ vs k, o.data ≠ .seq vs k) : a ≠ a0 := fun q => by
  subst q
  obtain ⟨k, e'⟩ := hp
  rw [e] at e'; cases e'
  exact hn _ _ rfl
theorem mk_same {a0 : Addr} {h h' : Heap} (hu : U a0) (hs : Heap.SameBut a0 h h') : MK U h h' := fun a o c e => by rw [hs.2 a (fun q => c (q ▸ hu))]; exact e

/-- one object of the frame's own is turned: what is known of the run -/
theorem Hy.touch {h h' : Heap} {a0 : Addr} (ok : BxOk b) (H : Hy b h0 n U h) (hu : U a0) (hb : ¬ b.set a0) (hs : Heap.SameBut a0 h h') (h1 : ∃ o, h'.get? a0 = some o) : Hy b h0 n U h' := by
  refine ⟨fun a o e => ?_, ok.keep n h h' (fun a o hb' e => ?_) H.inv, H.sub, fun a ha => ?_, H.new⟩
  · rw [hs.2 a fun q => H.new a o e (q ▸ hu)]; exact H.base a o e
  · rw [hs.2 a fun q => hb (q ▸ hb')]; exact e
  · by_cases q : a = a0
    · rw [q]; exact h1
    · obtain ⟨o, e⟩ := H.off a ha
      exact ⟨o, by rw [hs.2 a q]; exact e⟩

theorem cStore_some {x : Str} {i : Nat} (e : cStore sc x = some i) : sc.slots.lookup x = some i ∧ (sc.names.lookup x = some .local ∨ sc.names.lookup x = some .cell) := by
  unfold cStore at e
  split at e
  · rename_i h; exact ⟨e, .inl h⟩
  · rename_i h; exact ⟨e, .inr h⟩
  · cases e

/-- a store into the frame, told slot by slot -/
theorem store_core {f : Nat → Value} {x : Str} {i : Nat} {v : Value} {var : Var} {Q : Unit → Shared → Prop} (ok : BxOk b) (rm : Rm A D) (hy : Hy b h0 n U s.heap) (es : EnvS env sc) (ef : EnvF b s.heap U env sc ρ f) (len : ρ.length = sc.len)
    (fr : FrO s.heap U env sc) (wf : Wf sc) (fl : Fl b U env) (e : cStore sc x = some i) (r : VarOk b s.heap U v var)
    (hv : ∀ l, var = .own l → ∀ y j l', sc.slots.lookup y = some j → j ≠ i → varAt ρ j = some (.own l') → f j ≠ v)
    (h : ∀ h' tk a0, (a0 = env.locals ∨ (sc.names.lookup x = some .cell ∧ env.cells.lookup x = some a0)) → Heap.SameBut a0 s.heap h' → HH b h0 D sc env A { s with heap := h', toks := tk } n U (ρ.set i (some var)) → EnvF b h' U env sc (ρ.set i (some var)) (fun j => if j = i then v else f j) → Q () { s with heap := h', toks := tk }) :
    wpAny (model prog w) A (storeName env x v) Q E s := by
  obtain ⟨hx, hk⟩ := cStore_some e
  have key : ∀ h' tk a0, (a0 = env.locals ∨ (sc.names.lookup x = some .cell ∧ env.cells.lookup x = some a0)) → Heap.SameBut a0 s.heap h' → (∃ m, h'.Ns env.locals m) → (∀ y c, env.cells.lookup y = some c → ∃ v, h'.IsCell c v) →
      VarAt h' env x v → (∀ y u, y ≠ x → VarAt s.heap env y u → VarAt h' env y u) → HH b h0 D sc env A { s with heap := h', toks := tk } n U (ρ.set i (some var)) ∧ EnvF b h' U env sc (ρ.set i (some var)) (fun j => if j = i then v else f j) := by
    intro h' tk a0 ha hs hns hce hxv hyv
    have hfr : a0 = env.locals ∨ ∃ x, env.cells.lookup x = some a0 := ha.imp id fun q => ⟨x, q.2⟩
    obtain ⟨o0, e0, d0⟩ := frame_not fr hfr
    have hu := frame_U fr hfr
    have hb : ¬ b.set a0 := not_box ok hy.inv e0 (.inr d0)
    have hmk := mk_same hu hs
    have vo : ∀ {u : Value} {vr : Var}, VarOk b s.heap U u vr → VarOk b h' U u vr := by
      intro u vr q
      cases vr with
      | val p => exact RepV.mk hmk q
      | own l =>
        obtain ⟨a, vs, e1, hb1, hu1, ⟨k, hp⟩, q⟩ := q
        exact ⟨a, vs, e1, hb1, hu1, ⟨k, by rw [hs.2 a (plain_not ⟨k, hp⟩ e0 d0)]; exact hp⟩, q.mk hmk⟩
    have h1 : ∃ o, h'.get? a0 = some o := by
      rcases ha with rfl | ⟨_, q⟩
      · obtain ⟨m, o, _, _, e, _⟩ := hns; exact ⟨o, e⟩
      · obtain ⟨v, o, e, _⟩ := hce _ _ q; exact ⟨o, e⟩
    suffices EF : EnvF b h' U env sc (ρ.set i (some var)) (fun j => if j = i then v else f j) from
      ⟨⟨rm, hy.touch ok hu hb hs h1, es, ⟨_, EF⟩, by rw [List.length_set]; exact len, ⟨hns, hce, fr.own, fr.inj, fr.uL, fr.uC⟩, wf, fl⟩, EF⟩
    refine ⟨?_, ?_⟩
    · intro y j hy' var' hv'
      rw [varAt_set] at hv'
      by_cases hj : j = i
      · subst hj
        rw [if_pos rfl]
        have : y = x := wf.inj y x j hy' hx
        subst this
        rw [if_pos ⟨rfl, by rw [len]; exact wf.lt y j hx⟩] at hv'
        cases hv'
        exact ⟨hxv, vo r⟩
      · rw [if_neg hj]
        rw [if_neg (fun q => hj q.1.symm)] at hv'
        obtain ⟨q1, q2⟩ := ef.at_ y j hy' var' hv'
        refine ⟨hyv y _ (fun q => hj ?_) q1, vo q2⟩
        rw [q, hx] at hy'
        cases hy'; rfl
    · intro y z j k l l' hy1 hy2 h1 h2 heq
      rw [varAt_set] at h1 h2
      have hil : i < ρ.length := by rw [len]; exact wf.lt x i hx
      by_cases hj : j = i <;> by_cases hk : k = i
      · rw [hj, hk]
      · exfalso
        subst hj
        rw [if_pos rfl, if_neg hk] at heq
        rw [if_pos ⟨rfl, hil⟩] at h1
        rw [if_neg (fun q => hk q.1.symm)] at h2
        cases h1
        exact hv l rfl z k l' hy2 hk h2 heq.symm
      · exfalso
        subst hk
        rw [if_neg hj, if_pos rfl] at heq
        rw [if_pos ⟨rfl, hil⟩] at h2
        rw [if_neg (fun q => hj q.1.symm)] at h1
        cases h2
        exact hv l' rfl y j l hy1 hj h1 heq
      · rw [if_neg hj, if_neg hk] at heq
        rw [if_neg (fun q => hj q.1.symm)] at h1
        rw [if_neg (fun q => hk q.1.symm)] at h2
        exact ef.inj y z j k l l' hy1 hy2 h1 h2 heq
  have kd : env.kindOf x = sc.names.lookup x := by unfold Env.kindOf; rw [es.names]
  rcases hk with hk | hk
  · obtain ⟨m, hm⟩ := fr.ns
    refine wpAny_storeName_local (kd.trans hk) hm (fun h' hn hs => (fun K => h h' _ env.locals (.inl rfl) hs K.1 K.2) (key h' _ env.locals (.inl rfl) hs ⟨_, hn⟩ ?_ ?_ ?_)) (by rw [es.kind]; rfl)
    · intro y c hc
      obtain ⟨v', hc'⟩ := fr.cell y c hc
      exact ⟨v', hc'.sameBut hs (ns_cell_ne hm hc').symm⟩
    · exact .inl ⟨kd.trans hk, _, hn, by simp⟩
    · intro y u hne q
      rcases q with ⟨q1, m', q2, q3⟩ | ⟨q1, c, q2, q3⟩
      · rw [ns_uniq q2 hm] at q3
        exact .inl ⟨q1, _, hn, by simp [hne, q3]⟩
      · exact .inr ⟨q1, c, q2, q3.sameBut hs (ns_cell_ne hm q3).symm⟩
  · obtain ⟨c, hc⟩ := fr.own x (.inl hk)
    obtain ⟨v0, hc0⟩ := fr.cell x c hc
    refine wpAny_storeName_cell es.kind (kd.trans hk) hc hc0 fun h' hn hs => (fun K => h h' s.toks c (.inr ⟨hk, hc⟩) hs K.1 K.2) (key h' s.toks c (.inr ⟨hk, hc⟩) hs ?_ ?_ ?_ ?_)
    · obtain ⟨m, hm⟩ := fr.ns
      exact ⟨m, hm.sameBut hs (ns_cell_ne hm hc0)⟩
    · intro y d hd
      by_cases hy : d = c
      · subst hy; exact ⟨_, hn⟩
      · obtain ⟨v', hd'⟩ := fr.cell y d hd
        exact ⟨v', hd'.sameBut hs hy⟩
    · exact .inr ⟨.inl (kd.trans hk), c, hc, hn⟩
    · intro y u hne q
      rcases q with ⟨q1, m', q2, q3⟩ | ⟨q1, d, q2, q3⟩
      · exact .inl ⟨q1, m', q2.sameBut hs (ns_cell_ne q2 hc0), q3⟩
      · exact .inr ⟨q1, d, q2, q3.sameBut hs fun q => hne (fr.inj y x d q2 (q ▸ hc))⟩

/-- a store of a value that is not turned -/
theorem store_val {x : Str} {i : Nat} {v : Value} {p : PV} {Q : Unit → Shared → Prop} (ok : BxOk b) (H : HH b h0 D sc env A s n U ρ) (e : cStore sc x = some i) (r : RepV b s.heap U v p)
    (h : ∀ h' tk a0, (a0 = env.locals ∨ (sc.names.lookup x = some .cell ∧ env.cells.lookup x = some a0)) → Heap.SameBut a0 s.heap h' → HH b h0 D sc env A { s with heap := h', toks := tk } n U (ρ.set i (some (.val p))) → Q () { s with heap := h', toks := tk }) :
    wpAny (model prog w) A (storeName env x v) Q E s := by
  obtain ⟨f, ef⟩ := H.ee
  exact store_core ok H.rm H.hy H.es ef H.len H.fr H.wf H.fl e (var := .val p) r (fun l q => by cases q) fun h' tk a0 ha hs H' _ => h h' tk a0 ha hs H'

/-- more may be turned: fresh addresses -/
theorem HH.grow {s' : Shared} {n' : Nat} {U' : Addr → Prop} (ok : BxOk b) (H : HH b h0 D sc env A s n U ρ) (k : SS b n n' s s') (hU : ∀ a, U a → U' a) (hN : ∀ a, U' a → U a ∨ (s.heap.get? a = none ∧ ∃ o, s'.heap.get? a = some o)) : HH b h0 D sc env A s' n' U' ρ := by
  have H' := H.step ok k
  obtain ⟨f, ef⟩ := H.ee
  have hm : ∀ a, U' a → U a ∨ s.heap.get? a = none := fun a q => (hN a q).imp id (·.1)
  have hb : ∀ a, b.set a → U' a := fun a q => hU a (H.hy.sub a q)
  have rep : ∀ {v : Value} {p : PV}, RepV b s.heap U v p → RepV b s'.heap U' v p := by
    obtain ⟨h', tk, rfl, k⟩ := k
    exact fun r => (RepV.more hm r).step hb k
  have repL : ∀ {v : List Value} {p : List PyData}, RepL s.heap U v p → RepL s'.heap U' v p := by
    obtain ⟨h', tk, rfl, k⟩ := k
    exact fun r => (RepL.more hm r).step hb k
  refine ⟨H.rm, ⟨H'.hy.base, H'.hy.inv, hb, fun a ha => ?_, fun a o e ha => ?_⟩, H.es, ⟨f, fun x i hx var hv => ?_, ef.inj⟩, H.len, ⟨H'.fr.ns, H'.fr.cell, H'.fr.own, H'.fr.inj, hU _ H.fr.uL, fun x c q => hU _ (H.fr.uC x c q)⟩, H.wf, ⟨fun a q => hU a (H.fl.sub a q), H.fl.loc, H.fl.cel⟩⟩
  · rcases hN a ha with q | ⟨_, q⟩
    · exact H'.hy.off a q
    · exact q
  · rcases hm a ha with q | q
    · exact H.hy.new a o e q
    · rw [H.hy.base a o e] at q; cases q
  · obtain ⟨q1, q2⟩ := ef.at_ x i hx var hv
    obtain ⟨h', tk, rfl, k⟩ := k
    refine ⟨q1.step ok H.hy.inv k, ?_⟩
    cases var with
    | val p => exact rep q2
    | own l =>
      obtain ⟨a, vs, e1, hb1, hu1, ⟨kk, hp⟩, q⟩ := q2
      exact ⟨a, vs, e1, hb1, hU a hu1, ⟨kk, k.1 a _ hb1.1 hp⟩, repL q⟩

/-- the objects of a walk are turned -/
theorem HH.mv {h' : Heap} {tk : Nat} {X : Addr → Prop} (ok : BxOk b) (H : HH b h0 D sc env A s n U ρ) (hX : ∀ a, X a → U a ∧ (∃ o, s.heap.get? a = some o ∧ Itr o) ∧ ∃ o, h'.get? a = some o) (k : ∀ a o, ¬ X a → s.heap.get? a = some o → h'.get? a = some o) :
    HH b h0 D sc env A { s with heap := h', toks := tk } n U ρ := by
  obtain ⟨f, ef⟩ := H.ee
  have hm : MK U s.heap h' := fun a o c e => k a o (fun q => c (hX a q).1) e
  have hl : ∀ a o, s.heap.get? a = some o → (o.cls = .type "list" ∨ (∃ es ep, o.data = .dict es ep) ∨ ∃ v, o.data = .cell v) → h'.get? a = some o := fun a o e c => k a o (fun q => by
    obtain ⟨_, ⟨o', e', i1, i2, i3⟩, _⟩ := hX a q
    rw [e] at e'; cases e'
    rcases c with c | ⟨es, ep, c⟩ | ⟨v, c⟩
    · exact i1 c
    · exact i2 es ep c
    · exact i3 v c) e
  have hns : ∀ {C : Addr} {m : Str → Option Value}, s.heap.Ns C m → h'.Ns C m := fun ⟨o, es, ep, ho, hd, r⟩ => ⟨o, es, ep, hl _ _ ho (.inr (.inl ⟨es, ep, hd⟩)), hd, r⟩
  have hce : ∀ {C : Addr} {m : Option Value}, s.heap.IsCell C m → h'.IsCell C m := fun ⟨o, ho, hd⟩ => ⟨o, hl _ _ ho (.inr (.inr ⟨_, hd⟩)), hd⟩
  refine ⟨H.rm, ⟨fun a o e => ?_, ok.keep n s.heap h' (fun a o hb e => ?_) H.hy.inv, H.hy.sub, fun a ha => ?_, H.hy.new⟩, H.es, ⟨f, fun x i hx var hv => ?_, ef.inj⟩, H.len,
    ⟨H.fr.ns.imp fun m => hns, fun x c e => (H.fr.cell x c e).imp fun v => hce, H.fr.own, H.fr.inj, H.fr.uL, H.fr.uC⟩, H.wf, H.fl⟩
  · exact hm a o (H.hy.new a o e) (H.hy.base a o e)
  · obtain ⟨o', e', c, _⟩ := ok.there n s.heap a H.hy.inv hb
    rw [e] at e'; cases e'
    exact hl a o e (.inl c)
  · by_cases hx : X a
    · exact (hX a hx).2.2
    · obtain ⟨o, e⟩ := H.hy.off a ha
      exact ⟨o, k a o hx e⟩
  · obtain ⟨q1, q2⟩ := ef.at_ x i hx var hv
    constructor
    · rcases q1 with ⟨hk, m, q, e⟩ | ⟨hk, c, hc, q⟩
      · exact .inl ⟨hk, m, hns q, e⟩
      · exact .inr ⟨hk, c, hc, hce q⟩
    · cases var with
      | val p => exact RepV.mk hm q2
      | own l =>
        obtain ⟨a, vs, e1, hb1, hu1, ⟨kk, hp⟩, q⟩ := q2
        exact ⟨a, vs, e1, hb1, hu1, ⟨kk, hl _ _ hp (.inl rfl)⟩, q.mk hm⟩
/-- a walk is over: its objects are let go -/
theorem HH.out {h' : Heap} {tk : Nat} {X : Addr → Prop} (ok : BxOk b) (H : HH b h0 D sc env A s n U ρ) (hX : ∀ a, X a → U a ∧ (∃ o, s.heap.get? a = some o ∧ Itr o)) (hXf : ∀ a, X a → ¬ b.floor a) (k : ∀ a o, ¬ X a → s.heap.get? a = some o → h'.get? a = some o) :
    HH b h0 D sc env A { s with heap := h', toks := tk } n (fun a => U a ∧ ¬ X a) ρ := by
  obtain ⟨f, ef⟩ := H.ee
  have hm : MK U s.heap h' := fun a o c e => k a o (fun q => c (hX a q).1) e
  have nX : ∀ a o, s.heap.get? a = some o → (o.cls = .type "list" ∨ (∃ es ep, o.data = .dict es ep) ∨ ∃ v, o.data = .cell v) → ¬ X a := fun a o e c q => by
    obtain ⟨_, ⟨o', e', i1, i2, i3⟩⟩ := hX a q
    rw [e] at e'; cases e'
    rcases c with c | ⟨es, ep, c⟩ | ⟨v, c⟩
    · exact i1 c
    · exact i2 es ep c
    · exact i3 v c
  have nsX : ∀ {C : Addr} {m : Str → Option Value}, s.heap.Ns C m → ¬ X C := fun ⟨o, es, ep, ho, hd, r⟩ => nX _ _ ho (.inr (.inl ⟨es, ep, hd⟩))
  have ceX : ∀ {C : Addr} {m : Option Value}, s.heap.IsCell C m → ¬ X C := fun ⟨o, ho, hd⟩ => nX _ _ ho (.inr (.inr ⟨_, hd⟩))
  have hns : ∀ {C : Addr} {m : Str → Option Value}, s.heap.Ns C m → h'.Ns C m := fun q => let ⟨o, es, ep, ho, r⟩ := q; ⟨o, es, ep, k _ _ (nsX q) ho, r⟩
  have hce : ∀ {C : Addr} {m : Option Value}, s.heap.IsCell C m → h'.IsCell C m := fun q => let ⟨o, ho, hd⟩ := q; ⟨o, k _ _ (ceX q) ho, hd⟩
  have hb : ∀ a, b.set a → U a ∧ ¬ X a := fun a q => by
    obtain ⟨o', e', c, _⟩ := ok.there n s.heap a H.hy.inv q
    exact ⟨H.hy.sub a q, nX a o' e' (.inl c)⟩
  obtain ⟨m0, hm0⟩ := H.fr.ns
  refine ⟨H.rm, ⟨fun a o e => hm a o (H.hy.new a o e) (H.hy.base a o e), ok.keep n s.heap h' (fun a o q e => k a o (hb a q).2 e) H.hy.inv, hb, fun a ha => ?_, fun a o e q => H.hy.new a o e q.1⟩, H.es, ⟨f, fun x i hx var hv => ?_, ef.inj⟩, H.len,
    ⟨H.fr.ns.imp fun m => hns, fun x c e => (H.fr.cell x c e).imp fun v => hce, H.fr.own, H.fr.inj, ⟨H.fr.uL, nsX hm0⟩, fun x c e => ⟨H.fr.uC x c e, by obtain ⟨v, hv⟩ := H.fr.cell x c e; exact ceX hv⟩⟩, H.wf, ⟨fun a q => ⟨H.fl.sub a q, fun z => hXf a z q⟩, H.fl.loc, H.fl.cel⟩⟩
  · obtain ⟨o, e⟩ := H.hy.off a ha.1
    exact ⟨o, k a o ha.2 e⟩
  · obtain ⟨q1, q2⟩ := ef.at_ x i hx var hv
    constructor
    · rcases q1 with ⟨hk, m, q, e⟩ | ⟨hk, c, hc, q⟩
      · exact .inl ⟨hk, m, hns q, e⟩
      · exact .inr ⟨hk, c, hc, hce q⟩
    · cases var with
      | val p => 
        cases p with
        | d x => exact RepD.mono (fun _ q => q.1) (RepD.map (fun a o e _ u => ⟨hm a o u e, u⟩) q2)
        | fn a => exact q2
        | bench => exact q2
      | own l =>
        obtain ⟨a, vs, e1, hb1, hu1, ⟨kk, hp⟩, q⟩ := q2
        have na := nX _ _ hp (.inl rfl)
        exact ⟨a, vs, e1, hb1, ⟨hu1, na⟩, ⟨kk, k _ _ na hp⟩, RepL.mono (fun _ q => q.1) (RepL.map (fun a o e _ u => ⟨hm a o u e, u⟩) q)⟩
end

section
variable {prog : Program} {w : World} {b : Bx} {fns : List (Str × Addr)} {h0 : Heap} {D : Nat} {S : Spec} {sc : Sc} {env : Env} {A : Around} {s : Shared} {n : Nat} {U : Addr → Prop} {ρ : REnv} {E : Value → Shared → Prop}

noncomputable def tgHas : Tg → Nat → Prop
  | .one j, i => i = j
  | .tup l, i => i ∈ l
/-- where a target's stores go -/
noncomputable def TgA (env : Env) (sc : Sc) (t : Tg) (a : Addr) : Prop := a = env.locals ∨ ∃ x i, sc.slots.lookup x = some i ∧ tgHas t i ∧ sc.names.lookup x = some .cell ∧ env.cells.lookup x = some a
/-- after the stores -/
noncomputable def BindPost (b : Bx) (h0 : Heap) (D : Nat) (sc : Sc) (env : Env) (A : Around) (n : Nat) (U : Addr → Prop) (F : Addr → Prop) (s : Shared) (K : REnv → Prop) (s' : Shared) : Prop :=
  ∃ ρ' h' tk, s' = { s with heap := h', toks := tk } ∧ K ρ' ∧ HH b h0 D sc env A s' n U ρ' ∧ ∀ a o, ¬ F a → s.heap.get? a = some o → h'.get? a = some o

theorem tgA_U {t : Tg} {a : Addr} (H : HH b h0 D sc env A s n U ρ) (h : TgA env sc t a) : U a := by
  rcases h with rfl | ⟨x, i, _, _, _, h⟩
  · exact H.fr.uL
  · exact H.fr.uC x a h

theorem stores_ok (ok : BxOk b) {F : Addr → Prop} (hFU : ∀ a, F a → U a) {K : REnv → Prop} : ∀ (elts : List Expr) (is : List Nat) (vs : List Value) (ys : List PyData) (s : Shared) (ρ : REnv),
    cStores sc elts = some is → (∀ a, TgA env sc (.tup is) a → F a) → RepL s.heap U vs ys → ys.length = is.length → HH b h0 D sc env A s n U ρ → K (setAll ρ is ys) →
    wpAny (model prog w) A (assignInOrder ((assignEach elts env).map (·.2)) vs) (fun _ s' => BindPost b h0 D sc env A n U F s K s') E s
  | [], is, vs, ys, s, ρ, hc, hF, r, hl, H, hK => by
    cases hc
    have : ys = [] := by cases ys with | nil => rfl | cons _ _ => simp at hl
    subst this
    rw [r.nil_inv]
    exact wpAny_pure ⟨ρ, s.heap, s.toks, rfl, hK, H, fun _ _ _ e => e⟩
  | e :: elts, is, vs, ys, s, ρ, hc, hF, r, hl, H, hK => by
    unfold cStores at hc
    split at hc
    · rename_i hnil; cases hnil
    · rename_i x p r' heq
      cases heq
      split at hc
      · rename_i i is' h1 h2
        cases hc
        cases ys with
        | nil => simp at hl
        | cons y ys =>
          obtain ⟨v, vs', rfl, rv, rvs⟩ := r.inv
          have hx := cStore_some h1
          refine wpAny_assignInOrder_more (wpAny_assign_Name (store_val ok H h1 (p := .d y) rv fun h' tk a0 ha hs H' => ?_))
          have hF0 : F a0 := hF a0 (ha.imp id fun q => ⟨x, i, hx.1, List.mem_cons_self, q.1, q.2⟩)
          have hmk : MK U s.heap h' := mk_same (hFU _ hF0) hs
          refine wpAny_mono (stores_ok ok hFU _ is' vs' ys _ _ h2 (fun a q => hF a (q.imp id fun ⟨z, j, z1, z2, z3⟩ => ⟨z, j, z1, List.mem_cons_of_mem _ z2, z3⟩)) (rvs.mk hmk) (by simpa using hl) H' hK) (fun _ s' q => ?_) fun _ _ e => e
          obtain ⟨ρ', h'', tk', rfl, q1, q2, q3⟩ := q
          exact ⟨ρ', h'', tk', rfl, q1, q2, fun a o na e => q3 a o na (by rw [hs.2 a fun z => na (z ▸ hF0)]; exact e)⟩
      · cases hc
    · cases hc
theorem stores_shape : ∀ (elts : List Expr) (is : List Nat), cStores sc elts = some is → (assignEach elts env).length = is.length ∧ (assignEach elts env).findIdx? (·.1) = none
  | [], is, hc => by cases hc; exact ⟨rfl, rfl⟩
  | e :: elts, is, hc => by
    unfold cStores at hc
    split at hc
    · rename_i hnil; cases hnil
    · rename_i x p r' heq
      cases heq
      split at hc
      · rename_i i is' h1 h2
        cases hc
        obtain ⟨q1, q2⟩ := stores_shape elts is' h2
        have he : assignEach (.Name x p :: elts) env = (false, assign (.Name x p) env) :: assignEach elts env := rfl
        rw [he]
        refine ⟨by simp [q1], ?_⟩
        rw [List.findIdx?_cons]
        simp [q2]
      · cases hc
    · cases hc

/-- a target is bound -/
theorem bind_ok (ok : BxOk b) {target : Expr} {t : Tg} {v : Value} {x : PyData} {K : REnv → Prop} (hc : cTg sc target = some t) (r : ItemOk target s.heap U v x) (H : HH b h0 D sc env A s n U ρ) (hK : bindT t x ρ K) :
    wpAny (model prog w) A (assign target env v) (fun _ s' => BindPost b h0 D sc env A n U (TgA env sc t) s K s') E s := by
  unfold cTg at hc
  split at hc
  · rename_i y p
    obtain ⟨i, h1, rfl⟩ := Option.map_eq_some_iff.mp hc
    have rv : RepD s.heap U v x := by
      rcases r with r | ⟨q, _⟩
      · exact r
      · cases q
    have hx := cStore_some h1
    refine wpAny_assign_Name (store_val ok H h1 (p := .d x) rv fun h' tk a0 ha hs H' => ⟨_, h', tk, rfl, hK, H', fun a o na e => ?_⟩)
    rw [hs.2 a fun z => na ?_]; exact e
    rw [z]
    exact ha.imp id fun q => ⟨y, i, hx.1, rfl, q.1, q.2⟩
  · rename_i es k p
    split at hc
    · rename_i is h1
      split at hc
      · cases hc
        cases x with
        | tuple xs =>
          obtain ⟨hl, hK⟩ := hK
          have ht : ∃ T vs, v = .ref T ∧ s.heap.IsTuple T (List.toArray vs) ∧ RepL s.heap U vs xs := by
            rcases r with r | ⟨_, T, vs, ys, h2, h3, h4, h5⟩
            · obtain ⟨a, o, vs, k, rfl, e1, c1, d1, _, r⟩ := RepD.tuple_inv r
              exact ⟨a, vs, rfl, ⟨o, e1, c1, k, d1⟩, r⟩
            · cases h3
              exact ⟨T, vs, h2, h4, h5⟩
          obtain ⟨T, vs, rfl, hT, rv⟩ := ht
          obtain ⟨q1, q2⟩ := stores_shape (env := env) es is h1
          refine wpAny_assign_Tuple H.rm.handled hT (by rw [q1, ← hl, List.size_toArray, rv.length]) q2 fun h' hx => ?_
          have hk : ∀ a o, s.heap.get? a = some o → h'.get? a = some o := fun a o e => hx a o (Nat.ne_of_lt (lt_of_get e)) e
          have hs : SS b n n s { s with heap := h' } := SS.of (tk := s.toks) ok H.hy.inv hk
          refine wpAny_mono (stores_ok ok (fun a q => tgA_U H q) es is vs xs _ ρ h1 (fun a q => q) (rv.keep hk) hl (H.step ok hs) hK) (fun _ s' q => ?_) fun _ _ e => e
          obtain ⟨ρ', h'', tk', rfl, q1, q2, q3⟩ := q
          exact ⟨ρ', h'', tk', rfl, q1, q2, fun a o na e => q3 a o na (hk a o e)⟩
        | _ => exact hK.elim
      · cases hc
    · cases hc
  · cases hc

/-- a source of turns -/
noncomputable def GoodSr (prog : Program) (w : World) (b : Bx) (h0 : Heap) (D : Nat) (S : Spec) (sc : Sc) (e : Expr) (x : Src) : Prop :=
  ∀ target env A s n U ρ Q E, (needT x = true → isTup target = true) → HH b h0 D sc env A s n U ρ → srcP S x ρ n Q → wpAny (model prog w) A (eval e env) (fun v s₁ => wpAny (model prog w) A (pyIter v) (fun it s₂ =>
    ∃ n' xs s₀, SS b n n' s s₀ ∧ SS b n' n' s₀ s₂ ∧ Turns prog w A U s₀.heap s₂.heap target it xs ∧ xs.length ≤ 2 ^ 20 ∧ Q xs n') E s₁) E s

theorem tup_of {e : Expr} (h : isTup e = true) : ∃ es k p, e = .Tuple es k p := by
  cases e <;> first | exact ⟨_, _, _, rfl⟩ | (simp [isTup] at h)

theorem goodSr_of (ok : BxOk b) {e : Expr} {x : Ex} (g : GoodE prog w b h0 D S sc e x) : GoodSr prog w b h0 D S sc e (.of x) := by
  intro target env A s n U ρ Q E ht H hQ
  refine wpAny_mono (g env A s n U ρ _ E H hQ) (fun v s₁ h₁ => ?_) fun _ _ h => h
  obtain ⟨p, n₁, k₁, r₁, q₁⟩ := h₁
  obtain ⟨l, rfl, q₁⟩ := list1_inv q₁
  obtain ⟨a, o, vs, k, rfl, e1, c1, d1, hu, r⟩ := RepD.list_inv r₁
  exact iter_list H.rm.handled (H.hy.stepS ok k₁) ok ⟨o, e1, c1, k, d1⟩ hu r fun it h' k₂ _ T => ⟨n₁, _, s₁, k₁, k₂, T, q₁.1, q₁.2⟩

theorem rng_nonneg (a e c : Int) : 0 ≤ Builtin.Range.rangeSize a e c := by
  unfold Builtin.Range.rangeSize
  split
  · split
    · have := Int.ediv_nonneg (a := e - a - 1) (b := c) (by (first | lia | omega)) (by (first | lia | omega)); (first | lia | omega)
    · (first | lia | omega)
  · split
    · have := Int.ediv_nonneg (a := a - e - 1) (b := -c) (by (first | lia | omega)) (by (first | lia | omega)); (first | lia | omega)
    · (first | lia | omega)
theorem rng_one (a e : Int) : Builtin.Range.rangeSize a e 1 = if a < e then e - a else 0 := by
  unfold Builtin.Range.rangeSize
  rw [if_pos (by (first | lia | omega))]
  split
  · rw [Int.ediv_one]; (first | lia | omega)
  · rfl
theorem fits {a : Int} (h : a.natAbs < 2 ^ 62) : Builtin.Range.rangeFitsLong a = true := by
  unfold Builtin.Range.rangeFitsLong
  simp only [Bool.and_eq_true, decide_eq_true_eq]
  (first | lia | omega)
theorem rng_small {a e c : Int} (ha : small a) (he : small e) (hc : small c) (hr : Builtin.Range.rangeSize a e c ≤ 2 ^ 20) : Builtin.Range.small a e c = true := by
  have := rng_nonneg a e c
  unfold small at ha he hc
  unfold Builtin.Range.small
  rw [fits (by (first | lia | omega)), fits (by (first | lia | omega)), fits (by (first | lia | omega)), fits (by (first | lia | omega))]
  split
  · rw [fits (by omega)]; simp
  · rw [fits (by omega)]; simp

theorem range_src (ok : BxOk b) {n₁ : Nat} {s₁ : Shared} {vs : List Value} {ps : List PV} {target : Expr} {Q : List PyData → Nat → Prop} (rm : Rm A D) (H : Hy b h0 n₁ U s₁.heap) (k₁ : SS b n n₁ s s₁) (r : RepVs b s₁.heap U vs ps) (q : rngP ps fun r => Q r n₁) :
    wpAny (model prog w) A (call (.type "range") vs) (fun v s₂ => wpAny (model prog w) A (pyIter v) (fun it s₃ =>
      ∃ n' xs s₀, SS b n n' s s₀ ∧ SS b n' n' s₀ s₃ ∧ Turns prog w A U s₀.heap s₃.heap target it xs ∧ xs.length ≤ 2 ^ 20 ∧ Q xs n') E s₂) E s₁ := by
  have fin : ∀ {a c e : Int} {t u v : Tok} {tk : Nat}, Builtin.Range.small a c e = true → Builtin.Range.rangeSize a c e ≤ 2 ^ 20 → Q (rngItems a e (Builtin.Range.rangeSize a c e).toNat) n₁ →
      wpAny (model prog w) A (pyIter (.ref s₁.heap.objs.size)) (fun it s₃ => ∃ n' xs s₀, SS b n n' s s₀ ∧ SS b n' n' s₀ s₃ ∧ Turns prog w A U s₀.heap s₃.heap target it xs ∧ xs.length ≤ 2 ^ 20 ∧ Q xs n') E
        { s₁ with heap := s₁.heap.push { cls := .type "range", data := .fields #[.int a t, .int c u, .int e v] }, toks := tk } := by
    intro a c e t u v tk hs hsz hq
    have hk : SS b n₁ n₁ s₁ { s₁ with heap := s₁.heap.push { cls := .type "range", data := .fields #[.int a t, .int c u, .int e v] }, toks := tk } := SS.of ok H.inv (push_keep _ _)
    exact iter_range rm.handled (H.stepS ok hk) ok (Heap.get?_push_size _ rfl) hs fun it h' k₂ _ T => ⟨n₁, _, _, k₁.trans hk, k₂, T, (by unfold rngItems; rw [List.length_map, List.length_range]; (first | lia | omega)), hq⟩
  match ps, q, vs, r with
  | [x], q, [v], r =>
    obtain ⟨a, rfl, q⟩ := int1_inv q
    obtain ⟨t, rfl⟩ := RepD.int_inv r.1
    exact call_range_1 (fin (rng_small (by unfold small; decide) q.1 (by unfold small; decide) (by rw [rng_one]; split <;> (first | lia | omega))) (by rw [rng_one]; split <;> (first | lia | omega)) q.2.2)
  | [x, y], q, [v, u], r =>
    obtain ⟨a, c, rfl, rfl, q⟩ := int2_inv q
    obtain ⟨t, rfl⟩ := RepD.int_inv r.1
    obtain ⟨t', rfl⟩ := RepD.int_inv r.2.1
    exact call_range_2 (fin (rng_small q.1 q.2.1 (by unfold small; decide) (by rw [rng_one]; split <;> (first | lia | omega))) (by rw [rng_one]; split <;> (first | lia | omega)) q.2.2.2)
  | [x, y, z], q, [v, u, y'], r =>
    obtain ⟨a, c, rfl, rfl, q⟩ := int2_inv q
    obtain ⟨d, rfl, q1, q2, q3, q4, q5, q6⟩ := int1_inv q
    obtain ⟨t, rfl⟩ := RepD.int_inv r.1
    obtain ⟨t', rfl⟩ := RepD.int_inv r.2.1
    obtain ⟨t'', rfl⟩ := RepD.int_inv r.2.2.1
    exact call_range_3 q4 (fin (rng_small q1 q2 q3 q5) q5 q6) (.inl (PyProof.noPylong_small (by unfold small at q3; omega)))

theorem goodSr_rng (ok : BxOk b) (G : Grd fns h0) {x : Str} {np pos : Pos} {es : List Expr} {l : ExL} (hd : (x == ("__debug__" : Str)) = false) (e : cBi sc x = some .rng) (hs : NoStar es) (g : GoodL prog w b h0 D S sc es l) :
    GoodSr prog w b h0 D S sc (.Call (.Name x np) es [] pos) (.rng l) := by
  intro target env A s n U ρ Q E ht H hQ
  refine wpAny_Call_NameR (name_bi G H.hy.base H.es hd e ?_)
  exact call_of ok (looks_machine (by intro a; simp [bkVal])) hs g H hQ fun vs ps n' s' k' r q => ⟨trivial, range_src ok H.rm (H.hy.stepS ok k') k' r q⟩
theorem goodSr_zip (ok : BxOk b) (G : Grd fns h0) {x : Str} {np pos : Pos} {es : List Expr} {c d : Ex} (hd : (x == ("__debug__" : Str)) = false) (e : cBi sc x = some .zip) (hs : NoStar es) (g : GoodL prog w b h0 D S sc es (.cons c (.cons d .nil))) :
    GoodSr prog w b h0 D S sc (.Call (.Name x np) es [] pos) (.zip c d) := by
  intro target env A s n U ρ Q E ht H hQ
  obtain ⟨ts, tk, tp, rfl⟩ := tup_of (ht rfl)
  have hQ' : evLP S (.cons c (.cons d .nil)) ρ n (fun xs n => match xs with | [x, y] => zipP x y fun r => Q r n | _ => False) := by
    unfold evLP; unfold evLP; unfold evLP
    exact hQ
  refine wpAny_Call_NameR (name_bi G H.hy.base H.es hd e ?_)
  refine call_of ok (looks_machine (by intro a; simp [bkVal])) hs g H hQ' fun vs ps n' s' k' r q => ⟨trivial, ?_⟩
  have H' := H.hy.stepS ok k'
  match ps, q with
  | [p, q'], q =>
    match vs, r with
    | [v, u], r =>
    dsimp only at q
    obtain ⟨l, rfl, q⟩ := list1_inv q
    obtain ⟨a, o, us, k, rfl, e1, c1, d1, hu1, r1⟩ := RepD.list_inv r.1
    rcases q with q | q
    · obtain ⟨l', rfl, q⟩ := list1_inv q
      obtain ⟨a', o', us', kk, rfl, e2, c2, d2, hu2, r2⟩ := RepD.list_inv r.2.1
      exact iter_zip H.rm.handled H' ok ⟨o, e1, c1, _, d1⟩ ⟨o', e2, c2, _, d2⟩ hu1 hu2 r1 r2 fun it s₂ k₂ _ T => ⟨n', _, s', k', k₂, T, by rw [zipItems_len]; (first | lia | omega), q.2.2⟩
    · obtain ⟨l', rfl, q⟩ := tup1_inv q
      obtain ⟨a', o', us', kk, rfl, e2, c2, d2, hu2, r2⟩ := RepD.tuple_inv r.2.1
      exact iter_ziptup H.rm.handled H' ok ⟨o, e1, c1, _, d1⟩ ⟨o', e2, c2, _, d2⟩ hu1 hu2 r1 r2 q.2.1 fun it s₂ k₂ _ T => ⟨n', _, s', k', k₂, T, by rw [zipItems_len]; (first | lia | omega), q.2.2⟩
theorem goodSr_enm (ok : BxOk b) (G : Grd fns h0) {x : Str} {np pos : Pos} {es : List Expr} {c : Ex} (hd : (x == ("__debug__" : Str)) = false) (e : cBi sc x = some .enm) (hs : NoStar es) (g : GoodL prog w b h0 D S sc es (.cons c .nil)) :
    GoodSr prog w b h0 D S sc (.Call (.Name x np) es [] pos) (.enm c) := by
  intro target env A s n U ρ Q E ht H hQ
  obtain ⟨ts, tk, tp, rfl⟩ := tup_of (ht rfl)
  have hQ' : evLP S (.cons c .nil) ρ n (fun xs n => match xs with | [x] => enmP x fun r => Q r n | _ => False) := by
    unfold evLP; unfold evLP
    exact hQ
  refine wpAny_Call_NameR (name_bi G H.hy.base H.es hd e ?_)
  refine call_of ok (looks_machine (by intro a; simp [bkVal])) hs g H hQ' fun vs ps n' s' k' r q => ⟨trivial, ?_⟩
  have H' := H.hy.stepS ok k'
  match ps, q with
  | [p], q =>
    match vs, r with
    | [v], r =>
    dsimp only at q
    obtain ⟨l, rfl, q⟩ := list1_inv q
    · obtain ⟨a, o, us, k, rfl, e1, c1, d1, hu1, r1⟩ := RepD.list_inv r.1
      exact iter_enum H.rm.handled H' ok ⟨o, e1, c1, _, d1⟩ hu1 r1 fun it s₂ k₂ _ T => ⟨n', _, s', k', k₂, T, by rw [enmFrom_len]; omega, q.2⟩
end

/-! ### the cells of a comprehension -/
theorem cells_old : ∀ (names : List (Str × NameKind)) (n : Nat) (acc : List (Str × Addr)) (x : Str), (x, NameKind.cell) ∉ names → (cellsFrom n names acc).lookup x = acc.lookup x
  | [], _, _, _, _ => rfl
  | (y, k) :: r, n, acc, x, h => by
    unfold cellsFrom
    have hr : (x, NameKind.cell) ∉ r := fun m => h (.tail _ m)
    split
    · rename_i hk
      rw [cells_old r _ _ x hr, List.lookup_cons]
      have : (x == y) = false := by
        cases e : x == y with
        | false => rfl
        | true =>
          exfalso
          apply h
          rw [beq_iff_eq.mp e, beq_iff_eq.mp hk]
          exact .head _
      rw [this]
    · exact cells_old r _ _ x hr
theorem cells_keep : ∀ (names : List (Str × NameKind)) (n n0 : Nat) (acc : List (Str × Addr)) (x : Str), n0 ≤ n → (∃ c, acc.lookup x = some c ∧ n0 ≤ c) → ∃ c, (cellsFrom n names acc).lookup x = some c ∧ n0 ≤ c
  | [], _, _, _, _, _, h => h
  | (y, k) :: r, n, n0, acc, x, hn, h => by
    unfold cellsFrom
    split
    · refine cells_keep r (n + 1) n0 _ x (by (first | lia | omega)) ?_
      rw [List.lookup_cons]
      cases e : x == y with
      | true => exact ⟨n, rfl, hn⟩
      | false => exact h
    · exact cells_keep r n n0 acc x hn h
theorem cells_new : ∀ (names : List (Str × NameKind)) (n : Nat) (acc : List (Str × Addr)) (x : Str), (x, NameKind.cell) ∈ names → ∃ c, (cellsFrom n names acc).lookup x = some c ∧ n ≤ c
  | [], _, _, _, h => nomatch h
  | (y, k) :: r, n, acc, x, h => by
    unfold cellsFrom
    split
    · rename_i hk
      by_cases hr : (x, NameKind.cell) ∈ r
      · obtain ⟨c, h1, h2⟩ := cells_new r (n + 1) ((y, n) :: acc) x hr
        exact ⟨c, h1, by (first | lia | omega)⟩
      · refine cells_keep r (n + 1) n _ x (by (first | lia | omega)) ?_
        rw [List.lookup_cons]
        rcases List.mem_cons.mp h with e | h
        · cases e
          simp
        · exact absurd h hr
    · rename_i hk
      rcases List.mem_cons.mp h with e | h
      · cases e; simp at hk
      · exact cells_new r n acc x h
theorem cells_some : ∀ (names : List (Str × NameKind)) (h : Heap) (acc : List (Str × Addr)) (x : Str) (c : Addr), (cellsFrom h.objs.size names acc).lookup x = some c → acc.lookup x = some c ∨ (h.objs.size ≤ c ∧ (pushCells h names).IsCell c none)
  | [], _, _, _, _, e => .inl e
  | (y, k) :: r, h, acc, x, c, e => by
    unfold cellsFrom at e
    unfold pushCells
    split at e
    · rename_i hk
      rw [if_pos hk]
      have hs : (h.push { cls := .type "cell", data := .cell none }).objs.size = h.objs.size + 1 := Heap.size_push ..
      rw [← hs] at e
      rcases cells_some r _ _ x c e with q | ⟨q1, q2⟩
      · rw [List.lookup_cons] at q
        cases e' : x == y with
        | false => rw [e'] at q; exact .inl q
        | true =>
          rw [e'] at q; cases q
          exact .inr ⟨Nat.le_refl _, ⟨_, pushCells_keeps _ _ _ _ (Heap.get?_push_size _ rfl), rfl⟩⟩
      · exact .inr ⟨by (first | lia | omega), q2⟩
    · rename_i hk
      rw [if_neg hk]
      exact cells_some r h acc x c e
theorem cells_inj : ∀ (names : List (Str × NameKind)) (n : Nat) (acc : List (Str × Addr)), (∀ x c, acc.lookup x = some c → c < n) → (∀ x y c, acc.lookup x = some c → acc.lookup y = some c → x = y) →
    ∀ x y c, (cellsFrom n names acc).lookup x = some c → (cellsFrom n names acc).lookup y = some c → x = y
  | [], _, _, _, hi => hi
  | (z, k) :: r, n, acc, hl, hi => by
    unfold cellsFrom
    split
    · refine cells_inj r (n + 1) _ (fun x c e => ?_) (fun x y c e1 e2 => ?_)
      · rw [List.lookup_cons] at e
        split at e
        · cases e; exact Nat.lt_succ_self _
        · exact Nat.lt_succ_of_lt (hl x c e)
      · rw [List.lookup_cons] at e1 e2
        cases q1 : x == z <;> cases q2 : y == z <;> rw [q1] at e1 <;> rw [q2] at e2
        · exact hi x y c e1 e2
        · cases e2; exact absurd (hl x _ e1) (Nat.lt_irrefl _)
        · cases e1; exact absurd (hl y _ e2) (Nat.lt_irrefl _)
        · rw [beq_iff_eq.mp q1, beq_iff_eq.mp q2]
    · exact cells_inj r n acc hl hi

/-! ### the slots of a comprehension -/
theorem own_some : ∀ (names : List (Str × NameKind)) (k : Nat) (x : Str) (i : Nat), (ownSlots names k).lookup x = some i → k ≤ i ∧ i < k + nOwn names ∧ ((x, NameKind.local) ∈ names ∨ (x, NameKind.cell) ∈ names)
  | [], _, _, _, h => nomatch h
  | (y, kd) :: r, k, x, i, h => by
    unfold ownSlots at h
    unfold nOwn
    rw [List.filter_cons]
    split at h
    · rename_i hk
      rw [if_pos hk, List.length_cons]
      rw [List.lookup_cons] at h
      cases e : x == y with
      | true =>
        rw [e] at h; cases h
        refine ⟨Nat.le_refl _, by (first | lia | omega), ?_⟩
        have : kd = .local ∨ kd = .cell := by simpa using hk
        rcases this with rfl | rfl
        · left; rw [beq_iff_eq.mp e]; exact .head _
        · right; rw [beq_iff_eq.mp e]; exact .head _
      | false =>
        rw [e] at h
        obtain ⟨h1, h2, h3⟩ := own_some r (k + 1) x i h
        unfold nOwn at h2
        exact ⟨by (first | lia | omega), by (first | lia | omega), h3.imp (.tail _) (.tail _)⟩
    · rename_i hk
      rw [if_neg hk]
      obtain ⟨h1, h2, h3⟩ := own_some r k x i h
      unfold nOwn at h2
      exact ⟨h1, h2, h3.imp (.tail _) (.tail _)⟩
theorem own_inj : ∀ (names : List (Str × NameKind)) (k : Nat) (x y : Str) (i : Nat), (ownSlots names k).lookup x = some i → (ownSlots names k).lookup y = some i → x = y
  | [], _, _, _, _, h, _ => nomatch h
  | (z, kd) :: r, k, x, y, i, h1, h2 => by
    unfold ownSlots at h1 h2
    split at h1
    · rename_i hk
      rw [if_pos hk] at h2
      rw [List.lookup_cons] at h1 h2
      cases q1 : x == z <;> cases q2 : y == z <;> rw [q1] at h1 <;> rw [q2] at h2
      · exact own_inj r (k + 1) x y i h1 h2
      · cases h2; have := (own_some r _ _ _ h1).1; (first | lia | omega)
      · cases h1; have := (own_some r _ _ _ h2).1; (first | lia | omega)
      · rw [beq_iff_eq.mp q1, beq_iff_eq.mp q2]
    · rename_i hk
      rw [if_neg hk] at h2
      exact own_inj r k x y i h1 h2
theorem free_some {sc : Sc} : ∀ (names : List (Str × NameKind)) (x : Str) (i : Nat), (freeSlots sc names).lookup x = some i → (x, NameKind.free) ∈ names ∧ sc.slots.lookup x = some i
  | [], _, _, h => nomatch h
  | (y, kd) :: r, x, i, h => by
    unfold freeSlots at h
    split at h
    · rename_i hk
      split at h
      · rename_i j hj
        rw [List.lookup_cons] at h
        cases e : x == y with
        | true =>
          rw [e] at h; cases h
          rw [beq_iff_eq.mp e, beq_iff_eq.mp hk]
          exact ⟨.head _, hj⟩
        | false =>
          rw [e] at h
          obtain ⟨h1, h2⟩ := free_some r x i h
          exact ⟨.tail _ h1, h2⟩
      · obtain ⟨h1, h2⟩ := free_some r x i h
        exact ⟨.tail _ h1, h2⟩
    · obtain ⟨h1, h2⟩ := free_some r x i h
      exact ⟨.tail _ h1, h2⟩
theorem lookup_app {α : Type} : ∀ (l m : List (Str × α)) (x : Str), (l ++ m).lookup x = (l.lookup x).or (m.lookup x)
  | [], _, _ => rfl
  | (y, v) :: l, m, x => by
    rw [List.cons_append, List.lookup_cons, List.lookup_cons]
    cases e : x == y with
    | true => rfl
    | false => exact lookup_app l m x
theorem in_slots {sc : Sc} {scope : Scope} {x : Str} {i : Nat} (h : (inSc sc scope).slots.lookup x = some i) :
    ((ownSlots scope.names sc.len).lookup x = some i ∧ sc.len ≤ i ∧ i < sc.len + nOwn scope.names ∧ ((x, NameKind.local) ∈ scope.names ∨ (x, NameKind.cell) ∈ scope.names)) ∨ ((x, NameKind.free) ∈ scope.names ∧ sc.slots.lookup x = some i) := by
  have h : (ownSlots scope.names sc.len ++ freeSlots sc scope.names).lookup x = some i := h
  rw [lookup_app] at h
  cases e : (ownSlots scope.names sc.len).lookup x with
  | some j =>
    rw [e] at h; cases h
    exact .inl ⟨rfl, own_some _ _ _ _ e⟩
  | none =>
    rw [e] at h
    exact .inr (free_some _ _ _ h)
theorem in_wf {sc : Sc} {scope : Scope} (wf : Wf sc) : Wf (inSc sc scope) := by
  refine ⟨fun x y i h1 h2 => ?_, fun x i h => ?_⟩
  · rcases in_slots h1 with ⟨a1, a2, a3, a4⟩ | ⟨a1, a2⟩ <;> rcases in_slots h2 with ⟨b1, b2, b3, b4⟩ | ⟨b1, b2⟩
    · exact own_inj _ _ x y i a1 b1
    · have := wf.lt y i b2; (first | lia | omega)
    · have := wf.lt x i a2; (first | lia | omega)
    · exact wf.inj x y i a2 b2
  · show i < sc.len + nOwn scope.names
    rcases in_slots h with ⟨a1, a2, a3, a4⟩ | ⟨a1, a2⟩
    · exact a3
    · have := wf.lt x i a2; (first | lia | omega)
theorem mem_lookup {α : Type} : ∀ {l : List (Str × α)} {x : Str} {v : α}, (l.map (·.1)).Nodup → (x, v) ∈ l → l.lookup x = some v
  | [], _, _, _, h => nomatch h
  | (y, u) :: l, x, v, hn, h => by
    rw [List.map_cons, List.nodup_cons] at hn
    rw [List.lookup_cons]
    rcases List.mem_cons.mp h with e | h
    · cases e; simp
    · have : (x == y) = false := by
        cases e : x == y with
        | false => rfl
        | true =>
          exfalso
          apply hn.1
          rw [← beq_iff_eq.mp e]
          exact List.mem_map.mpr ⟨_, h, rfl⟩
      rw [this]
      exact mem_lookup hn.2 h
theorem relab_lookup {sc : Sc} : ∀ (names : List (Str × NameKind)) (x : Str), (relab sc names).lookup x = (names.lookup x).map fun k => if k == .free && true && sc.names.lookup x == some .cell then .cell else k
  | [], _ => rfl
  | (y, k) :: r, x => by
    have ih := relab_lookup (sc := sc) r x
    unfold relab at ih ⊢
    rw [List.map_cons]
    dsimp only
    by_cases hc : (k == .free && true && sc.names.lookup y == some .cell) = true
    · rw [if_pos hc, List.lookup_cons, List.lookup_cons]
      cases e : x == y with
      | true =>
        rw [beq_iff_eq.mp e]
        dsimp only [Option.map_some]
        rw [if_pos hc]
      | false => exact ih
    · rw [if_neg hc, List.lookup_cons, List.lookup_cons]
      cases e : x == y with
      | true =>
        rw [beq_iff_eq.mp e]
        dsimp only [Option.map_some]
        rw [if_neg hc]
      | false => exact ih

/-! ### the closure -/
theorem closure_go (env : Env) (f : Str × NameKind → List (Str × Addr) → Sem (ForInStep (List (Str × Addr))))
    (hf : ∀ name kind cs, f (name, kind) cs = if kind == .free then (do let c ← cellOf env name; pure (.yield ((name, c) :: cs))) else pure (.yield cs)) :
    ∀ (names : List (Str × NameKind)) (acc : List (Str × Addr)), (∀ x, (x, NameKind.free) ∈ names → ∃ c, env.cells.lookup x = some c) → (∀ x c, acc.lookup x = some c → env.cells.lookup x = some c) →
      ∃ cl, forIn names acc f = (pure cl : Sem _) ∧ (∀ x c, cl.lookup x = some c → env.cells.lookup x = some c) ∧ (∀ x, (x, NameKind.free) ∈ names ∨ (∃ c, acc.lookup x = some c) → ∃ c, cl.lookup x = some c)
  | [], acc, _, ha => ⟨acc, by rw [List.forIn_nil], ha, fun x h => h.elim (fun h => nomatch h) id⟩
  | (y, k) :: r, acc, hn, ha => by
    by_cases hk : (k == .free) = true
    · obtain ⟨c, hc⟩ := hn y (by rw [beq_iff_eq.mp hk]; exact .head _)
      obtain ⟨cl, h1, h2, h3⟩ := closure_go env f hf r ((y, c) :: acc) (fun x m => hn x (.tail _ m)) (fun x d e => by
        rw [List.lookup_cons] at e
        cases q : x == y with
        | true => rw [q] at e; cases e; rw [beq_iff_eq.mp q]; exact hc
        | false => rw [q] at e; exact ha x d e)
      refine ⟨cl, ?_, h2, fun x hx => h3 x ?_⟩
      · rw [List.forIn_cons, hf, if_pos hk]
        have : cellOf env y = pure c := by unfold cellOf; rw [hc]
        rw [this]
        exact h1
      · cases q : x == y with
        | true => right; rw [List.lookup_cons, q]; exact ⟨_, rfl⟩
        | false =>
          rcases hx with hx | ⟨d, hd⟩
          · rcases List.mem_cons.mp hx with e | hx
            · cases e; simp at q
            · exact .inl hx
          · right; rw [List.lookup_cons, q]; exact ⟨d, hd⟩
    · obtain ⟨cl, h1, h2, h3⟩ := closure_go env f hf r acc (fun x m => hn x (.tail _ m)) ha
      refine ⟨cl, ?_, h2, fun x hx => h3 x ?_⟩
      · rw [List.forIn_cons, hf, if_neg hk]
        exact h1
      · rcases hx with hx | hx
        · rcases List.mem_cons.mp hx with e | hx
          · cases e; simp at hk
          · exact .inl hx
        · exact .inr hx
theorem closure_ok {env : Env} {scope : Scope} (hn : ∀ x, (x, NameKind.free) ∈ scope.names → ∃ c, env.cells.lookup x = some c) :
    ∃ cl, closureFor scope env = pure cl ∧ (∀ x c, cl.lookup x = some c → env.cells.lookup x = some c) ∧ (∀ x, (x, NameKind.free) ∈ scope.names → ∃ c, cl.lookup x = some c) := by
  obtain ⟨cl, h1, h2, h3⟩ := closure_go env (fun x cs => match x with | (name, kind) => if (kind == .free) = true then (do let c ← cellOf env name; pure (.yield ((name, c) :: cs))) else pure (.yield cs)) (fun _ _ _ => rfl) scope.names [] hn (fun x c e => by cases e)
  refine ⟨cl, ?_, h2, fun x hx => h3 x (.inl hx)⟩
  show (forIn scope.names [] (fun x cs => match x with | (name, kind) => if (kind == .free) = true then (do let c ← cellOf env name; pure (.yield ((name, c) :: cs))) else pure (.yield cs)) >>= fun cs => pure cs : Sem (List (Str × Addr))) = pure cl
  rw [h1]
  rfl

section
variable {M : Model} {A : Around} {E : Value → Shared → Prop} {s : Shared}
theorem newEnv_comp {scope : Scope} {globals : Addr} {cl : List (Str × Addr)} {qual : Str} {outer : Env} {Q : Env → Shared → Prop}
    (h : Q (newEnv scope s.heap.objs.size globals (cellsFrom (s.heap.objs.size + 1) scope.names cl) qual none .none (some outer) builtinsNs)
      { s with heap := pushCells (s.heap.push { cls := .type "dict", data := .dict #[] }) scope.names }) :
    wpAny M A (newFunctionEnv scope globals cl [] qual none .none (some outer)) Q E s := by
  simp only [newFunctionEnv, Option.isSome_some, if_true]
  refine wpAny_bind (wpAny_alloc ?_)
  refine wpAny_bind (wpAny_layCells _ (fun name kind cells => by cases hkc : kind == NameKind.cell <;> simp [hkc]) _ _ _ _ ?_)
  rw [show ({ s with heap := s.heap.push { cls := .type "dict", data := .dict #[] } } : Shared).heap.objs.size = s.heap.objs.size + 1 from Heap.size_push ..]
  exact wpAny_bind (wpAny_pure (wpAny_pure h))
end

theorem okSc_parts {sc : Sc} {scope : Scope} (h : okSc sc scope = true) : (scope.names.map (·.1)).Nodup ∧ scope.kind = .function ∧ (∀ x, (x, NameKind.free) ∈ scope.names → (∃ i, sc.slots.lookup x = some i) ∧ (sc.names.lookup x = some .cell ∨ sc.names.lookup x = some .free)) := by
  unfold okSc at h
  simp only [Bool.and_eq_true, decide_eq_true_eq, beq_iff_eq, List.all_eq_true] at h
  obtain ⟨⟨h1, h2⟩, h3⟩ := h
  refine ⟨h1, h2, fun x hx => ?_⟩
  have := (h3 _ hx).2
  simp only [bne_self_eq_false, Bool.false_or, Bool.and_eq_true, Bool.or_eq_true, beq_iff_eq] at this
  exact ⟨Option.isSome_iff_exists.mp this.1, this.2⟩

noncomputable def inEnv (scope : Scope) (env : Env) (C : Addr) (cells : List (Str × Addr)) : Env :=
  { newEnv scope C env.globals cells env.qual none .none (some env) builtinsNs with scope := relabel scope env }

theorem varAt_in {ρ : REnv} {k j : Nat} {var : Var} (h : varAt (ρ.map dropOwn ++ List.replicate k none) j = some var) : varAt ρ j = some var ∧ j < ρ.length ∧ ∀ l, var ≠ .own l := by
  unfold varAt at h ⊢
  by_cases hj : j < ρ.length
  · rw [List.getElem?_append_left (by simpa using hj), List.getElem?_map] at h
    cases e : ρ[j]? with
    | none => rw [e] at h; cases h
    | some v =>
      rw [e] at h
      cases v with
      | none => cases h
      | some v =>
        cases v with
        | val p => cases h; exact ⟨rfl, hj, fun l q => by cases q⟩
        | own l => cases h
  · rw [List.getElem?_append_right (by simpa using hj)] at h
    rw [List.getElem?_replicate] at h
    split at h <;> cases h

section
variable {prog : Program} {w : World} {b : Bx} {fns : List (Str × Addr)} {h0 : Heap} {D : Nat} {S : Spec} {sc : Sc} {env : Env} {A : Around} {s : Shared} {n : Nat} {U : Addr → Prop} {ρ : REnv} {E : Value → Shared → Prop}

/-- the frame of a comprehension -/
theorem comp_env (ok : BxOk b) (H : HH b h0 D sc env A s n U ρ) {scope : Scope} (hs : okSc sc scope = true) {cl : List (Str × Addr)} (hc1 : ∀ x c, cl.lookup x = some c → env.cells.lookup x = some c) (hc2 : ∀ x, (x, NameKind.free) ∈ scope.names → ∃ c, cl.lookup x = some c)
    {h₃ h₅ : Heap} (k3 : ∀ a o, s.heap.get? a = some o → h₃.get? a = some o) (e5 : h₅ = h₃.push { cls := .type "dict", data := .dict #[] }) {tk : Nat} {U' : Addr → Prop} (hU' : U' = fun a => U a ∨ (s.heap.get? a = none ∧ ∃ o, (pushCells h₅ scope.names).get? a = some o)) :
    HH b h0 D (inSc sc scope) (inEnv scope env h₃.objs.size (cellsFrom h₅.objs.size scope.names cl)) A { s with heap := pushCells h₅ scope.names, toks := tk } n U' (ρ.map dropOwn ++ List.replicate (nOwn scope.names) none) := by
  obtain ⟨hnd, hkind, hfree⟩ := okSc_parts hs
  have hsz : h₅.objs.size = h₃.objs.size + 1 := by rw [e5]; exact Heap.size_push ..
  have k5 : ∀ a o, h₃.get? a = some o → (pushCells h₅ scope.names).get? a = some o := fun a o e => pushCells_keeps _ _ _ _ (by rw [e5]; exact Heap.get?_push_of_some _ e)
  have kk : ∀ a o, s.heap.get? a = some o → (pushCells h₅ scope.names).get? a = some o := fun a o e => k5 a o (k3 a o e)
  have hss : SS b n n s { s with heap := pushCells h₅ scope.names, toks := tk } := SS.of ok H.hy.inv kk
  have fresh : ∀ a, h₃.objs.size ≤ a → s.heap.get? a = none := fun a ha => by
    cases e : s.heap.get? a with
    | none => rfl
    | some o => exact absurd (Heap.lt_size (k3 a o e)) (Nat.not_lt.mpr ha)
  have G : HH b h0 D sc env A { s with heap := pushCells h₅ scope.names, toks := tk } n U' ρ := by
    refine H.grow ok hss (fun a q => by rw [hU']; exact .inl q) fun a q => ?_
    rw [hU'] at q; exact q
  have hns : (pushCells h₅ scope.names).Ns h₃.objs.size fun _ => none := by
    have := Heap.Ns.new h₃ (.type "dict")
    rw [← e5] at this
    exact this.keeps (pushCells_keeps _ _)
  have nocell : ∀ x k, (x, k) ∈ scope.names → k ≠ .cell → (x, NameKind.cell) ∉ scope.names := fun x k h1 hk h2 => by
    have a := mem_lookup hnd h1
    rw [mem_lookup hnd h2] at a
    cases a; exact hk rfl
  have cl_free : ∀ x, (x, NameKind.free) ∈ scope.names → (cellsFrom h₅.objs.size scope.names cl).lookup x = env.cells.lookup x := fun x hx => by
    rw [cells_old _ _ _ _ (nocell x _ hx (by decide))]
    obtain ⟨c, e⟩ := hc2 x hx
    rw [e, hc1 x c e]
  have clt : ∀ x c, cl.lookup x = some c → c < h₅.objs.size := fun x c e => by
    obtain ⟨v, hv⟩ := H.fr.cell x c (hc1 x c e)
    obtain ⟨o, ho, _⟩ := hv
    have := lt_of_get (k3 _ _ ho)
    rw [hsz]; exact Nat.lt_succ_of_lt this
  have names_in : (inEnv scope env h₃.objs.size (cellsFrom h₅.objs.size scope.names cl)).scope.names = relab sc scope.names := by
    show scope.names.map (fun (n, k) => if (k == NameKind.free && env.scope.kind == ScopeKind.function && env.kindOf n == some NameKind.cell) then (n, NameKind.cell) else (n, k)) = _
    rw [H.es.kind]
    unfold relab Env.kindOf
    rw [H.es.names]
    rfl
  obtain ⟨f, ef⟩ := G.ee
  refine ⟨H.rm, G.hy, ⟨hkind, names_in, H.es.globals, H.es.builtins⟩, ⟨f, fun x i hx var hv => ?_, fun x y i j l l' _ _ h1 _ _ => ?_⟩, ?_, ⟨⟨_, hns⟩, fun x c e => ?_, fun x hx => ?_, ?_, ?_, fun x c e => ?_⟩, in_wf H.wf, ⟨G.fl.sub, fun q => ?_, fun x c e q => ?_⟩⟩
  · obtain ⟨v1, v2, v3⟩ := varAt_in hv
    rcases in_slots hx with ⟨a1, a2, a3, a4⟩ | ⟨a1, a2⟩
    · rw [H.len] at v2; (first | lia | omega)
    · obtain ⟨q1, q2⟩ := ef.at_ x i a2 var v1
      refine ⟨?_, q2⟩
      have hk := (hfree x a1).2
      rcases q1 with ⟨b1, _⟩ | ⟨b1, c, b2, b3⟩
      · exfalso
        unfold Env.kindOf at b1
        rw [H.es.names] at b1
        rcases hk with hk | hk <;> rw [hk] at b1 <;> cases b1
      · refine .inr ⟨?_, c, (cl_free x a1).trans b2, b3⟩
        unfold Env.kindOf
        rw [names_in, relab_lookup, mem_lookup hnd a1]
        by_cases hq : (NameKind.free == .free && true && sc.names.lookup x == some .cell) = true
        · left; simp only [Option.map_some]; rw [if_pos hq]
        · right; simp only [Option.map_some]; rw [if_neg hq]
  · exact absurd rfl ((varAt_in h1).2.2 l)
  · show (ρ.map dropOwn ++ List.replicate (nOwn scope.names) none).length = sc.len + nOwn scope.names
    simp [H.len]
  · rcases cells_some scope.names h₅ cl x c e with q | ⟨_, q⟩
    · obtain ⟨v, hv⟩ := H.fr.cell x c (hc1 x c q)
      exact ⟨v, hv.keeps kk⟩
    · exact ⟨_, q⟩
  · have hx : (relab sc scope.names).lookup x = some .cell ∨ (relab sc scope.names).lookup x = some .free := hx
    rw [relab_lookup] at hx
    cases e : scope.names.lookup x with
    | none => rw [e] at hx; rcases hx with hx | hx <;> cases hx
    | some k =>
      have hm := PySem.mem_of_lookup e
      by_cases hc : k = .cell
      · subst hc
        obtain ⟨c, h1, _⟩ := cells_new scope.names h₅.objs.size cl x hm
        exact ⟨c, h1⟩
      · have hf : k = .free := by
          rw [e] at hx
          simp only [Option.map_some, Option.some.injEq] at hx
          by_cases hq : (k == .free && true && sc.names.lookup x == some .cell) = true
          · simp only [Bool.and_eq_true, beq_iff_eq] at hq; exact hq.1.1
          · rw [if_neg hq] at hx
            exact hx.resolve_left hc
        subst hf
        obtain ⟨c, h1⟩ := hc2 x hm
        exact ⟨c, (cl_free x hm).trans (hc1 x c h1)⟩
  · exact cells_inj scope.names h₅.objs.size cl clt fun x y c e1 e2 => H.fr.inj x y c (hc1 x c e1) (hc1 y c e2)
  · rw [hU']
    exact .inr ⟨fresh _ (Nat.le_refl _), by obtain ⟨o, _, _, ho, _⟩ := hns; exact ⟨o, ho⟩⟩
  · rw [hU']
    rcases cells_some scope.names h₅ cl x c e with q | ⟨q1, q2⟩
    · exact .inl (H.fr.uC x c (hc1 x c q))
    · obtain ⟨o, ho, _⟩ := q2
      exact .inr ⟨fresh _ (by rw [hsz] at q1; (first | lia | omega)), o, ho⟩
  · have q : b.floor h₃.objs.size := q
    obtain ⟨o, e⟩ := H.hy.off _ (H.fl.sub _ q)
    rw [fresh _ (Nat.le_refl _)] at e; cases e
  · rcases cells_some scope.names h₅ cl x c e with q1 | ⟨q1, q2⟩
    · exact H.fl.cel x c (hc1 x c q1) q
    · obtain ⟨o, e⟩ := H.hy.off _ (H.fl.sub _ q)
      rw [fresh _ (by rw [hsz] at q1; (first | lia | omega))] at e; cases e

/-- fewer values are known -/
theorem HH.weak {ρ' : REnv} (H : HH b h0 D sc env A s n U ρ) (hl : ρ'.length = ρ.length) (hv : ∀ j var, varAt ρ' j = some var → varAt ρ j = some var) : HH b h0 D sc env A s n U ρ' := by
  obtain ⟨f, ef⟩ := H.ee
  exact ⟨H.rm, H.hy, H.es, ⟨f, fun x i hx var q => ef.at_ x i hx var (hv _ _ q), fun x y i j l l' a1 a2 a3 a4 a5 => ef.inj x y i j l l' a1 a2 (hv _ _ a3) (hv _ _ a4) a5⟩, hl.trans H.len, H.fr, H.wf, H.fl⟩

/-- a list that no slot holds is turned -/
theorem HH.list {h' : Heap} {a0 : Addr} (ok : BxOk b) (H : HH b h0 D sc env A s n U ρ) (hno : ∀ i l, varAt ρ i ≠ some (.own l)) (hu : U a0) (hb : ¬ b.set a0) {o0 : Obj} (e0 : s.heap.get? a0 = some o0) (d0 : ∃ vs k, o0.data = .seq vs k) (h1 : ∃ o, h'.get? a0 = some o) (hs : Heap.SameBut a0 s.heap h') :
    HH b h0 D sc env A { s with heap := h' } n U ρ := by
  obtain ⟨f, ef⟩ := H.ee
  have hmk := mk_same hu hs
  have hns : ∀ {C : Addr} {m : Str → Option Value}, s.heap.Ns C m → h'.Ns C m := fun ⟨o, es, ep, ho, hd, r⟩ => ⟨o, es, ep, by
    rw [hs.2 _ (fun q => by subst q; rw [e0] at ho; cases ho; obtain ⟨vs, k, d0⟩ := d0; rw [hd] at d0; cases d0)]; exact ho, hd, r⟩
  have hce : ∀ {C : Addr} {m : Option Value}, s.heap.IsCell C m → h'.IsCell C m := fun ⟨o, ho, hd⟩ => ⟨o, by
    rw [hs.2 _ (fun q => by subst q; rw [e0] at ho; cases ho; obtain ⟨vs, k, d0⟩ := d0; rw [hd] at d0; cases d0)]; exact ho, hd⟩
  refine ⟨H.rm, H.hy.touch ok hu hb hs h1, H.es, ⟨f, fun x i hx var hv => ?_, ef.inj⟩, H.len, ⟨H.fr.ns.imp fun m => hns, fun x c e => (H.fr.cell x c e).imp fun v => hce, H.fr.own, H.fr.inj, H.fr.uL, H.fr.uC⟩, H.wf, H.fl⟩
  obtain ⟨q1, q2⟩ := ef.at_ x i hx var hv
  constructor
  · rcases q1 with ⟨hk, m, q, e⟩ | ⟨hk, c, hc, q⟩
    · exact .inl ⟨hk, m, hns q, e⟩
    · exact .inr ⟨hk, c, hc, hce q⟩
  · cases var with
    | val p => exact RepV.mk hmk q2
    | own l => exact absurd hv (hno i l)
end

section
variable {prog : Program} {w : World} {b : Bx} {fns : List (Str × Addr)} {h0 : Heap} {D : Nat} {S : Spec} {sc : Sc} {env : Env} {A : Around} {s : Shared} {n : Nat} {U : Addr → Prop} {ρ : REnv} {E : Value → Shared → Prop}

noncomputable def GoodTO (prog : Program) (w : World) (b : Bx) (h0 : Heap) (D : Nat) (S : Spec) (sc : Sc) (ifs : List Expr) (c : TsO) : Prop :=
  ∀ env A s n U ρ Q E, HH b h0 D sc env A s n U ρ → tsOP S c ρ n Q →
    wpAny (model prog w) A (forIn ifs true fun c r => if r = true then do let ok ← isTrue c env (eval c env); pure (ForInStep.yield ok) else pure (ForInStep.yield r)) (fun t s' => ∃ n', SS b n n' s s' ∧ Q t n') E s
theorem goodTO_no : GoodTO prog w b h0 D S sc [] .no := fun env A s n U ρ Q E H hQ => by
  exact wpAny_tests_nil ⟨n, SS.refl H.hy.inv, hQ⟩
theorem goodTO_so {c : Expr} {t : Ts} (g : GoodT prog w b h0 D S sc c t) : GoodTO prog w b h0 D S sc [c] (.so t) := fun env A s n U ρ Q E H hQ => by
  exact wpAny_tests_one (g env A s n U ρ Q E H hQ)

theorem compLoop_go {elt target iter : Expr} {ifs : List Expr} {scope : Scope} {pos : Pos} {it acc : Value} {R : Result → Shared → Prop} (I : Nat → Shared → Prop)
    (turn : ∀ n s, I n s → wpAny (model prog w) A (pyNext it) (fun r s₁ => match r with
      | none => R (.ok .next) s₁
      | some v => wpAny (model prog w) A (letOwnedTupleGo target it v) (fun _ s₁' => wpAny (model prog w) A (assign target env v) (fun _ s₂ =>
          wpAny (model prog w) A (forIn ifs true fun c r => if r = true then do let ok ← isTrue c env (eval c env); pure (ForInStep.yield ok) else pure (ForInStep.yield r)) (fun ok s₃ =>
            if ok = true then wpAny (model prog w) A (eval elt env) (fun x s₄ =>
              wpAny (model prog w) A (call (.builtin "list.append") [acc, x]) (fun _ s₅ => ∃ m, m < n ∧ I m s₅) (notedBy (model prog w) A env fun e s' => R (.error e) s') s₄) (notedBy (model prog w) A env fun e s' => R (.error e) s') s₃
            else ∃ m, m < n ∧ I m s₃) (notedBy (model prog w) A env fun e s' => R (.error e) s') s₂) (notedBy (model prog w) A env fun e s' => R (.error e) s') s₁') (notedBy (model prog w) A env fun e s' => R (.error e) s') s₁) (notedBy (model prog w) A env fun e s' => R (.error e) s') s)
    (n : Nat) (h : I n s) : codeAny (model prog w) A (.compLoop (.ListComp elt [⟨target, iter, ifs, 0⟩] scope pos) 0 it acc env) R s := by
  refine codeAny_loop rfl I (fun n s hI => ?_) n h
  show wpAny _ A ((compTurn (.ListComp elt [⟨target, iter, ifs, 0⟩] scope pos) 0 it acc env).onRaise (fun x => do noteFrame x env; theTreesLotGoes x)) _ _ s
  refine wpAny_noted ?_
  rw [compTurn_list]
  refine wpAny_bind (wpAny_standAt (wpAny_bind (wpAny_mono (turn n s hI) (fun r s₁ h₁ => ?_) fun _ _ e => e)))
  cases r with
  | none => exact wpAny_pure h₁
  | some v =>
    refine wpAny_bind (wpAny_mono h₁ (fun _ s₁' h₁' => ?_) fun _ _ e => e)
    refine wpAny_bind (wpAny_mono h₁' (fun _ s₂ h₂ => wpAny_bind (wpAny_mono h₂ (fun t s₃ h₃ => ?_) fun _ _ e => e)) fun _ _ e => e)
    cases t with
    | false => exact wpAny_pure ⟨rfl, h₃⟩
    | true => exact wpAny_bind (wpAny_bind (wpAny_mono h₃ (fun x s₄ h₄ => wpAny_bind (wpAny_mono h₄ (fun _ s₅ h₅ => wpAny_pure (wpAny_pure ⟨rfl, h₅⟩)) fun _ _ e => e)) fun _ _ e => e))

/-- a bound target: the slots before k are as they were -/
theorem setAll_keep (k : Nat) : ∀ (is : List Nat) (xs : List PyData) (ρ : REnv), (∀ i ∈ is, k ≤ i) → (setAll ρ is xs).length = ρ.length ∧ ∀ j, j < k → varAt (setAll ρ is xs) j = varAt ρ j
  | [], xs, ρ, _ => ⟨by unfold setAll; rfl, fun j _ => by unfold setAll; rfl⟩
  | i :: is, [], ρ, _ => ⟨by unfold setAll; rfl, fun j _ => by unfold setAll; rfl⟩
  | i :: is, x :: xs, ρ, h => by
    obtain ⟨h1, h2⟩ := setAll_keep k is xs (ρ.set i (some (.val (.d x)))) fun i m => h i (.tail _ m)
    unfold setAll
    refine ⟨by rw [h1, List.length_set], fun j hj => ?_⟩
    rw [h2 j hj, varAt_set, if_neg]
    intro q
    have := h i (.head _)
    (first | lia | omega)
theorem setAll_own : ∀ (is : List Nat) (xs : List PyData) (ρ : REnv), (∀ i l, varAt ρ i ≠ some (.own l)) → ∀ i l, varAt (setAll ρ is xs) i ≠ some (.own l)
  | [], xs, ρ, h => by unfold setAll; exact h
  | i :: is, [], ρ, h => by unfold setAll; exact h
  | i :: is, x :: xs, ρ, h => by
    unfold setAll
    refine setAll_own is xs _ fun j l => ?_
    rw [varAt_set]
    split
    · intro q; cases q
    · exact h j l
theorem bindT_more {t : Tg} {x : PyData} {ρ : REnv} {K : REnv → Prop} (k : Nat) (h : bindT t x ρ K) (hk : tgGe k t = true) (hno : ∀ i l, varAt ρ i ≠ some (.own l)) :
    bindT t x ρ fun ρ' => K ρ' ∧ ρ'.length = ρ.length ∧ (∀ j, j < k → varAt ρ' j = varAt ρ j) ∧ ∀ i l, varAt ρ' i ≠ some (.own l) := by
  unfold bindT at h ⊢
  cases t with
  | one i =>
    refine ⟨h, by rw [List.length_set], fun j hj => ?_, fun j l => ?_⟩
    · rw [varAt_set, if_neg]
      intro q
      have : k ≤ i := by simpa [tgGe] using hk
      (first | lia | omega)
    · rw [varAt_set]
      split
      · intro q; cases q
      · exact hno j l
  | tup is =>
    cases x with
    | tuple xs =>
      obtain ⟨h1, h2⟩ := setAll_keep k is xs ρ (by simpa [tgGe] using hk)
      exact ⟨h.1, h.2, h1, h2, setAll_own is xs ρ hno⟩
    | _ => exact h

/-- a comprehension's turns -/
theorem comp_loop (ok : BxOk b) {elt target iter : Expr} {ifs : List Expr} {scope : Scope} {pos : Pos} {t : Tg} {c : TsO} {x : Ex} {k : Nat} {s₀ : Shared} {n₀ : Nat} {xs : List PyData} {U0 : Addr → Prop} {hO : Heap}
    {I Da : Addr} {fp wr : List Addr} {P Md : Nat → Value → Heap → Prop} {Sf : Nat → Heap → Prop} {R : Result → Shared → Prop} {Qf : List PyData → Nat → Prop}
    (gt : GoodTO prog w b h0 D S sc ifs c) (ge : GoodE prog w b h0 D S sc elt x) (hc : cTg sc target = some t) (hkt : tgGe k t = true)
    (W : KTurns prog w A target I fp wr xs.length P Md Sf) (hS0 : s₀.heap = hO) (hlen : xs.length ≤ 2 ^ 20)
    (hItr : ∀ i h', Sf i h' → ∀ a ∈ wr, ∃ o, h'.get? a = some o ∧ Itr o) (hwO : ∀ a ∈ wr, hO.get? a = none)
    (hP : ∀ i v h' U', P i v h' → (∀ a, U' a → U0 a ∨ hO.get? a = none) → MK U' hO h' → ∃ x, xs[i]? = some x ∧ ItemOk target h' U' v x)
    (hU : ∀ a, U a → U0 a ∨ hO.get? a = none) (hwU : ∀ a ∈ wr, U a) (hfb : ∀ a ∈ fp, ¬ b.set a) (hDf : Da ∉ fp) (hDU : U Da) (hDb : ¬ b.set Da) (hDO : hO.get? Da = none)
    (hT : ∀ a, TgA env sc t a → a ∉ fp ∧ hO.get? a = none)
    (hown : ∀ i l, varAt ρ i ≠ some (.own l)) (hbase : ∀ j var, varAt ρ j = some var → j < k)
    (hR : ∀ st ys vs n', SS b n₀ n' s₀ st → (∃ m, st.heap.Ns env.locals m) → st.heap.PlainList Da (List.toArray vs) → RepL st.heap U vs ys → Qf ys n' → R (.ok .next) st) :
    ∀ (s : Shared) (n i : Nat) (ys : List PyData) (vs : List Value), i ≤ xs.length → vs.length ≤ i → SS b n₀ n s₀ s → HH b h0 D sc env A s n U ρ → Sf i s.heap → s.heap.PlainList Da (List.toArray vs) → RepL s.heap U vs ys →
      compG (fun ρ n Q => tsOP S c ρ n Q) (fun ρ n Q => evP S x ρ n Q) t ρ (xs.drop i) ys n Qf →
      codeAny (model prog w) A (.compLoop (.ListComp elt [⟨target, iter, ifs, 0⟩] scope pos) 0 (.ref I) (.ref Da) env) R s := by
  intro s n i ys vs hi hvl k0 H st hDl rl hG
  refine compLoop_go (fun m st => ∃ i ys vs n, m = xs.length - i ∧ i ≤ xs.length ∧ vs.length ≤ i ∧ SS b n₀ n s₀ st ∧ HH b h0 D sc env A st n U ρ ∧ Sf i st.heap ∧ st.heap.PlainList Da (List.toArray vs) ∧ RepL st.heap U vs ys ∧
    compG (fun ρ n Q => tsOP S c ρ n Q) (fun ρ n Q => evP S x ρ n Q) t ρ (xs.drop i) ys n Qf) ?_ (xs.length - i) ⟨i, ys, vs, n, rfl, hi, hvl, k0, H, st, hDl, rl, hG⟩
  clear hG rl hDl st H k0 hvl hi vs ys i n s
  rintro m s ⟨i, ys, vs, n, rfl, hi, hvl, k0, H, st, ⟨kD, hDl⟩, rl, hG⟩
  have hDw : Da ∉ wr := fun q => hDf (W.sub _ q)
  have ssmv : ∀ {s' : Shared} {h' : Heap} {tk : Nat}, s' = { s with heap := h', toks := tk } → (∀ a o, a ∉ wr → s.heap.get? a = some o → h'.get? a = some o) → SS b n₀ n s₀ s' := by
    intro s' h' tk e hk'
    subst e
    obtain ⟨h1, t1, rfl, k1⟩ := k0
    refine ⟨h', tk, rfl, fun a o hb e => hk' a o (fun q => by have := hwO a q; rw [← hS0] at this; rw [this] at e; cases e) (k1.1 a o hb e), ok.keep n h1 h' (fun a o hb e => hk' a o (fun q => hfb a (W.sub a q) hb) e) k1.2⟩
  by_cases hlt : i < xs.length
  · refine W.item i s _ _ hlt st fun v h1 tk1 hMd hk1 => ?_
    dsimp only
    refine W.go i v { s with heap := h1, toks := tk1 } _ _ hMd fun h2 hPv st2 hk2 => ?_
    have hk : ∀ a o, a ∉ wr → s.heap.get? a = some o → h2.get? a = some o := fun a o na e => hk2 a o na (hk1 a o na e)
    have k2 : SS b n₀ n s₀ { s with heap := h2, toks := tk1 } := ssmv rfl hk
    have H2 : HH b h0 D sc env A { s with heap := h2, toks := tk1 } n U ρ := H.mv ok (X := fun a => a ∈ wr) (fun a ha => ⟨hwU a ha, hItr i _ st a ha, (hItr (i + 1) _ st2 a ha).imp fun o q => q.1⟩) (fun a o na e => hk a o na e)
    have hmk : MK U s.heap h2 := fun a o na e => hk a o (fun q => na (hwU a q)) e
    obtain ⟨x0, hx0, hit⟩ := hP i v h2 U hPv hU (by
      have : MK U s₀.heap h2 := by
        obtain ⟨h', tk, e, k2⟩ := k2
        have := congrArg Shared.heap e
        dsimp only at this
        rw [this]
        exact MK.hs H.hy.sub k2
      rw [← hS0]; exact this)
    have hd : xs.drop i = x0 :: xs.drop (i + 1) := by
      rw [List.drop_eq_getElem_cons hlt]
      rw [List.getElem?_eq_getElem hlt] at hx0
      cases hx0; rfl
    rw [hd] at hG
    refine wpAny_mono (bind_ok (s := { s with heap := h2, toks := tk1 }) ok hc hit H2 (bindT_more k hG hkt hown)) (fun _ s3 h3 => ?_) fun _ _ e => e
    obtain ⟨ρ3, h3', tk3, rfl, ⟨q3, l3, a3, o3⟩, H3, kk3⟩ := h3
    have back : ∀ {s' : Shared} {n' : Nat}, HH b h0 D sc env A s' n' U ρ3 → HH b h0 D sc env A s' n' U ρ := fun H' => H'.weak l3.symm fun j var e => by rw [a3 j (hbase j var e)]; exact e
    have k3 : SS b n₀ n s₀ { s with heap := h3', toks := tk3 } := by
      obtain ⟨hh, tk, e, k2⟩ := k2
      have e1 := congrArg Shared.heap e
      dsimp only at e1
      subst e1
      obtain ⟨hh2, tk2, rfl, _⟩ := k0
      exact ⟨h3', tk3, rfl, fun a o hb e => kk3 a o (fun q => by have := (hT a q).2; rw [← hS0] at this; rw [this] at e; cases e) (k2.1 a o hb e), H3.hy.inv⟩
    have st3 : Sf (i + 1) h3' := W.frame _ _ _ st2 fun a ha o e => kk3 a o (fun q => (hT a q).1 ha) e
    have hDt : ¬ TgA env sc t Da := fun q => by
      obtain ⟨o, e, hn⟩ := frame_not H.fr (q.imp id fun ⟨z, j, _, _, _, z4⟩ => ⟨z, z4⟩)
      rw [hDl] at e
      cases e
      exact hn _ _ rfl
    have hD3 : h3'.get? Da = some { cls := .type "list", data := .seq vs.toArray kD } := kk3 Da _ hDt (hk Da _ hDw hDl)
    have rl3 : RepL h3' U vs ys := (rl.mk hmk).mk fun a o na e => kk3 a o (fun q => na (tgA_U H3 q)) e
    -- the tests
    refine wpAny_mono (gt env A _ n U ρ3 _ _ H3 q3) (fun tv s4 h4 => ?_) fun _ _ e => e
    obtain ⟨n4, k4, q4⟩ := h4
    have H4 := H3.step ok k4
    have st4 : Sf (i + 1) s4.heap := by
      obtain ⟨h', tk, rfl, k4⟩ := k4
      exact W.frame _ _ _ st3 fun a ha o e => k4.1 a o (hfb a ha) e
    have hD4 := k4.get hDb hD3
    have rl4 : RepL s4.heap U vs ys := RepL.stepS ok H3.hy k4 rl3
    cases tv with
    | false => exact ⟨xs.length - (i + 1), by (first | lia | omega), i + 1, ys, vs, n4, rfl, hlt, by (first | lia | omega), k3.trans k4, back H4, st4, ⟨kD, hD4⟩, rl4, q4⟩
    | true =>
      rw [if_pos rfl]
      refine wpAny_mono (ge env A s4 n4 U ρ3 _ _ H4 q4) (fun y s5 h5 => ?_) fun _ _ e => e
      obtain ⟨p5, n5, k5, r5, q5⟩ := h5
      cases p5 with
      | d y5 =>
        have H5 := H4.step ok k5
        have st5 : Sf (i + 1) s5.heap := by
          obtain ⟨h', tk, rfl, k5⟩ := k5
          exact W.frame _ _ _ st4 fun a ha o e => k5.1 a o (hfb a ha) e
        have hD5 := k5.get hDb hD4
        have rl5 : RepL s5.heap U vs ys := RepL.stepS ok H4.hy k5 rl4
        refine wpAny_list_append_plain (items := vs.toArray) ⟨kD, hD5⟩ (fun h6 ⟨k6, hD6⟩ hs6 => ?_) (by rw [List.size_toArray]; exact line_of (by (first | lia | omega)))
        have e6 : vs.toArray.push y = (vs ++ [y]).toArray := by simp
        rw [e6] at hD6
        have H6 := HH.list ok H5 o3 hDU hDb hD5 ⟨_, _, rfl⟩ ⟨_, hD6⟩ hs6
        have hmk6 : MK U s5.heap h6 := mk_same hDU hs6
        refine ⟨xs.length - (i + 1), by (first | lia | omega), i + 1, ys ++ [y5], vs ++ [y], n5, rfl, hlt, by simp; omega, ?_, back H6, W.frame _ _ _ st5 fun a ha o e => by rw [hs6.2 a fun q => hDf (q ▸ ha)]; exact e, ⟨k6, hD6⟩, (rl5.app (.cons r5 .nil)).mk hmk6, q5⟩
        obtain ⟨hh, tk, rfl, kk⟩ := (k3.trans k4).trans k5
        exact ⟨h6, tk, rfl, fun a o hb e => by rw [hs6.2 a fun q => by subst q; rw [← hS0] at hDO; rw [hDO] at e; cases e]; exact kk.1 a o hb e, H6.hy.inv⟩
      | fn a => exact q5.elim
      | bench => exact q5.elim
  · have hie : i = xs.length := by (first | lia | omega)
    subst hie
    rw [List.drop_length] at hG
    refine W.done s _ _ st fun h1 tk1 hk1 => ?_
    dsimp only
    have hmk : MK U s.heap h1 := fun a o na e => hk1 a o (fun q => na (hwU a q)) e
    refine hR _ ys vs n (ssmv rfl hk1) ?_ ⟨kD, hk1 Da _ hDw hDl⟩ (rl.mk hmk) hG
    obtain ⟨mm, o, es, ep, ho, hd, r⟩ := H.fr.ns
    refine ⟨mm, o, es, ep, hk1 _ _ (fun q => ?_) ho, hd, r⟩
    obtain ⟨o', e', _, i2, _⟩ := hItr _ _ st _ q
    rw [ho] at e'; cases e'
    exact i2 _ _ hd
end

theorem SS.back {b : Bx} {n n' : Nat} {s s' : Shared} (ok : BxOk b) (k : SS b n n' s s') {a : Addr} (h : s'.heap.get? a = none) : s.heap.get? a = none := by
  cases e : s.heap.get? a with
  | none => rfl
  | some o =>
    by_cases hb : b.set a
    · obtain ⟨o', e', _⟩ := ok.there n' s'.heap _ k.inv hb
      rw [h] at e'; cases e'
    · have := k.get hb e
      rw [h] at this; cases this

section
variable {prog : Program} {w : World} {b : Bx} {fns : List (Str × Addr)} {h0 : Heap} {D : Nat} {S : Spec} {sc : Sc} {env : Env} {A : Around} {s : Shared} {n : Nat} {U : Addr → Prop} {ρ : REnv} {E : Value → Shared → Prop}

theorem comp_core (ok : BxOk b) {elt target iter : Expr} {ifs : List Expr} {scope : Scope} {pos p : Pos} {t : Tg} {c : TsO} {x : Ex} {src : Src} {use : Option (Value → Sem Unit)} {Q : Value → Shared → Prop} {Qf : PV → Nat → Prop}
    (gsr : GoodSr prog w b h0 D S sc iter src) (gt : GoodTO prog w b h0 D S (inSc sc scope) ifs c) (ge : GoodE prog w b h0 D S (inSc sc scope) elt x) (hc : cTg (inSc sc scope) target = some t) (hneed : needT src = true → isTup target = true)
    (hk : tgGe sc.len t = true) (hs : okSc sc scope = true) (hfs : ∀ x, foldedSetIterable iter env x = pure x) (H : HH b h0 D sc env A s n U ρ) (hQ : evP S (.comp (nOwn scope.names) t src c x) ρ n Qf)
    (hU : ∀ st C ys vs n' Da, SS b n n' s st → s.heap.get? C = none → (∃ m, st.heap.Ns C m) → s.heap.get? Da = none → st.heap.PlainList Da (List.toArray vs) → RepL st.heap (fun a => U a ∨ a = Da) vs ys → Qf (.d (.list ys)) n' →
      compPost (model prog w) A E use Q (.ref Da) C (.ok .next) st) :
    wpAny (model prog w) A (comprehension (.ListComp elt [⟨target, iter, ifs, 0⟩] scope pos) scope env p (newList []) false (eval iter env) use) Q E s := by
  obtain ⟨hnd, hkind, hfree⟩ := okSc_parts hs
  obtain ⟨cl, hcl, hc1, hc2⟩ := closure_ok (env := env) (scope := scope) fun x hx => H.fr.own x (hfree x hx).2
  refine wpAny_comprehension_free (gs := []) rfl hfs hcl hkind (fun y hy hl => mem_lookup hnd (by rw [← hl]; exact hy)) ?_
  refine wpAny_mono (gsr target env A s n U ρ _ E hneed H hQ) (fun v s₁ h₁ => wpAny_mono h₁ (fun it s₂ h₂ => ?_) fun _ _ e => e) fun _ _ e => e
  obtain ⟨n', xs, s₀, k₁, k₂, T, hlen, q⟩ := h₂
  obtain ⟨I, fp, wr, P, Md, Sf, rfl, W, st, hfp, hwO, hItr, hP, self⟩ := T
  have H₀ := H.step ok k₁
  have H₂ : HH b h0 D sc env A s₂ n' (fun a => U a ∨ a ∈ wr) ρ := H₀.grow ok k₂ (fun a q => .inl q) fun a q => q.imp id fun q => ⟨hwO a q, (hItr 0 _ st a q).imp fun o r => r.1⟩
  refine wpAny_newList (newEnv_comp ?_)
  dsimp only
  generalize hDa : s₂.heap.objs.size = Da
  generalize h3 : s₂.heap.push { cls := .type "list", data := .seq ([] : List Value).toArray } = h₃
  generalize h5 : h₃.push { cls := .type "dict", data := .dict #[] } = h₅
  have k3 : ∀ a o, s₂.heap.get? a = some o → h₃.get? a = some o := fun a o e => by rw [← h3]; exact Heap.get?_push_of_some _ e
  have sz3 : h₃.objs.size = s₂.heap.objs.size + 1 := by rw [← h3]; exact Heap.size_push ..
  have sz5 : h₅.objs.size = h₃.objs.size + 1 := by rw [← h5]; exact Heap.size_push ..
  rw [← sz5]
  have HI := comp_env ok H₂ hs hc1 hc2 k3 h5.symm (tk := s₂.toks) rfl
  generalize hU' : (fun a => (U a ∨ a ∈ wr) ∨ (s₂.heap.get? a = none ∧ ∃ o, (pushCells h₅ scope.names).get? a = some o)) = U' at HI
  have k5 : ∀ a o, h₃.get? a = some o → (pushCells h₅ scope.names).get? a = some o := fun a o e => pushCells_keeps _ _ _ _ (by rw [← h5]; exact Heap.get?_push_of_some _ e)
  have kk : ∀ a o, s₂.heap.get? a = some o → (pushCells h₅ scope.names).get? a = some o := fun a o e => k5 a o (k3 a o e)
  have none2 : ∀ a, s₂.heap.objs.size ≤ a → s₂.heap.get? a = none := fun a ha => none_of_ge ha
  have none0 : ∀ a, s₂.heap.objs.size ≤ a → s₀.heap.get? a = none := fun a ha => k₂.back ok (none2 a ha)
  have notfp : ∀ a, s₂.heap.objs.size ≤ a → a ∉ fp := fun a ha hm => by
    obtain ⟨_, o, e⟩ := hfp a hm
    rw [none2 a ha] at e; cases e
  have hDl : (pushCells h₅ scope.names).PlainList Da (List.toArray []) := ⟨_, k5 _ _ (by rw [← h3, ← hDa]; exact Heap.get?_push_size _ rfl)⟩
  have hs4 : SS b n' n' s₀ { s₂ with heap := pushCells h₅ scope.names } := k₂.trans (SS.of (tk := s₂.toks) ok k₂.inv kk)
  have st4 : Sf 0 (pushCells h₅ scope.names) := W.frame 0 _ _ st fun a _ o e => kk a o e
  have L : codeAny (model prog w) A (.compLoop (.ListComp elt [⟨target, iter, ifs, 0⟩] scope pos) 0 (.ref I) (.ref Da) (inEnv scope env h₃.objs.size (cellsFrom h₅.objs.size scope.names cl)))
      (compPost (model prog w) A E use Q (.ref Da) h₃.objs.size) { s₂ with heap := pushCells h₅ scope.names } := by
    refine comp_loop ok (k := sc.len) (hO := s₀.heap) (U0 := U) (Qf := fun ys n => Qf (.d (.list ys)) n) gt ge hc hk W rfl hlen hItr hwO hP ?_ ?_ ?_ (notfp _ (by (first | lia | omega))) ?_ ?_ (none0 _ (by (first | lia | omega))) ?_ (fun i l e => (varAt_in e).2.2 l rfl) (fun j var e => by rw [← H.len]; exact (varAt_in e).2.1) ?_
      { s₂ with heap := pushCells h₅ scope.names } n' 0 [] [] (Nat.zero_le _) (Nat.le_refl _) hs4 HI st4 hDl .nil (by rw [List.drop_zero]; exact q)
    · intro a ha
      rw [← hU'] at ha
      rcases ha with (ha | ha) | ⟨ha, _⟩
      · exact .inl ha
      · exact .inr (hwO a ha)
      · exact .inr (k₂.back ok ha)
    · intro a ha
      rw [← hU']
      exact .inl (.inr ha)
    · exact fun a ha hb => (hfp a ha).1 (H.hy.sub a hb)
    · rw [← hU']
      obtain ⟨kd, e⟩ := hDl
      exact .inr ⟨none2 _ (by (first | lia | omega)), _, e⟩
    · intro hb
      obtain ⟨o, e, _⟩ := ok.there n' s₂.heap Da H₂.hy.inv hb
      rw [none2 _ (by (first | lia | omega))] at e; cases e
    · intro a ha
      have : s₂.heap.objs.size ≤ a := by
        rcases ha with rfl | ⟨z, i, z1, z2, z3, z4⟩
        · show _ ≤ h₃.objs.size
          rw [sz3]; exact Nat.le_succ _
        · have hi : sc.len ≤ i := by
            cases t with
            | one j =>
              have : i = j := z2
              subst this
              simpa [tgGe] using hk
            | tup l => 
              have hk' : ∀ x ∈ l, sc.len ≤ x := by simpa [tgGe] using hk
              exact hk' i z2
          rcases in_slots z1 with ⟨a1, a2, a3, a4⟩ | ⟨a1, a2⟩
          · have hcell : (z, NameKind.cell) ∈ scope.names := by
              rcases a4 with a4 | a4
              · exfalso
                have z3 : (relab sc scope.names).lookup z = some .cell := z3
                rw [relab_lookup, mem_lookup hnd a4] at z3
                cases z3
              · exact a4
            obtain ⟨d, e1, e2⟩ := cells_new scope.names h₅.objs.size cl z hcell
            have z4 : (cellsFrom h₅.objs.size scope.names cl).lookup z = some a := z4
            rw [e1] at z4
            cases z4
            rw [sz5, sz3] at e2
            exact Nat.le_trans (Nat.le_trans (Nat.le_succ _) (Nat.le_succ _)) e2
          · have := H.wf.lt z i a2
            (first | lia | omega)
      exact ⟨notfp a this, none0 a this⟩
    · intro stf ys vs n'' kf hns hDf rf qf
      refine hU stf h₃.objs.size ys vs n'' Da (k₁.trans kf) (k₁.back ok (none0 _ (by (first | lia | omega)))) hns (k₁.back ok (none0 _ (by (first | lia | omega)))) hDf (rf.mono fun a ha => ?_) qf
      rw [← hU']
      rcases ha with ha | rfl
      · exact .inl (.inl ha)
      · obtain ⟨kd, e⟩ := hDl
        exact .inr ⟨none2 _ (by (first | lia | omega)), _, e⟩
  exact codeAny_compStart_list L (self _ _ _ st4 L)

/-- one fresh object is let go -/
theorem SS.but {n' : Nat} {st : Shared} {C : Addr} {h' : Heap} (ok : BxOk b) (hi : b.inv n s.heap) (k : SS b n n' s st) (hC : s.heap.get? C = none) (hs : Heap.SameBut C st.heap h') : SS b n n' s { st with heap := h' } := by
  have hb : ∀ a, b.set a → a ≠ C := fun a hb q => by
    subst q
    obtain ⟨o, e, _⟩ := ok.there n s.heap _ hi hb
    rw [hC] at e; cases e
  obtain ⟨h1, tk, rfl, k⟩ := k
  exact ⟨h', tk, rfl, fun a o na e => by rw [hs.2 a fun q => by subst q; rw [hC] at e; cases e]; exact k.1 a o na e, ok.keep n' h1 h' (fun a o q e => by rw [hs.2 a (hb a q)]; exact e) k.2⟩
theorem ns_seq_ne {h : Heap} {C a : Addr} {m : Str → Option Value} {o : Obj} (hm : h.Ns C m) (e : h.get? a = some o) (d : ∃ vs k, o.data = .seq vs k) : a ≠ C := fun q => by
  subst q
  obtain ⟨o', es, ep, ho, hd, _⟩ := hm
  rw [e] at ho; cases ho
  obtain ⟨vs, k, d⟩ := d
  rw [d] at hd; cases hd
theorem RepD.but {h h' : Heap} {C : Addr} {m : Str → Option Value} (hm : h.Ns C m) (hs : Heap.SameBut C h h') {v : Value} {x : PyData} (r : RepD h U v x) : RepD h' U v x := r.map fun a o e d u => ⟨(hs.2 a (ns_seq_ne hm e d)).trans e, u⟩
theorem RepL.but {h h' : Heap} {C : Addr} {m : Str → Option Value} (hm : h.Ns C m) (hs : Heap.SameBut C h h') {v : List Value} {x : List PyData} (r : RepL h U v x) : RepL h' U v x := r.map fun a o e d u => ⟨(hs.2 a (ns_seq_ne hm e d)).trans e, u⟩

theorem goodF_Comp (ok : BxOk b) {elt target iter : Expr} {ifs : List Expr} {scope : Scope} {pos : Pos} {t : Tg} {c : TsO} {x : Ex} {src : Src}
    (gsr : GoodSr prog w b h0 D S sc iter src) (gt : GoodTO prog w b h0 D S (inSc sc scope) ifs c) (ge : GoodE prog w b h0 D S (inSc sc scope) elt x) (hc : cTg (inSc sc scope) target = some t) (hneed : needT src = true → isTup target = true)
    (hk : tgGe sc.len t = true) (hs : okSc sc scope = true) (hfs : ∀ env x, foldedSetIterable iter env x = pure x) : GoodF prog w b h0 D S sc (.ListComp elt [⟨target, iter, ifs, 0⟩] scope pos) (.comp (nOwn scope.names) t src c x) := by
  intro env A s n U ρ Q E H hQ
  rw [eval_ListComp]
  refine comp_core ok gsr gt ge hc hneed hk hs (hfs env) H hQ fun st C ys vs n' Da k hC hns hDa hpl hr hq => ?_
  obtain ⟨m, hm⟩ := hns
  refine ⟨m, hm, fun h' hsb => ?_⟩
  obtain ⟨kd, e⟩ := hpl
  exact ⟨Da, vs, ys, n', rfl, hDa, k.but ok H.hy.inv hC hsb, ⟨kd, (hsb.2 Da (ns_seq_ne hm e ⟨_, _, rfl⟩)).trans e⟩, RepL.but hm hsb hr, hq⟩
end

section
variable {prog : Program} {w : World} {b : Bx} {fns : List (Str × Addr)} {h0 : Heap} {D : Nat} {S : Spec}

structure GoodCR (prog : Program) (w : World) (b : Bx) (h0 : Heap) (D : Nat) (S : Spec) (sc : Sc) (e : Expr) (c : CR) : Prop where
  ex : ∀ x, c.ex = some x → GoodE prog w b h0 D S sc e x
  ts : ∀ t, c.ts = some t → GoodT prog w b h0 D S sc e t
  rd : ∀ r, c.rd = some r → GoodR prog w b h0 D S sc e r
  src : ∀ x, c.src = some x → GoodSr prog w b h0 D S sc e x
  sl : ∀ l h, c.sl = some (l, h) → ∃ lo hi p, e = .Slice lo hi none p ∧ GoodO prog w b h0 D S sc lo l ∧ GoodO prog w b h0 D S sc hi h
  rp : ∀ l, c.rp = some l → ∃ es p, e = .List es p ∧ es.length < 1000 ∧ GoodL prog w b h0 D S sc es l
  bl : ∀ x, c.bl = some x → ∃ o nm p, e = .Attribute o nm p ∧ notCallName o = true ∧ GoodE prog w b h0 D S sc o x
  fresh : c.fresh = true → ∀ x, c.ex = some x → GoodF prog w b h0 D S sc e x

/-- nothing is read -/
structure Nil (c : CR) : Prop where
  ex : c.ex = none
  ts : c.ts = none
  rd : c.rd = none
  src : c.src = none
  sl : c.sl = none
  rp : c.rp = none
  bl : c.bl = none
theorem goodNil {sc : Sc} {e : Expr} {c : CR} (h : Nil c) : GoodCR prog w b h0 D S sc e c := by
  obtain ⟨h1, h2, h3, h4, h5, h6, h7⟩ := h
  refine ⟨fun x q => ?_, fun x q => ?_, fun x q => ?_, fun x q => ?_, fun x y q => ?_, fun x q => ?_, fun x q => ?_, fun _ x q => ?_⟩
  · rw [h1] at q; cases q
  · rw [h2] at q; cases q
  · rw [h3] at q; cases q
  · rw [h4] at q; cases q
  · rw [h5] at q; cases q
  · rw [h6] at q; cases q
  · rw [h7] at q; cases q
  · rw [h1] at q; cases q
theorem nil0 : Nil {} := ⟨rfl, rfl, rfl, rfl, rfl, rfl, rfl⟩

theorem goodOf (ok : BxOk b) {sc : Sc} {e : Expr} {x : Option Ex} (hp : plainTest e = true) (g : ∀ y, x = some y → GoodE prog w b h0 D S sc e y) : GoodCR prog w b h0 D S sc e (CR.of x) := by
  cases x with
  | none => exact goodNil ⟨rfl, rfl, rfl, rfl, rfl, rfl, rfl⟩
  | some y =>
    have g := g y rfl
    exact ⟨fun x q => by cases q; exact g, fun x q => by cases q; exact goodT_val ok hp g, fun x q => by cases q; exact goodR_of g, fun x q => by cases q; exact goodSr_of ok g, fun _ _ q => (by cases q), fun _ q => (by cases q), fun _ q => (by cases q), fun q => (by cases q)⟩
/-- with a test of its own -/
theorem goodOfT (ok : BxOk b) {sc : Sc} {e : Expr} {x : Option Ex} {t : Option Ts} (g : ∀ y, x = some y → GoodE prog w b h0 D S sc e y) (gt : ∀ y, t = some y → GoodT prog w b h0 D S sc e y) : GoodCR prog w b h0 D S sc e { CR.of x with ts := t } := by
  refine ⟨fun y q => g y q, fun y q => gt y q, fun y q => ?_, fun y q => ?_, fun _ _ q => (by cases q), fun _ q => (by cases q), fun _ q => (by cases q), fun q => (by cases q)⟩
  · obtain ⟨z, hz, rfl⟩ := Option.map_eq_some_iff.mp (show x.map Rd.of = some y from q)
    exact goodR_of (g z hz)
  · obtain ⟨z, hz, rfl⟩ := Option.map_eq_some_iff.mp (show x.map Src.of = some y from q)
    exact goodSr_of ok (g z hz)
theorem goodSrOpt {sc : Sc} {e : Expr} {x : Option Src} (g : ∀ y, x = some y → GoodSr prog w b h0 D S sc e y) : GoodCR prog w b h0 D S sc e { src := x } :=
  ⟨fun _ q => (by cases q), fun _ q => (by cases q), fun _ q => (by cases q), fun y q => g y q, fun _ _ q => (by cases q), fun _ q => (by cases q), fun _ q => (by cases q), fun q => (by cases q)⟩

noncomputable def GAll (prog : Program) (w : World) (b : Bx) (h0 : Heap) (D : Nat) (S : Spec) (sc : Sc) : List Expr → List CR → Prop
  | [], [] => True
  | e :: es, c :: cs => GoodCR prog w b h0 D S sc e c ∧ GAll prog w b h0 D S sc es cs
  | _, _ => False
theorem goodL_of (ok : BxOk b) {sc : Sc} : ∀ (es : List Expr) (l : ExL), GAll prog w b h0 D S sc es (cAs fns es sc) → exsOf (cAs fns es sc) = some l → GoodL prog w b h0 D S sc es l
  | [], l, _, h => by cases Option.some.inj (show some ExL.nil = some l from h); exact goodL_nil
  | e :: es, l, g, h => by
    obtain ⟨x, hx, h⟩ := bd_inv (show ((cA fns e sc).ex.bind fun e => (exsOf (cAs fns es sc)).map fun l => .cons e l) = some l from h)
    obtain ⟨l', hl, rfl⟩ := mp_inv h
    exact goodL_cons ok (notStar hx) (g.1.ex _ hx) (goodL_of ok es l' g.2 hl)

theorem slice_not {e : Expr} {sc : Sc} (h : (cA fns e sc).isSl = false) : ∀ o j, subscripted e false o j = operate [o, j] (getItem o j) := by
  cases e <;> first | (intro o j; rfl) | exact absurd h.symm Bool.false_ne_true
theorem set_not {e : Expr} {sc : Sc} {s : Src} (h : (cA fns e sc).src = some s) : ∀ env x, foldedSetIterable e env x = pure x := by
  cases e <;> first | (intro env x; rfl) | exact nomatch (show none = some s from h)

theorem cr_Name (ok : BxOk b) (G : Grd fns h0) {x : Str} {pos : Pos} {sc : Sc} : GoodCR prog w b h0 D S sc (.Name x pos) (kName fns sc x) := by
  have h := goodOf (prog := prog) (w := w) (D := D) (S := S) ok (e := .Name x pos) (x := cName fns sc x) rfl (fun y q => good_Name G q)
  refine ⟨h.ex, h.ts, fun r q => ?_, h.src, h.sl, h.rp, h.bl, h.fresh⟩
  obtain ⟨hd, q⟩ := sh_inv q
  obtain ⟨i, hi, rfl⟩ := mp_inv q
  exact goodR_var (nb hd) hi

section
variable {sc : Sc} {pos : Pos}
theorem cr_Bin (ok : BxOk b) {l r : Expr} {o : Operator} {a c : CR} (gl : GoodCR prog w b h0 D S sc l a) (gr : GoodCR prog w b h0 D S sc r c) : GoodCR prog w b h0 D S sc (.BinOp l o r pos) (kBin o a c) := by
  unfold kBin
  cases e : mulRep o a c with
  | some t =>
    unfold mulRep at e
    split at e
    · obtain ⟨es, h1, e⟩ := bd_inv e
      obtain ⟨k, h2, rfl⟩ := mp_inv e
      obtain ⟨es', p, rfl, hl, g⟩ := gl.rp _ h1
      have f := goodF_Rep (pos := pos) (lp := p) ok hl g (gr.ex _ h2)
      have h := goodOf ok (e := .BinOp (.List es' p) .Mult r pos) (x := some (.rep es k)) rfl (fun y q => by cases q; exact f.e)
      exact ⟨h.ex, h.ts, h.rd, h.src, h.sl, h.rp, h.bl, fun _ x q => by cases q; exact f⟩
    · cases e
  | none =>
    refine goodOf ok rfl fun y q => ?_
    obtain ⟨x, h1, q⟩ := bd_inv q
    obtain ⟨z, h2, rfl⟩ := mp_inv q
    exact good_Bin ok (gl.ex _ h1) (gr.ex _ h2)
theorem cr_Un (ok : BxOk b) {x : Expr} {o : UnaryOp} {a : CR} (g : GoodCR prog w b h0 D S sc x a) : GoodCR prog w b h0 D S sc (.UnaryOp o x pos) (kUn o a) := by
  cases o with
  | Not =>
    refine goodOfT ok (fun y q => ?_) fun y q => ?_
    · obtain ⟨z, hz, rfl⟩ := mp_inv q; exact good_Not ok (g.ex _ hz)
    · obtain ⟨z, hz, rfl⟩ := mp_inv q; exact goodT_Not ok (g.ts _ hz)
  | USub => exact goodOf ok rfl fun y q => by obtain ⟨z, hz, rfl⟩ := mp_inv q; exact good_Neg ok (g.ex _ hz)
  | _ => exact goodNil nil0
theorem two_of {vs : List Expr} {a c : CR} (g : GAll prog w b h0 D S sc vs [a, c]) : ∃ x y, vs = [x, y] ∧ GoodCR prog w b h0 D S sc x a ∧ GoodCR prog w b h0 D S sc y c := by
  match vs, g with
  | [x, y], g => exact ⟨x, y, rfl, g.1, g.2.1⟩
theorem cr_Bool (ok : BxOk b) {vs : List Expr} {o : BoolOp} {cs : List CR} (g : GAll prog w b h0 D S sc vs cs) : GoodCR prog w b h0 D S sc (.BoolOp o vs pos) (kBool o cs) := by
  refine goodOfT ok (fun z q => ?_) fun z q => ?_
  · obtain ⟨p, hp, q⟩ := bd_inv q
    rw [two_inv hp] at g
    obtain ⟨x, y, rfl, ga, gc⟩ := two_of g
    obtain ⟨x', h1, q⟩ := bd_inv q
    obtain ⟨y', h2, rfl⟩ := mp_inv q
    cases o with
    | And => exact good_And ok (ga.ex _ h1) (gc.ex _ h2)
    | Or => exact good_Or ok (ga.ex _ h1) (gc.ex _ h2)
  · obtain ⟨p, hp, q⟩ := bd_inv q
    rw [two_inv hp] at g
    obtain ⟨x, y, rfl, ga, gc⟩ := two_of g
    obtain ⟨x', h1, q⟩ := bd_inv q
    obtain ⟨y', h2, rfl⟩ := mp_inv q
    cases o with
    | And => exact goodT_And ok (ga.ts _ h1) (gc.ts _ h2)
    | Or => exact goodT_Or ok (ga.ts _ h1) (gc.ts _ h2)
theorem cr_If (ok : BxOk b) {c x y : Expr} {c' x' y' : CR} (gc : GoodCR prog w b h0 D S sc c c') (gx : GoodCR prog w b h0 D S sc x x') (gy : GoodCR prog w b h0 D S sc y y') : GoodCR prog w b h0 D S sc (.IfExp c x y pos) (kIf c' x' y') := by
  refine goodOfT ok (fun z q => ?_) fun z q => by cases q
  obtain ⟨_, h1, q⟩ := bd_inv q
  obtain ⟨_, h2, q⟩ := bd_inv q
  obtain ⟨_, h3, rfl⟩ := mp_inv q
  exact good_If ok (gc.ts _ h1) (gx.ex _ h2) (gy.ex _ h3)
theorem cr_Cmp (ok : BxOk b) {l : Expr} {ops : List CmpOp} {cs : List Expr} {a : CR} {bs : List CR} (gl : GoodCR prog w b h0 D S sc l a) (g : GAll prog w b h0 D S sc cs bs) : GoodCR prog w b h0 D S sc (.Compare l ops cs pos) (kCmp ops cs a bs) := by
  have key : ∀ t, cmp3 ops cs a bs = some t → ∃ e c, ops = [t.1] ∧ cs = [e] ∧ GoodCR prog w b h0 D S sc e c ∧ behindInMarks t.1 e = false ∧ a.ex = some t.2.1 ∧ c.rd = some t.2.2 := fun t h => by
    obtain ⟨o, h1, h⟩ := bd_inv h
    obtain ⟨e, h2, h⟩ := bd_inv h
    obtain ⟨c, h3, h⟩ := bd_inv h
    obtain ⟨hm, h⟩ := sh_inv h
    obtain ⟨x, h4, h⟩ := bd_inv h
    obtain ⟨y, h5, rfl⟩ := mp_inv h
    rw [one_inv h2, one_inv h3] at g
    exact ⟨e, c, one_inv h1, one_inv h2, g.1, nb hm, h4, h5⟩
  refine goodOfT ok (fun z q => ?_) fun z q => ?_
  · obtain ⟨t, ht, rfl⟩ := mp_inv q
    obtain ⟨e, c, rfl, rfl, gc, hm, h1, h2⟩ := key t ht
    exact good_Cmp ok hm (gl.ex _ h1) (gc.rd _ h2)
  · obtain ⟨t, ht, rfl⟩ := mp_inv q
    obtain ⟨e, c, rfl, rfl, gc, hm, h1, h2⟩ := key t ht
    exact goodT_Cmp ok hm (gl.ex _ h1) (gc.rd _ h2)
theorem exL1_inv {l : ExL} {a : Ex} (h : exL1 l = some a) : l = .cons a .nil := by
  cases l with
  | nil => cases h
  | cons x r =>
    cases r with
    | nil => cases h; rfl
    | cons _ _ => cases h
theorem exL2_inv {l : ExL} {t : Ex × Ex} (h : exL2 l = some t) : l = .cons t.1 (.cons t.2 .nil) := by
  cases l with
  | nil => cases h
  | cons x r =>
    obtain ⟨y, h1, rfl⟩ := mp_inv h
    rw [exL1_inv h1]
theorem cr_Call (ok : BxOk b) (G : Grd fns h0) (F : FnOk prog w b h0 D S) (hfn : ∀ a ps n Q, S a ps n Q → ∃ o fd, h0.get? a = some o ∧ o.data = .func fd) {f : Expr} {as : List Expr} {ks : List Keyword} {fr : CR}
    (gf : GoodCR prog w b h0 D S sc f fr) (g : GAll prog w b h0 D S sc as (cAs fns as sc)) : GoodCR prog w b h0 D S sc (.Call f as ks pos) (kCall sc f as ks pos fr (exsOf (cAs fns as sc))) := by
  unfold kCall
  cases hks : ks.isEmpty && decide (as.length < 10) with
  | false => exact goodNil nil0
  | true =>
    obtain rfl := List.isEmpty_iff.mp (an hks).1
    cases hx : nameIs f with
    | some x =>
      obtain ⟨np, rfl⟩ := nameIs_inv hx
      dsimp only
      generalize hd : (x == ("__debug__" : Str)) = dd
      cases dd with
      | true => exact goodNil nil0
      | false =>
        cases h2 : exsOf (cAs fns as sc) with
        | none => exact goodNil nil0
        | some l =>
          have gL := goodL_of ok as l g h2
          have nS := exsOf_nostar h2
          show GoodCR prog w b h0 D S sc _ (kNm sc x fr l)
          unfold kNm
          cases h1 : cBi sc x with
          | none => exact goodOf ok rfl fun z q => by obtain ⟨y, hy, rfl⟩ := mp_inv q; exact good_Call ok G F hfn (gf.ex _ hy) nS gL
          | some k =>
            cases k with
            | bi c => exact goodOf ok rfl fun y q => by cases q; exact good_Bi ok G hd h1 nS gL
            | rng => exact goodSrOpt fun y q => by cases q; exact goodSr_rng ok G hd h1 nS gL
            | zip => exact goodSrOpt fun y q => by obtain ⟨t, ht, rfl⟩ := mp_inv q; rw [exL2_inv ht] at gL; exact goodSr_zip ok G hd h1 nS gL
            | enm => exact goodSrOpt fun y q => by obtain ⟨t, ht, rfl⟩ := mp_inv q; rw [exL1_inv ht] at gL; exact goodSr_enm ok G hd h1 nS gL
    | none =>
      cases has : as.isEmpty with
      | false => exact goodNil nil0
      | true =>
        obtain rfl := List.isEmpty_iff.mp has
        refine goodOf (x := (attrOf f).bind fun t => sh (t.2.1 == ("bit_length" : Str) && t.2.2.endLine == pos.line) (fr.bl.map .bits)) ok rfl fun y e => ?_
        obtain ⟨t, ht, e⟩ := bd_inv e
        obtain ⟨hq, e⟩ := sh_inv e
        obtain ⟨z, hz, rfl⟩ := mp_inv e
        obtain ⟨o, nm', p, rfl, ho, go⟩ := gf.bl _ hz
        cases Option.some.inj (show some (o, nm', p) = some t from ht)
        have hn : nm' = _ := beq_iff_eq.mp (an hq).1
        rw [hn]
        exact good_Bits ok ho (an hq).2 go
theorem cr_Attr (ok : BxOk b) {o : Expr} {nm : Str} {a : CR} (g : GoodCR prog w b h0 D S sc o a) : GoodCR prog w b h0 D S sc (.Attribute o nm pos) (kAttr o a) :=
  ⟨fun _ q => (by cases q), fun _ q => (by cases q), fun _ q => (by cases q), fun y q => (by cases q), fun _ _ q => (by cases q), fun _ q => (by cases q), fun x q => ⟨o, nm, pos, rfl, (sh_inv q).1, g.ex _ (sh_inv q).2⟩, fun q => (by cases q)⟩
theorem cr_Sub (ok : BxOk b) {v s : Expr} {a c : CR} (gv : GoodCR prog w b h0 D S sc v a) (gs : GoodCR prog w b h0 D S sc s c) (hsl : c.isSl = false → ∀ o j, subscripted s false o j = operate [o, j] (getItem o j)) : GoodCR prog w b h0 D S sc (.Subscript v s pos) (kSub a c) := by
  unfold kSub
  cases hs : c.isSl with
  | true =>
    refine goodOf ok rfl fun y q => ?_
    obtain ⟨t, h2, q⟩ := bd_inv q
    obtain ⟨x, h1, rfl⟩ := mp_inv q
    obtain ⟨lo, hi, p, rfl, gl, gh⟩ := gs.sl _ _ h2
    exact good_Slc ok (gv.ex _ h1) gl gh
  | false =>
    refine goodOf ok rfl fun y q => ?_
    obtain ⟨x, h1, q⟩ := bd_inv q
    obtain ⟨z, h2, rfl⟩ := mp_inv q
    exact good_Idx ok (hsl hs) (gv.rd _ h1) (gs.ex _ h2)
theorem cr_List (ok : BxOk b) {es : List Expr} (g : GAll prog w b h0 D S sc es (cAs fns es sc)) : GoodCR prog w b h0 D S sc (.List es pos) (kList es (exsOf (cAs fns es sc))) := by
  unfold kList
  cases hl : decide (es.length < 1000) with
  | true =>
    have hl := of_decide_eq_true hl
    have f : ∀ l, exsOf (cAs fns es sc) = some l → GoodF prog w b h0 D S sc (.List es pos) (.lst l) := fun l q => goodF_List ok hl (goodL_of ok es l g q)
    have h := goodOf ok (e := .List es pos) (x := (exsOf (cAs fns es sc)).map .lst) rfl (fun y q => by obtain ⟨z, hz, rfl⟩ := mp_inv q; exact (f z hz).e)
    exact ⟨h.ex, h.ts, h.rd, h.src, h.sl, fun l q => ⟨es, pos, rfl, hl, goodL_of ok es l g q⟩, h.bl, fun _ x q => by obtain ⟨z, hz, rfl⟩ := mp_inv q; exact f z hz⟩
  | false => exact goodNil nil0
theorem cr_Tuple (ok : BxOk b) {es : List Expr} {k : Nat} (g : GAll prog w b h0 D S sc es (cAs fns es sc)) : GoodCR prog w b h0 D S sc (.Tuple es k pos) (kTuple es (exsOf (cAs fns es sc))) :=
  goodOf ok rfl fun y q => by
    obtain ⟨hl, q⟩ := sh_inv q
    obtain ⟨z, hz, rfl⟩ := mp_inv q
    exact good_Tuple ok (of_decide_eq_true hl) (goodL_of ok es z g hz)
theorem cr_Slice {lo hi st : Option Expr} {xl xh : Option ExO} (gl : ∀ l, xl = some l → GoodO prog w b h0 D S sc lo l) (gh : ∀ l, xh = some l → GoodO prog w b h0 D S sc hi l) : GoodCR prog w b h0 D S sc (.Slice lo hi st pos) (kSlice st xl xh) := by
  refine ⟨fun _ q => (by cases q), fun _ q => (by cases q), fun _ q => (by cases q), fun y q => (by cases q), fun l h q => ?_, fun _ q => (by cases q), fun _ q => (by cases q), fun _ _ q => (by cases q)⟩
  obtain ⟨hs, q⟩ := sh_inv q
  obtain ⟨l', h1, q⟩ := bd_inv q
  obtain ⟨h', h2, q⟩ := mp_inv q
  cases q
  cases st with
  | none => exact ⟨lo, hi, pos, rfl, gl _ h1, gh _ h2⟩
  | some _ => cases hs
end

/-- one clause -/
noncomputable def GoodG (prog : Program) (w : World) (b : Bx) (h0 : Heap) (D : Nat) (S : Spec) (fns : List (Str × Addr)) (sc si : Sc) (g : Comprehension) : Prop :=
  ∀ t s c, cG fns g sc si = some (t, s, c) → ∃ target iter ifs, g = ⟨target, iter, ifs, 0⟩ ∧ GoodSr prog w b h0 D S sc iter s ∧ GoodTO prog w b h0 D S si ifs c ∧ cTg si target = some t ∧ (needT s = true → isTup target = true) ∧ tgGe sc.len t = true ∧ ∀ env x, foldedSetIterable iter env x = pure x
theorem cr_Comp (ok : BxOk b) {elt : Expr} {gs : List Comprehension} {scope : Scope} {pos : Pos} {sc : Sc} {z : Option (Tg × Src × TsO)} {a : CR} (ge : GoodCR prog w b h0 D S (inSc sc scope) elt a)
    (gg : ∀ t s c, z = some (t, s, c) → ∃ g, gs = [g] ∧ ∃ target iter ifs, g = ⟨target, iter, ifs, 0⟩ ∧ GoodSr prog w b h0 D S sc iter s ∧ GoodTO prog w b h0 D S (inSc sc scope) ifs c ∧ cTg (inSc sc scope) target = some t ∧ (needT s = true → isTup target = true) ∧ tgGe sc.len t = true ∧ ∀ env x, foldedSetIterable iter env x = pure x) :
    GoodCR prog w b h0 D S sc (.ListComp elt gs scope pos) (kComp sc scope z a) := by
  have f : ∀ y, (sh (okSc sc scope) (z.bind fun t => a.ex.map fun e => Ex.comp (nOwn scope.names) t.1 t.2.1 t.2.2 e)) = some y → GoodF prog w b h0 D S sc (.ListComp elt gs scope pos) y := by
    intro y q
    obtain ⟨hs, q⟩ := sh_inv q
    obtain ⟨t, h1, q⟩ := bd_inv q
    obtain ⟨e, h2, rfl⟩ := mp_inv q
    obtain ⟨g, rfl, target, iter, ifs, rfl, g1, g2, g3, g4, g5, g6⟩ := gg _ _ _ h1
    exact goodF_Comp ok g1 g2 (ge.ex _ h2) g3 g4 g5 hs g6
  have h := goodOf ok (e := .ListComp elt gs scope pos) rfl fun y q => (f y q).e
  exact ⟨h.ex, h.ts, h.rd, h.src, h.sl, h.rp, h.bl, fun _ x q => f x q⟩
theorem tsOf_ok {si : Sc} {ifs : List Expr} {c : TsO} (g : GAll prog w b h0 D S si ifs (cAs fns ifs si)) (h : tsOf (cAs fns ifs si) = some c) : GoodTO prog w b h0 D S si ifs c := by
  match ifs, g with
  | [], g => cases Option.some.inj (show some TsO.no = some c from h); exact goodTO_no
  | [e], g =>
    obtain ⟨t, ht, rfl⟩ := mp_inv (show (cA fns e si).ts.map TsO.so = some c from h)
    exact goodTO_so (g.1.ts _ ht)
  | _ :: _ :: _, g => exact nomatch (show none = some c from h)

mutual
theorem gA (ok : BxOk b) (G : Grd fns h0) (F : FnOk prog w b h0 D S) (hfn : ∀ a ps n Q, S a ps n Q → ∃ o fd, h0.get? a = some o ∧ o.data = .func fd) : ∀ (e : Expr) (sc : Sc), GoodCR prog w b h0 D S sc e (cA fns e sc)
  | .Constant c k pos, sc => goodOf (x := (cConst c).map .lit) ok rfl fun y q => by obtain ⟨z, hz, rfl⟩ := mp_inv q; exact good_Const hz
  | .Name x pos, sc => cr_Name ok G
  | .BinOp l o r pos, sc => cr_Bin ok (gA ok G F hfn l sc) (gA ok G F hfn r sc)
  | .UnaryOp o x pos, sc => cr_Un ok (gA ok G F hfn x sc)
  | .BoolOp o vs pos, sc => cr_Bool ok (gAs ok G F hfn vs sc)
  | .IfExp c x y pos, sc => cr_If ok (gA ok G F hfn c sc) (gA ok G F hfn x sc) (gA ok G F hfn y sc)
  | .Compare l ops cs pos, sc => cr_Cmp ok (gA ok G F hfn l sc) (gAs ok G F hfn cs sc)
  | .Call f as ks pos, sc => cr_Call ok G F hfn (gA ok G F hfn f sc) (gAs ok G F hfn as sc)
  | .Attribute o nm pos, sc => cr_Attr ok (gA ok G F hfn o sc)
  | .Subscript v s pos, sc => cr_Sub ok (gA ok G F hfn v sc) (gA ok G F hfn s sc) slice_not
  | .Slice lo hi st pos, sc => cr_Slice (gO ok G F hfn lo sc) (gO ok G F hfn hi sc)
  | .List es pos, sc => cr_List ok (gAs ok G F hfn es sc)
  | .Tuple es k pos, sc => cr_Tuple ok (gAs ok G F hfn es sc)
  | .ListComp elt gs scope pos, sc => cr_Comp ok (gA ok G F hfn elt _) (fun t s c => gGs ok G F hfn gs sc _ t s c)
  | .NamedExpr .., sc | .Lambda .., sc | .Dict .., sc | .Set .., sc | .SetComp .., sc | .DictComp .., sc | .GeneratorExp .., sc | .Await .., sc | .Yield .., sc | .YieldFrom .., sc | .FormattedValue .., sc | .JoinedStr .., sc | .Starred .., sc => goodNil nil0
theorem gAs (ok : BxOk b) (G : Grd fns h0) (F : FnOk prog w b h0 D S) (hfn : ∀ a ps n Q, S a ps n Q → ∃ o fd, h0.get? a = some o ∧ o.data = .func fd) : ∀ (es : List Expr) (sc : Sc), GAll prog w b h0 D S sc es (cAs fns es sc)
  | [], sc => trivial
  | e :: es, sc => ⟨gA ok G F hfn e sc, gAs ok G F hfn es sc⟩
theorem gO (ok : BxOk b) (G : Grd fns h0) (F : FnOk prog w b h0 D S) (hfn : ∀ a ps n Q, S a ps n Q → ∃ o fd, h0.get? a = some o ∧ o.data = .func fd) : ∀ (e : Option Expr) (sc : Sc) (l : ExO), cO fns e sc = some l → GoodO prog w b h0 D S sc e l
  | none, sc, l, h => by cases Option.some.inj (show some ExO.no = some l from h); exact goodO_none
  | some e, sc, l, h => by
    obtain ⟨z, hz, rfl⟩ := mp_inv (show (cA fns e sc).ex.map ExO.so = some l from h)
    exact goodO_some ((gA ok G F hfn e sc).ex _ hz)
theorem gG (ok : BxOk b) (G : Grd fns h0) (F : FnOk prog w b h0 D S) (hfn : ∀ a ps n Q, S a ps n Q → ∃ o fd, h0.get? a = some o ∧ o.data = .func fd) : ∀ (g : Comprehension) (sc si : Sc), GoodG prog w b h0 D S fns sc si g
  | ⟨target, iter, ifs, a⟩, sc, si => by
    intro t s c h
    obtain ⟨t', h1, h⟩ := bd_inv (show ((cTg si target).bind fun t' => (cA fns iter sc).src.bind fun s => (tsOf (cAs fns ifs si)).bind fun c => sh (a == 0 && (!needT s || isTup target) && tgGe sc.len t') (some (t', s, c))) = some (t, s, c) from h)
    obtain ⟨s', h2, h⟩ := bd_inv h
    obtain ⟨c', h3, h⟩ := bd_inv h
    obtain ⟨hq, h⟩ := sh_inv h
    cases h
    obtain rfl : a = 0 := beq_iff_eq.mp (an (an hq).1).1
    have q2 := (an (an hq).1).2
    exact ⟨target, iter, ifs, rfl, (gA ok G F hfn iter sc).src _ h2, tsOf_ok (gAs ok G F hfn ifs si) h3, h1, fun q => by rw [q] at q2; exact q2, (an hq).2, set_not h2⟩
theorem gGs (ok : BxOk b) (G : Grd fns h0) (F : FnOk prog w b h0 D S) (hfn : ∀ a ps n Q, S a ps n Q → ∃ o fd, h0.get? a = some o ∧ o.data = .func fd) : ∀ (gs : List Comprehension) (sc si : Sc) (t : Tg) (s : Src) (c : TsO), cGs fns gs sc si = some (t, s, c) →
    ∃ g, gs = [g] ∧ ∃ target iter ifs, g = ⟨target, iter, ifs, 0⟩ ∧ GoodSr prog w b h0 D S sc iter s ∧ GoodTO prog w b h0 D S si ifs c ∧ cTg si target = some t ∧ (needT s = true → isTup target = true) ∧ tgGe sc.len t = true ∧ ∀ env x, foldedSetIterable iter env x = pure x
  | [], sc, si, t, s, c, h => nomatch (show none = some (t, s, c) from h)
  | g :: gs, sc, si, t, s, c, h => by
    obtain ⟨hg, h⟩ := sh_inv (show sh gs.isEmpty (cG fns g sc si) = some (t, s, c) from h)
    exact ⟨g, by rw [List.isEmpty_iff.mp hg], gG ok G F hfn g sc si t s c h⟩
end
end

section
variable {prog : Program} {w : World} {b : Bx} {fns : List (Str × Addr)} {h0 : Heap} {D : Nat} {S : Spec} {sc : Sc} {env : Env} {A : Around} {s : Shared} {n : Nat} {U : Addr → Prop} {ρ : REnv} {E : Value → Shared → Prop}

/-- a block's way: what others hold is kept, and nothing is lost -/
noncomputable def KS (b : Bx) (U : Addr → Prop) (s s' : Shared) : Prop := ∃ h' tk, s' = { s with heap := h', toks := tk } ∧ (∀ a o, (¬ U a ∨ (b.floor a ∧ ¬ b.set a)) → s.heap.get? a = some o → h'.get? a = some o) ∧ ∀ a, h'.get? a = none → s.heap.get? a = none
theorem KS.back {s' : Shared} (k : KS b U s s') : ∀ a, s'.heap.get? a = none → s.heap.get? a = none := by obtain ⟨h', tk, rfl, _, k⟩ := k; exact k
theorem KS.get {s' : Shared} (k : KS b U s s') {a : Addr} {o : Obj} (c : ¬ U a ∨ (b.floor a ∧ ¬ b.set a)) (e : s.heap.get? a = some o) : s'.heap.get? a = some o := by obtain ⟨h', tk, rfl, k, _⟩ := k; exact k a o c e
theorem KS.refl : KS b U s s := ⟨s.heap, s.toks, rfl, fun _ _ _ e => e, fun _ e => e⟩
theorem KS.of {n n' : Nat} {s' : Shared} (ok : BxOk b) (hU : ∀ a, b.set a → U a) (k : SS b n n' s s') : KS b U s s' := by
  have kb := fun a => k.back ok (a := a)
  obtain ⟨h', tk, rfl, k⟩ := k
  exact ⟨h', tk, rfl, fun a o c e => k.1 a o (fun q => c.elim (fun c => c (hU a q)) fun c => c.2 q) e, kb⟩
theorem KS.trans {U' : Addr → Prop} {s' s'' : Shared} (x : KS b U s s') (y : KS b U' s' s'') (hU : ∀ a, U' a → U a ∨ s.heap.get? a = none) : KS b U s s'' := by
  obtain ⟨h1, t1, rfl, k1, b1⟩ := x
  obtain ⟨h2, t2, rfl, k2, b2⟩ := y
  refine ⟨h2, t2, rfl, fun a o c e => k2 a o ?_ (k1 a o c e), fun a e => b1 a (b2 a e)⟩
  rcases c with c | c
  · left; intro q
    rcases hU a q with q | q
    · exact c q
    · rw [q] at e; cases e
  · exact .inr c
/-- one object of the frame's own is turned -/
theorem KS.touch {h' : Heap} {tk : Nat} {a0 : Addr} (hu : U a0) (hf : ¬ (b.floor a0 ∧ ¬ b.set a0)) (h1 : ∃ o, h'.get? a0 = some o) (hs : Heap.SameBut a0 s.heap h') : KS b U s { s with heap := h', toks := tk } :=
  ⟨h', tk, rfl, fun a o c e => by rw [hs.2 a fun q => by subst q; exact c.elim (fun c => c hu) hf]; exact e, fun a e => by
    by_cases q : a = a0
    · subst q; obtain ⟨o, h1⟩ := h1; rw [h1] at e; cases e
    · rw [← hs.2 a q]; exact e⟩

noncomputable def NxPost (b : Bx) (h0 : Heap) (D : Nat) (sc : Sc) (env : Env) (A : Around) (U : Addr → Prop) (s : Shared) (N : REnv → Nat → Prop) (s' : Shared) : Prop :=
  ∃ U' n' ρ', KS b U s s' ∧ (∀ a, U' a → U a ∨ s.heap.get? a = none) ∧ HH b h0 D sc env A s' n' U' ρ' ∧ N ρ' n'
noncomputable def RtPost (b : Bx) (U : Addr → Prop) (s : Shared) (R : PV → Nat → Prop) (v : Value) (s' : Shared) : Prop :=
  ∃ p n', KS b U s s' ∧ b.inv n' s'.heap ∧ RepV b s'.heap b.floor v p ∧ R p n'
noncomputable def StPost (b : Bx) (h0 : Heap) (D : Nat) (sc : Sc) (env : Env) (A : Around) (U : Addr → Prop) (s : Shared) (N : REnv → Nat → Prop) (R : PV → Nat → Prop) : Flow → Shared → Prop
  | .next, s' => NxPost b h0 D sc env A U s N s'
  | .ret v, s' => RtPost b U s R v s'
  | _, _ => False
noncomputable def GoodS (prog : Program) (w : World) (b : Bx) (h0 : Heap) (D : Nat) (S : Spec) (sc : Sc) (st : Stmt) (x : St) : Prop :=
  ∀ env A s n U ρ N R E, HH b h0 D sc env A s n U ρ → exP S x ρ n N R → wpAny (model prog w) A (exec st env) (StPost b h0 D sc env A U s N R) E s
noncomputable def GoodSs (prog : Program) (w : World) (b : Bx) (h0 : Heap) (D : Nat) (S : Spec) (sc : Sc) (st : List Stmt) (x : StL) : Prop :=
  ∀ env A s n U ρ N R E, HH b h0 D sc env A s n U ρ → exLP S x ρ n N R → wpAny (model prog w) A (execs st env) (StPost b h0 D sc env A U s N R) E s

theorem stPost_trans {U' : Addr → Prop} {s' s'' : Shared} {N : REnv → Nat → Prop} {R : PV → Nat → Prop} {f : Flow} (k : KS b U s s') (hU : ∀ a, U' a → U a ∨ s.heap.get? a = none) (h : StPost b h0 D sc env A U' s' N R f s'') : StPost b h0 D sc env A U s N R f s'' := by
  cases f with
  | next =>
    obtain ⟨U2, n2, ρ2, k2, h2, H2, q⟩ := h
    refine ⟨U2, n2, ρ2, k.trans k2 hU, fun a q => ?_, H2, q⟩
    rcases h2 a q with q | q
    · exact hU a q
    · exact .inr (k.back a q)
  | ret v =>
    obtain ⟨p, n2, k2, h2, h3, h4⟩ := h
    exact ⟨p, n2, k.trans k2 hU, h2, h3, h4⟩
  | brk => exact h
  | cont => exact h

theorem goodSs_nil : GoodSs prog w b h0 D S sc [] .nil := fun env A s n U ρ N R E H hQ => by
  exact wpAny_execs_nil ⟨U, n, ρ, KS.refl, fun _ q => .inl q, H, hQ⟩
theorem goodSs_cons {st : Stmt} {r : List Stmt} {x : St} {l : StL} (g : GoodS prog w b h0 D S sc st x) (gs : GoodSs prog w b h0 D S sc r l) : GoodSs prog w b h0 D S sc (st :: r) (.cons x l) := by
  intro env A s n U ρ N R E H hQ
  refine wpAny_execs_cons (wpAny_mono (g env A s n U ρ _ R E H hQ) (fun f s' h => ?_) fun _ _ e => e)
  cases f with
  | next =>
    obtain ⟨U', n', ρ', k, hU, H', q⟩ := h
    exact wpAny_mono (gs env A s' n' U' ρ' N R E H' q) (fun f s'' h => stPost_trans k hU h) fun _ _ e => e
  | ret v => exact h
  | brk => exact h.elim
  | cont => exact h.elim

theorem frame_floor {a0 : Addr} (H : HH b h0 D sc env A s n U ρ) (ha : a0 = env.locals ∨ ∃ x, env.cells.lookup x = some a0) : ¬ (b.floor a0 ∧ ¬ b.set a0) := fun q => by
  rcases ha with rfl | ⟨x, hx⟩
  · exact H.fl.loc q.1
  · exact H.fl.cel x a0 hx q.1
theorem hy_get {a : Addr} (H : HH b h0 D sc env A s n U ρ) (ha : U a) : ∃ o, s.heap.get? a = some o := H.hy.off a ha

/-- a value in hand is stored -/
theorem set_val (ok : BxOk b) {x : Str} {i : Nat} {v : Value} {p : PV} {N : REnv → Nat → Prop} {s₀ : Shared} {U₀ : Addr → Prop} {Q : Unit → Shared → Prop} (H : HH b h0 D sc env A s n U ρ) (e : cStore sc x = some i) (r : RepV b s.heap U v p) (k : KS b U₀ s₀ s) (hU : ∀ a, U a → U₀ a ∨ s₀.heap.get? a = none)
    (hN : N (ρ.set i (some (.val p))) n) (h : ∀ s', NxPost b h0 D sc env A U₀ s₀ N s' → Q () s') : wpAny (model prog w) A (storeName env x v) Q E s := by
  refine store_val ok H e r fun h' tk a0 ha hs H' => h _ ⟨U, n, _, ?_, hU, H', hN⟩
  have hfr : a0 = env.locals ∨ ∃ x, env.cells.lookup x = some a0 := ha.imp id fun q => ⟨x, q.2⟩
  exact k.trans (KS.touch (frame_U H.fr hfr) (frame_floor H hfr) (H'.hy.off _ (frame_U H.fr hfr)) hs) hU

theorem bind_nx (ok : BxOk b) {target : Expr} {t : Tg} {v : Value} {x : PyData} {K : REnv → Prop} {s₀ : Shared} {U₀ : Addr → Prop} (hc : cTg sc target = some t) (r : RepD s.heap U v x) (H : HH b h0 D sc env A s n U ρ) (hK : bindT t x ρ K) (k : KS b U₀ s₀ s) (hU : ∀ a, U a → U₀ a ∨ s₀.heap.get? a = none) :
    wpAny (model prog w) A (assign target env v) (fun _ s' => NxPost b h0 D sc env A U₀ s₀ (fun ρ' n' => K ρ' ∧ n' = n) s') E s := by
  refine wpAny_mono (bind_ok ok hc (.inl r) H hK) (fun _ s' h => ?_) fun _ _ e => e
  obtain ⟨ρ', h', tk, rfl, q, H', kk⟩ := h
  refine ⟨U, n, ρ', k.trans ⟨h', tk, rfl, fun a o c e => kk a o (fun q => ?_) e, fun a e => ?_⟩ hU, hU, H', q, rfl⟩
  · rcases c with c | c
    · exact c (tgA_U H q)
    · exact frame_floor H (q.imp id fun ⟨z, j, _, _, _, z4⟩ => ⟨z, z4⟩) c
  · cases e' : s.heap.get? a with
    | none => rfl
    | some o =>
      by_cases q : TgA env sc t a
      · obtain ⟨o', e''⟩ := H'.hy.off a (tgA_U H q)
        have e : h'.get? a = none := e
        rw [e] at e''; cases e''
      · have := kk a o q e'
        rw [e] at this; cases this

/-- a fresh object that is no data is let go -/
theorem HH.but {C : Addr} {m : Str → Option Value} {h' : Heap} (ok : BxOk b) (H : HH b h0 D sc env A s n U ρ) (hm : s.heap.Ns C m) (hC : ¬ U C) (h0C : h0.get? C = none) (hs : Heap.SameBut C s.heap h') : HH b h0 D sc env A { s with heap := h' } n U ρ := by
  obtain ⟨f, ef⟩ := H.ee
  have hk : ∀ a o, U a → s.heap.get? a = some o → h'.get? a = some o := fun a o hu e => by rw [hs.2 a fun q => hC (q ▸ hu)]; exact e
  have hns : ∀ {C : Addr} {m : Str → Option Value}, U C → s.heap.Ns C m → h'.Ns C m := fun u ⟨o, es, ep, ho, r⟩ => ⟨o, es, ep, hk _ _ u ho, r⟩
  have hce : ∀ {C : Addr} {m : Option Value}, U C → s.heap.IsCell C m → h'.IsCell C m := fun u ⟨o, ho, hd⟩ => ⟨o, hk _ _ u ho, hd⟩
  refine ⟨H.rm, ⟨fun a o e => by rw [hs.2 a fun q => by subst q; rw [h0C] at e; cases e]; exact H.hy.base a o e, ok.keep n s.heap h' (fun a o hb e => hk a o (H.hy.sub a hb) e) H.hy.inv, H.hy.sub, fun a ha => (H.hy.off a ha).imp fun o => hk a o ha, H.hy.new⟩,
    H.es, ⟨f, fun x i hx var hv => ?_, ef.inj⟩, H.len, ⟨H.fr.ns.imp fun m => hns H.fr.uL, fun x c e => (H.fr.cell x c e).imp fun v => hce (H.fr.uC x c e), H.fr.own, H.fr.inj, H.fr.uL, H.fr.uC⟩, H.wf, H.fl⟩
  obtain ⟨q1, q2⟩ := ef.at_ x i hx var hv
  constructor
  · rcases q1 with ⟨hk, m, q, e⟩ | ⟨hk, c, hc, q⟩
    · exact .inl ⟨hk, m, hns H.fr.uL q, e⟩
    · exact .inr ⟨hk, c, hc, hce (H.fr.uC x c hc) q⟩
  · cases var with
    | val p =>
      cases p with
      | d x => exact RepD.but hm hs q2
      | fn a => exact q2
      | bench => exact q2
    | own l =>
      obtain ⟨a, vs, e1, hb1, hu1, ⟨kk, hp⟩, q⟩ := q2
      exact ⟨a, vs, e1, hb1, hu1, ⟨kk, hk _ _ hu1 hp⟩, RepL.but hm hs q⟩

theorem swaps_ex {v : Expr} {y : Ex} {x : Str} {p : Pos} {l : Nat} (h : (cA fns v sc).ex = some y) : ∃ B : Bool, swapsWith v (some (.Name x p)) l env = pure B ∧ (B = true → isComp v = true) := by
  cases v <;> first | exact ⟨_, rfl, fun _ => rfl⟩ | exact ⟨false, rfl, fun h => by cases h⟩ | exact nomatch (show none = some y from h)
theorem swaps_no {v target : Expr} {l : Nat} (h : ∀ x p, target ≠ .Name x p) : swapsWith v (some target) l env = pure false := by
  cases v <;> first | rfl | (cases target <;> first | rfl | exact absurd rfl (h _ _))

/-- a plain assignment to one name or to names side by side -/
theorem goodS_asg (ok : BxOk b) {target v : Expr} {pos : Pos} {t : Tg} {x : Ex} (hx : (cA fns v sc).ex = some x) (hc : cTg sc target = some t) (hv : isTup target = true → isTup v = false)
    (g : GoodE prog w b h0 D S sc v x) (gcomp : ∀ elt gs scope p, v = .ListComp elt gs scope p → ∃ tg iter ifs t' src c x', gs = [⟨tg, iter, ifs, 0⟩] ∧ x = .comp (nOwn scope.names) t' src c x' ∧
      GoodSr prog w b h0 D S sc iter src ∧ GoodTO prog w b h0 D S (inSc sc scope) ifs c ∧ GoodE prog w b h0 D S (inSc sc scope) elt x' ∧ cTg (inSc sc scope) tg = some t' ∧ (needT src = true → isTup tg = true) ∧ tgGe sc.len t' = true ∧ okSc sc scope = true ∧ ∀ env x, foldedSetIterable iter env x = pure x) :
    GoodS prog w b h0 D S sc (.Assign [target] v pos) (.asg t x) := by
  intro env A s n U ρ N R E H hQ
  unfold exP at hQ
  have plain : wpAny (model prog w) A (eval v env) (fun v s₁ => wpAny (model prog w) A (assign target env v) (fun _ s' => StPost b h0 D sc env A U s N R .next s') E s₁) E s := by
    refine wpAny_mono (g env A s n U ρ _ E H hQ) (fun v s₁ h₁ => ?_) fun _ _ e => e
    obtain ⟨p, n₁, k₁, r₁, q₁⟩ := h₁
    cases p with
    | d y =>
      refine wpAny_mono (bind_nx ok hc r₁ (H.step ok k₁) q₁ (KS.of ok H.hy.sub k₁) fun a q => .inl q) (fun _ s' h => ?_) fun _ _ e => e
      obtain ⟨U', n', ρ', k, hU, H', q, rfl⟩ := h
      exact ⟨U', n', ρ', k, hU, H', q⟩
    | fn a => exact q₁.elim
    | bench => exact q₁.elim
  cases target with
  | Name y p =>
    obtain ⟨B, hB, hB'⟩ := swaps_ex (env := env) (x := y) (p := p) (l := pos.line) hx
    cases B with
    | false =>
      refine wpAny_Assign_Name (wpAny_mono (g env A s n U ρ _ E H hQ) (fun v s₁ h₁ => ?_) fun _ _ e => e) hB
      obtain ⟨p, n₁, k₁, r₁, q₁⟩ := h₁
      cases p with
      | d z =>
        obtain ⟨i, hi, rfl⟩ := Option.map_eq_some_iff.mp (show (cStore sc y).map Tg.one = some t from hc)
        exact set_val (N := N) ok (H.step ok k₁) hi (p := .d z) r₁ (KS.of ok H.hy.sub k₁) (fun a q => .inl q) q₁ fun s' h => h
      | fn a => exact q₁.elim
      | bench => exact q₁.elim
    | true =>
      have hcm := hB' rfl
      cases v <;> first | exact absurd hcm Bool.false_ne_true | skip
      rename_i elt gs scope p'
      obtain ⟨tg, iter, ifs, t', src, c, x', rfl, rfl, g1, g2, g3, g4, g5, g6, g7, g8⟩ := gcomp elt gs scope p' rfl
      rw [exec_Assign_Name_used y p _ pos hB]
      refine wpAny_bind (wpAny_standAt ?_)
      show wpAny _ A ((do let _ ← comprehension (.ListComp elt [⟨tg, iter, ifs, 0⟩] scope p') scope env iter.pos (newList []) false (eval iter env) (some (assign (.Name y p) env))) >>= fun _ => pure Flow.next) _ E s
      refine wpAny_bind (wpAny_bind (comp_core ok g1 g2 g3 g4 g5 g6 g7 (g8 env) H hQ fun st C ys vs n' Da k hC hns hDa hpl hr hq => ?_))
      obtain ⟨m, hm⟩ := hns
      obtain ⟨kd, e⟩ := hpl
      have HS := H.step ok k
      have hCU : ¬ U C := H.hy.fresh hC
      have h0C : h0.get? C = none := by
        cases e0 : h0.get? C with
        | none => rfl
        | some o => rw [H.hy.base C o e0] at hC; cases hC
      have rD : RepD st.heap U (.ref Da) (.list ys) := RepD.list e rfl rfl (H.hy.fresh hDa) (hr.mono fun _ => .inl)
      show wpAny _ A (assign (.Name y p) env (.ref Da)) _ E st
      refine wpAny_mono (bind_nx (s₀ := st) (U₀ := U) ok hc rD HS hq KS.refl fun a q => .inl q) (fun _ s' h => ?_) fun _ _ e => e
      obtain ⟨U', n'', ρ', k', hU, H', q, rfl⟩ := h
      have hm' : s'.heap.Ns C m := by
        obtain ⟨o, es, ep, ho, r⟩ := hm
        exact ⟨o, es, ep, k'.get (.inl hCU) ho, r⟩
      have hCU' : ¬ U' C := fun z => by
        rcases hU C z with z | z
        · exact hCU z
        · obtain ⟨o, es, ep, ho, r⟩ := hm
          rw [z] at ho; cases ho
      refine ⟨m, hm', fun h' hsb => wpAny_pure (wpAny_pure (show NxPost b h0 D sc env A U s N _ from ⟨U', n'', ρ', ?_, fun a z => ?_, HH.but ok H' hm' hCU' h0C hsb, q⟩))⟩
      · have kt := (KS.of ok H.hy.sub k).trans k' fun a q => .inl q
        have bk := kt.back
        obtain ⟨h1, tk, rfl, kt, _⟩ := kt
        refine ⟨h', tk, rfl, fun a o c e => by rw [hsb.2 a fun z => by subst z; rw [hC] at e; cases e]; exact kt a o c e, fun a e => ?_⟩
        by_cases z : a = C
        · rw [z]; exact hC
        · rw [hsb.2 a z] at e; exact bk a e
      · rcases hU a z with z | z
        · exact .inl z
        · exact .inr (k.back ok z)
  | Tuple elts kk tp =>
    refine PyProof.Rows.Assign_Tuple plain (by show swapsWith v (some (.Tuple elts kk tp)) pos.line env = _; exact swaps_no fun _ _ q => nomatch q) ?_
    have := hv rfl
    cases v <;> first | rfl | (exfalso; revert this; simp [isTup]; done)
  | _ => simp [cTg] at hc
end

section
variable {prog : Program} {w : World} {b : Bx} {fns : List (Str × Addr)} {h0 : Heap} {D : Nat} {S : Spec} {sc : Sc} {env : Env} {A : Around} {s : Shared} {n : Nat} {U : Addr → Prop} {ρ : REnv} {E : Value → Shared → Prop}

theorem VarOk.grow {s' : Shared} {n' : Nat} {U' : Addr → Prop} {v : Value} {var : Var} (hsub : ∀ a, b.set a → U a) (k : SS b n n' s s') (hU : ∀ a, U a → U' a) (hN : ∀ a, U' a → U a ∨ s.heap.get? a = none) (r : VarOk b s.heap U v var) : VarOk b s'.heap U' v var := by
  obtain ⟨h', tk, rfl, k⟩ := k
  have hb : ∀ a, b.set a → U' a := fun a q => hU a (hsub a q)
  cases var with
  | val p => exact (RepV.more hN r).step hb k
  | own l =>
    obtain ⟨a, vs, e1, hb1, hu1, ⟨kk, hp⟩, q⟩ := r
    exact ⟨a, vs, e1, hb1, hU a hu1, ⟨kk, k.1 a _ hb1.1 hp⟩, (RepL.more hN q).step hb k⟩
theorem EnvF.grow {f : Nat → Value} {s' : Shared} {n' : Nat} {U' : Addr → Prop} (ok : BxOk b) (hy : Hy b h0 n U s.heap) (ef : EnvF b s.heap U env sc ρ f) (k : SS b n n' s s') (hU : ∀ a, U a → U' a) (hN : ∀ a, U' a → U a ∨ s.heap.get? a = none) : EnvF b s'.heap U' env sc ρ f := by
  refine ⟨fun x i hx var hv => ⟨?_, (ef.at_ x i hx var hv).2.grow hy.sub k hU hN⟩, ef.inj⟩
  obtain ⟨h', tk, rfl, k⟩ := k
  exact (ef.at_ x i hx var hv).1.step ok hy.inv k
theorem EnvF.stepS {f : Nat → Value} {s' : Shared} {n' : Nat} (ok : BxOk b) (hy : Hy b h0 n U s.heap) (ef : EnvF b s.heap U env sc ρ f) (k : SS b n n' s s') : EnvF b s'.heap U env sc ρ f := by
  obtain ⟨h', tk, rfl, k⟩ := k
  exact ef.step ok hy.inv hy.sub k

/-- less is turned -/
theorem HH.less {U' : Addr → Prop} {ρ' : REnv} (H : HH b h0 D sc env A s n U ρ) (h1 : ∀ a, U' a → U a) (hset : ∀ a, b.set a → U' a) (hfl : ∀ a, b.floor a → U' a) (hL : U' env.locals) (hC : ∀ x c, env.cells.lookup x = some c → U' c) (hE : EnvE b s.heap U' env sc ρ') (hlen : ρ'.length = sc.len) : HH b h0 D sc env A s n U' ρ' :=
  ⟨H.rm, ⟨H.hy.base, H.hy.inv, hset, fun a q => H.hy.off a (h1 a q), fun a o e q => H.hy.new a o e (h1 a q)⟩, H.es, hE, hlen, ⟨H.fr.ns, H.fr.cell, H.fr.own, H.fr.inj, hL, hC⟩, H.wf, ⟨hfl, H.fl.loc, H.fl.cel⟩⟩

theorem varAt_frz (ρ : REnv) (j : Nat) : varAt (ρ.map frz) j = frz (varAt ρ j) := by
  unfold varAt
  rw [List.getElem?_map]
  cases ρ[j]? with
  | none => rfl
  | some v => rfl
theorem own_not_frame {f : Nat → Value} {x : Str} {i : Nat} {l : List PyData} {a : Addr} (H : HH b h0 D sc env A s n U ρ) (ef : EnvF b s.heap U env sc ρ f) (hx : sc.slots.lookup x = some i) (hv : varAt ρ i = some (.own l)) (ha : f i = .ref a) :
    a ≠ env.locals ∧ (∀ y c, env.cells.lookup y = some c → a ≠ c) ∧ ¬ b.set a ∧ ¬ b.floor a ∧ U a ∧ ∃ vs, s.heap.PlainList a (List.toArray vs) ∧ RepL s.heap U vs l := by
  obtain ⟨a', vs, e, ⟨h1, h2⟩, h3, h4, h5⟩ := (ef.at_ x i hx _ hv).2
  rw [ha] at e
  cases e
  refine ⟨?_, fun y c hc => ?_, h1, h2, h3, vs, h4, h5⟩
  · obtain ⟨o, eo, hn⟩ := frame_not (a0 := env.locals) H.fr (.inl rfl)
    exact plain_not h4 eo hn
  · obtain ⟨o, eo, hn⟩ := frame_not (a0 := c) H.fr (.inr ⟨y, hc⟩)
    exact plain_not h4 eo hn

/-- the frame is left: its lists are values now -/
theorem HH.freeze (H : HH b h0 D sc env A s n U ρ) : ∃ U', (∀ a, U' a → U a) ∧ (∀ a, b.floor a → U' a) ∧ HH b h0 D sc env A s n U' (ρ.map frz) := by
  obtain ⟨f, ef⟩ := H.ee
  refine ⟨fun a => U a ∧ ¬ ∃ x i l, sc.slots.lookup x = some i ∧ varAt ρ i = some (.own l) ∧ f i = .ref a, fun a q => q.1, fun a q => ⟨H.fl.sub a q, fun ⟨x, i, l, h1, h2, h3⟩ => (own_not_frame H ef h1 h2 h3).2.2.2.1 q⟩, ?_⟩
  refine H.less (fun a q => q.1) (fun a q => ⟨H.hy.sub a q, fun ⟨x, i, l, h1, h2, h3⟩ => (own_not_frame H ef h1 h2 h3).2.2.1 q⟩) (fun a q => ⟨H.fl.sub a q, fun ⟨x, i, l, h1, h2, h3⟩ => (own_not_frame H ef h1 h2 h3).2.2.2.1 q⟩)
    ⟨H.fr.uL, fun ⟨x, i, l, h1, h2, h3⟩ => (own_not_frame H ef h1 h2 h3).1 rfl⟩ (fun y c hc => ⟨H.fr.uC y c hc, fun ⟨x, i, l, h1, h2, h3⟩ => (own_not_frame H ef h1 h2 h3).2.1 y c hc rfl⟩) ⟨f, fun x i hx var hv => ?_, fun x y i j l l' _ _ h1 _ _ => ?_⟩ (by rw [List.length_map]; exact H.len)
  · rw [varAt_frz] at hv
    cases e : varAt ρ i with
    | none => rw [e] at hv; cases hv
    | some var0 =>
      rw [e] at hv
      obtain ⟨q1, q2⟩ := ef.at_ x i hx _ e
      refine ⟨q1, ?_⟩
      cases var0 with
      | val p =>
        cases hv
        cases p with
        | d y => exact RepD.mono (fun _ q => q.1) q2
        | fn a => exact q2
        | bench => exact q2
      | own l =>
        cases hv
        obtain ⟨a, vs, e1, hb1, hu1, ⟨kk, hp⟩, q⟩ := q2
        rw [e1]
        exact RepD.list hp rfl rfl (fun z => z.2 ⟨x, i, l, hx, e, e1⟩) (q.mono fun _ q => q.1)
  · rw [varAt_frz] at h1
    cases e : varAt ρ i with
    | none => rw [e] at h1; cases h1
    | some v => rw [e] at h1; cases v <;> cases h1

theorem goodS_ret {e : Expr} {x : Ex} {pos : Pos} (ok : BxOk b) (g : GoodE prog w b h0 D S sc e x) : GoodS prog w b h0 D S sc (.Return (some e) pos) (.ret x) := by
  intro env A s n U ρ N R E H hQ
  obtain ⟨U', h1, h2, H'⟩ := H.freeze
  refine wpAny_Return_some (wpAny_mono (g env A s n U' _ _ E H' hQ) (fun v s₁ h₁ => ?_) fun _ _ e => e)
  obtain ⟨p, n₁, k₁, r₁, q₁⟩ := h₁
  refine ⟨p, n₁, KS.of ok H.hy.sub k₁, k₁.inv, ?_, q₁⟩
  cases p with
  | d y => exact RepD.mono h2 r₁
  | fn a => exact r₁
  | bench => exact r₁

theorem goodS_if {c : Expr} {a d : List Stmt} {pos : Pos} {t : Ts} {x y : StL} (ok : BxOk b) (gt : GoodT prog w b h0 D S sc c t) (ga : GoodSs prog w b h0 D S sc a x) (gd : GoodSs prog w b h0 D S sc d y) : GoodS prog w b h0 D S sc (.If c a d pos) (.iff t x y) := by
  intro env A s n U ρ N R E H hQ
  refine wpAny_If (wpAny_mono (gt env A s n U ρ _ E H hQ) (fun tv s₁ h₁ => ?_) fun _ _ e => e)
  obtain ⟨n₁, k₁, q₁⟩ := h₁
  have H₁ := H.step ok k₁
  cases tv with
  | true => rw [if_pos rfl]; exact wpAny_mono (ga env A s₁ n₁ U ρ N R E H₁ q₁) (fun f s' h => stPost_trans (KS.of ok H.hy.sub k₁) (fun a q => .inl q) h) fun _ _ e => e
  | false => rw [if_neg Bool.false_ne_true]; exact wpAny_mono (gd env A s₁ n₁ U ρ N R E H₁ q₁) (fun f s' h => stPost_trans (KS.of ok H.hy.sub k₁) (fun a q => .inl q) h) fun _ _ e => e

theorem interactive_no (h : EnvS env sc) : interactive env = false := by unfold interactive; rw [h.kind]; rfl

theorem goodS_drp {f : Expr} {as : List Expr} {ks : List Keyword} {p pos : Pos} {x : Ex} (ok : BxOk b) (g : GoodE prog w b h0 D S sc (.Call f as ks p) x) : GoodS prog w b h0 D S sc (.Expr (.Call f as ks p) pos) (.drp x) := by
  intro env A s n U ρ N R E H hQ
  refine wpAny_Expr (wpAny_mono (g env A s n U ρ _ E H hQ) (fun v s₁ h₁ => ?_) fun _ _ e => e) (interactive_no H.es)
  obtain ⟨p, n₁, k₁, r₁, q₁⟩ := h₁
  split at q₁
  · obtain rfl := RepD.none_inv r₁
    exact ⟨U, n₁, ρ, KS.of ok H.hy.sub k₁, fun a q => .inl q, H.step ok k₁, q₁⟩
  · exact q₁.elim

theorem goodS_aug {x : Str} {px pos : Pos} {o : Operator} {v : Expr} {i : Nat} {y : Ex} (ok : BxOk b) (hc : cStore sc x = some i) (g : GoodE prog w b h0 D S sc v y) : GoodS prog w b h0 D S sc (.AugAssign (.Name x px) o v pos) (.aug i o y) := by
  intro env A s n U ρ N R E H hQ
  unfold exP at hQ
  split at hQ
  · rename_i z hz
    obtain ⟨vx, h1, h2⟩ := H.ee.at x i (cStore_some hc).1 _ hz
    have hnf : env.kindOf x ≠ some .free := by
      unfold Env.kindOf
      rw [H.es.names]
      rcases (cStore_some hc).2 with q | q <;> rw [q] <;> decide
    refine wpAny_AugAssign_Name (load_var H.es.kind (.inr hnf) h1 (wpAny_mono (g env A s n U ρ _ E H hQ) (fun v s₁ h₁ => ?_) fun _ _ e => e))
    obtain ⟨p, n₁, k₁, r₁, q₁, q₂⟩ := h₁
    have H₁ := H.step ok k₁
    obtain ⟨a, c, t, u, rfl, rfl, q₂⟩ := twoI (RepV.stepS ok H.hy k₁ h2) r₁ q₂
    refine wpAny_mono (aug_ok H₁.hy q₁ q₂) (fun v₂ s₂ h₂ => ?_) fun _ _ e => e
    obtain ⟨p₂, k₂, r₂, q₂⟩ := h₂
    exact set_val (N := N) ok (H₁.step ok k₂) hc r₂ (KS.of ok H.hy.sub (k₁.trans k₂)) (fun a q => .inl q) q₂ fun s' h => h
  · exact hQ.elim

/-- a list of the frame's own is turned -/
theorem HH.turn {f : Nat → Value} {x : Str} {i : Nat} {a : Addr} {l l' : List PyData} {vs' : List Value} {h' : Heap} (ok : BxOk b) (H : HH b h0 D sc env A s n U ρ) (ef : EnvF b s.heap U env sc ρ f) (hx : sc.slots.lookup x = some i) (hv : varAt ρ i = some (.own l)) (ha : f i = .ref a)
    (hs : Heap.SameBut a s.heap h') (hp : h'.PlainList a (List.toArray vs')) (r : RepL s.heap U vs' l') : HH b h0 D sc env A { s with heap := h' } n U (ρ.set i (some (.own l'))) ∧ KS b U s { s with heap := h' } := by
  obtain ⟨n1, n2, n3, n4, n5, vs, p5, r5⟩ := own_not_frame H ef hx hv ha
  have hmk := mk_same n5 hs
  obtain ⟨kd, e0⟩ := p5
  have h1 : ∃ o, h'.get? a = some o := by obtain ⟨k, e⟩ := hp; exact ⟨_, e⟩
  have hns : ∀ {m : Str → Option Value}, s.heap.Ns env.locals m → h'.Ns env.locals m := fun ⟨o, es, ep, ho, hd, r⟩ => ⟨o, es, ep, (hs.2 _ n1.symm).trans ho, hd, r⟩
  have hce : ∀ {y : Str} {c : Addr} {m : Option Value}, env.cells.lookup y = some c → s.heap.IsCell c m → h'.IsCell c m := fun hy ⟨o, ho, hd⟩ => ⟨o, (hs.2 _ (n2 _ _ hy).symm).trans ho, hd⟩
  refine ⟨⟨H.rm, H.hy.touch ok n5 n3 hs h1, H.es, ⟨f, fun y j hy var q => ?_, fun y z j k l1 l2 hy1 hy2 q1 q2 q3 => ?_⟩, by rw [List.length_set]; exact H.len, ⟨H.fr.ns.imp fun m => hns, fun x c e => (H.fr.cell x c e).imp fun v => hce e, H.fr.own, H.fr.inj, H.fr.uL, H.fr.uC⟩, H.wf, H.fl⟩, KS.touch n5 (fun q => n4 q.1) h1 hs⟩
  · have at' : ∀ {var : Var}, varAt ρ j = some var → VarAt h' env y (f j) := fun q => by
      rcases (ef.at_ y j hy _ q).1 with ⟨hk, m, q, e⟩ | ⟨hk, c, hc, q⟩
      · exact .inl ⟨hk, m, hns q, e⟩
      · exact .inr ⟨hk, c, hc, hce hc q⟩
    rw [varAt_set] at q
    by_cases hj : i = j
    · subst hj
      rw [if_pos ⟨rfl, by rw [H.len]; exact H.wf.lt y i hy⟩] at q
      cases q
      exact ⟨at' hv, a, vs', ha, ⟨n3, n4⟩, n5, hp, r.mk hmk⟩
    · rw [if_neg fun z => hj z.1] at q
      refine ⟨at' q, ?_⟩
      have q2 := (ef.at_ y j hy _ q).2
      cases var with
      | val p => exact RepV.mk hmk q2
      | own l2 =>
        obtain ⟨a2, vs2, e1, hb1, hu1, ⟨kk, hp2⟩, r2⟩ := q2
        have : a2 ≠ a := fun z => hj (ef.inj x y i j l l2 hx hy hv q (by rw [ha, e1, z]))
        exact ⟨a2, vs2, e1, hb1, hu1, ⟨kk, (hs.2 a2 this).trans hp2⟩, r2.mk hmk⟩
  · have conv : ∀ {m : Nat} {l0 : List PyData}, varAt (ρ.set i (some (.own l'))) m = some (.own l0) → ∃ l1, varAt ρ m = some (.own l1) := fun {m l0} q => by
      rw [varAt_set] at q
      by_cases hm : i = m
      · subst hm; exact ⟨l, hv⟩
      · rw [if_neg fun z => hm z.1] at q; exact ⟨_, q⟩
    obtain ⟨l1', q1⟩ := conv q1
    obtain ⟨l2', q2⟩ := conv q2
    exact ef.inj y z j k l1' l2' hy1 hy2 q1 q2 q3

theorem cVar_slot {x : Str} {i : Nat} (e : cVar sc x = some i) : sc.slots.lookup x = some i := (cVar_some e).1
end

section
variable {prog : Program} {w : World} {b : Bx} {fns : List (Str × Addr)} {h0 : Heap} {D : Nat} {S : Spec} {sc : Sc} {env : Env} {A : Around} {s : Shared} {n : Nat} {U : Addr → Prop} {ρ : REnv} {E : Value → Shared → Prop}

theorem one_tree {e : Expr} {pos : Pos} (hs : ∀ y p, e ≠ .Starred y p) : backTo pos (starEach [e] env) = [(false, eval e env)] := by
  rw [starEach_plain hs]; rfl

theorem goodS_app {x : Str} {px apos cp pos : Pos} {e : Expr} {i : Nat} {y : Ex} (ok : BxOk b) (hd : (x == ("__debug__" : Str)) = false) (hc : cVar sc x = some i) (hline : (apos.endLine == cp.line) = true) (hs : ∀ y p, e ≠ .Starred y p) (g : GoodE prog w b h0 D S sc e y) :
    GoodS prog w b h0 D S sc (.Expr (.Call (.Attribute (.Name x px) "append" apos) [e] [] cp) pos) (.app i y) := by
  intro env A s n U ρ N R E H hQ
  unfold exP at hQ
  split at hQ
  · rename_i l hl
    obtain ⟨f, ef⟩ := H.ee
    have hx := cVar_slot hc
    obtain ⟨v1, a, vs, ha, hb, hu, hp, hr⟩ := ef.at_ x i hx _ hl
    refine wpAny_Expr ?_ (interactive_no H.es)
    refine wpAny_Call_append rfl (by rw [one_tree hs]; rfl) hline (one_tree hs) ?_
    refine name_var H.es hd hc v1 ?_
    rw [ha]
    refine ⟨a, vs.toArray, rfl, by obtain ⟨k, e⟩ := hp; exact ⟨_, k, e, rfl, rfl, rfl⟩, wpAny_mono (g env A s n U ρ _ E H hQ) (fun v s₁ h₁ => ?_) fun _ _ e => e⟩
    obtain ⟨p, n₁, k₁, r₁, q₁⟩ := h₁
    split at q₁
    · rename_i z
      have H₁ := H.step ok k₁
      have ef₁ := ef.stepS ok H.hy k₁
      obtain ⟨k, hp⟩ := hp
      refine wpAny_list_append_plain (items := vs.toArray) ⟨k, k₁.get hb.1 hp⟩ (fun h' hp' hs' => ?_) (by rw [List.size_toArray, hr.length]; exact line_of (by (first | lia | omega)))
      have e6 : vs.toArray.push v = (vs ++ [v]).toArray := by simp
      rw [e6] at hp'
      obtain ⟨H₂, kt⟩ := H₁.turn ok ef₁ hx hl ha hs' hp' ((hr.stepS ok H.hy k₁).app (.cons r₁ .nil))
      exact ⟨U, n₁, _, (KS.of ok H.hy.sub k₁).trans kt fun a q => .inl q, fun a q => .inl q, H₂, q₁.2⟩
    · exact q₁.elim
  · exact hQ.elim

theorem goodS_ext {x : Str} {px apos cp pos : Pos} {e : Expr} {i : Nat} {y : Ex} (ok : BxOk b) (hd : (x == ("__debug__" : Str)) = false) (hc : cVar sc x = some i) (hline : (apos.endLine == cp.line) = true) (hs : ∀ y p, e ≠ .Starred y p) (g : GoodF prog w b h0 D S sc e y) :
    GoodS prog w b h0 D S sc (.Expr (.Call (.Attribute (.Name x px) "extend" apos) [e] [] cp) pos) (.ext i y) := by
  intro env A s n U ρ N R E H hQ
  unfold exP at hQ
  split at hQ
  · rename_i l hl
    obtain ⟨f, ef⟩ := H.ee
    have hx := cVar_slot hc
    obtain ⟨v1, a, vs, ha, hb, hu, ⟨k, hp⟩, hr⟩ := ef.at_ x i hx _ hl
    refine wpAny_Expr ?_ (interactive_no H.es)
    refine wpAny_Call_method1_late rfl hline (one_tree hs) ?_
    refine name_var H.es hd hc v1 ?_
    rw [ha]
    refine ⟨"list", "list.extend", PySem.F.plainAttrs_list, PySem.F.slot_list_extend, PySem.F.type_list_extend, ⟨_, hp, rfl⟩, (fun a' q => by cases q; exact ⟨_, hp, rfl⟩), ?_⟩
    refine PySem.P.extend_list (wpAny_mono (g env A s n U ρ _ E H hQ) (fun v s₁ h₁ => ?_) fun _ _ e => e)
    obtain ⟨a2, ws, ys, n₁, rfl, hf, k₁, ⟨kd, e₁⟩, r₁, q₁⟩ := h₁
    obtain ⟨hsz, q₁⟩ := q₁
    have H₁ := H.step ok k₁
    have ef₁ := ef.stepS ok H.hy k₁
    have hp₁ := k₁.get hb.1 hp
    have hln : vs.toArray.size + ws.toArray.size ≤ sizeLine := by rw [List.size_toArray, List.size_toArray, hr.length, r₁.length]; exact line_of (by (first | lia | omega))
    refine ⟨a2, vs.toArray, ws.toArray, k, kd, Nat.le_trans (Nat.le_add_right _ _) hln, Nat.le_succ_of_le hln, extend_door hln, rfl, hp₁, e₁, ?_⟩
    have e6 : vs.toArray ++ ws.toArray = (vs ++ ws).toArray := by simp
    have ho' : (s₁.heap.update a (Obj.mapSeq fun x => x ++ ws.toArray)).PlainList a (vs ++ ws).toArray :=
      ⟨_, by rw [← e6]; exact PySem.IsL.update (n := k) hp₁ fun x => x ++ ws.toArray⟩
    obtain ⟨H₂, kt⟩ := H₁.turn ok ef₁ hx hl ha (Heap.SameBut.update ..) ho' ((hr.stepS ok H.hy k₁).app (r₁.mono fun _ => .inl))
    exact ⟨U, n₁, _, (KS.of ok H.hy.sub k₁).trans kt fun a q => .inl q, fun a q => .inl q, H₂, q₁⟩
  · exact hQ.elim

theorem goodS_set {x : Str} {px sp pos : Pos} {ke v : Expr} {i : Nat} {k y : Ex} (ok : BxOk b) (hd : (x == ("__debug__" : Str)) = false) (hc : cStore sc x = some i) (gk : GoodE prog w b h0 D S sc ke k) (g : GoodE prog w b h0 D S sc v y) :
    GoodS prog w b h0 D S sc (.Assign [.Subscript (.Name x px) ke sp] v pos) (.set i k y) := by
  intro env A s n U ρ N R E H hQ
  unfold exP at hQ
  split at hQ
  · rename_i l hl
    obtain ⟨f, ef⟩ := H.ee
    obtain ⟨hx, hkind⟩ := cStore_some hc
    have hcv : cVar sc x = some i := by unfold cVar; rcases hkind with q | q <;> rw [q] <;> exact hx
    obtain ⟨v1, a, vs, ha, hb, hu, ⟨kk, hp⟩, hr⟩ := ef.at_ x i hx _ hl
    refine wpAny_Assign_Subscript (wpAny_mono (g env A s n U ρ _ E H hQ) (fun v s₁ h₁ => ?_) fun _ _ e => e) (swaps_no fun _ _ q => by cases q)
    obtain ⟨p, n₁, k₁, r₁, q₁⟩ := h₁
    have H₁ := H.step ok k₁
    have ef₁ := ef.stepS ok H.hy k₁
    refine name_var H₁.es hd hcv (ef₁.at_ x i hx _ hl).1 ?_
    rw [ha]
    refine wpAny_mono (gk env A s₁ n₁ U ρ _ E H₁ q₁) (fun v₂ s₂ h₂ => ?_) fun _ _ e => e
    obtain ⟨p₂, n₂, k₂, r₂, q₂⟩ := h₂
    have H₂ := H₁.step ok k₂
    have ef₂ := ef₁.stepS ok H₁.hy k₂
    have hp₂ := (k₁.trans k₂).get hb.1 hp
    obtain ⟨z, _, rfl, _, q₂⟩ := dat2_inv q₂
    obtain ⟨c, rfl, c0, c1, c2, q₂⟩ := int1_inv q₂
    · obtain ⟨t, rfl⟩ := RepD.int_inv r₂
      have hl' := hr.length
      refine ki_setAt (items := vs.toArray) (n := kk) hp₂ c0 (by (first | lia | omega)) (by rw [List.size_toArray, hl']; (first | lia | omega)) ?_
      have e6 : vs.toArray.setIfInBounds c.toNat v = (vs.set c.toNat v).toArray := by simp
      have ho' : (s₂.heap.update a (Obj.mapSeq (·.setIfInBounds c.toNat v))).PlainList a (vs.set c.toNat v).toArray := by
        exact ⟨_, by rw [← e6]; exact PySem.IsL.update (n := kk) hp₂ (·.setIfInBounds c.toNat v)⟩
      obtain ⟨H₃, kt⟩ := H₂.turn ok ef₂ hx hl ha (Heap.SameBut.update ..) ho' (((hr.stepS ok H.hy k₁).stepS ok H₁.hy k₂).set (RepD.stepS ok H₁.hy k₂ r₁) c.toNat)
      exact ⟨U, n₂, _, (KS.of ok H.hy.sub (k₁.trans k₂)).trans kt fun a q => .inl q, fun a q => .inl q, H₃, q₂⟩
  · exact hQ.elim

/-- a new list of the frame's own -/
theorem new_own {x : Str} {i : Nat} {a : Addr} {vs : List Value} {l : List PyData} {s₁ : Shared} {n₁ : Nat} {N : REnv → Nat → Prop} {Q : Unit → Shared → Prop} (ok : BxOk b) (H : HH b h0 D sc env A s n U ρ) (hc : cStore sc x = some i) (k : SS b n n₁ s s₁) (ha : s.heap.get? a = none)
    (hp : s₁.heap.PlainList a (List.toArray vs)) (r : RepL s₁.heap (fun x => U x ∨ x = a) vs l) (hN : N (ρ.set i (some (.own l))) n₁) (h : ∀ s', NxPost b h0 D sc env A U s N s' → Q () s') : wpAny (model prog w) A (storeName env x (.ref a)) Q E s₁ := by
  obtain ⟨f, ef⟩ := H.ee
  have hex : ∃ o, s₁.heap.get? a = some o := by obtain ⟨k, e⟩ := hp; exact ⟨_, e⟩
  have H₁ : HH b h0 D sc env A s₁ n₁ (fun x => U x ∨ x = a) ρ := H.grow ok k (fun _ => .inl) fun z q => q.imp id fun q => by subst q; exact ⟨ha, hex⟩
  have ef₁ : EnvF b s₁.heap (fun x => U x ∨ x = a) env sc ρ f := ef.grow ok H.hy k (fun _ => .inl) fun z q => q.imp id fun q => by subst q; exact ha
  have nb : ∀ {P : Addr → Prop}, (∀ z, P z → U z) → ¬ P a := fun hP q => by
    obtain ⟨o, e⟩ := H.hy.off a (hP a q)
    rw [ha] at e; cases e
  refine store_core ok H₁.rm H₁.hy H₁.es ef₁ H₁.len H₁.fr H₁.wf H₁.fl hc (var := .own l) ⟨a, vs, rfl, ⟨nb H.hy.sub, nb H.fl.sub⟩, .inr rfl, hp, r⟩ (fun l1 _ y j l' hy hj hv q => ?_) fun h' tk a0 ha0 hs H' _ => h _ ⟨_, n₁, _, ?_, fun z q => q.imp id fun q => by subst q; exact ha, H', hN⟩
  · obtain ⟨a', vs', e, _, hu, _⟩ := (ef.at_ y j hy _ hv).2
    rw [e] at q
    cases q
    exact nb (fun _ z => z) hu
  · have hfr : a0 = env.locals ∨ ∃ x, env.cells.lookup x = some a0 := ha0.imp id fun q => ⟨x, q.2⟩
    exact (KS.of ok H.hy.sub k).trans (KS.touch (frame_U H.fr hfr) (frame_floor H hfr) (H'.hy.off _ (.inl (frame_U H.fr hfr))) hs) fun a q => .inl q

theorem goodS_new {x : Str} {px pos : Pos} {v : Expr} {i : Nat} {y : Ex} (ok : BxOk b) (hx : (cA fns v sc).ex = some y) (hn : isComp v = false) (hc : cStore sc x = some i) (g : GoodF prog w b h0 D S sc v y) :
    GoodS prog w b h0 D S sc (.Assign [.Name x px] v pos) (.new i y) := by
  intro env A s n U ρ N R E H hQ
  obtain ⟨B, hB, hB'⟩ := swaps_ex (env := env) (x := x) (p := px) (l := pos.line) hx
  cases B with
  | true => rw [hB' rfl] at hn; cases hn
  | false =>
    refine wpAny_Assign_Name (wpAny_mono (g env A s n U ρ _ E H hQ) (fun v s₁ h₁ => ?_) fun _ _ e => e) hB
    obtain ⟨a, vs, ys, n₁, rfl, hf, k₁, e₁, r₁, q₁⟩ := h₁
    exact new_own (N := N) ok H hc k₁ hf e₁ r₁ q₁ fun s' h => h

theorem goodS_mv {x z : Str} {px pz pos : Pos} {i j : Nat} (ok : BxOk b) (hd : (z == ("__debug__" : Str)) = false) (hc : cStore sc x = some i) (hz : cVar sc z = some j) : GoodS prog w b h0 D S sc (.Assign [.Name x px] (.Name z pz) pos) (.mv i j) := by
  intro env A s n U ρ N R E H hQ
  unfold exP at hQ
  obtain ⟨f, ef⟩ := H.ee
  have hj := cVar_slot hz
  refine wpAny_Assign_Name ?_
  split at hQ
  · rename_i l hv
    obtain ⟨v1, v2⟩ := ef.at_ z j hj _ hv
    refine name_var H.es hd hz v1 ?_
    obtain ⟨a, vs, ha, hb, hu, ⟨kk, hp⟩, hr⟩ := v2
    obtain ⟨n1, n2, n3, n4, n5, _⟩ := own_not_frame H ef hj hv ha
    have H' : HH b h0 D sc env A s n (fun y => U y ∧ y ≠ a) (ρ.set j none) := by
      refine H.less (fun y q => q.1) (fun y q => ⟨H.hy.sub y q, fun e => n3 (e ▸ q)⟩) (fun y q => ⟨H.fl.sub y q, fun e => n4 (e ▸ q)⟩) ⟨H.fr.uL, n1.symm⟩ (fun y c e => ⟨H.fr.uC y c e, (n2 y c e).symm⟩) ⟨f, fun y k hy var q => ?_, fun y y' k k' l1 l2 h1 h2 q1 q2 q3 => ?_⟩ (by rw [List.length_set]; exact H.len)
      · rw [varAt_set] at q
        by_cases hk : j = k
        · subst hk; rw [if_pos ⟨rfl, by rw [H.len]; exact H.wf.lt z j hj⟩] at q; cases q
        · rw [if_neg fun z => hk z.1] at q
          obtain ⟨q1, q2⟩ := ef.at_ y k hy _ q
          refine ⟨q1, ?_⟩
          cases var with
          | val p =>
            cases p with
            | d y => exact RepD.mono (fun _ q => q.1) q2
            | fn a => exact q2
            | bench => exact q2
          | own l2 =>
            obtain ⟨a2, vs2, e1, hb1, hu1, hp2, r2⟩ := q2
            exact ⟨a2, vs2, e1, hb1, ⟨hu1, fun e => hk (ef.inj z y j k l l2 hj hy hv q (by rw [ha, e1, e]))⟩, hp2, r2.mono fun _ q => q.1⟩
      · rw [varAt_set] at q1 q2
        by_cases hk : j = k
        · subst hk; rw [if_pos ⟨rfl, by rw [H.len]; exact H.wf.lt z j hj⟩] at q1; cases q1
        · by_cases hk' : j = k'
          · subst hk'; rw [if_pos ⟨rfl, by rw [H.len]; exact H.wf.lt z j hj⟩] at q2; cases q2
          · rw [if_neg fun z => hk z.1] at q1
            rw [if_neg fun z => hk' z.1] at q2
            exact ef.inj y y' k k' l1 l2 h1 h2 q1 q2 q3
    have rv : RepV b s.heap (fun y => U y ∧ y ≠ a) (f j) (.d (.list l)) := by
      rw [ha]
      exact RepD.list hp rfl rfl (fun q => q.2 rfl) (hr.mono fun _ q => q.1)
    exact set_val (N := N) (s₀ := s) (U₀ := U) ok H' hc rv KS.refl (fun a q => .inl q.1) hQ fun s' h => h
  · rename_i p hv
    obtain ⟨v1, v2⟩ := ef.at_ z j hj _ hv
    refine name_var H.es hd hz v1 ?_
    exact set_val (N := N) (s₀ := s) (U₀ := U) ok H hc v2 KS.refl (fun a q => .inl q) hQ fun s' h => h
  · exact hQ.elim
end

abbrev Qd := Str × Nat × Value × Var
noncomputable def setV (ρ : REnv) (qs : List Qd) : REnv := qs.foldl (fun ρ q => ρ.set q.2.1 (some q.2.2.2)) ρ
theorem setV_set (i : Nat) (x : Option Var) : ∀ (qs : List Qd) (ρ : REnv), (∀ q ∈ qs, q.2.1 ≠ i) → setV (ρ.set i x) qs = (setV ρ qs).set i x
  | [], _, _ => rfl
  | q :: qs, ρ, h => by
    show setV ((ρ.set i x).set q.2.1 _) qs = (setV (ρ.set q.2.1 _) qs).set i x
    rw [List.set_comm _ _ (h q (.head _)).symm, setV_set i x qs _ fun q m => h q (.tail _ m)]
theorem setV_app (ρ : REnv) (qs rs : List Qd) : setV ρ (qs ++ rs) = setV (setV ρ qs) rs := List.foldl_append ..
theorem setV_rev : ∀ (qs : List Qd) (ρ : REnv), (qs.map (·.2.1)).Nodup → setV ρ qs.reverse = setV ρ qs
  | [], _, _ => rfl
  | q :: qs, ρ, h => by
    rw [List.map_cons, List.nodup_cons] at h
    rw [List.reverse_cons, setV_app, setV_rev qs ρ h.2]
    show (setV ρ qs).set q.2.1 _ = setV (ρ.set q.2.1 _) qs
    rw [setV_set _ _ _ _ fun p m e => h.1 (by rw [← e]; exact List.mem_map.mpr ⟨p, m, rfl⟩)]

section
variable {prog : Program} {w : World} {b : Bx} {fns : List (Str × Addr)} {h0 : Heap} {D : Nat} {S : Spec} {sc : Sc} {env : Env} {A : Around} {s : Shared} {n : Nat} {U : Addr → Prop} {ρ : REnv} {E : Value → Shared → Prop}

theorem VarOk.frame {a0 : Addr} {h h' : Heap} {v : Value} {var : Var} (fr : FrO h U env sc) (ha : a0 = env.locals ∨ ∃ x, env.cells.lookup x = some a0) (hs : Heap.SameBut a0 h h') (r : VarOk b h U v var) : VarOk b h' U v var := by
  have hmk := mk_same (frame_U fr ha) hs
  cases var with
  | val p => exact RepV.mk hmk r
  | own l =>
    obtain ⟨a, vs, e1, hb1, hu1, ⟨k, hp⟩, q⟩ := r
    obtain ⟨o, e, hn⟩ := frame_not fr ha
    exact ⟨a, vs, e1, hb1, hu1, ⟨k, (hs.2 a (plain_not ⟨k, hp⟩ e hn)).trans hp⟩, q.mk hmk⟩

noncomputable def StsOk (prog : Program) (w : World) (A : Around) (env : Env) : List (Value → Sem Unit) → List Qd → Prop
  | [], [] => True
  | st :: sts, q :: qs => (∀ v s Q E, wpAny (model prog w) A (storeName env q.1 v) Q E s → wpAny (model prog w) A (st v) Q E s) ∧ StsOk prog w A env sts qs
  | _, _ => False

theorem stores_seq (ok : BxOk b) {s₀ : Shared} {U₀ : Addr → Prop} {Q : Unit → Shared → Prop} :
    ∀ (qs : List Qd) (sts : List (Value → Sem Unit)) (s : Shared) (ρ : REnv) (f : Nat → Value), StsOk prog w A env sts qs → HH b h0 D sc env A s n U ρ → EnvF b s.heap U env sc ρ f → (∀ q ∈ qs, cStore sc q.1 = some q.2.1 ∧ VarOk b s.heap U q.2.2.1 q.2.2.2 ∧ ∀ l, q.2.2.2 = .own l → ∀ y j l', sc.slots.lookup y = some j → varAt ρ j = some (.own l') → f j ≠ q.2.2.1) →
      (qs.Pairwise fun p q => (∃ l, p.2.2.2 = .own l) → (∃ l, q.2.2.2 = .own l) → p.2.2.1 ≠ q.2.2.1) → KS b U₀ s₀ s → (∀ a, U a → U₀ a ∨ s₀.heap.get? a = none) →
      (∀ s', KS b U₀ s₀ s' → HH b h0 D sc env A s' n U (setV ρ qs) → Q () s') → wpAny (model prog w) A (assignInOrder sts (qs.map (·.2.2.1))) Q E s
  | [], [], s, ρ, f, _, H, ef, _, _, k, hU, h => wpAny_pure (h s k H)
  | [], _ :: _, _, _, _, hs, _, _, _, _, _, _, _ => hs.elim
  | _ :: _, [], _, _, _, hs, _, _, _, _, _, _, _ => hs.elim
  | q :: qs, st :: sts, s, ρ, f, hst, H, ef, hq, hp, k, hU, h => by
    obtain ⟨x, i, v, var⟩ := q
    obtain ⟨q1, q2, q3⟩ := hq _ (.head _)
    rw [List.pairwise_cons] at hp
    refine wpAny_assignInOrder_more (hst.1 _ _ _ _ (store_core ok H.rm H.hy H.es ef H.len H.fr H.wf H.fl q1 q2 (fun l e y j l' hy _ hv => q3 l e y j l' hy hv) fun h' tk a0 ha hs H' ef' => ?_))
    have hfr : a0 = env.locals ∨ ∃ x, env.cells.lookup x = some a0 := ha.imp id fun q => ⟨x, q.2⟩
    refine stores_seq ok qs sts _ _ _ hst.2 H' ef' (fun p hm => ?_) hp.2 (k.trans (KS.touch (frame_U H.fr hfr) (frame_floor H hfr) (H'.hy.off _ (frame_U H.fr hfr)) hs) hU) hU h
    obtain ⟨p1, p2, p3⟩ := hq p (.tail _ hm)
    refine ⟨p1, p2.frame H.fr hfr hs, fun l e y j l' hy hv => ?_⟩
    rw [varAt_set] at hv
    by_cases hj : i = j
    · subst hj
      dsimp only at hv ⊢
      rw [if_pos ⟨rfl, by rw [H.len]; exact H.wf.lt y i hy⟩] at hv
      rw [if_pos rfl]
      cases hv
      exact hp.1 p hm ⟨_, rfl⟩ ⟨_, e⟩
    · rw [if_neg fun z => hj z.1] at hv
      dsimp only
      rw [if_neg fun z => hj z.symm]
      exact p3 l e y j l' hy hv

/-- the values of a display, some of them lists of the frame's own -/
noncomputable def ParOk (b : Bx) (s : Shared) (h : Heap) (U : Addr → Prop) : List Value → List Var → Prop
  | [], [] => True
  | v :: vs, var :: vars => VarOk b h U v var ∧ (∀ l, var = .own l → ∃ a, v = .ref a ∧ s.heap.get? a = none ∧ ∀ (j : Nat) (u : Value) (l' : List PyData), vs[j]? = some u → vars[j]? = some (Var.own l') → u ≠ v) ∧ ParOk b s h U vs vars
  | _, _ => False
theorem ParOk.len {s : Shared} {h : Heap} : ∀ {vs : List Value} {vars : List Var}, ParOk b s h U vs vars → vs.length = vars.length
  | [], [], _ => rfl
  | _ :: _, _ :: _, h => by rw [List.length_cons, List.length_cons, ParOk.len h.2.2]
  | [], _ :: _, h => h.elim
  | _ :: _, [], h => h.elim
theorem ParOk.from_ {s s₁ : Shared} {h : Heap} (hk : ∀ a, s₁.heap.get? a = none → s.heap.get? a = none) : ∀ {vs : List Value} {vars : List Var}, ParOk b s₁ h U vs vars → ParOk b s h U vs vars
  | [], [], _ => trivial
  | _ :: _, _ :: _, h => ⟨h.1, fun l e => (h.2.1 l e).imp fun a q => ⟨q.1, hk a q.2.1, q.2.2⟩, ParOk.from_ hk h.2.2⟩
  | [], _ :: _, h => h.elim
  | _ :: _, [], h => h.elim
theorem ParOk.own {s : Shared} {h : Heap} : ∀ {vs : List Value} {vars : List Var}, ParOk b s h U vs vars → ∀ (j : Nat) {u : Value} {l : List PyData}, vs[j]? = some u → vars[j]? = some (.own l) → ∃ a, u = .ref a ∧ s.heap.get? a = none
  | [], [], _, j, _, _, h, _ => by simp at h
  | v :: vs, var :: vars, h, 0, u, l, h1, h2 => by
    simp at h1 h2; subst h1 h2
    obtain ⟨a, q1, q2, _⟩ := h.2.1 l rfl
    exact ⟨a, q1, q2⟩
  | v :: vs, var :: vars, h, j + 1, u, l, h1, h2 => h.2.2.own j (by simpa using h1) (by simpa using h2)
  | [], _ :: _, h, _, _, _, _, _ => h.elim
  | _ :: _, [], h, _, _, _, _, _ => h.elim
theorem ParOk.keep {s : Shared} {h h' : Heap} (hv : ∀ v var, VarOk b h U v var → VarOk b h' U v var) : ∀ {vs : List Value} {vars : List Var}, ParOk b s h U vs vars → ParOk b s h' U vs vars
  | [], [], _ => trivial
  | _ :: _, _ :: _, h => ⟨hv _ _ h.1, h.2.1, ParOk.keep hv h.2.2⟩
  | [], _ :: _, h => h.elim
  | _ :: _, [], h => h.elim

noncomputable def qdOf (ts : List Expr) (l : List (Nat × Bool × Ex)) (vs : List Value) (vars : List Var) : List Qd :=
  match ts, l, vs, vars with
  | t :: ts, p :: l, v :: vs, var :: vars => (((nameIs t).getD ""), p.1, v, var) :: qdOf ts l vs vars
  | _, _, _, _ => []

theorem cPar_cons {t e : Expr} {ts es : List Expr} {l : List (Nat × Bool × Ex)} (h : cPar fns sc (t :: ts) (e :: es) = some l) : ∃ x p i y r, t = .Name x p ∧ cStore sc x = some i ∧ (cA fns e sc).ex = some y ∧ cPar fns sc ts es = some r ∧ l = (i, (cA fns e sc).fresh && sc.held.contains x, y) :: r := by
  obtain ⟨x, h1, h⟩ := bd_inv (show ((nameIs t).bind fun x => (cStore sc x).bind fun i => ((cA fns e sc).ex).bind fun y => (cPar fns sc ts es).map fun r => (i, (cA fns e sc).fresh && sc.held.contains x, y) :: r) = some l from h)
  obtain ⟨p, rfl⟩ := nameIs_inv h1
  obtain ⟨i, h2, h⟩ := bd_inv h
  obtain ⟨y, h3, h⟩ := bd_inv h
  obtain ⟨r, h4, rfl⟩ := mp_inv h
  exact ⟨x, p, i, y, r, rfl, h2, h3, h4, rfl⟩
theorem cPar_nil {ts es : List Expr} {l : List (Nat × Bool × Ex)} (h : cPar fns sc ts es = some l) : ts.length = es.length ∧ l.length = es.length := by
  induction ts generalizing es l with
  | nil =>
    cases es with
    | nil => cases Option.some.inj (show some [] = some l from h); exact ⟨rfl, rfl⟩
    | cons e es => exact nomatch (show none = some l from h)
  | cons t ts ih =>
    cases es with
    | nil => exact nomatch (show none = some l from h)
    | cons e es =>
      obtain ⟨x, p, i, y, r, rfl, _, _, q3, rfl⟩ := cPar_cons h
      obtain ⟨h1, h2⟩ := ih q3
      exact ⟨congrArg (· + 1) h1, congrArg (· + 1) h2⟩

theorem par_eval (ok : BxOk b) : ∀ (ts es : List Expr) (l : List (Nat × Bool × Ex)), cPar fns sc ts es = some l → GAll prog w b h0 D S sc es (cAs fns es sc) →
    ∀ pos env A s n U ρ ρ' N E, HH b h0 D sc env A s n U ρ → asgsP S ρ l ρ' n N →
      wpAny (model prog w) A (spliced (backTo pos (starEach es env))) (fun vs s' => ∃ n' U' vars, SS b n n' s s' ∧ (∀ a, U a → U' a) ∧ (∀ a, U' a → U a ∨ (s.heap.get? a = none ∧ ∃ o, s'.heap.get? a = some o)) ∧ ParOk b s s'.heap U' vs vars ∧ vs.length = es.length ∧ N (setV ρ' (qdOf ts l vs vars)) n') E s
  | [], [], l, h, _, pos, env, A, s, n, U, ρ, ρ', N, E, H, hQ => by
    cases Option.some.inj (show some [] = some l from h)
    exact wpAny_pure ⟨n, U, [], SS.refl H.hy.inv, fun _ q => q, fun _ q => .inl q, trivial, rfl, by unfold qdOf; exact hQ⟩
  | [], _ :: _, l, h, _, _, _, _, _, _, _, _, _, _, _, _, _ => nomatch (show none = some l from h)
  | t :: _, [], l, h, _, _, _, _, _, _, _, _, _, _, _, _, _ => nomatch (show none = some l from h)
  | t :: ts, e :: es, l, h, g, pos, env, A, s, n, U, ρ, ρ', N, E, H, hQ => by
    obtain ⟨x, p, i, y, r, rfl, q1, q2, q3, rfl⟩ := cPar_cons h
    rw [cAs] at g
    rw [starEach_plain (notStar q2)]
    refine Calls.spliced_cons ?_
    have fin : ∀ (bf : Bool) (var : Var) (v : Value) (s₁ : Shared) (n₁ : Nat) (U₁ : Addr → Prop), SS b n n₁ s s₁ → (∀ a, U a → U₁ a) → (∀ a, U₁ a → U a ∨ (s.heap.get? a = none ∧ ∃ o, s₁.heap.get? a = some o)) → HH b h0 D sc env A s₁ n₁ U₁ ρ → VarOk b s₁.heap U₁ v var →
        (∀ l, var = .own l → ∃ a, v = .ref a ∧ s.heap.get? a = none ∧ ∃ o, s₁.heap.get? a = some o) → asgsP S ρ r (ρ'.set i (some var)) n₁ N →
        wpAny (model prog w) A (spliced (backTo pos (starEach es env))) (fun vs s' => ∃ n' U' vars, SS b n n' s s' ∧ (∀ a, U a → U' a) ∧ (∀ a, U' a → U a ∨ (s.heap.get? a = none ∧ ∃ o, s'.heap.get? a = some o)) ∧ ParOk b s s'.heap U' (v :: vs) vars ∧ (v :: vs).length = (e :: es).length ∧ N (setV ρ' (qdOf (.Name x p :: ts) ((i, bf, y) :: r) (v :: vs) vars)) n') E s₁ := by
      intro bf var v s₁ n₁ U₁ k₁ hU₁ hN₁ H₁ rv hown hQ₁
      refine wpAny_mono (par_eval ok ts es r q3 g.2 pos env A s₁ n₁ U₁ ρ _ N E H₁ hQ₁) (fun vs s' h' => ?_) fun _ _ e => e
      obtain ⟨n', U', vars, k', hU', hN', pk, hl, hn⟩ := h'
      refine ⟨n', U', var :: vars, k₁.trans k', fun a q => hU' a (hU₁ a q), fun a q => ?_, ⟨rv.grow H₁.hy.sub k' hU' (fun a q => (hN' a q).imp id (·.1)), fun l e => ?_, pk.from_ fun a => k₁.back ok⟩, by simp [hl], hn⟩
      · rcases hN' a q with q | ⟨q, z⟩
        · rcases hN₁ a q with q | ⟨q, z⟩
          · exact .inl q
          · refine .inr ⟨q, ?_⟩
            cases e' : s'.heap.get? a with
            | some o => exact ⟨o, rfl⟩
            | none => obtain ⟨o, z⟩ := z; rw [k'.back ok e'] at z; cases z
        · exact .inr ⟨k₁.back ok q, z⟩
      · obtain ⟨a, rfl, z1, o, z2⟩ := hown l e
        refine ⟨a, rfl, z1, fun j u l' hj1 hj2 hne => ?_⟩
        subst hne
        obtain ⟨a', e1, e2⟩ := pk.own j hj1 hj2
        cases e1
        rw [e2] at z2; cases z2
    cases hb : ((cA fns e sc).fresh && sc.held.contains x) with
    | false =>
      try rw [hb] at hQ
      refine wpAny_mono (g.1.ex _ q2 env A s n U ρ _ E H hQ) (fun v s₁ h₁ => ?_) fun _ _ e => e
      obtain ⟨p, n₁, k₁, r₁, z₁⟩ := h₁
      cases p with
      | d z => exact fin false (.val (.d z)) v s₁ n₁ U k₁ (fun _ q => q) (fun _ q => .inl q) (H.step ok k₁) r₁ (fun l q => by cases q) z₁
      | fn a => exact z₁.elim
      | bench => exact z₁.elim
    | true =>
      try rw [hb] at hQ
      have hf : (cA fns e sc).fresh = true := by simp only [Bool.and_eq_true] at hb; exact hb.1
      refine wpAny_mono (g.1.fresh hf _ q2 env A s n U ρ _ E H hQ) (fun v s₁ h₁ => ?_) fun _ _ e => e
      obtain ⟨a, vs, xs, n₁, rfl, ha, k₁, hp, r₁, z₁⟩ := h₁
      have hex : ∃ o, s₁.heap.get? a = some o := by obtain ⟨k, e⟩ := hp; exact ⟨_, e⟩
      have nb : ∀ {P : Addr → Prop}, (∀ z, P z → U z) → ¬ P a := fun hP q => by
        obtain ⟨o, e⟩ := H.hy.off a (hP a q)
        rw [ha] at e; cases e
      exact fin true (.own xs) (.ref a) s₁ n₁ (fun z => U z ∨ z = a) k₁ (fun _ => .inl) (fun z q => q.imp id fun q => by subst q; exact ⟨ha, hex⟩) (H.grow ok k₁ (fun _ => .inl) fun z q => q.imp id fun q => by subst q; exact ⟨ha, hex⟩)
        ⟨a, vs, rfl, ⟨nb H.hy.sub, nb H.fl.sub⟩, .inr rfl, hp, r₁⟩ (fun l _ => ⟨a, rfl, ha, hex⟩) z₁

theorem names_all : ∀ (ts : List Expr) (g : Expr → Option Str), (∀ t x, g t = some x → nameIs t = some x) → (ts.filterMap g).length = ts.length → ts.filterMap g = ts.filterMap nameIs
  | [], _, _, _ => rfl
  | t :: ts, g, hg, h => by
    have hle := List.length_filterMap_le g ts
    cases e : g t with
    | none =>
      rw [List.filterMap_cons, e] at h
      simp only [List.length_cons] at h
      (first | lia | omega)
    | some x =>
      rw [List.filterMap_cons, e] at h ⊢
      rw [List.filterMap_cons, hg t x e]
      dsimp only at h ⊢
      rw [names_all ts g hg (by simpa using h)]

theorem swapped_cases {ts es : List Expr} {k k' : Nat} {p p' : Pos} (hca : es.all (constantsAlone 8) = false) :
    ∃ r, swappedStores [.Tuple ts k p] (.Tuple es k' p') env = pure r ∧ (r = none ∨ r = some (ts.filterMap nameIs)) := by
  unfold swappedStores
  dsimp only
  split
  · exact ⟨none, rfl, .inl rfl⟩
  split
  · exact ⟨none, rfl, .inl rfl⟩
  split
  · exact ⟨none, rfl, .inl rfl⟩
  rename_i h1 h2 h3
  split
  · exact ⟨none, rfl, .inl rfl⟩
  split
  · rename_i h5; rw [hca] at h5; cases h5
  · refine ⟨_, rfl, .inr (congrArg some (names_all ts _ (fun t x q => ?_) ?_))⟩
    · cases t <;> first | (exfalso; revert q; simp; done) | skip
      rename_i id pos
      dsimp only at q
      split at q
      · cases q; rfl
      · cases q
    · simp only [Bool.or_eq_true, bne_iff_ne, ne_eq, not_or, Decidable.not_not] at h3
      exact h3.1

structure QdOk (prog : Program) (w : World) (b : Bx) (sc : Sc) (env : Env) (A : Around) (ts : List Expr) (l : List (Nat × Bool × Ex)) (s : Shared) (h : Heap) (U : Addr → Prop) (vs : List Value) (qs : List Qd) : Prop where
  vals : qs.map (·.2.2.1) = vs
  names : qs.map (·.1) = ts.filterMap nameIs
  slots : qs.map (·.2.1) = l.map (·.1)
  sts : StsOk prog w A env ((assignEach ts env).map (·.2)) qs
  shape : (assignEach ts env).length = ts.length ∧ (assignEach ts env).findIdx? (·.1) = none
  each : ∀ q ∈ qs, cStore sc q.1 = some q.2.1 ∧ VarOk b h U q.2.2.1 q.2.2.2 ∧ ∀ l, q.2.2.2 = .own l → ∃ a, q.2.2.1 = .ref a ∧ s.heap.get? a = none
  apart : qs.Pairwise fun p q => (∃ l, p.2.2.2 = .own l) → (∃ l, q.2.2.2 = .own l) → p.2.2.1 ≠ q.2.2.1
theorem qd_mem : ∀ {ts : List Expr} {l : List (Nat × Bool × Ex)} {vs : List Value} {vars : List Var} {q : Qd}, q ∈ qdOf ts l vs vars → ∃ j : Nat, vs[j]? = some q.2.2.1 ∧ vars[j]? = some q.2.2.2
  | t :: ts, p :: l, v :: vs, var :: vars, q, h => by
    unfold qdOf at h
    rcases List.mem_cons.mp h with rfl | h
    · exact ⟨0, rfl, rfl⟩
    · obtain ⟨j, h1, h2⟩ := qd_mem h
      exact ⟨j + 1, by simpa using h1, by simpa using h2⟩
  | [], _, _, _, _, h => by simp [qdOf] at h
  | _ :: _, [], _, _, _, h => by simp [qdOf] at h
  | _ :: _, _ :: _, [], _, _, h => by simp [qdOf] at h
  | _ :: _, _ :: _, _ :: _, [], _, h => by simp [qdOf] at h
theorem qd_ok {s : Shared} {h : Heap} : ∀ {ts es : List Expr} {l : List (Nat × Bool × Ex)} {vs : List Value} {vars : List Var}, cPar fns sc ts es = some l → vs.length = es.length → ParOk b s h U vs vars → QdOk prog w b sc env A ts l s h U vs (qdOf ts l vs vars)
  | [], [], l, vs, vars, hc, hl, hp => by
    cases Option.some.inj (show some [] = some l from hc)
    have : vs = [] := by cases vs with | nil => rfl | cons _ _ => simp at hl
    subst this
    exact ⟨rfl, rfl, rfl, trivial, ⟨rfl, rfl⟩, (fun q m => by simp [qdOf] at m), by simp [qdOf]⟩
  | [], _ :: _, l, _, _, h, _, _ => nomatch (show none = some l from h)
  | t :: _, [], l, _, _, h, _, _ => nomatch (show none = some l from h)
  | t :: ts, e :: es, l, vs, vars, hc, hl, hp => by
    obtain ⟨x, p, i, y, r, rfl, q1, q2, q3, rfl⟩ := cPar_cons hc
    match vs, vars, hp with
    | [], _, _ => simp at hl
    | v :: vs, [], hp => exact hp.elim
    | v :: vs, var :: vars, hp =>
      have ih := qd_ok q3 (by simpa using hl) hp.2.2
      have he : assignEach (.Name x p :: ts) env = (false, assign (.Name x p) env) :: assignEach ts env := rfl
      refine ⟨by unfold qdOf; rw [List.map_cons, ih.vals], by unfold qdOf; rw [List.map_cons, ih.names]; rfl, by unfold qdOf; rw [List.map_cons, ih.slots]; rfl, ?_, ?_, fun q m => ?_, ?_⟩
      · rw [he]
        exact ⟨fun v s Q E h => wpAny_assign_Name h, ih.sts⟩
      · rw [he]
        refine ⟨by simp [ih.shape.1], ?_⟩
        rw [List.findIdx?_cons]
        simp [ih.shape.2]
      · unfold qdOf at m
        rcases List.mem_cons.mp m with rfl | m
        · exact ⟨q1, hp.1, fun l e => (hp.2.1 l e).imp fun a z => ⟨z.1, z.2.1⟩⟩
        · exact ih.each q m
      · unfold qdOf
        rw [List.pairwise_cons]
        refine ⟨fun q m ⟨l1, e1⟩ ⟨l2, e2⟩ => ?_, ih.apart⟩
        obtain ⟨a, z1, _, z2⟩ := hp.2.1 l1 e1
        obtain ⟨j, w1, w2⟩ := qd_mem m
        exact (z2 j _ l2 w1 (by rw [w2, e2])).symm

theorem StsOk.rev {sts : List (Value → Sem Unit)} {qs : List Qd} : ∀ (sts' : List (Value → Sem Unit)) (qs' : List Qd), StsOk prog w A env sts qs → StsOk prog w A env sts' qs' → StsOk prog w A env (sts.reverseAux sts') (qs.reverseAux qs') := by
  induction sts generalizing qs with
  | nil =>
    intro sts' qs' h h'
    cases qs with
    | nil => exact h'
    | cons _ _ => exact h.elim
  | cons st sts ih =>
    intro sts' qs' h h'
    cases qs with
    | nil => exact h.elim
    | cons q qs => exact ih (st :: sts') (q :: qs') h.2 ⟨h.1, h'⟩
theorem sts_bind : ∀ (qs : List Qd), StsOk prog w A env ((qs.map (·.1)).map fun n => bindName env n) qs
  | [] => trivial
  | q :: qs => ⟨fun v s Q E h => wpAny_bindName h, sts_bind qs⟩

theorem goodS_asgs (ok : BxOk b) {ts es : List Expr} {k k' : Nat} {p p' pos : Pos} {l : List (Nat × Bool × Ex)} (hc : cPar fns sc ts es = some l) (g : GAll prog w b h0 D S sc es (cAs fns es sc)) (hca : es.all (constantsAlone 8) = false) (hnd : (l.map (·.1)).Nodup) (hlen : es.length < 1000) :
    GoodS prog w b h0 D S sc (.Assign [.Tuple ts k p] (.Tuple es k' p') pos) (.asgs l) := by
  intro env A s n U ρ N R E H hQ
  have hlen2 := cPar_nil hc
  -- the display
  have disp : ∀ (Q : Value → Shared → Prop), (∀ (T : Addr) vs vars s' n' U', SS b n n' s s' → (∀ a, U a → U' a) → (∀ a, U' a → U a ∨ (s.heap.get? a = none ∧ ∃ o, s'.heap.get? a = some o)) → s'.heap.IsTuple T (List.toArray vs) → vs.length = es.length → ParOk b s s'.heap U' vs vars →
      N (setV ρ (qdOf ts l vs vars)) n' → Q (.ref T) s') → wpAny (model prog w) A (eval (.Tuple es k' p') env) Q E s := by
    intro Q hq
    refine wpAny_Tuple (wpAny_mono (par_eval ok ts es l hc g p' env A s n U ρ ρ N E H hQ) (fun vs s₁ h₁ => ?_) fun _ _ e => e)
    obtain ⟨n', U', vars, k₁, hU, hN, hp, hl, hn⟩ := h₁
    refine ⟨line_of (by (first | lia | omega)), ?_⟩
    have k₂ : SS b n' n' s₁ { s₁ with heap := s₁.heap.push { cls := .type "tuple", data := .seq vs.toArray } } := SS.of (tk := s₁.toks) ok k₁.inv (push_keep _ _)
    refine hq _ vs vars _ n' U' (k₁.trans k₂) hU (fun a q => (hN a q).imp id fun q => ⟨q.1, q.2.imp fun o e => push_keep _ _ _ _ e⟩) ⟨_, Heap.get?_push_size _ rfl, rfl, 0, rfl⟩ hl (hp.keep fun v var r => ?_) hn
    cases var with
    | val p =>
      cases p with
      | d x => exact RepD.keep (push_keep _ _) r
      | fn a => exact r
      | bench => exact r
    | own l =>
      obtain ⟨a, vs, e1, hb1, hu1, ⟨kk, hp⟩, q⟩ := r
      exact ⟨a, vs, e1, hb1, hu1, ⟨kk, push_keep _ _ _ _ hp⟩, q.keep (push_keep _ _)⟩
  have hsw : swapsWithSole [.Tuple ts k p] (.Tuple es k' p') pos.line env = pure false := rfl
  obtain ⟨f, ef⟩ := H.ee
  -- the stores, whatever their order
  have fin : ∀ (T : Addr) (vs : List Value) (vars : List Var) (s' : Shared) (n' : Nat) (U' : Addr → Prop) (h'' : Heap) (qs : List Qd) (sts : List (Value → Sem Unit)), SS b n n' s s' → (∀ a, U a → U' a) → (∀ a, U' a → U a ∨ (s.heap.get? a = none ∧ ∃ o, s'.heap.get? a = some o)) → (∀ a o, s'.heap.get? a = some o → h''.get? a = some o) →
      StsOk prog w A env sts qs → (∀ q ∈ qs, cStore sc q.1 = some q.2.1 ∧ VarOk b s'.heap U' q.2.2.1 q.2.2.2 ∧ ∀ l, q.2.2.2 = .own l → ∃ a, q.2.2.1 = .ref a ∧ s.heap.get? a = none) → (qs.Pairwise fun p q => (∃ l, p.2.2.2 = .own l) → (∃ l, q.2.2.2 = .own l) → p.2.2.1 ≠ q.2.2.1) →
      N (setV ρ qs) n' → wpAny (model prog w) A (assignInOrder sts (qs.map (·.2.2.1))) (fun _ => StPost b h0 D sc env A U s N R .next) E { s' with heap := h'' } := by
    intro T vs vars s' n' U' h'' qs sts k₁ hU hN hk hst heach hap hn
    have k₂ : SS b n' n' s' { s' with heap := h'' } := SS.of (tk := s'.toks) ok k₁.inv hk
    have kk := k₁.trans k₂
    have H₂ : HH b h0 D sc env A { s' with heap := h'' } n' U' ρ := H.grow ok kk hU fun a q => (hN a q).imp id fun q => ⟨q.1, q.2.imp fun o => hk a o⟩
    have ef₂ : EnvF b h'' U' env sc ρ f := ef.grow (s' := { s' with heap := h'' }) ok H.hy kk hU fun a q => (hN a q).imp id (·.1)
    refine stores_seq (s₀ := s) (U₀ := U) ok qs sts _ ρ f hst H₂ ef₂ (fun q hm => ?_) hap (KS.of ok H.hy.sub kk) (fun a q => (hN a q).imp id (·.1)) fun s₂ ks H₃ => ⟨U', n', _, ks, fun a q => (hN a q).imp id (·.1), H₃, hn⟩
    obtain ⟨q1, q2, q3⟩ := heach q hm
    refine ⟨q1, q2.grow (n := n') (n' := n') (s' := { s' with heap := h'' }) (fun a z => hU a (H.hy.sub a z)) k₂ (fun _ z => z) (fun _ z => .inl z), fun l e y j l' hy hv => ?_⟩
    obtain ⟨a, e1, e2⟩ := q3 l e
    obtain ⟨a', vs', e3, _, hu, _⟩ := (ef.at_ y j hy _ hv).2
    rw [e1, e3]
    intro q
    cases q
    obtain ⟨o, e⟩ := H.hy.off a hu
    rw [e2] at e; cases e
  obtain ⟨r, hr, hr'⟩ := swapped_cases (env := env) (ts := ts) (es := es) (k := k) (k' := k') (p := p) (p' := p') hca
  rcases hr' with rfl | rfl
  · refine PyProof.Rows.Assign_Tuple (disp _ fun T vs vars s' n' U' k₁ hU hN hT hl hp hn => ?_) hsw hr
    have Qk := qd_ok (prog := prog) (w := w) (env := env) (A := A) hc hl hp
    refine wpAny_assign_Tuple H.rm.handled hT (by rw [Qk.shape.1, List.size_toArray, hl, hlen2.1]) Qk.shape.2 fun h'' hx => ?_
    have := fin T vs vars s' n' U' h'' _ _ k₁ hU hN (fun a o e => hx a o (Nat.ne_of_lt (lt_of_get e)) e) Qk.sts Qk.each Qk.apart hn
    rw [Qk.vals] at this
    exact this
  · refine PyProof.Rows.Assign_Tuple_swapped (disp _ fun T vs vars s' n' U' k₁ hU hN hT hl hp hn => ?_) hsw hr
    have Qk := qd_ok (prog := prog) (w := w) (env := env) (A := A) hc hl hp
    have hsz : (ts.filterMap nameIs).length = (List.toArray vs).size := by rw [← Qk.names, List.length_map, List.size_toArray, ← List.length_map (f := fun q : Qd => q.2.2.1), Qk.vals]
    rw [hsz]
    refine wpAny_unpackItems_tuple H.rm.handled hT fun h'' hx => ?_
    have hn' : N (setV ρ (qdOf ts l vs vars).reverse) n' := by rw [setV_rev _ _ (by rw [Qk.slots]; exact hnd)]; exact hn
    have := fin T vs vars s' n' U' h'' (qdOf ts l vs vars).reverse (((qdOf ts l vs vars).reverse.map (·.1)).map fun n => bindName env n) k₁ hU hN (fun a o e => hx a o (Nat.ne_of_lt (lt_of_get e)) e) (sts_bind _) (fun q m => Qk.each q (List.mem_reverse.mp m))
      (List.pairwise_reverse.mpr (Qk.apart.imp fun h a b e => h b a e.symm)) hn'
    have e1 : (qdOf ts l vs vars).reverse.map (·.1) = (ts.filterMap nameIs).reverse := by rw [List.map_reverse, Qk.names]
    have e2 : (qdOf ts l vs vars).reverse.map (·.2.2.1) = vs.reverse := by rw [List.map_reverse, Qk.vals]
    rw [e1, e2] at this
    exact this
end

section
variable {prog : Program} {w : World} {b : Bx} {fns : List (Str × Addr)} {h0 : Heap} {D : Nat} {S : Spec} {sc : Sc} {env : Env} {A : Around} {s : Shared} {n : Nat} {U : Addr → Prop} {ρ : REnv} {E : Value → Shared → Prop}

theorem goodS_whl (ok : BxOk b) {c : Expr} {body : List Stmt} {pos : Pos} {t : Ts} {x : StL} (gt : GoodT prog w b h0 D S sc c t) (gb : GoodSs prog w b h0 D S sc body x) : GoodS prog w b h0 D S sc (.While c body [] pos) (.whl t x) := by
  intro env A s n U ρ N R E H hQ
  obtain ⟨k, hQ⟩ := hQ
  refine wpAny_While (codeAny_whileLoop (fun m st => ∃ U' n' ρ', KS b U s st ∧ (∀ a, U' a → U a ∨ s.heap.get? a = none) ∧ HH b h0 D sc env A st n' U' ρ' ∧ whG (fun ρ n Q => tsP S t ρ n Q) (fun ρ n N R => exLP S x ρ n N R) m ρ' n' N R) ?_ k ⟨U, n, ρ, KS.refl, fun _ q => .inl q, H, hQ⟩)
  rintro m st ⟨U', n', ρ', ks, hU, H', hQ⟩
  cases m with
  | zero => exact hQ.elim
  | succ m =>
    refine wpAny_mono (gt env A st n' U' ρ' _ _ H' hQ) (fun tv s₁ h₁ => ?_) fun _ _ e => e
    obtain ⟨n₁, k₁, q₁⟩ := h₁
    have H₁ := H'.step ok k₁
    have ks₁ : KS b U s s₁ := ks.trans (KS.of ok H'.hy.sub k₁) hU
    cases tv with
    | true =>
      rw [if_pos rfl]
      refine wpAny_mono (gb env A s₁ n₁ U' ρ' _ R _ H₁ q₁) (fun f s₂ h₂ => ?_) fun _ _ e => e
      cases f with
      | next =>
        obtain ⟨U₂, n₂, ρ₂, k₂, hU₂, H₂, q₂⟩ := h₂
        refine ⟨m, Nat.lt_succ_self m, U₂, n₂, ρ₂, ks₁.trans k₂ hU, fun a q => ?_, H₂, q₂⟩
        rcases hU₂ a q with q | q
        · exact hU a q
        · exact .inr (ks₁.back a q)
      | ret v =>
        obtain ⟨p, n₂, k₂, r⟩ := h₂
        exact ⟨p, n₂, ks₁.trans k₂ hU, r⟩
      | brk => exact h₂.elim
      | cont => exact h₂.elim
    | false =>
      rw [if_neg Bool.false_ne_true]
      exact wpAny_execs_nil ⟨U', n₁, ρ', ks₁, hU, H₁, q₁⟩

/-- more is held by others -/
abbrev Bx.fl (b : Bx) (X : Addr → Prop) : Bx := { b with floor := X }
theorem Hy.fl {X : Addr → Prop} {h : Heap} (H : Hy b h0 n U h) : Hy (b.fl X) h0 n U h := ⟨H.base, H.inv, H.sub, H.off, H.new⟩
theorem Hy.unfl {X : Addr → Prop} {h : Heap} (H : Hy (b.fl X) h0 n U h) : Hy b h0 n U h := ⟨H.base, H.inv, H.sub, H.off, H.new⟩
theorem BxOk.fl {X : Addr → Prop} (ok : BxOk b) : BxOk (b.fl X) := ⟨ok.keep, ok.there⟩
theorem RepV.fl {X : Addr → Prop} {h : Heap} {v : Value} {p : PV} (r : RepV b h U v p) : RepV (b.fl X) h U v p := by cases p <;> exact r
theorem RepV.unfl {X : Addr → Prop} {h : Heap} {v : Value} {p : PV} (r : RepV (b.fl X) h U v p) : RepV b h U v p := by cases p <;> exact r
theorem RepVs.unfl {X : Addr → Prop} {h : Heap} : ∀ {vs : List Value} {ps : List PV}, RepVs (b.fl X) h U vs ps → RepVs b h U vs ps
  | [], [], _ => trivial
  | _ :: _, _ :: _, r => ⟨r.1.unfl, RepVs.unfl r.2⟩
  | [], _ :: _, r => r.elim
  | _ :: _, [], r => r.elim
theorem FnOk.fl {X : Addr → Prop} (F : FnOk prog w b h0 D S) : FnOk prog w (b.fl X) h0 D S := fun a ps n Q hS A s vs U E hR H r => by
  refine wpAny_mono (F a ps n Q hS A s vs U E hR H.unfl r.unfl) (fun v s' h => ?_) fun _ _ e => e
  obtain ⟨p, n', k, r, q⟩ := h
  exact ⟨p, n', k, r.fl, q⟩
theorem HH.more {X : Addr → Prop} (H : HH b h0 D sc env A s n U ρ) (hX : ∀ a, X a → U a ∧ (b.floor a ∨ ∃ o, s.heap.get? a = some o ∧ Itr o)) : HH (b.fl X) h0 D sc env A s n U ρ := by
  obtain ⟨f, ef⟩ := H.ee
  have no : ∀ {a : Addr} {o : Obj}, s.heap.get? a = some o → ¬ b.floor a → (o.cls = .type "list" ∨ (∃ es ep, o.data = .dict es ep) ∨ ∃ v, o.data = .cell v) → ¬ X a := fun {a o} e nf c q => by
    rcases (hX a q).2 with q | ⟨o', e', i1, i2, i3⟩
    · exact nf q
    · rw [e] at e'; cases e'
      rcases c with c | ⟨es, ep, c⟩ | ⟨v, c⟩
      · exact i1 c
      · exact i2 es ep c
      · exact i3 v c
  refine ⟨H.rm, H.hy.fl, H.es, ⟨f, fun x i hx var hv => ⟨(ef.at_ x i hx var hv).1, ?_⟩, ef.inj⟩, H.len, H.fr, H.wf, ⟨fun a q => (hX a q).1, ?_, fun x c e => ?_⟩⟩
  · have q2 := (ef.at_ x i hx var hv).2
    cases var with
    | val p => exact RepV.fl q2
    | own l =>
      obtain ⟨a, vs, e1, hb1, hu1, ⟨kk, hp⟩, q⟩ := q2
      exact ⟨a, vs, e1, ⟨hb1.1, no hp hb1.2 (.inl rfl)⟩, hu1, ⟨kk, hp⟩, q⟩
  · obtain ⟨m, o, es, ep, ho, hd, _⟩ := H.fr.ns
    exact no ho H.fl.loc (.inr (.inl ⟨es, ep, hd⟩))
  · obtain ⟨v, o, ho, hd⟩ := H.fr.cell x c e
    exact no ho (H.fl.cel x c e) (.inr (.inr ⟨v, hd⟩))
theorem HH.unfl {X : Addr → Prop} (H : HH (b.fl X) h0 D sc env A s n U ρ) (hX : ∀ a, b.floor a → X a) : HH b h0 D sc env A s n U ρ := by
  obtain ⟨f, ef⟩ := H.ee
  refine ⟨H.rm, H.hy.unfl, H.es, ⟨f, fun x i hx var hv => ⟨(ef.at_ x i hx var hv).1, ?_⟩, ef.inj⟩, H.len, H.fr, H.wf, ⟨fun a q => H.fl.sub a (hX a q), fun q => H.fl.loc (hX _ q), fun x c e q => H.fl.cel x c e (hX _ q)⟩⟩
  have q2 := (ef.at_ x i hx var hv).2
  cases var with
  | val p => exact RepV.unfl q2
  | own l =>
    obtain ⟨a, vs, e1, hb1, r⟩ := q2
    exact ⟨a, vs, e1, ⟨hb1.1, fun q => hb1.2 (hX a q)⟩, r⟩
theorem KS.unfl {X : Addr → Prop} {s' : Shared} (k : KS (b.fl X) U s s') (hX : ∀ a, b.floor a → X a) : KS b U s s' := by
  obtain ⟨h', tk, rfl, k, kb⟩ := k
  exact ⟨h', tk, rfl, fun a o c e => k a o (c.imp id fun c => ⟨hX a c.1, c.2⟩) e, kb⟩

theorem goodS_for (ok : BxOk b) {target iter : Expr} {body : List Stmt} {pos : Pos} {t : Tg} {src : Src} {x : StL} (hc : cTg sc target = some t) (hneed : needT src = true → isTup target = true) (hfs : ∀ env x, foldedSetIterable iter env x = pure x)
    (gsr : GoodSr prog w b h0 D S sc iter src) (gb : ∀ X, GoodSs prog w (b.fl X) h0 D S sc body x) : GoodS prog w b h0 D S sc (.For target iter body [] pos) (.for t src x) := by
  intro env A s n U ρ N R E H hQ
  refine wpAny_For (wpAny_mono (gsr target env A s n U ρ _ E hneed H hQ) (fun v s₁ h₁ => wpAny_mono h₁ (fun it s₂ h₂ => ?_) fun _ _ e => e) fun _ _ e => e) (hfs env)
  obtain ⟨n', xs, s₀, k₁, k₂, T, hlen, q⟩ := h₂
  obtain ⟨I, fp, wr, P, Md, Sf, rfl, W, st, hfp, hwO, hItr, hP, self⟩ := T
  have H₀ := H.step ok k₁
  generalize hU2 : (fun a => U a ∨ a ∈ wr) = U₂
  have inU2 : ∀ a, U₂ a ↔ U a ∨ a ∈ wr := fun a => by rw [← hU2]
  have H₂ : HH b h0 D sc env A s₂ n' U₂ ρ := H₀.grow ok k₂ (fun a q => (inU2 a).mpr (.inl q)) fun a q => ((inU2 a).mp q).imp id fun q => ⟨hwO a q, (hItr 0 _ st a q).imp fun o r => r.1⟩
  have wnf : ∀ a ∈ wr, ¬ b.floor a := fun a ha q => by
    obtain ⟨o, e⟩ := H₀.hy.off a (H₀.fl.sub a q)
    rw [hwO a ha] at e; cases e
  generalize hX : (fun a => b.floor a ∨ a ∈ wr) = X
  have inX : ∀ a, X a ↔ b.floor a ∨ a ∈ wr := fun a => by rw [← hX]
  have H₂' : HH (b.fl X) h0 D sc env A s₂ n' U₂ ρ := H₂.more fun a q => ((inX a).mp q).elim (fun q => ⟨H₂.fl.sub a q, .inl q⟩) fun q => ⟨(inU2 a).mpr (.inr q), .inr (hItr 0 _ st a q)⟩
  have okX : BxOk (b.fl X) := ok.fl
  have floorX : ∀ a, b.floor a → X a := fun a q => (inX a).mpr (.inl q)
  have none0 : ∀ a, s₂.heap.get? a = none → s₀.heap.get? a = none := fun a => k₂.back ok
  have nones : ∀ a, s₀.heap.get? a = none → s.heap.get? a = none := fun a => k₁.back ok
  have kss₂ : KS b U s s₂ := KS.of ok H.hy.sub (k₁.trans k₂)
  have hU2s : ∀ a, U₂ a → U a ∨ s.heap.get? a = none := fun a q => ((inU2 a).mp q).imp id fun q => nones a (hwO a q)
  have fpW : ∀ a ∈ fp, ¬ U a := fun a ha => (hfp a ha).1
  refine codeAny_forLoop_any (fun m st => ∃ i n' ρ' U', m = xs.length - i ∧ i ≤ xs.length ∧ KS b U₂ s₂ st ∧ (∀ a, U' a → U₂ a ∨ s₂.heap.get? a = none) ∧ HH (b.fl X) h0 D sc env A st n' U' ρ' ∧ Sf i st.heap ∧
    forG (fun ρ n N R => exLP S x ρ n N R) t (xs.drop i) ρ' n' N R) ?_ (xs.length - 0) ⟨0, n', ρ, U₂, rfl, Nat.zero_le _, KS.refl, fun _ q => .inl q, H₂', st, by rw [List.drop_zero]; exact q⟩
  clear q
  rintro m s₃ ⟨i, n₃, ρ₃, U₃, rfl, hi, ks₃, hU₃, H₃, st₃, hG⟩
  have wU₃ : ∀ a ∈ wr, U₃ a := fun a ha => H₃.fl.sub a ((inX a).mpr (.inr ha))
  have hU₃s : ∀ a, U₃ a → U a ∨ s.heap.get? a = none := fun a q => (hU₃ a q).elim (hU2s a) fun q => .inr (nones a (none0 a q))
  have ksA : KS b U s s₃ := kss₂.trans ks₃ hU2s
  by_cases hlt : i < xs.length
  · refine W.item i s₃ _ _ hlt st₃ fun v h1 tk1 hMd hk1 => ?_
    dsimp only
    refine W.go i v { s₃ with heap := h1, toks := tk1 } _ _ hMd fun h2 hPv st2 hk2 => ?_
    have hk : ∀ a o, a ∉ wr → s₃.heap.get? a = some o → h2.get? a = some o := fun a o na e => hk2 a o na (hk1 a o na e)
    have H4 : HH (b.fl X) h0 D sc env A { s₃ with heap := h2, toks := tk1 } n₃ U₃ ρ₃ := H₃.mv okX (X := fun a => a ∈ wr) (fun a ha => ⟨wU₃ a ha, hItr i _ st₃ a ha, (hItr (i + 1) _ st2 a ha).imp fun o q => q.1⟩) (fun a o na e => hk a o na e)
    have ks4 : KS b U₃ s₃ { s₃ with heap := h2, toks := tk1 } := ⟨h2, tk1, rfl, fun a o c e => hk a o (fun q => c.elim (fun c => c (wU₃ a q)) fun c => wnf a q c.1) e, fun a e => by
      by_cases q : a ∈ wr
      · obtain ⟨o, e', _⟩ := hItr (i + 1) _ st2 a q
        rw [e] at e'; cases e'
      · cases e' : s₃.heap.get? a with
        | none => rfl
        | some o => rw [hk a o q e'] at e; cases e⟩
    have hmk0 : MK (fun a => U₃ a ∨ U a) s₀.heap h2 := fun a o na e => by
      have na1 : a ∉ wr := fun q => by rw [hwO a q] at e; cases e
      have e2 : s₂.heap.get? a = some o := k₂.get (fun q => na (.inr (H.hy.sub a q))) e
      exact hk a o na1 (ks₃.get (.inl fun q => ((inU2 a).mp q).elim (fun q => na (.inr q)) na1) e2)
    obtain ⟨x0, hx0, hit⟩ := hP i v h2 _ hPv (fun a q => by
      rcases q with q | q
      · rcases hU₃ a q with q | q
        · exact ((inU2 a).mp q).imp id (hwO a)
        · exact .inr (none0 a q)
      · exact .inl q) hmk0
    have hit' : ItemOk target h2 U₃ v x0 := by
      rcases hit with r | ⟨q, T, vs, ys, q1, q2, q3, q4⟩
      · exact .inl (r.mono fun _ => .inl)
      · exact .inr ⟨q, T, vs, ys, q1, q2, q3, q4.mono fun _ => .inl⟩
    have hd : xs.drop i = x0 :: xs.drop (i + 1) := by
      rw [List.drop_eq_getElem_cons hlt]
      rw [List.getElem?_eq_getElem hlt] at hx0
      cases hx0; rfl
    rw [hd] at hG
    refine wpAny_mono (bind_ok (s := { s₃ with heap := h2, toks := tk1 }) okX hc hit' H4 hG) (fun _ s5 h5 => ?_) fun _ _ e => e
    obtain ⟨ρ5, h5', tk5, rfl, q5, H5, kk5⟩ := h5
    have frU : ∀ a, TgA env sc t a → U a := fun a q => tgA_U H q
    have ks5 : KS b U₃ { s₃ with heap := h2, toks := tk1 } { s₃ with heap := h5', toks := tk5 } := ⟨h5', tk5, rfl, fun a o c e => kk5 a o (fun q => c.elim (fun c => c (tgA_U H4 q)) fun c => frame_floor H (q.imp id fun ⟨z, j, _, _, _, z4⟩ => ⟨z, z4⟩) c) e, fun a e => by
      by_cases q : TgA env sc t a
      · obtain ⟨o, e'⟩ := H5.hy.off a (tgA_U H4 q)
        rw [e] at e'; cases e'
      · cases e' : h2.get? a with
        | none => rfl
        | some o => rw [kk5 a o q e'] at e; cases e⟩
    have st5 : Sf (i + 1) h5' := W.frame _ _ _ st2 fun a ha o e => kk5 a o (fun q => fpW a ha (frU a q)) e
    have ksB : KS b U₂ s₂ { s₃ with heap := h5', toks := tk5 } := (ks₃.trans ks4 hU₃).trans ks5 hU₃
    have ksC : KS b U s { s₃ with heap := h5', toks := tk5 } := kss₂.trans ksB hU2s
    refine wpAny_mono (gb X env A _ n₃ U₃ ρ5 _ R _ H5 q5) (fun f s6 h6 => ?_) fun _ _ e => e
    cases f with
    | next =>
      obtain ⟨U6, n6, ρ6, k6, hU6, H6, q6⟩ := h6
      have k6' := k6.unfl floorX
      refine ⟨xs.length - (i + 1), by (first | lia | omega), i + 1, n6, ρ6, U6, rfl, hlt, ksB.trans k6' hU₃, fun a q => ?_, H6, W.frame _ _ _ st5 fun a ha o e => ?_, q6⟩
      · rcases hU6 a q with q | q
        · exact hU₃ a q
        · exact .inr (ksB.back a q)
      · refine k6.get ?_ e
        by_cases q : a ∈ wr
        · exact .inr ⟨(inX a).mpr (.inr q), fun z => fpW a ha (H.hy.sub a z)⟩
        · left
          intro z
          rcases hU₃ a z with z | z
          · exact ((inU2 a).mp z).elim (fpW a ha) q
          · obtain ⟨_, o, e⟩ := hfp a ha
            rw [z] at e; cases e
    | ret v =>
      obtain ⟨p, n6, k6, i6, r6, q6⟩ := h6
      refine ⟨p, n6, ksC.trans (k6.unfl floorX) hU₃s, i6, ?_, q6⟩
      cases p with
      | d y => exact RepD.mono floorX r6
      | fn a => exact r6
      | bench => exact r6
    | brk => exact h6.elim
    | cont => exact h6.elim
  · have hie : i = xs.length := by (first | lia | omega)
    subst hie
    rw [List.drop_length] at hG
    refine W.done s₃ _ _ st₃ fun h1 tk1 hk1 => ?_
    dsimp only
    refine wpAny_execs_nil ?_
    have H4 := (H₃.unfl floorX).out (h' := h1) (tk := tk1) ok (X := fun a => a ∈ wr) (fun a ha => ⟨wU₃ a ha, hItr _ _ st₃ a ha⟩) wnf (fun a o na e => hk1 a o na e)
    have bkA := ksA.back
    obtain ⟨hA, tA, rfl, kA, _⟩ := ksA
    refine ⟨_, n₃, ρ₃, ⟨h1, tk1, rfl, fun a o c e => hk1 a o (fun q => by rw [nones a (hwO a q)] at e; cases e) (kA a o c e), fun a e => ?_⟩, fun a q => ?_, H4, hG⟩
    · by_cases q : a ∈ wr
      · exact nones a (hwO a q)
      · refine bkA a ?_
        show hA.get? a = none
        cases e' : hA.get? a with
        | none => rfl
        | some o => 
          have := hk1 a o q e'
          rw [e] at this; cases this
    · exact hU₃s a q.1
end

section
variable {prog : Program} {w : World} {b : Bx} {fns : List (Str × Addr)} {h0 : Heap} {D : Nat} {S : Spec} {sc : Sc}

theorem comp_parts (ok : BxOk b) (G : Grd fns h0) (F : FnOk prog w b h0 D S) (hfn : ∀ a ps n Q, S a ps n Q → ∃ o fd, h0.get? a = some o ∧ o.data = .func fd) {elt : Expr} {gs : List Comprehension} {scope : Scope} {p : Pos} {x : Ex} (hx : (cA fns (.ListComp elt gs scope p) sc).ex = some x) :
    ∃ tg iter ifs t' src c x', gs = [⟨tg, iter, ifs, 0⟩] ∧ x = .comp (nOwn scope.names) t' src c x' ∧ GoodSr prog w b h0 D S sc iter src ∧ GoodTO prog w b h0 D S (inSc sc scope) ifs c ∧ GoodE prog w b h0 D S (inSc sc scope) elt x' ∧ cTg (inSc sc scope) tg = some t' ∧
      (needT src = true → isTup tg = true) ∧ tgGe sc.len t' = true ∧ okSc sc scope = true ∧ ∀ env x, foldedSetIterable iter env x = pure x := by
  obtain ⟨hs, q⟩ := sh_inv (show sh (okSc sc scope) ((cGs fns gs sc (inSc sc scope)).bind fun t => (cA fns elt (inSc sc scope)).ex.map fun e => Ex.comp (nOwn scope.names) t.1 t.2.1 t.2.2 e) = some x from hx)
  obtain ⟨t, h1, q⟩ := bd_inv q
  obtain ⟨e, h2, rfl⟩ := mp_inv q
  obtain ⟨g, rfl, target, iter, ifs, rfl, g1, g2, g3, g4, g5, g6⟩ := gGs ok G F hfn gs sc _ t.1 t.2.1 t.2.2 h1
  exact ⟨target, iter, ifs, t.1, t.2.1, t.2.2, e, rfl, rfl, g1, g2, (gA ok G F hfn elt _).ex _ h2, g3, g4, g5, hs, g6⟩

theorem st_Assign (ok : BxOk b) (G : Grd fns h0) (F : FnOk prog w b h0 D S) (hfn : ∀ a ps n Q, S a ps n Q → ∃ o fd, h0.get? a = some o ∧ o.data = .func fd) {t v : Expr} {pos : Pos} {x : St} (h : kAsg fns sc t v = some x) : GoodS prog w b h0 D S sc (.Assign [t] v pos) x := by
  have g := gA (prog := prog) (w := w) ok G F hfn
  unfold kAsg at h
  cases hn : nameIs t with
  | some y =>
    obtain ⟨yp, rfl⟩ := nameIs_inv hn
    rw [hn] at h
    obtain ⟨i, hi, h⟩ := bd_inv h
    unfold kAsgN at h
    cases hz : nameIs v with
    | some z =>
      obtain ⟨zp, rfl⟩ := nameIs_inv hz
      rw [hz] at h
      obtain ⟨hd, h⟩ := sh_inv h
      obtain ⟨j, hj, rfl⟩ := mp_inv h
      exact goodS_mv ok (nb hd) hi hj
    | none =>
      rw [hz] at h
      dsimp only at h
      cases hq : (cA fns v sc).fresh && sc.held.contains y && !isComp v with
      | true =>
        rw [hq] at h
        obtain ⟨e, he, rfl⟩ := mp_inv h
        exact goodS_new ok he (nb (an hq).2) hi ((g v sc).fresh (an (an hq).1).1 _ he)
      | false =>
        rw [hq] at h
        obtain ⟨e, he, rfl⟩ := mp_inv h
        exact goodS_asg ok he (by show (cStore sc y).map Tg.one = _; rw [hi]; rfl) (fun q => by cases q) ((g v sc).ex _ he) fun elt gs scope p e => by subst e; exact comp_parts ok G F hfn he
  | none =>
    rw [hn] at h
    cases ht : tupOf t with
    | some ts =>
      obtain ⟨tk, tp, rfl⟩ := tupOf_inv ht
      rw [ht] at h
      dsimp only at h
      unfold kAsgT at h
      cases hv : tupOf v with
      | some vs =>
        obtain ⟨vk, vp, rfl⟩ := tupOf_inv hv
        rw [hv] at h
        obtain ⟨hca, h⟩ := sh_inv h
        obtain ⟨l, hl, h⟩ := bd_inv h
        obtain ⟨hq, h⟩ := sh_inv h
        cases h
        exact goodS_asgs ok hl (gAs ok G F hfn vs sc) (nb hca) (of_decide_eq_true (an (an hq).1).2) (of_decide_eq_true (an hq).2)
      | none =>
        rw [hv] at h
        obtain ⟨t', h1, h⟩ := bd_inv h
        obtain ⟨e, h2, rfl⟩ := mp_inv h
        refine goodS_asg ok h2 h1 (fun _ => ?_) ((g v sc).ex _ h2) fun elt gs scope p e => by subst e; exact comp_parts ok G F hfn h2
        cases v <;> first | rfl | exact nomatch hv
    | none =>
      rw [ht] at h
      obtain ⟨⟨s1, s2⟩, hs, w1⟩ := bd_inv h
      obtain ⟨y, hy, w2⟩ := bd_inv w1
      obtain ⟨i, h1, w3⟩ := bd_inv w2
      obtain ⟨k', h2, w4⟩ := bd_inv w3
      obtain ⟨e, h3, w5⟩ := bd_inv w4
      obtain ⟨hd, w6⟩ := sh_inv w5
      cases w6
      obtain ⟨sp, rfl⟩ := subOf_inv hs
      obtain ⟨yp, rfl⟩ := nameIs_inv hy
      exact goodS_set ok (nb hd) h1 ((g s2 sc).ex _ h2) ((g v sc).ex _ h3)

theorem st_Expr (ok : BxOk b) (G : Grd fns h0) (F : FnOk prog w b h0 D S) (hfn : ∀ a ps n Q, S a ps n Q → ∃ o fd, h0.get? a = some o ∧ o.data = .func fd) {v : Expr} {pos : Pos} {x : St} (h : kExpr fns sc v = some x) : GoodS prog w b h0 D S sc (.Expr v pos) x := by
  have g := gA (prog := prog) (w := w) ok G F hfn
  obtain ⟨⟨f, as, ks, p⟩, hc, h⟩ := bd_inv h
  obtain rfl := callOf_inv hc
  dsimp only at h
  cases ha : attrOf f with
  | some t =>
    obtain ⟨o, nm, q⟩ := t
    rw [ha] at h
    obtain ⟨y, hy, w1⟩ := bd_inv h
    obtain ⟨e, he, w2⟩ := bd_inv w1
    obtain ⟨hq, w3⟩ := sh_inv w2
    obtain ⟨i, h1, w4⟩ := bd_inv w3
    obtain ⟨z, h2, w5⟩ := bd_inv w4
    have hd := nb (an (an hq).1).2
    obtain rfl := attrOf_inv ha
    obtain ⟨yp, rfl⟩ := nameIs_inv hy
    obtain rfl := one_inv he
    obtain rfl := List.isEmpty_iff.mp (an (an hq).1).1
    dsimp only at w5
    generalize hn : (nm == ("append" : Str)) = bb at w5
    cases bb with
    | true =>
      cases w5
      rw [beq_iff_eq.mp hn]
      exact goodS_app ok hd h1 (an hq).2 (notStar h2) ((g e sc).ex _ h2)
    | false =>
      obtain ⟨hn, w6⟩ := sh_inv w5
      cases w6
      rw [show nm = _ from beq_iff_eq.mp (an hn).1]
      exact goodS_ext ok hd h1 (an hq).2 (notStar h2) ((g e sc).fresh (an hn).2 _ h2)
  | none =>
    rw [ha] at h
    obtain ⟨hn, h⟩ := sh_inv h
    obtain ⟨e, he, rfl⟩ := mp_inv h
    have hf : ∃ x p, f = .Name x p := by cases f <;> first | exact ⟨_, _, rfl⟩ | exact absurd hn Bool.false_ne_true
    obtain ⟨x, xp, rfl⟩ := hf
    exact goodS_drp ok ((g _ sc).ex _ he)

mutual
theorem gS (ok : BxOk b) (G : Grd fns h0) (F : FnOk prog w b h0 D S) (hfn : ∀ a ps n Q, S a ps n Q → ∃ o fd, h0.get? a = some o ∧ o.data = .func fd) : ∀ (st : Stmt) (sc : Sc) (x : St), cS fns st sc = some x → ∀ X, GoodS prog w (b.fl X) h0 D S sc st x
  | .Assign ts v pos, sc, x, h, X => by
    obtain ⟨t, ht, h⟩ := bd_inv (show ((one ts).bind fun t => kAsg fns sc t v) = some x from h)
    rw [one_inv ht]
    exact st_Assign ok.fl G F.fl hfn h
  | .AugAssign t o v pos, sc, x, h, X => by
    obtain ⟨y, hy, h⟩ := bd_inv (show ((nameIs t).bind fun x => (cStore sc x).bind fun i => (cA fns v sc).ex.map fun e => St.aug i o e) = some x from h)
    obtain ⟨yp, rfl⟩ := nameIs_inv hy
    obtain ⟨i, h1, h⟩ := bd_inv h
    obtain ⟨e, h2, rfl⟩ := mp_inv h
    exact goodS_aug ok.fl h1 ((gA ok.fl G F.fl hfn v sc).ex _ h2)
  | .Expr v pos, sc, x, h, X => st_Expr ok.fl G F.fl hfn h
  | .Return e pos, sc, x, h, X => by
    obtain ⟨e, rfl, h⟩ := bd_inv (show (e.bind fun e => (cA fns e sc).ex.map St.ret) = some x from h)
    obtain ⟨y, hy, rfl⟩ := mp_inv h
    exact goodS_ret ok.fl ((gA ok.fl G F.fl hfn e sc).ex _ hy)
  | .If c a d pos, sc, x, h, X => by
    obtain ⟨t, h1, h⟩ := bd_inv (show ((cA fns c sc).ts.bind fun c => (cSs fns a sc).bind fun a => (cSs fns d sc).map fun b => St.iff c a b) = some x from h)
    obtain ⟨y, h2, h⟩ := bd_inv h
    obtain ⟨z, h3, rfl⟩ := mp_inv h
    exact goodS_if ok.fl ((gA ok.fl G F.fl hfn c sc).ts _ h1) (gSs ok G F hfn a sc y h2 X) (gSs ok G F hfn d sc z h3 X)
  | .While c body o pos, sc, x, h, X => by
    obtain ⟨t, h1, h⟩ := bd_inv (show ((cA fns c sc).ts.bind fun c => (cSs fns body sc).bind fun b => sh o.isEmpty (some (St.whl c b))) = some x from h)
    obtain ⟨y, h2, h⟩ := bd_inv h
    obtain ⟨ho, h⟩ := sh_inv h
    obtain rfl := List.isEmpty_iff.mp ho
    cases h
    exact goodS_whl ok.fl ((gA ok.fl G F.fl hfn c sc).ts _ h1) (gSs ok G F hfn body sc y h2 X)
  | .For t it body o pos, sc, x, h, X => by
    obtain ⟨t', h1, h⟩ := bd_inv (show ((cTg sc t).bind fun t' => (cA fns it sc).src.bind fun s => (cSs fns body sc).bind fun b => sh (o.isEmpty && (!needT s || isTup t)) (some (St.for t' s b))) = some x from h)
    obtain ⟨s, h2, h⟩ := bd_inv h
    obtain ⟨y, h3, h⟩ := bd_inv h
    obtain ⟨ho, w1⟩ := sh_inv h
    cases w1
    have q2 := (an ho).2
    obtain rfl := List.isEmpty_iff.mp (an ho).1
    exact goodS_for ok.fl h1 (fun q => by rw [q] at q2; exact q2) (set_not h2) ((gA ok.fl G F.fl hfn it sc).src _ h2) (fun Y => gSs ok G F hfn body sc y h3 Y)
  | .Raise e c pos, sc, x, h, X => by
    cases Option.some.inj (show some St.fail = some x from h)
    exact fun env A s n U ρ N R E H hQ => hQ.elim
  | .FunctionDef .., sc, x, h, X | .AsyncFunctionDef .., sc, x, h, X | .ClassDef .., sc, x, h, X | .Delete .., sc, x, h, X | .TypeAlias .., sc, x, h, X | .AnnAssign .., sc, x, h, X | .AsyncFor .., sc, x, h, X | .With .., sc, x, h, X | .AsyncWith .., sc, x, h, X
  | .Match .., sc, x, h, X | .Try .., sc, x, h, X | .TryStar .., sc, x, h, X | .Assert .., sc, x, h, X | .Import .., sc, x, h, X | .ImportFrom .., sc, x, h, X | .Global .., sc, x, h, X | .Nonlocal .., sc, x, h, X | .Pass .., sc, x, h, X | .Break .., sc, x, h, X | .Continue .., sc, x, h, X => nomatch (show none = some x from h)
theorem gSs (ok : BxOk b) (G : Grd fns h0) (F : FnOk prog w b h0 D S) (hfn : ∀ a ps n Q, S a ps n Q → ∃ o fd, h0.get? a = some o ∧ o.data = .func fd) : ∀ (st : List Stmt) (sc : Sc) (x : StL), cSs fns st sc = some x → ∀ X, GoodSs prog w (b.fl X) h0 D S sc st x
  | [], sc, x, h, X => by cases Option.some.inj (show some StL.nil = some x from h); exact goodSs_nil
  | st :: r, sc, x, h, X => by
    obtain ⟨y, h1, h⟩ := bd_inv (show ((cS fns st sc).bind fun s => (cSs fns r sc).map fun r => StL.cons s r) = some x from h)
    obtain ⟨l, h2, rfl⟩ := mp_inv h
    exact goodSs_cons (gS ok G F hfn st sc y h1 X) (gSs ok G F hfn r sc l h2 X)
end
end

noncomputable def bindPs (slots : List (Str × Nat)) : List Str → List PV → REnv → REnv
  | x :: xs, p :: ps, ρ => bindPs slots xs ps (match slots.lookup x with
    | some i => ρ.set i (some (.val p))
    | none => ρ)
  | _, _, ρ => ρ
noncomputable def startEnv (scope : Scope) (params : List Str) (ps : List PV) : REnv := bindPs (ownSlots scope.names 0) params ps (List.replicate (nOwn scope.names) none)

theorem bindPs_len (slots : List (Str × Nat)) : ∀ (xs : List Str) (ps : List PV) (ρ : REnv), (bindPs slots xs ps ρ).length = ρ.length
  | [], ps, ρ => by unfold bindPs; rfl
  | x :: xs, [], ρ => by unfold bindPs; rfl
  | x :: xs, p :: ps, ρ => by
    unfold bindPs
    rw [bindPs_len slots xs ps]
    split
    · rw [List.length_set]
    · rfl
theorem bindPs_at {b : Bx} {h : Heap} {U : Addr → Prop} (slots : List (Str × Nat)) (i : Nat) (var : Var) : ∀ (xs : List Str) (ps : List PV) (vs : List Value) (ρ : REnv), RepVs b h U vs ps → varAt (bindPs slots xs ps ρ) i = some var →
    varAt ρ i = some var ∨ ∃ x v p, (x, v) ∈ xs.zip vs ∧ slots.lookup x = some i ∧ var = .val p ∧ RepV b h U v p
  | [], ps, vs, ρ, _, h => .inl (by unfold bindPs at h; exact h)
  | x :: xs, [], vs, ρ, _, h => .inl (by unfold bindPs at h; exact h)
  | x :: xs, p :: ps, [], ρ, r, h => r.elim
  | x :: xs, p :: ps, v :: vs, ρ, r, h => by
    unfold bindPs at h
    rcases bindPs_at slots i var xs ps vs _ r.2 h with q | ⟨x', v', p', q1, q2⟩
    · split at q
      · rename_i j hj
        rw [varAt_set] at q
        split at q
        · rename_i hij
          cases q
          exact .inr ⟨x, v, p, .head _, by rw [hj, hij.1], rfl, r.1⟩
        · exact .inl q
      · exact .inl q
    · exact .inr ⟨x', v', p', .tail _ q1, q2⟩

theorem bindL_not (k : Str → Option NameKind) : ∀ (bs : List (Str × Value)) (m : Str → Option Value) (x : Str), x ∉ bs.map (·.1) → bindL k bs m x = m x
  | [], _, _, _ => rfl
  | (y, v) :: bs, m, x, h => by
    unfold bindL
    rw [bindL_not k bs _ x fun q => h (.tail _ q)]
    split
    · exact if_neg fun e : x = y => h (by rw [e]; exact .head _)
    · rfl
theorem bindL_mem (k : Str → Option NameKind) : ∀ (bs : List (Str × Value)) (m : Str → Option Value) (x : Str) (v : Value), (bs.map (·.1)).Nodup → (x, v) ∈ bs → k x = some .local → bindL k bs m x = some v
  | (y, u) :: bs, m, x, v, hn, h, hk => by
    rw [List.map_cons, List.nodup_cons] at hn
    unfold bindL
    rcases List.mem_cons.mp h with e | h
    · cases e
      rw [if_pos hk, bindL_not k bs _ _ hn.1]
      exact if_pos rfl
    · exact bindL_mem k bs _ x v hn.2 h hk
theorem bindC_not (k : Str → Option NameKind) : ∀ (bs : List (Str × Value)) (m : Str → Option Value) (x : Str), x ∉ bs.map (·.1) → bindC k bs m x = m x
  | [], _, _, _ => rfl
  | (y, v) :: bs, m, x, h => by
    unfold bindC
    rw [bindC_not k bs _ x fun q => h (.tail _ q)]
    split
    · rfl
    · exact if_neg fun e : x = y => h (by rw [e]; exact .head _)
theorem bindC_mem (k : Str → Option NameKind) : ∀ (bs : List (Str × Value)) (m : Str → Option Value) (x : Str) (v : Value), (bs.map (·.1)).Nodup → (x, v) ∈ bs → k x ≠ some .local → bindC k bs m x = some v
  | (y, u) :: bs, m, x, v, hn, h, hk => by
    rw [List.map_cons, List.nodup_cons] at hn
    unfold bindC
    rcases List.mem_cons.mp h with e | h
    · cases e
      rw [if_neg hk, bindC_not k bs _ _ hn.1]
      exact if_pos rfl
    · exact bindC_mem k bs _ x v hn.2 h hk
theorem zip_keys : ∀ (xs : List Str) (vs : List Value), vs.length = xs.length → (xs.zip vs).map (·.1) = xs
  | [], _, _ => rfl
  | x :: xs, [], h => by simp at h
  | x :: xs, v :: vs, h => by rw [List.zip_cons_cons, List.map_cons, zip_keys xs vs (by simpa using h)]
theorem mem_key {l : List (Str × Value)} {x : Str} {v v' : Value} (hn : (l.map (·.1)).Nodup) (h : (x, v) ∈ l) (h' : (x, v') ∈ l) : v = v' := by
  have a := mem_lookup hn h
  rw [mem_lookup hn h'] at a
  cases a; rfl

/-- a function of the text -/
structure Fn (fns : List (Str × Addr)) (h0 : Heap) (a : Addr) (params : List Str) (scope : Scope) (held : List Str) (body : List Stmt) (x : StL) : Prop where
  obj : ∃ o fd, h0.get? a = some o ∧ o.data = .func fd ∧ h0.CodeRec fd.code fd.qualname ∧ fd.body = .stmts body ∧ fd.scope = scope ∧ fd.closure = [] ∧ fd.globals = mainGlobals ∧ fd.builtins = builtinsNs ∧
    (∀ vals : List Value, vals.length = params.length → bindArgs fd ⟨vals, []⟩ = pure (params.zip vals))
  comp : cSs fns body (fnSc scope held) = some x
  kind : scope.kind = .function ∧ scope.isCoroutine = false ∧ scope.isGenerator = false
  par : ∀ y ∈ params, scope.names.lookup y = some .local ∨ scope.names.lookup y = some .cell
  nd : (scope.names.map (·.1)).Nodup ∧ params.Nodup
  nofree : ∀ y ∈ scope.names, y.2 ≠ .free

section
variable {prog : Program} {w : World} {b : Bx} {fns : List (Str × Addr)} {h0 : Heap} {D : Nat} {S : Spec}

theorem fn_enter (ok : BxOk b) (G : Grd fns h0) {a : Addr} {params : List Str} {scope : Scope} {held : List Str} {body : List Stmt} {x : StL} (I : Fn fns h0 a params scope held body x)
    {ps : List PV} {n : Nat} {Q : Value → Shared → Prop} (hlen : ps.length = params.length) {A : Around} {s : Shared} {vs : List Value} {U : Addr → Prop} {E : Value → Shared → Prop} (rm : Rm A (D + 1)) (H : Hy b h0 n U s.heap) (r : RepVs b s.heap U vs ps)
    (cont : ∀ env h₁ tk U' E', HH (b.fl U) h0 D (fnSc scope held) env (A.deeper env) { s with heap := h₁, toks := tk } n U' (startEnv scope params ps) → (∀ y v, (y, v) ∈ params.zip vs → VarAt h₁ env y v) →
      (∀ c o, s.heap.get? c = some o → h₁.get? c = some o) → (∀ c, U' c ↔ U c ∨ (s.heap.get? c = none ∧ ∃ o, h₁.get? c = some o)) →
      wpAny (model prog w) (A.deeper env) (execs body env) (fun f s' => Q (match f with | .ret v => v | _ => .none) s') E' { s with heap := h₁, toks := tk }) :
    wpAny (model prog w) A (call (.ref a) vs) Q E s := by
  obtain ⟨⟨o, fd, ho, hd, hcd, hb, rfl, hclo, hgl, hbl, hbind⟩, hc, ⟨hk, hco, hgen⟩, hpar, ⟨hnd, hpn⟩, hnf⟩ := I
  have hvl : vs.length = params.length := r.len.trans hlen
  have hkeys := zip_keys params vs hvl
  have hzn : ((params.zip vs).map (·.1)).Nodup := by rw [hkeys]; exact hpn
  have hcell : ∀ y, fd.scope.names.lookup y = some .cell → ∃ c, (cellsFrom (s.heap.objs.size + 1) fd.scope.names []).lookup y = some c := fun y hy => by
    obtain ⟨c, h1, _⟩ := cells_new fd.scope.names (s.heap.objs.size + 1) [] y (PySem.mem_of_lookup hy)
    exact ⟨c, h1⟩
  have hpz : ∀ y v, (y, v) ∈ params.zip vs → y ∈ params := fun y v hm => by rw [← hkeys]; exact List.mem_map.mpr ⟨_, hm, rfl⟩
  refine wpAny_call (codeAny_call_cells (by have := rm.depth; (first | lia | omega)) (H.base _ _ ho) hd (G.nolimit.keeps H.base) (hcd.keeps H.base) hb (hbind vs hvl) hclo (fun q hq => ?_) (fun s₁ X => ?_) hco hgen hk)
  · rcases hpar q.1 (hpz _ _ hq) with e | e
    · exact .inl e
    · obtain ⟨c, hc⟩ := hcell _ e
      exact .inr ⟨e, by rw [hc]; rfl⟩
  · generalize hV : callEnvC fd s.heap.objs.size a = env at X
    have hL : env.locals = s.heap.objs.size := by rw [← hV]; rfl
    have hcells : env.cells = cellsFrom (s.heap.objs.size + 1) fd.scope.names [] := by rw [← hV]; rfl
    have hkind : ∀ y, env.kindOf y = fd.scope.names.lookup y := fun y => by rw [← hV]; rfl
    have fresh : ∀ c, s.heap.objs.size ≤ c → s.heap.get? c = none := fun c hc => none_of_ge hc
    have keep := X.toInCall.keep
    have same := X.toInCall.same
    obtain ⟨h₁, tk, rfl⟩ := same
    have ss : SS b n n s { s with heap := h₁, toks := tk } := SS.of ok H.inv keep
    have cellAt : ∀ y c, env.cells.lookup y = some c → s.heap.objs.size ≤ c ∧ h₁.IsCell c (bindC env.kindOf (params.zip vs) (fun _ => none) y) := fun y c e => by
      have := X.above y c (PySem.mem_of_lookup e)
      rw [hL] at this
      exact ⟨Nat.le_of_lt this, X.cell y c e⟩
    generalize hUe : (fun c => U c ∨ (s.heap.get? c = none ∧ ∃ o, h₁.get? c = some o)) = U'
    have inU : ∀ c, U' c ↔ U c ∨ (s.heap.get? c = none ∧ ∃ o, h₁.get? c = some o) := fun c => by rw [← hUe]
    have notU : ∀ c, s.heap.objs.size ≤ c → ¬ U c := fun c hc q => by
      obtain ⟨o, e⟩ := H.off c q
      rw [fresh c hc] at e; cases e
    have ns1 : ∃ o, h₁.get? env.locals = some o := by obtain ⟨o, _, _, e, _⟩ := X.toInCall.ns; exact ⟨o, e⟩
    have rep1 : RepVs b h₁ U' vs ps := r.keep fun v p q => repV_grow (fun c q => ((inU c).mp q).imp id (·.1)) keep q
    have vat : ∀ y v, (y, v) ∈ params.zip vs → VarAt h₁ env y v := fun y v q1 => by
      rcases hpar y (hpz _ _ q1) with e | e
      · exact .inl ⟨(hkind y).trans e, _, X.toInCall.ns, bindL_mem _ _ _ _ _ hzn q1 ((hkind y).trans e)⟩
      · obtain ⟨c, hc⟩ := hcell y e
        have hc' : env.cells.lookup y = some c := by rw [hcells]; exact hc
        refine .inr ⟨.inl ((hkind y).trans e), c, hc', ?_⟩
        have := (cellAt y c hc').2
        rw [bindC_mem _ _ _ _ _ hzn q1 (by rw [hkind, e]; decide)] at this
        exact this
    have HH1 : HH (b.fl U) h0 D (fnSc fd.scope held) env (A.deeper env) { s with heap := h₁, toks := tk } n U' (startEnv fd.scope params ps) := by
      refine ⟨⟨rm.handled, by have := rm.depth; show A.depth + 1 + D < _; (first | lia | omega), by have := rm.units; show A.units + 3 + 100 + 8 * D < _; (first | lia | omega)⟩, ⟨fun c o e => keep c o (H.base c o e), ok.keep n s.heap h₁ (fun c o _ e => keep c o e) H.inv, fun c q => (inU c).mpr (.inl (H.sub c q)), fun c q => ?_, fun c o e q => ?_⟩,
        ⟨by rw [← hV]; exact hk, by rw [← hV]; rfl, by rw [← hV]; exact hgl, by rw [← hV]; exact hbl⟩, ?_, ?_, ⟨⟨_, X.toInCall.ns⟩, fun y c e => ⟨_, (cellAt y c e).2⟩, fun y hy => ?_, ?_, ?_, fun y c e => ?_⟩,
        ⟨fun y z i h1 h2 => own_inj _ _ y z i h1 h2, fun y i h => by have := (own_some _ _ _ _ h).2.1; show i < nOwn fd.scope.names; (first | lia | omega)⟩,
        ⟨fun c q => (inU c).mpr (.inl q), fun q => notU _ (by rw [hL]; exact Nat.le_refl _) q, fun y c e q => notU c (cellAt y c e).1 q⟩⟩
      · rcases (inU c).mp q with q | q
        · obtain ⟨o, e⟩ := H.off c q; exact ⟨o, keep c o e⟩
        · exact q.2
      · rcases (inU c).mp q with q | q
        · exact H.new c o e q
        · rw [H.base c o e] at q; cases q.1
      · -- the slots
        refine ⟨fun i => open Classical in if h : ∃ v y, (y, v) ∈ params.zip vs ∧ (ownSlots fd.scope.names 0).lookup y = some i then Classical.choose h else .none, fun y i hy var hv => ?_, fun y z i j l l' _ _ h1 _ _ => ?_⟩
        · rcases bindPs_at (b := b) (h := h₁) (U := U') (ownSlots fd.scope.names 0) i var params ps vs _ rep1 hv with q | ⟨y', v, p, q1, q2, rfl, q3⟩
          · exfalso
            unfold varAt at q
            rw [List.getElem?_replicate] at q
            split at q <;> cases q
          · have hy : (ownSlots fd.scope.names 0).lookup y = some i := hy
            have := own_inj _ _ y y' i hy q2
            subst this
            have hex : ∃ v y, (y, v) ∈ params.zip vs ∧ (ownSlots fd.scope.names 0).lookup y = some i := ⟨v, y, q1, q2⟩
            rw [dif_pos hex]
            obtain ⟨y2, w1, w2⟩ := Classical.choose_spec hex
            have := own_inj _ _ y y2 i hy w2
            subst this
            rw [mem_key hzn w1 q1]
            exact ⟨vat y _ q1, RepV.fl q3⟩
        · exfalso
          rcases bindPs_at (b := b) (h := h₁) (U := U') (ownSlots fd.scope.names 0) i _ params ps vs _ rep1 h1 with q | ⟨_, _, _, _, _, q, _⟩
          · unfold varAt at q
            rw [List.getElem?_replicate] at q
            split at q <;> cases q
          · cases q
      · show (bindPs _ _ _ _).length = nOwn fd.scope.names
        rw [bindPs_len, List.length_replicate]
      · have hy : fd.scope.names.lookup y = some .cell ∨ fd.scope.names.lookup y = some .free := hy
        rcases hy with hy | hy
        · rw [hcells]; exact hcell y hy
        · exact absurd rfl (hnf _ (PySem.mem_of_lookup hy))
      · rw [hcells]
        exact cells_inj fd.scope.names _ [] (fun _ _ q => nomatch q) fun _ _ _ q => nomatch q
      · exact (inU _).mpr (.inr ⟨fresh _ (by rw [hL]; exact Nat.le_refl _), ns1⟩)
      · obtain ⟨h1, o, e2, _⟩ := cellAt y c e
        exact (inU _).mpr (.inr ⟨fresh _ h1, o, e2⟩)
    exact cont env h₁ tk U' _ HH1 vat keep inU

theorem fn_call (ok : BxOk b) (G : Grd fns h0) (F : FnOk prog w b h0 D S) (hfn : ∀ a ps n Q, S a ps n Q → ∃ o fd, h0.get? a = some o ∧ o.data = .func fd) {a : Addr} {params : List Str} {scope : Scope} {held : List Str} {body : List Stmt} {x : StL} (I : Fn fns h0 a params scope held body x)
    {ps : List PV} {n : Nat} {Q : PV → Nat → Prop} (hlen : ps.length = params.length) (hQ : exLP S x (startEnv scope params ps) n (fun _ n => Q (.d .none) n) Q) {A : Around} {s : Shared} {vs : List Value} {U : Addr → Prop} {E : Value → Shared → Prop} (rm : Rm A (D + 1)) (H : Hy b h0 n U s.heap) (r : RepVs b s.heap U vs ps) :
    wpAny (model prog w) A (call (.ref a) vs) (EvPost b U n s Q) E s := by
  refine fn_enter ok G I hlen rm H r fun env h₁ tk U' E' HH1 _ keep inU => ?_
  have out : ∀ {s' : Shared} {n' : Nat}, KS (b.fl U) U' { s with heap := h₁, toks := tk } s' → b.inv n' s'.heap → SS b n n' s s' := fun {s' n'} k hi => by
    obtain ⟨h', tk', rfl, k, _⟩ := k
    refine ⟨h', tk', rfl, fun c o nb e => k c o ?_ (keep c o e), hi⟩
    by_cases hu : U c
    · exact .inr ⟨hu, nb⟩
    · left; intro q
      rcases (inU c).mp q with q | q
      · exact hu q
      · rw [e] at q; cases q.1
  refine wpAny_mono (gSs ok G F hfn body _ x I.comp U env (A.deeper env) _ n U' _ _ Q _ HH1 hQ) (fun f s' h => ?_) fun _ _ e => e
  cases f with
  | next =>
    obtain ⟨U2, n2, ρ2, k2, _, H2, q⟩ := h
    exact ⟨.d .none, n2, out k2 H2.hy.inv, RepD.none, q⟩
  | ret v =>
    obtain ⟨p, n2, k2, i2, r2, q⟩ := h
    exact ⟨p, n2, out k2 i2, RepV.unfl r2, q⟩
  | brk => exact h.elim
  | cont => exact h.elim
end

abbrev rw0 := PySem.Challenge.rw_xm0425_01
/-- the text without the names of the modules -/
noncomputable def view0 : Program := view PySem.Challenge.pw_xm0425_01 ((List.range 45).filter fun i => match PySem.Challenge.pw_xm0425_01.main.body[i]? with | some (.Assign ..) => false | _ => true)
theorem opens0 : opening PySem.Challenge.pw_xm0425_01 = plainProg PySem.Challenge.pw_xm0425_01.main.scope.names := by kernel_rfl
theorem fence0 (s : Shared) : fenceModules? PySem.Challenge.pw_xm0425_01 s = some s := by kernel_rfl
theorem boot0 : ∀ w : World, (fencedOpening treeTable PySem.Challenge.pw_xm0425_01 w 3358).map (fun s => (s.heap, s.gens, s.drawn, s.toks)) = some (boot_heap w.params, Array.mk [], boot_drawn, boot_toks) :=
  boot_open opens0 (by decide +kernel) fence0
/-- the text's top, from the start's heap, and the looks; the library's quick twins stand in -/
theorem run0 (w : World) (os : OsState) : (topFrom treeTable PySem.Challenge.pw_xm0425_01 w 3358 ⟨boot_heap w.params, Array.mk [], boot_drawn, boot_toks, os⟩).map (fun s => (openSeen view0 [] (importedModules PySem.Challenge.pw_xm0425_01.main.body) (fun s => xlAt view0 [] s && recOk (RowW.records rw0.row.toRowW) s) true s, ())) = some (openGood view0 [], ()) := by
  unfold topFrom
  rw [Fast.te14082659384304107361, Fast.te4187177175401517315, Fast.te14364793385576792824, Fast.te5923862056798008813]
  kernel_rfl
theorem left0 : LeftO PySem.Challenge.pw_xm0425_01 view0 [] (fun s => xlAt view0 [] s && recOk (RowW.records rw0.row.toRowW) s) (fun _ => ()) (fun _ => ()) 3358 true := by
  intro w
  obtain ⟨⟨h, gs, d, k, os⟩, e, e'⟩ := Option.map_eq_some_iff.mp (boot0 w)
  obtain ⟨rfl, e'⟩ := Prod.mk.inj e'
  obtain ⟨rfl, e'⟩ := Prod.mk.inj e'
  obtain ⟨rfl, rfl⟩ := Prod.mk.inj e'
  unfold openEnds
  rw [e, Option.bind_some]
  exact run0 w os
theorem said0 : rw0.wellSaid = true := by
  rw [Fast.te9446332074065402090]
  kernel_rfl
noncomputable def lawD : DefRec := match defOf view0 rw0.row.name with
  | some (d, _) => d
  | none => { name := "", params := { posonlyargs := [], args := [], vararg := none, kwonlyargs := [], kw_defaults := [], kwarg := none, defaults := [] }, body := [], scope := { kind := .function, names := [], isGenerator := false, isCoroutine := false }, pos := ⟨0, 0, 0, 0⟩ }
theorem law_def : defOf view0 rw0.row.name = some (lawD, []) := by kernel_rfl
theorem law_the : rw0.row.prog.theDef rw0.row.name = some (lawD.params, lawD.body, lawD.scope) := by kernel_rfl
theorem law_kw : kwWritten? lawD.params.kwonlyargs lawD.params.kw_defaults = some [] := by kernel_rfl
theorem law_ok : (chainsOk view0 && opensWell rw0.row.prog && (frees rw0.row.toRowW && rw0.row.within.isEmpty)) = true := by kernel_rfl
theorem law_bare : rw0.row.prog.bare := ⟨rfl, rfl, rfl, rfl, rfl, by kernel_rfl⟩
theorem law_promised : rw0.row.toRowW.promised := by w_witness2
theorem head (call : WalkO view0 [] (XL view0 []) (fun _ _ => True) rw0.row.toRowW lawD [] fun f vs => PySem.call f vs) : rw0.Holds := by
  refine holds_law said0 fun k1 => ?_
  exact holds_open (q := view0) (loose := []) (Xt := fun s => xlAt view0 [] s && recOk (RowW.records rw0.row.toRowW) s) (XP := XL view0 []) (Yf := fun _ => ()) (Ya := fun _ => ()) (YP := fun _ _ => True) (N := 3358) left0 (fun _ _ _ => trivial) (fun _ _ _ _ _ => trivial)
    (fun s e => xl_of s (Bool.and_eq_true_iff.mp e).1) XL.keeps law_def law_the law_kw (fun s e => recFacts_of (Bool.and_eq_true_iff.mp e).2) rfl k1 law_ok law_bare law_promised call

/-! ### the functions' bodies, compiled (printed by mkbodies.py) -/
noncomputable def x_normal (ad : Str → Addr) : StL := (.cons (.asg (.one 1) (.bi .len (.cons (.var 0) .nil))) (.cons (.whl (.and (.cmp .Gt (.var 1) (.of (.lit (.int 0)))) (.cmp .Eq (.idx (.var 0) (.bin .Sub (.var 1) (.lit (.int 1)))) (.of (.lit (.int 0))))) (.cons (.aug 1 .Sub (.lit (.int 1))) .nil)) (.cons (.ret (.slc (.var 0) .no (.so (.var 1)))) .nil)))
noncomputable def x_nat_of (ad : Str → Addr) : StL := (.cons (.iff (.cmp .Lt (.var 0) (.of (.lit (.int 0)))) (.cons .fail .nil) .nil) (.cons (.asgs [(2, true, (.lst .nil)), (3, false, (.bin .Sub (.bin .LShift (.lit (.int 1)) (.var 1)) (.lit (.int 1))))]) (.cons (.whl (.cmp .Gt (.var 0) (.of (.lit (.int 0)))) (.cons (.app 2 (.bin .BitAnd (.var 0) (.var 3))) (.cons (.aug 0 .RShift (.var 1)) .nil))) (.cons (.ret (.var 2)) .nil))))
noncomputable def x_compare (ad : Str → Addr) : StL := (.cons (.iff (.cmp .NotEq (.bi .len (.cons (.var 0) .nil)) (.of (.bi .len (.cons (.var 1) .nil)))) (.cons (.ret (.ite (.cmp .Lt (.bi .len (.cons (.var 0) .nil)) (.of (.bi .len (.cons (.var 1) .nil)))) (.neg (.lit (.int 1))) (.lit (.int 1)))) .nil) .nil) (.cons (.for (.one 2) (.rng (.cons (.bin .Sub (.bi .len (.cons (.var 0) .nil)) (.lit (.int 1))) (.cons (.neg (.lit (.int 1))) (.cons (.neg (.lit (.int 1))) .nil)))) (.cons (.iff (.cmp .NotEq (.idx (.var 0) (.var 2)) (.of (.idx (.var 1) (.var 2)))) (.cons (.ret (.ite (.cmp .Lt (.idx (.var 0) (.var 2)) (.of (.idx (.var 1) (.var 2)))) (.neg (.lit (.int 1))) (.lit (.int 1)))) .nil) .nil) .nil)) (.cons (.ret (.lit (.int 0))) .nil)))
noncomputable def x_add (ad : Str → Addr) : StL := (.cons (.iff (.cmp .Lt (.bi .len (.cons (.var 0) .nil)) (.of (.bi .len (.cons (.var 1) .nil)))) (.cons (.asgs [(0, false, (.var 1)), (1, false, (.var 0))]) .nil) .nil) (.cons (.asgs [(3, true, (.lst .nil)), (4, false, (.lit (.int 0))), (5, false, (.bin .Sub (.bin .LShift (.lit (.int 1)) (.var 2)) (.lit (.int 1))))]) (.cons (.for (.one 6) (.rng (.cons (.bi .len (.cons (.var 1) .nil)) .nil)) (.cons (.aug 4 .Add (.bin .Add (.idx (.var 0) (.var 6)) (.idx (.var 1) (.var 6)))) (.cons (.app 3 (.bin .BitAnd (.var 4) (.var 5))) (.cons (.aug 4 .RShift (.var 2)) .nil)))) (.cons (.for (.one 6) (.rng (.cons (.bi .len (.cons (.var 1) .nil)) (.cons (.bi .len (.cons (.var 0) .nil)) .nil))) (.cons (.aug 4 .Add (.idx (.var 0) (.var 6))) (.cons (.app 3 (.bin .BitAnd (.var 4) (.var 5))) (.cons (.aug 4 .RShift (.var 2)) .nil)))) (.cons (.iff (.cmp .Gt (.var 4) (.of (.lit (.int 0)))) (.cons (.app 3 (.var 4)) .nil) .nil) (.cons (.ret (.var 3)) .nil))))))
noncomputable def x_sub (ad : Str → Addr) : StL := (.cons (.iff (.cmp .Lt (.call (.glob (ad "compare")) (.cons (.var 0) (.cons (.var 1) .nil))) (.of (.lit (.int 0)))) (.cons .fail .nil) .nil) (.cons (.asgs [(3, true, (.lst .nil)), (4, false, (.lit (.int 0))), (5, false, (.bin .LShift (.lit (.int 1)) (.var 2)))]) (.cons (.for (.one 6) (.rng (.cons (.bi .len (.cons (.var 0) .nil)) .nil)) (.cons (.asg (.one 7) (.bin .Sub (.bin .Sub (.idx (.var 0) (.var 6)) (.var 4)) (.ite (.cmp .Lt (.var 6) (.of (.bi .len (.cons (.var 1) .nil)))) (.idx (.var 1) (.var 6)) (.lit (.int 0))))) (.cons (.asg (.one 4) (.ite (.cmp .Lt (.var 7) (.of (.lit (.int 0)))) (.lit (.int 1)) (.lit (.int 0)))) (.cons (.app 3 (.ite (.cmp .Lt (.var 7) (.of (.lit (.int 0)))) (.bin .Add (.var 7) (.var 5)) (.var 7))) .nil)))) (.cons (.ret (.call (.glob (ad "normal")) (.cons (.var 3) .nil))) .nil))))
noncomputable def x_add_limb (ad : Str → Addr) : StL := (.cons (.asgs [(3, false, (.lst .nil)), (4, false, (.bin .Sub (.bin .LShift (.lit (.int 1)) (.var 2)) (.lit (.int 1))))]) (.cons (.for (.one 5) (.of (.var 0)) (.cons (.aug 1 .Add (.var 5)) (.cons (.app 3 (.bin .BitAnd (.var 1) (.var 4))) (.cons (.aug 1 .RShift (.var 2)) .nil)))) (.cons (.iff (.cmp .Gt (.var 1) (.of (.lit (.int 0)))) (.cons (.app 3 (.var 1)) .nil) .nil) (.cons (.ret (.var 3)) .nil))))
noncomputable def x_shift_left (ad : Str → Addr) : StL := (.cons (.iff (.cmp .Eq (.bi .len (.cons (.var 0) .nil)) (.of (.lit (.int 0)))) (.cons (.ret (.lst .nil)) .nil) .nil) (.cons (.asgs [(3, false, (.bin .FloorDiv (.var 1) (.var 2))), (4, false, (.bin .Mod (.var 1) (.var 2)))]) (.cons (.asgs [(5, false, (.rep (.cons (.lit (.int 0)) .nil) (.var 3))), (6, false, (.lit (.int 0))), (7, false, (.bin .Sub (.bin .LShift (.lit (.int 1)) (.var 2)) (.lit (.int 1))))]) (.cons (.for (.one 8) (.of (.var 0)) (.cons (.aug 6 .BitOr (.bin .LShift (.var 8) (.var 4))) (.cons (.app 5 (.bin .BitAnd (.var 6) (.var 7))) (.cons (.aug 6 .RShift (.var 2)) .nil)))) (.cons (.iff (.cmp .Gt (.var 6) (.of (.lit (.int 0)))) (.cons (.app 5 (.var 6)) .nil) .nil) (.cons (.ret (.var 5)) .nil))))))
noncomputable def x_shift_right (ad : Str → Addr) : StL := (.cons (.asgs [(3, false, (.bin .FloorDiv (.var 1) (.var 2))), (4, false, (.bin .Mod (.var 1) (.var 2)))]) (.cons (.asgs [(5, true, (.lst .nil)), (6, false, (.bin .Sub (.bin .LShift (.lit (.int 1)) (.var 2)) (.lit (.int 1))))]) (.cons (.for (.one 7) (.rng (.cons (.var 3) (.cons (.bi .len (.cons (.var 0) .nil)) .nil))) (.cons (.asg (.one 8) (.ite (.cmp .Lt (.bin .Add (.var 7) (.lit (.int 1))) (.of (.bi .len (.cons (.var 0) .nil)))) (.idx (.var 0) (.bin .Add (.var 7) (.lit (.int 1)))) (.lit (.int 0)))) (.cons (.app 5 (.bin .BitAnd (.bin .BitOr (.bin .RShift (.idx (.var 0) (.var 7)) (.var 4)) (.bin .LShift (.var 8) (.bin .Sub (.var 2) (.var 4)))) (.var 6))) .nil))) (.cons (.ret (.call (.glob (ad "normal")) (.cons (.var 5) .nil))) .nil))))
noncomputable def x_bit (ad : Str → Addr) : StL := (.cons (.ret (.ite (.cmp .Lt (.bin .FloorDiv (.var 1) (.var 2)) (.of (.bi .len (.cons (.var 0) .nil)))) (.bin .BitAnd (.bin .RShift (.idx (.var 0) (.bin .FloorDiv (.var 1) (.var 2))) (.bin .Mod (.var 1) (.var 2))) (.lit (.int 1))) (.lit (.int 0)))) .nil)
noncomputable def x_low (ad : Str → Addr) : StL := (.cons (.asgs [(3, false, (.bin .FloorDiv (.var 1) (.var 2))), (4, false, (.bin .Mod (.var 1) (.var 2)))]) (.cons (.iff (.cmp .GtE (.var 3) (.of (.bi .len (.cons (.var 0) .nil)))) (.cons (.ret (.slc (.var 0) .no .no)) .nil) .nil) (.cons (.ret (.call (.glob (ad "normal")) (.cons (.bin .Add (.slc (.var 0) .no (.so (.var 3))) (.lst (.cons (.bin .BitAnd (.idx (.var 0) (.var 3)) (.bin .Sub (.bin .LShift (.lit (.int 1)) (.var 4)) (.lit (.int 1)))) .nil))) .nil))) .nil)))
noncomputable def x_trailing (ad : Str → Addr) : StL := (.cons (.for (.tup [2, 3]) (.enm (.var 0)) (.cons (.iff (.cmp .Gt (.var 3) (.of (.lit (.int 0)))) (.cons (.ret (.bin .Sub (.bin .Add (.bin .Mult (.var 2) (.var 1)) (.bits (.bin .BitAnd (.var 3) (.neg (.var 3))))) (.lit (.int 1)))) .nil) .nil) .nil)) (.cons .fail .nil))
noncomputable def x_sieve (ad : Str → Addr) : StL := (.cons (.new 1 (.rep (.cons (.lit (.bool true)) .nil) (.bin .Add (.var 0) (.lit (.int 1))))) (.cons (.new 2 (.lst .nil)) (.cons (.for (.one 3) (.rng (.cons (.lit (.int 2)) (.cons (.bin .Add (.var 0) (.lit (.int 1))) .nil))) (.cons (.iff (.val (.idx (.var 1) (.var 3))) (.cons (.app 2 (.var 3)) (.cons (.for (.one 4) (.rng (.cons (.bin .Mult (.var 3) (.var 3)) (.cons (.bin .Add (.var 0) (.lit (.int 1))) (.cons (.var 3) .nil)))) (.cons (.set 1 (.var 4) (.lit (.bool false))) .nil)) .nil)) .nil) .nil)) (.cons (.ret (.var 2)) .nil))))
noncomputable def x_need_count (ad : Str → Addr) : StL := (.cons (.iff (.cmp .Lt (.var 0) (.of (.lit (.int 0)))) (.cons .fail .nil) .nil) .nil)
noncomputable def x_power_of_count (ad : Str → Addr) : StL := (.cons (.asgs [(4, false, (.lst (.cons (.lit (.int 1)) .nil))), (5, false, (.call (.glob (ad "nat_of")) (.cons (.var 0) (.cons (.var 2) .nil))))]) (.cons (.whl (.cmp .Gt (.var 1) (.of (.lit (.int 0)))) (.cons (.iff (.cmp .Eq (.bin .Mod (.var 1) (.lit (.int 2))) (.of (.lit (.int 1)))) (.cons (.asg (.one 4) (.call (.var 3) (.cons (.var 4) (.cons (.var 5) (.cons (.var 2) .nil))))) .nil) .nil) (.cons (.asg (.one 1) (.bin .FloorDiv (.var 1) (.lit (.int 2)))) (.cons (.iff (.cmp .Gt (.var 1) (.of (.lit (.int 0)))) (.cons (.asg (.one 5) (.call (.var 3) (.cons (.var 5) (.cons (.var 5) (.cons (.var 2) .nil))))) .nil) .nil) .nil)))) (.cons (.ret (.var 4)) .nil)))
noncomputable def x_product_of_powers (ad : Str → Addr) : StL := (.cons (.iff (.cmp .Eq (.bi .len (.cons (.var 0) .nil)) (.of (.lit (.int 0)))) (.cons (.ret (.lst (.cons (.lit (.int 1)) .nil))) .nil) .nil) (.cons (.iff (.cmp .Eq (.bi .len (.cons (.var 0) .nil)) (.of (.lit (.int 1)))) (.cons (.ret (.call (.glob (ad "power_of_count")) (.cons (.idx (.of (.idx (.var 0) (.lit (.int 0)))) (.lit (.int 0))) (.cons (.idx (.of (.idx (.var 0) (.lit (.int 0)))) (.lit (.int 1))) (.cons (.var 1) (.cons (.var 2) .nil)))))) .nil) .nil) (.cons (.asg (.one 3) (.bin .FloorDiv (.bi .len (.cons (.var 0) .nil)) (.lit (.int 2)))) (.cons (.ret (.call (.var 2) (.cons (.call (.glob (ad "product_of_powers")) (.cons (.slc (.var 0) .no (.so (.var 3))) (.cons (.var 1) (.cons (.var 2) .nil)))) (.cons (.call (.glob (ad "product_of_powers")) (.cons (.slc (.var 0) (.so (.var 3)) .no) (.cons (.var 1) (.cons (.var 2) .nil)))) (.cons (.var 1) .nil))))) .nil))))
noncomputable def x_swing_exponent (ad : Str → Addr) : StL := (.cons (.asgs [(2, false, (.lit (.int 0))), (3, false, (.bin .FloorDiv (.var 0) (.var 1)))]) (.cons (.whl (.cmp .Gt (.var 3) (.of (.lit (.int 0)))) (.cons (.aug 2 .Add (.bin .Mod (.var 3) (.lit (.int 2)))) (.cons (.asg (.one 3) (.bin .FloorDiv (.var 3) (.var 1))) .nil))) (.cons (.ret (.var 2)) .nil)))
noncomputable def x_swing (ad : Str → Addr) : StL := (.cons (.asg (.one 3) (.comp 2 (.one 5) (.of (.call (.glob (ad "sieve")) (.cons (.var 0) .nil))) .no (.tup (.cons (.var 5) (.cons (.call (.glob (ad "swing_exponent")) (.cons (.var 0) (.cons (.var 5) .nil))) .nil))))) (.cons (.ret (.call (.glob (ad "product_of_powers")) (.cons (.comp 2 (.one 5) (.of (.var 3)) (.so (.cmp .Gt (.idx (.var 5) (.lit (.int 1))) (.of (.lit (.int 0))))) (.var 5)) (.cons (.var 1) (.cons (.var 2) .nil))))) .nil))
noncomputable def x_factorial (ad : Str → Addr) : StL := (.cons (.drp (.call (.glob (ad "need_count")) (.cons (.var 0) .nil))) (.cons (.iff (.cmp .Lt (.var 0) (.of (.lit (.int 2)))) (.cons (.ret (.lst (.cons (.lit (.int 1)) .nil))) .nil) .nil) (.cons (.asg (.one 3) (.call (.glob (ad "factorial")) (.cons (.bin .FloorDiv (.var 0) (.lit (.int 2))) (.cons (.var 1) (.cons (.var 2) .nil))))) (.cons (.ret (.call (.var 2) (.cons (.call (.var 2) (.cons (.var 3) (.cons (.var 3) (.cons (.var 1) .nil)))) (.cons (.call (.glob (ad "swing")) (.cons (.var 0) (.cons (.var 1) (.cons (.var 2) .nil)))) (.cons (.var 1) .nil))))) .nil))))
noncomputable def x_row_of (ad : Str → Addr) : StL := (.cons (.asg (.tup [3, 4]) (.var 0)) (.cons (.asg (.one 5) (.bin .Sub (.bin .LShift (.lit (.int 1)) (.var 2)) (.lit (.int 1)))) (.cons (.iff (.not (.val (.var 3))) (.cons (.ret (.bin .Add (.var 4) (.rep (.cons (.lit (.int 0)) .nil) (.bin .Sub (.var 1) (.bi .len (.cons (.var 4) .nil)))))) .nil) .nil) (.cons (.asg (.one 6) (.call (.glob (ad "sub")) (.cons (.var 4) (.cons (.lst (.cons (.lit (.int 1)) .nil)) (.cons (.var 2) .nil))))) (.cons (.ret (.bin .Add (.comp 2 (.one 8) (.of (.var 6)) .no (.bin .Sub (.var 5) (.var 8))) (.rep (.cons (.var 5) .nil) (.bin .Sub (.var 1) (.bi .len (.cons (.var 6) .nil)))))) .nil)))))
noncomputable def x_number_of (ad : Str → Addr) : StL := (.cons (.asg (.one 2) (.bin .Sub (.bin .LShift (.lit (.int 1)) (.var 1)) (.lit (.int 1)))) (.cons (.iff (.or (.cmp .Eq (.bi .len (.cons (.var 0) .nil)) (.of (.lit (.int 0)))) (.cmp .Eq (.bin .RShift (.idx (.var 0) (.neg (.lit (.int 1)))) (.bin .Sub (.var 1) (.lit (.int 1)))) (.of (.lit (.int 0))))) (.cons (.ret (.tup (.cons (.lit (.bool false)) (.cons (.call (.glob (ad "normal")) (.cons (.var 0) .nil)) .nil)))) .nil) .nil) (.cons (.ret (.tup (.cons (.lit (.bool true)) (.cons (.call (.glob (ad "add")) (.cons (.call (.glob (ad "normal")) (.cons (.comp 2 (.one 4) (.of (.var 0)) .no (.bin .Sub (.var 2) (.var 4))) .nil)) (.cons (.lst (.cons (.lit (.int 1)) .nil)) (.cons (.var 1) .nil)))) .nil)))) .nil)))
noncomputable def x_joint_size (ad : Str → Addr) : StL := (.cons (.ret (.bin .Add (.bi .max (.cons (.bi .len (.cons (.idx (.var 0) (.lit (.int 1))) .nil)) (.cons (.bi .len (.cons (.idx (.var 1) (.lit (.int 1))) .nil)) .nil))) (.lit (.int 1)))) .nil)
noncomputable def x_s_xor (ad : Str → Addr) : StL := (.cons (.asg (.one 3) (.call (.glob (ad "joint_size")) (.cons (.var 0) (.cons (.var 1) .nil)))) (.cons (.ret (.call (.glob (ad "number_of")) (.cons (.comp 3 (.tup [5, 6]) (.zip (.call (.glob (ad "row_of")) (.cons (.var 0) (.cons (.var 3) (.cons (.var 2) .nil)))) (.call (.glob (ad "row_of")) (.cons (.var 1) (.cons (.var 3) (.cons (.var 2) .nil))))) .no (.bin .BitXor (.var 5) (.var 6))) (.cons (.var 2) .nil)))) .nil))
noncomputable def x_s_bit (ad : Str → Addr) : StL := (.cons (.asg (.tup [3, 4]) (.var 0)) (.cons (.iff (.not (.val (.var 3))) (.cons (.ret (.call (.glob (ad "bit")) (.cons (.var 4) (.cons (.var 1) (.cons (.var 2) .nil))))) .nil) .nil) (.cons (.ret (.bin .Sub (.lit (.int 1)) (.call (.glob (ad "bit")) (.cons (.call (.glob (ad "sub")) (.cons (.var 4) (.cons (.lst (.cons (.lit (.int 1)) .nil)) (.cons (.var 2) .nil)))) (.cons (.var 1) (.cons (.var 2) .nil)))))) .nil)))
noncomputable def x_mul_school (ad : Str → Addr) : StL := (.cons (.asgs [(3, true, (.rep (.cons (.lit (.int 0)) .nil) (.bin .Add (.bi .len (.cons (.var 0) .nil)) (.bi .len (.cons (.var 1) .nil))))), (4, false, (.bin .Sub (.bin .LShift (.lit (.int 1)) (.var 2)) (.lit (.int 1))))]) (.cons (.for (.tup [5, 6]) (.enm (.var 0)) (.cons (.asg (.one 7) (.lit (.int 0))) (.cons (.for (.tup [8, 9]) (.enm (.var 1)) (.cons (.aug 7 .Add (.bin .Add (.idx (.var 3) (.bin .Add (.var 5) (.var 8))) (.bin .Mult (.var 6) (.var 9)))) (.cons (.set 3 (.bin .Add (.var 5) (.var 8)) (.bin .BitAnd (.var 7) (.var 4))) (.cons (.aug 7 .RShift (.var 2)) .nil)))) (.cons (.set 3 (.bin .Add (.var 5) (.bi .len (.cons (.var 1) .nil))) (.var 7)) .nil)))) (.cons (.ret (.call (.glob (ad "normal")) (.cons (.var 3) .nil))) .nil)))
noncomputable def x_signed (ad : Str → Addr) : StL := (.cons (.ret (.tup (.cons (.and (.var 0) (.cmp .Gt (.bi .len (.cons (.var 1) .nil)) (.of (.lit (.int 0))))) (.cons (.var 1) .nil)))) .nil)
noncomputable def x_s_neg (ad : Str → Addr) : StL := (.cons (.ret (.call (.glob (ad "signed")) (.cons (.not (.idx (.var 0) (.lit (.int 0)))) (.cons (.idx (.var 0) (.lit (.int 1))) .nil)))) .nil)
noncomputable def x_s_add (ad : Str → Addr) : StL := (.cons (.iff (.cmp .Eq (.idx (.var 0) (.lit (.int 0))) (.of (.idx (.var 1) (.lit (.int 0))))) (.cons (.ret (.call (.glob (ad "signed")) (.cons (.idx (.var 0) (.lit (.int 0))) (.cons (.call (.glob (ad "add")) (.cons (.idx (.var 0) (.lit (.int 1))) (.cons (.idx (.var 1) (.lit (.int 1))) (.cons (.var 2) .nil)))) .nil)))) .nil) .nil) (.cons (.iff (.cmp .Lt (.call (.glob (ad "compare")) (.cons (.idx (.var 0) (.lit (.int 1))) (.cons (.idx (.var 1) (.lit (.int 1))) .nil))) (.of (.lit (.int 0)))) (.cons (.ret (.call (.glob (ad "signed")) (.cons (.idx (.var 1) (.lit (.int 0))) (.cons (.call (.glob (ad "sub")) (.cons (.idx (.var 1) (.lit (.int 1))) (.cons (.idx (.var 0) (.lit (.int 1))) (.cons (.var 2) .nil)))) .nil)))) .nil) .nil) (.cons (.ret (.call (.glob (ad "signed")) (.cons (.idx (.var 0) (.lit (.int 0))) (.cons (.call (.glob (ad "sub")) (.cons (.idx (.var 0) (.lit (.int 1))) (.cons (.idx (.var 1) (.lit (.int 1))) (.cons (.var 2) .nil)))) .nil)))) .nil)))
noncomputable def x_s_sub (ad : Str → Addr) : StL := (.cons (.ret (.call (.glob (ad "s_add")) (.cons (.var 0) (.cons (.call (.glob (ad "s_neg")) (.cons (.var 1) .nil)) (.cons (.var 2) .nil))))) .nil)
noncomputable def x_s_mul (ad : Str → Addr) : StL := (.cons (.ret (.call (.glob (ad "signed")) (.cons (.cmp .NotEq (.idx (.var 0) (.lit (.int 0))) (.of (.idx (.var 1) (.lit (.int 0))))) (.cons (.call (.var 3) (.cons (.idx (.var 0) (.lit (.int 1))) (.cons (.idx (.var 1) (.lit (.int 1))) (.cons (.var 2) .nil)))) .nil)))) .nil)
noncomputable def x_s_shift (ad : Str → Addr) : StL := (.cons (.iff (.cmp .GtE (.var 1) (.of (.lit (.int 0)))) (.cons (.ret (.call (.glob (ad "signed")) (.cons (.idx (.var 0) (.lit (.int 0))) (.cons (.call (.glob (ad "shift_left")) (.cons (.idx (.var 0) (.lit (.int 1))) (.cons (.var 1) (.cons (.var 2) .nil)))) .nil)))) .nil) .nil) (.cons (.asg (.one 3) (.call (.glob (ad "shift_right")) (.cons (.idx (.var 0) (.lit (.int 1))) (.cons (.neg (.var 1)) (.cons (.var 2) .nil))))) (.cons (.iff (.and (.val (.idx (.var 0) (.lit (.int 0)))) (.cmp .Gt (.bi .len (.cons (.call (.glob (ad "low")) (.cons (.idx (.var 0) (.lit (.int 1))) (.cons (.neg (.var 1)) (.cons (.var 2) .nil)))) .nil)) (.of (.lit (.int 0))))) (.cons (.asg (.one 3) (.call (.glob (ad "add_limb")) (.cons (.var 3) (.cons (.lit (.int 1)) (.cons (.var 2) .nil))))) .nil) .nil) (.cons (.ret (.call (.glob (ad "signed")) (.cons (.idx (.var 0) (.lit (.int 0))) (.cons (.var 3) .nil)))) .nil))))
noncomputable def x_law_seated (ad : Str → Addr) : StL := (.cons (.set 0 (.lit (.int 0)) (.bin .Add (.idx (.var 0) (.lit (.int 0))) (.lit (.int 1)))) (.cons (.iff (.cmp .LtE (.idx (.var 0) (.lit (.int 0))) (.of (.bi .len (.cons (.idx (.var 0) (.lit (.int 1))) .nil)))) (.cons (.ret (.bin .Mod (.idx (.of (.idx (.var 0) (.lit (.int 1)))) (.bin .Sub (.idx (.var 0) (.lit (.int 0))) (.lit (.int 1)))) (.var 1))) .nil) .nil) (.cons (.ret (.bin .Mod (.bin .Add (.bin .Add (.bin .Mult (.lit (.int 7)) (.idx (.var 0) (.lit (.int 0)))) (.bin .FloorDiv (.idx (.var 0) (.lit (.int 0))) (.lit (.int 2)))) (.lit (.int 4))) (.var 1))) .nil)))
noncomputable def x_law_limbs (ad : Str → Addr) : StL := (.cons (.new 2 (.lst .nil)) (.cons (.whl (.cmp .Gt (.var 0) (.of (.lit (.int 0)))) (.cons (.app 2 (.bin .Mod (.var 0) (.bin .Pow (.lit (.int 2)) (.var 1)))) (.cons (.asg (.one 0) (.bin .FloorDiv (.var 0) (.bin .Pow (.lit (.int 2)) (.var 1)))) .nil))) (.cons (.ret (.var 2)) .nil)))
noncomputable def x_law_signed (ad : Str → Addr) : StL := (.cons (.ret (.tup (.cons (.cmp .Lt (.var 0) (.of (.lit (.int 0)))) (.cons (.call (.glob (ad "_law_limbs")) (.cons (.bi .abs (.cons (.var 0) .nil)) (.cons (.var 1) .nil))) .nil)))) .nil)
noncomputable def x_law_orders (ad : Str → Addr) : StL := (.cons (.asg (.one 1) (.lst (.cons (.tup .nil) .nil))) (.cons (.for (.one 2) (.rng (.cons (.var 0) .nil)) (.cons (.new 3 (.lst .nil)) (.cons (.for (.one 4) (.of (.var 1)) (.cons (.ext 3 (.comp 2 (.one 6) (.rng (.cons (.var 0) .nil)) (.so (.cmp .NotIn (.var 6) (.var 4))) (.bin .Add (.var 4) (.tup (.cons (.var 6) .nil))))) .nil)) (.cons (.mv 1 3) .nil)))) (.cons (.ret (.var 1)) .nil)))
noncomputable def x_law_plain_sum (ad : Str → Addr) : StL := (.cons (.asg (.one 1) (.lit (.int 0))) (.cons (.for (.one 2) (.of (.call (.glob (ad "_law_orders")) (.cons (.bi .len (.cons (.var 0) .nil)) .nil))) (.cons (.asg (.one 3) (.lit (.int 1))) (.cons (.for (.tup [4, 5]) (.zip (.var 0) (.var 2)) (.cons (.asg (.one 3) (.bin .Mult (.var 3) (.idx (.var 4) (.var 5)))) .nil)) (.cons (.asg (.one 1) (.bin .Add (.var 1) (.var 3))) .nil)))) (.cons (.ret (.var 1)) .nil)))
noncomputable def x_law_led (ad : Str → Addr) : StL := (.cons (.asgs [(2, false, (.bi .len (.cons (.var 0) .nil))), (3, false, (.tup (.cons (.lit (.bool false)) (.cons (.lst .nil) .nil)))), (4, true, (.lst .nil))]) (.cons (.asgs [(6, false, (.comp 2 (.one 15) (.of (.var 0)) .no (.comp 2 (.one 17) (.of (.var 15)) .no (.call (.glob (ad "_law_signed")) (.cons (.var 17) (.cons (.var 1) .nil)))))), (7, false, (.rep (.cons (.tup (.cons (.lit (.bool false)) (.cons (.lst .nil) .nil))) .nil) (.bi .len (.cons (.var 0) .nil))))]) (.cons (.for (.one 8) (.rng (.cons (.lit (.int 1)) (.cons (.bin .Pow (.lit (.int 2)) (.var 2)) .nil))) (.cons (.asg (.one 9) (.call (.glob (ad "_law_signed")) (.cons (.var 8) (.cons (.var 1) .nil)))) (.cons (.asgs [(10, false, (.call (.glob (ad "s_xor")) (.cons (.var 9) (.cons (.call (.glob (ad "s_shift")) (.cons (.var 9) (.cons (.neg (.lit (.int 1))) (.cons (.var 1) .nil)))) (.cons (.var 1) .nil))))), (11, false, (.call (.glob (ad "trailing")) (.cons (.idx (.var 9) (.lit (.int 1))) (.cons (.var 1) .nil))))]) (.cons (.asg (.one 12) (.comp 2 (.one 15) (.rng (.cons (.var 2) .nil)) (.so (.cmp .Eq (.call (.glob (ad "s_bit")) (.cons (.var 10) (.cons (.var 15) (.cons (.var 1) .nil)))) (.of (.lit (.int 1))))) (.var 15))) (.cons (.asg (.one 7) (.comp 3 (.tup [15, 16]) (.zip (.var 7) (.var 6)) .no (.ite (.cmp .In (.var 11) (.var 12)) (.call (.glob (ad "s_add")) (.cons (.var 15) (.cons (.idx (.var 16) (.var 11)) (.cons (.var 1) .nil)))) (.call (.glob (ad "s_sub")) (.cons (.var 15) (.cons (.idx (.var 16) (.var 11)) (.cons (.var 1) .nil))))))) (.cons (.iff (.or (.cmp .In (.var 12) (.var 4)) (.cmp .NotEq (.var 7) (.of (.comp 2 (.one 15) (.of (.var 0)) .no (.call (.glob (ad "_law_signed")) (.cons (.bi .sum (.cons (.comp 2 (.one 17) (.of (.var 12)) .no (.idx (.var 15) (.var 17))) .nil)) (.cons (.var 1) .nil))))))) (.cons (.ret (.lit .none)) .nil) .nil) (.cons (.app 4 (.var 12)) (.cons (.asg (.one 13) (.tup (.cons (.lit (.bool false)) (.cons (.lst (.cons (.lit (.int 1)) .nil)) .nil)))) (.cons (.for (.one 5) (.of (.var 7)) (.cons (.asg (.one 13) (.call (.glob (ad "s_mul")) (.cons (.var 13) (.cons (.var 5) (.cons (.var 1) (.cons (.glob (ad "mul_school")) .nil)))))) .nil)) (.cons (.asg (.one 3) (.ite (.cmp .Eq (.bin .Mod (.bin .Sub (.var 2) (.bi .len (.cons (.var 12) .nil))) (.lit (.int 2))) (.of (.lit (.int 0)))) (.call (.glob (ad "s_add")) (.cons (.var 3) (.cons (.var 13) (.cons (.var 1) .nil)))) (.call (.glob (ad "s_sub")) (.cons (.var 3) (.cons (.var 13) (.cons (.var 1) .nil)))))) .nil)))))))))) (.cons (.ret (.var 3)) .nil))))
noncomputable def x_law (ad : Str → Addr) : StL := (.cons (.asg (.one 1) (.lst (.cons (.lit (.int 0)) (.cons (.comp 2 (.one 9) (.of (.slc (.var 0) .no (.so (.lit (.int 18))))) .no (.bi .abs (.cons (.bi .int (.cons (.var 9) .nil)) .nil))) .nil)))) (.cons (.asgs [(2, false, (.bin .Add (.lit (.int 3)) (.call (.glob (ad "_law_seated")) (.cons (.var 1) (.cons (.lit (.int 6)) .nil))))), (3, false, (.bin .Add (.lit (.int 2)) (.call (.glob (ad "_law_seated")) (.cons (.var 1) (.cons (.lit (.int 2)) .nil)))))]) (.cons (.asg (.one 4) (.comp 2 (.one 9) (.rng (.cons (.var 3) .nil)) .no (.comp 2 (.one 11) (.rng (.cons (.var 3) .nil)) .no (.bin .Sub (.call (.glob (ad "_law_seated")) (.cons (.var 1) (.cons (.lit (.int 7)) .nil))) (.lit (.int 3)))))) (.cons (.iff (.cmp .NotEq (.call (.glob (ad "_law_led")) (.cons (.var 4) (.cons (.var 2) .nil))) (.of (.call (.glob (ad "_law_signed")) (.cons (.call (.glob (ad "_law_plain_sum")) (.cons (.var 4) .nil)) (.cons (.var 2) .nil))))) (.cons (.ret (.lit (.bool false))) .nil) .nil) (.cons (.asg (.one 5) (.comp 2 (.one 9) (.rng (.cons (.var 3) .nil)) .no (.rep (.cons (.lit (.int 1)) .nil) (.var 3)))) (.cons (.iff (.cmp .NotEq (.call (.glob (ad "_law_led")) (.cons (.var 5) (.cons (.var 2) .nil))) (.of (.tup (.cons (.lit (.bool false)) (.cons (.call (.glob (ad "factorial")) (.cons (.var 3) (.cons (.var 2) (.cons (.glob (ad "mul_school")) .nil)))) .nil))))) (.cons (.ret (.lit (.bool false))) .nil) .nil) (.cons (.asg (.one 6) (.comp 2 (.one 9) (.rng (.cons (.var 3) .nil)) .no (.comp 2 (.one 11) (.rng (.cons (.var 3) .nil)) .no (.bi .int (.cons (.cmp .NotEq (.var 11) (.var 9)) .nil))))) (.cons (.asg (.one 7) (.comp 2 (.one 9) (.of (.call (.glob (ad "_law_orders")) (.cons (.var 3) .nil))) (.so (.cmp .NotIn (.lit (.bool true)) (.of (.comp 2 (.one 11) (.rng (.cons (.var 3) .nil)) .no (.cmp .Eq (.idx (.var 9) (.var 11)) (.var 11)))))) (.var 9))) (.cons (.ret (.cmp .Eq (.call (.glob (ad "_law_led")) (.cons (.var 6) (.cons (.var 2) .nil))) (.of (.call (.glob (ad "_law_signed")) (.cons (.bi .len (.cons (.var 7) .nil)) (.cons (.var 2) .nil)))))) .nil)))))))))
noncomputable def names0 : List Str := ("normal" : Str) :: ("nat_of" : Str) :: ("compare" : Str) :: ("add" : Str) :: ("sub" : Str) :: ("add_limb" : Str) :: ("shift_left" : Str) :: ("shift_right" : Str) :: ("bit" : Str) :: ("low" : Str) :: ("trailing" : Str) :: ("sieve" : Str) :: ("need_count" : Str) :: ("power_of_count" : Str) :: ("product_of_powers" : Str) :: ("swing_exponent" : Str) :: ("swing" : Str) :: ("factorial" : Str) :: ("row_of" : Str) :: ("number_of" : Str) :: ("joint_size" : Str) :: ("s_xor" : Str) :: ("s_bit" : Str) :: ("mul_school" : Str) :: ("signed" : Str) :: ("s_neg" : Str) :: ("s_add" : Str) :: ("s_sub" : Str) :: ("s_mul" : Str) :: ("s_shift" : Str) :: ("_law_seated" : Str) :: ("_law_limbs" : Str) :: ("_law_signed" : Str) :: ("_law_orders" : Str) :: ("_law_plain_sum" : Str) :: ("_law_led" : Str) :: ("law" : Str) :: []
noncomputable def arity0 : List Nat := [1, 2, 2, 3, 3, 3, 3, 3, 3, 3, 2, 1, 1, 4, 3, 2, 3, 3, 3, 2, 2, 3, 3, 3, 2, 1, 3, 3, 4, 3, 2, 2, 2, 1, 1, 2, 1]
noncomputable def nown0 : List Nat := [2, 4, 3, 7, 8, 6, 9, 9, 3, 5, 4, 5, 1, 6, 4, 4, 4, 4, 7, 3, 2, 4, 5, 10, 2, 1, 3, 3, 4, 4, 2, 3, 2, 5, 6, 14, 8]
noncomputable def bodies0 : List ((Str → Addr) → StL) := x_normal :: x_nat_of :: x_compare :: x_add :: x_sub :: x_add_limb :: x_shift_left :: x_shift_right :: x_bit :: x_low :: x_trailing :: x_sieve :: x_need_count :: x_power_of_count :: x_product_of_powers :: x_swing_exponent :: x_swing :: x_factorial :: x_row_of :: x_number_of :: x_joint_size :: x_s_xor :: x_s_bit :: x_mul_school :: x_signed :: x_s_neg :: x_s_add :: x_s_sub :: x_s_mul :: x_s_shift :: x_law_seated :: x_law_limbs :: x_law_signed :: x_law_orders :: x_law_plain_sum :: x_law_led :: x_law :: []
noncomputable def held0 : List (Str × List Str) := [("nat_of", ["found"]), ("add", ["found"]), ("sub", ["found"]), ("shift_right", ["found"]), ("sieve", ["is_left", "found"]), ("mul_school", ["found"]), ("_law_limbs", ["found"]), ("_law_orders", ["longer"]), ("_law_led", ["seen"])]
noncomputable def fnsOf (ad : Str → Addr) : List (Str × Addr) := names0.map fun x => (x, ad x)
noncomputable def heldOf (x : Str) : List Str := (held0.lookup x).getD []
noncomputable def parsOf (d : DefRec) : List Str := d.params.args.map (·.arg)

theorem names_eq : (recsOf view0).map (·.name) = names0 := by kernel_rfl
theorem arity_eq : (recsOf view0).map (fun d => (parsOf d).length) = arity0 := by kernel_rfl
theorem nown_eq : (recsOf view0).map (fun d => nOwn d.scope.names) = nown0 := by kernel_rfl
theorem comp_eq (ad : Str → Addr) : (recsOf view0).map (fun d => cSs (fnsOf ad) d.body (fnSc d.scope (heldOf d.name))) = bodies0.map fun f => some (f ad) := by kernel_rfl
noncomputable def chk (d : DefRec) : Bool := d.scope.kind == .function && !d.scope.isCoroutine && !d.scope.isGenerator && ((parsOf d).zipIdx.all fun x => (ownSlots d.scope.names 0).lookup x.1 == some x.2) &&
  ((parsOf d).all fun x => d.scope.names.lookup x == some .local || d.scope.names.lookup x == some .cell) && decide (d.scope.names.map (·.1)).Nodup && decide (parsOf d).Nodup && (d.scope.names.all fun x => x.2 != .free) && decide ((parsOf d).length ≤ 4)
theorem chk_all : ((recsOf view0).all chk) = true := by kernel_rfl
theorem binds_eq (pm cd doc v1 v2 v3 v4 : Value) : (recsOf view0).map (fun d => bindArgs (docDef d.name d.params d.body d.scope pm cd doc) ⟨[v1, v2, v3, v4].take (parsOf d).length, []⟩) = (recsOf view0).map fun d => pure ((parsOf d).zip ([v1, v2, v3, v4].take (parsOf d).length)) := by kernel_rfl

/-- the law's functions, told to a depth; Z tells what is shown by hand -/
noncomputable def SL (ad : Str → Addr) (Z : Spec) : Nat → Spec
  | 0 => fun _ _ _ _ => False
  | k + 1 => fun a ps n Q => (∃ (i : Nat) (x : Str) (m q : Nat) (f : (Str → Addr) → StL), names0[i]? = some x ∧ arity0[i]? = some m ∧ nown0[i]? = some q ∧ bodies0[i]? = some f ∧ a = ad x ∧ ps.length = m ∧
      exLP (SL ad Z k) (f ad) (ps.map (fun p => some (Var.val p)) ++ List.replicate (q - m) none) n (fun _ n => Q (.d .none) n) Q) ∨ Z a ps n Q

structure Gr (ad : Str → Addr) (h0 : Heap) : Prop where
  grd : Grd (fnsOf ad) h0
  fn : ∀ d ∈ recsOf view0, ∃ o pm code doc, h0.get? (ad d.name) = some o ∧ o.data = .func (docDef d.name d.params d.body d.scope pm code doc) ∧ h0.CodeRec code d.name

theorem start_gen (slots : List (Str × Nat)) : ∀ (xs : List Str) (ps : List PV) (j : Nat) (ρ : REnv), ps.length = xs.length → (∀ i x, xs[i]? = some x → slots.lookup x = some (j + i)) → j + xs.length ≤ ρ.length →
    bindPs slots xs ps ρ = ρ.take j ++ ps.map (fun p => some (Var.val p)) ++ ρ.drop (j + xs.length)
  | [], ps, j, ρ, hl, _, _ => by
    have : ps = [] := by cases ps with | nil => rfl | cons _ _ => simp at hl
    subst this
    unfold bindPs
    simp
  | x :: xs, [], j, ρ, hl, _, _ => by simp at hl
  | x :: xs, p :: ps, j, ρ, hl, hs, hj => by
    have h0 := hs 0 x rfl
    rw [Nat.add_zero] at h0
    rw [List.length_cons] at hj
    unfold bindPs
    rw [h0]
    dsimp only
    rw [start_gen slots xs ps (j + 1) (ρ.set j (some (.val p))) (by simpa using hl) (fun i y e => by rw [hs (i + 1) y (by simpa using e)]; congr 1; (first | lia | omega)) (by rw [List.length_set]; (first | lia | omega))]
    have hlt : j < (ρ.set j (some (Var.val p))).length := by rw [List.length_set]; (first | lia | omega)
    rw [List.take_succ_eq_append_getElem hlt, List.getElem_set_self, List.take_set_of_le (Nat.le_refl _), List.drop_set_of_lt (by (first | lia | omega))]
    rw [List.map_cons, List.append_assoc, List.append_assoc, List.append_assoc, List.length_cons]
    have : j + 1 + xs.length = j + (xs.length + 1) := by (first | lia | omega)
    rw [this]
    rfl

theorem par_slots {d : DefRec} (h : ((parsOf d).zipIdx.all fun x => (ownSlots d.scope.names 0).lookup x.1 == some x.2) = true) (i : Nat) (x : Str) (e : (parsOf d)[i]? = some x) : (ownSlots d.scope.names 0).lookup x = some i := by
  rw [List.all_eq_true] at h
  have := h (x, i) (List.mem_zipIdx_iff_getElem?.mpr e)
  simpa using this
theorem all_at {α : Type} {l : List DefRec} {f : DefRec → α} {m : List α} (h : l.map f = m) {i : Nat} {y : α} (e : m[i]? = some y) : ∃ d, l[i]? = some d ∧ f d = y := by
  rw [← h, List.getElem?_map] at e
  cases q : l[i]? with
  | none => rw [q] at e; cases e
  | some d => rw [q] at e; cases e; exact ⟨d, rfl, rfl⟩

section
variable {prog : Program} {w : World} {b : Bx} {ad : Str → Addr} {Z : Spec} {h0 : Heap}

theorem rec_fn (R : Gr ad h0) {i : Nat} {x : Str} {m q : Nat} {f : (Str → Addr) → StL} (e1 : names0[i]? = some x) (e2 : arity0[i]? = some m) (e3 : nown0[i]? = some q) (e4 : bodies0[i]? = some f) :
    ∃ d, (recsOf view0)[i]? = some d ∧ (parsOf d).length = m ∧ Fn (fnsOf ad) h0 (ad x) (parsOf d) d.scope (heldOf x) d.body (f ad) ∧ (∀ ps : List PV, ps.length = m → startEnv d.scope (parsOf d) ps = ps.map (fun p => some (Var.val p)) ++ List.replicate (q - m) none) ∧ ∀ i x, (parsOf d)[i]? = some x → (ownSlots d.scope.names 0).lookup x = some i := by
  obtain ⟨d, hd, n1⟩ := all_at names_eq e1
  obtain ⟨d2, hd2, n2⟩ := all_at arity_eq e2
  obtain ⟨d3, hd3, n3⟩ := all_at nown_eq e3
  obtain ⟨d4, hd4, n4⟩ := all_at (comp_eq ad) (y := some (f ad)) (by rw [List.getElem?_map, e4]; rfl)
  rw [hd] at hd2 hd3 hd4
  cases hd2; cases hd3; cases hd4
  have hm : d ∈ recsOf view0 := List.mem_of_getElem? hd
  obtain ⟨o, pm, code, doc, h1, h2, h3⟩ := R.fn d hm
  have hc := List.all_eq_true.mp chk_all d hm
  unfold chk at hc
  simp only [Bool.and_eq_true, Bool.not_eq_true', beq_iff_eq, decide_eq_true_eq] at hc
  obtain ⟨⟨⟨⟨⟨⟨⟨⟨c1, c2⟩, c3⟩, c4⟩, c5⟩, c6⟩, c7⟩, c8⟩, c9⟩ := hc
  have hslot := par_slots (d := d) c4
  have hle : (parsOf d).length ≤ nOwn d.scope.names := by
    by_cases h : (parsOf d).length = 0
    · (first | lia | omega)
    · have hi : (parsOf d).length - 1 < (parsOf d).length := by (first | lia | omega)
      have := (own_some _ _ _ _ (hslot _ _ (List.getElem?_eq_getElem hi))).2.1
      (first | lia | omega)
  refine ⟨d, hd, n2, ⟨⟨o, _, n1 ▸ h1, h2, h3, rfl, rfl, rfl, rfl, rfl, fun vals hv => ?_⟩, n1 ▸ n4, ⟨c1, c2, c3⟩, fun y hy => ?_, ⟨c6, c7⟩, fun y hy => ?_⟩, fun ps hp => ?_, hslot⟩
  · have bq : ∀ v1 v2 v3 v4, bindArgs (docDef d.name d.params d.body d.scope pm code doc) ⟨[v1, v2, v3, v4].take (parsOf d).length, []⟩ = pure ((parsOf d).zip ([v1, v2, v3, v4].take (parsOf d).length)) := fun v1 v2 v3 v4 =>
      List.map_inj_left.mp (binds_eq pm code doc v1 v2 v3 v4) d hm
    match vals, hv with
    | [], hv => have := bq .none .none .none .none; rw [← hv] at this; exact this
    | [v1], hv => have := bq v1 .none .none .none; rw [← hv] at this; exact this
    | [v1, v2], hv => have := bq v1 v2 .none .none; rw [← hv] at this; exact this
    | [v1, v2, v3], hv => have := bq v1 v2 v3 .none; rw [← hv] at this; exact this
    | [v1, v2, v3, v4], hv => have := bq v1 v2 v3 v4; rw [← hv] at this; exact this
    | _ :: _ :: _ :: _ :: _ :: _, hv => simp only [List.length_cons] at hv; (first | lia | omega)
  · have := List.all_eq_true.mp c5 y hy
    simpa using this
  · have := List.all_eq_true.mp c8 y hy
    simpa using this
  · unfold startEnv
    rw [start_gen _ (parsOf d) ps 0 _ (hp.trans n2.symm) (fun i x e => by rw [hslot i x e, Nat.zero_add]) (by rw [List.length_replicate]; (first | lia | omega))]
    rw [Nat.zero_add, List.take_zero, List.nil_append, List.drop_replicate, n2, n3]

theorem SL_fn (R : Gr ad h0) (hZ : ∀ a ps n Q, Z a ps n Q → ∃ o fd, h0.get? a = some o ∧ o.data = .func fd) : ∀ k a ps n Q, SL ad Z k a ps n Q → ∃ o fd, h0.get? a = some o ∧ o.data = .func fd
  | 0, _, _, _, _, h => h.elim
  | k + 1, a, ps, n, Q, h => by
    rcases h with ⟨i, x, m, q, f, e1, e2, e3, e4, rfl, _, _⟩ | h
    · obtain ⟨d, _, _, I, _, _⟩ := rec_fn R e1 e2 e3 e4
      obtain ⟨o, fd, h1, h2, _⟩ := I.obj
      exact ⟨o, fd, h1, h2⟩
    · exact hZ a ps n Q h

/-- every level is so -/
theorem SL_ok (ok : BxOk b) (R : Gr ad h0) (hZ : ∀ a ps n Q, Z a ps n Q → ∃ o fd, h0.get? a = some o ∧ o.data = .func fd) (FZ : FnOk prog w b h0 1 Z) : ∀ k, FnOk prog w b h0 k (SL ad Z k)
  | 0 => fun a ps n Q h => h.elim
  | k + 1 => fun a ps n Q h A s vs U E rm H r => by
    rcases h with ⟨i, x, m, q, f, e1, e2, e3, e4, rfl, hl, hx⟩ | h
    · obtain ⟨d, _, hm, I, hs, _⟩ := rec_fn R e1 e2 e3 e4
      exact fn_call ok R.grd (SL_ok ok R hZ FZ k) (SL_fn R hZ k) I (hl.trans hm.symm) (by rw [hs ps hl]; exact hx) rm H r
    · exact FZ a ps n Q h A s vs U E ⟨rm.handled, by have := rm.depth; (first | lia | omega), by have := rm.units; (first | lia | omega)⟩ H r
end

noncomputable def adOf (mg : Str → Option Value) (x : Str) : Addr := match mg x with
  | some (.ref a) => a
  | _ => 0
theorem free_names : (bis.map (·.1)).all (fun x => !startupNames.contains x && !(looseW view0 []).contains x && !((recsOf view0).map (·.name)).contains x && !((litsOf view0).map (·.1)).contains x && !((clssOf view0 (looseW view0 [])).map (·.name)).contains x && x != "__name__") = true := by kernel_rfl
theorem boot_names : bis.map (fun p => bootBuiltins p.1) = bis.map fun p => some (bkVal p.2) := by kernel_rfl
theorem lookup_map (ad : Str → Addr) : ∀ (l : List Str) {x : Str} {a : Addr}, (l.map fun x => (x, ad x)).lookup x = some a → x ∈ l ∧ a = ad x
  | [], _, _, h => nomatch h
  | y :: l, x, a, h => by
    rw [List.map_cons, List.lookup_cons] at h
    cases e : x == y with
    | true =>
      rw [e] at h; cases h
      rw [beq_iff_eq.mp e]
      exact ⟨.head _, rfl⟩
    | false =>
      rw [e] at h
      obtain ⟨h1, h2⟩ := lookup_map ad l h
      exact ⟨.tail _ h1, h2⟩

theorem gr_of {mean : ExcName → Option Value} {mg mb : Str → Option Value} {h : Heap} (T : Top view0 (looseW view0 []) mean mg mb h) : Gr (adOf mg) h := by
  have adr : ∀ d ∈ recsOf view0, ∃ o pm code doc, mg d.name = some (.ref (adOf mg d.name)) ∧ h.get? (adOf mg d.name) = some o ∧ o.data = .func (docDef d.name d.params d.body d.scope pm code doc) ∧ h.CodeRec code d.name := fun d hd => by
    obtain ⟨a, o, pm, code, doc, h1, h2, h3, h4⟩ := T.fn d hd
    have : adOf mg d.name = a := by unfold adOf; rw [h1]
    rw [this]
    exact ⟨o, pm, code, doc, h1, h2, h3, h4⟩
  have nm : ∀ x a, (fnsOf (adOf mg)).lookup x = some a → ∃ d ∈ recsOf view0, d.name = x ∧ a = adOf mg x := fun x a e => by
    obtain ⟨h1, h2⟩ := lookup_map (adOf mg) names0 e
    rw [← names_eq] at h1
    obtain ⟨d, hd, e⟩ := List.mem_map.mp h1
    exact ⟨d, hd, e, h2⟩
  refine ⟨⟨T.nolimit, ⟨mg, mb, T.g, T.b, fun x a e => ?_, fun x k e => ?_⟩, fun x a e => ?_⟩, fun d hd => ?_⟩
  · obtain ⟨d, hd, rfl, rfl⟩ := nm x a e
    obtain ⟨o, pm, code, doc, h1, _⟩ := adr d hd
    exact h1
  · have hm := PySem.mem_of_lookup e
    have hf := List.all_eq_true.mp free_names x (List.mem_map.mpr ⟨_, hm, rfl⟩)
    simp only [Bool.and_eq_true, Bool.not_eq_true', bne_iff_ne, ne_eq] at hf
    obtain ⟨⟨⟨⟨⟨f1, f2⟩, f3⟩, f4⟩, f5⟩, f6⟩ := hf
    have nc : ∀ {l : List Str}, l.contains x = false → x ∉ l := fun {l} q m => by
      have := List.contains_iff_mem.mpr m
      rw [q] at this; cases this
    refine ⟨T.free x (nc f1) (nc f2) (nc f3) (nc f4) (nc f5), (T.builtins x f6).trans ?_⟩
    exact List.map_inj_left.mp boot_names (x, k) hm
  · obtain ⟨d, hd, rfl, rfl⟩ := nm x a e
    obtain ⟨o, pm, code, doc, _, h2, h3, _⟩ := adr d hd
    exact ⟨o, _, h2, h3⟩
  · obtain ⟨o, pm, code, doc, _, r⟩ := adr d hd
    exact ⟨o, pm, code, doc, r⟩

/-! ### a first statement's parts -/
noncomputable def nmE : Expr := .Name "" ⟨0, 0, 0, 0⟩
noncomputable def tgt (l : List Stmt) : Expr := match l with
  | .Assign ts _ _ :: _ => ts.headD nmE
  | _ => nmE
noncomputable def vlu (l : List Stmt) : Expr := match l with
  | .Assign _ v _ :: _ => v
  | _ => nmE
noncomputable def aps (l : List Stmt) : Pos := match l with
  | .Assign _ _ p :: _ => p
  | _ => ⟨0, 0, 0, 0⟩
noncomputable def eNm (e : Expr) : Str := match e with
  | .Name y _ => y
  | _ => ""
noncomputable def ePos (e : Expr) : Pos := match e with
  | .Name _ p => p
  | .Subscript _ _ p => p
  | .List _ p => p
  | _ => ⟨0, 0, 0, 0⟩
noncomputable def eSv (e : Expr) : Expr := match e with
  | .Subscript v _ _ => v
  | _ => nmE
noncomputable def eSk (e : Expr) : Expr := match e with
  | .Subscript _ k _ => k
  | _ => nmE
noncomputable def eEl (e : Expr) (i : Nat) : Expr := match e with
  | .List es _ => es.getD i nmE
  | _ => nmE

/-- the law's bench: a count, and the seats -/
noncomputable def bxS (B l : Addr) (seats : List Int) : Bx where
  set := fun a => a = B ∨ a = l
  inv := fun n h => (∃ t, h.PlainList B #[.int n t, .ref l]) ∧ ∃ vs, h.PlainList l (List.toArray vs) ∧ RepL h (fun _ => False) vs (seats.map .int)
  val := fun v => v = .ref B
  floor := fun _ => False
theorem repL_ints {h h' : Heap} {U U' : Addr → Prop} : ∀ {seats : List Int} {vs : List Value}, RepL h U vs (seats.map .int) → RepL h' U' vs (seats.map .int)
  | [], vs, r => by rw [RepL.nil_inv r]; exact .nil
  | i :: s, vs, r => by
    obtain ⟨v, r', rfl, r1, r2⟩ := RepL.inv r
    obtain ⟨t, rfl⟩ := RepD.int_inv r1
    exact .cons (.int i t) (repL_ints r2)
theorem bxS_ok (B l : Addr) (seats : List Int) : BxOk (bxS B l seats) where
  keep := fun n h h' k ⟨⟨t, kb, hB⟩, vs, ⟨kl, hl⟩, r⟩ => ⟨⟨t, kb, k B _ (.inl rfl) hB⟩, vs, ⟨kl, k l _ (.inr rfl) hl⟩, repL_ints r⟩
  there := fun n h a ⟨⟨t, kb, hB⟩, vs, ⟨kl, hl⟩, r⟩ ha => by
    rcases ha with rfl | rfl
    · exact ⟨_, hB, rfl, _, _, rfl⟩
    · exact ⟨_, hl, rfl, _, _, rfl⟩

/-- what a seat's draw gives -/
noncomputable def seatZ (a0 : Addr) : Spec := fun a ps n Q => a = a0 ∧ ∃ m : Int, ps = [.bench, dI m] ∧ (m = 2 ∨ m = 6 ∨ m = 7) ∧ ∀ r, 0 ≤ r → r < m → Q (dI r) (n + 1)

theorem idx_l {l : List PyData} {k : Int} {y : PyData} {Q : PV → Prop} (h0 : 0 ≤ k) (h : l[k.toNat]? = some y) (hl : l.length ≤ 2 ^ 24) (q : Q (.d y)) : idxP (.d (.list l)) (dI k) Q := by
  have hk : k.toNat < l.length := (List.getElem?_eq_some_iff.mp h).1
  refine Or.inl ⟨by (first | lia | omega), by (first | lia | omega), hl, y, ?_, q⟩
  rw [if_neg (by (first | lia | omega))]
  exact h
theorem idx_t {l : List PyData} {k : Int} {y : PyData} {Q : PV → Prop} (h0 : 0 ≤ k) (h : l[k.toNat]? = some y) (hl : l.length ≤ 2 ^ 24) (q : Q (.d y)) : idxP (.d (.tuple l)) (dI k) Q := by
  have hk : k.toNat < l.length := (List.getElem?_eq_some_iff.mp h).1
  refine Or.inr ⟨by (first | lia | omega), by (first | lia | omega), hl, y, ?_, q⟩
  rw [if_neg (by (first | lia | omega))]
  exact h
noncomputable def seat_tail (ad : Str → Addr) : StL := match x_law_seated ad with
  | .cons _ l => l
  | _ => .nil
theorem seat_rest (S : Spec) (ad : Str → Addr) (seats : List Int) (n N0 : Nat) (m : Int) (hm : 0 < m) (hl : seats.length ≤ 2 ^ 20) :
    exLP S (seat_tail ad) [some (.val (.d (.list [.int ((n : Int) + 1), .list (seats.map .int)]))), some (.val (dI m))] N0 (fun _ _ => False) (fun p k => k = N0 ∧ ∃ r, p = dI r ∧ 0 ≤ r ∧ r < m) := by
  dsimp only [seat_tail, x_law_seated, exLP, exP, evP, tsP, rdP, evLP, List.getElem?_cons_zero, List.getElem?_cons_succ]
  refine idx_l (k := 0) (by decide) rfl (by decide : 2 ≤ 2 ^ 24) (idx_l (k := 1) (by decide) rfl (by decide : 2 ≤ 2 ^ 24) ⟨by rw [List.length_map]; (first | lia | omega), ?_⟩)
  have fin : ∀ z : Int, N0 = N0 ∧ ∃ r, dI (z.fmod m) = dI r ∧ 0 ≤ r ∧ r < m := fun z => ⟨rfl, _, rfl, Int.fmod_nonneg_of_pos _ hm, Int.fmod_lt_of_pos _ hm⟩
  show (match decide ((n : Int) + 1 ≤ ((seats.map PyData.int).length : Int)) with | true => _ | false => _)
  cases hd : decide ((n : Int) + 1 ≤ ((seats.map PyData.int).length : Int)) with
  | true =>
    have hd := of_decide_eq_true hd
    rw [List.length_map] at hd
    refine idx_l (k := 1) (by decide) rfl (by decide : 2 ≤ 2 ^ 24) (idx_l (k := 0) (by decide) rfl (by decide : 2 ≤ 2 ^ 24) ?_)
    have hn : n < seats.length := by (first | lia | omega)
    have he : (n : Int) + 1 - 1 = n := by (first | lia | omega)
    show idxP (.d (.list (seats.map .int))) (dI ((n : Int) + 1 - 1)) _
    rw [he]
    refine idx_l (y := .int seats[n]) (by (first | lia | omega)) (by rw [Int.toNat_natCast, List.getElem?_map, List.getElem?_eq_getElem hn]; rfl) (by rw [List.length_map]; (first | lia | omega)) ⟨by (first | lia | omega), fin _⟩
  | false =>
    refine idx_l (k := 0) (by decide) rfl (by decide : 2 ≤ 2 ^ 24) ⟨by decide, idx_l (k := 0) (by decide) rfl (by decide : 2 ≤ 2 ^ 24) ⟨by decide, by decide, .inl (.inl ⟨by (first | lia | omega), fin _⟩)⟩⟩

section
variable {prog : Program} {w : World} {ad : Str → Addr} {h0 : Heap} {B l : Addr} {seats : List Int}

theorem vat_uniq {h : Heap} {env : Env} {x : Str} {v v' : Value} (a : VarAt h env x v) (c : VarAt h env x v') : v = v' := by
  rcases a with ⟨k1, m, n1, e1⟩ | ⟨k1, d, d1, e1⟩ <;> rcases c with ⟨k2, m', n2, e2⟩ | ⟨k2, d', d2, e2⟩
  · rw [ns_uniq n1 n2] at e1
    rw [e1] at e2; cases e2; rfl
  · rw [k1] at k2; rcases k2 with k2 | k2 <;> cases k2
  · rw [k2] at k1; rcases k1 with k1 | k1 <;> cases k1
  · rw [d1] at d2; cases d2
    have := cell_uniq e1 e2
    cases this; rfl

noncomputable def seatS (b : List Stmt) : List Stmt := .Assign [.Subscript (.Name (eNm (eSv (tgt b))) (ePos (eSv (tgt b)))) (eSk (tgt b)) (ePos (tgt b))] (vlu b) (aps b) :: b.tail
theorem seat_first : ((recsOf view0)[30]?).map (fun d => d.body) = ((recsOf view0)[30]?).map fun d => seatS d.body := by kernel_rfl
noncomputable def seatT (ad : Str → Addr) (d : DefRec) : Option Nat × Option Ex × Option Ex × Bool × Option StL :=
  (cStore (fnSc d.scope (heldOf "_law_seated")) (eNm (eSv (tgt d.body))), (cA (fnsOf ad) (eSk (tgt d.body)) (fnSc d.scope (heldOf "_law_seated"))).ex, (cA (fnsOf ad) (vlu d.body) (fnSc d.scope (heldOf "_law_seated"))).ex, eNm (eSv (tgt d.body)) == ("__debug__" : Str), cSs (fnsOf ad) d.body.tail (fnSc d.scope (heldOf "_law_seated")))
theorem seat_comp (ad : Str → Addr) : ((recsOf view0)[30]?).map (seatT ad) = some (some 0, some (.lit (.int 0)), some (.bin .Add (.idx (.var 0) (.lit (.int 0))) (.lit (.int 1))), false, some (seat_tail ad)) := by kernel_rfl

/-- a seat is drawn -/
theorem seat_ok (R : Gr ad h0) (hlen : seats.length ≤ 2 ^ 20) : FnOk prog w (bxS B l seats) h0 1 (seatZ (ad "_law_seated")) := by
  rintro a ps n Q ⟨rfl, m, rfl, hm, hQ⟩ A s vs U E rm H r
  match vs, r with
  | [v1, v2], r =>
    obtain ⟨r1, r2, _⟩ := r
    have hv1 : v1 = .ref B := r1
    obtain ⟨tm, rfl⟩ := RepD.int_inv r2
    subst hv1
    obtain ⟨⟨t0, kb, hB⟩, ws, ⟨kl, hl⟩, hw⟩ := H.inv
    have hBl : B ≠ l := fun e => by
      subst e
      rw [hB] at hl
      cases hl
      match seats, hw with
      | _ :: _ :: _, hw =>
        obtain ⟨_, _, e1, _, hw⟩ := RepL.inv hw
        cases e1
        obtain ⟨_, _, e1, r1, _⟩ := RepL.inv hw
        cases e1
        obtain ⟨_, e⟩ := RepD.int_inv r1
        cases e
      | [], hw => have := hw.length; simp at this
      | [_], hw => have := hw.length; simp at this
    generalize hU1 : (fun c => U c ∧ c ≠ B ∧ c ≠ l) = U1
    have inU1 : ∀ c, U1 c ↔ U c ∧ c ≠ B ∧ c ≠ l := fun c => by rw [← hU1]
    have ok0 : BxOk Bx.none := Bx.none_ok
    have H1 : Hy Bx.none h0 n U1 s.heap := ⟨H.base, trivial, fun _ q => q.elim, fun c q => H.off c ((inU1 c).mp q).1, fun c o e q => H.new c o e ((inU1 c).mp q).1⟩
    have repB : ∀ {h : Heap} {V : Addr → Prop} {k : Int} {t : Tok} {kk : Nat}, h.get? B = some { cls := .type "list", data := .seq #[.int k t, .ref l] kk } → h.get? l = some { cls := .type "list", data := .seq (List.toArray ws) kl } → ¬ V B → ¬ V l →
        RepD h V (.ref B) (.list [.int k, .list (seats.map .int)]) := fun {h V k t kk} e1 e2 n1 n2 =>
      RepD.list (vs := [.int k t, .ref l]) e1 rfl rfl n1 (.cons (.int k t) (.cons (RepD.list e2 rfl rfl n2 (repL_ints hw)) .nil))
    obtain ⟨d, hd, hdm, I, hs, hslot⟩ := rec_fn R (i := 30) (x := "_law_seated") (m := 2) (q := 2) (f := x_law_seated) rfl rfl rfl rfl
    have hps : ∃ p0 p1, parsOf d = [p0, p1] := by
      match parsOf d, hdm with
      | [p0, p1], _ => exact ⟨p0, p1, rfl⟩
    obtain ⟨p0, p1, hps⟩ := hps
    refine fn_enter (b := Bx.none) (ps := [.d (.list [.int n, .list (seats.map .int)]), dI m]) ok0 R.grd I (by rw [hdm]; rfl) rm H1 ⟨repB hB hl (fun q => ((inU1 _).mp q).2.1 rfl) (fun q => ((inU1 _).mp q).2.2 rfl), RepD.int m tm, trivial⟩ fun env h₁ tk U' E' HH1 vat keep inU => ?_
    rw [hs _ rfl] at HH1
    have hfst := seat_first
    have hcmp := seat_comp ad
    rw [hd] at hfst hcmp
    have hfst : d.body = seatS d.body := Option.some.inj hfst
    obtain ⟨c1, hcmp⟩ := Prod.mk.inj (Option.some.inj hcmp)
    obtain ⟨c2, hcmp⟩ := Prod.mk.inj hcmp
    obtain ⟨c3, hcmp⟩ := Prod.mk.inj hcmp
    obtain ⟨c4, hrest⟩ := Prod.mk.inj hcmp
    rw [hfst]
    unfold seatS
    generalize eNm (eSv (tgt d.body)) = y at c1 c4 ⊢
    generalize ePos (eSv (tgt d.body)) = yp
    generalize eSk (tgt d.body) = ke at c2 ⊢
    generalize vlu d.body = v at c3 ⊢
    generalize d.body.tail = rest at hrest ⊢
    -- which name it is
    have hy0 : y = p0 := by
      have := hslot 0 p0 (by rw [hps]; rfl)
      exact own_inj _ _ y p0 0 (cStore_some c1).1 this
    have vB : VarAt h₁ env y (.ref B) := by
      rw [hy0]
      exact vat p0 (.ref B) (by rw [hps]; exact .head _)
    have nUB : ¬ U' B := fun q => by
      rcases (inU B).mp q with q | q
      · exact ((inU1 _).mp q).2.1 rfl
      · rw [hB] at q; cases q.1
    have nUl : ¬ U' l := fun q => by
      rcases (inU l).mp q with q | q
      · exact ((inU1 _).mp q).2.2 rfl
      · rw [hl] at q; cases q.1
    have F0 : FnOk prog w (Bx.none.fl U1) h0 0 (fun _ _ _ _ => False) := fun a ps n Q h => h.elim
    have g := gA (prog := prog) (w := w) (b := Bx.none.fl U1) ok0.fl R.grd F0 (fun a ps n Q h => h.elim)
    refine wpAny_execs_cons (wpAny_Assign_Subscript ?_ (swaps_no fun _ _ q => by cases q))
    refine wpAny_mono ((g v _).ex _ c3 env _ _ n U' _ (fun p k => p = dI ((n : Int) + 1) ∧ k = n) _ HH1 (idx_l (k := 0) (by decide) rfl (by decide : 2 ≤ 2 ^ 24) (.inl ⟨rfl, rfl⟩))) (fun nv s₂ h₂ => ?_) fun _ _ e => e
    obtain ⟨_, n₂, k₂, r₂, rfl, rfl⟩ := h₂
    obtain ⟨tn, rfl⟩ := RepD.int_inv r₂
    have HH2 := HH1.step ok0.fl k₂
    have hk := cStore_some c1
    have hcv : cVar (fnSc d.scope (heldOf "_law_seated")) y = some 0 := by unfold cVar; rcases hk.2 with q | q <;> rw [q] <;> exact hk.1
    have vB2 : VarAt s₂.heap env y (.ref B) := by
      obtain ⟨h', tk', rfl, k⟩ := k₂
      exact vB.step ok0.fl HH1.hy.inv k
    refine name_var HH2.es c4 hcv vB2 ?_
    refine wpAny_mono ((g ke _).ex _ c2 env _ s₂ n₂ U' _ (fun p k => p = dI 0 ∧ k = n₂) _ HH2 ⟨rfl, rfl⟩) (fun iv s₃ h₃ => ?_) fun _ _ e => e
    obtain ⟨_, n₃, k₃, r₃, rfl, rfl⟩ := h₃
    obtain ⟨ti, rfl⟩ := RepD.int_inv r₃
    have HH3 := HH2.step ok0.fl k₃
    have get3 : ∀ c o, s.heap.get? c = some o → s₃.heap.get? c = some o := fun c o e => k₃.get id (k₂.get id (keep c o e))
    refine ki_setAt (items := #[.int n₃ t0, .ref l]) (n := kb) (get3 B _ hB) (by decide) (by decide) (by show (0 : Int) < ((2 : Nat) : Int); decide) ?_
    generalize h4e : s₃.heap.update B (Obj.mapSeq (·.setIfInBounds (0 : Int).toNat (.int ((n₃ : Int) + 1) tn))) = h4
    have hs4 : Heap.SameBut B s₃.heap h4 := by rw [← h4e]; exact Heap.SameBut.update ..
    have hB4 : h4.get? B = some { cls := .type "list", data := .seq #[.int ((n₃ : Int) + 1) tn, .ref l] kb } := by
      rw [← h4e]; exact PySem.IsL.update (n := kb) (get3 B _ hB) _
    have hl4 : h4.get? l = some { cls := .type "list", data := .seq (List.toArray ws) kl } := (hs4.2 l hBl.symm).trans (get3 l _ hl)
    have ne : ∀ c, U' c → c ≠ B := fun c q e => nUB (e ▸ q)
    have hns : ∀ {m : Str → Option Value}, s₃.heap.Ns env.locals m → h4.Ns env.locals m := fun ⟨o, es, ep, ho, r⟩ => ⟨o, es, ep, (hs4.2 _ (ne _ HH3.fr.uL)).trans ho, r⟩
    have hce : ∀ {z : Str} {c : Addr} {m : Option Value}, env.cells.lookup z = some c → s₃.heap.IsCell c m → h4.IsCell c m := fun hz ⟨o, ho, hd⟩ => ⟨o, (hs4.2 _ (ne _ (HH3.fr.uC _ _ hz))).trans ho, hd⟩
    have vst : ∀ {z : Str} {v : Value}, VarAt s₃.heap env z v → VarAt h4 env z v := fun q => by
      rcases q with ⟨hk, m, q, e⟩ | ⟨hk, c, hc, q⟩
      · exact .inl ⟨hk, m, hns q, e⟩
      · exact .inr ⟨hk, c, hc, hce hc q⟩
    have HH4 : HH (Bx.none.fl U1) h0 0 (fnSc d.scope (heldOf "_law_seated")) env (A.deeper env) { s₃ with heap := h4 } n₃ U' [some (.val (.d (.list [.int ((n₃ : Int) + 1), .list (seats.map .int)]))), some (.val (dI m))] := by
      obtain ⟨f, ef⟩ := HH3.ee
      refine ⟨HH3.rm, ⟨fun c o e => ?_, trivial, fun _ q => q.elim, fun c q => ?_, HH3.hy.new⟩, HH3.es, ⟨f, fun z j hz var hv => ?_, fun z z' i j l1 l2 _ _ q1 _ _ => ?_⟩, HH3.len, ⟨HH3.fr.ns.imp fun m => hns, fun x c e => (HH3.fr.cell x c e).imp fun v => hce e, HH3.fr.own, HH3.fr.inj, HH3.fr.uL, HH3.fr.uC⟩, HH3.wf, HH3.fl⟩
      · rw [hs4.2 c fun q => by
          subst q
          exact H.new _ o e (H.sub _ (.inl rfl))]
        exact HH3.hy.base c o e
      · obtain ⟨o, e⟩ := HH3.hy.off c q
        exact ⟨o, (hs4.2 c (ne c q)).trans e⟩
      · match j, hv with
        | 0, hv =>
          cases hv
          have hz0 : z = y := own_inj _ _ z y 0 hz hk.1
          obtain ⟨q1, _⟩ := ef.at_ z 0 hz _ rfl
          have vB3 : VarAt s₃.heap env z (.ref B) := by
            rw [hz0]
            obtain ⟨h', tk', rfl, k⟩ := k₃
            exact vB2.step ok0.fl HH2.hy.inv k
          rw [vat_uniq q1 vB3]
          exact ⟨vst vB3, repB hB4 hl4 nUB nUl⟩
        | 1, hv =>
          cases hv
          obtain ⟨q1, q2⟩ := ef.at_ z 1 hz _ rfl
          obtain ⟨t, e⟩ := RepD.int_inv q2
          rw [e] at q1 ⊢
          exact ⟨vst q1, RepD.int m t⟩
        | j + 2, hv => cases hv
      · match i, q1 with
        | 0, q1 => cases q1
        | 1, q1 => cases q1
        | i + 2, q1 => cases q1
    have hmp : 0 < m := by (first | lia | omega)
    refine wpAny_mono (gSs ok0 R.grd (fun a ps n Q h => h.elim) (fun a ps n Q h => h.elim) rest _ (seat_tail ad) hrest U1 env _ _ n₃ U' _ (fun _ _ => False) _ _ HH4 (seat_rest (fun _ _ _ _ => False) ad seats n₃ n₃ m hmp hlen)) (fun f s' h => ?_) fun _ _ e => e
    cases f with
    | next => obtain ⟨_, _, _, _, _, _, q⟩ := h; exact q.elim
    | ret v =>
      obtain ⟨p, _, k5, _, r5, rfl, rr, rfl, h1, h2⟩ := h
      have fin : ∀ c o, ¬ (bxS B l seats).set c → s.heap.get? c = some o → s'.heap.get? c = some o := fun c o nb e => by
        have nB : c ≠ B := fun q => nb (.inl q)
        have nl : c ≠ l := fun q => nb (.inr q)
        refine k5.get ?_ ((hs4.2 c nB).trans (get3 c o e))
        by_cases hu : U c
        · exact .inr ⟨(inU1 c).mpr ⟨hu, nB, nl⟩, id⟩
        · left; intro q
          rcases (inU c).mp q with q | q
          · exact hu ((inU1 c).mp q).1
          · rw [e] at q; cases q.1
      have hB5 := k5.get (.inl nUB) hB4
      have hl5 := k5.get (.inl nUl) hl4
      have same : ∃ h' tk', s' = { s with heap := h', toks := tk' } := by
        obtain ⟨h2, t2, rfl, _⟩ := k₂
        obtain ⟨h3, t3, rfl, _⟩ := k₃
        obtain ⟨h5, t5, rfl, _⟩ := k5
        exact ⟨h5, t5, rfl⟩
      obtain ⟨h', tk', rfl⟩ := same
      refine ⟨dI rr, _, ⟨h', tk', rfl, fin, ⟨tn, kb, ?_⟩, ws, ⟨kl, hl5⟩, repL_ints hw⟩, ?_, hQ rr h1 h2⟩
      · have : ∀ q : Nat, ((q + 1 : Nat) : Int) = (q : Int) + 1 := fun q => by (first | lia | omega)
        rw [this]; exact hB5
      · obtain ⟨t, e⟩ := RepD.int_inv r5
        have e : v = .int rr t := e
        rw [e]; exact RepD.int rr t
    | brk => exact h.elim
    | cont => exact h.elim
end

/-! ### a run of the small language, for written arguments -/
mutual
noncomputable def rnE (g : Addr → Addr) : Ex → Ex
  | .lit x => .lit x
  | .var i => .var i
  | .glob a => .glob (g a)
  | .bin o a b => .bin o (rnE g a) (rnE g b)
  | .rep es k => .rep (rnL g es) (rnE g k)
  | .cmp o a b => .cmp o (rnE g a) (rnR g b)
  | .not a => .not (rnE g a)
  | .neg a => .neg (rnE g a)
  | .and a b => .and (rnE g a) (rnE g b)
  | .or a b => .or (rnE g a) (rnE g b)
  | .ite c a b => .ite (rnT g c) (rnE g a) (rnE g b)
  | .tup l => .tup (rnL g l)
  | .lst l => .lst (rnL g l)
  | .idx a i => .idx (rnR g a) (rnE g i)
  | .slc a lo hi => .slc (rnE g a) (rnO g lo) (rnO g hi)
  | .call f l => .call (rnE g f) (rnL g l)
  | .bi b l => .bi b (rnL g l)
  | .bits a => .bits (rnE g a)
  | .comp k t s c e => .comp k t (rnS g s) (rnTO g c) (rnE g e)
noncomputable def rnL (g : Addr → Addr) : ExL → ExL
  | .nil => .nil
  | .cons a l => .cons (rnE g a) (rnL g l)
noncomputable def rnO (g : Addr → Addr) : ExO → ExO
  | .no => .no
  | .so a => .so (rnE g a)
noncomputable def rnT (g : Addr → Addr) : Ts → Ts
  | .val a => .val (rnE g a)
  | .not a => .not (rnT g a)
  | .and a b => .and (rnT g a) (rnT g b)
  | .or a b => .or (rnT g a) (rnT g b)
  | .ite c a b => .ite (rnT g c) (rnT g a) (rnT g b)
  | .cmp o a b => .cmp o (rnE g a) (rnR g b)
noncomputable def rnTO (g : Addr → Addr) : TsO → TsO
  | .no => .no
  | .so a => .so (rnT g a)
noncomputable def rnR (g : Addr → Addr) : Rd → Rd
  | .var i => .var i
  | .of a => .of (rnE g a)
noncomputable def rnS (g : Addr → Addr) : Src → Src
  | .rng l => .rng (rnL g l)
  | .zip a b => .zip (rnE g a) (rnE g b)
  | .enm a => .enm (rnE g a)
  | .of a => .of (rnE g a)
end
noncomputable def rnA (g : Addr → Addr) : List (Nat × Bool × Ex) → List (Nat × Bool × Ex)
  | [] => []
  | (i, b, e) :: r => (i, b, rnE g e) :: rnA g r
mutual
noncomputable def rnSt (g : Addr → Addr) : St → St
  | .asg t e => .asg t (rnE g e)
  | .asgs l => .asgs (rnA g l)
  | .new i e => .new i (rnE g e)
  | .mv i j => .mv i j
  | .aug i o e => .aug i o (rnE g e)
  | .app i e => .app i (rnE g e)
  | .ext i e => .ext i (rnE g e)
  | .set i k e => .set i (rnE g k) (rnE g e)
  | .ret e => .ret (rnE g e)
  | .iff c a b => .iff (rnT g c) (rnSL g a) (rnSL g b)
  | .whl c b => .whl (rnT g c) (rnSL g b)
  | .for t s b => .for t (rnS g s) (rnSL g b)
  | .drp e => .drp (rnE g e)
  | .fail => .fail
noncomputable def rnSL (g : Addr → Addr) : StL → StL
  | .nil => .nil
  | .cons a l => .cons (rnSt g a) (rnSL g l)
end
noncomputable def rV (g : Addr → Addr) : PV → PV
  | .d x => .d x
  | .fn a => .fn (g a)
  | .bench => .bench
noncomputable def rVar (g : Addr → Addr) : Option Var → Option Var
  | none => none
  | some (.val p) => some (.val (rV g p))
  | some (.own l) => some (.own l)
noncomputable def rEnv (g : Addr → Addr) (ρ : REnv) : REnv := ρ.map (rVar g)

section
variable {α : Type}
noncomputable def i2 (x y : PV) (F : Int → Int → Option α) : Option α := match x with
  | .d (.int a) => (match y with
    | .d (.int b) => F a b
    | _ => none)
  | _ => none
noncomputable def il2 (x y : PV) (F : List PyData → List PyData → Option α) : Option α := match x with
  | .d (.list a) => (match y with
    | .d (.list b) => F a b
    | _ => none)
  | _ => none
noncomputable def it2 (x y : PV) (F : List PyData → List PyData → Option α) : Option α := match x with
  | .d (.tuple a) => (match y with
    | .d (.tuple b) => F a b
    | _ => none)
  | _ => none
noncomputable def i1 (x : PV) (F : Int → Option α) : Option α := match x with
  | .d (.int a) => F a
  | _ => none
noncomputable def ib (x : PV) (F : Bool → Option α) : Option α := match x with
  | .d (.bool a) => F a
  | _ => none
noncomputable def il (x : PV) (F : List PyData → Option α) : Option α := match x with
  | .d (.list a) => F a
  | _ => none
noncomputable def it (x : PV) (F : List PyData → Option α) : Option α := match x with
  | .d (.tuple a) => F a
  | _ => none
variable {x y : PV} {z : α}
theorem i2_inv {F : Int → Int → Option α} (h : i2 x y F = some z) : ∃ a b, x = dI a ∧ y = dI b ∧ F a b = some z := by
  unfold i2 at h
  split at h
  · split at h
    · exact ⟨_, _, rfl, rfl, h⟩
    · cases h
  · cases h
theorem il2_inv {F : List PyData → List PyData → Option α} (h : il2 x y F = some z) : ∃ a b, x = .d (.list a) ∧ y = .d (.list b) ∧ F a b = some z := by
  unfold il2 at h
  split at h
  · split at h
    · exact ⟨_, _, rfl, rfl, h⟩
    · cases h
  · cases h
theorem it2_inv {F : List PyData → List PyData → Option α} (h : it2 x y F = some z) : ∃ a b, x = .d (.tuple a) ∧ y = .d (.tuple b) ∧ F a b = some z := by
  unfold it2 at h
  split at h
  · split at h
    · exact ⟨_, _, rfl, rfl, h⟩
    · cases h
  · cases h
theorem i1_inv {F : Int → Option α} (h : i1 x F = some z) : ∃ a, x = dI a ∧ F a = some z := by
  unfold i1 at h
  split at h
  · exact ⟨_, rfl, h⟩
  · cases h
theorem ib_inv {F : Bool → Option α} (h : ib x F = some z) : ∃ a, x = dB a ∧ F a = some z := by
  unfold ib at h
  split at h
  · exact ⟨_, rfl, h⟩
  · cases h
theorem il_inv {F : List PyData → Option α} (h : il x F = some z) : ∃ a, x = .d (.list a) ∧ F a = some z := by
  unfold il at h
  split at h
  · exact ⟨_, rfl, h⟩
  · cases h
theorem it_inv {F : List PyData → Option α} (h : it x F = some z) : ∃ a, x = .d (.tuple a) ∧ F a = some z := by
  unfold it at h
  split at h
  · exact ⟨_, rfl, h⟩
  · cases h
theorem or_inv {a b : Option α} (h : a.or b = some z) : a = some z ∨ b = some z := by
  cases a with
  | none => exact .inr h
  | some _ => exact .inl h
end

noncomputable def iBin (o : Operator) (x y : PV) : Option PV := match o with
  | .Add => (i2 x y fun a b => some (dI (a + b))).or ((il2 x y fun a b => sh (decide (a.length + b.length ≤ 2 ^ 20)) (some (.d (.list (a ++ b))))).or (it2 x y fun a b => sh (decide (b.length = 1 ∧ a.length ≤ 2 ^ 20)) (some (.d (.tuple (a ++ b))))))
  | .Sub => i2 x y fun a b => some (dI (a - b))
  | .Mult => i2 x y fun a b => sh (decide (a.natAbs < 2 ^ 31)) (some (dI (a * b)))
  | .FloorDiv => i2 x y fun a b => sh (decide (b ≠ 0 ∧ b.natAbs < 1073741824)) (some (dI (a.fdiv b)))
  | .Mod => i2 x y fun a b => sh (decide (b ≠ 0)) (some (dI (a.fmod b)))
  | .Pow => i2 x y fun a b => sh (decide (a.natAbs < 2 ^ 8 ∧ 0 ≤ b ∧ b < 2 ^ 8)) (some (dI (a ^ b.toNat)))
  | .BitAnd => i2 x y fun a b => some (dI (Builtin.bitAnd a b))
  | .BitOr => i2 x y fun a b => some (dI (Builtin.bitOr a b))
  | .BitXor => i2 x y fun a b => some (dI (Builtin.bitXor a b))
  | .LShift => i2 x y fun a b => sh (decide (0 ≤ b ∧ b < 2 ^ 8 ∧ a.natAbs < 2 ^ 31)) (some (dI (a * 2 ^ b.toNat)))
  | .RShift => i2 x y fun a b => sh (decide (0 ≤ b)) (some (dI (a.fdiv (2 ^ b.toNat))))
  | _ => none
theorem iBin_ok {g : Addr → Addr} {o : Operator} {x y z : PV} {Q : PV → Prop} (h : iBin o x y = some z) (q : Q (rV g z)) : binP o (rV g x) (rV g y) Q := by
  cases o <;> try (cases h; done)
  all_goals try
    obtain ⟨a, b, rfl, rfl, h⟩ := i2_inv h
    first
      | (cases h; exact q)
      | (obtain ⟨c, h⟩ := sh_inv h
         have c := of_decide_eq_true c
         cases h
         first | exact ⟨c, q⟩ | exact ⟨c.1, c.2, q⟩ | exact ⟨c.1, c.2.1, c.2.2, q⟩)
  rcases or_inv h with h | h
  · obtain ⟨a, b, rfl, rfl, h⟩ := i2_inv h
    cases h; exact .inl q
  rcases or_inv h with h | h
  · obtain ⟨a, b, rfl, rfl, h⟩ := il2_inv h
    obtain ⟨c, h⟩ := sh_inv h
    cases h; exact .inr (.inl ⟨of_decide_eq_true c, q⟩)
  · obtain ⟨a, b, rfl, rfl, h⟩ := it2_inv h
    obtain ⟨c, h⟩ := sh_inv h
    have c := of_decide_eq_true c
    cases h; exact .inr (.inr ⟨c.1, c.2, q⟩)

noncomputable def iCmp (o : CmpOp) (x y : PV) : Option Bool := match o with
  | .Lt => i2 x y fun a b => some (decide (a < b))
  | .LtE => i2 x y fun a b => some (decide (a ≤ b))
  | .Gt => i2 x y fun a b => some (decide (b < a))
  | .GtE => i2 x y fun a b => some (decide (b ≤ a))
  | .Eq => (pvDat x).bind fun a => (pvDat y).bind fun b => sh (okD a && okD b) (some (PyData.eqv a b))
  | .NotEq => (pvDat x).bind fun a => (pvDat y).bind fun b => sh (okD a && okD b) (some (!PyData.eqv a b))
  | .In => (pvDat x).bind fun a => (il y some).bind fun b => sh (okD a && okD (.list b)) (some (b.any fun y => PyData.eqv y a))
  | .NotIn => (pvDat x).bind fun a => ((il y some).or (it y some)).bind fun b => sh (okD a && okD (.list b)) (some (!b.any fun y => PyData.eqv y a))
  | _ => none
theorem pvDat_inv {x : PV} {a : PyData} (h : pvDat x = some a) : x = .d a := by
  unfold pvDat at h
  split at h
  · cases h; rfl
  · cases h
theorem pvDats_inv : ∀ {xs : List PV} {as : List PyData}, pvDats xs = some as → xs = as.map PV.d
  | [], as, h => by cases h; rfl
  | x :: xs, as, h => by
    unfold pvDats at h
    split at h
    · rename_i h1 h2
      cases h
      rw [pvDat_inv h1, pvDats_inv h2]; rfl
    · cases h
theorem pvDats_rn {g : Addr → Addr} {xs : List PV} {as : List PyData} (h : pvDats xs = some as) : pvDats (xs.map (rV g)) = some as := by
  rw [pvDats_inv h, List.map_map]
  have : ∀ as : List PyData, pvDats (as.map (rV g ∘ PV.d)) = some as := fun as => by
    induction as with
    | nil => rfl
    | cons a as ih =>
      rw [List.map_cons]
      unfold pvDats
      rw [ih]; rfl
  exact this as
theorem iCmp_ok {g : Addr → Addr} {o : CmpOp} {x y : PV} {z : Bool} {Q : Bool → Prop} (h : iCmp o x y = some z) (q : Q z) : cmpP o (rV g x) (rV g y) Q := by
  cases o <;> try (cases h; done)
  case Lt => obtain ⟨a, b, rfl, rfl, h⟩ := i2_inv h; cases h; exact q
  case LtE => obtain ⟨a, b, rfl, rfl, h⟩ := i2_inv h; cases h; exact q
  case Gt => obtain ⟨a, b, rfl, rfl, h⟩ := i2_inv h; cases h; exact q
  case GtE => obtain ⟨a, b, rfl, rfl, h⟩ := i2_inv h; cases h; exact q
  all_goals
    obtain ⟨a, h1, h⟩ := bd_inv h
    obtain ⟨b, h2, h⟩ := bd_inv h
    obtain ⟨c, h⟩ := sh_inv h
    obtain ⟨c1, c2⟩ := Bool.and_eq_true_iff.mp c
    cases h
    cases pvDat_inv h1
  · cases pvDat_inv h2; exact ⟨c1, c2, q⟩
  · cases pvDat_inv h2; exact ⟨c1, c2, q⟩
  · obtain ⟨l, rfl, h3⟩ := il_inv h2
    cases Option.some.inj h3; exact ⟨c1, c2, q⟩
  · rcases or_inv h2 with h2 | h2
    · obtain ⟨l, rfl, h3⟩ := il_inv h2
      cases Option.some.inj h3; exact ⟨c1, c2, q⟩
    · obtain ⟨l, rfl, h3⟩ := it_inv h2
      cases Option.some.inj h3; exact ⟨c1, c2, q⟩
noncomputable def iAt (l : List PyData) (k : Int) : Option PV := sh (decide (-(l.length : Int) ≤ k ∧ k < l.length ∧ l.length ≤ 2 ^ 24)) (l[(if k < 0 then k + l.length else k).toNat]?.map .d)
theorem iAt_ok {g : Addr → Addr} {l : List PyData} {k : Int} {z : PV} {Q : PV → Prop} (h : iAt l k = some z) (q : Q (rV g z)) : atP l k Q := by
  obtain ⟨c, h⟩ := sh_inv h
  have c := of_decide_eq_true c
  obtain ⟨y, h1, rfl⟩ := Option.map_eq_some_iff.mp h
  exact ⟨c.1, c.2.1, c.2.2, y, h1, q⟩
noncomputable def iIdx (x i : PV) : Option PV := i1 i fun k => (il x fun l => iAt l k).or (it x fun l => iAt l k)
theorem iIdx_ok {g : Addr → Addr} {x i z : PV} {Q : PV → Prop} (h : iIdx x i = some z) (q : Q (rV g z)) : idxP (rV g x) (rV g i) Q := by
  obtain ⟨k, rfl, h⟩ := i1_inv h
  rcases or_inv h with h | h
  · obtain ⟨l, rfl, h⟩ := il_inv h
    exact .inl (iAt_ok h q)
  · obtain ⟨l, rfl, h⟩ := it_inv h
    exact .inr (iAt_ok h q)
noncomputable def iSlc (x : PV) (lo hi : Option PV) : Option PV := il x fun l => sh (decide (l.length ≤ 2 ^ 20)) (match lo with
  | none => (match hi with
    | none => some (.d (.list l))
    | some h => i1 h fun k => sh (decide (0 ≤ k)) (some (.d (.list (l.take k.toNat)))))
  | some o => (match hi with
    | none => i1 o fun k => sh (decide (0 ≤ k)) (some (.d (.list (l.drop k.toNat))))
    | some _ => none))
theorem iSlc_ok {g : Addr → Addr} {x z : PV} {lo hi : Option PV} {Q : PV → Prop} (h : iSlc x lo hi = some z) (q : Q (rV g z)) : slcP (rV g x) (lo.map (rV g)) (hi.map (rV g)) Q := by
  obtain ⟨l, rfl, h⟩ := il_inv h
  obtain ⟨c, h⟩ := sh_inv h
  refine ⟨of_decide_eq_true c, ?_⟩
  cases lo with
  | none => cases hi with
    | none => cases h; exact q
    | some p =>
      obtain ⟨k, rfl, h⟩ := i1_inv h
      obtain ⟨c, h⟩ := sh_inv h
      cases h
      exact ⟨of_decide_eq_true c, q⟩
  | some p => cases hi with
    | none =>
      obtain ⟨k, rfl, h⟩ := i1_inv h
      obtain ⟨c, h⟩ := sh_inv h
      cases h
      exact ⟨of_decide_eq_true c, q⟩
    | some _ => cases h
noncomputable def a1 {α : Type} (xs : List PV) (F : PV → Option α) : Option α := match xs with
  | x :: r => (match r with
    | [] => F x
    | _ => none)
  | _ => none
theorem a1_inv {α : Type} {xs : List PV} {F : PV → Option α} {z : α} (h : a1 xs F = some z) : ∃ x, xs = [x] ∧ F x = some z := by
  unfold a1 at h
  split at h
  · split at h
    · exact ⟨_, rfl, h⟩
    · cases h
  · cases h
noncomputable def a2 {α : Type} (xs : List PV) (F : PV → PV → Option α) : Option α := match xs with
  | x :: r => a1 r (F x)
  | _ => none
theorem a2_inv {α : Type} {xs : List PV} {F : PV → PV → Option α} {z : α} (h : a2 xs F = some z) : ∃ x y, xs = [x, y] ∧ F x y = some z := by
  unfold a2 at h
  split at h
  · obtain ⟨y, rfl, h⟩ := a1_inv h
    exact ⟨_, y, rfl, h⟩
  · cases h
noncomputable def iBi (b : Bi) (xs : List PV) : Option PV := match b with
  | .len => a1 xs fun x => il x fun l => sh (decide (l.length ≤ 2 ^ 24)) (some (dI l.length))
  | .abs => a1 xs fun x => i1 x fun a => some (dI (if a < 0 then -a else a))
  | .int => a1 xs fun x => (i1 x fun a => some (dI a)).or (ib x fun a => some (dI (if a then 1 else 0)))
  | .max => a2 xs fun x y => i2 x y fun a b => some (dI (if b > a then b else a))
  | .sum => none
theorem iBi_ok {g : Addr → Addr} {b : Bi} {xs : List PV} {z : PV} {Q : PV → Prop} (h : iBi b xs = some z) (q : Q (rV g z)) : biP b (xs.map (rV g)) Q := by
  cases b with
  | len =>
    obtain ⟨x, rfl, h⟩ := a1_inv h
    obtain ⟨l, rfl, h⟩ := il_inv h
    obtain ⟨c, h⟩ := sh_inv h
    cases h
    exact ⟨of_decide_eq_true c, q⟩
  | abs =>
    obtain ⟨x, rfl, h⟩ := a1_inv h
    obtain ⟨l, rfl, h⟩ := i1_inv h
    cases h; exact q
  | int =>
    obtain ⟨x, rfl, h⟩ := a1_inv h
    rcases or_inv h with h | h
    · obtain ⟨l, rfl, h⟩ := i1_inv h
      cases h; exact .inl q
    · obtain ⟨l, rfl, h⟩ := ib_inv h
      cases h; exact .inr q
  | max =>
    obtain ⟨x, y, rfl, h⟩ := a2_inv h
    obtain ⟨a, b, rfl, rfl, h⟩ := i2_inv h
    cases h; exact q
  | sum => cases h
noncomputable def smallB (a : Int) : Bool := decide (a.natAbs < 2 ^ 30)
theorem smallB_ok {a : Int} (h : smallB a = true) : small a := of_decide_eq_true (p := a.natAbs < 2 ^ 30) h
noncomputable def iRng (xs : List PV) : Option (List PyData) :=
  (a1 xs fun x => i1 x fun b => sh (smallB b && decide (b ≤ 2 ^ 20)) (some (rngItems 0 1 (Builtin.Range.rangeSize 0 b 1).toNat))).or
  ((a2 xs fun x y => i2 x y fun a b => sh (smallB a && (smallB b && decide (b - a ≤ 2 ^ 20))) (some (rngItems a 1 (Builtin.Range.rangeSize a b 1).toNat))).or
  (match xs with
    | x :: r => a2 r fun y z => i2 x y fun a b => i1 z fun c => sh (smallB a && (smallB b && (smallB c && decide (c ≠ 0 ∧ Builtin.Range.rangeSize a b c ≤ 2 ^ 20)))) (some (rngItems a c (Builtin.Range.rangeSize a b c).toNat))
    | [] => none))
theorem iRng_ok {g : Addr → Addr} {xs : List PV} {z : List PyData} {Q : List PyData → Prop} (h : iRng xs = some z) (q : Q z) : rngP (xs.map (rV g)) Q := by
  have an : ∀ {a b : Bool}, (a && b) = true → a = true ∧ b = true := fun h => Bool.and_eq_true_iff.mp h
  rcases or_inv h with h | h
  · obtain ⟨x, rfl, h⟩ := a1_inv h
    obtain ⟨b, rfl, h⟩ := i1_inv h
    obtain ⟨c, h⟩ := sh_inv h
    cases h
    exact ⟨smallB_ok (an c).1, of_decide_eq_true (an c).2, q⟩
  rcases or_inv h with h | h
  · obtain ⟨x, y, rfl, h⟩ := a2_inv h
    obtain ⟨a, b, rfl, rfl, h⟩ := i2_inv h
    obtain ⟨c, h⟩ := sh_inv h
    cases h
    exact ⟨smallB_ok (an c).1, smallB_ok (an (an c).2).1, of_decide_eq_true (an (an c).2).2, q⟩
  · split at h
    · obtain ⟨y, z, rfl, h⟩ := a2_inv h
      obtain ⟨a, b, rfl, rfl, h⟩ := i2_inv h
      obtain ⟨d, rfl, h⟩ := i1_inv h
      obtain ⟨c, h⟩ := sh_inv h
      cases h
      have c4 := of_decide_eq_true (an (an (an c).2).2).2
      exact ⟨smallB_ok (an c).1, smallB_ok (an (an c).2).1, smallB_ok (an (an (an c).2).2).1, c4.1, c4.2, q⟩
    · cases h
noncomputable def iZip (x y : PV) : Option (List PyData) := il2 x y fun a b => sh (decide (a.length ≤ 2 ^ 20 ∧ b.length ≤ 2 ^ 20)) (some (zipItems a b))
theorem iZip_ok {g : Addr → Addr} {x y : PV} {z : List PyData} {Q : List PyData → Prop} (h : iZip x y = some z) (q : Q z) : zipP (rV g x) (rV g y) Q := by
  obtain ⟨a, b, rfl, rfl, h⟩ := il2_inv h
  obtain ⟨c, h⟩ := sh_inv h
  have c := of_decide_eq_true c
  cases h; exact .inl ⟨c.1, c.2, q⟩
noncomputable def iOf (x : PV) (f : List PyData → List PyData) : Option (List PyData) := il x fun a => sh (decide (a.length ≤ 2 ^ 20)) (some (f a))
noncomputable def iBind (t : Tg) (x : PyData) (ρ : REnv) : Option REnv := match t with
  | .one i => some (ρ.set i (some (.val (.d x))))
  | .tup is => it (.d x) fun xs => sh (decide (xs.length = is.length)) (some (setAll ρ is xs))
theorem rEnv_set {g : Addr → Addr} (ρ : REnv) (i : Nat) (v : Option Var) : rEnv g (ρ.set i v) = (rEnv g ρ).set i (rVar g v) := List.map_set
theorem rEnv_setAll {g : Addr → Addr} : ∀ (is : List Nat) (xs : List PyData) (ρ : REnv), rEnv g (setAll ρ is xs) = setAll (rEnv g ρ) is xs
  | [], xs, ρ => by unfold setAll; rfl
  | i :: is, [], ρ => by unfold setAll; rfl
  | i :: is, x :: xs, ρ => by
    unfold setAll
    rw [rEnv_setAll is xs, rEnv_set]; rfl
theorem iBind_ok {g : Addr → Addr} {t : Tg} {x : PyData} {ρ ρ' : REnv} {K : REnv → Prop} (h : iBind t x ρ = some ρ') (q : K (rEnv g ρ')) : bindT t x (rEnv g ρ) K := by
  cases t with
  | one i =>
    cases h
    rw [rEnv_set] at q
    exact q
  | tup is =>
    obtain ⟨xs, e, h⟩ := it_inv h
    cases e
    obtain ⟨c, h⟩ := sh_inv h
    cases h
    rw [rEnv_setAll] at q
    exact ⟨of_decide_eq_true c, q⟩
theorem rEnv_at {g : Addr → Addr} (ρ : REnv) (i : Nat) : varAt (rEnv g ρ) i = rVar g (varAt ρ i) := by
  unfold varAt rEnv
  rw [List.getElem?_map]
  cases ρ[i]? with
  | none => rfl
  | some v => rfl
theorem at_of {ρ : REnv} {i : Nat} {v : Var} (h : varAt ρ i = some v) : ρ[i]? = some (some v) := by
  unfold varAt at h
  cases e : ρ[i]? with
  | none => rw [e] at h; cases h
  | some v => rw [e] at h; cases v with
    | none => cases h
    | some v => cases h; rfl
theorem rEnv_comp {g : Addr → Addr} (ρ : REnv) (k : Nat) : rEnv g (ρ.map dropOwn ++ List.replicate k none) = (rEnv g ρ).map dropOwn ++ List.replicate k none := by
  unfold rEnv
  rw [List.map_append, List.map_replicate, List.map_map, List.map_map]
  congr 1
  refine List.map_congr_left fun v _ => ?_
  match v with
  | none => rfl
  | some (.val _) => rfl
  | some (.own _) => rfl
theorem rEnv_frz {g : Addr → Addr} (ρ : REnv) : rEnv g (ρ.map frz) = (rEnv g ρ).map frz := by
  unfold rEnv
  rw [List.map_map, List.map_map]
  refine List.map_congr_left fun v _ => ?_
  match v with
  | none => rfl
  | some (.val _) => rfl
  | some (.own _) => rfl
theorem rEnv_start {g : Addr → Addr} (ps : List PV) (k : Nat) : rEnv g (ps.map (fun p => some (Var.val p)) ++ List.replicate k none) = (ps.map (rV g)).map (fun p => some (Var.val p)) ++ List.replicate k none := by
  unfold rEnv
  rw [List.map_append, List.map_replicate, List.map_map, List.map_map]
  rfl

noncomputable def ad0 (x : Str) : Addr := names0.idxOf x
noncomputable def gOf (ad : Str → Addr) (a : Addr) : Addr := ad (names0.getD a "")
theorem bodies_rn (ad : Str → Addr) : bodies0.map (fun f => f ad) = bodies0.map (fun f => rnSL (gOf ad) (f ad0)) := by kernel_rfl
/-- where a statement ends -/
inductive IO1 where
  | nx (ρ : REnv)
  | rt (p : PV)

mutual
noncomputable def iE : Nat → Ex → REnv → Option PV
  | 0, _, _ => none
  | k + 1, e, ρ => match e with
    | .lit x => some (.d x)
    | .var i => (varAt ρ i).bind fun v => match v with
      | .val p => some p
      | .own _ => none
    | .glob a => some (.fn a)
    | .bin o a b => (iE k a ρ).bind fun x => (iE k b ρ).bind fun y => iBin o x y
    | .rep es n => (iL k es ρ).bind fun xs => (iE k n ρ).bind fun y => (pvDats xs).bind fun xs => i1 y fun k => sh (decide (-2 ^ 20 ≤ k ∧ k ≤ 2 ^ 20 ∧ xs.length = 1)) (some (.d (.list (List.replicate k.toNat xs).flatten)))
    | .cmp o a b => (iE k a ρ).bind fun x => (iR k b ρ).bind fun y => (iCmp o x y).bind fun z => some (dB z)
    | .not a => (iE k a ρ).bind fun x => ib x fun b => some (dB (!b))
    | .neg a => (iE k a ρ).bind fun x => i1 x fun b => some (dI (-b))
    | .and a b => (iE k a ρ).bind fun x => ib x fun c => match c with
      | true => iE k b ρ
      | false => some x
    | .or a b => (iE k a ρ).bind fun x => ib x fun c => match c with
      | true => some x
      | false => iE k b ρ
    | .ite c a b => (iT k c ρ).bind fun t => match t with
      | true => iE k a ρ
      | false => iE k b ρ
    | .tup l => (iL k l ρ).bind fun xs => (pvDats xs).bind fun ys => some (.d (.tuple ys))
    | .lst l => (iL k l ρ).bind fun xs => (pvDats xs).bind fun ys => some (.d (.list ys))
    | .idx a i => (iR k a ρ).bind fun x => (iE k i ρ).bind fun y => iIdx x y
    | .slc a lo hi => (iE k a ρ).bind fun x => (iO k lo ρ).bind fun l => (iO k hi ρ).bind fun h => iSlc x l h
    | .call f l => (iE k f ρ).bind fun g => (iL k l ρ).bind fun xs => match g with
      | .fn a => iCall k a xs
      | _ => none
    | .bi b l => (iL k l ρ).bind fun xs => iBi b xs
    | .bits a => (iE k a ρ).bind fun x => i1 x fun a => some (dI (Builtin.Int.intBits a))
    | .comp m t s c e => (iS k s ρ).bind fun xs => (iC k t c e (ρ.map dropOwn ++ List.replicate m none) xs []).bind fun ys => some (.d (.list ys))
noncomputable def iL : Nat → ExL → REnv → Option (List PV)
  | 0, _, _ => none
  | k + 1, l, ρ => match l with
    | .nil => some []
    | .cons a l => (iE k a ρ).bind fun x => (iL k l ρ).bind fun xs => some (x :: xs)
noncomputable def iO : Nat → ExO → REnv → Option (Option PV)
  | 0, _, _ => none
  | k + 1, e, ρ => match e with
    | .no => some none
    | .so a => (iE k a ρ).bind fun x => some (some x)
noncomputable def iT : Nat → Ts → REnv → Option Bool
  | 0, _, _ => none
  | k + 1, t, ρ => match t with
    | .not a => (iT k a ρ).bind fun b => some (!b)
    | .and a b => (iT k a ρ).bind fun c => match c with
      | true => iT k b ρ
      | false => some false
    | .or a b => (iT k a ρ).bind fun c => match c with
      | true => some true
      | false => iT k b ρ
    | .ite c a b => (iT k c ρ).bind fun c => match c with
      | true => iT k a ρ
      | false => iT k b ρ
    | .cmp o a b => (iE k a ρ).bind fun x => (iR k b ρ).bind fun y => iCmp o x y
    | .val e => (iE k e ρ).bind fun x => ib x some
noncomputable def iTO : Nat → TsO → REnv → Option Bool
  | 0, _, _ => none
  | k + 1, t, ρ => match t with
    | .no => some true
    | .so a => iT k a ρ
noncomputable def iR : Nat → Rd → REnv → Option PV
  | 0, _, _ => none
  | k + 1, e, ρ => match e with
    | .var i => (varAt ρ i).bind fun v => match v with
      | .val p => some p
      | .own l => some (.d (.list l))
    | .of e => iE k e ρ
noncomputable def iS : Nat → Src → REnv → Option (List PyData)
  | 0, _, _ => none
  | k + 1, s, ρ => match s with
    | .rng l => (iL k l ρ).bind fun xs => iRng xs
    | .zip a b => (iE k a ρ).bind fun x => (iE k b ρ).bind fun y => iZip x y
    | .enm a => (iE k a ρ).bind fun x => iOf x (enmFrom 0)
    | .of a => (iE k a ρ).bind fun x => iOf x id
noncomputable def iC : Nat → Tg → TsO → Ex → REnv → List PyData → List PyData → Option (List PyData)
  | 0, _, _, _, _, _, _ => none
  | k + 1, t, c, e, ρ, xs, acc => match xs with
    | [] => some acc
    | x :: xs => (iBind t x ρ).bind fun ρ' => (iTO k c ρ').bind fun b => match b with
      | true => (iE k e ρ').bind fun p => (pvDat p).bind fun y => iC k t c e ρ xs (acc ++ [y])
      | false => iC k t c e ρ xs acc
noncomputable def iCall : Nat → Addr → List PV → Option PV
  | 0, _, _ => none
  | k + 1, a, ps => (names0[a]?).bind fun _ => (arity0[a]?).bind fun m => (nown0[a]?).bind fun q => (bodies0[a]?).bind fun f =>
    sh (ps.length == m) ((iSL k (f ad0) (ps.map (fun p => some (Var.val p)) ++ List.replicate (q - m) none)).bind fun o => match o with
      | .nx _ => some (.d .none)
      | .rt p => some p)
noncomputable def iA : Nat → REnv → List (Nat × Bool × Ex) → REnv → Option REnv
  | 0, _, _, _ => none
  | k + 1, ρ, l, ρ' => match l with
    | [] => some ρ'
    | (i, b, e) :: r => (iE k e ρ).bind fun x => match b with
      | true => il x fun l => iA k ρ r (ρ'.set i (some (.own l)))
      | false => (pvDat x).bind fun x => iA k ρ r (ρ'.set i (some (.val (.d x))))
noncomputable def iSt : Nat → St → REnv → Option IO1
  | 0, _, _ => none
  | k + 1, s, ρ => match s with
    | .asg t e => (iE k e ρ).bind fun x => (pvDat x).bind fun x => (iBind t x ρ).bind fun ρ => some (.nx ρ)
    | .asgs l => (iA k ρ l ρ).bind fun ρ => some (.nx ρ)
    | .new i e => (iE k e ρ).bind fun x => il x fun l => some (.nx (ρ.set i (some (.own l))))
    | .mv i j => (varAt ρ j).bind fun v => match v with
      | .own l => some (.nx ((ρ.set j none).set i (some (.val (.d (.list l))))))
      | .val p => some (.nx (ρ.set i (some (.val p))))
    | .aug i o e => (varAt ρ i).bind fun v => match v with
      | .val x => (iE k e ρ).bind fun y => sh (o == .Add || o == .Sub || o == .RShift) (i2 x y fun a b => (iBin o (dI a) (dI b)).bind fun z => some (.nx (ρ.set i (some (.val z)))))
      | .own _ => none
    | .app i e => (varAt ρ i).bind fun v => match v with
      | .own l => (iE k e ρ).bind fun y => (pvDat y).bind fun y => sh (decide (l.length ≤ 2 ^ 20)) (some (.nx (ρ.set i (some (.own (l ++ [y]))))))
      | .val _ => none
    | .ext i e => (varAt ρ i).bind fun v => match v with
      | .own l => (iE k e ρ).bind fun y => il y fun ys => sh (decide (l.length + ys.length ≤ 2 ^ 20)) (some (.nx (ρ.set i (some (.own (l ++ ys))))))
      | .val _ => none
    | .set i n e => (varAt ρ i).bind fun v => match v with
      | .own l => (iE k e ρ).bind fun v => (iE k n ρ).bind fun n => (pvDat v).bind fun v => i1 n fun n => sh (decide (0 ≤ n ∧ n < l.length ∧ l.length ≤ 2 ^ 20)) (some (.nx (ρ.set i (some (.own (l.set n.toNat v))))))
      | .val _ => none
    | .ret e => (iE k e (ρ.map frz)).bind fun p => some (.rt p)
    | .iff c a b => (iT k c ρ).bind fun t => match t with
      | true => iSL k a ρ
      | false => iSL k b ρ
    | .whl c b => iW k c b ρ
    | .for t s b => (iS k s ρ).bind fun xs => iF k t b xs ρ
    | .drp e => (iE k e ρ).bind fun x => match x with
      | .d .none => some (.nx ρ)
      | _ => none
    | .fail => none
noncomputable def iSL : Nat → StL → REnv → Option IO1
  | 0, _, _ => none
  | k + 1, s, ρ => match s with
    | .nil => some (.nx ρ)
    | .cons a l => (iSt k a ρ).bind fun o => match o with
      | .nx ρ => iSL k l ρ
      | .rt p => some (.rt p)
noncomputable def iW : Nat → Ts → StL → REnv → Option IO1
  | 0, _, _, _ => none
  | k + 1, c, b, ρ => (iT k c ρ).bind fun t => match t with
    | true => (iSL k b ρ).bind fun o => match o with
      | .nx ρ => iW k c b ρ
      | .rt p => some (.rt p)
    | false => some (.nx ρ)
noncomputable def iF : Nat → Tg → StL → List PyData → REnv → Option IO1
  | 0, _, _, _, _ => none
  | k + 1, t, b, xs, ρ => match xs with
    | [] => some (.nx ρ)
    | x :: xs => (iBind t x ρ).bind fun ρ => (iSL k b ρ).bind fun o => match o with
      | .nx ρ => iF k t b xs ρ
      | .rt p => some (.rt p)
end

noncomputable def fact (n w : Int) : Option PV := iCall 100 17 [dI n, dI w, .fn 23]
example : fact 3 3 = some (.d (.list [.int 6])) := by kernel_rfl
example : iCall 100 33 [dI 2] = some (.d (.list [.tuple [.int 0, .int 1], .tuple [.int 1, .int 0]])) := by kernel_rfl

noncomputable def endP (g : Addr → Addr) (o : IO1) (n : Nat) (N : REnv → Nat → Prop) (R : PV → Nat → Prop) : Prop := match o with
  | .nx ρ => N (rEnv g ρ) n
  | .rt p => R (rV g p) n
/-- a run says what the meaning is, at fuel k -/
structure Snd (ad : Str → Addr) (Z : Spec) (k : Nat) : Prop where
  e : ∀ e ρ v, iE k e ρ = some v → ∀ j, k ≤ j → ∀ n Q, Q (rV (gOf ad) v) n → evP (SL ad Z j) (rnE (gOf ad) e) (rEnv (gOf ad) ρ) n Q
  l : ∀ e ρ v, iL k e ρ = some v → ∀ j, k ≤ j → ∀ n Q, Q (v.map (rV (gOf ad))) n → evLP (SL ad Z j) (rnL (gOf ad) e) (rEnv (gOf ad) ρ) n Q
  o : ∀ e ρ v, iO k e ρ = some v → ∀ j, k ≤ j → ∀ n Q, Q (v.map (rV (gOf ad))) n → evOP (SL ad Z j) (rnO (gOf ad) e) (rEnv (gOf ad) ρ) n Q
  r : ∀ e ρ v, iR k e ρ = some v → ∀ j, k ≤ j → ∀ n Q, Q (rV (gOf ad) v) n → rdP (SL ad Z j) (rnR (gOf ad) e) (rEnv (gOf ad) ρ) n Q
  t : ∀ e ρ v, iT k e ρ = some v → ∀ j, k ≤ j → ∀ n Q, Q v n → tsP (SL ad Z j) (rnT (gOf ad) e) (rEnv (gOf ad) ρ) n Q
  u : ∀ e ρ v, iTO k e ρ = some v → ∀ j, k ≤ j → ∀ n Q, Q v n → tsOP (SL ad Z j) (rnTO (gOf ad) e) (rEnv (gOf ad) ρ) n Q
  s : ∀ e ρ v, iS k e ρ = some v → ∀ j, k ≤ j → ∀ n Q, Q v n → srcP (SL ad Z j) (rnS (gOf ad) e) (rEnv (gOf ad) ρ) n Q
  c : ∀ t c e ρ xs acc v, iC k t c e ρ xs acc = some v → ∀ j, k ≤ j → ∀ n Q, Q v n → compG (fun ρ n Q => tsOP (SL ad Z j) (rnTO (gOf ad) c) ρ n Q) (fun ρ n Q => evP (SL ad Z j) (rnE (gOf ad) e) ρ n Q) t (rEnv (gOf ad) ρ) xs acc n Q
  f : ∀ a ps p, iCall k a ps = some p → ∀ j, k ≤ j → ∀ n Q, Q (rV (gOf ad) p) n → SL ad Z j (gOf ad a) (ps.map (rV (gOf ad))) n Q
  a : ∀ ρ l ρ' ρ'', iA k ρ l ρ' = some ρ'' → ∀ j, k ≤ j → ∀ n N, N (rEnv (gOf ad) ρ'') n → asgsP (SL ad Z j) (rEnv (gOf ad) ρ) (rnA (gOf ad) l) (rEnv (gOf ad) ρ') n N
  st : ∀ x ρ o, iSt k x ρ = some o → ∀ j, k ≤ j → ∀ n N R, endP (gOf ad) o n N R → exP (SL ad Z j) (rnSt (gOf ad) x) (rEnv (gOf ad) ρ) n N R
  sl : ∀ x ρ o, iSL k x ρ = some o → ∀ j, k ≤ j → ∀ n N R, endP (gOf ad) o n N R → exLP (SL ad Z j) (rnSL (gOf ad) x) (rEnv (gOf ad) ρ) n N R
  w : ∀ c b ρ o, iW k c b ρ = some o → ∀ j, k ≤ j → ∀ n N R, endP (gOf ad) o n N R → ∃ m, whG (fun ρ n Q => tsP (SL ad Z j) (rnT (gOf ad) c) ρ n Q) (fun ρ n N R => exLP (SL ad Z j) (rnSL (gOf ad) b) ρ n N R) m (rEnv (gOf ad) ρ) n N R
  fr : ∀ t b xs ρ o, iF k t b xs ρ = some o → ∀ j, k ≤ j → ∀ n N R, endP (gOf ad) o n N R → forG (fun ρ n N R => exLP (SL ad Z j) (rnSL (gOf ad) b) ρ n N R) t xs (rEnv (gOf ad) ρ) n N R

section
variable {ad : Str → Addr} {Z : Spec} {k : Nat}
theorem snd_zero : Snd ad Z 0 :=
  ⟨fun _ _ _ h => (nomatch h), fun _ _ _ h => (nomatch h), fun _ _ _ h => (nomatch h), fun _ _ _ h => (nomatch h), fun _ _ _ h => (nomatch h), fun _ _ _ h => (nomatch h), fun _ _ _ h => (nomatch h), fun _ _ _ _ _ _ _ h => (nomatch h),
   fun _ _ _ h => (nomatch h), fun _ _ _ _ h => (nomatch h), fun _ _ _ h => (nomatch h), fun _ _ _ h => (nomatch h), fun _ _ _ _ h => (nomatch h), fun _ _ _ _ _ h => (nomatch h)⟩

/-- bind, told on -/
theorem bk {α β : Type} {C : Prop} {a : Option β} {f : β → Option α} {z : α} (h : a.bind f = some z) (k : ∀ y, a = some y → f y = some z → C) : C := by
  cases a with
  | none => cases h
  | some y => exact k y rfl h
theorem sk {α : Type} {C : Prop} {c : Bool} {o : Option α} {z : α} (h : sh c o = some z) (k : c = true → o = some z → C) : C := k (sh_inv h).1 (sh_inv h).2
theorem rd1 {g : Addr → Addr} {x : PV} {α : Type} {F : Int → Option α} {z : α} {G : Int → Prop} (h : i1 x F = some z) (k : ∀ a, F a = some z → G a) : int1 (rV g x) G := by
  obtain ⟨a, rfl, h⟩ := i1_inv h
  exact k a h
theorem rdb {g : Addr → Addr} {x : PV} {α : Type} {F : Bool → Option α} {z : α} {G : Bool → Prop} (h : ib x F = some z) (k : ∀ a, F a = some z → G a) : bool1 (rV g x) G := by
  obtain ⟨a, rfl, h⟩ := ib_inv h
  exact k a h
theorem rdl {g : Addr → Addr} {x : PV} {α : Type} {F : List PyData → Option α} {z : α} {G : List PyData → Prop} (h : il x F = some z) (k : ∀ a, F a = some z → G a) : list1 (rV g x) G := by
  obtain ⟨a, rfl, h⟩ := il_inv h
  exact k a h
theorem so {g : Addr → Addr} {x v : PV} {n : Nat} {Q : PV → Nat → Prop} (h : some x = some v) (q : Q (rV g v) n) : Q (rV g x) n := by
  rw [Option.some.inj h]; exact q
theorem so' {α : Type} {x v : α} {n : Nat} {Q : α → Nat → Prop} (h : some x = some v) (q : Q v n) : Q x n := by
  rw [Option.some.inj h]; exact q
theorem dats {g : Addr → Addr} {xs : List PV} {α : Type} {F : List PyData → Option α} {z : α} {G : List PyData → Prop} (h : (pvDats xs).bind F = some z) (k : ∀ a, F a = some z → G a) : (match pvDats (xs.map (rV g)) with | some ys => G ys | none => False) := by
  obtain ⟨ys, h1, h⟩ := bd_inv h
  rw [pvDats_rn h1]
  exact k ys h
theorem ofk {g : Addr → Addr} {x : PV} {f : List PyData → List PyData} {v : List PyData} {n : Nat} {Q : List PyData → Nat → Prop} (h : iOf x f = some v) (q : Q v n) : list1 (rV g x) fun a => a.length ≤ 2 ^ 20 ∧ Q (f a) n :=
  rdl h fun a h => sk h fun c h => ⟨of_decide_eq_true c, so' h q⟩

theorem rEnv_get {g : Addr → Addr} {ρ : REnv} {i : Nat} {w : Var} (h : varAt ρ i = some w) : (rEnv g ρ)[i]? = some (rVar g (some w)) := by
  unfold rEnv
  rw [List.getElem?_map, at_of h]; rfl

theorem snd_e (I : Snd ad Z k) (e : Ex) (ρ : REnv) (v : PV) (h : iE (k + 1) e ρ = some v) (j : Nat) (hj : k + 1 ≤ j) (n : Nat) (Q : PV → Nat → Prop) (q : Q (rV (gOf ad) v) n) : evP (SL ad Z j) (rnE (gOf ad) e) (rEnv (gOf ad) ρ) n Q := by
  have hj : k ≤ j := by (first | lia | omega)
  cases e with
  | lit x => exact so (Q := Q) h q
  | var i =>
    refine bk h fun w h1 h => ?_
    cases w with
    | own l => cases h
    | val p =>
      have e := rEnv_get (g := gOf ad) h1
      show (match (rEnv (gOf ad) ρ)[i]? with | some (some (.val p)) => Q p n | _ => False)
      rw [e]
      exact so h q
  | glob a => exact so (Q := Q) h q
  | bin o a b => exact bk h fun x h1 h => bk h fun y h2 h => I.e _ _ _ h1 j hj n _ (I.e _ _ _ h2 j hj n _ (iBin_ok h q))
  | rep es m => exact bk h fun x h1 h => bk h fun y h2 h => I.l _ _ _ h1 j hj n _ (I.e _ _ _ h2 j hj n _ (dats h fun a h => rd1 h fun c h => sk h fun d h => ⟨(of_decide_eq_true d).1, (of_decide_eq_true d).2.1, (of_decide_eq_true d).2.2, so h q⟩))
  | cmp o a b => exact bk h fun x h1 h => bk h fun y h2 h => bk h fun z h3 h => I.e _ _ _ h1 j hj n _ (I.r _ _ _ h2 j hj n _ (iCmp_ok h3 (so (x := dB z) h q)))
  | not a => exact bk h fun x h1 h => I.e _ _ _ h1 j hj n _ (rdb h fun c h => so (x := dB (!c)) h q)
  | neg a => exact bk h fun x h1 h => I.e _ _ _ h1 j hj n _ (rd1 h fun c h => so (x := dI (-c)) h q)
  | and a b =>
    exact bk h fun x h1 h => I.e _ _ _ h1 j hj n _ (rdb h fun c h => match c, h with
      | true, h => I.e _ _ _ h j hj n _ q
      | false, h => so h q)
  | or a b =>
    exact bk h fun x h1 h => I.e _ _ _ h1 j hj n _ (rdb h fun c h => match c, h with
      | false, h => I.e _ _ _ h j hj n _ q
      | true, h => so h q)
  | ite c a b =>
    exact bk h fun x h1 h => I.t _ _ _ h1 j hj n _ (match x, h with
      | true, h => I.e _ _ _ h j hj n _ q
      | false, h => I.e _ _ _ h j hj n _ q)
  | tup l => exact bk h fun x h1 h => I.l _ _ _ h1 j hj n _ (dats h fun a h => so (x := .d (.tuple a)) h q)
  | lst l => exact bk h fun x h1 h => I.l _ _ _ h1 j hj n _ (dats h fun a h => so (x := .d (.list a)) h q)
  | idx a i => exact bk h fun x h1 h => bk h fun y h2 h => I.r _ _ _ h1 j hj n _ (I.e _ _ _ h2 j hj n _ (iIdx_ok h q))
  | slc a lo hi => exact bk h fun x h1 h => bk h fun y h2 h => bk h fun z h3 h => I.e _ _ _ h1 j hj n _ (I.o _ _ _ h2 j hj n _ (I.o _ _ _ h3 j hj n _ (iSlc_ok h q)))
  | call f l =>
    exact bk h fun x h1 h => bk h fun xs h2 h => I.e _ _ _ h1 j hj n _ (I.l _ _ _ h2 j hj n _ (match x, h with
      | .fn a, h => I.f _ _ _ h j hj n _ q))
  | bi b l => exact bk h fun x h1 h => I.l _ _ _ h1 j hj n _ (iBi_ok h q)
  | bits a => exact bk h fun x h1 h => I.e _ _ _ h1 j hj n _ (rd1 h fun c h => so (x := dI (Builtin.Int.intBits c)) h q)
  | comp m t s c e =>
    refine bk h fun xs h1 h => bk h fun ys h2 h => I.s _ _ _ h1 j hj n _ ?_
    have := I.c _ _ _ _ _ _ _ h2 j hj n (fun ys n => Q (.d (.list ys)) n) (so (x := .d (.list ys)) h q)
    rw [rEnv_comp] at this
    exact this
theorem snd_l (I : Snd ad Z k) (e : ExL) (ρ : REnv) (v : List PV) (h : iL (k + 1) e ρ = some v) (j : Nat) (hj : k + 1 ≤ j) (n : Nat) (Q : List PV → Nat → Prop) (q : Q (v.map (rV (gOf ad))) n) : evLP (SL ad Z j) (rnL (gOf ad) e) (rEnv (gOf ad) ρ) n Q := by
  have hj : k ≤ j := by (first | lia | omega)
  cases e with
  | nil => cases Option.some.inj h; exact q
  | cons a l =>
    refine bk h fun x h1 h => bk h fun xs h2 h => I.e _ _ _ h1 j hj n _ (I.l _ _ _ h2 j hj n _ ?_)
    cases Option.some.inj h; exact q
theorem snd_o (I : Snd ad Z k) (e : ExO) (ρ : REnv) (v : Option PV) (h : iO (k + 1) e ρ = some v) (j : Nat) (hj : k + 1 ≤ j) (n : Nat) (Q : Option PV → Nat → Prop) (q : Q (v.map (rV (gOf ad))) n) : evOP (SL ad Z j) (rnO (gOf ad) e) (rEnv (gOf ad) ρ) n Q := by
  have hj : k ≤ j := by (first | lia | omega)
  cases e with
  | no => cases Option.some.inj h; exact q
  | so a =>
    refine bk h fun x h1 h => I.e _ _ _ h1 j hj n _ ?_
    cases Option.some.inj h; exact q
theorem snd_r (I : Snd ad Z k) (e : Rd) (ρ : REnv) (v : PV) (h : iR (k + 1) e ρ = some v) (j : Nat) (hj : k + 1 ≤ j) (n : Nat) (Q : PV → Nat → Prop) (q : Q (rV (gOf ad) v) n) : rdP (SL ad Z j) (rnR (gOf ad) e) (rEnv (gOf ad) ρ) n Q := by
  cases e with
  | var i =>
    refine bk h fun w h1 h => ?_
    have e := rEnv_get (g := gOf ad) h1
    show (match (rEnv (gOf ad) ρ)[i]? with | some (some (.val p)) => Q p n | some (some (.own l)) => Q (.d (.list l)) n | _ => False)
    rw [e]
    cases w with
    | own l => exact so (x := .d (.list l)) h q
    | val p => exact so h q
  | of a => exact I.e _ _ _ h j (by (first | lia | omega)) n _ q
theorem snd_t (I : Snd ad Z k) (e : Ts) (ρ : REnv) (v : Bool) (h : iT (k + 1) e ρ = some v) (j : Nat) (hj : k + 1 ≤ j) (n : Nat) (Q : Bool → Nat → Prop) (q : Q v n) : tsP (SL ad Z j) (rnT (gOf ad) e) (rEnv (gOf ad) ρ) n Q := by
  have hj : k ≤ j := by (first | lia | omega)
  cases e with
  | val a => exact bk h fun x h1 h => I.e _ _ _ h1 j hj n _ (rdb h fun c h => so' h q)
  | not a => exact bk h fun x h1 h => I.t _ _ _ h1 j hj n _ (so' h q)
  | and a b =>
    exact bk h fun x h1 h => I.t _ _ _ h1 j hj n _ (match x, h with
      | true, h => I.t _ _ _ h j hj n _ q
      | false, h => so' h q)
  | or a b =>
    exact bk h fun x h1 h => I.t _ _ _ h1 j hj n _ (match x, h with
      | false, h => I.t _ _ _ h j hj n _ q
      | true, h => so' h q)
  | ite c a b =>
    exact bk h fun x h1 h => I.t _ _ _ h1 j hj n _ (match x, h with
      | true, h => I.t _ _ _ h j hj n _ q
      | false, h => I.t _ _ _ h j hj n _ q)
  | cmp o a b => exact bk h fun x h1 h => bk h fun y h2 h => I.e _ _ _ h1 j hj n _ (I.r _ _ _ h2 j hj n _ (iCmp_ok (Q := fun z => Q z n) h q))
theorem snd_u (I : Snd ad Z k) (e : TsO) (ρ : REnv) (v : Bool) (h : iTO (k + 1) e ρ = some v) (j : Nat) (hj : k + 1 ≤ j) (n : Nat) (Q : Bool → Nat → Prop) (q : Q v n) : tsOP (SL ad Z j) (rnTO (gOf ad) e) (rEnv (gOf ad) ρ) n Q := by
  cases e with
  | no => exact so' (Q := Q) h q
  | so a => exact I.t _ _ _ h j (by (first | lia | omega)) n _ q
theorem snd_s (I : Snd ad Z k) (e : Src) (ρ : REnv) (v : List PyData) (h : iS (k + 1) e ρ = some v) (j : Nat) (hj : k + 1 ≤ j) (n : Nat) (Q : List PyData → Nat → Prop) (q : Q v n) : srcP (SL ad Z j) (rnS (gOf ad) e) (rEnv (gOf ad) ρ) n Q := by
  have hj : k ≤ j := by (first | lia | omega)
  cases e with
  | rng l => exact bk h fun x h1 h => I.l _ _ _ h1 j hj n _ (iRng_ok (Q := fun z => Q z n) h q)
  | zip a b => exact bk h fun x h1 h => bk h fun y h2 h => I.e _ _ _ h1 j hj n _ (I.e _ _ _ h2 j hj n _ (iZip_ok (Q := fun z => Q z n) h q))
  | enm a => exact bk h fun x h1 h => I.e _ _ _ h1 j hj n _ (ofk h q)
  | of a => exact bk h fun x h1 h => I.e _ _ _ h1 j hj n _ (ofk h q)
theorem snd_c (I : Snd ad Z k) (t : Tg) (c : TsO) (e : Ex) (ρ : REnv) (xs acc v : List PyData) (h : iC (k + 1) t c e ρ xs acc = some v) (j : Nat) (hj : k + 1 ≤ j) (n : Nat) (Q : List PyData → Nat → Prop) (q : Q v n) :
    compG (fun ρ n Q => tsOP (SL ad Z j) (rnTO (gOf ad) c) ρ n Q) (fun ρ n Q => evP (SL ad Z j) (rnE (gOf ad) e) ρ n Q) t (rEnv (gOf ad) ρ) xs acc n Q := by
  have hj : k ≤ j := by (first | lia | omega)
  cases xs with
  | nil => exact so' (Q := Q) h q
  | cons x xs =>
    exact bk h fun ρ' h1 h => bk h fun b h2 h => iBind_ok h1 (I.u _ _ _ h2 j hj n _ (match b, h with
      | true, h => bk h fun p h3 h => bk h fun y h4 h => I.e _ _ _ h3 j hj n _ (by cases pvDat_inv h4; exact I.c _ _ _ _ _ _ _ h j hj n _ q)
      | false, h => I.c _ _ _ _ _ _ _ h j hj n _ q))
theorem snd_f (I : Snd ad Z k) (a : Addr) (ps : List PV) (p : PV) (h : iCall (k + 1) a ps = some p) (j : Nat) (hj : k + 1 ≤ j) (n : Nat) (Q : PV → Nat → Prop) (q : Q (rV (gOf ad) p) n) : SL ad Z j (gOf ad a) (ps.map (rV (gOf ad))) n Q := by
  match j, hj with
  | j + 1, hj =>
    refine bk h fun x h1 h => bk h fun m h2 h => bk h fun d h3 h => bk h fun f h4 h => sk h fun hl h => bk h fun o h5 h => ?_
    refine .inl ⟨a, x, m, d, f, h1, h2, h3, h4, ?_, by rw [List.length_map]; exact of_decide_eq_true (p := ps.length = m) (by simpa using hl), ?_⟩
    · show ad (names0.getD a "") = ad x
      rw [List.getD_eq_getElem?_getD, h1]; rfl
    · have := bodies_rn ad
      have e : f ad = rnSL (gOf ad) (f ad0) := by
        have h5 := congrArg (fun l => l[a]?) this
        rw [List.getElem?_map, List.getElem?_map, h4] at h5
        exact Option.some.inj h5
      rw [e]
      have := I.sl _ _ _ h5 j (by omega) n (fun _ n => Q (.d .none) n) Q (match o, h with
        | .nx ρ, h => so (x := .d .none) h q
        | .rt p, h => so h q)
      rw [rEnv_start] at this
      exact this
theorem snd_a (I : Snd ad Z k) (ρ : REnv) (l : List (Nat × Bool × Ex)) (ρ' ρ'' : REnv) (h : iA (k + 1) ρ l ρ' = some ρ'') (j : Nat) (hj : k + 1 ≤ j) (n : Nat) (N : REnv → Nat → Prop) (q : N (rEnv (gOf ad) ρ'') n) : asgsP (SL ad Z j) (rEnv (gOf ad) ρ) (rnA (gOf ad) l) (rEnv (gOf ad) ρ') n N := by
  have hj : k ≤ j := by (first | lia | omega)
  match l, h with
  | [], h => cases Option.some.inj h; exact q
  | (i, b, e) :: r, h =>
    refine bk h fun x h1 h => I.e _ _ _ h1 j hj n _ ?_
    cases b with
    | true =>
      obtain ⟨l, rfl, h⟩ := il_inv h
      have := I.a _ _ _ _ h j hj n N q
      rw [rEnv_set] at this
      exact this
    | false =>
      refine bk h fun y h2 h => ?_
      cases pvDat_inv h2
      have := I.a _ _ _ _ h j hj n N q
      rw [rEnv_set] at this
      exact this
theorem snd_nx {ρ : REnv} {o : IO1} {i : Nat} {w : Option Var} {n : Nat} {N : REnv → Nat → Prop} {R : PV → Nat → Prop} {g : Addr → Addr} (h : some (IO1.nx (ρ.set i w)) = some o) (q : endP g o n N R) : N ((rEnv g ρ).set i (rVar g w)) n := by
  cases Option.some.inj h
  rw [← rEnv_set]; exact q
theorem var_k {ρ : REnv} {i : Nat} {o : IO1} {F : Var → Option IO1} {g : Addr → Addr} {G : Option Var → Prop} (h : (varAt ρ i).bind F = some o) (k : ∀ w, varAt ρ i = some w → F w = some o → G (rVar g (some w))) : G (varAt (rEnv g ρ) i) := by
  rw [rEnv_at]
  exact bk h fun w h1 h => by rw [h1]; exact k w h1 h
theorem snd_st (I : Snd ad Z k) (x : St) (ρ : REnv) (o : IO1) (h : iSt (k + 1) x ρ = some o) (j : Nat) (hj : k + 1 ≤ j) (n : Nat) (N : REnv → Nat → Prop) (R : PV → Nat → Prop) (q : endP (gOf ad) o n N R) : exP (SL ad Z j) (rnSt (gOf ad) x) (rEnv (gOf ad) ρ) n N R := by
  have hj : k ≤ j := by (first | lia | omega)
  cases x with
  | asg t e =>
    refine bk h fun x h1 h' => bk h' fun y h2 h'' => bk h'' fun ρ' h3 h4 => I.e _ _ _ h1 j hj n _ ?_
    cases pvDat_inv h2
    cases Option.some.inj h4
    exact iBind_ok (K := fun ρ => N ρ n) h3 q
  | asgs l =>
    refine bk h fun ρ' h1 h => I.a _ _ _ _ h1 j hj n _ ?_
    cases Option.some.inj h
    exact q
  | new i e => exact bk h fun x h1 h => I.e _ _ _ h1 j hj n _ (rdl h fun l h => snd_nx h q)
  | mv i l =>
    refine var_k (G := fun w => match w with | some (.own y) => N (((rEnv (gOf ad) ρ).set l none).set i (some (.val (.d (.list y))))) n | some (.val p) => N ((rEnv (gOf ad) ρ).set i (some (.val p))) n | none => False) h fun w h1 h => ?_
    cases w with
    | own y =>
      have := snd_nx h q
      rw [rEnv_set] at this
      exact this
    | val p => exact snd_nx h q
  | aug i op e =>
    refine var_k (G := fun w => match w with | some (.val x) => evP (SL ad Z j) (rnE (gOf ad) e) (rEnv (gOf ad) ρ) n (fun y n => (op == .Add || op == .Sub || op == .RShift) = true ∧ int2 x y fun a b => binP op (dI a) (dI b) fun z => N ((rEnv (gOf ad) ρ).set i (some (.val z))) n) | _ => False) h fun w h1 h => ?_
    cases w with
    | own y => cases h
    | val p =>
      refine bk h fun y h2 h => I.e _ _ _ h2 j hj n _ (sk h fun c h => ⟨c, ?_⟩)
      obtain ⟨a, b, rfl, rfl, h⟩ := i2_inv h
      refine bk h fun z h3 h => ?_
      exact iBin_ok (g := gOf ad) (x := dI a) (y := dI b) (Q := fun z => N ((rEnv (gOf ad) ρ).set i (some (.val z))) n) h3 (snd_nx h q)
  | app i e =>
    refine var_k (G := fun w => match w with | some (.own l) => evP (SL ad Z j) (rnE (gOf ad) e) (rEnv (gOf ad) ρ) n (fun y n => match y with | .d y => l.length ≤ 2 ^ 20 ∧ N ((rEnv (gOf ad) ρ).set i (some (.own (l ++ [y])))) n | _ => False) | _ => False) h fun w h1 h => ?_
    cases w with
    | val y => cases h
    | own l =>
      refine bk h fun y h2 h => bk h fun z h3 h => I.e _ _ _ h2 j hj n _ ?_
      cases pvDat_inv h3
      exact sk h fun c h => ⟨of_decide_eq_true c, snd_nx h q⟩
  | ext i e =>
    refine var_k (G := fun w => match w with | some (.own l) => evP (SL ad Z j) (rnE (gOf ad) e) (rEnv (gOf ad) ρ) n (fun y n => list1 y fun ys => l.length + ys.length ≤ 2 ^ 20 ∧ N ((rEnv (gOf ad) ρ).set i (some (.own (l ++ ys)))) n) | _ => False) h fun w h1 h => ?_
    cases w with
    | val y => cases h
    | own l => exact bk h fun y h2 h => I.e _ _ _ h2 j hj n _ (rdl h fun ys h => sk h fun c h => ⟨of_decide_eq_true c, snd_nx h q⟩)
  | set i m e =>
    refine var_k (G := fun w => match w with | some (.own l) => evP (SL ad Z j) (rnE (gOf ad) e) (rEnv (gOf ad) ρ) n (fun v n => evP (SL ad Z j) (rnE (gOf ad) m) (rEnv (gOf ad) ρ) n fun k n => dat2 v k fun v _ => int1 k fun k => 0 ≤ k ∧ k < l.length ∧ l.length ≤ 2 ^ 20 ∧ N ((rEnv (gOf ad) ρ).set i (some (.own (l.set k.toNat v)))) n) | _ => False) h fun w h1 h => ?_
    cases w with
    | val y => cases h
    | own l =>
      refine bk h fun v h2 h => bk h fun m h3 h => bk h fun y h4 h => I.e _ _ _ h2 j hj n _ (I.e _ _ _ h3 j hj n _ ?_)
      cases pvDat_inv h4
      obtain ⟨a, rfl, h⟩ := i1_inv h
      exact sk h fun c h => ⟨(of_decide_eq_true c).1, (of_decide_eq_true c).2.1, (of_decide_eq_true c).2.2, snd_nx h q⟩
  | ret e =>
    refine bk h fun p h1 h => ?_
    cases Option.some.inj h
    have := I.e _ _ _ h1 j hj n R q
    rw [rEnv_frz] at this
    exact this
  | iff c a b =>
    exact bk h fun x h1 h => I.t _ _ _ h1 j hj n _ (match x, h with
      | true, h => I.sl _ _ _ h j hj n _ _ q
      | false, h => I.sl _ _ _ h j hj n _ _ q)
  | whl c b => exact I.w _ _ _ _ h j hj n _ _ q
  | «for» t s b => exact bk h fun xs h1 h => I.s _ _ _ h1 j hj n _ (I.fr _ _ _ _ _ h j hj n _ _ q)
  | drp e =>
    refine bk h fun x h1 h => I.e _ _ _ h1 j hj n _ ?_
    match x, h with
    | .d .none, h => cases Option.some.inj h; exact q
  | fail => cases h
theorem snd_sl (I : Snd ad Z k) (x : StL) (ρ : REnv) (o : IO1) (h : iSL (k + 1) x ρ = some o) (j : Nat) (hj : k + 1 ≤ j) (n : Nat) (N : REnv → Nat → Prop) (R : PV → Nat → Prop) (q : endP (gOf ad) o n N R) : exLP (SL ad Z j) (rnSL (gOf ad) x) (rEnv (gOf ad) ρ) n N R := by
  have hj : k ≤ j := by (first | lia | omega)
  cases x with
  | nil => cases Option.some.inj h; exact q
  | cons a l =>
    refine bk h fun o' h1 h => I.st _ _ _ h1 j hj n _ _ ?_
    cases o' with
    | nx ρ => exact I.sl _ _ _ h j hj n _ _ q
    | rt p => cases Option.some.inj h; exact q
theorem snd_w (I : Snd ad Z k) (c : Ts) (b : StL) (ρ : REnv) (o : IO1) (h : iW (k + 1) c b ρ = some o) (j : Nat) (hj : k + 1 ≤ j) (n : Nat) (N : REnv → Nat → Prop) (R : PV → Nat → Prop) (q : endP (gOf ad) o n N R) :
    ∃ m, whG (fun ρ n Q => tsP (SL ad Z j) (rnT (gOf ad) c) ρ n Q) (fun ρ n N R => exLP (SL ad Z j) (rnSL (gOf ad) b) ρ n N R) m (rEnv (gOf ad) ρ) n N R := by
  have hj : k ≤ j := by (first | lia | omega)
  refine bk h fun t h1 h => ?_
  cases t with
  | false => cases Option.some.inj h; exact ⟨1, I.t _ _ _ h1 j hj n _ q⟩
  | true =>
    refine bk h fun o' h2 h => ?_
    cases o' with
    | nx ρ' =>
      obtain ⟨m, hm⟩ := I.w _ _ _ _ h j hj n N R q
      exact ⟨m + 1, I.t _ _ _ h1 j hj n _ (I.sl _ _ _ h2 j hj n _ _ hm)⟩
    | rt p =>
      cases Option.some.inj h
      exact ⟨1, I.t _ _ _ h1 j hj n _ (I.sl _ _ _ h2 j hj n _ _ q)⟩
theorem snd_fr (I : Snd ad Z k) (t : Tg) (b : StL) (xs : List PyData) (ρ : REnv) (o : IO1) (h : iF (k + 1) t b xs ρ = some o) (j : Nat) (hj : k + 1 ≤ j) (n : Nat) (N : REnv → Nat → Prop) (R : PV → Nat → Prop) (q : endP (gOf ad) o n N R) :
    forG (fun ρ n N R => exLP (SL ad Z j) (rnSL (gOf ad) b) ρ n N R) t xs (rEnv (gOf ad) ρ) n N R := by
  have hj : k ≤ j := by (first | lia | omega)
  cases xs with
  | nil => cases Option.some.inj h; exact q
  | cons x xs =>
    refine bk h fun ρ' h1 h => bk h fun o' h2 h => iBind_ok h1 (I.sl _ _ _ h2 j hj n _ _ ?_)
    cases o' with
    | nx ρ => exact I.fr _ _ _ _ _ h j hj n _ _ q
    | rt p => cases Option.some.inj h; exact q
theorem snd : ∀ k, Snd ad Z k
  | 0 => snd_zero
  | k + 1 => ⟨snd_e (snd k), snd_l (snd k), snd_o (snd k), snd_r (snd k), snd_t (snd k), snd_u (snd k), snd_s (snd k), snd_c (snd k), snd_f (snd k), snd_a (snd k), snd_st (snd k), snd_sl (snd k), snd_w (snd k), snd_fr (snd k)⟩
end

/-! ### limbs, plainly -/
noncomputable def V (b : Int) : List Int → Int
  | [] => 0
  | x :: r => x + b * V b r
noncomputable def Dg (b : Int) (l : List Int) : Prop := ∀ x ∈ l, 0 ≤ x ∧ x < b
noncomputable def L (l : List Int) : List PyData := l.map .int
/-- the limbs of m -/
structure Rep (b : Int) (l : List Int) (m : Int) : Prop where
  dg : Dg b l
  nm : l.getLast? ≠ some 0
  v : V b l = m
theorem V_app (b : Int) (y : List Int) : ∀ l, V b (l ++ y) = V b l + b ^ l.length * V b y
  | [] => by simp [V]
  | x :: l => by
    rw [List.cons_append, V, V, V_app b y l, List.length_cons, Int.mul_add, ← Int.mul_assoc, ← Int.pow_succ', Int.add_assoc]
theorem V_nn {b : Int} (hb : 2 ≤ b) : ∀ l, Dg b l → 0 ≤ V b l
  | [], _ => Int.le_refl _
  | x :: l, h => by
    have h1 := (h x (.head _)).1
    have h2 := Int.mul_nonneg (by (first | lia | omega) : 0 ≤ b) (V_nn hb l fun y hy => h y (.tail _ hy))
    rw [V]; (first | lia | omega)
theorem V_len {b : Int} (hb : 2 ≤ b) : ∀ l, Dg b l → l.getLast? ≠ some 0 → (l.length : Int) ≤ V b l
  | [], _, _ => Int.le_refl _
  | [x], h, hn => by
    have h1 := (h x (.head _)).1
    have : x ≠ 0 := fun e => hn (by rw [e]; rfl)
    simp only [V, List.length_cons, List.length_nil]
    (first | lia | omega)
  | x :: y :: l, h, hn => by
    have h1 := (h x (.head _)).1
    have ih := V_len hb (y :: l) (fun z hz => h z (.tail _ hz)) (by rwa [List.getLast?_cons_cons] at hn)
    have h3 := Int.mul_le_mul_of_nonneg_right hb (by rw [List.length_cons] at ih; (first | lia | omega) : 0 ≤ V b (y :: l))
    rw [V]
    rw [List.length_cons] at ih ⊢
    rw [List.length_cons]
    (first | lia | omega)
theorem Rep.len {b m : Int} {l : List Int} (hb : 2 ≤ b) (r : Rep b l m) : (l.length : Int) ≤ m := r.v ▸ V_len hb l r.dg r.nm
theorem Rep.nn {b m : Int} {l : List Int} (hb : 2 ≤ b) (r : Rep b l m) : 0 ≤ m := r.v ▸ V_nn hb l r.dg
theorem V_inj {b : Int} (hb : 2 ≤ b) : ∀ l l', Dg b l → Dg b l' → l.getLast? ≠ some 0 → l'.getLast? ≠ some 0 → V b l = V b l' → l = l'
  | [], [], _, _, _, _, _ => rfl
  | [], x :: l, _, h, _, hn, e => by
    have := V_len hb _ h hn
    rw [← e, V, List.length_cons] at this
    (first | lia | omega)
  | x :: l, [], h, _, hn, _, e => by
    have := V_len hb _ h hn
    rw [e, V, List.length_cons] at this
    (first | lia | omega)
  | x :: l, y :: l', h, h', hn, hn', e => by
    have hx := h x (.head _)
    have hy := h' y (.head _)
    rw [V, V] at e
    have exy : x = y := by
      have e1 : (x + b * V b l) % b = (y + b * V b l') % b := by rw [e]
      rw [Int.add_mul_emod_self_left, Int.add_mul_emod_self_left, Int.emod_eq_of_lt hx.1 hx.2, Int.emod_eq_of_lt hy.1 hy.2] at e1
      exact e1
    subst exy
    have e2 : V b l = V b l' := Int.eq_of_mul_eq_mul_left (by (first | lia | omega) : b ≠ 0) (by (first | lia | omega))
    have tl : ∀ l : List Int, (x :: l).getLast? ≠ some 0 → l.getLast? ≠ some 0 := fun l q => by
      cases l with
      | nil => simp
      | cons z l => rwa [List.getLast?_cons_cons] at q
    rw [V_inj hb l l' (fun z hz => h z (.tail _ hz)) (fun z hz => h' z (.tail _ hz)) (tl l hn) (tl l' hn') e2]
theorem Rep.uniq {b m : Int} {l l' : List Int} (hb : 2 ≤ b) (r : Rep b l m) (r' : Rep b l' m) : l = l' := V_inj hb l l' r.dg r'.dg r.nm r'.nm (r.v.trans r'.v.symm)
theorem V_take {b : Int} {l : List Int} {e : Nat} {x : Int} (h : l[e]? = some x) : V b (l.take (e + 1)) = V b (l.take e) + b ^ e * x := by
  have hl : e < l.length := (List.getElem?_eq_some_iff.mp h).1
  rw [List.take_add_one, h, Option.toList_some, V_app, List.length_take, Nat.min_eq_left (by (first | lia | omega))]
  simp [V]
theorem Dg.take {b : Int} {l : List Int} (h : Dg b l) (k : Nat) : Dg b (l.take k) := fun x hx => h x (List.mem_of_mem_take hx)
theorem Dg.app {b : Int} {l : List Int} {x : Int} (h : Dg b l) (h0 : 0 ≤ x) (h1 : x < b) : Dg b (l ++ [x]) := fun y hy => by
  rcases List.mem_append.mp hy with q | q
  · exact h y q
  · rw [List.mem_singleton.mp q]; exact ⟨h0, h1⟩
theorem Dg.at {b : Int} {l : List Int} (h : Dg b l) {i : Nat} {x : Int} (e : l[i]? = some x) : 0 ≤ x ∧ x < b := h x (List.mem_of_getElem? e)
theorem L_at {l : List Int} {i : Nat} {x : Int} (h : l[i]? = some x) : (L l)[i]? = some (.int x) := by unfold L; rw [List.getElem?_map, h]; rfl
theorem L_len (l : List Int) : (L l).length = l.length := List.length_map ..
theorem L_app (l : List Int) (x : Int) : L l ++ [.int x] = L (l ++ [x]) := by unfold L; rw [List.map_append]; rfl

/-! ### the functions -/
section
variable {ad : Str → Addr} {Z : Spec} {w : Nat}
theorem sl {i : Nat} {x : Str} {m q : Nat} {f : (Str → Addr) → StL} {ps : List PV} {n : Nat} {Q : PV → Nat → Prop} {d j : Nat} (e1 : names0[i]? = some x) (e2 : arity0[i]? = some m) (e3 : nown0[i]? = some q) (e4 : bodies0[i]? = some f) (e5 : ps.length = m) (hj : d + 1 ≤ j)
    (h : ∀ j, d ≤ j → exLP (SL ad Z j) (f ad) (ps.map (fun p => some (Var.val p)) ++ List.replicate (q - m) none) n (fun _ n => Q (.d .none) n) Q) : SL ad Z j (ad x) ps n Q := by
  match j, hj with
  | j + 1, hj => exact .inl ⟨i, x, m, q, f, e1, e2, e3, e4, rfl, e5, h j (by (first | lia | omega))⟩
noncomputable def bodyOf : St → StL
  | .for _ _ b => b
  | .whl _ b => b
  | _ => .nil
noncomputable def testOf : St → Ts
  | .whl c _ => c
  | .iff c _ _ => c
  | _ => .val (.lit .none)
noncomputable def nth : StL → Nat → St
  | .cons a _, 0 => a
  | .cons _ l, n + 1 => nth l n
  | .nil, _ => .fail
noncomputable def drp : StL → Nat → StL
  | l, 0 => l
  | .cons _ l, n + 1 => drp l n
  | .nil, _ => .nil

theorem normal_loop (S : Spec) (l : List Int) (hl : l.length ≤ 2 ^ 20) (b : Int) (n : Nat) (N : REnv → Nat → Prop) (R : PV → Nat → Prop)
    (hN : ∀ e : Nat, e ≤ l.length → (l.take e).getLast? ≠ some 0 → V b (l.take e) = V b l → N [some (.val (.d (.list (L l)))), some (.val (dI e))] n) : ∀ e : Nat, e ≤ l.length → V b (l.take e) = V b l →
      ∃ k, whG (fun ρ n Q => tsP S (testOf (nth (x_normal ad) 1)) ρ n Q) (fun ρ n N R => exLP S (bodyOf (nth (x_normal ad) 1)) ρ n N R) k [some (.val (.d (.list (L l)))), some (.val (dI e))] n N R
  | 0, he, hv => ⟨1, hN 0 he (by simp) hv⟩
  | e + 1, he, hv => by
    have hx : l[e]? = some l[e] := List.getElem?_eq_getElem (by (first | lia | omega))
    by_cases hz : l[e] = 0
    · have hv' : V b (l.take e) = V b l := by rw [V_take hx, hz] at hv; (first | lia | omega)
      obtain ⟨k, hk⟩ := normal_loop S l hl b n N R hN e (by (first | lia | omega)) hv'
      refine ⟨k + 1, ?_⟩
      show (match decide ((0 : Int) < ((e + 1 : Nat) : Int)) with | true => _ | false => _)
      rw [decide_eq_true (by (first | lia | omega))]
      refine idx_l (k := ((e + 1 : Nat) : Int) - 1) (y := .int 0) (by (first | lia | omega)) (by rw [show (((e + 1 : Nat) : Int) - 1).toNat = e by (first | lia | omega)]; exact hz ▸ L_at hx) (by rw [L_len]; (first | lia | omega)) ⟨rfl, rfl, rfl, ?_⟩
      show whG _ _ k [some (.val (.d (.list (L l)))), some (.val (dI (((e + 1 : Nat) : Int) - 1)))] n N R
      rw [show ((e + 1 : Nat) : Int) - 1 = e by (first | lia | omega)]
      exact hk
    · refine ⟨1, ?_⟩
      show (match decide ((0 : Int) < ((e + 1 : Nat) : Int)) with | true => _ | false => _)
      rw [decide_eq_true (by (first | lia | omega))]
      refine idx_l (k := ((e + 1 : Nat) : Int) - 1) (y := .int l[e]) (by (first | lia | omega)) (by rw [show (((e + 1 : Nat) : Int) - 1).toNat = e by (first | lia | omega)]; exact L_at hx) (by rw [L_len]; (first | lia | omega)) ⟨rfl, rfl, ?_⟩
      show (match (l[e] == 0) with | true => _ | false => _)
      rw [beq_false_of_ne hz]
      refine hN (e + 1) he ?_ hv
      rw [List.take_add_one, hx, Option.toList_some, List.getLast?_concat]
      exact fun q => hz (Option.some.inj q)
theorem normal_sp {b : Int} {l : List Int} (hl : l.length ≤ 2 ^ 20) (dg : Dg b l) {n : Nat} {Q : PV → Nat → Prop} (q : ∀ r, Rep b r (V b l) → Q (.d (.list (L r))) n) {j : Nat} (hj : 1 ≤ j) : SL ad Z j (ad "normal") [.d (.list (L l))] n Q := by
  refine sl (i := 0) (f := x_normal) (d := 0) rfl rfl rfl rfl rfl hj fun j _ => ?_
  refine ⟨by rw [L_len]; (first | lia | omega), ?_⟩
  show ∃ k, whG _ _ k [some (.val (.d (.list (L l)))), some (.val (dI ((L l).length : Int)))] n _ _
  rw [L_len]
  refine normal_loop (ad := ad) _ l hl b n _ _ (fun e he hn hv => ⟨by rw [L_len]; exact hl, ?_⟩) l.length (Nat.le_refl _) (by rw [List.take_length])
  refine ⟨by (first | lia | omega), ?_⟩
  rw [Int.toNat_natCast]
  have : (L l).take e = L (l.take e) := List.map_take.symm
  rw [this]
  exact q _ ⟨dg.take e, hn, hv⟩
end

theorem for_inv {bd : REnv → Nat → (REnv → Nat → Prop) → (PV → Nat → Prop) → Prop} {t : Tg} {xs : List PyData} {n : Nat} {N : REnv → Nat → Prop} {R : PV → Nat → Prop} (I : Nat → REnv → Prop)
    (step : ∀ i x ρ (K : REnv → Nat → Prop), xs[i]? = some x → I i ρ → (∀ ρ', I (i + 1) ρ' → K ρ' n) → bindT t x ρ fun ρ => bd ρ n K R) (hend : ∀ ρ, I xs.length ρ → N ρ n) : ∀ (m i : Nat) (ρ : REnv), i + m = xs.length → I i ρ → forG bd t (xs.drop i) ρ n N R
  | 0, i, ρ, e, h => by
    rw [List.drop_eq_nil_of_le (by (first | lia | omega))]
    exact hend ρ ((by omega : i = xs.length) ▸ h)
  | m + 1, i, ρ, e, h => by
    rw [List.drop_eq_getElem_cons (by (first | lia | omega) : i < xs.length)]
    exact step i _ ρ _ (List.getElem?_eq_getElem (by (first | lia | omega))) h fun ρ' h' => for_inv I step hend m (i + 1) ρ' (by (first | lia | omega)) h'
theorem for_go {bd : REnv → Nat → (REnv → Nat → Prop) → (PV → Nat → Prop) → Prop} {t : Tg} {xs : List PyData} {n : Nat} {N : REnv → Nat → Prop} {R : PV → Nat → Prop} {ρ : REnv} (I : Nat → REnv → Prop)
    (h0 : I 0 ρ) (step : ∀ i x ρ (K : REnv → Nat → Prop), xs[i]? = some x → I i ρ → (∀ ρ', I (i + 1) ρ' → K ρ' n) → bindT t x ρ fun ρ => bd ρ n K R) (hend : ∀ ρ, I xs.length ρ → N ρ n) : forG bd t xs ρ n N R :=
  for_inv I step hend xs.length 0 ρ (by (first | lia | omega)) h0
theorem rng_at {a c : Int} {m i : Nat} {x : PyData} (h : (rngItems a c m)[i]? = some x) : x = .int (a + i * c) ∧ i < m := by
  unfold rngItems at h
  rw [List.getElem?_map] at h
  obtain ⟨y, h1, rfl⟩ := Option.map_eq_some_iff.mp h
  obtain ⟨h2, h3⟩ := List.getElem?_eq_some_iff.mp h1
  rw [List.length_range] at h2
  rw [List.getElem_range] at h3
  subst h3
  exact ⟨rfl, h2⟩
theorem rng_len (a c : Int) (m : Nat) : (rngItems a c m).length = m := by unfold rngItems; rw [List.length_map, List.length_range]
theorem size_up (a c : Int) : Builtin.Range.rangeSize a c 1 = if a < c then c - a else 0 := by
  unfold Builtin.Range.rangeSize
  rw [if_pos (by decide)]
  split
  · (first | lia | omega)
  · rfl
theorem size_up0 (m : Nat) : (Builtin.Range.rangeSize 0 m 1).toNat = m := by
  rw [size_up]; split <;> (first | lia | omega)
theorem size_down (m : Nat) : (Builtin.Range.rangeSize ((m : Int) - 1) (-1) (-1)) = m := by
  unfold Builtin.Range.rangeSize
  rw [if_neg (by decide)]
  split
  · show ((m : Int) - 1 - -1 - 1) / 1 + 1 = m
    (first | lia | omega)
  · (first | lia | omega)

theorem V_lt {b : Int} (hb : 2 ≤ b) : ∀ l, Dg b l → V b l < b ^ l.length
  | [], _ => by simp [V]
  | x :: l, h => by
    have h1 := h x (.head _)
    have ih := V_lt hb l fun y hy => h y (.tail _ hy)
    have := Int.mul_le_mul_of_nonneg_left (Int.add_one_le_of_lt ih) (by (first | lia | omega) : 0 ≤ b)
    rw [V, List.length_cons, Int.pow_succ, Int.mul_comm _ b]
    rw [Int.mul_add] at this
    (first | lia | omega)
theorem V_ge {b : Int} (hb : 2 ≤ b) : ∀ x l, Dg b (x :: l) → (x :: l).getLast? ≠ some 0 → b ^ l.length ≤ V b (x :: l)
  | x, [], h, hn => by
    have h1 := (h x (.head _)).1
    have : x ≠ 0 := fun e => hn (by rw [e]; rfl)
    simp only [V, List.length_nil, Int.pow_zero]
    (first | lia | omega)
  | x, y :: l, h, hn => by
    have h1 := (h x (.head _)).1
    have ih := V_ge hb y l (fun z hz => h z (.tail _ hz)) (by rwa [List.getLast?_cons_cons] at hn)
    have := Int.mul_le_mul_of_nonneg_left ih (by (first | lia | omega) : 0 ≤ b)
    rw [V, List.length_cons, Int.pow_succ, Int.mul_comm _ b]
    (first | lia | omega)
theorem pow_le {b : Int} (hb : 2 ≤ b) {m k : Nat} (h : m ≤ k) : b ^ m ≤ b ^ k := by
  obtain ⟨d, rfl⟩ := Nat.exists_eq_add_of_le h
  rw [Int.pow_add]
  have h1 : 0 < b ^ m := Int.pow_pos (by (first | lia | omega))
  have h2 : 0 < b ^ d := Int.pow_pos (by (first | lia | omega))
  have := Int.mul_le_mul_of_nonneg_left (by (first | lia | omega) : 1 ≤ b ^ d) (by (first | lia | omega) : 0 ≤ b ^ m)
  (first | lia | omega)
theorem V_short {b : Int} (hb : 2 ≤ b) {l l' : List Int} (h : Dg b l) (h' : Dg b l') (hn : l'.getLast? ≠ some 0) (hl : l.length < l'.length) : V b l < V b l' := by
  cases l' with
  | nil => simp at hl
  | cons x l' =>
    have h1 := V_lt hb l h
    have h2 := V_ge hb x l' h' hn
    have h3 := pow_le hb (m := l.length) (k := l'.length) (by rw [List.length_cons] at hl; (first | lia | omega))
    (first | lia | omega)
theorem V_split {b : Int} {l : List Int} {k : Nat} {x : Int} (h : l[k]? = some x) : V b l = V b (l.take k) + b ^ k * (x + b * V b (l.drop (k + 1))) := by
  have hl : k < l.length := (List.getElem?_eq_some_iff.mp h).1
  have hx : l[k] = x := (List.getElem?_eq_some_iff.mp h).2
  have e : V b l = V b (l.take k ++ l.drop k) := by rw [List.take_append_drop]
  rw [e, V_app, List.drop_eq_getElem_cons hl, V, hx, List.length_take, Nat.min_eq_left (by (first | lia | omega))]
theorem V_high {b : Int} (hb : 2 ≤ b) {l l' : List Int} (h : Dg b l) (h' : Dg b l') {k : Nat} {x y : Int} (e : l[k]? = some x) (e' : l'[k]? = some y) (hd : l.drop (k + 1) = l'.drop (k + 1)) (hxy : x < y) : V b l < V b l' := by
  have hk : k < l.length := (List.getElem?_eq_some_iff.mp e).1
  have h1 := V_lt hb _ (h.take k)
  rw [List.length_take, Nat.min_eq_left (by (first | lia | omega))] at h1
  have h2 := V_nn hb _ (h'.take k)
  rw [V_split e, V_split e', hd, Int.mul_add, Int.mul_add]
  have h3 : 0 < b ^ k := Int.pow_pos (by (first | lia | omega))
  have h4 := Int.mul_le_mul_of_nonneg_left (by (first | lia | omega) : x + 1 ≤ y) (by (first | lia | omega) : 0 ≤ b ^ k)
  rw [Int.mul_add] at h4
  (first | lia | omega)

section
variable {ad : Str → Addr} {Z : Spec}
theorem cmp_fin {b : Int} (hb : 2 ≤ b) {l l' : List Int} (h : Dg b l) (h' : Dg b l') {k : Nat} {x y : Int} (e : l[k]? = some x) (e' : l'[k]? = some y) (hd : l.drop (k + 1) = l'.drop (k + 1)) (hxy : x ≠ y) : ((if x < y then (-1 : Int) else 1) < 0 ↔ V b l < V b l') := by
  split
  · rename_i q
    exact ⟨fun _ => V_high hb h h' e e' hd q, fun _ => by decide⟩
  · rename_i q
    have := V_high hb h' h e' e hd.symm (by (first | lia | omega))
    exact ⟨fun q => absurd q (by decide), fun q => by (first | lia | omega)⟩
theorem compare_sp {b : Int} (hb : 2 ≤ b) {l l' : List Int} {m m' : Int} (r : Rep b l m) (r' : Rep b l' m') (hm : m ≤ 2 ^ 20) (hm' : m' ≤ 2 ^ 20) {n : Nat} {Q : PV → Nat → Prop} (q : ∀ c : Int, (c < 0 ↔ m < m') → Q (dI c) n) {j : Nat} (hj : 1 ≤ j) :
    SL ad Z j (ad "compare") [.d (.list (L l)), .d (.list (L l'))] n Q := by
  have hl := r.len hb
  have hl' := r'.len hb
  refine sl (i := 2) (f := x_compare) (d := 0) rfl rfl rfl rfl rfl hj fun j _ => ?_
  refine ⟨by rw [L_len]; (first | lia | omega), by rw [L_len]; (first | lia | omega), rfl, rfl, ?_⟩
  show (match !(((L l).length : Int) == ((L l').length : Int)) with | true => _ | false => _)
  rw [L_len, L_len]
  cases hc : ((l.length : Int) == (l'.length : Int)) with
  | false =>
    have hc : l.length ≠ l'.length := fun e => by rw [e] at hc; simp at hc
    refine ⟨by rw [L_len]; (first | lia | omega), by rw [L_len]; (first | lia | omega), ?_⟩
    show (match decide (((L l).length : Int) < ((L l').length : Int)) with | true => _ | false => _)
    rw [L_len, L_len]
    by_cases hlt : l.length < l'.length
    · rw [decide_eq_true (by (first | lia | omega))]
      exact q (-1) ⟨fun _ => r.v ▸ r'.v ▸ V_short hb r.dg r'.dg r'.nm hlt, fun _ => by decide⟩
    · rw [decide_eq_false (by (first | lia | omega))]
      refine q 1 ⟨fun q => absurd q (by decide), fun q => ?_⟩
      have := V_short hb r'.dg r.dg r.nm (by (first | lia | omega) : l'.length < l.length)
      rw [r.v, r'.v] at this
      (first | lia | omega)
  | true =>
    have hc : l.length = l'.length := by have := eq_of_beq hc; (first | lia | omega)
    refine ⟨by rw [L_len]; (first | lia | omega), ?_⟩
    rw [L_len]
    refine ⟨by unfold small; (first | lia | omega), (by decide : (-1 : Int).natAbs < 2 ^ 30), (by decide : (-1 : Int).natAbs < 2 ^ 30), by decide, by rw [size_down]; (first | lia | omega), ?_⟩
    rw [size_down, Int.toNat_natCast]
    refine for_go (fun i ρ => (∃ v, ρ = [some (.val (.d (.list (L l)))), some (.val (.d (.list (L l')))), v]) ∧ l.drop (l.length - i) = l'.drop (l.length - i)) ⟨⟨_, rfl⟩, ?_⟩ (fun i x ρ K hx hI hK => ?_) fun ρ hI => ?_
    · rw [Nat.sub_zero, List.drop_length, hc, List.drop_length]
    · obtain ⟨⟨v, rfl⟩, hd⟩ := hI
      obtain ⟨rfl, hi⟩ := rng_at hx
      obtain ⟨k, hk⟩ : ∃ k : Nat, k = l.length - 1 - i := ⟨_, rfl⟩
      have ek : (l.length : Int) - 1 + (i : Int) * (-1) = (k : Int) := by (first | lia | omega)
      rw [ek]
      obtain ⟨x, e1⟩ : ∃ x, l[k]? = some x := ⟨_, List.getElem?_eq_getElem (by (first | lia | omega))⟩
      obtain ⟨y, e2⟩ : ∃ y, l'[k]? = some y := ⟨_, List.getElem?_eq_getElem (by (first | lia | omega))⟩
      have hd : l.drop (k + 1) = l'.drop (k + 1) := by rw [show k + 1 = l.length - i by (first | lia | omega)]; exact hd
      have at1 : ∀ {Q : PV → Prop}, Q (dI x) → idxP (.d (.list (L l))) (dI (k : Int)) Q := fun q => idx_l (y := .int x) (by (first | lia | omega)) (by rw [Int.toNat_natCast]; exact L_at e1) (by rw [L_len]; (first | lia | omega)) q
      have at2 : ∀ {Q : PV → Prop}, Q (dI y) → idxP (.d (.list (L l'))) (dI (k : Int)) Q := fun q => idx_l (y := .int y) (by (first | lia | omega)) (by rw [Int.toNat_natCast]; exact L_at e2) (by rw [L_len]; (first | lia | omega)) q
      refine at1 (at2 ⟨rfl, rfl, ?_⟩)
      show (match !(x == y) with | true => _ | false => _)
      cases hxy : (x == y) with
      | false =>
        have hxy : x ≠ y := fun e => by rw [e] at hxy; simp at hxy
        refine at1 (at2 ?_)
        have := cmp_fin hb r.dg r'.dg e1 e2 hd hxy
        rw [r.v, r'.v] at this
        show (match decide (x < y) with | true => _ | false => _)
        by_cases h : x < y
        · rw [decide_eq_true h]
          rw [if_pos h] at this
          exact q _ this
        · rw [decide_eq_false h]
          rw [if_neg h] at this
          exact q _ this
      | true =>
        refine hK _ ⟨⟨_, rfl⟩, ?_⟩
        have : l.length - (i + 1) = k := by (first | lia | omega)
        rw [this, List.drop_eq_getElem_cons (by (first | lia | omega) : k < l.length), List.drop_eq_getElem_cons (by (first | lia | omega) : k < l'.length), hd, (List.getElem?_eq_some_iff.mp e1).2, (List.getElem?_eq_some_iff.mp e2).2, eq_of_beq hxy]
    · obtain ⟨⟨v, rfl⟩, hd⟩ := hI
      rw [rng_len, Nat.sub_self, List.drop_zero, List.drop_zero] at hd
      refine q 0 ⟨fun q => absurd q (by decide), fun q => ?_⟩
      rw [← r.v, ← r'.v, hd] at q
      (first | lia | omega)
end

noncomputable def mk (w : Nat) : Int := 1 * 2 ^ ((w : Nat) : Int).toNat - 1
theorem pw (w : Nat) : (2 : Int) ^ w = ((2 ^ w : Nat) : Int) := by rw [Int.natCast_pow]; rfl
theorem pw2 {w : Nat} (hw : 1 ≤ w) : (2 : Int) ≤ 2 ^ w := by
  obtain ⟨k, rfl⟩ : ∃ k, w = k + 1 := ⟨w - 1, by (first | lia | omega)⟩
  have : (0 : Int) < 2 ^ k := Int.pow_pos (by decide)
  rw [Int.pow_succ]; (first | lia | omega)
theorem band {c : Int} {w : Nat} (hc : 0 ≤ c) : Builtin.bitAnd c (mk w) = c % 2 ^ w := by
  have h1 : 1 ≤ 2 ^ w := Nat.one_le_two_pow
  have hm : mk w = ((2 ^ w - 1 : Nat) : Int) := by
    unfold mk
    rw [Int.toNat_natCast, Int.one_mul, pw]
    (first | lia | omega)
  obtain ⟨k, rfl⟩ := Int.eq_ofNat_of_zero_le hc
  rw [hm, bitAnd_pp (by omega) (by (first | lia | omega)), Int.toNat_natCast, Int.toNat_natCast, Nat.and_two_pow_sub_one_eq_mod, pw]
  (first | lia | omega)
theorem shr {c : Int} {w : Nat} : c.fdiv (2 ^ ((w : Nat) : Int).toNat) = c / 2 ^ w := by
  rw [Int.toNat_natCast, Int.fdiv_eq_ediv_of_nonneg _ (Int.le_of_lt (Int.pow_pos (by decide)))]
theorem carry {B c : Int} {f : List Int} : V B (f ++ [c % B]) + B ^ (f.length + 1) * (c / B) = V B f + B ^ f.length * c := by
  rw [V_app, Int.pow_succ, Int.mul_assoc, Int.add_assoc, ← Int.mul_add]
  congr 2
  have := Int.emod_add_mul_ediv c B
  simp only [V]
  (first | lia | omega)
section
variable {ad : Str → Addr} {Z : Spec} {w : Nat}
theorem tail_add {S : Spec} {va vb v : Option Var} {f : List Int} {c : Int} {n : Nat} {N : REnv → Nat → Prop} {R : PV → Nat → Prop} (hf : f.length ≤ 2 ^ 20) (hc : 0 ≤ c)
    (q : N [va, vb, some (.val (dI w)), some (.own (L (f ++ [c % 2 ^ w]))), some (.val (dI (c / 2 ^ w))), some (.val (dI (mk w))), v] n) :
    exLP S (drp (bodyOf (nth (x_add ad) 2)) 1) [va, vb, some (.val (dI w)), some (.own (L f)), some (.val (dI c)), some (.val (dI (mk w))), v] n N R := by
  rw [← band hc, ← shr, ← L_app] at q
  exact ⟨by rw [L_len]; exact hf, rfl, by (first | lia | omega), q⟩
theorem top_ne {B : Int} (hB : 2 ≤ B) {f : List Int} (h : Dg B f) (hv : f ≠ [] → B ^ (f.length - 1) ≤ V B f) : f.getLast? ≠ some 0 := fun q => by
  have hne : f ≠ [] := fun e => by rw [e] at q; cases q
  obtain ⟨l, x, rfl⟩ : ∃ l x, f = l ++ [x] := ⟨f.dropLast, f.getLast hne, (List.dropLast_concat_getLast hne).symm⟩
  rw [List.getLast?_concat] at q
  cases Option.some.inj q
  have h1 := hv (by simp)
  have h2 := V_lt hB l fun y hy => h y (List.mem_append_left _ hy)
  rw [V_app, List.length_append] at h1
  simp only [V, List.length_cons, List.length_nil, Nat.zero_add, Nat.add_sub_cancel] at h1
  (first | lia | omega)
theorem V_mono {B : Int} (hB : 2 ≤ B) {l : List Int} (h : Dg B l) (hn : l.getLast? ≠ some 0) (hne : l ≠ []) : B ^ (l.length - 1) ≤ V B l := by
  cases l with
  | nil => exact absurd rfl hne
  | cons x l => exact V_ge hB x l h hn
noncomputable def envA (w : Nat) (a b f : List Int) (c : Int) (v : Option Var) : REnv := [some (.val (.d (.list (L a)))), some (.val (.d (.list (L b)))), some (.val (dI w)), some (.own (L f)), some (.val (dI c)), some (.val (dI (mk w))), v]
theorem at_L {l : List Int} {k : Nat} {x : Int} (e : l[k]? = some x) (hl : l.length ≤ 2 ^ 24) {Q : PV → Prop} (q : Q (dI x)) : idxP (.d (.list (L l))) (dI (k : Int)) Q :=
  idx_l (y := .int x) (by (first | lia | omega)) (by rw [Int.toNat_natCast]; exact L_at e) (by rw [L_len]; omega) q
theorem div_lt {c B k : Int} (hB : 0 < B) (h : c < B * k) : c / B < k := Int.ediv_lt_of_lt_mul hB (by rw [Int.mul_comm]; exact h)
theorem add_main (hw : 1 ≤ w) (hw8 : w < 256) {a b : List Int} {m m' : Int} (r : Rep (2 ^ w) a m) (r' : Rep (2 ^ w) b m') (hm : m ≤ 2 ^ 18) (hle : b.length ≤ a.length) {n : Nat} {S : Spec} {N : REnv → Nat → Prop} {Q : PV → Nat → Prop}
    (q : ∀ r, Rep (2 ^ w) r (m + m') → Q (.d (.list (L r))) n) :
    exLP S (drp (x_add ad) 1) [some (.val (.d (.list (L a)))), some (.val (.d (.list (L b)))), some (.val (dI w)), none, none, none, none] n N Q := by
  have hB := pw2 hw
  have hla := r.len hB
  generalize hBe : (2 : Int) ^ w = B at *
  refine ⟨by (first | lia | omega), by (first | lia | omega), by decide, ?_⟩
  refine ⟨by rw [L_len]; (first | lia | omega), ⟨by unfold small; rw [L_len]; (first | lia | omega), by rw [L_len]; (first | lia | omega), ?_⟩⟩
  rw [L_len, size_up0]
  refine for_go (fun i ρ => ∃ f c v, ρ = envA w a b f c v ∧ f.length = i ∧ Dg B f ∧ 0 ≤ c ∧ c ≤ 1 ∧ V B f + B ^ i * c = V B (a.take i) + V B (b.take i)) ⟨[], 0, none, rfl, rfl, fun _ h => (nomatch h), by (first | lia | omega), by (first | lia | omega), by simp [V]⟩ (fun i x ρ K hx hI hK => ?_) fun ρ hI => ?_
  · obtain ⟨f, c, v, rfl, hf, df, c0, c1, hv⟩ := hI
    obtain ⟨rfl, hi⟩ := rng_at hx
    obtain ⟨x, e1⟩ : ∃ x, a[i]? = some x := ⟨_, List.getElem?_eq_getElem (by (first | lia | omega))⟩
    obtain ⟨y, e2⟩ : ∃ y, b[i]? = some y := ⟨_, List.getElem?_eq_getElem (by omega)⟩
    have hx := r.dg.at e1
    have hy := r'.dg.at e2
    rw [show (0 : Int) + (i : Int) * 1 = i by (first | lia | omega)]
    refine at_L e1 (by (first | lia | omega)) (at_L e2 (by (first | lia | omega)) (.inl ⟨rfl, .inl (tail_add (ad := ad) (f := f) (by (first | lia | omega)) (by (first | lia | omega)) (hK _ ?_))⟩))
    rw [hBe]
    refine ⟨_, _, _, rfl, by rw [List.length_append, hf]; rfl, df.app (Int.emod_nonneg _ (by (first | lia | omega))) (Int.emod_lt_of_pos _ (by (first | lia | omega))), Int.ediv_nonneg (by (first | lia | omega)) (by (first | lia | omega)), ?_, ?_⟩
    · have := div_lt (c := c + (x + y)) (B := B) (k := 2) (by (first | lia | omega)) (by (first | lia | omega))
      (first | lia | omega)
    · have h1 := carry (B := B) (c := c + (x + y)) (f := f)
      rw [hf] at h1
      rw [h1, V_take e1, V_take e2, Int.mul_add, Int.mul_add]
      (first | lia | omega)
  · obtain ⟨f, c, v, rfl, hf, df, c0, c1, hv⟩ := hI
    rw [rng_len] at hf hv
    refine ⟨by rw [L_len]; (first | lia | omega), by rw [L_len]; (first | lia | omega), by unfold small; rw [L_len]; (first | lia | omega), by unfold small; rw [L_len]; (first | lia | omega), by rw [L_len, L_len]; (first | lia | omega), ?_⟩
    have hsz : (Builtin.Range.rangeSize ((L b).length : Int) ((L a).length : Int) 1).toNat = a.length - b.length := by
      rw [size_up, L_len, L_len]; split <;> (first | lia | omega)
    rw [hsz, L_len]
    rw [List.take_length] at hv
    refine for_go (fun i ρ => ∃ f c v, ρ = envA w a b f c v ∧ f.length = b.length + i ∧ Dg B f ∧ 0 ≤ c ∧ c ≤ 1 ∧ V B f + B ^ (b.length + i) * c = V B (a.take (b.length + i)) + V B b) ⟨f, c, v, rfl, hf, df, c0, c1, hv⟩ (fun i x ρ K hx hI hK => ?_) fun ρ hI => ?_
    · obtain ⟨f, c, v, rfl, hf, df, c0, c1, hv⟩ := hI
      obtain ⟨rfl, hi⟩ := rng_at hx
      obtain ⟨x, e1⟩ : ∃ x, a[b.length + i]? = some x := ⟨_, List.getElem?_eq_getElem (by (first | lia | omega))⟩
      have hx := r.dg.at e1
      rw [show (b.length : Int) + (i : Int) * 1 = ((b.length + i : Nat) : Int) by (first | lia | omega)]
      refine at_L e1 (by (first | lia | omega)) ⟨rfl, .inl (tail_add (ad := ad) (f := f) (by (first | lia | omega)) (by (first | lia | omega)) (hK _ ?_))⟩
      rw [hBe]
      refine ⟨_, _, _, rfl, by rw [List.length_append, hf]; rfl, df.app (Int.emod_nonneg _ (by (first | lia | omega))) (Int.emod_lt_of_pos _ (by (first | lia | omega))), Int.ediv_nonneg (by (first | lia | omega)) (by (first | lia | omega)), ?_, ?_⟩
      · have := div_lt (c := c + x) (B := B) (k := 2) (by (first | lia | omega)) (by (first | lia | omega))
        (first | lia | omega)
      · have h1 := carry (B := B) (c := c + x) (f := f)
        rw [hf] at h1
        rw [← Nat.add_assoc, h1, V_take e1, Int.mul_add]
        (first | lia | omega)
    · obtain ⟨f, c, v, rfl, hf, df, c0, c1, hv⟩ := hI
      rw [rng_len] at hf hv
      rw [show b.length + (a.length - b.length) = a.length by (first | lia | omega)] at hf hv
      rw [List.take_length, r.v, r'.v] at hv
      show (match decide (0 < c) with | true => _ | false => _)
      by_cases h : 0 < c
      · rw [decide_eq_true h]
        have hc1 : c = 1 := by (first | lia | omega)
        subst hc1
        refine ⟨by rw [L_len]; (first | lia | omega), ?_⟩
        show Q (.d (.list (L f ++ [.int 1]))) n
        rw [L_app]
        refine q _ ⟨df.app (by decide) (by (first | lia | omega)), by rw [List.getLast?_concat]; simp, ?_⟩
        rw [V_app, hf]
        simp only [V]
        (first | lia | omega)
      · rw [decide_eq_false h]
        have hc0 : c = 0 := by (first | lia | omega)
        subst hc0
        have hv : V B f = m + m' := by (first | lia | omega)
        refine q _ ⟨df, top_ne hB df fun hne => ?_, hv⟩
        have hna : a ≠ [] := fun e => by rw [e] at hf; exact hne (List.length_eq_zero_iff.mp hf)
        have h1 := V_mono hB r.dg r.nm hna
        have h2 := r'.nn hB
        rw [hf, hv, ← r.v]
        (first | lia | omega)
theorem add_sp (hw : 1 ≤ w) (hw8 : w < 256) {a b : List Int} {m m' : Int} (r : Rep (2 ^ w) a m) (r' : Rep (2 ^ w) b m') (hm : m ≤ 2 ^ 18) (hm' : m' ≤ 2 ^ 18) {n : Nat} {Q : PV → Nat → Prop} (q : ∀ r, Rep (2 ^ w) r (m + m') → Q (.d (.list (L r))) n) {j : Nat} (hj : 1 ≤ j) :
    SL ad Z j (ad "add") [.d (.list (L a)), .d (.list (L b)), dI w] n Q := by
  have hl := r.len (pw2 hw)
  have hl' := r'.len (pw2 hw)
  refine sl (i := 3) (f := x_add) (d := 0) rfl rfl rfl rfl rfl hj fun j _ => ?_
  refine ⟨by rw [L_len]; (first | lia | omega), by rw [L_len]; (first | lia | omega), ?_⟩
  show (match decide (((L a).length : Int) < ((L b).length : Int)) with | true => _ | false => _)
  rw [L_len, L_len]
  by_cases h : a.length < b.length
  · rw [decide_eq_true (by (first | lia | omega))]
    exact add_main (ad := ad) hw hw8 r' r hm' (by (first | lia | omega)) (by rw [Int.add_comm]; exact q)
  · rw [decide_eq_false (by (first | lia | omega))]
    exact add_main (ad := ad) hw hw8 r r' hm (by (first | lia | omega)) q
end

section
variable {ad : Str → Addr} {Z : Spec} {w : Nat}
theorem base_eq (w : Nat) : (1 : Int) * 2 ^ ((w : Nat) : Int).toNat = 2 ^ w := by rw [Int.toNat_natCast, Int.one_mul]
theorem V_take0 {B : Int} {l : List Int} {i : Nat} (h : l.length ≤ i) : V B (l.take (i + 1)) = V B (l.take i) := by
  rw [List.take_of_length_le (by (first | lia | omega)), List.take_of_length_le (by omega)]
noncomputable def envS (w : Nat) (a b f : List Int) (c : Int) (u v : Option Var) : REnv := [some (.val (.d (.list (L a)))), some (.val (.d (.list (L b)))), some (.val (dI w)), some (.own (L f)), some (.val (dI c)), some (.val (dI (1 * 2 ^ ((w : Nat) : Int).toNat))), u, v]
/-- the turn's end, x the limb -/
theorem sub_tail {S : Spec} {a b f : List Int} {c x : Int} {u : Option Var} {n : Nat} {N : REnv → Nat → Prop} {R : PV → Nat → Prop} (hf : f.length ≤ 2 ^ 20)
    (q : ∀ y c', (x < 0 → y = x + 2 ^ w ∧ c' = 1) → (0 ≤ x → y = x ∧ c' = 0) → N (envS w a b (f ++ [y]) c' u (some (.val (dI x)))) n) :
    exLP S (drp (bodyOf (nth (x_sub ad) 2)) 1) (envS w a b f c u (some (.val (dI x)))) n N R := by
  show (match decide (x < 0) with | true => _ | false => _)
  by_cases h : x < 0
  · have := q (x + 2 ^ w) 1 (fun _ => ⟨rfl, rfl⟩) fun q => absurd h (by (first | lia | omega))
    rw [← base_eq] at this
    have e := decide_eq_true h
    rw [e]
    show (match decide (x < 0) with | true => _ | false => _)
    rw [e]
    exact .inl ⟨by rw [L_len]; exact hf, by rw [L_app]; exact this⟩
  · have := q x 0 (fun q => absurd q h) fun _ => ⟨rfl, rfl⟩
    have e := decide_eq_false h
    rw [e]
    show (match decide (x < 0) with | true => _ | false => _)
    rw [e]
    exact ⟨by rw [L_len]; exact hf, by rw [L_app]; exact this⟩
theorem sub_sp (hw : 1 ≤ w) (hw8 : w < 256) {a b : List Int} {m m' : Int} (r : Rep (2 ^ w) a m) (r' : Rep (2 ^ w) b m') (hm : m ≤ 2 ^ 18) (hle : m' ≤ m) {n : Nat} {Q : PV → Nat → Prop} (q : ∀ r, Rep (2 ^ w) r (m - m') → Q (.d (.list (L r))) n) {j : Nat} (hj : 2 ≤ j) :
    SL ad Z j (ad "sub") [.d (.list (L a)), .d (.list (L b)), dI w] n Q := by
  have hB := pw2 hw
  have hla := r.len hB
  have hlb := r'.len hB
  have hlen : b.length ≤ a.length := by
    refine Nat.le_of_not_lt fun h => ?_
    have := V_short hB r.dg r'.dg r'.nm h
    rw [r.v, r'.v] at this
    (first | lia | omega)
  refine sl (i := 4) (f := x_sub) (d := 1) rfl rfl rfl rfl rfl hj fun j hj => ?_
  refine compare_sp hB r r' (by (first | lia | omega)) (by (first | lia | omega)) (fun c hc => ?_) hj
  show (match decide (c < 0) with | true => _ | false => _)
  rw [decide_eq_false fun h => by have := hc.mp h; (first | lia | omega)]
  refine ⟨by (first | lia | omega), by (first | lia | omega), by decide, ?_⟩
  refine ⟨by rw [L_len]; (first | lia | omega), ⟨by unfold small; rw [L_len]; (first | lia | omega), by rw [L_len]; (first | lia | omega), ?_⟩⟩
  rw [L_len, size_up0]
  generalize hBe : (2 : Int) ^ w = B at *
  refine for_go (fun i ρ => ∃ f c u v, ρ = envS w a b f c u v ∧ f.length = i ∧ Dg B f ∧ 0 ≤ c ∧ c ≤ 1 ∧ V B f - B ^ i * c = V B (a.take i) - V B (b.take i)) ⟨[], 0, none, none, rfl, rfl, fun _ h => (nomatch h), by (first | lia | omega), by (first | lia | omega), by simp [V]⟩ (fun i x ρ K hx hI hK => ?_) fun ρ hI => ?_
  · obtain ⟨f, c, u, v, rfl, hf, df, c0, c1, hv⟩ := hI
    obtain ⟨rfl, hi⟩ := rng_at hx
    obtain ⟨x, e1⟩ : ∃ x, a[i]? = some x := ⟨_, List.getElem?_eq_getElem (by omega)⟩
    have hx := r.dg.at e1
    rw [show (0 : Int) + (i : Int) * 1 = i by (first | lia | omega)]
    refine at_L e1 (by (first | lia | omega)) ⟨by rw [L_len]; (first | lia | omega), ?_⟩
    have fin : ∀ y : Int, 0 ≤ y → y < B → V B (b.take (i + 1)) = V B (b.take i) + B ^ i * y → exLP (SL ad Z j) (drp (bodyOf (nth (x_sub ad) 2)) 1) (envS w a b f c (some (.val (dI i))) (some (.val (dI (x - c - y))))) n K Q := fun y hy0 hy1 hy => by
      refine sub_tail (by (first | lia | omega)) fun z c' h1 h2 => hK _ ?_
      rw [hBe] at h1
      have hz : 0 ≤ z ∧ z < B ∧ 0 ≤ c' ∧ c' ≤ 1 ∧ z = x - c - y + B * c' := by
        by_cases h : x - c - y < 0
        · obtain ⟨rfl, rfl⟩ := h1 h
          (first | lia | omega)
        · obtain ⟨rfl, rfl⟩ := h2 (by omega)
          (first | lia | omega)
      refine ⟨_, _, _, _, rfl, by rw [List.length_append, hf]; rfl, df.app hz.1 hz.2.1, hz.2.2.1, hz.2.2.2.1, ?_⟩
      rw [V_app, hf, V_take e1, hy, Int.pow_succ, Int.mul_assoc]
      simp only [V]
      rw [hz.2.2.2.2]
      simp only [Int.mul_add, Int.mul_sub, Int.mul_zero]
      (first | lia | omega)
    show (match decide ((i : Int) < ((L b).length : Int)) with | true => _ | false => _)
    rw [L_len]
    by_cases h : i < b.length
    · rw [decide_eq_true (by (first | lia | omega))]
      obtain ⟨y, e2⟩ : ∃ y, b[i]? = some y := ⟨_, List.getElem?_eq_getElem (by omega)⟩
      have hy := r'.dg.at e2
      exact at_L e2 (by (first | lia | omega)) (fin y hy.1 hy.2 (V_take e2))
    · rw [decide_eq_false (by (first | lia | omega))]
      exact fin 0 (by (first | lia | omega)) (by (first | lia | omega)) (by rw [V_take0 (by (first | lia | omega))]; (first | lia | omega))
  · obtain ⟨f, c, u, v, rfl, hf, df, c0, c1, hv⟩ := hI
    rw [rng_len] at hf hv
    rw [List.take_length, List.take_of_length_le hlen, r.v, r'.v] at hv
    have h1 := V_lt hB f df
    rw [hf] at h1
    have hc0 : c = 0 := by
      by_cases h : c = 1
      · subst h; (first | lia | omega)
      · (first | lia | omega)
    subst hc0
    refine normal_sp (by (first | lia | omega)) df (fun s hs => ?_) hj
    rw [show V B f = m - m' by (first | lia | omega)] at hs
    exact q s hs
end

theorem enm_at : ∀ {l : List PyData} {k : Int} {i : Nat} {x : PyData}, (enmFrom k l)[i]? = some x → ∃ y, l[i]? = some y ∧ x = .tuple [.int (k + i), y]
  | [], k, i, x, h => by cases h
  | y :: l, k, 0, x, h => by
    cases Option.some.inj h
    exact ⟨y, rfl, by rw [show k + ((0 : Nat) : Int) = k by (first | lia | omega)]⟩
  | y :: l, k, i + 1, x, h => by
    obtain ⟨z, h1, h2⟩ := enm_at (l := l) (k := k + 1) (i := i) (x := x) h
    exact ⟨z, h1, by rw [h2, show k + 1 + (i : Int) = k + ((i + 1 : Nat) : Int) by (first | lia | omega)]⟩
theorem enm_len : ∀ (l : List PyData) (k : Int), (enmFrom k l).length = l.length
  | [], _ => rfl
  | x :: l, k => by rw [enmFrom, List.length_cons, enm_len l, List.length_cons]
theorem enm_L {l : List Int} {i : Nat} {x : PyData} (h : (enmFrom 0 (L l))[i]? = some x) : ∃ y, l[i]? = some y ∧ x = .tuple [.int i, .int y] := by
  obtain ⟨y, h1, rfl⟩ := enm_at h
  unfold L at h1
  rw [List.getElem?_map] at h1
  obtain ⟨z, h2, rfl⟩ := Option.map_eq_some_iff.mp h1
  exact ⟨z, h2, by rw [Int.zero_add]⟩
theorem V_set {B : Int} : ∀ {l : List Int} {k : Nat} {x : Int} (y : Int), l[k]? = some x → V B (l.set k y) = V B l + B ^ k * (y - x)
  | [], k, x, y, h => by cases h
  | z :: l, 0, x, y, h => by
    cases Option.some.inj h
    rw [List.set_cons_zero, V, V, Int.pow_zero]
    (first | lia | omega)
  | z :: l, k + 1, x, y, h => by
    rw [List.set_cons_succ, V, V, V_set (l := l) (k := k) y h, Int.mul_add, ← Int.mul_assoc, Int.pow_succ', Int.add_assoc]
theorem Dg.set {B : Int} {l : List Int} (h : Dg B l) (k : Nat) {y : Int} (h0 : 0 ≤ y) (h1 : y < B) : Dg B (l.set k y) := fun z hz => by
  rcases List.mem_or_eq_of_mem_set hz with q | rfl
  · exact h z q
  · exact ⟨h0, h1⟩
theorem L_set (l : List Int) (k : Nat) (y : Int) : (L l).set k (.int y) = L (l.set k y) := by unfold L; rw [List.map_set]
theorem V_rep (B : Int) : ∀ k, V B (List.replicate k 0) = 0
  | 0 => rfl
  | k + 1 => by rw [List.replicate_succ, V, V_rep B k]; (first | lia | omega)
section
variable {ad : Str → Addr} {Z : Spec} {w : Nat}
noncomputable def envM (w : Nat) (a b f : List Int) (v5 v6 v7 v8 v9 : Option Var) : REnv := [some (.val (.d (.list (L a)))), some (.val (.d (.list (L b)))), some (.val (dI w)), some (.own (L f)), some (.val (dI (mk w))), v5, v6, v7, v8, v9]
theorem envM_set {a b f : List Int} {k : Nat} {y : Int} {v5 v6 v7 v8 v9 : Option Var} : envM w a b (f.set k y) v5 v6 v7 v8 v9 = [some (.val (.d (.list (L a)))), some (.val (.d (.list (L b)))), some (.val (dI w)), some (.own ((L f).set k (.int y))), some (.val (dI (mk w))), v5, v6, v7, v8, v9] := by
  rw [L_set]; rfl
theorem mul_tail {S : Spec} {a b f : List Int} {c i s : Int} {v6 v9 : Option Var} {n : Nat} {N : REnv → Nat → Prop} {R : PV → Nat → Prop} (hf : f.length ≤ 2 ^ 20) (hc : 0 ≤ c) (h0 : 0 ≤ i + s) (h1 : i + s < f.length)
    (q : N (envM w a b (f.set (i + s).toNat (c % 2 ^ w)) (some (.val (dI i))) v6 (some (.val (dI (c / 2 ^ w)))) (some (.val (dI s))) v9) n) :
    exLP S (drp (bodyOf (nth (bodyOf (nth (x_mul_school ad) 1)) 1)) 1) (envM w a b f (some (.val (dI i))) v6 (some (.val (dI c))) (some (.val (dI s))) v9) n N R := by
  rw [← band hc, ← shr, envM_set] at q
  exact .inl ⟨h0, by rw [L_len]; exact h1, by rw [L_len]; exact hf, rfl, by (first | lia | omega), q⟩
theorem big_lt {B x y c d : Int} (hB : 2 ≤ B) (x0 : 0 ≤ x) (x1 : x < B) (y0 : 0 ≤ y) (y1 : y < B) (c0 : 0 ≤ c) (c1 : c < B) (d0 : 0 ≤ d) (d1 : d < B) : 0 ≤ c + (d + x * y) ∧ c + (d + x * y) < B * B := by
  have h1 := Int.mul_nonneg x0 y0
  have h2 : x * y ≤ (B - 1) * (B - 1) := Int.mul_le_mul (by (first | lia | omega)) (by (first | lia | omega)) y0 (by (first | lia | omega))
  have h3 : (B - 1) * (B - 1) = B * B - 2 * B + 1 := by rw [Int.mul_sub, Int.sub_mul]; (first | lia | omega)
  (first | lia | omega)
theorem at_own {l : List Int} {k : Int} {x : Int} (h0 : 0 ≤ k) (e : l[k.toNat]? = some x) (hl : l.length ≤ 2 ^ 24) {Q : PV → Prop} (q : Q (dI x)) : idxP (.d (.list (L l))) (dI k) Q :=
  idx_l (y := .int x) h0 (L_at e) (by rw [L_len]; omega) q
theorem mul_sp (hw : 1 ≤ w) (hw8 : w ≤ 8) {a b : List Int} {m m' : Int} (r : Rep (2 ^ w) a m) (r' : Rep (2 ^ w) b m') (hm : m ≤ 2 ^ 18) (hm' : m' ≤ 2 ^ 18) {n : Nat} {Q : PV → Nat → Prop} (q : ∀ r, Rep (2 ^ w) r (m * m') → Q (.d (.list (L r))) n) {j : Nat} (hj : 2 ≤ j) :
    SL ad Z j (ad "mul_school") [.d (.list (L a)), .d (.list (L b)), dI w] n Q := by
  have hB := pw2 hw
  have hla := r.len hB
  have hlb := r'.len hB
  have hB8 : (2 : Int) ^ w ≤ 256 := pow_le (b := 2) (by decide) hw8
  refine sl (i := 23) (f := x_mul_school) (d := 1) rfl rfl rfl rfl rfl hj fun j hj => ?_
  refine ⟨by rw [L_len]; (first | lia | omega), by rw [L_len]; (first | lia | omega), .inl ⟨by rw [L_len, L_len]; (first | lia | omega), by rw [L_len, L_len]; (first | lia | omega), rfl, by (first | lia | omega), by (first | lia | omega), by decide, ?_⟩⟩
  have hrep : (List.replicate (((L a).length : Int) + ((L b).length : Int)).toNat [PyData.int 0]).flatten = L (List.replicate (a.length + b.length) 0) := by
    rw [List.flatten_replicate_singleton, L_len, L_len]
    unfold L
    rw [List.map_replicate]
    congr 1
  rw [hrep]
  refine ⟨by rw [L_len]; (first | lia | omega), ?_⟩
  generalize hBe : (2 : Int) ^ w = B at *
  refine for_go (fun i ρ => ∃ f v5 v6 v7 v8 v9, ρ = envM w a b f v5 v6 v7 v8 v9 ∧ f.length = a.length + b.length ∧ Dg B f ∧ V B f = V B (a.take i) * V B b ∧ ∀ k, i + b.length ≤ k → k < a.length + b.length → f[k]? = some 0)
    ⟨List.replicate (a.length + b.length) 0, none, none, none, none, none, rfl, List.length_replicate .., fun x hx => ?_, ?_, fun k _ hk => ?_⟩ (fun i x ρ K hx hI hK => ?_) fun ρ hI => ?_
  · rw [(List.mem_replicate.mp hx).2]; (first | lia | omega)
  · rw [V_rep]; simp [V]
  · rw [List.getElem?_replicate, if_pos hk]
  · obtain ⟨f, v5, v6, v7, v8, v9, rfl, hf, df, hv, hz⟩ := hI
    have hi : i < a.length := by
      have := (List.getElem?_eq_some_iff.mp hx).1
      rwa [enm_len, L_len] at this
    obtain ⟨x, e1, rfl⟩ := enm_L hx
    have hx := r.dg.at e1
    refine ⟨rfl, ?_⟩
    refine ⟨by rw [L_len]; (first | lia | omega), ?_⟩
    refine for_go (fun s ρ => ∃ f c v8 v9, ρ = envM w a b f (some (.val (dI i))) (some (.val (dI x))) (some (.val (dI c))) v8 v9 ∧ f.length = a.length + b.length ∧ Dg B f ∧ 0 ≤ c ∧ c < B ∧ V B f + B ^ (i + s) * c = V B (a.take i) * V B b + B ^ i * (x * V B (b.take s)) ∧ ∀ k, i + b.length ≤ k → k < a.length + b.length → f[k]? = some 0)
      ⟨f, 0, v8, v9, rfl, hf, df, by (first | lia | omega), by (first | lia | omega), by rw [hv]; simp [V], hz⟩ (fun s y ρ K hy hI hK => ?_) fun ρ hI => ?_
    · obtain ⟨f, c, v8, v9, rfl, hf, df, c0, c1, hv, hz⟩ := hI
      have hs : s < b.length := by
        have := (List.getElem?_eq_some_iff.mp hy).1
        rwa [enm_len, L_len] at this
      obtain ⟨y, e2, rfl⟩ := enm_L hy
      have hy := r'.dg.at e2
      have ei : ((i : Int) + (s : Int)).toNat = i + s := by (first | lia | omega)
      obtain ⟨d, e3⟩ : ∃ d, f[i + s]? = some d := ⟨_, List.getElem?_eq_getElem (by (first | lia | omega))⟩
      have hd := df.at e3
      have hc := big_lt hB hx.1 hx.2 hy.1 hy.2 c0 c1 hd.1 hd.2
      refine ⟨rfl, .inl (at_own (k := (i : Int) + s) (by (first | lia | omega)) (by rw [ei]; exact e3) (by (first | lia | omega)) ⟨by (first | lia | omega), .inl ⟨rfl, .inl (mul_tail (ad := ad) (by (first | lia | omega)) hc.1 (by (first | lia | omega)) (by (first | lia | omega)) (hK _ ?_))⟩⟩)⟩
      rw [hBe, ei]
      refine ⟨_, _, _, _, rfl, by rw [List.length_set, hf], df.set _ (Int.emod_nonneg _ (by (first | lia | omega))) (Int.emod_lt_of_pos _ (by (first | lia | omega))), Int.ediv_nonneg hc.1 (by (first | lia | omega)), div_lt (by (first | lia | omega)) hc.2, ?_, fun k h1 h2 => ?_⟩
      · rw [V_set _ e3, V_take e2]
        have h1 := Int.emod_add_mul_ediv (c + (d + x * y)) B
        have h2 : B ^ (i + s) * ((c + (d + x * y)) % B - d) + B ^ (i + (s + 1)) * ((c + (d + x * y)) / B) = B ^ (i + s) * (c + x * y) := by
          rw [← Nat.add_assoc, Int.pow_succ, Int.mul_assoc, ← Int.mul_add]
          congr 1
          (first | lia | omega)
        have h3 : B ^ (i + s) * (c + x * y) = B ^ (i + s) * c + B ^ i * (x * (B ^ s * y)) := by
          rw [Int.mul_add, Int.pow_add]
          congr 1
          rw [Int.mul_assoc]
          congr 1
          rw [← Int.mul_assoc, Int.mul_comm (B ^ s) x, Int.mul_assoc]
        rw [Int.mul_add x, Int.mul_add (B ^ i)]
        (first | lia | omega)
      · rw [List.getElem?_set_ne (by (first | lia | omega))]
        exact hz k h1 h2
    · obtain ⟨f, c, v8, v9, rfl, hf, df, c0, c1, hv, hz⟩ := hI
      rw [enm_len, L_len, List.take_length] at hv
      refine ⟨by rw [L_len]; (first | lia | omega), ?_⟩
      rw [L_len b]
      have ei : ((i : Int) + (b.length : Int)).toNat = i + b.length := by (first | lia | omega)
      have e0 := hz (i + b.length) (by (first | lia | omega)) (by (first | lia | omega))
      have fin := hK (envM w a b (f.set (i + b.length) c) (some (.val (dI i))) (some (.val (dI x))) (some (.val (dI c))) v8 v9)
      rw [envM_set, ← ei] at fin
      refine .inl ⟨by (first | lia | omega), by rw [L_len]; (first | lia | omega), by rw [L_len]; (first | lia | omega), fin ?_⟩
      rw [← envM_set, ei]
      refine ⟨_, _, _, _, _, _, rfl, by rw [List.length_set, hf], df.set _ c0 c1, ?_, fun k h1 h2 => ?_⟩
      · rw [V_set _ e0, V_take e1, Int.sub_zero, hv, Int.add_mul, Int.mul_assoc]
      · rw [List.getElem?_set_ne (by (first | lia | omega))]
        exact hz k (by (first | lia | omega)) h2
  · obtain ⟨f, v5, v6, v7, v8, v9, rfl, hf, df, hv, hz⟩ := hI
    rw [enm_len, L_len, List.take_length, r.v, r'.v] at hv
    exact normal_sp (by (first | lia | omega)) df (fun s hs => q s (hv ▸ hs)) hj
end

section
variable {ad : Str → Addr} {Z : Spec} {w : Nat}
theorem p2 (w : Nat) : (2 : Int) ^ ((w : Nat) : Int).toNat = 2 ^ w := by rw [Int.toNat_natCast]
theorem limbs_loop (hw : 1 ≤ w) (hw8 : w ≤ 8) (S : Spec) (x : Int) (hx : x ≤ 2 ^ 18) (n : Nat) (N : REnv → Nat → Prop) (R : PV → Nat → Prop)
    (hN : ∀ r y, Rep (2 ^ w) r x → N [some (.val (dI y)), some (.val (dI w)), some (.own (L r))] n) : ∀ (k : Nat) (y : Int) (f : List Int), 0 ≤ y → y < k → Dg (2 ^ w) f → V (2 ^ w) f + (2 ^ w) ^ f.length * y = x → (y = 0 → f.getLast? ≠ some 0) → f.length + y ≤ x →
      whG (fun ρ n Q => tsP S (testOf (nth (x_law_limbs ad) 1)) ρ n Q) (fun ρ n N R => exLP S (bodyOf (nth (x_law_limbs ad) 1)) ρ n N R) k [some (.val (dI y)), some (.val (dI w)), some (.own (L f))] n N R
  | 0, y, f, h0, h1, _, _, _, _ => by (first | lia | omega)
  | k + 1, y, f, h0, h1, df, hv, hl, hlen => by
    have hB := pw2 hw
    have hB8 : (2 : Int) ^ w ≤ 256 := pow_le (b := 2) (by decide) hw8
    show (match decide (0 < y) with | true => _ | false => _)
    by_cases h : 0 < y
    · rw [decide_eq_true h]
      have e1 : y.fmod (2 ^ ((w : Nat) : Int).toNat) = y % 2 ^ w := by rw [p2, Int.fmod_eq_emod_of_nonneg _ (by (first | lia | omega))]
      have e2 : y.fdiv (2 ^ ((w : Nat) : Int).toNat) = y / 2 ^ w := by rw [p2, Int.fdiv_eq_ediv_of_nonneg _ (by (first | lia | omega))]
      have hne : (2 : Int) ^ ((w : Nat) : Int).toNat ≠ 0 := by rw [p2]; (first | lia | omega)
      have e3 := carry (B := 2 ^ w) (c := y) (f := f)
      have hdl : y / 2 ^ w < y := Int.ediv_lt_self_of_pos_of_ne_one h (by (first | lia | omega))
      have ih := limbs_loop hw hw8 S x hx n N R hN k (y / 2 ^ w) (f ++ [y % 2 ^ w]) (Int.ediv_nonneg h0 (by (first | lia | omega))) (by (first | lia | omega)) (df.app (Int.emod_nonneg _ (by (first | lia | omega))) (Int.emod_lt_of_pos _ (by (first | lia | omega))))
        (by rw [List.length_append, List.length_cons, List.length_nil, Nat.zero_add, e3, hv]) (fun hz => ?_) (by rw [List.length_append, List.length_cons, List.length_nil]; (first | lia | omega))
      · rw [← e1, ← e2, ← L_app] at ih
        exact ⟨by decide, by (first | lia | omega), by (first | lia | omega), hne, by rw [L_len]; (first | lia | omega), by decide, by (first | lia | omega), by (first | lia | omega), hne, by rw [p2]; (first | lia | omega), ih⟩
      · rw [List.getLast?_concat]
        intro q
        have := Int.emod_add_mul_ediv y (2 ^ w)
        rw [hz, Option.some.inj q] at this
        (first | lia | omega)
    · rw [decide_eq_false h]
      have hy : y = 0 := by (first | lia | omega)
      subst hy
      exact hN f 0 ⟨df, hl rfl, by (first | lia | omega)⟩
theorem limbs_sp (hw : 1 ≤ w) (hw8 : w ≤ 8) {x : Int} (h0 : 0 ≤ x) (hx : x ≤ 2 ^ 18) {n : Nat} {Q : PV → Nat → Prop} (q : ∀ r, Rep (2 ^ w) r x → Q (.d (.list (L r))) n) {j : Nat} (hj : 1 ≤ j) :
    SL ad Z j (ad "_law_limbs") [dI x, dI w] n Q := by
  refine sl (i := 31) (f := x_law_limbs) (d := 0) rfl rfl rfl rfl rfl hj fun j _ => ?_
  exact ⟨x.toNat + 1, limbs_loop (ad := ad) hw hw8 _ x hx n _ _ (fun r y hr => q r hr) _ x [] h0 (by (first | lia | omega)) (fun _ h => (nomatch h)) (by simp [V]) (fun _ => by simp) (by simp)⟩

/-- a signed number -/
noncomputable def Sg (w : Nat) (p : PyData) (x : Int) : Prop := ∃ r, Rep (2 ^ w) r (x.natAbs : Int) ∧ p = .tuple [.bool (decide (x < 0)), .list (L r)]
theorem Sg.uniq (hw : 1 ≤ w) {p q : PyData} {x : Int} (a : Sg w p x) (b : Sg w q x) : p = q := by
  obtain ⟨r, h1, rfl⟩ := a
  obtain ⟨s, h2, rfl⟩ := b
  rw [h1.uniq (pw2 hw) h2]
theorem t0 {a b : PyData} {Q : PV → Prop} (q : Q (.d a)) : idxP (.d (.tuple [a, b])) (dI 0) Q := idx_t (k := 0) (by decide) rfl (by decide : 2 ≤ 2 ^ 24) q
theorem t1 {a b : PyData} {Q : PV → Prop} (q : Q (.d b)) : idxP (.d (.tuple [a, b])) (dI 1) Q := idx_t (k := 1) (by decide) rfl (by decide : 2 ≤ 2 ^ 24) q
theorem signedL_sp (hw : 1 ≤ w) (hw8 : w ≤ 8) {x : Int} (hx : (x.natAbs : Int) ≤ 2 ^ 18) {n : Nat} {Q : PV → Nat → Prop} (q : ∀ p, Sg w p x → Q (.d p) n) {j : Nat} (hj : 2 ≤ j) :
    SL ad Z j (ad "_law_signed") [dI x, dI w] n Q := by
  refine sl (i := 32) (f := x_law_signed) (d := 1) rfl rfl rfl rfl rfl hj fun j hj => ?_
  have e : (if x < 0 then -x else x) = (x.natAbs : Int) := by split <;> (first | lia | omega)
  show SL ad Z j (ad "_law_limbs") [dI (if x < 0 then -x else x), dI w] n _
  rw [e]
  exact limbs_sp hw hw8 (by (first | lia | omega)) hx (fun r hr => q (.tuple [.bool (decide (x < 0)), .list (L r)]) ⟨r, hr, rfl⟩) hj
theorem signed_sp (hw : 1 ≤ w) {c : Bool} {r : List Int} {m : Int} (hr : Rep (2 ^ w) r m) (hm : m ≤ 2 ^ 20) {n : Nat} {Q : PV → Nat → Prop} (q : ∀ p, Sg w p (if c then -m else m) → Q (.d p) n) {j : Nat} (hj : 1 ≤ j) :
    SL ad Z j (ad "signed") [dB c, .d (.list (L r))] n Q := by
  refine sl (i := 24) (f := x_signed) (d := 0) rfl rfl rfl rfl rfl hj fun j hj => ?_
  have h0 := hr.nn (pw2 hw)
  have hl := hr.len (pw2 hw)
  cases c with
  | false =>
    refine q _ ⟨r, ?_, ?_⟩
    · rw [if_neg Bool.false_ne_true, Int.natAbs_of_nonneg h0]; exact hr
    · rw [if_neg Bool.false_ne_true, decide_eq_false (by (first | lia | omega))]
  | true =>
    refine ⟨by rw [L_len]; (first | lia | omega), ?_⟩
    refine q _ ⟨r, ?_, ?_⟩
    · rw [if_pos rfl, Int.natAbs_neg, Int.natAbs_of_nonneg h0]; exact hr
    · rw [if_pos rfl, L_len]
      congr 3
      have : (0 : Int) < (r.length : Int) ↔ -m < 0 := by
        cases r with
        | nil =>
          have := hr.v
          simp only [V] at this
          simp only [List.length_nil]
          (first | lia | omega)
        | cons x r => rw [List.length_cons] at hl ⊢; (first | lia | omega)
      exact decide_eq_decide.mpr this
theorem neg_sp (hw : 1 ≤ w) {p : PyData} {x : Int} (h : Sg w p x) (hx : (x.natAbs : Int) ≤ 2 ^ 18) {n : Nat} {Q : PV → Nat → Prop} (q : ∀ p, Sg w p (-x) → Q (.d p) n) {j : Nat} (hj : 2 ≤ j) :
    SL ad Z j (ad "s_neg") [.d p] n Q := by
  obtain ⟨r, hr, rfl⟩ := h
  refine sl (i := 25) (f := x_s_neg) (d := 1) rfl rfl rfl rfl rfl hj fun j hj => ?_
  refine t0 (t1 (signed_sp hw (c := !decide (x < 0)) hr (by (first | lia | omega)) (fun p hp => q p ?_) hj))
  have e : (if (!decide (x < 0)) = true then -(x.natAbs : Int) else x.natAbs) = -x := by
    by_cases h : x < 0
    · rw [decide_eq_true h]; simp only [Bool.not_true, if_neg Bool.false_ne_true]; (first | lia | omega)
    · rw [decide_eq_false h]; simp only [Bool.not_false, if_pos]; (first | lia | omega)
  rwa [e] at hp
theorem sadd_sp (hw : 1 ≤ w) (hw8 : w ≤ 8) {p p' : PyData} {x y : Int} (h : Sg w p x) (h' : Sg w p' y) (hx : (x.natAbs : Int) ≤ 2 ^ 18) (hy : (y.natAbs : Int) ≤ 2 ^ 18) {n : Nat} {Q : PV → Nat → Prop} (q : ∀ p, Sg w p (x + y) → Q (.d p) n) {j : Nat} (hj : 3 ≤ j) :
    SL ad Z j (ad "s_add") [.d p, .d p', dI w] n Q := by
  obtain ⟨r, hr, rfl⟩ := h
  obtain ⟨r', hr', rfl⟩ := h'
  refine sl (i := 26) (f := x_s_add) (d := 2) rfl rfl rfl rfl rfl hj fun j hj => ?_
  refine t0 (t0 ⟨rfl, rfl, ?_⟩)
  show (match (decide (x < 0) == decide (y < 0)) with | true => _ | false => _)
  cases hs : (decide (x < 0) == decide (y < 0)) with
  | true =>
    refine t0 (t1 (t1 (add_sp hw (by (first | lia | omega)) hr hr' hx hy (fun s hs' => signed_sp hw hs' (by (first | lia | omega)) (fun p hp => q p ?_) (by (first | lia | omega))) (by (first | lia | omega)))))
    have e : (if decide (x < 0) = true then -((x.natAbs : Int) + y.natAbs) else x.natAbs + y.natAbs) = x + y := by
      have hs := eq_of_beq hs
      by_cases h : x < 0
      · have : y < 0 := of_decide_eq_true (hs ▸ decide_eq_true h)
        rw [if_pos (decide_eq_true h)]; (first | lia | omega)
      · have : ¬ y < 0 := of_decide_eq_false (hs ▸ decide_eq_false h)
        rw [if_neg (by rw [decide_eq_false h]; exact Bool.false_ne_true)]; (first | lia | omega)
    rwa [e] at hp
  | false =>
    have hd : x < 0 ∧ ¬ y < 0 ∨ ¬ x < 0 ∧ y < 0 := by
      by_cases h1 : x < 0 <;> by_cases h2 : y < 0
      · rw [decide_eq_true h1, decide_eq_true h2] at hs; cases hs
      · exact .inl ⟨h1, h2⟩
      · exact .inr ⟨h1, h2⟩
      · rw [decide_eq_false h1, decide_eq_false h2] at hs; cases hs
    refine t1 (t1 (compare_sp (pw2 hw) hr hr' (by (first | lia | omega)) (by (first | lia | omega)) (fun c hc => ?_) (by (first | lia | omega))))
    have sg : ∀ {z : Int} {c : Bool} {u v : Int}, c = decide (z < 0) → (z < 0 → -(u - v) = x + y) → (¬ z < 0 → u - v = x + y) → (if c = true then -(u - v) else u - v) = x + y := fun {z c u v} e a b => by
      subst e
      by_cases h : z < 0
      · rw [if_pos (decide_eq_true h)]; exact a h
      · rw [if_neg (by rw [decide_eq_false h]; exact Bool.false_ne_true)]; exact b h
    show (match decide (c < 0) with | true => _ | false => _)
    by_cases h : c < 0
    · rw [decide_eq_true h]
      have := hc.mp h
      refine t0 (t1 (t1 (sub_sp hw (by (first | lia | omega)) hr' hr hy (by (first | lia | omega)) (fun s hs' => signed_sp hw hs' (by (first | lia | omega)) (fun p hp => q p ?_) (by (first | lia | omega))) (by (first | lia | omega)))))
      rwa [sg rfl (by (first | lia | omega)) (by (first | lia | omega))] at hp
    · rw [decide_eq_false h]
      have := fun z => h (hc.mpr z)
      refine t0 (t1 (t1 (sub_sp hw (by (first | lia | omega)) hr hr' hx (by (first | lia | omega)) (fun s hs' => signed_sp hw hs' (by (first | lia | omega)) (fun p hp => q p ?_) (by (first | lia | omega))) (by (first | lia | omega)))))
      rwa [sg rfl (by (first | lia | omega)) (by (first | lia | omega))] at hp
theorem ssub_sp (hw : 1 ≤ w) (hw8 : w ≤ 8) {p p' : PyData} {x y : Int} (h : Sg w p x) (h' : Sg w p' y) (hx : (x.natAbs : Int) ≤ 2 ^ 18) (hy : (y.natAbs : Int) ≤ 2 ^ 18) {n : Nat} {Q : PV → Nat → Prop} (q : ∀ p, Sg w p (x - y) → Q (.d p) n) {j : Nat} (hj : 4 ≤ j) :
    SL ad Z j (ad "s_sub") [.d p, .d p', dI w] n Q := by
  refine sl (i := 27) (f := x_s_sub) (d := 3) rfl rfl rfl rfl rfl hj fun j hj => ?_
  exact neg_sp hw h' hy (fun s hs => sadd_sp hw hw8 h hs hx (by omega) (fun p hp => q p (by rwa [← Int.sub_eq_add_neg] at hp)) hj) (by (first | lia | omega))
theorem smul_sp (hw : 1 ≤ w) (hw8 : w ≤ 8) {p p' : PyData} {x y : Int} (h : Sg w p x) (h' : Sg w p' y) (hx : (x.natAbs : Int) ≤ 2 ^ 18) (hy : (y.natAbs : Int) ≤ 2 ^ 18) (hxy : ((x * y).natAbs : Int) ≤ 2 ^ 18) {n : Nat} {Q : PV → Nat → Prop} (q : ∀ p, Sg w p (x * y) → Q (.d p) n) {j : Nat} (hj : 3 ≤ j) :
    SL ad Z j (ad "s_mul") [.d p, .d p', dI w, .fn (ad "mul_school")] n Q := by
  obtain ⟨r, hr, rfl⟩ := h
  obtain ⟨r', hr', rfl⟩ := h'
  refine sl (i := 28) (f := x_s_mul) (d := 2) rfl rfl rfl rfl rfl hj fun j hj => ?_
  have e0 : (x.natAbs : Int) * (y.natAbs : Int) = ((x * y).natAbs : Int) := by rw [Int.natAbs_mul, Int.natCast_mul]
  refine t0 (t0 ⟨rfl, rfl, t1 (t1 (mul_sp hw hw8 hr hr' hx hy (fun s hs => ?_) hj))⟩)
  rw [e0] at hs
  refine signed_sp hw (c := !(decide (x < 0) == decide (y < 0))) hs (by (first | lia | omega)) (fun p hp => q p ?_) (by (first | lia | omega))
  have e : (if (!(decide (x < 0) == decide (y < 0))) = true then -((x * y).natAbs : Int) else (x * y).natAbs) = x * y := by
    by_cases h1 : x < 0 <;> by_cases h2 : y < 0
    · rw [decide_eq_true h1, decide_eq_true h2]
      have := Int.mul_nonneg_of_nonpos_of_nonpos (a := x) (b := y) (by (first | lia | omega)) (by (first | lia | omega))
      simp only [BEq.rfl, Bool.not_true, if_neg Bool.false_ne_true]
      (first | lia | omega)
    · rw [decide_eq_true h1, decide_eq_false h2]
      have := Int.mul_nonpos_of_nonpos_of_nonneg (a := x) (b := y) (by (first | lia | omega)) (by (first | lia | omega))
      show -((x * y).natAbs : Int) = x * y
      (first | lia | omega)
    · rw [decide_eq_false h1, decide_eq_true h2]
      have := Int.mul_nonpos_of_nonneg_of_nonpos (a := x) (b := y) (by (first | lia | omega)) (by (first | lia | omega))
      show -((x * y).natAbs : Int) = x * y
      (first | lia | omega)
    · rw [decide_eq_false h1, decide_eq_false h2]
      have := Int.mul_nonneg (a := x) (b := y) (by (first | lia | omega)) (by (first | lia | omega))
      simp only [BEq.rfl, Bool.not_true, if_neg Bool.false_ne_true]
      (first | lia | omega)
  rwa [e] at hp
end

noncomputable def dig (B m : Int) : List Int := @dite _ (∃ r, Rep B r m) (Classical.propDecidable _) (fun h => h.choose) fun _ => []
/-- the signed number x -/
noncomputable def sgD (w : Nat) (x : Int) : PyData := .tuple [.bool (decide (x < 0)), .list (L (dig (2 ^ w) x.natAbs))]
theorem Sg.eq {w : Nat} (hw : 1 ≤ w) {p : PyData} {x : Int} (h : Sg w p x) : p = sgD w x := by
  obtain ⟨r, hr, rfl⟩ := h
  have e : dig (2 ^ w) x.natAbs = r := by
    have h : ∃ r, Rep (2 ^ w) r (x.natAbs : Int) := ⟨r, hr⟩
    unfold dig
    rw [dif_pos h]
    exact h.choose_spec.uniq (pw2 hw) hr
  unfold sgD
  rw [e]
/-- a small number, written -/
noncomputable def num (t : Nat) : PyData := .tuple [.bool false, .list (if t = 0 then [] else [.int t])]
theorem num_sg {w t : Nat} (hw : 3 ≤ w) (ht : t < 8) : Sg w (num t) t := by
  have h8 : (2 : Int) ^ 3 ≤ 2 ^ w := pow_le (b := 2) (by decide) hw
  by_cases h : t = 0
  · subst h
    exact ⟨[], ⟨fun _ h => (nomatch h), by simp, rfl⟩, rfl⟩
  · refine ⟨[(t : Int)], ⟨fun x hx => ?_, ?_, ?_⟩, ?_⟩
    · rw [List.mem_singleton.mp hx]; (first | lia | omega)
    · intro q
      have : (t : Int) = 0 := Option.some.inj q
      (first | lia | omega)
    · simp only [V]; (first | lia | omega)
    · unfold num
      rw [if_neg h, decide_eq_false (by (first | lia | omega))]
      rfl
theorem num_eq {w t : Nat} (hw : 3 ≤ w) (ht : t < 8) : num t = sgD w t := (num_sg hw ht).eq (by (first | lia | omega))

noncomputable def gray (t : Nat) : Nat := t ^^^ (t / 2)
noncomputable def tz (t : Nat) : Nat := if t % 2 = 1 then 0 else if t % 4 = 2 then 1 else 2
noncomputable def wts : List (Nat × Nat) := [3, 4, 5, 6, 7, 8].flatMap fun w => [1, 2, 3, 4, 5, 6, 7].map fun t => (w, t)
noncomputable def wss : List (Nat × Nat) := [3, 4, 5, 6, 7, 8].flatMap fun w => [2, 3].map fun t => (w, t)
noncomputable def boxed (a b : Nat) (p : Nat → Nat → Bool) : Bool := (List.range a).all fun x => (List.range b).all fun y => p x y
theorem boxed_in {a b : Nat} {p : Nat → Nat → Bool} (h : boxed a b p = true) {x y : Nat} (hx : x < a) (hy : y < b) : p x y = true := List.all_eq_true.mp (List.all_eq_true.mp h x (List.mem_range.mpr hx)) y (List.mem_range.mpr hy)
theorem wts_dec : boxed 6 7 (fun w t => wts.contains (w + 3, t + 1)) = true := by kernel_rfl
theorem wss_dec : boxed 6 2 (fun w s => wss.contains (w + 3, s + 2)) = true := by kernel_rfl
theorem wts_in {w t : Nat} (h1 : 3 ≤ w) (h2 : w ≤ 8) (h3 : 1 ≤ t) (h4 : t ≤ 7) : (w, t) ∈ wts := by
  obtain ⟨w, rfl⟩ := Nat.exists_eq_add_of_le' h1
  obtain ⟨t, rfl⟩ := Nat.exists_eq_add_of_le' h3
  exact List.contains_iff_mem.mp (boxed_in wts_dec (Nat.lt_of_add_lt_add_right (Nat.lt_succ_of_le h2)) (Nat.lt_of_add_lt_add_right (Nat.lt_succ_of_le h4)))
theorem wss_in {w s : Nat} (h1 : 3 ≤ w) (h2 : w ≤ 8) (h3 : s = 2 ∨ s = 3) : (w, s) ∈ wss := by
  obtain ⟨w, rfl⟩ := Nat.exists_eq_add_of_le' h1
  have hw := Nat.lt_of_add_lt_add_right (Nat.lt_succ_of_le h2)
  rcases h3 with rfl | rfl
  · exact List.contains_iff_mem.mp (boxed_in wss_dec hw (y := 0) (by decide))
  · exact List.contains_iff_mem.mp (boxed_in wss_dec hw (y := 1) (by decide))
theorem shift_all : wts.map (fun (w, t) => iCall 100 29 [.d (num t), dI (-1), dI w]) = wts.map fun (w, t) => some (.d (num (t / 2))) := by kernel_rfl
theorem xor_all : wts.map (fun (w, t) => iCall 100 21 [.d (num t), .d (num (t / 2)), dI w]) = wts.map fun (w, t) => some (.d (num (gray t))) := by kernel_rfl
theorem trail_all : wts.map (fun (w, t) => iCall 100 10 [.d (.list [.int t]), dI w]) = wts.map fun (w, t) => some (dI (tz t)) := by kernel_rfl
theorem bit_all : wts.map (fun (w, t) => [0, 1, 2].map fun i : Nat => iCall 100 22 [.d (num (gray t)), dI i, dI w]) = wts.map fun (w, t) => [0, 1, 2].map fun i : Nat => some (dI (if (gray t).testBit i then 1 else 0)) := by kernel_rfl
theorem fact_all : wss.map (fun (w, s) => iCall 100 17 [dI s, dI w, .fn 23]) = wss.map fun (w, s) => some (.d (.list [.int (if s = 2 then 2 else 6)])) := by kernel_rfl
noncomputable def ords (s : Nat) : List (List Nat) := if s = 2 then [[0, 1], [1, 0]] else [[0, 1, 2], [0, 2, 1], [1, 0, 2], [1, 2, 0], [2, 0, 1], [2, 1, 0]]
noncomputable def ordD (s : Nat) : List PyData := (ords s).map fun o => .tuple (o.map fun (i : Nat) => .int i)
theorem ord_all : [2, 3].map (fun s : Nat => iCall 100 33 [dI s]) = [2, 3].map fun s => some (.d (.list (ordD s))) := by kernel_rfl

section
variable {ad : Str → Addr} {Z : Spec} {w : Nat}
theorem shift_sp {t : Nat} (h1 : 3 ≤ w) (h2 : w ≤ 8) (h3 : 1 ≤ t) (h4 : t ≤ 7) {n : Nat} {Q : PV → Nat → Prop} (q : Q (.d (num (t / 2))) n) {j : Nat} (hj : 100 ≤ j) : SL ad Z j (ad "s_shift") [.d (num t), dI (-1), dI w] n Q :=
  (snd (ad := ad) (Z := Z) 100).f 29 _ _ (List.map_inj_left.mp shift_all (w, t) (wts_in h1 h2 h3 h4)) j hj n Q q
theorem xor_sp {t : Nat} (h1 : 3 ≤ w) (h2 : w ≤ 8) (h3 : 1 ≤ t) (h4 : t ≤ 7) {n : Nat} {Q : PV → Nat → Prop} (q : Q (.d (num (gray t))) n) {j : Nat} (hj : 100 ≤ j) : SL ad Z j (ad "s_xor") [.d (num t), .d (num (t / 2)), dI w] n Q :=
  (snd (ad := ad) (Z := Z) 100).f 21 _ _ (List.map_inj_left.mp xor_all (w, t) (wts_in h1 h2 h3 h4)) j hj n Q q
theorem trail_sp {t : Nat} (h1 : 3 ≤ w) (h2 : w ≤ 8) (h3 : 1 ≤ t) (h4 : t ≤ 7) {n : Nat} {Q : PV → Nat → Prop} (q : Q (dI (tz t)) n) {j : Nat} (hj : 100 ≤ j) : SL ad Z j (ad "trailing") [.d (.list [.int t]), dI w] n Q :=
  (snd (ad := ad) (Z := Z) 100).f 10 _ _ (List.map_inj_left.mp trail_all (w, t) (wts_in h1 h2 h3 h4)) j hj n Q q
theorem bit_sp {t i : Nat} (h1 : 3 ≤ w) (h2 : w ≤ 8) (h3 : 1 ≤ t) (h4 : t ≤ 7) (h5 : i ≤ 2) {n : Nat} {Q : PV → Nat → Prop} (q : Q (dI (if (gray t).testBit i then 1 else 0)) n) {j : Nat} (hj : 100 ≤ j) : SL ad Z j (ad "s_bit") [.d (num (gray t)), dI i, dI w] n Q :=
  (snd (ad := ad) (Z := Z) 100).f 22 _ _ (List.map_inj_left.mp (List.map_inj_left.mp bit_all (w, t) (wts_in h1 h2 h3 h4)) i (by simp only [List.mem_cons]; (first | lia | omega))) j hj n Q q
theorem fact_sp {s : Nat} (h1 : 3 ≤ w) (h2 : w ≤ 8) (h3 : s = 2 ∨ s = 3) {n : Nat} {Q : PV → Nat → Prop} (q : Q (.d (.list [.int (if s = 2 then 2 else 6)])) n) {j : Nat} (hj : 100 ≤ j) : SL ad Z j (ad "factorial") [dI s, dI w, .fn (ad "mul_school")] n Q :=
  (snd (ad := ad) (Z := Z) 100).f 17 _ _ (List.map_inj_left.mp fact_all (w, s) (wss_in h1 h2 h3)) j hj n Q q
theorem ord_sp {s : Nat} (h3 : s = 2 ∨ s = 3) {n : Nat} {Q : PV → Nat → Prop} (q : Q (.d (.list (ordD s))) n) {j : Nat} (hj : 100 ≤ j) : SL ad Z j (ad "_law_orders") [dI s] n Q :=
  (snd (ad := ad) (Z := Z) 100).f 33 _ _ (List.map_inj_left.mp ord_all s (by simp only [List.mem_cons]; (first | lia | omega))) j hj n Q q
end

/-- a grid: size rows of size numbers from -3 to 3 -/
structure Gd (s : Nat) (G : List (List Int)) : Prop where
  two : s = 2 ∨ s = 3
  len : G.length = s
  row : ∀ r ∈ G, r.length = s
  num : ∀ r ∈ G, ∀ x ∈ r, x.natAbs ≤ 3
noncomputable def rowsD (G : List (List Int)) : List PyData := G.map fun r => .list (L r)
noncomputable def wo (acc : Int) : List (List Int) → List Nat → Int
  | r :: G, i :: o => wo (acc * r.getD i 0) G o
  | _, _ => acc
noncomputable def psum (G : List (List Int)) (acc : Int) : List (List Nat) → Int
  | o :: os => psum G (acc + wo 1 G o) os
  | [] => acc
section
variable {ad : Str → Addr} {Z : Spec} {w : Nat}
theorem plain_in {S : Spec} {n : Nat} {K : REnv → Nat → Prop} {R : PV → Nat → Prop} {v0 v1 v2 : Option Var} : ∀ (G : List (List Int)) (o : List Nat) (acc : Int) (v4 v5 : Option Var), G.length ≤ o.length → (∀ r ∈ G, r.length ≤ 3 ∧ ∀ i ∈ o, i < r.length) → (∀ r ∈ G, ∀ x ∈ r, x.natAbs ≤ 3) → acc.natAbs * 3 ^ G.length ≤ 2 ^ 20 →
    (∀ v4 v5, K [v0, v1, v2, some (.val (dI (wo acc G o))), v4, v5] n) → forG (fun ρ n N R => exLP S (bodyOf (nth (bodyOf (nth (x_law_plain_sum ad) 1)) 1)) ρ n N R) (.tup [4, 5]) (zipItems (rowsD G) (o.map fun (i : Nat) => .int i)) [v0, v1, v2, some (.val (dI acc)), v4, v5] n K R
  | [], o, acc, v4, v5, _, _, _, _, hK => hK v4 v5
  | r :: G, [], acc, v4, v5, h, _, _, _, _ => by simp at h
  | r :: G, i :: o, acc, v4, v5, hl, hi, hx, hb, hK => by
    have hir := (hi r (.head _)).2 i (.head _)
    have e : r[i]? = some (r.getD i 0) := by rw [List.getD_eq_getElem?_getD, List.getElem?_eq_getElem hir]; rfl
    have hx3 := hx r (.head _) _ (List.mem_of_getElem? e)
    have hb' : (acc * r.getD i 0).natAbs * 3 ^ G.length ≤ 2 ^ 20 := by
      rw [Int.natAbs_mul]
      rw [List.length_cons, Nat.pow_succ] at hb
      have := Nat.mul_le_mul_right (3 ^ G.length) (Nat.mul_le_mul_left acc.natAbs hx3)
      have e3 : acc.natAbs * (3 ^ G.length * 3) = acc.natAbs * 3 * 3 ^ G.length := by rw [Nat.mul_assoc, Nat.mul_comm 3]
      (first | lia | omega)
    have hacc : acc.natAbs ≤ 2 ^ 20 := Nat.le_trans (Nat.le_mul_of_pos_right _ (Nat.pow_pos (by decide))) hb
    refine ⟨rfl, at_L e (by have := (hi r (.head _)).1; (first | lia | omega)) ⟨by (first | lia | omega), ?_⟩⟩
    exact plain_in G o _ _ _ (by simpa using hl) (fun r hr => ⟨(hi r (.tail _ hr)).1, fun i h => (hi r (.tail _ hr)).2 i (.tail _ h)⟩) (fun r hr => hx r (.tail _ hr)) hb' hK
theorem plain_out {S : Spec} {n : Nat} {K : REnv → Nat → Prop} {R : PV → Nat → Prop} {s : Nat} {G : List (List Int)} (g : Gd s G) : ∀ (os : List (List Nat)) (acc : Int) (v2 v3 v4 v5 : Option Var), (∀ o ∈ os, o.length = s ∧ ∀ i ∈ o, i < s) →
    (∀ v2 v3 v4 v5, K [some (.val (.d (.list (rowsD G)))), some (.val (dI (psum G acc os))), v2, v3, v4, v5] n) → forG (fun ρ n N R => exLP S (bodyOf (nth (x_law_plain_sum ad) 1)) ρ n N R) (.one 2) (os.map fun o => .tuple (o.map fun (i : Nat) => .int i)) [some (.val (.d (.list (rowsD G)))), some (.val (dI acc)), v2, v3, v4, v5] n K R
  | [], acc, v2, v3, v4, v5, _, hK => hK v2 v3 v4 v5
  | o :: os, acc, v2, v3, v4, v5, ho, hK => by
    have h1 := ho o (.head _)
    have hs := g.two
    have hG := g.len
    have hlen : (rowsD G).length = s := by unfold rowsD; rw [List.length_map, g.len]
    refine .inr ⟨by rw [hlen]; (first | lia | omega), by rw [hlen, List.length_map, h1.1]; (first | lia | omega), ?_⟩
    refine plain_in (ad := ad) G o 1 v4 v5 (by (first | lia | omega)) (fun r hr => ⟨by rw [g.row r hr]; (first | lia | omega), fun i hi => by rw [g.row r hr]; exact h1.2 i hi⟩) g.num (by rw [hG]; rcases hs with rfl | rfl <;> decide) fun u4 u5 => ?_
    exact .inl (plain_out g os (acc + wo 1 G o) _ _ _ _ (fun o h => ho o (.tail _ h)) hK)
theorem ords_ok {s : Nat} (h : s = 2 ∨ s = 3) : ∀ o ∈ ords s, o.length = s ∧ ∀ i ∈ o, i < s := by
  rcases h with rfl | rfl <;> decide
theorem plain_sp {s : Nat} {G : List (List Int)} (g : Gd s G) {n : Nat} {Q : PV → Nat → Prop} (q : Q (dI (psum G 0 (ords s))) n) {j : Nat} (hj : 101 ≤ j) : SL ad Z j (ad "_law_plain_sum") [.d (.list (rowsD G))] n Q := by
  refine sl (i := 34) (f := x_law_plain_sum) (d := 100) rfl rfl rfl rfl rfl hj fun j hj => ?_
  have hs := g.two
  have hlen : (rowsD G).length = s := by unfold rowsD; rw [List.length_map, g.len]
  refine ⟨by rw [hlen]; (first | lia | omega), ?_⟩
  rw [hlen]
  refine ord_sp hs ⟨?_, ?_⟩ hj
  · rcases hs with rfl | rfl <;> decide
  · exact plain_out (ad := ad) g (ords s) 0 _ _ _ _ (ords_ok hs) fun _ _ _ _ => q

/-! ### comprehensions -/
theorem compG_gen {tst : REnv → Nat → (Bool → Nat → Prop) → Prop} {elt : REnv → Nat → (PV → Nat → Prop) → Prop} {t : Tg} {ρ : REnv} {n : Nat} {Q : List PyData → Nat → Prop} (f : PyData → Option PyData) : ∀ (xs acc : List PyData),
    (∀ x ∈ xs, ∀ K : Option PyData → Nat → Prop, K (f x) n → bindT t x ρ fun ρ' => tst ρ' n fun b n => match b with
      | true => elt ρ' n fun p n => match p with
        | .d y => K (some y) n
        | _ => False
      | false => K none n) → Q (acc ++ xs.filterMap f) n → compG tst elt t ρ xs acc n Q
  | [], acc, _, q => by rw [List.filterMap_nil, List.append_nil] at q; exact q
  | x :: xs, acc, h, q => by
    have ih := fun acc => compG_gen (Q := Q) f xs acc fun x hx => h x (.tail _ hx)
    refine h x (.head _) (fun o n => match o with
      | some y => compG tst elt t ρ xs (acc ++ [y]) n Q
      | none => compG tst elt t ρ xs acc n Q) ?_
    rw [List.filterMap_cons] at q
    cases e : f x with
    | none => rw [e] at q; exact ih acc q
    | some y => rw [e] at q; exact ih (acc ++ [y]) (by rw [List.append_assoc]; exact q)
/-- every element is told by f -/
theorem compG_map {elt : REnv → Nat → (PV → Nat → Prop) → Prop} {t : Tg} {ρ : REnv} {n : Nat} {Q : List PyData → Nat → Prop} {α : Type} (c f : α → PyData) : ∀ (xs : List α) (acc : List PyData),
    (∀ x ∈ xs, ∀ K : PV → Nat → Prop, K (.d (f x)) n → bindT t (c x) ρ fun ρ' => elt ρ' n K) → Q (acc ++ xs.map f) n → compG (fun _ n Q => Q true n) elt t ρ (xs.map c) acc n Q
  | [], acc, _, q => by rw [List.map_nil, List.append_nil] at q; exact q
  | x :: xs, acc, h, q => by
    refine h x (.head _) _ ?_
    exact compG_map c f xs (acc ++ [f x]) (fun x hx => h x (.tail _ hx)) (by rw [List.append_assoc]; exact q)

/-! ### what may be compared -/
noncomputable def dep (k : Nat) (d : PyData) : Prop := d.canLay0 = true ∧ d.depth ≤ k
theorem dep_int (i : Int) : dep 1 (.int i) := ⟨rfl, by simp [PyData.depth]⟩
theorem dep_all {k : Nat} : ∀ {l : List PyData}, (∀ d ∈ l, dep k d) → PyData.canLayAll0 l = true ∧ PyData.depthAll l ≤ k
  | [], _ => ⟨rfl, by simp [PyData.depthAll]⟩
  | d :: l, h => by
    have h1 := h d (.head _)
    have h2 := dep_all fun d hd => h d (.tail _ hd)
    refine ⟨by rw [PyData.canLayAll0, h1.1, h2.1]; rfl, ?_⟩
    have := h1.2
    have := h2.2
    rw [PyData.depthAll]
    (first | lia | omega)
theorem dep_list {k : Nat} {l : List PyData} (h : ∀ d ∈ l, dep k d) : dep (k + 1) (.list l) := by
  have := dep_all h
  refine ⟨by rw [PyData.canLay0]; exact this.1, ?_⟩
  rw [PyData.depth]; (first | lia | omega)
theorem dep_tup {k : Nat} {l : List PyData} (h : ∀ d ∈ l, dep k d) : dep (k + 1) (.tuple l) := by
  have := dep_all h
  refine ⟨by rw [PyData.canLay0]; exact this.1, ?_⟩
  rw [PyData.depth]; (first | lia | omega)
theorem dep_up {k m : Nat} {d : PyData} (h : dep k d) (hk : k ≤ m) : dep m d := ⟨h.1, Nat.le_trans h.2 hk⟩
theorem dep_ok {k : Nat} {d : PyData} (h : dep k d) (hk : k ≤ 64) : okD d = true := by
  show (d.canLay0 && decide (d.depth ≤ 64)) = true
  rw [h.1, decide_eq_true (Nat.le_trans h.2 hk)]; rfl
theorem dep_L (l : List Int) : dep 2 (.list (L l)) := dep_list fun d hd => by
  obtain ⟨i, _, rfl⟩ := List.mem_map.mp hd
  exact dep_int i
theorem dep_sg (w : Nat) (x : Int) : dep 3 (sgD w x) := dep_tup fun d hd => by
  rcases List.mem_cons.mp hd with rfl | hd
  · exact ⟨rfl, by simp [PyData.depth]⟩
  · rw [List.mem_singleton.mp hd]; exact dep_L _
theorem eqv_self {k : Nat} {d : PyData} (h : dep k d) : PyData.eqv d d = true := SeqAt.eqv_refl d h.1
end

theorem Rep.ex {B : Int} (hB : 2 ≤ B) : ∀ (k : Nat) (m : Int), 0 ≤ m → m < k → ∃ r, Rep B r m
  | 0, m, h0, h1 => by (first | lia | omega)
  | k + 1, m, h0, h1 => by
    by_cases h : m = 0
    · subst h; exact ⟨[], fun _ h => (nomatch h), by simp, rfl⟩
    · have hlt : m / B < m := Int.ediv_lt_self_of_pos_of_ne_one (by (first | lia | omega)) (by (first | lia | omega))
      obtain ⟨r, hr⟩ := Rep.ex hB k (m / B) (Int.ediv_nonneg h0 (by (first | lia | omega))) (by (first | lia | omega))
      have e := Int.emod_add_mul_ediv m B
      refine ⟨m % B :: r, fun x hx => ?_, ?_, by rw [V, hr.v]; exact e⟩
      · rcases List.mem_cons.mp hx with rfl | hx
        · exact ⟨Int.emod_nonneg _ (by (first | lia | omega)), Int.emod_lt_of_pos _ (by (first | lia | omega))⟩
        · exact hr.dg x hx
      · cases r with
        | nil =>
          intro q
          have h1 := hr.v
          simp only [V] at h1
          have h2 : m % B = 0 := Option.some.inj q
          rw [h2, ← h1] at e
          (first | lia | omega)
        | cons y r => rw [List.getLast?_cons_cons]; exact hr.nm
theorem sg_sg {w : Nat} (hw : 1 ≤ w) (x : Int) : Sg w (sgD w x) x := by
  obtain ⟨r, hr⟩ := Rep.ex (pw2 hw) (x.natAbs + 1) (x.natAbs : Int) (by (first | lia | omega)) (by (first | lia | omega))
  have h : Sg w (.tuple [.bool (decide (x < 0)), .list (L r)]) x := ⟨r, hr, rfl⟩
  exact h.eq hw ▸ h

/-! ### the sets, one after another -/
noncomputable def fb (t : Nat) (x : PyData) : Option PyData := match x with
  | .int k => if (gray t).testBit k.toNat then some x else none
  | _ => none
noncomputable def ins (s t : Nat) : List Int := ((List.range s).filter fun i => (gray t).testBit i).map fun (i : Nat) => (i : Int)
noncomputable def pin (s t : Nat) : Bool := (L (ins s t)).any fun y => PyData.eqv y (.int (tz t))
noncomputable def seenD (s t : Nat) : List PyData := (List.range t).map fun k => .list (L (ins s (k + 1)))
noncomputable def sts : List (Nat × Nat) := [(2, 1), (2, 2), (2, 3), (3, 1), (3, 2), (3, 3), (3, 4), (3, 5), (3, 6), (3, 7)]
theorem sts_dec : boxed 2 7 (fun s t => decide (2 ^ (s + 2) ≤ t + 1) || sts.contains (s + 2, t + 1)) = true := by kernel_rfl
theorem sts_in {s t : Nat} (hs : s = 2 ∨ s = 3) (h1 : 1 ≤ t) (h2 : t < 2 ^ s) : (s, t) ∈ sts := by
  obtain ⟨t, rfl⟩ := Nat.exists_eq_add_of_le' h1
  have key : ∀ k < 2, t < 7 → t + 1 < 2 ^ (k + 2) → (k + 2, t + 1) ∈ sts := fun k hk ht h => by
    have := boxed_in sts_dec hk ht
    rw [decide_eq_false (Nat.not_le_of_lt h)] at this
    exact List.contains_iff_mem.mp this
  rcases hs with rfl | rfl
  · exact key 0 (by decide) (Nat.lt_trans (Nat.lt_of_succ_lt h2) (by decide)) h2
  · exact key 1 (by decide) (Nat.lt_of_succ_lt_succ h2) h2
theorem ins_all : sts.map (fun (s, t) => (rngItems 0 1 s).filterMap (fb t)) = sts.map fun (s, t) => L (ins s t) := by kernel_rfl
theorem seen_all : sts.map (fun (s, t) => (seenD s (t - 1)).any fun y => PyData.eqv y (.list (L (ins s t)))) = sts.map fun (s, t) => false := by kernel_rfl
theorem tz_all : sts.map (fun (s, t) => decide (tz t < s) && (ins s t).all fun k => decide (0 ≤ k) && decide (k < s)) = sts.map fun (s, t) => true := by kernel_rfl
noncomputable def sm (l : List Int) : Int := l.foldr (· + ·) 0
/-- a row's sum over a set -/
noncomputable def rs (r : List Int) (l : List Int) : Int := sm (l.map fun k => r.getD k.toNat 0)
theorem via {p q : Prop} (h : p = q) (hq : q) : p := h ▸ hq
theorem rs_step {s t : Nat} (hs : s = 2 ∨ s = 3) (h1 : 1 ≤ t) (h2 : t < 2 ^ s) {r : List Int} (hr : r.length = s) : rs r (ins s t) = if pin s t = true then rs r (ins s (t - 1)) + r.getD (tz t) 0 else rs r (ins s (t - 1)) - r.getD (tz t) 0 := by
  rcases hs with rfl | rfl
  · match r, hr with
    | [a, b], _ =>
      rcases (by (first | lia | omega) : t = 1 ∨ t = 2 ∨ t = 3) with rfl | rfl | rfl
      · exact via (q := a + 0 = 0 + a) (by kernel_rfl) (by (first | lia | omega))
      · exact via (q := a + (b + 0) = a + 0 + b) (by kernel_rfl) (by (first | lia | omega))
      · exact via (q := b + 0 = a + (b + 0) - a) (by kernel_rfl) (by (first | lia | omega))
  · match r, hr with
    | [a, b, c], _ =>
      rcases (by (first | lia | omega) : t = 1 ∨ t = 2 ∨ t = 3 ∨ t = 4 ∨ t = 5 ∨ t = 6 ∨ t = 7) with rfl | rfl | rfl | rfl | rfl | rfl | rfl
      · exact via (q := a + 0 = 0 + a) (by kernel_rfl) (by (first | lia | omega))
      · exact via (q := a + (b + 0) = a + 0 + b) (by kernel_rfl) (by (first | lia | omega))
      · exact via (q := b + 0 = a + (b + 0) - a) (by kernel_rfl) (by (first | lia | omega))
      · exact via (q := b + (c + 0) = b + 0 + c) (by kernel_rfl) (by (first | lia | omega))
      · exact via (q := a + (b + (c + 0)) = b + (c + 0) + a) (by kernel_rfl) (by (first | lia | omega))
      · exact via (q := a + (c + 0) = a + (b + (c + 0)) - b) (by kernel_rfl) (by (first | lia | omega))
      · exact via (q := c + 0 = a + (c + 0) - a) (by kernel_rfl) (by (first | lia | omega))
theorem sm_le : ∀ {l : List Int}, (∀ x ∈ l, x.natAbs ≤ 3) → (sm l).natAbs ≤ 3 * l.length
  | [], _ => by decide
  | x :: l, h => by
    have h1 := h x (.head _)
    have h2 := sm_le fun y hy => h y (.tail _ hy)
    show (x + sm l).natAbs ≤ _
    rw [List.length_cons]
    omega
theorem ins_len (s t : Nat) : (ins s t).length ≤ s := by
  unfold ins
  rw [List.length_map]
  exact Nat.le_trans (List.length_filter_le ..) (by rw [List.length_range]; exact Nat.le_refl _)
theorem rs_le {s t : Nat} {G : List (List Int)} (g : Gd s G) {r : List Int} (hr : r ∈ G) : (rs r (ins s t)).natAbs ≤ 9 := by
  have h1 : (rs r (ins s t)).natAbs ≤ 3 * ((ins s t).map fun k => r.getD k.toNat 0).length := sm_le fun x hx => by
    obtain ⟨k, _, rfl⟩ := List.mem_map.mp hx
    rw [List.getD_eq_getElem?_getD]
    cases e : r[k.toNat]? with
    | none => decide
    | some y => exact g.num r hr y (List.mem_of_getElem? e)
  rw [List.length_map] at h1
  have h2 := ins_len s t
  have h3 := g.two
  (first | lia | omega)
theorem sum_of : ∀ l : List Int, sumOf (L l) = some (sm l)
  | [] => rfl
  | x :: l => by
    show (sumOf (L l)).map (x + ·) = _
    rw [sum_of l]; rfl
noncomputable def pr (l : List Int) : Int → List (List Int) → Int
  | acc, r :: G => pr l (acc * rs r l) G
  | acc, [] => acc
noncomputable def led (s : Nat) (G : List (List Int)) : Nat → Int
  | 0 => 0
  | t + 1 => if (((s : Int) - ((L (ins s (t + 1))).length : Int)).fmod 2 == 0) = true then led s G t + pr (ins s (t + 1)) 1 G else led s G t - pr (ins s (t + 1)) 1 G
theorem pr_le {s t : Nat} : ∀ {G : List (List Int)} (acc : Int), (∀ r ∈ G, (rs r (ins s t)).natAbs ≤ 9) → (pr (ins s t) acc G).natAbs ≤ acc.natAbs * 9 ^ G.length
  | [], acc, _ => by simp [pr]
  | r :: G, acc, h => by
    have h1 := pr_le (G := G) (acc * rs r (ins s t)) fun r hr => h r (.tail _ hr)
    have h2 := h r (.head _)
    rw [pr, List.length_cons, Nat.pow_succ]
    rw [Int.natAbs_mul] at h1
    have h3 := Nat.mul_le_mul_right (9 ^ G.length) (Nat.mul_le_mul_left acc.natAbs h2)
    have e : acc.natAbs * (9 ^ G.length * 9) = acc.natAbs * 9 * 9 ^ G.length := by rw [Nat.mul_assoc, Nat.mul_comm 9]
    (first | lia | omega)
theorem pr_le9 {s t : Nat} {G : List (List Int)} (g : Gd s G) : (pr (ins s t) 1 G).natAbs ≤ 729 := by
  have := pr_le (s := s) (t := t) (G := G) 1 fun r hr => rs_le g hr
  rw [g.len] at this
  rcases g.two with rfl | rfl <;> simp at this <;> (first | lia | omega)
theorem led_le {s : Nat} {G : List (List Int)} (g : Gd s G) : ∀ t, (led s G t).natAbs ≤ 729 * t
  | 0 => by simp [led]
  | t + 1 => by
    have h1 := led_le g t
    have h2 := pr_le9 (t := t + 1) g
    rw [led]
    split <;> omega

noncomputable def eOf : St → Ex
  | .asg _ e => e
  | _ => .lit .none
noncomputable def sumsD (w : Nat) (G : List (List Int)) (l : List Int) : PyData := .list (G.map fun r => sgD w (rs r l))
noncomputable def rowsS (w : Nat) (G : List (List Int)) : PyData := .list (G.map fun r => .list (r.map (sgD w)))
noncomputable def val (x : PyData) : Option Var := some (.val (.d x))
noncomputable def envL (w s : Nat) (G : List (List Int)) (fd : PyData) (sn : List PyData) (v5 v7 v8 v9 v10 v11 v12 v13 : Option Var) : REnv :=
  [val (.list (rowsD G)), val (.int w), val (.int s), val fd, some (.own sn), v5, val (rowsS w G), v7, v8, v9, v10, v11, v12, v13]
section
variable {ad : Str → Addr} {Z : Spec} {w s : Nat} {G : List (List Int)}
/-- the loop's body -/
noncomputable def ledB (ad : Str → Addr) : StL := bodyOf (nth (x_law_led ad) 2)
theorem mem_sts {s t : Nat} (g : Gd s G) (h1 : 1 ≤ t) (h2 : t < 2 ^ s) : (s, t) ∈ sts ∧ t ≤ 7 := by
  refine ⟨sts_in g.two h1 h2, ?_⟩
  rcases g.two with rfl | rfl <;> (first | lia | omega)
theorem inside_ok (h3 : 3 ≤ w) (h8 : w ≤ 8) (g : Gd s G) {t : Nat} (h1 : 1 ≤ t) (h2 : t < 2 ^ s) {j : Nat} (hj : 100 ≤ j) {fd : PyData} {sn : List PyData} {v5 v7 v8 v9 v11 v12 v13 : Option Var} {n : Nat} {Q : PV → Nat → Prop} (q : Q (.d (.list (L (ins s t)))) n) :
    evP (SL ad Z j) (eOf (nth (ledB ad) 2)) (envL w s G fd sn v5 v7 v8 v9 (val (num (gray t))) v11 v12 v13) n Q := by
  have hs := g.two
  refine ⟨(by unfold small; (first | lia | omega) : small (s : Int)), by (first | lia | omega), ?_⟩
  rw [size_up0]
  obtain ⟨hm, h7⟩ := mem_sts g h1 h2
  have e : (rngItems 0 1 s).filterMap (fb t) = L (ins s t) := List.map_inj_left.mp ins_all (s, t) hm
  refine compG_gen (fb t) _ [] (fun x hx K hK => ?_) (by rw [List.nil_append]; exact e ▸ q)
  obtain ⟨i, hi⟩ := List.mem_iff_getElem?.mp hx
  obtain ⟨rfl, hi⟩ := rng_at hi
  rw [show (0 : Int) + (i : Int) * 1 = i by (first | lia | omega)] at hK ⊢
  refine bit_sp h3 h8 h1 h7 (by (first | lia | omega)) ⟨rfl, rfl, ?_⟩ hj
  have hf : fb t (.int i) = if (gray t).testBit i = true then some (.int i) else none := rfl
  rw [hf] at hK
  cases hb : (gray t).testBit i with
  | true =>
    rw [hb] at hK
    exact hK
  | false =>
    rw [hb] at hK
    exact hK
theorem zip_map {α : Type} (f g : α → PyData) : ∀ l : List α, zipItems (l.map f) (l.map g) = l.map fun x => .tuple [f x, g x]
  | [] => rfl
  | x :: l => by rw [List.map_cons, List.map_cons, zipItems, zip_map f g l]; rfl
theorem sums_ok (h3 : 3 ≤ w) (h8 : w ≤ 8) (g : Gd s G) {t : Nat} (h1 : 1 ≤ t) (h2 : t < 2 ^ s) {j : Nat} (hj : 100 ≤ j) {fd : PyData} {sn : List PyData} {v5 v8 v9 v10 v13 : Option Var} {n : Nat} {Q : PV → Nat → Prop} (q : Q (.d (sumsD w G (ins s t))) n) :
    evP (SL ad Z j) (eOf (nth (ledB ad) 3)) (envL w s G fd sn v5 (val (sumsD w G (ins s (t - 1)))) v8 v9 v10 (val (.int (tz t))) (val (.list (L (ins s t)))) v13) n Q := by
  have hs := g.two
  have hG := g.len
  obtain ⟨hm, h7⟩ := mem_sts g h1 h2
  have e := List.map_inj_left.mp tz_all (s, t) hm
  have e := (Bool.and_eq_true_iff.mp e).1
  have htz : tz t < s := of_decide_eq_true e
  refine .inl ⟨by rw [List.length_map]; (first | lia | omega), by rw [List.length_map]; (first | lia | omega), ?_⟩
  rw [zip_map]
  refine compG_map (fun r => .tuple [sgD w (rs r (ins s (t - 1))), .list (r.map (sgD w))]) (fun r => sgD w (rs r (ins s t))) _ [] (fun r hr K hK => ?_) q
  refine ⟨rfl, dep_ok (dep_int _) (by decide), dep_ok (dep_L _) (by decide), ?_⟩
  have hrl := g.row r hr
  have er : r[tz t]? = some (r.getD (tz t) 0) := by rw [List.getD_eq_getElem?_getD, List.getElem?_eq_getElem (by (first | lia | omega))]; rfl
  have hx3 := g.num r hr _ (List.mem_of_getElem? er)
  have hb := rs_le (t := t - 1) g hr
  have at1 : ∀ {Q : PV → Prop}, Q (.d (sgD w (r.getD (tz t) 0))) → idxP (.d (.list (r.map (sgD w)))) (dI (tz t)) Q := fun q =>
    idx_l (by (first | lia | omega)) (by rw [Int.toNat_natCast, List.getElem?_map, er]; rfl) (by rw [List.length_map]; (first | lia | omega)) q
  have st := rs_step hs h1 h2 hrl
  show (match pin s t with | true => _ | false => _)
  cases hp : pin s t with
  | true =>
    rw [hp, if_pos rfl] at st
    rw [st] at hK
    exact at1 (sadd_sp (by (first | lia | omega)) h8 (sg_sg (by (first | lia | omega)) _) (sg_sg (by (first | lia | omega)) _) (by (first | lia | omega)) (by (first | lia | omega)) (fun p hp => hp.eq (by (first | lia | omega)) ▸ hK) (by (first | lia | omega)))
  | false =>
    rw [hp, if_neg Bool.false_ne_true] at st
    rw [st] at hK
    exact at1 (ssub_sp (by (first | lia | omega)) h8 (sg_sg (by (first | lia | omega)) _) (sg_sg (by (first | lia | omega)) _) (by (first | lia | omega)) (by (first | lia | omega)) (fun p hp => hp.eq (by (first | lia | omega)) ▸ hK) (by (first | lia | omega)))
theorem dep_sums (l : List Int) : dep 4 (sumsD w G l) := dep_list fun d hd => by
  obtain ⟨r, _, rfl⟩ := List.mem_map.mp hd
  exact dep_sg w _
theorem check_ok (h3 : 3 ≤ w) (h8 : w ≤ 8) (g : Gd s G) {t : Nat} (h1 : 1 ≤ t) (h2 : t < 2 ^ s) {j : Nat} (hj : 100 ≤ j) {fd : PyData} {v5 v8 v9 v10 v11 v13 : Option Var} {n : Nat} {Q : Bool → Nat → Prop} (q : Q false n) :
    tsP (SL ad Z j) (testOf (nth (ledB ad) 4)) (envL w s G fd (seenD s (t - 1)) v5 (val (sumsD w G (ins s t))) v8 v9 v10 v11 (val (.list (L (ins s t)))) v13) n Q := by
  have hs := g.two
  have hG := g.len
  obtain ⟨hm, h7⟩ := mem_sts g h1 h2
  have e := List.map_inj_left.mp seen_all (s, t) hm
  have hse : dep 3 (.list (seenD s (t - 1))) := dep_list fun d hd => by
    obtain ⟨k, _, rfl⟩ := List.mem_map.mp hd
    exact dep_L _
  refine ⟨dep_ok (dep_L _) (by decide), dep_ok hse (by decide), ?_⟩
  have e : ((seenD s (t - 1)).any fun y => PyData.eqv y (.list (L (ins s t)))) = false := e
  rw [e]
  refine ⟨by rw [show (rowsD G).length = s by unfold rowsD; rw [List.length_map, hG]]; (first | lia | omega), ?_⟩
  refine compG_map (fun r => .list (L r)) (fun r => sgD w (rs r (ins s t))) _ [] (fun r hr K hK => ?_) ?_
  · refine ⟨by rw [L_len]; have := ins_len s t; (first | lia | omega), ?_⟩
    refine compG_map PyData.int (fun k => .int (r.getD k.toNat 0)) _ [] (fun k hk K hK => ?_) ?_
    · have e2 := List.map_inj_left.mp tz_all (s, t) hm
      have e2 := List.all_eq_true.mp (Bool.and_eq_true_iff.mp e2).2 k hk
      have e2 := Bool.and_eq_true_iff.mp e2
      have k0 := of_decide_eq_true e2.1
      have k1 := of_decide_eq_true e2.2
      have hrl := g.row r hr
      exact at_own (l := r) (x := r.getD k.toNat 0) k0 (by rw [List.getD_eq_getElem?_getD, List.getElem?_eq_getElem (by (first | lia | omega))]; rfl) (by (first | lia | omega)) hK
    · have eL : (ins s t).map (fun k => PyData.int (r.getD k.toNat 0)) = L ((ins s t).map fun k => r.getD k.toNat 0) := by unfold L; rw [List.map_map]; rfl
      rw [List.nil_append, eL]
      refine ⟨by rw [L_len, List.length_map]; have := ins_len s t; (first | lia | omega), _, sum_of _, ?_⟩
      have hb := rs_le (t := t) g hr
      exact signedL_sp (x := rs r (ins s t)) (by (first | lia | omega)) h8 (by (first | lia | omega)) (fun p hp => hp.eq (by (first | lia | omega)) ▸ hK) (by (first | lia | omega))
  · refine ⟨dep_ok (dep_sums _) (by decide), dep_ok (dep_sums _) (by decide), ?_⟩
    show Q (!PyData.eqv (sumsD w G (ins s t)) (sumsD w G (ins s t))) n
    rw [eqv_self (dep_sums _)]
    exact q
/-- the product -/
theorem prod_ok (h3 : 3 ≤ w) (h8 : w ≤ 8) {t : Nat} {j : Nat} (hj : 100 ≤ j) {v0 v2 v3 v4 v6 v7 v8 v9 v10 v11 v12 : Option Var} {n : Nat} {K : REnv → Nat → Prop} {R : PV → Nat → Prop} : ∀ (H : List (List Int)) (acc : Int) (v5 : Option Var), (∀ r ∈ H, (rs r (ins s t)).natAbs ≤ 9) → acc.natAbs * 9 ^ H.length ≤ 729 →
    (∀ v5, K [v0, val (.int w), v2, v3, v4, v5, v6, v7, v8, v9, v10, v11, v12, val (sgD w (pr (ins s t) acc H))] n) →
      forG (fun ρ n N R => exLP (SL ad Z j) (bodyOf (nth (ledB ad) 7)) ρ n N R) (.one 5) (H.map fun r => sgD w (rs r (ins s t))) [v0, val (.int w), v2, v3, v4, v5, v6, v7, v8, v9, v10, v11, v12, val (sgD w acc)] n K R
  | [], acc, v5, _, _, hK => hK v5
  | r :: H, acc, v5, hr, hb, hK => by
    have h1 := hr r (.head _)
    have hp := Nat.pow_pos (n := H.length) (by decide : 0 < 9)
    have hb1 : acc.natAbs * 9 ^ H.length * 9 ≤ 729 := by rw [Nat.mul_assoc, ← Nat.pow_succ]; exact hb
    have hacc : acc.natAbs ≤ acc.natAbs * 9 ^ H.length := Nat.le_mul_of_pos_right _ hp
    have hm : (acc * rs r (ins s t)).natAbs * 9 ^ H.length ≤ 729 := by
      rw [Int.natAbs_mul]
      have := Nat.mul_le_mul_right (9 ^ H.length) (Nat.mul_le_mul_left acc.natAbs h1)
      have e : acc.natAbs * 9 * 9 ^ H.length = acc.natAbs * 9 ^ H.length * 9 := by rw [Nat.mul_assoc, Nat.mul_comm 9, Nat.mul_assoc]
      (first | lia | omega)
    have hm' : (acc * rs r (ins s t)).natAbs ≤ (acc * rs r (ins s t)).natAbs * 9 ^ H.length := Nat.le_mul_of_pos_right _ hp
    refine smul_sp (by (first | lia | omega)) h8 (sg_sg (by (first | lia | omega)) _) (sg_sg (by (first | lia | omega)) _) (by (first | lia | omega)) (by (first | lia | omega)) (by (first | lia | omega)) (fun p hp => ?_) (by (first | lia | omega))
    rw [hp.eq (by (first | lia | omega))]
    exact prod_ok h3 h8 hj H _ _ (fun r h => hr r (.tail _ h)) hm hK
theorem num1 : PyData.tuple [.bool false, .list [.int 1]] = num 1 := rfl
theorem ex_asg {S : Spec} {i : Nat} {e : Ex} {l : StL} {ρ : REnv} {n : Nat} {N : REnv → Nat → Prop} {R : PV → Nat → Prop} (h : evP S e ρ n fun x n => match x with
    | .d x => exLP S l (ρ.set i (some (.val (.d x)))) n N R
    | _ => False) : exLP S (.cons (.asg (.one i) e) l) ρ n N R := h
theorem ex_iff {S : Spec} {c : Ts} {a b l : StL} {ρ : REnv} {n : Nat} {N : REnv → Nat → Prop} {R : PV → Nat → Prop} (h : tsP S c ρ n fun t n => match t with
    | true => exLP S a ρ n (fun ρ n => exLP S l ρ n N R) R
    | false => exLP S b ρ n (fun ρ n => exLP S l ρ n N R) R) : exLP S (.cons (.iff c a b) l) ρ n N R := h
theorem led_step (h3 : 3 ≤ w) (h8 : w ≤ 8) (g : Gd s G) {t : Nat} (h2 : t + 1 < 2 ^ s) {j : Nat} (hj : 100 ≤ j) {v5 v9 v10 v11 v12 v13 : Option Var} {n : Nat} {K : REnv → Nat → Prop} {R : PV → Nat → Prop}
    (hK : ∀ v5 v8 v9 v10 v11 v12 v13, K (envL w s G (sgD w (led s G (t + 1))) (seenD s (t + 1)) v5 (val (sumsD w G (ins s (t + 1)))) v8 v9 v10 v11 v12 v13) n) :
    exLP (SL ad Z j) (ledB ad) (envL w s G (sgD w (led s G t)) (seenD s t) v5 (val (sumsD w G (ins s t))) (val (.int ((t + 1 : Nat) : Int))) v9 v10 v11 v12 v13) n K R := by
  have hs := g.two
  have hG := g.len
  have h1 : 1 ≤ t + 1 := by (first | lia | omega)
  obtain ⟨hm, h7⟩ := mem_sts g h1 h2
  refine signedL_sp (x := ((t + 1 : Nat) : Int)) (by (first | lia | omega)) h8 (by (first | lia | omega)) (fun p hp => ?_) (by (first | lia | omega))
  rw [hp.eq (by (first | lia | omega)), ← num_eq h3 (by (first | lia | omega) : t + 1 < 8)]
  refine shift_sp h3 h8 h1 h7 (xor_sp h3 h8 h1 h7 (t1 ?_) hj) hj
  have et : (if t + 1 = 0 then [] else [PyData.int ((t + 1 : Nat) : Int)]) = [.int ((t + 1 : Nat) : Int)] := if_neg (by (first | lia | omega))
  rw [et]
  refine trail_sp h3 h8 h1 h7 ?_ hj
  show exLP (SL ad Z j) (drp (ledB ad) 2) (envL w s G (sgD w (led s G t)) (seenD s t) v5 (val (sumsD w G (ins s t))) (val (.int ((t + 1 : Nat) : Int))) (val (num (t + 1))) (val (num (gray (t + 1)))) (val (.int (tz (t + 1)))) v12 v13) n K R
  refine ex_asg (i := 12) (e := eOf (nth (ledB ad) 2)) (l := drp (ledB ad) 3) ?_
  refine inside_ok h3 h8 g h1 h2 hj ?_
  show exLP (SL ad Z j) (drp (ledB ad) 3) (envL w s G (sgD w (led s G t)) (seenD s t) v5 (val (sumsD w G (ins s t))) (val (.int ((t + 1 : Nat) : Int))) (val (num (t + 1))) (val (num (gray (t + 1)))) (val (.int (tz (t + 1)))) (val (.list (L (ins s (t + 1))))) v13) n K R
  refine ex_asg (i := 7) (e := eOf (nth (ledB ad) 3)) (l := drp (ledB ad) 4) ?_
  refine sums_ok h3 h8 g h1 h2 hj ?_
  show exLP (SL ad Z j) (drp (ledB ad) 4) (envL w s G (sgD w (led s G t)) (seenD s t) v5 (val (sumsD w G (ins s (t + 1)))) (val (.int ((t + 1 : Nat) : Int))) (val (num (t + 1))) (val (num (gray (t + 1)))) (val (.int (tz (t + 1)))) (val (.list (L (ins s (t + 1))))) v13) n K R
  refine ex_iff (c := testOf (nth (ledB ad) 4)) (b := .nil) (l := drp (ledB ad) 5) ?_
  refine check_ok h3 h8 g h1 h2 hj ?_
  refine ⟨by show ((List.range t).map _).length ≤ _; rw [List.length_map, List.length_range]; (first | lia | omega), ?_⟩
  have esn : seenD s t ++ [.list (L (ins s (t + 1)))] = seenD s (t + 1) := by unfold seenD; rw [List.range_succ, List.map_append]; rfl
  have e1 : num 1 = sgD w ((1 : Nat) : Int) := num_eq h3 (by decide)
  show exLP (SL ad Z j) (drp (ledB ad) 7) [val (.list (rowsD G)), val (.int w), val (.int s), val (sgD w (led s G t)), some (.own (seenD s t ++ [.list (L (ins s (t + 1)))])), v5, val (rowsS w G), val (sumsD w G (ins s (t + 1))), _, _, _, _, val (.list (L (ins s (t + 1)))), val (num 1)] n K R
  rw [esn, e1]
  refine ⟨by rw [List.length_map]; (first | lia | omega), ?_⟩
  have hb := led_le g t
  have hq := pr_le9 (t := t + 1) g
  refine prod_ok h3 h8 hj G 1 _ (fun r hr => rs_le g hr) (by rw [hG]; rcases hs with rfl | rfl <;> decide) fun v5 => ?_
  refine ⟨by rw [L_len]; have := ins_len s (t + 1); (first | lia | omega), by decide, rfl, rfl, ?_⟩
  have el : led s G (t + 1) = if (((s : Int) - ((L (ins s (t + 1))).length : Int)).fmod 2 == 0) = true then led s G t + pr (ins s (t + 1)) 1 G else led s G t - pr (ins s (t + 1)) 1 G := rfl
  show (match (((s : Int) - ((L (ins s (t + 1))).length : Int)).fmod 2 == 0) with | true => _ | false => _)
  cases hc : (((s : Int) - ((L (ins s (t + 1))).length : Int)).fmod 2 == 0) with
  | true =>
    rw [hc, if_pos rfl] at el
    refine sadd_sp (by (first | lia | omega)) h8 (sg_sg (by (first | lia | omega)) _) (sg_sg (by (first | lia | omega)) _) (by (first | lia | omega)) (by (first | lia | omega)) (fun p hp => ?_) (by (first | lia | omega))
    rw [← el] at hp
    rw [hp.eq (by (first | lia | omega))]
    exact hK ..
  | false =>
    rw [hc, if_neg Bool.false_ne_true] at el
    refine ssub_sp (by (first | lia | omega)) h8 (sg_sg (by (first | lia | omega)) _) (sg_sg (by (first | lia | omega)) _) (by (first | lia | omega)) (by (first | lia | omega)) (fun p hp => ?_) (by (first | lia | omega))
    rw [← el] at hp
    rw [hp.eq (by (first | lia | omega))]
    exact hK ..
theorem pow_sz (hs : s = 2 ∨ s = 3) : (Builtin.Range.rangeSize 1 (2 ^ ((s : Nat) : Int).toNat) 1).toNat = 2 ^ s - 1 := by
  rcases hs with rfl | rfl <;> decide
theorem small_pow (hs : s = 2 ∨ s = 3) : small (2 ^ ((s : Nat) : Int).toNat) := by
  unfold small
  rcases hs with rfl | rfl <;> decide
theorem led_sp (h3 : 3 ≤ w) (h8 : w ≤ 8) (g : Gd s G) {n : Nat} {Q : PV → Nat → Prop} (q : Q (.d (sgD w (led s G (2 ^ s - 1)))) n) {j : Nat} (hj : 101 ≤ j) : SL ad Z j (ad "_law_led") [.d (.list (rowsD G)), dI w] n Q := by
  refine sl (i := 35) (f := x_law_led) (d := 100) rfl rfl rfl rfl rfl hj fun j hj => ?_
  have hs := g.two
  have hG := g.len
  have hlen : (rowsD G).length = s := by unfold rowsD; rw [List.length_map, hG]
  refine ⟨by rw [hlen]; (first | lia | omega), ?_⟩
  rw [hlen]
  refine ⟨by rw [hlen]; (first | lia | omega), ?_⟩
  refine compG_map (fun r => .list (L r)) (fun r => .list (r.map (sgD w))) _ [] (fun r hr K hK => ?_) ?_
  · refine ⟨by rw [L_len, g.row r hr]; (first | lia | omega), ?_⟩
    refine compG_map PyData.int (sgD w) _ [] (fun x hx K hK => ?_) hK
    have := g.num r hr x hx
    exact signedL_sp (by (first | lia | omega)) h8 (by (first | lia | omega)) (fun p hp => hp.eq (by (first | lia | omega)) ▸ hK) (by (first | lia | omega))
  refine ⟨by rw [hlen]; (first | lia | omega), by rw [hlen]; (first | lia | omega), by rw [hlen]; (first | lia | omega), rfl, ?_⟩
  have h0 : num 0 = sgD w ((0 : Nat) : Int) := num_eq h3 (by decide)
  have e7 : (List.replicate ((rowsD G).length : Int).toNat [PyData.tuple [.bool false, .list []]]).flatten = G.map fun r => sgD w (rs r (ins s 0)) := by
    rw [List.flatten_replicate_singleton, hlen, Int.toNat_natCast]
    have e0 : ins s 0 = [] := by rcases hs with rfl | rfl <;> rfl
    have : ∀ r : List Int, sgD w (rs r (ins s 0)) = PyData.tuple [.bool false, .list []] := fun r => by rw [e0]; exact h0.symm
    rw [List.map_congr_left fun r _ => this r, List.map_const', hG]
  rw [e7]
  refine ⟨by decide, by (first | lia | omega), by (first | lia | omega), (by decide : (1 : Int).natAbs < 2 ^ 30), small_pow hs, ?_, ?_⟩
  · rcases hs with rfl | rfl <;> decide
  rw [pow_sz hs]
  refine for_go (fun i ρ => ∃ v5 v8 v9 v10 v11 v12 v13, ρ = envL w s G (sgD w (led s G i)) (seenD s i) v5 (val (sumsD w G (ins s i))) v8 v9 v10 v11 v12 v13) ⟨none, none, none, none, none, none, none, ?_⟩ (fun i x ρ K hx hI hK => ?_) fun ρ hI => ?_
  · show _ = envL w s G (sgD w ((0 : Nat) : Int)) [] none _ none none none none none none
    rw [← h0]
    rfl
  · obtain ⟨v5, v8, v9, v10, v11, v12, v13, rfl⟩ := hI
    obtain ⟨rfl, hi⟩ := rng_at hx
    rw [show (1 : Int) + (i : Int) * 1 = ((i + 1 : Nat) : Int) by (first | lia | omega)]
    exact led_step h3 h8 g (by omega) hj fun _ _ _ _ _ _ _ => hK _ ⟨_, _, _, _, _, _, _, rfl⟩
  · obtain ⟨v5, v8, v9, v10, v11, v12, v13, rfl⟩ := hI
    rw [rng_len]
    exact q
end

theorem ryser2 (a b c d : Int) : 0 - 1 * (a + 0) * (c + 0) + 1 * (a + (b + 0)) * (c + (d + 0)) - 1 * (b + 0) * (d + 0) = 0 + 1 * a * d + 1 * b * c := by grind
theorem ryser3 (a b c d e f g h i : Int) : 0 + 1 * (a + 0) * (d + 0) * (g + 0) - 1 * (a + (b + 0)) * (d + (e + 0)) * (g + (h + 0)) + 1 * (b + 0) * (e + 0) * (h + 0) - 1 * (b + (c + 0)) * (e + (f + 0)) * (h + (i + 0)) + 1 * (a + (b + (c + 0))) * (d + (e + (f + 0))) * (g + (h + (i + 0))) - 1 * (a + (c + 0)) * (d + (f + 0)) * (g + (i + 0)) + 1 * (c + 0) * (f + 0) * (i + 0)
    = 0 + 1 * a * e * i + 1 * a * f * h + 1 * b * d * i + 1 * b * f * g + 1 * c * d * h + 1 * c * e * g := by grind
theorem ryser {s : Nat} {G : List (List Int)} (g : Gd s G) : led s G (2 ^ s - 1) = psum G 0 (ords s) := by
  have hr := g.row
  have hl := g.len
  rcases g.two with rfl | rfl
  · match G, hl with
    | [r1, r2], _ =>
      have h1 := hr r1 (.head _)
      have h2 := hr r2 (.tail _ (.head _))
      match r1, h1, r2, h2 with
      | [a, b], _, [c, d], _ => exact ryser2 a b c d
  · match G, hl with
    | [r1, r2, r3], _ =>
      have h1 := hr r1 (.head _)
      have h2 := hr r2 (.tail _ (.head _))
      have h3 := hr r3 (.tail _ (.tail _ (.head _)))
      match r1, h1, r2, h2, r3, h3 with
      | [a, b, c], _, [d, e, f], _, [g, h, i], _ => exact ryser3 a b c d e f g h i
theorem compG_rel {elt : REnv → Nat → (PV → Nat → Prop) → Prop} {t : Tg} {ρ : REnv} {Q : List PyData → Nat → Prop} (P : PyData → Prop) : ∀ (xs acc : List PyData) (n : Nat),
    (∀ x ∈ xs, ∀ n (K : PV → Nat → Prop), (∀ y n', P y → K (.d y) n') → bindT t x ρ fun ρ' => elt ρ' n K) → (∀ ys n', ys.length = xs.length → (∀ y ∈ ys, P y) → Q (acc ++ ys) n') → compG (fun _ n Q => Q true n) elt t ρ xs acc n Q
  | [], acc, n, _, q => by have := q [] n rfl fun _ h => nomatch h; rw [List.append_nil] at this; exact this
  | x :: xs, acc, n, h, q => by
    refine h x (.head _) n _ fun y n' hy => ?_
    exact compG_rel P xs (acc ++ [y]) n' (fun x hx => h x (.tail _ hx)) fun ys n'' e hys => by
      rw [List.append_assoc]
      exact q (y :: ys) n'' (by rw [List.length_cons, List.length_cons, e]) fun z hz => by
        rcases List.mem_cons.mp hz with rfl | hz
        · exact hy
        · exact hys z hz
theorem ints_of : ∀ {ys : List PyData}, (∀ y ∈ ys, ∃ i : Int, y = .int i ∧ i.natAbs ≤ 3) → ∃ r : List Int, ys = L r ∧ ∀ x ∈ r, x.natAbs ≤ 3
  | [], _ => ⟨[], rfl, fun _ h => nomatch h⟩
  | y :: ys, h => by
    obtain ⟨i, rfl, hi⟩ := h y (.head _)
    obtain ⟨r, rfl, hr⟩ := ints_of fun y hy => h y (.tail _ hy)
    exact ⟨i :: r, rfl, fun x hx => by
      rcases List.mem_cons.mp hx with rfl | hx
      · exact hi
      · exact hr x hx⟩
theorem grid_of {s : Nat} : ∀ {ys : List PyData}, (∀ y ∈ ys, ∃ r : List Int, y = .list (L r) ∧ r.length = s ∧ ∀ x ∈ r, x.natAbs ≤ 3) → ∃ G : List (List Int), ys = rowsD G ∧ (∀ r ∈ G, r.length = s) ∧ ∀ r ∈ G, ∀ x ∈ r, x.natAbs ≤ 3
  | [], _ => ⟨[], rfl, fun _ h => (nomatch h), fun _ h => (nomatch h)⟩
  | y :: ys, h => by
    obtain ⟨r, rfl, h1, h2⟩ := h y (.head _)
    obtain ⟨G, rfl, h3, h4⟩ := grid_of fun y hy => h y (.tail _ hy)
    refine ⟨r :: G, rfl, fun q hq => ?_, fun q hq => ?_⟩
    · rcases List.mem_cons.mp hq with rfl | hq
      · exact h1
      · exact h3 q hq
    · rcases List.mem_cons.mp hq with rfl | hq
      · exact h2
      · exact h4 q hq
noncomputable def oneG (s : Nat) : List (List Int) := if s = 2 then [[1, 1], [1, 1]] else [[1, 1, 1], [1, 1, 1], [1, 1, 1]]
noncomputable def offG (s : Nat) : List (List Int) := if s = 2 then [[0, 1], [1, 0]] else [[0, 1, 1], [1, 0, 1], [1, 1, 0]]
noncomputable def nobD (s : Nat) : List PyData := if s = 2 then [.tuple [.int 1, .int 0]] else [.tuple [.int 1, .int 2, .int 0], .tuple [.int 2, .int 0, .int 1]]
theorem oneG_ok {s : Nat} (h : s = 2 ∨ s = 3) : Gd s (oneG s) := by
  rcases h with rfl | rfl
  · exact ⟨.inl rfl, rfl, by decide, by decide⟩
  · exact ⟨.inr rfl, rfl, by decide, by decide⟩
theorem offG_ok {s : Nat} (h : s = 2 ∨ s = 3) : Gd s (offG s) := by
  rcases h with rfl | rfl
  · exact ⟨.inl rfl, rfl, by decide, by decide⟩
  · exact ⟨.inr rfl, rfl, by decide, by decide⟩
noncomputable def envW (x0 : PyData) (w : Nat) (s : Nat) (G : List (List Int)) (v5 v6 v7 : Option Var) : REnv := [val x0, some (.val .bench), val (.int w), val (.int s), val (.list (rowsD G)), v5, v6, v7]
theorem full_run (x0 : PyData) (w : Nat) (G : List (List Int)) : [2, 3].map (fun s => iE 100 (eOf (nth (x_law ad0) 4)) (envW x0 w s G none none none)) = [2, 3].map fun s => some (.d (.list (rowsD (oneG s)))) := by kernel_rfl
theorem off_run (x0 x5 : PyData) (w : Nat) (G : List (List Int)) : [2, 3].map (fun s => iE 100 (eOf (nth (x_law ad0) 6)) (envW x0 w s G (val x5) none none)) = [2, 3].map fun s => some (.d (.list (rowsD (offG s)))) := by kernel_rfl
theorem nob_run (x0 x5 x6 : PyData) (w : Nat) (G : List (List Int)) : [2, 3].map (fun s => iE 100 (eOf (nth (x_law ad0) 7)) (envW x0 w s G (val x5) (val x6) none)) = [2, 3].map fun s => some (.d (.list (nobD s))) := by kernel_rfl
theorem two_in {s : Nat} (h : s = 2 ∨ s = 3) : s ∈ [2, 3] := by rcases h with rfl | rfl <;> decide
theorem one_val {s : Nat} (h : s = 2 ∨ s = 3) : led s (oneG s) (2 ^ s - 1) = if s = 2 then 2 else 6 := by rcases h with rfl | rfl <;> rfl
theorem off_val {s : Nat} (h : s = 2 ∨ s = 3) : led s (offG s) (2 ^ s - 1) = ((nobD s).length : Int) := by rcases h with rfl | rfl <;> rfl

section
variable {ad : Str → Addr} {w s : Nat} {G : List (List Int)}
theorem seat_go {m : Int} (hm : m = 2 ∨ m = 6 ∨ m = 7) {n : Nat} {Q : PV → Nat → Prop} (q : ∀ r, 0 ≤ r → r < m → Q (dI r) (n + 1)) {j : Nat} (hj : 1 ≤ j) : SL ad (seatZ (ad "_law_seated")) j (ad "_law_seated") [.bench, dI m] n Q := by
  match j, hj with
  | j + 1, _ => exact .inr ⟨rfl, m, rfl, hm, q⟩
theorem ne_no {d : PyData} {k : Nat} {Q : Bool → Prop} (h : dep k d) (hk : k ≤ 64) (q : Q false) : cmpP .NotEq (.d d) (.d d) Q := by
  refine ⟨dep_ok h hk, dep_ok h hk, ?_⟩
  rw [eqv_self h]; exact q
theorem law_end {Z : Spec} (h3 : 3 ≤ w) (h8 : w ≤ 8) (g : Gd s G) {j : Nat} (hj : 102 ≤ j) (x0 : PyData) (n : Nat) (N : REnv → Nat → Prop) : exLP (SL ad Z j) (drp (x_law ad) 3) (envW x0 w s G none none none) n N fun p _ => p = dB true := by
  have hs := g.two
  have e1 := ryser g
  have hb := led_le g (2 ^ s - 1)
  have hp : 2 ^ s ≤ 8 := by rcases hs with rfl | rfl <;> decide
  have hb : (led s G (2 ^ s - 1)).natAbs ≤ 729 * 7 := Nat.le_trans hb (Nat.mul_le_mul_left _ (by omega))
  refine ex_iff (c := testOf (nth (x_law ad) 3)) (b := .nil) (l := drp (x_law ad) 4) ?_
  refine led_sp (Z := Z) (w := w) (G := G) h3 h8 g (plain_sp (Z := Z) g (signedL_sp (Z := Z) (x := psum G 0 (ords s)) (by (first | lia | omega)) h8 (by (first | lia | omega)) (fun p hp => ?_) (by (first | lia | omega))) (by (first | lia | omega))) (by (first | lia | omega))
  rw [hp.eq (by (first | lia | omega)), e1]
  refine ne_no (dep_sg w _) (by decide) ?_
  show exLP (SL ad Z j) (drp (x_law ad) 4) (envW x0 w s G none none none) n N _
  refine ex_asg (i := 5) (e := eOf (nth (x_law ad) 4)) (l := drp (x_law ad) 5) ?_
  refine (snd (ad := ad) (Z := Z) 100).e _ _ _ (List.map_inj_left.mp (full_run x0 w G) s (two_in hs)) j (by (first | lia | omega)) n _ ?_
  refine ex_iff (c := testOf (nth (x_law ad) 5)) (b := .nil) (l := drp (x_law ad) 6) ?_
  refine led_sp (Z := Z) (w := w) (G := oneG s) h3 h8 (oneG_ok hs) (fact_sp (Z := Z) h3 h8 hs ?_ (by (first | lia | omega))) (by (first | lia | omega))
  have e2 : sgD w (led s (oneG s) (2 ^ s - 1)) = .tuple [.bool false, .list [.int (if s = 2 then 2 else 6)]] := by
    rw [one_val hs]
    rcases hs with rfl | rfl
    · exact (num_eq (t := 2) h3 (by decide)).symm
    · exact (num_eq (t := 6) h3 (by decide)).symm
  rw [e2]
  have hd : dep 3 (.tuple [.bool false, .list [.int (if s = 2 then 2 else 6)]]) := e2 ▸ dep_sg w _
  refine ⟨dep_ok hd (by decide), dep_ok hd (by decide), ?_⟩
  rw [eqv_self hd]
  show exLP (SL ad Z j) (drp (x_law ad) 6) (envW x0 w s G (val (.list (rowsD (oneG s)))) none none) n N _
  refine ex_asg (i := 6) (e := eOf (nth (x_law ad) 6)) (l := drp (x_law ad) 7) ?_
  refine (snd (ad := ad) (Z := Z) 100).e _ _ _ (List.map_inj_left.mp (off_run x0 _ w G) s (two_in hs)) j (by (first | lia | omega)) n _ ?_
  refine ex_asg (i := 7) (e := eOf (nth (x_law ad) 7)) (l := drp (x_law ad) 8) ?_
  refine (snd (ad := ad) (Z := Z) 100).e _ _ _ (List.map_inj_left.mp (nob_run x0 _ _ w G) s (two_in hs)) j (by (first | lia | omega)) n _ ?_
  have hnb : (nobD s).length ≤ 2 := by rcases hs with rfl | rfl <;> decide
  refine led_sp (Z := Z) (w := w) (G := offG s) h3 h8 (offG_ok hs) ⟨by (first | lia | omega), ?_⟩ (by (first | lia | omega))
  refine signedL_sp (Z := Z) (x := ((nobD s).length : Int)) (by (first | lia | omega)) h8 (by (first | lia | omega)) (fun p hp => ?_) (by (first | lia | omega))
  rw [hp.eq (by (first | lia | omega)), off_val hs]
  refine ⟨dep_ok (dep_sg w _) (by decide), dep_ok (dep_sg w _) (by decide), ?_⟩
  rw [eqv_self (dep_sg w _)]
theorem law_tail {j : Nat} (hj : 102 ≤ j) (x0 : PyData) (n : Nat) (N : REnv → Nat → Prop) : exLP (SL ad (seatZ (ad "_law_seated")) j) (drp (x_law ad) 1) [val x0, some (.val .bench), none, none, none, none, none, none] n N fun p _ => p = dB true := by
  refine seat_go (by decide) (fun r h0 h1 => .inl ?_) (by (first | lia | omega))
  refine seat_go (by decide) (fun r' h0' h1' => .inl ?_) (by (first | lia | omega))
  obtain ⟨w, hw⟩ : ∃ w : Nat, 3 + r = w := ⟨(3 + r).toNat, by (first | lia | omega)⟩
  obtain ⟨s, hs⟩ : ∃ s : Nat, 2 + r' = s := ⟨(2 + r').toNat, by (first | lia | omega)⟩
  have hs2 : s = 2 ∨ s = 3 := by (first | lia | omega)
  show exLP _ (drp (x_law ad) 2) [val x0, some (.val .bench), val (.int (3 + r)), val (.int (2 + r')), none, none, none, none] (n + 1 + 1) N _
  rw [hw, hs]
  have sm : small (s : Int) := by unfold small; (first | lia | omega)
  refine ex_asg (i := 4) (e := eOf (nth (x_law ad) 2)) (l := drp (x_law ad) 3) ⟨sm, by (first | lia | omega), ?_⟩
  rw [size_up0]
  refine compG_rel (fun y => ∃ r : List Int, y = .list (L r) ∧ r.length = s ∧ ∀ x ∈ r, x.natAbs ≤ 3) _ [] _ (fun x hx n K hK => ?_) fun ys n' hl hys => ?_
  · obtain ⟨i, hi⟩ := List.mem_iff_getElem?.mp hx
    obtain ⟨rfl, _⟩ := rng_at hi
    refine ⟨sm, by (first | lia | omega), ?_⟩
    rw [size_up0]
    refine compG_rel (fun y => ∃ i : Int, y = .int i ∧ i.natAbs ≤ 3) _ [] _ (fun x hx n K hK => ?_) fun ys n' hl hys => ?_
    · obtain ⟨i, hi⟩ := List.mem_iff_getElem?.mp hx
      obtain ⟨rfl, _⟩ := rng_at hi
      refine seat_go (m := 7) (by decide) (fun r h0 h1 => ?_) (by (first | lia | omega))
      exact hK (.int (r - 3)) _ ⟨r - 3, rfl, by (first | lia | omega)⟩
    · obtain ⟨r, rfl, hr⟩ := ints_of hys
      rw [rng_len, L_len] at hl
      exact hK _ _ ⟨r, rfl, hl, hr⟩
  · obtain ⟨G, rfl, h1, h2⟩ := grid_of hys
    rw [rng_len] at hl
    have hG : G.length = s := by rw [← hl]; unfold rowsD; rw [List.length_map]
    exact law_end (by (first | lia | omega)) (by (first | lia | omega)) ⟨hs2, hG, h1, h2⟩ hj x0 n' N
end

noncomputable def lawS (b : List Stmt) : List Stmt := .Assign [.Name (eNm (tgt b)) (ePos (tgt b))] (.List [eEl (vlu b) 0, eEl (vlu b) 1] (ePos (vlu b))) (aps b) :: b.tail
theorem law_first : ((recsOf view0)[36]?).map (fun d => d.body) = ((recsOf view0)[36]?).map fun d => lawS d.body := by kernel_rfl
noncomputable def exOf0 (e : Ex) : Ex := match e with
  | .lst (.cons _ (.cons c _)) => c
  | _ => e
noncomputable def lawC (ad : Str → Addr) : Ex := exOf0 (eOf (nth (x_law ad) 0))
noncomputable def lawT (ad : Str → Addr) (d : DefRec) : Option Nat × Option Ex × Option Ex × Bool × Option StL :=
  (cStore (fnSc d.scope (heldOf "law")) (eNm (tgt d.body)), (cA (fnsOf ad) (eEl (vlu d.body) 0) (fnSc d.scope (heldOf "law"))).ex, (cA (fnsOf ad) (eEl (vlu d.body) 1) (fnSc d.scope (heldOf "law"))).ex, (cA (fnsOf ad) (eEl (vlu d.body) 1) (fnSc d.scope (heldOf "law"))).fresh, cSs (fnsOf ad) d.body.tail (fnSc d.scope (heldOf "law")))
theorem law_comp (ad : Str → Addr) : ((recsOf view0)[36]?).map (lawT ad) = some (some 1, some (.lit (.int 0)), some (lawC ad), true, some (drp (x_law ad) 1)) := by kernel_rfl

section
variable {prog : Program} {w : World} {ad : Str → Addr} {h0 : Heap}
theorem bench_val (S : Spec) (xs : List Int) (hx : xs.length ≤ 2 ^ 20) (n : Nat) (Q : PV → Nat → Prop) (q : Q (.d (.list (((xs.take 18).map fun x => if x < 0 then -x else x).map .int))) n) :
    evP S (lawC ad) [val (.list (L xs)), none, none, none, none, none, none, none] n Q := by
  have h1 : (L xs).take 18 = L (xs.take 18) := List.map_take.symm
  refine ⟨by rw [L_len]; exact hx, by decide, ?_⟩
  show list1 (.d (.list ((L xs).take 18))) _
  rw [h1]
  refine ⟨by rw [L_len, List.length_take]; (first | lia | omega), ?_⟩
  refine compG_map PyData.int (fun x => .int (if x < 0 then -x else x)) _ [] (fun x _ K hK => Or.inl hK) ?_
  rw [List.nil_append]
  rw [List.map_map] at q
  exact q

theorem law_call (R : Gr ad h0) {A : Around} {s : Shared} {v0 : Value} {xs : List Int} {E : Value → Shared → Prop} (rm : Rm A 103) (hs0 : Stays h0 s.heap) (r0 : RepD s.heap (fun _ => False) v0 (.list (L xs))) (hx : xs.length ≤ 2 ^ 20) :
    wpAny (model prog w) A (call (.ref (ad "law")) [v0]) (fun v s' => v = .bool true ∧ ∃ h' tk, s' = { s with heap := h', toks := tk } ∧ ∀ a o, s.heap.get? a = some o → h'.get? a = some o) E s := by
  have ok0 : BxOk Bx.none := Bx.none_ok
  obtain ⟨d, hd, hdm, I, hs, hslot⟩ := rec_fn R (i := 36) (x := "law") (m := 1) (q := 8) (f := x_law) rfl rfl rfl rfl
  have H : Hy Bx.none h0 0 (fun _ => False) s.heap := ⟨hs0, trivial, fun _ q => q.elim, fun _ q => q.elim, fun _ _ _ q => q⟩
  refine fn_enter (b := Bx.none) (D := 102) (ps := [.d (.list (L xs))]) ok0 R.grd I (by rw [hdm]; rfl) rm H ⟨r0, trivial⟩ fun env h₁ tk U' E' HH1 vat keep inU => ?_
  rw [hs _ rfl] at HH1
  have hfst := law_first
  have hcmp := law_comp ad
  rw [hd] at hfst hcmp
  have hfst : d.body = lawS d.body := Option.some.inj hfst
  obtain ⟨c1, hcmp⟩ := Prod.mk.inj (Option.some.inj hcmp)
  obtain ⟨c2, hcmp⟩ := Prod.mk.inj hcmp
  obtain ⟨c3, hcmp⟩ := Prod.mk.inj hcmp
  obtain ⟨c4, hrest⟩ := Prod.mk.inj hcmp
  rw [hfst]
  unfold lawS
  generalize eNm (tgt d.body) = y at c1 ⊢
  generalize ePos (tgt d.body) = yp
  generalize eEl (vlu d.body) 0 = e1 at c2 ⊢
  generalize eEl (vlu d.body) 1 = e2 at c3 c4 ⊢
  generalize d.body.tail = rest at hrest ⊢
  have ok1 : BxOk (Bx.none.fl fun _ => False) := ok0.fl
  have F0 : FnOk prog w (Bx.none.fl fun _ => False) h0 102 (fun _ _ _ _ => False) := fun a ps n Q h => h.elim
  have g := gA (prog := prog) (w := w) (b := Bx.none.fl fun _ => False) ok1 R.grd F0 (fun a ps n Q h => h.elim)
  generalize hscE : fnSc d.scope (heldOf "law") = sc at *
  refine wpAny_execs_cons (wpAny_Assign_Name (wpAny_List ?_) rfl)
  rw [starEach_plain (notStar c2), starEach_plain (notStar c3)]
  refine Calls.spliced_cons (wpAny_mono ((g e1 _).ex _ c2 env _ _ 0 U' _ (fun p k => p = dI 0 ∧ k = 0) _ HH1 ⟨rfl, rfl⟩) (fun u1 s₂ h₂ => ?_) fun _ _ e => e)
  obtain ⟨_, n₂, k₂, r₂, rfl, rfl⟩ := h₂
  obtain ⟨t1, rfl⟩ := RepD.int_inv r₂
  have HH2 := HH1.step ok1 k₂
  refine Calls.spliced_cons (wpAny_mono ((g e2 _).fresh c4 _ c3 env _ _ 0 U' _ (fun p k => p = .d (.list (((xs.take 18).map fun x => if x < 0 then -x else x).map .int)) ∧ k = 0) _ HH2 (bench_val _ xs hx _ _ ⟨rfl, rfl⟩)) (fun u2 s₃ h₃ => ?_) fun _ _ e => e)
  obtain ⟨l, ws, ys, n₃, rfl, lf, k₃, ⟨kl, hl⟩, hw, e3, rfl⟩ := h₃
  generalize hse : (xs.take 18).map (fun x => if x < 0 then -x else x) = seats at e3
  cases e3
  refine wpAny_pure ⟨line_of (by show 2 ≤ 2 ^ 22; decide), ?_⟩
  generalize hB : s₃.heap.objs.size = B
  generalize hh4 : s₃.heap.push { cls := .type "list", data := .seq (List.toArray [.int 0 t1, .ref l]) } = h4
  have push4 : ∀ c o, s₃.heap.get? c = some o → h4.get? c = some o := fun c o e => hh4 ▸ push_keep _ _ c o e
  have keep2 : ∀ c o, h₁.get? c = some o → s₂.heap.get? c = some o := fun c o e => k₂.get id e
  have keep3 : ∀ c o, s₂.heap.get? c = some o → s₃.heap.get? c = some o := fun c o e => k₃.get id e
  have B3 : s₃.heap.get? B = none := hB ▸ get_size _
  have B4 : h4.get? B = some { cls := .type "list", data := .seq (List.toArray [.int 0 t1, .ref l]) 0 } := by rw [← hh4, ← hB]; exact Heap.get?_push_size _ rfl
  have l4 : h4.get? l = some { cls := .type "list", data := .seq (List.toArray ws) kl } := push4 _ _ hl
  have B2 : s₂.heap.get? B = none := by
    cases e : s₂.heap.get? B with
    | none => rfl
    | some o => have := keep3 _ _ e; rw [B3] at this; cases this
  have hUn : ∀ c, U' c → c ≠ B ∧ c ≠ l := fun c q => by
    obtain ⟨o, e⟩ := HH2.hy.off c q
    exact ⟨fun z => (by subst z; rw [B2] at e; cases e), fun z => (by subst z; rw [lf] at e; cases e)⟩
  have grow : ∀ c, U' c ∨ c = B ∨ c = l → U' c ∨ s₂.heap.get? c = none := fun c q => by
    rcases q with q | rfl | rfl
    · exact .inl q
    · exact .inr B2
    · exact .inr lf
  have keep24 : ∀ c o, s₂.heap.get? c = some o → h4.get? c = some o := fun c o e => push4 _ _ (keep3 _ _ e)
  have hns : ∀ {C : Addr} {m : Str → Option Value}, s₂.heap.Ns C m → h4.Ns C m := fun ⟨o, es, ep, ho, r⟩ => ⟨o, es, ep, keep24 _ _ ho, r⟩
  have hce : ∀ {C : Addr} {m : Option Value}, s₂.heap.IsCell C m → h4.IsCell C m := fun ⟨o, ho, hd⟩ => ⟨o, keep24 _ _ ho, hd⟩
  have same : ∃ tk', { s₃ with heap := h4 } = { s with heap := h4, toks := tk' } := by
    obtain ⟨_, _, rfl, _⟩ := k₂
    obtain ⟨_, t3, rfl, _⟩ := k₃
    exact ⟨t3, rfl⟩
  have ok4 : BxOk (bxS B l seats) := bxS_ok B l seats
  have HH4 : HH ((bxS B l seats).fl fun _ => False) h0 102 sc env (A.deeper env) { s₃ with heap := h4 } 0 (fun c => U' c ∨ c = B ∨ c = l) (val (.list (L xs)) :: List.replicate 7 none) := by
    obtain ⟨f, ef⟩ := HH2.ee
    refine ⟨HH2.rm, ⟨fun c o e => keep24 _ _ (HH2.hy.base c o e), ⟨⟨t1, 0, B4⟩, ws, ⟨kl, l4⟩, repL_ints hw⟩, fun c q => .inr q, fun c q => ?_, fun c o e q => ?_⟩, HH2.es, ⟨f, fun z j hz var hv => ?_, fun z z' i j l1 l2 _ _ q1 _ _ => ?_⟩, HH2.len,
      ⟨HH2.fr.ns.imp fun m => hns, fun x c e => (HH2.fr.cell x c e).imp fun v => hce, HH2.fr.own, HH2.fr.inj, .inl HH2.fr.uL, fun x c e => .inl (HH2.fr.uC x c e)⟩, HH2.wf, ⟨fun c q => q.elim, fun q => q.elim, fun x c _ q => q.elim⟩⟩
    · rcases q with q | rfl | rfl
      · obtain ⟨o, e⟩ := HH2.hy.off c q
        exact ⟨o, keep24 _ _ e⟩
      · exact ⟨_, B4⟩
      · exact ⟨_, l4⟩
    · rcases grow c q with q | q
      · exact HH2.hy.new c o e q
      · rw [HH2.hy.base c o e] at q; cases q
    · match j, hv with
      | 0, hv =>
        cases hv
        obtain ⟨q1, q2⟩ := ef.at_ z 0 hz _ rfl
        refine ⟨?_, RepD.keep keep24 (RepD.more grow q2)⟩
        rcases q1 with ⟨hk, m, q, e⟩ | ⟨hk, c, hc, q⟩
        · exact .inl ⟨hk, m, hns q, e⟩
        · exact .inr ⟨hk, c, hc, hce q⟩
      | j + 1, hv =>
        exfalso
        have hv : ((List.replicate 7 (none : Option Var))[j]?).join = some var := hv
        rw [List.getElem?_replicate] at hv
        split at hv <;> cases hv
    · match i, q1 with
      | 0, q1 => cases q1
      | i + 1, q1 =>
        have q1 : ((List.replicate 7 (none : Option Var))[i]?).join = some (.own l1) := q1
        rw [List.getElem?_replicate] at q1
        split at q1 <;> cases q1
  have FZ := seat_ok (prog := prog) (w := w) (B := B) (l := l) (seats := seats) R (by rw [← hse, List.length_map, List.length_take]; (first | lia | omega))
  have hZ : ∀ a ps n Q, seatZ (ad "_law_seated") a ps n Q → ∃ o fd, h0.get? a = some o ∧ o.data = .func fd := fun a ps n Q q => by
    obtain ⟨rfl, _⟩ := q
    obtain ⟨d', _, _, I', _⟩ := rec_fn R (i := 30) (x := "_law_seated") (m := 2) (q := 2) (f := x_law_seated) rfl rfl rfl rfl
    obtain ⟨o, fd, h1, h2, _⟩ := I'.obj
    exact ⟨o, fd, h1, h2⟩
  obtain ⟨tk4, es4⟩ := same
  refine set_val (N := fun ρ n => ρ = [val (.list (L xs)), some (.val .bench), none, none, none, none, none, none] ∧ n = 0) ok4.fl HH4 c1 (p := .bench) rfl KS.refl (fun a q => .inl q) ⟨rfl, rfl⟩ fun s₅ h₅ => ?_
  obtain ⟨U5, n5, ρ5, k5, hU5, H5, rfl, rfl⟩ := h₅
  refine wpAny_mono (gSs ok4 R.grd (SL_ok ok4 R hZ FZ 102) (SL_fn R hZ 102) rest _ _ hrest (fun _ => False) env _ _ 0 U5 _ (fun _ _ => False) _ _ H5 (law_tail (Nat.le_refl _) _ 0 _)) (fun f s' h => ?_) fun _ _ e => e
  cases f with
  | next => obtain ⟨_, _, _, _, _, _, q⟩ := h; exact q.elim
  | ret v =>
    obtain ⟨p, n6, k6, _, r6, rfl⟩ := h
    have ev : v = .bool true := by cases r6; rfl
    have k7 := k5.trans k6 hU5
    rw [es4] at k7
    obtain ⟨h', tk', rfl, k7, _⟩ := k7
    refine ⟨ev, h', tk', rfl, fun a o e => k7 a o (.inl fun q => ?_) (keep24 _ _ (keep2 _ _ (keep a o e)))⟩
    rcases grow a q with q | q
    · rcases (inU a).mp q with q | q
      · exact q
      · rw [e] at q; cases q.1
    · rw [keep2 _ _ (keep a o e)] at q; cases q
  | brk => exact h.elim
  | cont => exact h.elim
end

theorem law_name : lawD.name = ("law" : Str) := by kernel_rfl
theorem ints_rep {h : Heap} {U : Addr → Prop} : ∀ {vs : List Value} {ns : List Int}, IntsAre vs ns → RepL h U vs (L ns)
  | _, _, .nil => .nil
  | _, _, .cons n t r => .cons (.int n t) (ints_rep r)
theorem walk : WalkO view0 [] (XL view0 []) (fun _ _ => True) rw0.row.toRowW lawD [] fun f vs => PySem.call f vs := by
  intro w s₀ s₁ mg mb G Y a o pm cd doc dV kV ho hd hcd hD hmg hg args vals as hpre hlay hrd hwl hlo
  have hsh : WShape.hasAll rw0.row.toRowW.records args [.list .int] = true := (pre_splitW hpre).1
  obtain ⟨x, r, rfl, hx, hr⟩ := hasAllW_cons hsh
  obtain rfl := hasAllW_nil hr
  obtain ⟨p, rfl, hp, hl⟩ := open_plain (.list .int) (by decide) hx (layW_cons hlay).1
  obtain ⟨ns, rfl⟩ := has_list_int hp
  have hlen : ns.length ≤ 2 ^ 20 := len_ints_list (Bool.and_eq_true_iff.mp hl).1
  obtain ⟨v, vs, as1, as2, rfl, rfl, r1, r2⟩ := readsAllW_cons_inv hrd
  obtain ⟨rfl, _⟩ := readsAllW_nil_inv r2
  obtain ⟨l, ol, ws, k, bs, rfl, e1, e2, e3, e4, rfl⟩ := reads_list_inv (reads_of_readsW _ r1)
  have r0 : RepD s₁.heap (fun _ => False) (.ref l) (.list (L ns)) := RepD.list (vs := ws.toList) (k := k) e1 e2 (by rw [e3]) id (ints_rep (readsAll_intsAre e4).1)
  have ha : Value.ref a = .ref (adOf mg "law") := by
    have : mg "law" = some (.ref a) := law_name ▸ hmg
    unfold adOf
    rw [this]
  rw [ha]
  refine wpAny_mono (law_call (gr_of G.T) (rm := ⟨rfl, by decide, by decide⟩) (fun _ _ e => e) r0 hlen) (fun v s' h => ?_) fun _ _ e => e
  obtain ⟨rfl, h', tk, rfl, keep⟩ := h
  exact ⟨.inl ⟨_, _, [], rfl, fun _ => rfl, ReadsW.bool true, by kernel_rfl, fun _ => ⟨List.nodup_nil, fun _ hm => (nomatch hm)⟩⟩, OldK.of_keep keep, rfl, .of_eq hg⟩
end Mine

theorem PySem.Challenge.cw_xm0425_01_holds : PySem.Challenge.rw_xm0425_01.Holds :=
  Mine.head Mine.walk
