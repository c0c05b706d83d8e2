import PyProof.Rows.All
import Wide.All
import OpenK.AllK
import Wide.FinOn
import PySem.Challenge.RW_xw0180_02
set_option linter.all false
set_option bootstrap.genMatcherCode false

section
/- Our own small language: what the law's functions reach, over plain data. -/
open PySem
namespace Mine

inductive CV where
  | none
  | bool (b : Bool)
  | int (i : Int)
  | str (s : List Nat)
  | tup (xs : List CV)
  | ils (xs : List CV)
  | dct (es : List (List Nat × Int))
  | lst (c : Nat)
  | obj (c : Nat)
  deriving Inhabited

/- a datum of one kind, or else n -/
section
variable {α : Type} (n : α)
noncomputable abbrev CV.onBool (x : CV) (f : Bool → α) : α := match x with
  | .bool i => f i
  | _ => n
noncomputable abbrev CV.onInt (x : CV) (f : Int → α) : α := match x with
  | .int i => f i
  | _ => n
noncomputable abbrev CV.onStr (x : CV) (f : List Nat → α) : α := match x with
  | .str i => f i
  | _ => n
noncomputable abbrev CV.onTup (x : CV) (f : List CV → α) : α := match x with
  | .tup i => f i
  | _ => n
noncomputable abbrev CV.onIls (x : CV) (f : List CV → α) : α := match x with
  | .ils i => f i
  | _ => n
noncomputable abbrev CV.onLst (x : CV) (f : Nat → α) : α := match x with
  | .lst i => f i
  | _ => n
noncomputable abbrev CV.onObj (x : CV) (f : Nat → α) : α := match x with
  | .obj i => f i
  | _ => n
noncomputable abbrev CV.onNone (x : CV) (f : α) : α := match x with
  | .none => f
  | _ => n
end
section
variable {α : Type} {n : α} {P : α → Prop} (k : ¬ P n) {x : CV}
include k
theorem CV.onBool_of {f : Bool → α} (h : P (x.onBool n f)) : ∃ i, x = .bool i ∧ P (f i) := by cases x with | bool i => exact ⟨i, rfl, h⟩ | _ => exact absurd h k
theorem CV.onInt_of {f : Int → α} (h : P (x.onInt n f)) : ∃ i, x = .int i ∧ P (f i) := by cases x with | int i => exact ⟨i, rfl, h⟩ | _ => exact absurd h k
theorem CV.onStr_of {f : List Nat → α} (h : P (x.onStr n f)) : ∃ i, x = .str i ∧ P (f i) := by cases x with | str i => exact ⟨i, rfl, h⟩ | _ => exact absurd h k
theorem CV.onTup_of {f : List CV → α} (h : P (x.onTup n f)) : ∃ i, x = .tup i ∧ P (f i) := by cases x with | tup i => exact ⟨i, rfl, h⟩ | _ => exact absurd h k
theorem CV.onIls_of {f : List CV → α} (h : P (x.onIls n f)) : ∃ i, x = .ils i ∧ P (f i) := by cases x with | ils i => exact ⟨i, rfl, h⟩ | _ => exact absurd h k
theorem CV.onLst_of {f : Nat → α} (h : P (x.onLst n f)) : ∃ i, x = .lst i ∧ P (f i) := by cases x with | lst i => exact ⟨i, rfl, h⟩ | _ => exact absurd h k
theorem CV.onObj_of {f : Nat → α} (h : P (x.onObj n f)) : ∃ i, x = .obj i ∧ P (f i) := by cases x with | obj i => exact ⟨i, rfl, h⟩ | _ => exact absurd h k
theorem CV.onNone_of {f : α} (h : P (x.onNone n f)) : x = .none ∧ P f := by cases x with | none => exact ⟨rfl, h⟩ | _ => exact absurd h k
end
section
variable {α : Type} {n r : α} (k : n ≠ r) {x : CV}
include k
theorem CV.onBool_is {f : Bool → α} (h : x.onBool n f = r) : ∃ i, x = .bool i ∧ f i = r := onBool_of (P := (· = r)) k h
theorem CV.onInt_is {f : Int → α} (h : x.onInt n f = r) : ∃ i, x = .int i ∧ f i = r := onInt_of (P := (· = r)) k h
theorem CV.onStr_is {f : List Nat → α} (h : x.onStr n f = r) : ∃ i, x = .str i ∧ f i = r := onStr_of (P := (· = r)) k h
theorem CV.onTup_is {f : List CV → α} (h : x.onTup n f = r) : ∃ i, x = .tup i ∧ f i = r := onTup_of (P := (· = r)) k h
theorem CV.onIls_is {f : List CV → α} (h : x.onIls n f = r) : ∃ i, x = .ils i ∧ f i = r := onIls_of (P := (· = r)) k h
theorem CV.onLst_is {f : Nat → α} (h : x.onLst n f = r) : ∃ i, x = .lst i ∧ f i = r := onLst_of (P := (· = r)) k h
theorem CV.onObj_is {f : Nat → α} (h : x.onObj n f = r) : ∃ i, x = .obj i ∧ f i = r := onObj_of (P := (· = r)) k h
theorem CV.onNone_is {f : α} (h : x.onNone n f = r) : x = .none ∧ f = r := onNone_of (P := (· = r)) k h
end
theorem none_some {α : Type} {a : α} : none ≠ some a := fun h => nomatch h
theorem ff_tt : false ≠ true := Bool.false_ne_true

mutual
noncomputable def CV.beq : CV → CV → Bool
  | .none, y => y.onNone false true
  | .bool a, y => y.onBool false fun b => a == b
  | .int a, y => y.onInt false fun b => a == b
  | .str a, y => y.onStr false fun b => a == b
  | .tup a, y => y.onTup false fun b => CV.beqs a b
  | .lst a, y => y.onLst false fun b => a == b
  | .obj a, y => y.onObj false fun b => a == b
  | _, _ => false
noncomputable def CV.beqs : List CV → List CV → Bool
  | [], y => y.isEmpty
  | a :: as, y => match y with
    | [] => false
    | b :: bs => CV.beq a b && CV.beqs as bs
end
theorem and_of {a b : Bool} (h : a = true) (k : b = true) : (a && b) = true := by rw [h, k]; rfl
theorem and_tt {a b : Bool} (h : (a && b) = true) : a = true ∧ b = true := (Bool.and_eq_true a b).mp h
mutual
theorem CV.beq_is : ∀ a b, CV.beq a b = true → a = b
  | .none, _, h => (onNone_is ff_tt h).1.symm
  | .bool _, _, h => by obtain ⟨_, rfl, h⟩ := onBool_is ff_tt h; exact congrArg _ (eq_of_beq h)
  | .int _, _, h => by obtain ⟨_, rfl, h⟩ := onInt_is ff_tt h; exact congrArg _ (eq_of_beq h)
  | .str _, _, h => by obtain ⟨_, rfl, h⟩ := onStr_is ff_tt h; exact congrArg _ (eq_of_beq h)
  | .tup _, _, h => by obtain ⟨_, rfl, h⟩ := onTup_is ff_tt h; exact congrArg _ (beqs_is _ _ h)
  | .lst _, _, h => by obtain ⟨_, rfl, h⟩ := onLst_is ff_tt h; exact congrArg _ (eq_of_beq h)
  | .obj _, _, h => by obtain ⟨_, rfl, h⟩ := onObj_is ff_tt h; exact congrArg _ (eq_of_beq h)
  | .ils _, _, h => (ff_tt h).elim
  | .dct _, _, h => (ff_tt h).elim
theorem CV.beqs_is : ∀ a b, CV.beqs a b = true → a = b
  | [], y, h => (List.isEmpty_iff.mp h).symm
  | _ :: _, [], h => (ff_tt h).elim
  | x :: a, y :: b, h => by
    obtain ⟨h1, h2⟩ := and_tt h
    rw [beq_is x y h1, beqs_is a b h2]
end

/-- a list, or a thing of the text's one class: rows, at, deep -/
inductive Cell where
  | list (xs : List CV)
  | inst (r a d : Option CV)
  deriving Inhabited

noncomputable abbrev Cells := List Cell
noncomputable abbrev Loc := List (Option CV)

inductive X where
  | bad
  | k (c : CV)
  | v (i : Nat)
  | g (n : Nat)
  | bop (isAnd : Bool) (xs : List X)
  | bin (op : Operator) (a b : X)
  | not (a : X)
  | neg (a : X)
  | ife (c a b : X)
  | tup (xs : List X)
  | lst (xs : List X)
  | ilst (xs : List X)
  | dct (ks : List (List Nat)) (xs : List X)
  | cmp (op : CmpOp) (a b : X)
  | call (f : Nat) (xs : List X)
  | meth (o : X) (m : Nat) (xs : List X)
  | len (a : X)
  | min (a b : X)
  | max (a b : X)
  | lstof (a : X)
  | tupof (a : X)
  | strof (a : X)
  | intof (a : X)
  | words (a : X)
  | app (o a : X)
  | get (d k z : X)
  | find (o a : X)
  | lower (o : X)
  | attr (o : X) (n : Nat)
  | sub (o i : X)
  | slc (o : X) (lo hi : Option X)
  | nocomp (src cond : X)
  deriving Inhabited

/-- what the clause of a try gives back -/
inductive H where
  | str (s : List Nat)
  | msg
  | spot
  | div (h : H) (n : Int)
  | tup (hs : List H)
  deriving Inhabited

inductive S where
  | bad
  | asg (i : Nat) (e : X)
  | asgr (i f j : Nat)
  | asgs (is : List Nat) (e : X)
  | seta (o : X) (n : Nat) (e : X)
  | seti (o i e : X)
  | aug (i : Nat) (op : Operator) (e : X)
  | auga (o : X) (n : Nat) (op : Operator) (e : X)
  | ife (c : X) (a b : List S)
  | whl (c : X) (b : List S)
  | for_ (i : Nat) (e : X) (b : List S)
  | forr (i : Nat) (e : X) (b : List S)
  | ret (e : X)
  | ex (e : X)
  | rse (m p : X)
  | try_ (b : List S) (h : H)
  | brk
  deriving Inhabited

/-- a def: parameters, locals in all, defaults of the last parameters, body -/
structure Fn where
  np : Nat
  nv : Nat
  dflt : List CV
  body : List S
  deriving Inhabited

inductive Res (σ α : Type) where
  | ok (a : α) (s : σ)
  | ex (m p : CV) (s : σ)
  | no

namespace Res
variable {σ τ α β : Type}
noncomputable def bind : Res σ α → (α → σ → Res σ β) → Res σ β
  | .ok a s, k => k a s
  | .ex m p s, _ => .ex m p s
  | .no, _ => .no
/-- the state seen as a part of a larger one -/
noncomputable def up (f : σ → τ) : Res σ α → Res τ α
  | .ok a s => .ok a (f s)
  | .ex m p s => .ex m p (f s)
  | .no => .no
noncomputable def ofOpt (o : Option α) (s : σ) : Res σ α := match o with
  | some a => .ok a s
  | none => .no
end Res

noncomputable def truth : CV → Option Bool
  | .bool b => some b
  | _ => none

noncomputable def ofIf {α : Type} (c : Prop) [Decidable c] (a : α) : Option α := if c then some a else none
theorem ofIf_is {α : Type} {c : Prop} [Decidable c] {a b : α} (h : ofIf c a = some b) : c ∧ a = b := by
  unfold ofIf at h
  by_cases k : c
  · rw [if_pos k] at h; exact ⟨k, Option.some.inj h⟩
  · rw [if_neg k] at h; exact absurd h none_some
theorem ofIf_pos {α : Type} {c : Prop} [Decidable c] {a : α} (h : c) : ofIf c a = some a := if_pos h
noncomputable abbrev both {α : Type} (x y : CV) (f : Int → Int → Option α) : Option α := x.onInt none fun a => y.onInt none fun b => f a b
theorem both_is {α : Type} {x y : CV} {z : α} {f : Int → Int → Option α} (h : both x y f = some z) : ∃ a b, x = .int a ∧ y = .int b ∧ f a b = some z := by
  obtain ⟨a, e, h⟩ := CV.onInt_is none_some h
  obtain ⟨b, e', h⟩ := CV.onInt_is (x := y) none_some h
  exact ⟨a, b, e, e', h⟩
noncomputable def addOp (x y : CV) : Option CV := match x with
  | .int a => y.onInt none fun b => some (.int (a + b))
  | .str a => y.onStr none fun b => ofIf (a.length + b.length ≤ 100000) (.str (a ++ b))
  | .ils a => y.onIls none fun b => ofIf (a.length + b.length ≤ 100000) (.ils (a ++ b))
  | _ => none
noncomputable def binOp (op : Operator) (x y : CV) : Option CV := match op with
  | .Add => addOp x y
  | .Sub => both x y fun a b => some (.int (a - b))
  | .Mult => both x y fun a b => ofIf (a.natAbs < 2 ^ 62 ∧ b.natAbs < 2 ^ 62) (.int (a * b))
  | .FloorDiv => both x y fun a b => ofIf (0 < b ∧ b < 2 ^ 62) (.int (Int.fdiv a b))
  | .Mod => both x y fun a b => ofIf (0 < b ∧ b < 2 ^ 62) (.int (Int.fmod a b))
  | .Pow => both x y fun a b => ofIf (a = 10 ∧ b = 18) (.int (10 ^ 18))
  | _ => none

noncomputable def augOp (op : Operator) (x y : CV) : Option CV := match op with
  | .Add => both x y fun a b => some (.int (a + b))
  | .Sub => both x y fun a b => some (.int (a - b))
  | _ => none

noncomputable def isStr (x : CV) (b : List Nat) : Bool := x.onStr false fun a => a == b
noncomputable def allStr : List CV → Bool
  | [] => true
  | x :: r => x.onStr false fun _ => allStr r

/-- what cells.c holds -/
noncomputable def Cell.asList : Cell → Option (List CV)
  | .list xs => some xs
  | .inst _ _ _ => none
structure Inst where
  r : Option CV
  a : Option CV
  d : Option CV
noncomputable def Cell.asInst : Cell → Option Inst
  | .list _ => none
  | .inst r a d => some ⟨r, a, d⟩
noncomputable def listAt (cs : Cells) (c : Nat) : Option (List CV) := cs[c]?.bind Cell.asList
noncomputable def instAt (cs : Cells) (c : Nat) : Option Inst := cs[c]?.bind Cell.asInst
noncomputable def isInst (cs : Cells) (c : Nat) : Bool := (instAt cs c).isSome
theorem listAt_some {cs : Cells} {c : Nat} {xs : List CV} (e : listAt cs c = some xs) : cs[c]? = some (.list xs) := by
  obtain ⟨z, h, e⟩ := Option.bind_eq_some_iff.mp e
  cases z with
  | list ys => rw [h, Option.some.inj e]
  | inst _ _ _ => exact absurd e none_some
theorem instAt_some {cs : Cells} {c : Nat} {x : Inst} (e : instAt cs c = some x) : cs[c]? = some (.inst x.r x.a x.d) := by
  obtain ⟨z, h, e⟩ := Option.bind_eq_some_iff.mp e
  cases z with
  | list ys => exact absurd e none_some
  | inst _ _ _ => rw [h, ← Option.some.inj e]
theorem listAt_of {cs : Cells} {c : Nat} {xs : List CV} (e : cs[c]? = some (.list xs)) : listAt cs c = some xs := congrArg (Option.bind · Cell.asList) e
theorem instAt_of {cs : Cells} {c : Nat} {r a d : Option CV} (e : cs[c]? = some (.inst r a d)) : instAt cs c = some ⟨r, a, d⟩ := congrArg (Option.bind · Cell.asInst) e

mutual
/-- data that are compared as they stand: n parts within one another at most, each sign of a text a sign -/
noncomputable def okV : CV → Nat → Bool
  | .none, _ => true
  | .bool _, _ => true
  | .int _, _ => true
  | .str s, _ => s.all (fun c => decide (c < 1114112))
  | .tup xs, n => match n with
    | 0 => false
    | n + 1 => okVs xs n
  | _, _ => false
noncomputable def okVs : List CV → Nat → Bool
  | [], _ => true
  | x :: xs, n => okV x n && okVs xs n
end
noncomputable def eqOp (cs : Cells) (x y : CV) : Option Bool := match x with
  | .int a => y.onInt none fun b => some (decide (a = b))
  | .str a => y.onStr none fun b => some (decide (a = b))
  | .tup a => y.onTup none fun b => ofIf (CV.beqs a b = true ∧ okVs a 30 = true) true
  | .ils a => y.onIls none fun b => ofIf (a.isEmpty = true ∧ b.isEmpty = true) true
  | .lst c => y.onIls none fun b => (listAt cs c).bind fun xs => ofIf (b.isEmpty = true ∧ okVs xs 30 = true) xs.isEmpty
  | _ => none

noncomputable def lookD (es : List (List Nat × Int)) (k : List Nat) : Option Int := match es with
  | [] => none
  | (a, v) :: r => if a = k then some v else lookD r k

noncomputable abbrev one {α : Type} (a : List Nat) (f : Nat → Option α) : Option α := match a with
  | [] => none
  | c :: r => match r with
    | [] => f c
    | _ :: _ => none
theorem one_is {α : Type} {a : List Nat} {f : Nat → Option α} {z : α} (h : one a f = some z) : ∃ c, a = [c] ∧ f c = some z := by
  cases a with
  | nil => exact absurd h none_some
  | cons c r => cases r with
    | nil => exact ⟨c, rfl, h⟩
    | cons _ _ => exact absurd h none_some
noncomputable def inOp (x y : CV) : Option Bool := x.onStr none fun a => match y with
  | .str b => one a fun c => some (b.contains c)
  | .tup xs => ofIf (allStr xs = true) (xs.any (isStr · a))
  | .ils xs => ofIf (allStr xs = true) (xs.any (isStr · a))
  | .dct es => some (lookD es a).isSome
  | _ => none
noncomputable def notInOp (x y : CV) : Option Bool := x.onStr none fun a => match y with
  | .str b => one a fun c => some (!b.contains c)
  | .tup xs => ofIf (allStr xs = true) (!xs.any (isStr · a))
  | _ => none
/-- an is with none -/
noncomputable def isOp (x y : CV) : Option Bool := y.onNone none <| match x with
  | .none => some true
  | .str _ => some false
  | _ => none
noncomputable def cmpOp (cs : Cells) (op : CmpOp) (x y : CV) : Option Bool := match op with
  | .Eq => eqOp cs x y
  | .NotEq => (eqOp cs x y).map (!·)
  | .Lt => both x y fun a b => some (decide (a < b))
  | .LtE => both x y fun a b => some (decide (a ≤ b))
  | .Gt => both x y fun a b => some (decide (a > b))
  | .GtE => both x y fun a b => some (decide (a ≥ b))
  | .In => inOp x y
  | .NotIn => notInOp x y
  | .Is => isOp x y
  | .IsNot => (isOp x y).map (!·)

noncomputable def itemAt (xs : List CV) (i : Int) : Option CV := (ofIf (0 ≤ i ∧ i < 100000) i.toNat).bind fun k => xs[k]?

noncomputable def rowAt (o : Option (List CV)) (i : Int) : Option CV := o.bind fun xs => itemAt xs i
noncomputable def strAt (s : List Nat) (i : Int) : Option CV := (ofIf (0 ≤ i ∧ i < 100000) i.toNat).bind fun k => (s[k]?).map fun x => .str [x]
noncomputable def subOp (cs : Cells) (x y : CV) : Option CV := y.onInt none fun i => match x with
  | .tup xs => itemAt xs i
  | .ils xs => itemAt xs i
  | .lst c => rowAt (listAt cs c) i
  | .str s => strAt s i
  | _ => none

/-- a bound of a slice -/
noncomputable def bound (a : Option CV) (d : Nat) : Option Nat := match a with
  | none => some d
  | some a => a.onInt none fun i => ofIf (0 ≤ i) i.toNat
noncomputable def slcStr (s : List Nat) (a b : Option CV) : Option CV := (bound a 0).bind fun i => (bound b s.length).bind fun j => ofIf (s.length ≤ 100000 ∧ (a.isSome || b.isSome) = true) (.str ((s.take j).drop i))
noncomputable def slcOp (x : CV) (a b : Option CV) : Option CV := x.onStr none fun s => slcStr s a b

noncomputable def sized (n : Nat) : Option CV := ofIf (n ≤ 100000) (.int n)
noncomputable def lenOp (cs : Cells) (x : CV) : Option CV := match x with
  | .str s => sized s.length
  | .tup xs => sized xs.length
  | .ils xs => sized xs.length
  | .lst c => (listAt cs c).bind fun xs => sized xs.length
  | _ => none

noncomputable def getA (i : Inst) (n : Nat) : Option CV := match n with
  | 0 => i.r
  | n + 1 => match n with
    | 0 => i.a
    | _ + 1 => i.d
noncomputable def putA (i : Inst) (n : Nat) (v : CV) : Option Cell := match n with
  | 0 => ofIf ((i.r.isSome || (i.a.isNone && i.d.isNone)) = true) (.inst (some v) i.a i.d)
  | n + 1 => match n with
    | 0 => ofIf ((i.r.isSome && (i.a.isSome || i.d.isNone)) = true) (.inst i.r (some v) i.d)
    | n + 1 => match n with
      | 0 => ofIf ((i.r.isSome && i.a.isSome) = true) (.inst i.r i.a (some v))
      | _ + 1 => none

noncomputable def attrOp (cs : Cells) (o : CV) (n : Nat) : Option CV := o.onObj none fun c => (instAt cs c).bind fun i => getA i n
noncomputable def setAOp (cs : Cells) (o : CV) (n : Nat) (v : CV) : Option Cells := o.onObj none fun c => (instAt cs c).bind fun i => (putA i n v).map fun x => cs.set c x

noncomputable def strInt (i : Int) : Option CV := if 0 ≤ i ∧ i < 10 then some (.str [48 + i.toNat]) else ofIf (10 ≤ i ∧ i < 100) (.str [48 + i.toNat / 10, 48 + i.toNat % 10])
noncomputable def strOf (x : CV) : Option CV := x.onInt none strInt
noncomputable def intStr (s : List Nat) : Option CV := if s = [48, 49] then some (.int 1) else if s = [48] then some (.int 0) else ofIf (s = [55]) (.int 7)
noncomputable def intOf (x : CV) : Option CV := x.onStr none intStr
noncomputable def hex16 : List Nat := [48, 49, 50, 51, 52, 53, 54, 55, 56, 57, 97, 98, 99, 100, 101, 102]
noncomputable def ixOf (s : List Nat) (x : Nat) : Int := match s.findIdx? (· == x) with
  | some i => (i : Int)
  | none => -1
noncomputable def findOp (x y : CV) : Option CV := x.onStr none fun s => y.onStr none fun t => one t fun x => ofIf (s = hex16 ∧ x < 128) (.int (ixOf s x))
noncomputable def lowerOp (x : CV) : Option CV := x.onStr none fun s => one s fun x => ofIf (x < 128) (.str [if 65 ≤ x ∧ x ≤ 90 then x + 32 else x])

noncomputable def intsOf : List CV → Option (List Int)
  | [] => some []
  | x :: r => x.onInt none fun i => (intsOf r).map (i :: ·)
noncomputable def zipD (ks : List (List Nat)) (vs : List CV) : Option CV := (intsOf vs).bind fun is => ofIf (ks.length = is.length) (.dct (ks.zip is))

/-- the defs that are called: name, arguments, cells -/
noncomputable abbrev Orc := Nat → List CV → Cells → Res Cells CV

noncomputable def atomK : CV → Bool
  | .none => true
  | .bool _ => true
  | .int _ => true
  | .str _ => true
  | _ => false

noncomputable def isFF (x : CV) : Bool := x.onBool false fun b => !b
noncomputable def noneOf (cond : Loc → Cells → Res Cells CV) : List CV → Cells → Res Cells CV
  | [], cs => .ok (.ils []) cs
  | x :: r, cs => match cond [some x] cs with
    | .ok v cs => if isFF v = true then noneOf cond r cs else .no
    | .ex _ _ _ => .no
    | .no => .no

noncomputable def rowsOf (C : Orc) (f : Nat) : Nat → List CV → List CV → Cells → Res Cells CV
  | _, [], acc, cs => .ok (.ils acc) cs
  | n, x :: r, acc, cs => match C f [x, .int (10 * n)] cs with
    | .ok v cs => rowsOf C f (n + 1) r (acc ++ [v]) cs
    | .ex _ _ _ => .no
    | .no => .no

noncomputable def initIx : Nat := 9

/-- a list of cells.c, if it is not too long -/
noncomputable def room (cs : Cells) (c : Nat) (f : List CV → Res Cells CV) : Res Cells CV := match listAt cs c with
  | some xs => if xs.length ≤ 100000 then f xs else .no
  | none => .no
noncomputable def found (es : List (List Nat × Int)) (s : List Nat) (z : CV) : CV := match lookD es s with
  | some i => .int i
  | none => z
noncomputable def fresh (cs : Cells) (xs : List CV) : Res Cells CV := .ok (.lst cs.length) (cs ++ [.list xs])
mutual
noncomputable def evX (G : List CV) (C : Orc) : X → Loc → Cells → Res Cells CV
  | .bad, _, _ => .no
  | .k c, _, cs => if atomK c then .ok c cs else .no
  | .v i, l, cs => .ofOpt (l[i]?.join) cs
  | .g n, _, cs => .ofOpt G[n]? cs
  | .bop a xs, l, cs => evB G C a xs l cs
  | .bin op a b, l, cs => (evX G C a l cs).bind fun x cs => (evX G C b l cs).bind fun y cs => .ofOpt (binOp op x y) cs
  | .not a, l, cs => (evX G C a l cs).bind fun x cs => x.onBool .no fun t => .ok (.bool (!t)) cs
  | .neg a, l, cs => (evX G C a l cs).bind fun x cs => x.onInt .no fun i => .ok (.int (-i)) cs
  | .ife c a b, l, cs => (evX G C c l cs).bind fun t cs => t.onBool .no fun t => match t with
    | true => evX G C a l cs
    | false => evX G C b l cs
  | .tup xs, l, cs => (evXs G C xs l cs).bind fun vs cs => .ok (.tup vs) cs
  | .lst xs, l, cs => (evXs G C xs l cs).bind fun vs cs => fresh cs vs
  | .ilst xs, l, cs => (evXs G C xs l cs).bind fun vs cs => .ok (.ils vs) cs
  | .dct ks xs, l, cs => (evXs G C xs l cs).bind fun vs cs => .ofOpt (zipD ks vs) cs
  | .cmp op a b, l, cs => (evX G C a l cs).bind fun x cs => (evX G C b l cs).bind fun y cs => .ofOpt ((cmpOp cs op x y).map .bool) cs
  | .call f xs, l, cs => (evXs G C xs l cs).bind fun vs cs => C f vs cs
  | .meth o m xs, l, cs => (evX G C o l cs).bind fun w cs => w.onObj .no fun c => if isInst cs c = true then (evXs G C xs l cs).bind fun vs cs => C m (.obj c :: vs) cs else .no
  | .len a, l, cs => (evX G C a l cs).bind fun x cs => .ofOpt (lenOp cs x) cs
  | .min a b, l, cs => (evX G C a l cs).bind fun x cs => (evX G C b l cs).bind fun y cs => x.onInt .no fun i => y.onInt .no fun j => .ok (.int (if j < i then j else i)) cs
  | .max a b, l, cs => (evX G C a l cs).bind fun x cs => (evX G C b l cs).bind fun y cs => x.onInt .no fun i => y.onInt .no fun j => .ok (.int (if i < j then j else i)) cs
  | .lstof a, l, cs => (evX G C a l cs).bind fun x cs => match x with
    | .ils xs => if xs.length ≤ 100000 then fresh cs xs else .no
    | .lst c => room cs c fun xs => fresh cs xs
    | _ => .no
  | .tupof a, l, cs => (evX G C a l cs).bind fun x cs => x.onLst .no fun c => room cs c fun xs => .ok (.tup xs) cs
  | .strof a, l, cs => (evX G C a l cs).bind fun x cs => .ofOpt (strOf x) cs
  | .intof a, l, cs => (evX G C a l cs).bind fun x cs => .ofOpt (intOf x) cs
  | .words a, l, cs => (evX G C a l cs).bind fun x cs => (C initIx [.obj cs.length, x] (cs ++ [.inst none none none])).bind fun r cs' => r.onNone .no (.ok (.obj cs.length) cs')
  | .app o a, l, cs => (evX G C o l cs).bind fun x cs => x.onLst .no fun c => if (listAt cs c).isSome = true then (evX G C a l cs).bind fun y cs => room cs c fun xs => .ok .none (cs.set c (.list (xs ++ [y]))) else .no
  | .get d k z, l, cs => (evX G C d l cs).bind fun x cs => match x with
    | .dct es => (evX G C k l cs).bind fun y cs => (evX G C z l cs).bind fun z cs => y.onStr .no fun s => .ok (found es s z) cs
    | _ => .no
  | .find o a, l, cs => (evX G C o l cs).bind fun x cs => x.onStr .no fun u => (evX G C a l cs).bind fun y cs => .ofOpt (findOp (.str u) y) cs
  | .lower o, l, cs => (evX G C o l cs).bind fun x cs => .ofOpt (lowerOp x) cs
  | .attr o n, l, cs => (evX G C o l cs).bind fun x cs => .ofOpt (attrOp cs x n) cs
  | .sub o i, l, cs => (evX G C o l cs).bind fun x cs => (evX G C i l cs).bind fun y cs => .ofOpt (subOp cs x y) cs
  | .slc o lo hi, l, cs => (evX G C o l cs).bind fun x cs => (evO G C lo l cs).bind fun a cs => (evO G C hi l cs).bind fun b cs => .ofOpt (slcOp x a b) cs
  | .nocomp src cond, l, cs => (evX G C src l cs).bind fun x cs => x.onIls .no fun xs => noneOf (fun l cs => evX G C cond l cs) xs cs
noncomputable def evXs (G : List CV) (C : Orc) : List X → Loc → Cells → Res Cells (List CV)
  | [], _, cs => .ok [] cs
  | x :: r, l, cs => (evX G C x l cs).bind fun v cs => (evXs G C r l cs).bind fun vs cs => .ok (v :: vs) cs
noncomputable def evB (G : List CV) (C : Orc) (isAnd : Bool) : List X → Loc → Cells → Res Cells CV
  | [], _, _ => .no
  | x :: r, l, cs => match r with
    | [] => evX G C x l cs
    | y :: r => (evX G C x l cs).bind fun v cs => v.onBool .no fun b => if b = isAnd then evB G C isAnd (y :: r) l cs else .ok (.bool b) cs
noncomputable def evO (G : List CV) (C : Orc) : Option X → Loc → Cells → Res Cells (Option CV)
  | none, _, cs => .ok none cs
  | some x, l, cs => (evX G C x l cs).bind fun v cs => .ok (some v) cs
end

mutual
noncomputable def evH (m p : CV) : H → Option CV
  | .str s => some (.str s)
  | .msg => some m
  | .spot => some p
  | .div h n => (evH m p h).bind fun x => x.onInt none fun i => ofIf (0 < n ∧ n < 2 ^ 62) (.int (Int.fdiv i n))
  | .tup hs => (evHs m p hs).map .tup
noncomputable def evHs (m p : CV) : List H → Option (List CV)
  | [] => some []
  | h :: r => (evH m p h).bind fun x => (evHs m p r).map (x :: ·)
end

inductive Fl where
  | next
  | brk
  | ret (v : CV)

noncomputable abbrev St := Loc × Cells
/-- an expression within a statement -/
noncomputable def evS (G : List CV) (C : Orc) (e : X) (s : St) : Res St CV := (evX G C e s.1 s.2).up fun cs => (s.1, cs)

noncomputable def putAll : List Nat → List CV → Loc → Option Loc
  | [], vs, l => ofIf (vs.isEmpty = true) l
  | i :: is, vs, l => match vs with
    | [] => none
    | v :: vs => putAll is vs (l.set i (some v))

/-- a loop's turns, n of them at most -/
noncomputable def turns (test : St → Res St CV) (body : St → Res St Fl) : Nat → St → Res St Fl
  | 0, _ => .no
  | n + 1, s => (test s).bind fun t s => t.onBool .no fun t => match t with
    | true => (body s).bind fun f s => match f with
      | .next => turns test body n s
      | .brk => .ok .next s
      | .ret v => .ok (.ret v) s
    | false => .ok .next s
/-- one turn for each item -/
noncomputable def each (i : Nat) (body : St → Res St Fl) : List CV → St → Res St Fl
  | [], s => .ok .next s
  | x :: r, s => (body (s.1.set i (some x), s.2)).bind fun f s => match f with
    | .next => each i body r s
    | .brk => .ok .next s
    | .ret v => .ok (.ret v) s

noncomputable def mostTurns : Nat := 5000
/-- what an option holds -/
noncomputable abbrev got {σ α β : Type} (o : Option α) (f : α → Res σ β) : Res σ β := match o with
  | some a => f a
  | none => .no
noncomputable def upto (n : Nat) : List CV := (List.range n).map fun (k : Nat) => CV.int (k : Int)

mutual
noncomputable def exS (G : List CV) (C : Orc) : S → St → Res St Fl
  | .bad, _ => .no
  | .asg i e, s => (evS G C e s).bind fun v s => .ok .next (s.1.set i (some v), s.2)
  | .asgr i f j, s => got (s.1[j]?.join) fun x => x.onIls .no fun xs => if xs.length ≤ 1000 then (match rowsOf C f 0 xs [] s.2 with
      | .ok v cs => .ok .next (s.1.set i (some v), cs)
      | .ex _ _ _ => .no
      | .no => .no) else .no
  | .asgs is e, s => (evS G C e s).bind fun v s => v.onTup .no fun vs => got (putAll is vs s.1) fun l => .ok .next (l, s.2)
  | .seta o n e, s => (evS G C e s).bind fun v s => (evS G C o s).bind fun w s => got (setAOp s.2 w n v) fun cs => .ok .next (s.1, cs)
  | .seti o i e, s => (evS G C e s).bind fun v s => (evS G C o s).bind fun w s => (evS G C i s).bind fun j s => w.onLst .no fun c => j.onInt .no fun j => got (listAt s.2 c) fun xs =>
      if 0 ≤ j ∧ j < 100000 ∧ j.toNat < xs.length then .ok .next (s.1, s.2.set c (.list (xs.set j.toNat v))) else .no
  | .aug i op e, s => got (s.1[i]?.join) fun a => (evS G C e s).bind fun b s => got (augOp op a b) fun v => .ok .next (s.1.set i (some v), s.2)
  | .auga o n op e, s => (evS G C o s).bind fun w s => got (attrOp s.2 w n) fun a => (evS G C e s).bind fun b s => got (augOp op a b) fun v => got (setAOp s.2 w n v) fun cs => .ok .next (s.1, cs)
  | .ife c a b, s => (evS G C c s).bind fun t s => t.onBool .no fun t => match t with
    | true => exSs G C a s
    | false => exSs G C b s
  | .whl c b, s => turns (evS G C c) (fun s => exSs G C b s) mostTurns s
  | .for_ i e b, s => (evS G C e s).bind fun x s => match x with
    | .ils xs => each i (fun s => exSs G C b s) xs s
    | .tup xs => each i (fun s => exSs G C b s) xs s
    | _ => .no
  | .forr i e b, s => (evS G C e s).bind fun x s => x.onInt .no fun n => if 0 ≤ n ∧ n ≤ 1000 then each i (fun s => exSs G C b s) (upto n.toNat) s else .no
  | .ret e, s => (evS G C e s).bind fun v s => .ok (.ret v) s
  | .ex e, s => (evS G C e s).bind fun _ s => .ok .next s
  | .rse m p, s => (evS G C m s).bind fun x s => (evS G C p s).bind fun y s => x.onStr .no fun x => y.onInt .no fun y => .ex (.str x) (.int y) s
  | .try_ b h, s => match exSs G C b s with
    | .ok f s => .ok f s
    | .ex m p s => got (evH m p h) fun v => .ok (.ret v) s
    | .no => .no
  | .brk, s => .ok .brk s
noncomputable def exSs (G : List CV) (C : Orc) : List S → St → Res St Fl
  | [], s => .ok .next s
  | x :: r, s => (exS G C x s).bind fun f s => match f with
    | .next => exSs G C r s
    | .brk => .ok .brk s
    | .ret v => .ok (.ret v) s
end

noncomputable def bindLoc (f : Fn) (vs : List CV) : Option Loc :=
  ofIf (vs.length ≤ f.np ∧ f.np ≤ vs.length + f.dflt.length) (((vs ++ f.dflt.drop (f.dflt.length + vs.length - f.np)).map some) ++ List.replicate (f.nv - f.np) none)

/-- what a body's end answers -/
noncomputable def ended : Res St Fl → Res Cells CV
  | .ok f s => .ok (match f with | .ret v => v | .next => .none | .brk => .none) s.2
  | .ex m p s => .ex m p s.2
  | .no => .no
/-- the call of a def; b: how deep calls may still go -/
noncomputable def callB (P : List Fn) (G : List CV) : Nat → Orc
  | 0 => fun _ _ _ => .no
  | b + 1 => fun f vs cs => got P[f]? fun d => got (bindLoc d vs) fun l => ended (exSs G (callB P G b) d.body (l, cs))
end Mine
end

section
namespace Mine
open PySem
/-- run_end: text, at, signs -/
noncomputable def f_run_end : Fn := ⟨3, 3, [], [
  .whl (.bop true [.cmp .Lt (.v 1) (.len (.v 0)), .cmp .In (.sub (.v 0) (.v 1)) (.v 2)]) [.aug 1 .Add (.k (.int 1))],
  .ret (.v 1)]⟩
/-- blank_end: text, at, end -/
noncomputable def f_blank_end : Fn := ⟨2, 3, [], [
  .whl (.cmp .Lt (.v 1) (.len (.v 0))) [.ife (.cmp .In (.sub (.v 0) (.v 1)) (.g 6)) [.asg 1 (.call 0 [.v 0, .v 1, .g 6])] [.ife (.cmp .Eq (.slc (.v 0) (some (.v 1)) (some (.bin .Add (.v 1) (.k (.int 2))))) (.k (.str [47, 47]))) [.asg 2 (.bad), .asg 1 (.ife (.cmp .Lt (.v 2) (.k (.int 0))) (.len (.v 0)) (.v 2))] [.ife (.cmp .Eq (.slc (.v 0) (some (.v 1)) (some (.bin .Add (.v 1) (.k (.int 2))))) (.k (.str [47, 42]))) [.asg 1 (.bad)] [.ret (.v 1)]]]],
  .ret (.v 1)]⟩
/-- figure_worth: sign, place -/
noncomputable def f_figure_worth : Fn := ⟨1, 2, [], [
  .asg 1 (.find (.k (.str [48, 49, 50, 51, 52, 53, 54, 55, 56, 57, 97, 98, 99, 100, 101, 102])) (.lower (.v 0))),
  .ret (.ife (.cmp .GtE (.v 1) (.k (.int 0))) (.v 1) (.k (.int 99)))]⟩
/-- base_at: text, at, bases, ahead -/
noncomputable def f_base_at : Fn := ⟨2, 4, [], [
  .asg 2 (.dct [[48, 120], [48, 111], [48, 98]] [.k (.int 16), .k (.int 8), .k (.int 2)]),
  .asg 3 (.slc (.v 0) (some (.v 1)) (some (.bin .Add (.v 1) (.k (.int 2))))),
  .ret (.ife (.cmp .In (.v 3) (.v 2)) (.tup [.sub (.v 2) (.v 3), .bin .Add (.v 1) (.k (.int 2))]) (.tup [.k (.int 10), .v 1]))]⟩
/-- read_int: text, begin, base, at, value, many, end, kind -/
noncomputable def f_read_int : Fn := ⟨2, 8, [], [
  .asgs [2, 3] (.call 3 [.v 0, .v 1]),
  .asgs [4, 5] (.tup [.k (.int 0), .k (.int 0)]),
  .whl (.bop true [.cmp .Lt (.v 3) (.len (.v 0)), .bop false [.cmp .Eq (.sub (.v 0) (.v 3)) (.k (.str [95])), .cmp .Lt (.call 2 [.sub (.v 0) (.v 3)]) (.v 2)]]) [.ife (.cmp .NotEq (.sub (.v 0) (.v 3)) (.k (.str [95]))) [.asgs [4, 5] (.tup [.bin .Add (.bin .Mult (.v 4) (.v 2)) (.call 2 [.sub (.v 0) (.v 3)]), .bin .Add (.v 5) (.k (.int 1))])] [], .ife (.cmp .GtE (.v 4) (.g 8)) [.bad] [], .aug 3 .Add (.k (.int 1))],
  .ife (.cmp .Eq (.v 5) (.k (.int 0))) [.bad] [],
  .asg 6 (.call 0 [.v 0, .v 3, .g 5]),
  .asg 7 (.slc (.v 0) (some (.v 3)) (some (.v 6))),
  .ife (.bop true [.cmp .NotEq (.v 7) (.k (.str [])), .cmp .NotIn (.v 7) (.g 0)]) [.bad] [],
  .ret (.tup [.tup [.k (.str [105, 110, 116]), .slc (.v 0) (some (.v 1)) (some (.v 6)), .v 1, .v 4, .ife (.cmp .Eq (.v 7) (.k (.str []))) (.k .none) (.v 7)], .v 6])]⟩
/-- read_sign: text, at, sign -/
noncomputable def f_read_sign : Fn := ⟨2, 3, [], [
  .for_ 2 (.g 2) [.ife (.cmp .Eq (.slc (.v 0) (some (.v 1)) (some (.bin .Add (.v 1) (.len (.v 2))))) (.v 2)) [.ret (.tup [.tup [.k (.str [115, 105, 103, 110]), .v 2, .v 1, .k .none, .k .none], .bin .Add (.v 1) (.len (.v 2))])] []],
  .bad]⟩
/-- read_word: text, at, end -/
noncomputable def f_read_word : Fn := ⟨2, 3, [], [
  .ife (.cmp .In (.sub (.v 0) (.v 1)) (.g 3)) [.asg 2 (.call 0 [.v 0, .v 1, .g 5]), .ife (.cmp .Eq (.slc (.v 0) (some (.v 2)) (some (.bin .Add (.v 2) (.k (.int 1))))) (.k (.str [39]))) [.bad] [], .ret (.tup [.tup [.k (.str [110, 97, 109, 101]), .slc (.v 0) (some (.v 1)) (some (.v 2)), .v 1, .k .none, .k .none], .v 2])] [],
  .ife (.cmp .In (.sub (.v 0) (.v 1)) (.g 4)) [.ret (.call 4 [.v 0, .v 1])] [],
  .ife (.cmp .Eq (.sub (.v 0) (.v 1)) (.k (.str [39]))) [.asg 2 (.call 0 [.v 0, .bin .Add (.v 1) (.k (.int 1)), .g 5]), .ife (.bop false [.cmp .Eq (.v 2) (.bin .Add (.v 1) (.k (.int 1))), .cmp .In (.sub (.v 0) (.bin .Add (.v 1) (.k (.int 1)))) (.g 4)]) [.bad] [], .ret (.tup [.tup [.k (.str [114, 101, 103, 105, 111, 110]), .slc (.v 0) (some (.v 1)) (some (.v 2)), .v 1, .k .none, .k .none], .v 2])] [],
  .ret (.call 5 [.v 0, .v 1])]⟩
/-- word_rows: text, found, at, word -/
noncomputable def f_word_rows : Fn := ⟨1, 4, [], [
  .asg 1 (.lst []),
  .asg 2 (.call 1 [.v 0, .k (.int 0)]),
  .whl (.cmp .Lt (.v 2) (.len (.v 0))) [.asgs [3, 2] (.call 6 [.v 0, .v 2]), .ex (.app (.v 1) (.v 3)), .asg 2 (.call 1 [.v 0, .v 2])],
  .ex (.app (.v 1) (.tup [.k (.str [101, 110, 100]), .k (.str []), .len (.v 0), .k .none, .k .none])),
  .ret (.v 1)]⟩
/-- read_words: text -/
noncomputable def f_read_words : Fn := ⟨1, 1, [], [
  .ret (.words (.call 7 [.v 0]))]⟩
/-- __init__: self, rows -/
noncomputable def f_init : Fn := ⟨2, 2, [], [
  .seta (.v 0) 0 (.lstof (.v 1)),
  .seta (.v 0) 1 (.k (.int 0)),
  .seta (.v 0) 2 (.k (.int 0))]⟩
/-- deeper: self -/
noncomputable def f_deeper : Fn := ⟨1, 1, [], [
  .auga (.v 0) 2 .Add (.k (.int 1)),
  .ife (.cmp .Gt (.attr (.v 0) 2) (.g 9)) [.rse (.k (.str [116, 111, 111, 32, 109, 97, 110, 121, 32, 112, 97, 114, 116, 115, 32, 119, 105, 116, 104, 105, 110, 32, 111, 110, 101, 32, 97, 110, 111, 116, 104, 101, 114])) (.sub (.meth (.v 0) 12 []) (.k (.int 2)))] []]⟩
/-- shallower: self -/
noncomputable def f_shallower : Fn := ⟨1, 1, [], [
  .auga (.v 0) 2 .Sub (.k (.int 1))]⟩
/-- peek: self, ahead -/
noncomputable def f_peek : Fn := ⟨2, 2, [.int 0], [
  .ret (.sub (.attr (.v 0) 0) (.min (.bin .Add (.attr (.v 0) 1) (.v 1)) (.bin .Sub (.len (.attr (.v 0) 0)) (.k (.int 1)))))]⟩
/-- take: self, word -/
noncomputable def f_take : Fn := ⟨1, 2, [], [
  .asg 1 (.meth (.v 0) 12 []),
  .ife (.cmp .NotEq (.sub (.v 1) (.k (.int 0))) (.k (.str [101, 110, 100]))) [.auga (.v 0) 1 .Add (.k (.int 1))] [],
  .ret (.v 1)]⟩
/-- looks: self, text, ahead, word -/
noncomputable def f_looks : Fn := ⟨3, 4, [.int 0], [
  .asg 3 (.meth (.v 0) 12 [.v 2]),
  .ret (.bop true [.cmp .In (.sub (.v 3) (.k (.int 0))) (.tup [.k (.str [115, 105, 103, 110]), .k (.str [110, 97, 109, 101])]), .cmp .Eq (.sub (.v 3) (.k (.int 1))) (.v 1)])]⟩
/-- expect: self, text -/
noncomputable def f_expect : Fn := ⟨2, 2, [], [
  .ife (.not (.meth (.v 0) 14 [.v 1])) [.rse (.bin .Add (.v 1) (.k (.str [32, 105, 115, 32, 109, 105, 115, 115, 105, 110, 103]))) (.sub (.meth (.v 0) 12 []) (.k (.int 2)))] [],
  .ret (.meth (.v 0) 13 [])]⟩
/-- name: self, word -/
noncomputable def f_name : Fn := ⟨1, 2, [], [
  .asg 1 (.meth (.v 0) 12 []),
  .ife (.bop false [.cmp .NotEq (.sub (.v 1) (.k (.int 0))) (.k (.str [110, 97, 109, 101])), .cmp .In (.sub (.v 1) (.k (.int 1))) (.g 1)]) [.rse (.k (.str [97, 32, 110, 97, 109, 101, 32, 105, 115, 32, 109, 105, 115, 115, 105, 110, 103])) (.sub (.v 1) (.k (.int 2)))] [],
  .auga (.v 0) 1 .Add (.k (.int 1)),
  .ret (.tup [.sub (.v 1) (.k (.int 1)), .sub (.v 1) (.k (.int 2))])]⟩
/-- split_close: self, word -/
noncomputable def f_split_close : Fn := ⟨1, 2, [], [
  .asg 1 (.meth (.v 0) 12 []),
  .ife (.bop false [.cmp .NotEq (.sub (.v 1) (.k (.int 0))) (.k (.str [115, 105, 103, 110])), .cmp .NotEq (.slc (.sub (.v 1) (.k (.int 1))) none (some (.k (.int 1)))) (.k (.str [62]))]) [.rse (.k (.str [62, 32, 105, 115, 32, 109, 105, 115, 115, 105, 110, 103])) (.sub (.v 1) (.k (.int 2)))] [],
  .ife (.cmp .Eq (.sub (.v 1) (.k (.int 1))) (.k (.str [62]))) [.auga (.v 0) 1 .Add (.k (.int 1))] [.seti (.attr (.v 0) 0) (.attr (.v 0) 1) (.tup [.k (.str [115, 105, 103, 110]), .slc (.sub (.v 1) (.k (.int 1))) (some (.k (.int 1))) none, .bin .Add (.sub (.v 1) (.k (.int 2))) (.k (.int 1)), .k .none, .k .none])],
  .ret (.tup [.k (.str [115, 105, 103, 110]), .k (.str [62]), .sub (.v 1) (.k (.int 2)), .k .none, .k .none])]⟩
/-- read_type: words, found -/
noncomputable def f_read_type : Fn := ⟨1, 2, [], [
  .ex (.meth (.v 0) 10 []),
  .asg 1 (.call 19 [.v 0]),
  .ex (.meth (.v 0) 11 []),
  .ret (.v 1)]⟩
/-- read_shallow_type: words, word, spot -/
noncomputable def f_read_shallow_type : Fn := ⟨1, 3, [], [
  .asg 1 (.meth (.v 0) 12 []),
  .asg 2 (.sub (.v 1) (.k (.int 2))),
  .ife (.meth (.v 0) 14 [.k (.str [40])]) [.ret (.bad)] [],
  .ife (.bop false [.meth (.v 0) 14 [.k (.str [38])], .meth (.v 0) 14 [.k (.str [38, 38])]]) [.ret (.bad)] [],
  .ife (.meth (.v 0) 14 [.k (.str [91])]) [.ret (.bad)] [],
  .ife (.meth (.v 0) 14 [.k (.str [33])]) [.ex (.meth (.v 0) 13 []), .ret (.tup [.k (.str [110, 101, 118, 101, 114]), .v 2])] [],
  .ife (.meth (.v 0) 14 [.k (.str [95])]) [.ex (.meth (.v 0) 13 []), .ret (.tup [.k (.str [105, 110, 102, 101, 114]), .v 2])] [],
  .ret (.tup [.k (.str [112, 97, 116, 104]), .v 2, .call 20 [.v 0]])]⟩
/-- read_spath: words, is_expr, found -/
noncomputable def f_read_spath : Fn := ⟨2, 3, [.bool false], [
  .asg 2 (.lst [.call 21 [.v 0, .tup [], .v 1]]),
  .whl (.meth (.v 0) 14 [.k (.str [58, 58])]) [.ex (.meth (.v 0) 13 []), .ex (.app (.v 2) (.call 21 [.v 0, .bad, .v 1]))],
  .ret (.tupof (.v 2))]⟩
/-- read_segment: words, ahead, is_expr, name -/
noncomputable def f_read_segment : Fn := ⟨3, 4, [], [
  .asg 3 (.call 22 [.v 0, .v 1]),
  .ife (.bop true [.meth (.v 0) 14 [.k (.str [58, 58])], .meth (.v 0) 14 [.k (.str [60]), .k (.int 1)]]) [.ex (.meth (.v 0) 13 []), .ret (.bin .Add (.tup [.v 3]) (.bad))] [],
  .ife (.bop true [.not (.v 2), .meth (.v 0) 14 [.k (.str [60])]]) [.ret (.bin .Add (.tup [.v 3]) (.bad))] [],
  .ret (.tup [.v 3, .tup [], .tup []])]⟩
/-- read_path_name: words, ahead, word -/
noncomputable def f_read_path_name : Fn := ⟨2, 3, [], [
  .asg 2 (.meth (.v 0) 12 []),
  .ife (.bop true [.cmp .Eq (.sub (.v 2) (.k (.int 0))) (.k (.str [110, 97, 109, 101])), .cmp .In (.sub (.v 2) (.k (.int 1))) (.g 10)]) [.ife (.bop false [.cmp .Eq (.v 1) (.tup []), .bop true [.cmp .Eq (.sub (.v 2) (.k (.int 1))) (.k (.str [115, 117, 112, 101, 114])), .cmp .In (.sub (.v 1) (.neg (.k (.int 1)))) (.tup [.k (.str [115, 117, 112, 101, 114]), .k (.str [115, 101, 108, 102])])]]) [.ex (.meth (.v 0) 13 []), .ret (.sub (.v 2) (.k (.int 1)))] [], .rse (.bin .Add (.sub (.v 2) (.k (.int 1))) (.k (.str [32, 115, 116, 97, 110, 100, 115, 32, 97, 116, 32, 116, 104, 101, 32, 98, 101, 103, 105, 110, 32, 111, 102, 32, 97, 32, 112, 97, 116, 104, 32, 97, 108, 111, 110, 101]))) (.sub (.v 2) (.k (.int 2)))] [],
  .ret (.sub (.meth (.v 0) 16 []) (.k (.int 0)))]⟩
/-- read_expr: words, no_struct, left, word -/
noncomputable def f_read_expr : Fn := ⟨2, 4, [.bool false], [
  .asg 2 (.call 25 [.v 0, .k (.int 1), .v 1]),
  .asg 3 (.meth (.v 0) 12 []),
  .ife (.bop true [.cmp .Eq (.sub (.v 3) (.k (.int 0))) (.k (.str [115, 105, 103, 110])), .cmp .Eq (.sub (.v 3) (.k (.int 1))) (.k (.str [61]))]) [.ex (.meth (.v 0) 13 []), .ret (.tup [.k (.str [97, 115, 115, 105, 103, 110]), .sub (.v 2) (.k (.int 1)), .v 2, .bad])] [],
  .ife (.bop true [.cmp .Eq (.sub (.v 3) (.k (.int 0))) (.k (.str [115, 105, 103, 110])), .cmp .In (.sub (.v 3) (.k (.int 1))) (.g 13)]) [.ex (.meth (.v 0) 13 []), .ret (.tup [.k (.str [117, 112, 100, 97, 116, 101]), .sub (.v 2) (.k (.int 1)), .slc (.sub (.v 3) (.k (.int 1))) none (some (.neg (.k (.int 1)))), .v 2, .bad])] [],
  .ret (.v 2)]⟩
/-- level_of: word -/
noncomputable def f_level_of : Fn := ⟨1, 1, [], [
  .ret (.ife (.cmp .Eq (.sub (.v 0) (.k (.int 0))) (.k (.str [115, 105, 103, 110]))) (.get (.g 11) (.sub (.v 0) (.k (.int 1))) (.k (.int 0))) (.k (.int 0)))]⟩
/-- read_binary: words, least, no_struct, found -/
noncomputable def f_read_binary : Fn := ⟨3, 4, [], [
  .ex (.meth (.v 0) 10 []),
  .asg 3 (.call 26 [.v 0, .call 27 [.v 0, .v 2], .v 1, .v 2]),
  .ex (.meth (.v 0) 11 []),
  .ret (.v 3)]⟩
/-- read_behind: words, left, least, no_struct, is_compared, word, level, right -/
noncomputable def f_read_behind : Fn := ⟨4, 8, [], [
  .asg 4 (.k (.bool false)),
  .whl (.k (.bool true)) [.asg 5 (.meth (.v 0) 12 []), .asg 6 (.call 24 [.v 5]), .ife (.bop false [.cmp .Lt (.v 6) (.v 2), .cmp .Eq (.v 6) (.k (.int 0))]) [.ret (.v 1)] [], .ife (.bop true [.cmp .Eq (.v 6) (.g 12), .v 4]) [.rse (.k (.str [99, 111, 109, 112, 97, 114, 105, 115, 111, 110, 115, 32, 100, 111, 32, 110, 111, 116, 32, 99, 104, 97, 105, 110])) (.sub (.v 5) (.k (.int 2)))] [], .ex (.meth (.v 0) 13 []), .asg 7 (.call 25 [.v 0, .bin .Add (.v 6) (.k (.int 1)), .v 3]), .asg 1 (.tup [.k (.str [98, 105, 110, 97, 114, 121]), .sub (.v 1) (.k (.int 1)), .sub (.v 5) (.k (.int 1)), .v 1, .v 7]), .asg 4 (.cmp .Eq (.v 6) (.g 12))]]⟩
/-- read_cast: words, no_struct -/
noncomputable def f_read_cast : Fn := ⟨2, 2, [], [
  .ret (.call 28 [.v 0, .call 29 [.v 0, .v 1]])]⟩
/-- cast_behind: words, left, last -/
noncomputable def f_cast_behind : Fn := ⟨2, 3, [], [
  .whl (.meth (.v 0) 14 [.k (.str [97, 115])]) [.ex (.meth (.v 0) 13 []), .asg 1 (.tup [.k (.str [99, 97, 115, 116]), .sub (.v 1) (.k (.int 1)), .v 1, .call 18 [.v 0]]), .asg 2 (.meth (.v 0) 12 [.neg (.k (.int 1))]), .ife (.bop true [.cmp .Eq (.sub (.v 2) (.k (.int 0))) (.k (.str [110, 97, 109, 101])), .cmp .NotEq (.sub (.v 2) (.k (.int 1))) (.k (.str [95])), .meth (.v 0) 14 [.k (.str [60, 60])]]) [.rse (.k (.str [97, 110, 32, 97, 110, 103, 108, 101, 32, 98, 101, 104, 105, 110, 100, 32, 97, 32, 116, 121, 112, 101, 32, 98, 101, 108, 111, 110, 103, 115, 32, 116, 111, 32, 105, 116])) (.sub (.meth (.v 0) 12 []) (.k (.int 2)))] []],
  .ret (.v 1)]⟩
/-- read_unary: words, no_struct, word, inner -/
noncomputable def f_read_unary : Fn := ⟨2, 4, [], [
  .asg 2 (.meth (.v 0) 12 []),
  .ife (.bop true [.cmp .Eq (.sub (.v 2) (.k (.int 0))) (.k (.str [115, 105, 103, 110])), .cmp .In (.sub (.v 2) (.k (.int 1))) (.tup [.k (.str [45]), .k (.str [33]), .k (.str [42])])]) [.ex (.meth (.v 0) 13 []), .ret (.tup [.k (.str [117, 110, 97, 114, 121]), .sub (.v 2) (.k (.int 2)), .sub (.v 2) (.k (.int 1)), .bad])] [],
  .ife (.bop true [.cmp .Eq (.sub (.v 2) (.k (.int 0))) (.k (.str [115, 105, 103, 110])), .cmp .In (.sub (.v 2) (.k (.int 1))) (.tup [.k (.str [38]), .k (.str [38, 38])])]) [.ex (.meth (.v 0) 13 []), .asg 3 (.bad), .ret (.ife (.cmp .Eq (.sub (.v 2) (.k (.int 1))) (.k (.str [38]))) (.v 3) (.tup [.k (.str [98, 111, 114, 114, 111, 119]), .sub (.v 2) (.k (.int 2)), .k (.bool false), .v 3]))] [],
  .ret (.call 30 [.v 0, .call 37 [.v 0, .v 1]])]⟩
/-- read_postfix: words, left, index -/
noncomputable def f_read_postfix : Fn := ⟨2, 3, [], [
  .whl (.k (.bool true)) [.ife (.meth (.v 0) 14 [.k (.str [40])]) [.asg 1 (.tup [.k (.str [99, 97, 108, 108]), .sub (.v 1) (.k (.int 1)), .v 1, .call 35 [.v 0, .k (.str [40]), .k (.str [41])]])] [.ife (.meth (.v 0) 14 [.k (.str [91])]) [.ex (.meth (.v 0) 13 []), .asg 2 (.call 23 [.v 0]), .ex (.meth (.v 0) 15 [.k (.str [93])]), .asg 1 (.tup [.k (.str [105, 110, 100, 101, 120]), .sub (.v 1) (.k (.int 1)), .v 1, .v 2])] [.ife (.meth (.v 0) 14 [.k (.str [46])]) [.ex (.meth (.v 0) 13 []), .asg 1 (.call 31 [.v 0, .v 1])] [.ret (.v 1)]]]]]⟩
/-- read_member: words, left, word, name, spot, types -/
noncomputable def f_read_member : Fn := ⟨2, 6, [], [
  .asg 2 (.meth (.v 0) 12 []),
  .ife (.cmp .Eq (.sub (.v 2) (.k (.int 0))) (.k (.str [105, 110, 116]))) [.ex (.meth (.v 0) 13 []), .ife (.cmp .IsNot (.sub (.v 2) (.k (.int 4))) (.k .none)) [.rse (.k (.str [97, 32, 112, 108, 97, 99, 101, 32, 105, 110, 32, 97, 32, 116, 117, 112, 108, 101, 32, 104, 97, 115, 32, 110, 111, 32, 107, 105, 110, 100])) (.sub (.v 2) (.k (.int 2)))] [], .ret (.tup [.k (.str [102, 105, 101, 108, 100]), .sub (.v 1) (.k (.int 1)), .v 1, .call 32 [.v 2]])] [],
  .asgs [3, 4] (.meth (.v 0) 16 []),
  .asg 5 (.tup []),
  .ife (.meth (.v 0) 14 [.k (.str [58, 58])]) [.ex (.meth (.v 0) 13 []), .asg 5 (.call 33 [.v 0]), .ife (.not (.meth (.v 0) 14 [.k (.str [40])])) [.rse (.k (.str [97, 32, 102, 105, 101, 108, 100, 32, 104, 97, 115, 32, 110, 111, 32, 116, 121, 112, 101, 115])) (.v 4)] []] [],
  .ife (.meth (.v 0) 14 [.k (.str [40])]) [.ret (.tup [.k (.str [109, 101, 116, 104, 111, 100]), .sub (.v 1) (.k (.int 1)), .v 1, .v 3, .v 5, .call 35 [.v 0, .k (.str [40]), .k (.str [41])]])] [],
  .ret (.tup [.k (.str [102, 105, 101, 108, 100]), .sub (.v 1) (.k (.int 1)), .v 1, .v 3])]⟩
/-- place_name: word -/
noncomputable def f_place_name : Fn := ⟨1, 1, [], [
  .ife (.cmp .NotEq (.sub (.v 0) (.k (.int 1))) (.strof (.sub (.v 0) (.k (.int 3))))) [.rse (.k (.str [97, 32, 112, 108, 97, 99, 101, 32, 105, 110, 32, 97, 32, 116, 117, 112, 108, 101, 32, 105, 115, 32, 116, 111, 108, 100, 32, 98, 121, 32, 112, 108, 97, 105, 110, 32, 102, 105, 103, 117, 114, 101, 115])) (.sub (.v 0) (.k (.int 2)))] [],
  .ret (.sub (.v 0) (.k (.int 1)))]⟩
/-- read_types: words, found -/
noncomputable def f_read_types : Fn := ⟨1, 2, [], [
  .ex (.meth (.v 0) 15 [.k (.str [60])]),
  .asg 1 (.lst []),
  .whl (.not (.call 34 [.v 0])) [.ex (.app (.v 1) (.call 18 [.v 0])), .ife (.not (.meth (.v 0) 14 [.k (.str [44])])) [.brk] [], .ex (.meth (.v 0) 13 [])],
  .ex (.meth (.v 0) 17 []),
  .ret (.tupof (.v 1))]⟩
/-- closes: words, word -/
noncomputable def f_closes : Fn := ⟨1, 2, [], [
  .asg 1 (.meth (.v 0) 12 []),
  .ret (.bop true [.cmp .Eq (.sub (.v 1) (.k (.int 0))) (.k (.str [115, 105, 103, 110])), .cmp .Eq (.slc (.sub (.v 1) (.k (.int 1))) none (some (.k (.int 1)))) (.k (.str [62]))])]⟩
/-- read_list: words, begin, end, found -/
noncomputable def f_read_list : Fn := ⟨3, 4, [], [
  .ex (.meth (.v 0) 15 [.v 1]),
  .asg 3 (.lst []),
  .whl (.not (.meth (.v 0) 14 [.v 2])) [.ex (.app (.v 3) (.call 23 [.v 0])), .ife (.not (.meth (.v 0) 14 [.k (.str [44])])) [.brk] [], .ex (.meth (.v 0) 13 [])],
  .ex (.meth (.v 0) 15 [.v 2]),
  .ret (.tupof (.v 3))]⟩
/-- is_block_like: words, word -/
noncomputable def f_is_block_like : Fn := ⟨1, 2, [], [
  .asg 1 (.meth (.v 0) 12 []),
  .ife (.cmp .Eq (.sub (.v 1) (.k (.int 0))) (.k (.str [114, 101, 103, 105, 111, 110]))) [.ret (.k (.bool true))] [],
  .ret (.bop true [.cmp .In (.sub (.v 1) (.k (.int 1))) (.tup [.k (.str [123]), .k (.str [105, 102]), .k (.str [109, 97, 116, 99, 104]), .k (.str [108, 111, 111, 112]), .k (.str [119, 104, 105, 108, 101]), .k (.str [102, 111, 114])]), .cmp .In (.sub (.v 1) (.k (.int 0))) (.tup [.k (.str [115, 105, 103, 110]), .k (.str [110, 97, 109, 101])])])]⟩
/-- read_primary: words, no_struct, word -/
noncomputable def f_read_primary : Fn := ⟨2, 3, [], [
  .asg 2 (.meth (.v 0) 12 []),
  .ife (.call 36 [.v 0]) [.ret (.bad)] [],
  .ife (.cmp .Eq (.sub (.v 2) (.k (.int 0))) (.k (.str [105, 110, 116]))) [.ex (.meth (.v 0) 13 []), .ret (.tup [.k (.str [105, 110, 116]), .sub (.v 2) (.k (.int 2)), .sub (.v 2) (.k (.int 3)), .sub (.v 2) (.k (.int 4))])] [],
  .ife (.bop true [.cmp .Eq (.sub (.v 2) (.k (.int 0))) (.k (.str [115, 105, 103, 110])), .cmp .Eq (.sub (.v 2) (.k (.int 1))) (.k (.str [40]))]) [.ret (.bad)] [],
  .ife (.bop true [.cmp .Eq (.sub (.v 2) (.k (.int 0))) (.k (.str [115, 105, 103, 110])), .cmp .Eq (.sub (.v 2) (.k (.int 1))) (.k (.str [91]))]) [.ret (.bad)] [],
  .ife (.cmp .NotEq (.sub (.v 2) (.k (.int 0))) (.k (.str [110, 97, 109, 101]))) [.rse (.k (.str [97, 110, 32, 101, 120, 112, 114, 101, 115, 115, 105, 111, 110, 32, 105, 115, 32, 109, 105, 115, 115, 105, 110, 103])) (.sub (.v 2) (.k (.int 2)))] [],
  .ife (.cmp .In (.sub (.v 2) (.k (.int 1))) (.tup [.k (.str [116, 114, 117, 101]), .k (.str [102, 97, 108, 115, 101])])) [.ex (.meth (.v 0) 13 []), .ret (.tup [.k (.str [98, 111, 111, 108]), .sub (.v 2) (.k (.int 2)), .cmp .Eq (.sub (.v 2) (.k (.int 1))) (.k (.str [116, 114, 117, 101]))])] [],
  .ife (.cmp .In (.sub (.v 2) (.k (.int 1))) (.tup [.k (.str [98, 114, 101, 97, 107]), .k (.str [99, 111, 110, 116, 105, 110, 117, 101]), .k (.str [114, 101, 116, 117, 114, 110])])) [.ret (.bad)] [],
  .ife (.bop true [.cmp .In (.sub (.v 2) (.k (.int 1))) (.g 14), .meth (.v 0) 14 [.k (.str [33]), .k (.int 1)]]) [.ex (.meth (.v 0) 13 []), .ex (.meth (.v 0) 13 []), .ret (.tup [.k (.str [109, 97, 99, 114, 111]), .sub (.v 2) (.k (.int 2)), .sub (.v 2) (.k (.int 1)), .call 35 [.v 0, .k (.str [40]), .k (.str [41])]])] [],
  .ret (.call 38 [.v 0, .v 1])]⟩
/-- read_path_like: words, no_struct, spot, path, found -/
noncomputable def f_read_path_like : Fn := ⟨2, 5, [], [
  .asg 2 (.sub (.meth (.v 0) 12 []) (.k (.int 2))),
  .asg 3 (.call 20 [.v 0, .k (.bool true)]),
  .ife (.bop false [.v 1, .not (.meth (.v 0) 14 [.k (.str [123])])]) [.ret (.tup [.k (.str [112, 97, 116, 104]), .v 2, .v 3])] [],
  .ex (.meth (.v 0) 13 []),
  .asg 4 (.lst []),
  .whl (.not (.meth (.v 0) 14 [.k (.str [125])])) [.ex (.app (.v 4) (.bad)), .ife (.not (.meth (.v 0) 14 [.k (.str [44])])) [.brk] [], .ex (.meth (.v 0) 13 [])],
  .ex (.meth (.v 0) 15 [.k (.str [125])]),
  .ret (.tup [.k (.str [115, 116, 114, 117, 99, 116]), .v 2, .v 3, .tupof (.v 4)])]⟩
/-- _law_jar: script, told, wide -/
noncomputable def f_law_jar : Fn := ⟨1, 3, [], [
  .asg 1 (.ife (.cmp .Gt (.len (.v 0)) (.k (.int 0))) (.sub (.v 0) (.k (.int 0))) (.k (.int 0))),
  .asg 2 (.max (.v 1) (.bin .Sub (.neg (.k (.int 1))) (.v 1))),
  .ret (.lst [.ife (.cmp .GtE (.v 2) (.bin .Pow (.k (.int 10)) (.k (.int 18)))) (.v 2) (.k (.int 0)), .bin .Mod (.bin .Mult (.bin .Add (.bin .Mod (.v 2) (.k (.int 2147483629))) (.k (.int 17))) (.k (.int 48271))) (.k (.int 2147483647))])]⟩
/-- _law_dip: jar, top, drawn -/
noncomputable def f_law_dip : Fn := ⟨2, 3, [], [
  .ife (.cmp .Gt (.sub (.v 0) (.k (.int 0))) (.k (.int 0))) [.asg 2 (.bin .Mod (.sub (.v 0) (.k (.int 0))) (.v 1)), .seti (.v 0) (.k (.int 0)) (.bin .FloorDiv (.sub (.v 0) (.k (.int 0))) (.v 1)), .ret (.v 2)] [],
  .seti (.v 0) (.k (.int 1)) (.bin .Mod (.bin .Add (.bin .Mult (.sub (.v 0) (.k (.int 1))) (.k (.int 39373))) (.k (.int 7))) (.k (.int 2147483647))),
  .ret (.bin .Mod (.bin .FloorDiv (.bin .Mod (.bin .Mult (.sub (.v 0) (.k (.int 1))) (.sub (.v 0) (.k (.int 1)))) (.k (.int 2147483629))) (.k (.int 32))) (.v 1))]⟩
/-- _law_one: jar, things -/
noncomputable def f_law_one : Fn := ⟨2, 2, [], [
  .ret (.sub (.v 1) (.call 40 [.v 0, .len (.v 1)]))]⟩
/-- _law_base:  -/
noncomputable def f_law_base : Fn := ⟨0, 0, [], [
  .ret (.tup [.k (.str [112, 97, 116, 104]), .k (.int 77), .tup [.tup [.k (.str [120]), .tup [], .tup []]]])]⟩
/-- _law_heard: text, way, words, found -/
noncomputable def f_law_heard : Fn := ⟨2, 4, [], [
  .asg 2 (.call 8 [.v 0]),
  .try_ [.ife (.cmp .Eq (.v 1) (.k (.str [112, 111, 115, 116, 102, 105, 120]))) [.asg 3 (.call 30 [.v 2, .call 42 []])] [.ife (.cmp .Eq (.v 1) (.k (.str [116, 121, 112, 101, 115]))) [.asg 3 (.call 33 [.v 2])] [.asg 3 (.call 35 [.v 2, .k (.str [91]), .k (.str [93])])]]] (.tup [.str [114, 101, 102, 117, 115, 101, 100], .msg, .spot]),
  .ret (.tup [.v 3, .sub (.meth (.v 2) 12 []) (.k (.int 1))])]⟩
/-- _law_value: jar, at -/
noncomputable def f_law_value : Fn := ⟨2, 2, [], [
  .ret (.call 41 [.v 0, .ilst [.tup [.k (.str [55]), .tup [.k (.str [105, 110, 116]), .v 1, .k (.int 7), .k .none]], .tup [.k (.str [121]), .tup [.k (.str [112, 97, 116, 104]), .v 1, .tup [.tup [.k (.str [121]), .tup [], .tup []]]]], .tup [.k (.str [116, 114, 117, 101]), .tup [.k (.str [98, 111, 111, 108]), .v 1, .k (.bool true)]], .tup [.k (.str [51, 117, 56]), .tup [.k (.str [105, 110, 116]), .v 1, .k (.int 3), .k (.str [117, 56])]], .tup [.k (.str [121, 32, 43, 32, 49]), .tup [.k (.str [98, 105, 110, 97, 114, 121]), .v 1, .k (.str [43]), .tup [.k (.str [112, 97, 116, 104]), .v 1, .tup [.tup [.k (.str [121]), .tup [], .tup []]]], .tup [.k (.str [105, 110, 116]), .bin .Add (.v 1) (.k (.int 4)), .k (.int 1), .k .none]]]]])]⟩
/-- _law_values: jar, at, begin, end, text, found, turn, more, tree -/
noncomputable def f_law_values : Fn := ⟨4, 9, [], [
  .asgs [4, 5] (.tup [.v 2, .lst []]),
  .forr 6 (.call 40 [.v 0, .k (.int 3)]) [.asg 4 (.bin .Add (.v 4) (.ife (.cmp .Gt (.v 6) (.k (.int 0))) (.k (.str [44, 32])) (.k (.str [])))), .asgs [7, 8] (.call 44 [.v 0, .bin .Add (.v 1) (.len (.v 4))]), .asg 4 (.bin .Add (.v 4) (.v 7)), .ex (.app (.v 5) (.v 8))],
  .ife (.bop true [.cmp .NotEq (.v 5) (.ilst []), .cmp .Eq (.call 40 [.v 0, .k (.int 2)]) (.k (.int 0))]) [.asg 4 (.bin .Add (.v 4) (.k (.str [44])))] [],
  .ret (.tup [.bin .Add (.v 4) (.v 3), .tupof (.v 5)])]⟩
/-- _law_types: jar, at, text, found, turn, spot, more, tree -/
noncomputable def f_law_types : Fn := ⟨2, 8, [], [
  .asgs [2, 3] (.tup [.k (.str [60]), .lst []]),
  .forr 4 (.call 40 [.v 0, .k (.int 3)]) [.asg 2 (.bin .Add (.v 2) (.ife (.cmp .Gt (.v 4) (.k (.int 0))) (.k (.str [44, 32])) (.k (.str [])))), .asg 5 (.bin .Add (.v 1) (.len (.v 2))), .asgs [6, 7] (.call 41 [.v 0, .ilst [.tup [.k (.str [117, 56]), .tup [.k (.str [112, 97, 116, 104]), .v 5, .tup [.tup [.k (.str [117, 56]), .tup [], .tup []]]]], .tup [.k (.str [33]), .tup [.k (.str [110, 101, 118, 101, 114]), .v 5]], .tup [.k (.str [95]), .tup [.k (.str [105, 110, 102, 101, 114]), .v 5]]]]), .asg 2 (.bin .Add (.v 2) (.v 6)), .ex (.app (.v 3) (.v 7))],
  .ife (.bop true [.cmp .NotEq (.v 3) (.ilst []), .cmp .Eq (.call 40 [.v 0, .k (.int 2)]) (.k (.int 0))]) [.asg 2 (.bin .Add (.v 2) (.k (.str [44])))] [],
  .ret (.tup [.bin .Add (.v 2) (.k (.str [62])), .tupof (.v 3)])]⟩
/-- _law_postfix: jar, text, tree, turn, way, more, values, is_named, inner, index, name, told, angles, types -/
noncomputable def f_law_postfix : Fn := ⟨1, 14, [], [
  .asgs [1, 2] (.tup [.k (.str []), .call 42 []]),
  .forr 3 (.call 40 [.v 0, .k (.int 5)]) [.asg 4 (.call 40 [.v 0, .k (.int 6)]), .ife (.cmp .Eq (.v 4) (.k (.int 0))) [.asgs [5, 6] (.call 45 [.v 0, .len (.v 1), .k (.str [40]), .k (.str [41])]), .asg 7 (.bop true [.cmp .Eq (.sub (.v 2) (.k (.int 0))) (.k (.str [102, 105, 101, 108, 100])), .cmp .In (.sub (.v 2) (.k (.int 3))) (.ilst [.k (.str [108, 101, 110]), .k (.str [121, 49])])]), .asg 2 (.ife (.v 7) (.tup [.k (.str [109, 101, 116, 104, 111, 100]), .k (.int 77), .sub (.v 2) (.k (.int 2)), .sub (.v 2) (.k (.int 3)), .tup [], .v 6]) (.tup [.k (.str [99, 97, 108, 108]), .k (.int 77), .v 2, .v 6]))] [.ife (.cmp .Eq (.v 4) (.k (.int 1))) [.asgs [8, 9] (.call 44 [.v 0, .bin .Add (.len (.v 1)) (.k (.int 1))]), .asgs [5, 2] (.tup [.bin .Add (.bin .Add (.k (.str [91])) (.v 8)) (.k (.str [93])), .tup [.k (.str [105, 110, 100, 101, 120]), .k (.int 77), .v 2, .v 9]])] [.ife (.cmp .Eq (.v 4) (.k (.int 2))) [.asg 10 (.call 41 [.v 0, .ilst [.k (.str [48]), .k (.str [49, 50]), .k (.str [108, 101, 110]), .k (.str [121, 49])]]), .asgs [5, 2] (.tup [.bin .Add (.call 41 [.v 0, .ilst [.k (.str [46]), .k (.str [32, 46, 32])]]) (.v 10), .tup [.k (.str [102, 105, 101, 108, 100]), .k (.int 77), .v 2, .v 10]])] [.ife (.cmp .Lt (.v 4) (.k (.int 5))) [.asgs [6, 11] (.call 45 [.v 0, .bin .Add (.len (.v 1)) (.k (.int 4)), .k (.str [40]), .k (.str [41])]), .asgs [5, 2] (.tup [.bin .Add (.k (.str [46, 103, 101, 116])) (.v 6), .tup [.k (.str [109, 101, 116, 104, 111, 100]), .k (.int 77), .v 2, .k (.str [103, 101, 116]), .tup [], .v 11]])] [.asgs [12, 13] (.call 46 [.v 0, .bin .Add (.len (.v 1)) (.k (.int 4))]), .asgs [6, 11] (.call 45 [.v 0, .bin .Add (.bin .Add (.len (.v 1)) (.k (.int 4))) (.len (.v 12)), .k (.str [40]), .k (.str [41])]), .asgs [5, 2] (.tup [.bin .Add (.bin .Add (.k (.str [46, 109, 58, 58])) (.v 12)) (.v 6), .tup [.k (.str [109, 101, 116, 104, 111, 100]), .k (.int 77), .v 2, .k (.str [109]), .v 13, .v 11]])]]]], .asg 1 (.bin .Add (.v 1) (.v 5))],
  .ret (.tup [.v 1, .v 2])]⟩
/-- _law_row: word, spot -/
noncomputable def f_law_row : Fn := ⟨2, 2, [], [
  .ife (.cmp .In (.v 0) (.ilst [.k (.str [48, 49]), .k (.str [48, 117, 56]), .k (.str [55]), .k (.str [48])])) [.ret (.tup [.k (.str [105, 110, 116]), .v 0, .v 1, .ife (.cmp .NotEq (.v 0) (.k (.str [48, 117, 56]))) (.intof (.slc (.v 0) none (some (.k (.int 2))))) (.k (.int 0)), .ife (.cmp .Eq (.v 0) (.k (.str [48, 117, 56]))) (.k (.str [117, 56])) (.k .none)])] [],
  .ife (.cmp .Eq (.slc (.v 0) none (some (.k (.int 1)))) (.k (.str [39]))) [.ret (.tup [.k (.str [114, 101, 103, 105, 111, 110]), .v 0, .v 1, .k .none, .k .none])] [],
  .ret (.tup [.ife (.cmp .In (.slc (.v 0) none (some (.k (.int 1)))) (.k (.str [97, 98, 99, 100, 101, 102, 103, 104, 105, 106, 107, 108, 109, 110, 111, 112, 113, 114, 115, 116, 117, 118, 119, 120, 121, 122, 95, 84]))) (.k (.str [110, 97, 109, 101])) (.k (.str [115, 105, 103, 110])), .v 0, .v 1, .k .none, .k .none])]⟩
/-- _law_words: words, rows -/
noncomputable def f_law_words : Fn := ⟨1, 2, [], [
  .asgr 1 48 0,
  .ret (.words (.bin .Add (.v 1) (.ilst [.tup [.k (.str [101, 110, 100]), .k (.str []), .bin .Mult (.k (.int 10)) (.len (.v 0)), .k .none, .k .none]])))]⟩
/-- _law_told: words, way, told, found -/
noncomputable def f_law_told : Fn := ⟨2, 4, [], [
  .asg 2 (.call 49 [.v 0]),
  .try_ [.ife (.cmp .Eq (.v 1) (.k (.str [112, 111, 115, 116, 102, 105, 120]))) [.asg 3 (.call 30 [.v 2, .call 42 []])] [.ife (.cmp .Eq (.v 1) (.k (.str [116, 121, 112, 101, 115]))) [.asg 3 (.call 33 [.v 2])] [.asg 3 (.call 35 [.v 2, .k (.str [40]), .k (.str [41])])]]] (.tup [.msg, .div (.spot) 10]),
  .ret (.tup [.v 3, .attr (.v 2) 1])]⟩
/-- _law_refused_right: rows -/
noncomputable def f_law_refused_right : Fn := ⟨0, 1, [], [
  .asg 0 (.ilst [.tup [.k (.str [112, 111, 115, 116, 102, 105, 120]), .ilst [.k (.str [46]), .k (.str [48, 49])], .k (.int 1), .k (.str [97, 32, 112, 108, 97, 99, 101, 32, 105, 110, 32, 97, 32, 116, 117, 112, 108, 101, 32, 105, 115, 32, 116, 111, 108, 100, 32, 98, 121, 32, 112, 108, 97, 105, 110, 32, 102, 105, 103, 117, 114, 101, 115])], .tup [.k (.str [112, 111, 115, 116, 102, 105, 120]), .ilst [.k (.str [46]), .k (.str [48, 117, 56])], .k (.int 1), .k (.str [97, 32, 112, 108, 97, 99, 101, 32, 105, 110, 32, 97, 32, 116, 117, 112, 108, 101, 32, 104, 97, 115, 32, 110, 111, 32, 107, 105, 110, 100])], .tup [.k (.str [112, 111, 115, 116, 102, 105, 120]), .ilst [.k (.str [46]), .k (.str [40])], .k (.int 1), .k (.str [97, 32, 110, 97, 109, 101, 32, 105, 115, 32, 109, 105, 115, 115, 105, 110, 103])], .tup [.k (.str [112, 111, 115, 116, 102, 105, 120]), .ilst [.k (.str [46]), .k (.str [102, 110])], .k (.int 1), .k (.str [97, 32, 110, 97, 109, 101, 32, 105, 115, 32, 109, 105, 115, 115, 105, 110, 103])], .tup [.k (.str [112, 111, 115, 116, 102, 105, 120]), .ilst [.k (.str [46]), .k (.str [109]), .k (.str [58, 58]), .k (.str [60]), .k (.str [117, 56]), .k (.str [62]), .k (.str [59])], .k (.int 1), .k (.str [97, 32, 102, 105, 101, 108, 100, 32, 104, 97, 115, 32, 110, 111, 32, 116, 121, 112, 101, 115])], .tup [.k (.str [112, 111, 115, 116, 102, 105, 120]), .ilst [.k (.str [91]), .k (.str [55]), .k (.str [55]), .k (.str [93])], .k (.int 2), .k (.str [93, 32, 105, 115, 32, 109, 105, 115, 115, 105, 110, 103])], .tup [.k (.str [112, 111, 115, 116, 102, 105, 120]), .ilst [.k (.str [40]), .k (.str [55]), .k (.str [55])], .k (.int 2), .k (.str [41, 32, 105, 115, 32, 109, 105, 115, 115, 105, 110, 103])], .tup [.k (.str [112, 111, 115, 116, 102, 105, 120]), .ilst [.k (.str [91]), .k (.str [93])], .k (.int 1), .k (.str [97, 110, 32, 101, 120, 112, 114, 101, 115, 115, 105, 111, 110, 32, 105, 115, 32, 109, 105, 115, 115, 105, 110, 103])], .tup [.k (.str [112, 111, 115, 116, 102, 105, 120]), .ilst [.k (.str [46]), .k (.str [109]), .k (.str [58, 58]), .k (.str [40])], .k (.int 3), .k (.str [60, 32, 105, 115, 32, 109, 105, 115, 115, 105, 110, 103])], .tup [.k (.str [116, 121, 112, 101, 115]), .ilst [.k (.str [60]), .k (.str [117, 56]), .k (.str [84]), .k (.str [62])], .k (.int 2), .k (.str [62, 32, 105, 115, 32, 109, 105, 115, 115, 105, 110, 103])], .tup [.k (.str [116, 121, 112, 101, 115]), .ilst [.k (.str [40]), .k (.str [117, 56])], .k (.int 0), .k (.str [60, 32, 105, 115, 32, 109, 105, 115, 115, 105, 110, 103])], .tup [.k (.str [116, 121, 112, 101, 115]), .ilst [.k (.str [60]), .k (.str [44]), .k (.str [62])], .k (.int 1), .k (.str [97, 32, 110, 97, 109, 101, 32, 105, 115, 32, 109, 105, 115, 115, 105, 110, 103])], .tup [.k (.str [108, 105, 115, 116]), .ilst [.k (.str [123]), .k (.str [55]), .k (.str [41])], .k (.int 0), .k (.str [40, 32, 105, 115, 32, 109, 105, 115, 115, 105, 110, 103])], .tup [.k (.str [108, 105, 115, 116]), .ilst [.k (.str [40]), .k (.str [55]), .k (.str [59])], .k (.int 2), .k (.str [41, 32, 105, 115, 32, 109, 105, 115, 115, 105, 110, 103])], .tup [.k (.str [108, 105, 115, 116]), .ilst [.k (.str [40]), .k (.str [44]), .k (.str [41])], .k (.int 1), .k (.str [97, 110, 32, 101, 120, 112, 114, 101, 115, 115, 105, 111, 110, 32, 105, 115, 32, 109, 105, 115, 115, 105, 110, 103])]]),
  .ret (.cmp .Eq (.nocomp (.v 0) (.cmp .NotEq (.call 50 [.sub (.v 0) (.k (.int 1)), .sub (.v 0) (.k (.int 0))]) (.tup [.sub (.v 0) (.k (.int 3)), .sub (.v 0) (.k (.int 2))]))) (.ilst []))]⟩
/-- _law_words_right: word, others -/
noncomputable def f_law_words_right : Fn := ⟨0, 2, [], [
  .for_ 0 (.ilst [.k (.str [62]), .k (.str [62, 62]), .k (.str [62, 61]), .k (.str [62, 62, 61])]) [.ife (.not (.call 34 [.call 49 [.ilst [.v 0]]])) [.ret (.k (.bool false))] []],
  .for_ 0 (.ilst [.k (.str [123]), .k (.str [105, 102]), .k (.str [109, 97, 116, 99, 104]), .k (.str [108, 111, 111, 112]), .k (.str [119, 104, 105, 108, 101]), .k (.str [102, 111, 114]), .k (.str [39, 97])]) [.ife (.not (.call 36 [.call 49 [.ilst [.v 0]]])) [.ret (.k (.bool false))] []],
  .ife (.bop false [.call 34 [.call 49 [.ilst []]], .call 36 [.call 49 [.ilst []]]]) [.ret (.k (.bool false))] [],
  .asg 1 (.ilst [.k (.str [61, 62]), .k (.str [45, 62]), .k (.str [60]), .k (.str [120]), .k (.str [55]), .k (.str [40]), .k (.str [102, 110]), .k (.str [105, 102, 102]), .k (.str [91])]),
  .ret (.cmp .Eq (.nocomp (.v 1) (.bop false [.call 34 [.call 49 [.ilst [.v 0]]], .call 36 [.call 49 [.ilst [.v 0]]]])) (.ilst []))]⟩
/-- law: script, x, seven, due, jar, text, tree, types, more, rest, values -/
noncomputable def f_law : Fn := ⟨1, 11, [], [
  .asgs [1, 2] (.tup [.call 42 [], .tup [.k (.str [105, 110, 116]), .k (.int 10), .k (.int 7), .k .none]]),
  .ife (.cmp .NotEq (.call 50 [.ilst [.k (.str [40]), .k (.str [55]), .k (.str [41]), .k (.str [59])], .k (.str [112, 111, 115, 116, 102, 105, 120])]) (.tup [.tup [.k (.str [99, 97, 108, 108]), .k (.int 77), .v 1, .tup [.v 2]], .k (.int 3)])) [.ret (.k (.bool false))] [],
  .ife (.cmp .NotEq (.call 50 [.ilst [.k (.str [46]), .k (.str [48]), .k (.str [46]), .k (.str [108, 101, 110]), .k (.str [59])], .k (.str [112, 111, 115, 116, 102, 105, 120])]) (.tup [.tup [.k (.str [102, 105, 101, 108, 100]), .k (.int 77), .tup [.k (.str [102, 105, 101, 108, 100]), .k (.int 77), .v 1, .k (.str [48])], .k (.str [108, 101, 110])], .k (.int 4)])) [.ret (.k (.bool false))] [],
  .asg 3 (.tup [.k (.str [109, 101, 116, 104, 111, 100]), .k (.int 77), .tup [.k (.str [105, 110, 100, 101, 120]), .k (.int 77), .v 1, .v 2], .k (.str [109]), .tup [], .tup []]),
  .ife (.cmp .NotEq (.call 50 [.ilst [.k (.str [91]), .k (.str [55]), .k (.str [93]), .k (.str [46]), .k (.str [109]), .k (.str [40]), .k (.str [41])], .k (.str [112, 111, 115, 116, 102, 105, 120])]) (.tup [.v 3, .k (.int 7)])) [.ret (.k (.bool false))] [],
  .ife (.cmp .NotEq (.call 50 [.ilst [.k (.str [60]), .k (.str [33]), .k (.str [44]), .k (.str [62, 62]), .k (.str [55])], .k (.str [116, 121, 112, 101, 115])]) (.tup [.tup [.tup [.k (.str [110, 101, 118, 101, 114]), .k (.int 10)]], .k (.int 3)])) [.ret (.k (.bool false))] [],
  .ife (.cmp .NotEq (.call 50 [.ilst [.k (.str [60]), .k (.str [62, 61])], .k (.str [116, 121, 112, 101, 115])]) (.tup [.tup [], .k (.int 1)])) [.ret (.k (.bool false))] [],
  .ife (.bop false [.not (.call 52 []), .not (.call 51 [])]) [.ret (.k (.bool false))] [],
  .asg 4 (.call 39 [.v 0]),
  .asgs [5, 6] (.call 47 [.v 4]),
  .ife (.cmp .NotEq (.call 43 [.bin .Add (.v 5) (.k (.str [32, 59])), .k (.str [112, 111, 115, 116, 102, 105, 120])]) (.tup [.v 6, .k (.str [59])])) [.ret (.k (.bool false))] [],
  .asgs [5, 7] (.call 46 [.v 4, .k (.int 0)]),
  .asgs [8, 9] (.call 41 [.v 4, .ilst [.tup [.k (.str [59]), .k (.str [59])], .tup [.k (.str [62, 32, 49]), .k (.str [62])], .tup [.k (.str [61, 32, 49]), .k (.str [61])], .tup [.k (.str [62, 61, 32, 49]), .k (.str [62, 61])]]]),
  .ife (.cmp .NotEq (.call 43 [.bin .Add (.v 5) (.v 8), .k (.str [116, 121, 112, 101, 115])]) (.tup [.v 7, .v 9])) [.ret (.k (.bool false))] [],
  .asgs [5, 10] (.call 45 [.v 4, .k (.int 0), .k (.str [91]), .k (.str [93])]),
  .ret (.cmp .Eq (.call 43 [.bin .Add (.v 5) (.k (.str [32, 125])), .k (.str [108, 105, 115, 116])]) (.tup [.v 10, .k (.str [125])]))]⟩
noncomputable def funs : List Fn := [f_run_end, f_blank_end, f_figure_worth, f_base_at, f_read_int, f_read_sign, f_read_word, f_word_rows, f_read_words, f_init, f_deeper, f_shallower, f_peek, f_take, f_looks, f_expect, f_name, f_split_close, f_read_type, f_read_shallow_type, f_read_spath, f_read_segment, f_read_path_name, f_read_expr, f_level_of, f_read_binary, f_read_behind, f_read_cast, f_cast_behind, f_read_unary, f_read_postfix, f_read_member, f_place_name, f_read_types, f_closes, f_read_list, f_is_block_like, f_read_primary, f_read_path_like, f_law_jar, f_law_dip, f_law_one, f_law_base, f_law_heard, f_law_value, f_law_values, f_law_types, f_law_postfix, f_law_row, f_law_words, f_law_told, f_law_refused_right, f_law_words_right, f_law]
noncomputable def g_INT_KINDS : CV := .tup [.str [105, 56], .str [105, 49, 54], .str [105, 51, 50], .str [105, 54, 52], .str [117, 56], .str [117, 49, 54], .str [117, 51, 50], .str [117, 54, 52], .str [117, 115, 105, 122, 101]]
noncomputable def g_KEYWORDS : CV := .tup [.str [95], .str [83, 101, 108, 102], .str [97, 98, 115, 116, 114, 97, 99, 116], .str [97, 115], .str [97, 115, 121, 110, 99], .str [97, 119, 97, 105, 116], .str [98, 101, 99, 111, 109, 101], .str [98, 111, 120], .str [98, 114, 101, 97, 107], .str [99, 111, 110, 115, 116], .str [99, 111, 110, 116, 105, 110, 117, 101], .str [99, 114, 97, 116, 101], .str [100, 111], .str [100, 121, 110], .str [101, 108, 115, 101], .str [101, 110, 117, 109], .str [101, 120, 116, 101, 114, 110], .str [102, 97, 108, 115, 101], .str [102, 105, 110, 97, 108], .str [102, 110], .str [102, 111, 114], .str [105, 102], .str [105, 109, 112, 108], .str [105, 110], .str [108, 101, 116], .str [108, 111, 111, 112], .str [109, 97, 99, 114, 111], .str [109, 97, 116, 99, 104], .str [109, 111, 100], .str [109, 111, 118, 101], .str [109, 117, 116], .str [111, 118, 101, 114, 114, 105, 100, 101], .str [112, 114, 105, 118], .str [112, 117, 98], .str [114, 101, 102], .str [114, 101, 116, 117, 114, 110], .str [115, 101, 108, 102], .str [115, 116, 97, 116, 105, 99], .str [115, 116, 114, 117, 99, 116], .str [115, 117, 112, 101, 114], .str [116, 114, 97, 105, 116], .str [116, 114, 117, 101], .str [116, 114, 121], .str [116, 121, 112, 101], .str [116, 121, 112, 101, 111, 102], .str [117, 110, 115, 97, 102, 101], .str [117, 110, 115, 105, 122, 101, 100], .str [117, 115, 101], .str [118, 105, 114, 116, 117, 97, 108], .str [119, 104, 101, 114, 101], .str [119, 104, 105, 108, 101], .str [121, 105, 101, 108, 100]]
noncomputable def g_SIGNS : CV := .tup [.str [60, 60, 61], .str [62, 62, 61], .str [46, 46, 61], .str [58, 58], .str [45, 62], .str [61, 62], .str [61, 61], .str [33, 61], .str [60, 61], .str [62, 61], .str [38, 38], .str [124, 124], .str [60, 60], .str [62, 62], .str [46, 46], .str [43, 61], .str [45, 61], .str [42, 61], .str [47, 61], .str [37, 61], .str [38, 61], .str [124, 61], .str [94, 61], .str [40], .str [41], .str [123], .str [125], .str [91], .str [93], .str [44], .str [59], .str [58], .str [46], .str [61], .str [60], .str [62], .str [43], .str [45], .str [42], .str [47], .str [37], .str [38], .str [124], .str [94], .str [33], .str [64]]
noncomputable def g_NAME_BEGINS : CV := .str [97, 98, 99, 100, 101, 102, 103, 104, 105, 106, 107, 108, 109, 110, 111, 112, 113, 114, 115, 116, 117, 118, 119, 120, 121, 122, 65, 66, 67, 68, 69, 70, 71, 72, 73, 74, 75, 76, 77, 78, 79, 80, 81, 82, 83, 84, 85, 86, 87, 88, 89, 90, 95]
noncomputable def g_FIGURES : CV := .str [48, 49, 50, 51, 52, 53, 54, 55, 56, 57]
noncomputable def g_NAME_SIGNS : CV := .str [97, 98, 99, 100, 101, 102, 103, 104, 105, 106, 107, 108, 109, 110, 111, 112, 113, 114, 115, 116, 117, 118, 119, 120, 121, 122, 65, 66, 67, 68, 69, 70, 71, 72, 73, 74, 75, 76, 77, 78, 79, 80, 81, 82, 83, 84, 85, 86, 87, 88, 89, 90, 95, 48, 49, 50, 51, 52, 53, 54, 55, 56, 57]
noncomputable def g_BLANKS : CV := .str [32, 9, 13, 10, 11, 12, 133, 8206, 8207, 8232, 8233]
noncomputable def g_MOST_FIGURES : CV := .int 40
noncomputable def g_MOST_VALUE : CV := .int 10000000000000000000000000000000000000000
noncomputable def g_MOST_DEEP : CV := .int 60
noncomputable def g_PATH_WORDS : CV := .tup [.str [83, 101, 108, 102], .str [99, 114, 97, 116, 101], .str [115, 101, 108, 102], .str [115, 117, 112, 101, 114]]
noncomputable def g_LEVELS : CV := .dct [([124, 124], 1), ([38, 38], 2), ([61, 61], 3), ([33, 61], 3), ([60], 3), ([60, 61], 3), ([62], 3), ([62, 61], 3), ([124], 4), ([94], 5), ([38], 6), ([60, 60], 7), ([62, 62], 7), ([43], 8), ([45], 8), ([42], 9), ([47], 9), ([37], 9)]
noncomputable def g_COMPARED : CV := .int 3
noncomputable def g_UPDATES : CV := .tup [.str [43, 61], .str [45, 61], .str [42, 61], .str [47, 61], .str [37, 61], .str [38, 61], .str [124, 61], .str [94, 61], .str [60, 60, 61], .str [62, 62, 61]]
noncomputable def g_MACROS : CV := .tup [.str [112, 97, 110, 105, 99], .str [97, 115, 115, 101, 114, 116], .str [112, 114, 105, 110, 116]]
noncomputable def globs : List CV := [g_INT_KINDS, g_KEYWORDS, g_SIGNS, g_NAME_BEGINS, g_FIGURES, g_NAME_SIGNS, g_BLANKS, g_MOST_FIGURES, g_MOST_VALUE, g_MOST_DEEP, g_PATH_WORDS, g_LEVELS, g_COMPARED, g_UPDATES, g_MACROS]
noncomputable abbrev i_run_end : Nat := 0
noncomputable abbrev i_blank_end : Nat := 1
noncomputable abbrev i_figure_worth : Nat := 2
noncomputable abbrev i_base_at : Nat := 3
noncomputable abbrev i_read_int : Nat := 4
noncomputable abbrev i_read_sign : Nat := 5
noncomputable abbrev i_read_word : Nat := 6
noncomputable abbrev i_word_rows : Nat := 7
noncomputable abbrev i_read_words : Nat := 8
noncomputable abbrev i_init : Nat := 9
noncomputable abbrev i_deeper : Nat := 10
noncomputable abbrev i_shallower : Nat := 11
noncomputable abbrev i_peek : Nat := 12
noncomputable abbrev i_take : Nat := 13
noncomputable abbrev i_looks : Nat := 14
noncomputable abbrev i_expect : Nat := 15
noncomputable abbrev i_name : Nat := 16
noncomputable abbrev i_split_close : Nat := 17
noncomputable abbrev i_read_type : Nat := 18
noncomputable abbrev i_read_shallow_type : Nat := 19
noncomputable abbrev i_read_spath : Nat := 20
noncomputable abbrev i_read_segment : Nat := 21
noncomputable abbrev i_read_path_name : Nat := 22
noncomputable abbrev i_read_expr : Nat := 23
noncomputable abbrev i_level_of : Nat := 24
noncomputable abbrev i_read_binary : Nat := 25
noncomputable abbrev i_read_behind : Nat := 26
noncomputable abbrev i_read_cast : Nat := 27
noncomputable abbrev i_cast_behind : Nat := 28
noncomputable abbrev i_read_unary : Nat := 29
noncomputable abbrev i_read_postfix : Nat := 30
noncomputable abbrev i_read_member : Nat := 31
noncomputable abbrev i_place_name : Nat := 32
noncomputable abbrev i_read_types : Nat := 33
noncomputable abbrev i_closes : Nat := 34
noncomputable abbrev i_read_list : Nat := 35
noncomputable abbrev i_is_block_like : Nat := 36
noncomputable abbrev i_read_primary : Nat := 37
noncomputable abbrev i_read_path_like : Nat := 38
noncomputable abbrev i_law_jar : Nat := 39
noncomputable abbrev i_law_dip : Nat := 40
noncomputable abbrev i_law_one : Nat := 41
noncomputable abbrev i_law_base : Nat := 42
noncomputable abbrev i_law_heard : Nat := 43
noncomputable abbrev i_law_value : Nat := 44
noncomputable abbrev i_law_values : Nat := 45
noncomputable abbrev i_law_types : Nat := 46
noncomputable abbrev i_law_postfix : Nat := 47
noncomputable abbrev i_law_row : Nat := 48
noncomputable abbrev i_law_words : Nat := 49
noncomputable abbrev i_law_told : Nat := 50
noncomputable abbrev i_law_refused_right : Nat := 51
noncomputable abbrev i_law_words_right : Nat := 52
noncomputable abbrev i_law : Nat := 53
end Mine
end

section
/- Runs of the small language over data of which a part is hidden. -/
namespace Mine.L
open PySem

/-- data with a hidden part: positions behind a hidden text, rows behind hidden rows -/
inductive AV where
  | c (v : CV)
  | tup (xs : List AV)
  | ils (xs : List AV)
  | lst (i : Nat)
  | obj (i : Nat)
  | pos (k : Nat)
  | txt (w : List Nat)
  | txe (w : List Nat)
  | tln (n : Nat)
  | pst (w : List Nat) (m : Nat)
  | idx (k : Nat)
  | rln (n : Nat)
  | rlm (n : Nat)
  | atm (n : Nat)
  deriving Inhabited

inductive ACell where
  | list (xs : List AV)
  | inst (r a d : Option AV)
  | rows (xs : List AV)
  | jar (ch : List (Nat × Nat))
  deriving Inhabited

/-- one dip into the jar: what is drawn of t things, and the jar behind it -/
noncomputable def dipF (t : Int) (j : Int × Int) : Int × (Int × Int) :=
  if j.1 > 0 then (Int.fmod j.1 t, (Int.fdiv j.1 t, j.2))
  else
    let b := Int.fmod (j.2 * 39373 + 7) 2147483647
    (Int.fmod (Int.fdiv (Int.fmod (b * b) 2147483629) 32) t, (j.1, b))
noncomputable def JOK (j : Int × Int) : Prop := 0 ≤ j.1 ∧ 0 ≤ j.2 ∧ j.2 < 2147483648
/-- what will be drawn -/
noncomputable def Pro : List (Nat × Nat) → Int × Int → Prop
  | [], j => JOK j
  | (t, d) :: r, j => JOK j ∧ 0 < t ∧ t < 1000 ∧ (dipF t j).1 = d ∧ Pro r (dipF t j).2

structure Env where
  n0 : Nat
  β : Nat → Nat
  off : Nat
  pre : List Nat
  suf : List Nat
  rpre : List CV
  rsuf : List CV
  am : Nat → CV
  cs0 : Cells
  inj : ∀ i j, i < n0 → j < n0 → β i = β j → i = j
  lt : ∀ i, i < n0 → β i < off
  small : pre.length + suf.length ≤ 90000
  smallr : rpre.length + rsuf.length ≤ 90000

noncomputable def Env.μ (ρ : Env) (i : Nat) : Nat := if i < ρ.n0 then ρ.β i else ρ.off + (i - ρ.n0)

mutual
noncomputable def γ (ρ : Env) : AV → CV
  | .c v => v
  | .tup xs => .tup (γs ρ xs)
  | .ils xs => .ils (γs ρ xs)
  | .lst i => .lst (ρ.μ i)
  | .obj i => .obj (ρ.μ i)
  | .pos k => .int ((ρ.pre.length + k : Nat) : Int)
  | .txt w => .str (ρ.pre ++ w ++ ρ.suf)
  | .txe w => .str (ρ.pre ++ w)
  | .tln n => .int ((ρ.pre.length + n + ρ.suf.length : Nat) : Int)
  | .pst w m => .str (w ++ ρ.suf.take m)
  | .idx k => .int ((ρ.rpre.length + k : Nat) : Int)
  | .rln n => .int ((ρ.rpre.length + n + ρ.rsuf.length : Nat) : Int)
  | .rlm n => .int (((ρ.rpre.length + n + ρ.rsuf.length : Nat) : Int) - 1)
  | .atm n => ρ.am n
noncomputable def γs (ρ : Env) : List AV → List CV
  | [] => []
  | x :: xs => γ ρ x :: γs ρ xs
end

theorem γs_map (ρ : Env) (xs : List AV) : γs ρ xs = xs.map (γ ρ) := by
  induction xs with
  | nil => rfl
  | cons x r ih => exact congrArg (γ ρ x :: ·) ih

noncomputable def CellR (ρ : Env) : ACell → Cell → Prop
  | .list xs, c => c = .list (γs ρ xs)
  | .inst r a d, c => c = .inst (r.map (γ ρ)) (a.map (γ ρ)) (d.map (γ ρ))
  | .rows xs, c => c = .list (ρ.rpre ++ γs ρ xs ++ ρ.rsuf) ∧ xs.length ≤ 1000
  | .jar ch, c => ∃ a b, c = .list [.int a, .int b] ∧ Pro ch (a, b)

structure Csr (ρ : Env) (acs : List ACell) (cs : Cells) : Prop where
  len : ρ.n0 ≤ acs.length
  sz : cs.length = ρ.off + (acs.length - ρ.n0)
  at_ : ∀ i x, acs[i]? = some x → ∃ c, cs[ρ.μ i]? = some c ∧ CellR ρ x c
  fr : ∀ j, j < ρ.off → (∀ i, i < ρ.n0 → ρ.β i ≠ j) → cs[j]? = ρ.cs0[j]?

theorem Env.μ_inj (ρ : Env) {i j : Nat} (h : ρ.μ i = ρ.μ j) : i = j := by
  unfold Env.μ at h
  split at h <;> split at h
  · exact ρ.inj _ _ (by assumption) (by assumption) h
  · have := ρ.lt i (by assumption); omega
  · have := ρ.lt j (by assumption); omega
  · omega

theorem Csr.lt {ρ : Env} {acs cs} (H : Csr ρ acs cs) {i : Nat} (h : i < acs.length) : ρ.μ i < cs.length := by
  have := H.len
  have := H.sz
  unfold Env.μ
  split
  · have := ρ.lt i (by assumption); omega
  · omega

theorem Csr.set {ρ : Env} {acs cs} (H : Csr ρ acs cs) {i : Nat} (h : i < acs.length) {x : ACell} {c : Cell} (hx : CellR ρ x c) :
    Csr ρ (acs.set i x) (cs.set (ρ.μ i) c) := by
  have hl := H.lt h
  refine ⟨by simpa using H.len, by simpa using H.sz, ?_, ?_⟩
  · intro j y hy
    by_cases hij : i = j
    · subst hij
      have hy' : x = y := by simpa [List.getElem?_set, h] using hy
      subst hy'
      exact ⟨c, by simp [hl], hx⟩
    · have hy' : acs[j]? = some y := by simpa [List.getElem?_set, hij] using hy
      obtain ⟨d, hd, hr⟩ := H.at_ j y hy'
      refine ⟨d, ?_, hr⟩
      rw [List.getElem?_set_ne]
      · exact hd
      · intro e
        exact hij (ρ.μ_inj e)
  · intro j hj hn
    rw [List.getElem?_set_ne]
    · exact H.fr j hj hn
    · intro e
      subst e
      unfold Env.μ at hj hn
      split at hj
      · rename_i hi
        rw [if_pos hi] at hn
        exact hn i hi rfl
      · omega

theorem Csr.push {ρ : Env} {acs cs} (H : Csr ρ acs cs) {x : ACell} {c : Cell} (hx : CellR ρ x c) :
    Csr ρ (acs ++ [x]) (cs ++ [c]) := by
  have h1 := H.len
  have h2 := H.sz
  refine ⟨by simp; omega, by simp; omega, ?_, ?_⟩
  · intro j y hy
    by_cases hj : j < acs.length
    · rw [List.getElem?_append_left hj] at hy
      obtain ⟨d, hd, hr⟩ := H.at_ j y hy
      exact ⟨d, by rw [List.getElem?_append_left (H.lt hj)]; exact hd, hr⟩
    · have hj2 : j = acs.length := by
        have := (List.getElem?_eq_some_iff.1 hy).1
        simp at this; omega
      subst hj2
      have hy' : x = y := by simpa using hy
      subst hy'
      have : ρ.μ acs.length = cs.length := by unfold Env.μ; rw [if_neg (by omega)]; omega
      exact ⟨c, by rw [this]; simp, hx⟩
  · intro j hj hn
    rw [List.getElem?_append_left (by omega)]
    exact H.fr j hj hn

theorem Csr.new {ρ : Env} {acs cs} (H : Csr ρ acs cs) : ρ.μ acs.length = cs.length := by
  have h1 := H.len
  have h2 := H.sz
  unfold Env.μ; rw [if_neg (by omega)]; omega

mutual
/-- data without a hidden part -/
noncomputable def kn : AV → Option CV
  | .c v => some v
  | .tup xs => (kns xs).map .tup
  | .ils xs => (kns xs).map .ils
  | _ => none
noncomputable def kns : List AV → Option (List CV)
  | [] => some []
  | x :: xs => (kn x).bind fun y => (kns xs).map (y :: ·)
end

mutual
theorem kn_ok (ρ : Env) : ∀ (a : AV) (v : CV), kn a = some v → γ ρ a = v
  | .c _, _, h => Option.some.inj h
  | .tup xs, _, h => by
    obtain ⟨vs, h1, h2⟩ := Option.map_eq_some_iff.mp h
    exact (congrArg CV.tup (kns_ok ρ xs vs h1)).trans h2
  | .ils xs, _, h => by
    obtain ⟨vs, h1, h2⟩ := Option.map_eq_some_iff.mp h
    exact (congrArg CV.ils (kns_ok ρ xs vs h1)).trans h2
  | .lst _, _, h | .obj _, _, h | .pos _, _, h | .txt _, _, h | .txe _, _, h | .tln _, _, h | .pst _ _, _, h
  | .idx _, _, h | .rln _, _, h | .rlm _, _, h | .atm _, _, h => (none_some h).elim
theorem kns_ok (ρ : Env) : ∀ (a : List AV) (v : List CV), kns a = some v → γs ρ a = v
  | [], _, h => Option.some.inj h
  | x :: xs, _, h => by
    obtain ⟨y, h1, h2⟩ := Option.bind_eq_some_iff.mp h
    obtain ⟨ys, h2, h3⟩ := Option.map_eq_some_iff.mp h2
    rw [← h3, ← kn_ok ρ x y h1, ← kns_ok ρ xs ys h2]; rfl
end

mutual
noncomputable def okA : AV → Nat → Bool
  | .c v, n => okV v n
  | .pos _, _ => true
  | .tup xs, n => match n with
    | 0 => false
    | n + 1 => okAs xs n
  | _, _ => false
noncomputable def okAs : List AV → Nat → Bool
  | [], _ => true
  | x :: xs, n => okA x n && okAs xs n
end
mutual
theorem okA_ok (ρ : Env) : ∀ (a : AV) (n : Nat), okA a n = true → okV (γ ρ a) n = true
  | .c _, _, h => h
  | .pos _, _, _ => rfl
  | .tup xs, n + 1, h => okAs_ok ρ xs n h
  | .tup _, 0, h => (ff_tt h).elim
  | .ils _, _, h | .lst _, _, h | .obj _, _, h | .txt _, _, h | .txe _, _, h | .tln _, _, h | .pst _ _, _, h
  | .idx _, _, h | .rln _, _, h | .rlm _, _, h | .atm _, _, h => (ff_tt h).elim
theorem okAs_ok (ρ : Env) : ∀ (a : List AV) (n : Nat), okAs a n = true → okVs (γs ρ a) n = true
  | [], _, _ => rfl
  | x :: xs, n, h => by
    obtain ⟨h1, h2⟩ := and_tt h
    show (okV (γ ρ x) n && okVs (γs ρ xs) n) = true
    rw [okA_ok ρ x n h1, okAs_ok ρ xs n h2]; rfl
end
end Mine.L
end

section
namespace Mine.L
open PySem

/- a datum of one kind, or none -/
section
variable {β : Type}
noncomputable abbrev AV.onC (x : AV) (f : CV → Option β) : Option β := match x with
  | .c v => f v
  | _ => none
noncomputable abbrev AV.onLst (x : AV) (f : Nat → Option β) : Option β := match x with
  | .lst i => f i
  | _ => none
noncomputable abbrev AV.onObj (x : AV) (f : Nat → Option β) : Option β := match x with
  | .obj i => f i
  | _ => none
noncomputable abbrev AV.onPos (x : AV) (f : Nat → Option β) : Option β := match x with
  | .pos i => f i
  | _ => none
noncomputable abbrev AV.onTup (x : AV) (f : List AV → Option β) : Option β := match x with
  | .tup i => f i
  | _ => none
noncomputable abbrev AV.onB (x : AV) (f : Bool → Option β) : Option β := x.onC fun v => v.onBool none f
noncomputable abbrev AV.onI (x : AV) (f : Int → Option β) : Option β := x.onC fun v => v.onInt none f
variable {x : AV} {r : β}
theorem AV.onC_is {f : CV → Option β} (h : x.onC f = some r) : ∃ v, x = .c v ∧ f v = some r := by cases x with | c v => exact ⟨v, rfl, h⟩ | _ => exact absurd h none_some
theorem AV.onLst_is {f : Nat → Option β} (h : x.onLst f = some r) : ∃ v, x = .lst v ∧ f v = some r := by cases x with | lst v => exact ⟨v, rfl, h⟩ | _ => exact absurd h none_some
theorem AV.onObj_is {f : Nat → Option β} (h : x.onObj f = some r) : ∃ v, x = .obj v ∧ f v = some r := by cases x with | obj v => exact ⟨v, rfl, h⟩ | _ => exact absurd h none_some
theorem AV.onPos_is {f : Nat → Option β} (h : x.onPos f = some r) : ∃ v, x = .pos v ∧ f v = some r := by cases x with | pos v => exact ⟨v, rfl, h⟩ | _ => exact absurd h none_some
theorem AV.onTup_is {f : List AV → Option β} (h : x.onTup f = some r) : ∃ v, x = .tup v ∧ f v = some r := by cases x with | tup v => exact ⟨v, rfl, h⟩ | _ => exact absurd h none_some
theorem AV.onB_is {f : Bool → Option β} (h : x.onB f = some r) : ∃ t, x = .c (.bool t) ∧ f t = some r := by
  obtain ⟨v, rfl, h1⟩ := onC_is h
  obtain ⟨t, rfl, h2⟩ := CV.onBool_is none_some h1
  exact ⟨t, rfl, h2⟩
theorem AV.onI_is {f : Int → Option β} (h : x.onI f = some r) : ∃ t, x = .c (.int t) ∧ f t = some r := by
  obtain ⟨v, rfl, h1⟩ := onC_is h
  obtain ⟨t, rfl, h2⟩ := CV.onInt_is none_some h1
  exact ⟨t, rfl, h2⟩
end
noncomputable def k1 {β : Type} (a : AV) (f : CV → Option β) : Option β := (kn a).bind f
theorem k1_is {β : Type} (ρ : Env) {f : CV → Option β} {a : AV} {r : β} (h : k1 a f = some r) : f (γ ρ a) = some r := by
  obtain ⟨x, hx, h⟩ := Option.bind_eq_some_iff.mp h
  rw [kn_ok ρ a x hx]; exact h
noncomputable def kA (a : AV) (f : CV → Option CV) : Option AV := k1 a fun x => (f x).map .c
theorem kA_is (ρ : Env) {f : CV → Option CV} {a r : AV} (h : kA a f = some r) : f (γ ρ a) = some (γ ρ r) := by
  obtain ⟨v, h1, rfl⟩ := Option.map_eq_some_iff.mp (k1_is ρ h); exact h1
noncomputable def k2 {β : Type} (a b : AV) (f : CV → CV → Option β) : Option β := k1 a fun x => k1 b fun y => f x y
theorem k2_is {β : Type} (ρ : Env) {f : CV → CV → Option β} {a b : AV} {r : β} (h : k2 a b f = some r) : f (γ ρ a) (γ ρ b) = some r := k1_is ρ (f := fun y => f (γ ρ a) y) (k1_is ρ (f := fun x => k1 b fun y => f x y) h)
noncomputable def kA2 (a b : AV) (f : CV → CV → Option CV) : Option AV := k2 a b fun x y => (f x y).map .c
theorem kA2_is (ρ : Env) {f : CV → CV → Option CV} {a b r : AV} (h : kA2 a b f = some r) : f (γ ρ a) (γ ρ b) = some (γ ρ r) := by
  obtain ⟨v, h1, rfl⟩ := Option.map_eq_some_iff.mp (k2_is ρ (f := fun x y => (f x y).map AV.c) h); exact h1

noncomputable def isAdd (o : Operator) : Bool := match o with
  | .Add => true
  | _ => false
noncomputable def isSub (o : Operator) : Bool := match o with
  | .Sub => true
  | _ => false
theorem isAdd_is {o : Operator} (h : isAdd o = true) : o = .Add := by cases o <;> first | rfl | exact (ff_tt h).elim
theorem isSub_is {o : Operator} (h : isSub o = true) : o = .Sub := by cases o <;> first | rfl | exact (ff_tt h).elim

noncomputable def shift (op : Operator) (b : AV) (f : Nat → AV) : Option AV := b.onI fun i => ofIf (isAdd op = true ∧ 0 ≤ i) (f i.toNat)
theorem shift_is {op : Operator} {b r : AV} {f : Nat → AV} (h : shift op b f = some r) : ∃ i : Nat, op = .Add ∧ b = .c (.int i) ∧ r = f i := by
  obtain ⟨i, hb, h⟩ := AV.onI_is h
  obtain ⟨⟨h1, h2⟩, h⟩ := ofIf_is h
  exact ⟨i.toNat, isAdd_is h1, by rw [hb, Int.toNat_of_nonneg h2], h.symm⟩
theorem shift_eq (p k i : Nat) : ((p + k : Nat) : Int) + (i : Int) = ((p + (k + i) : Nat) : Int) := by rw [← Nat.add_assoc]; rfl
noncomputable def aBin (op : Operator) (a b : AV) : Option AV := match a with
  | .pos k => shift op b fun i => .pos (k + i)
  | .idx k => shift op b fun i => .idx (k + i)
  | .rln n => b.onI fun i => ofIf (isSub op = true ∧ i = 1) (.rlm n)
  | a => kA2 a b (binOp op)

theorem pos_add (ρ : Env) (f : Operator → CV → CV → Option CV) (hf : ∀ a b, f .Add (.int a) (.int b) = some (.int (a + b))) {op : Operator} {k p : Nat} {b r : AV} {g : Nat → AV}
    (hg : ∀ n, γ ρ (g n) = .int ((p + n : Nat) : Int)) (h : shift op b (fun i => g (k + i)) = some r) : f op (.int ((p + k : Nat) : Int)) (γ ρ b) = some (γ ρ r) := by
  obtain ⟨i, rfl, rfl, rfl⟩ := shift_is h
  rw [hg, ← shift_eq]; exact hf _ _
theorem aBin_ok (ρ : Env) {op : Operator} {a b r : AV} (h : aBin op a b = some r) : binOp op (γ ρ a) (γ ρ b) = some (γ ρ r) := by
  cases a with
  | pos k => exact pos_add ρ binOp (fun _ _ => rfl) (g := .pos) (fun _ => rfl) h
  | idx k => exact pos_add ρ binOp (fun _ _ => rfl) (g := .idx) (fun _ => rfl) h
  | rln n =>
    obtain ⟨i, rfl, h⟩ := AV.onI_is h
    obtain ⟨⟨h1, rfl⟩, rfl⟩ := ofIf_is h
    rw [isSub_is h1]; rfl
  | _ => exact kA2_is ρ h

noncomputable def aAug (op : Operator) (a b : AV) : Option AV := match a with
  | .pos k => shift op b fun i => .pos (k + i)
  | .idx k => shift op b fun i => .idx (k + i)
  | a => kA2 a b (augOp op)

theorem aAug_ok (ρ : Env) {op : Operator} {a b r : AV} (h : aAug op a b = some r) : augOp op (γ ρ a) (γ ρ b) = some (γ ρ r) := by
  cases a with
  | pos k => exact pos_add ρ augOp (fun _ _ => rfl) (g := .pos) (fun _ => rfl) h
  | idx k => exact pos_add ρ augOp (fun _ _ => rfl) (g := .idx) (fun _ => rfl) h
  | _ => exact kA2_is ρ h

structure AInst where
  r : Option AV
  a : Option AV
  d : Option AV
noncomputable def ACell.asList (c : ACell) : Option (List AV) := match c with
  | .list xs => some xs
  | _ => none
noncomputable def ACell.asRows (c : ACell) : Option (List AV) := match c with
  | .rows xs => some xs
  | _ => none
noncomputable def ACell.asInst (c : ACell) : Option AInst := match c with
  | .inst r a d => some ⟨r, a, d⟩
  | _ => none
noncomputable def aList (acs : List ACell) (i : Nat) : Option (List AV) := acs[i]?.bind ACell.asList
noncomputable def aRows (acs : List ACell) (i : Nat) : Option (List AV) := acs[i]?.bind ACell.asRows
noncomputable def aInst (acs : List ACell) (i : Nat) : Option AInst := acs[i]?.bind ACell.asInst
theorem get_lt {α : Type} {l : List α} {i : Nat} {a : α} (h : l[i]? = some a) : i < l.length := (List.getElem?_eq_some_iff.1 h).1

theorem aList_ok {ρ : Env} {acs cs} (H : Csr ρ acs cs) {i : Nat} {xs} (h : aList acs i = some xs) :
    listAt cs (ρ.μ i) = some (γs ρ xs) ∧ i < acs.length ∧ cs[ρ.μ i]? = some (.list (γs ρ xs)) := by
  obtain ⟨z, hz, h⟩ := Option.bind_eq_some_iff.mp h
  cases z with
  | list ys =>
    obtain rfl := Option.some.inj h
    obtain ⟨c, hc, hr⟩ := H.at_ i _ hz
    obtain rfl : c = _ := hr
    exact ⟨listAt_of hc, get_lt hz, hc⟩
  | _ => exact absurd h none_some

theorem aRows_ok {ρ : Env} {acs cs} (H : Csr ρ acs cs) {i : Nat} {xs} (h : aRows acs i = some xs) :
    listAt cs (ρ.μ i) = some (ρ.rpre ++ γs ρ xs ++ ρ.rsuf) ∧ i < acs.length ∧ xs.length ≤ 1000 := by
  obtain ⟨z, hz, h⟩ := Option.bind_eq_some_iff.mp h
  cases z with
  | rows ys =>
    obtain rfl := Option.some.inj h
    obtain ⟨c, hc, hr, hl⟩ := H.at_ i _ hz
    obtain rfl := hr
    exact ⟨listAt_of hc, get_lt hz, hl⟩
  | _ => exact absurd h none_some

noncomputable def γi (ρ : Env) (x : AInst) : Inst := ⟨x.r.map (γ ρ), x.a.map (γ ρ), x.d.map (γ ρ)⟩
theorem aInst_ok {ρ : Env} {acs cs} (H : Csr ρ acs cs) {i : Nat} {x} (h : aInst acs i = some x) : instAt cs (ρ.μ i) = some (γi ρ x) ∧ i < acs.length := by
  obtain ⟨z, hz, h⟩ := Option.bind_eq_some_iff.mp h
  cases z with
  | inst r a d =>
    obtain rfl := Option.some.inj h
    obtain ⟨c, hc, hr⟩ := H.at_ i _ hz
    obtain rfl : c = _ := hr
    exact ⟨instAt_of hc, get_lt hz⟩
  | _ => exact absurd h none_some

theorem γs_length (ρ : Env) (xs : List AV) : (γs ρ xs).length = xs.length := by rw [γs_map, List.length_map]
theorem γs_get (ρ : Env) (xs : List AV) (i : Nat) : (γs ρ xs)[i]? = xs[i]?.map (γ ρ) := by rw [γs_map, List.getElem?_map]

/-- the text u with something behind it is not s -/
noncomputable def unlike : List Nat → List Nat → Bool
  | [], _ => false
  | x :: u, s => match s with
    | [] => true
    | y :: s => x != y || unlike u s
theorem unlike_ok : ∀ (u s t : List Nat), unlike u s = true → u ++ t ≠ s
  | [], _, _, h => (ff_tt h).elim
  | _ :: _, [], _, _ => List.cons_ne_nil _ _
  | x :: u, y :: s, t, h => fun e => by
    rcases Bool.or_eq_true_iff.mp h with h | h
    · exact bne_iff_ne.mp h (List.cons.inj e).1
    · exact unlike_ok u s t h (List.cons.inj e).2

theorem eqOp_any {cs : Cells} {x y : CV} {r : Bool} (h : eqOp [] x y = some r) : eqOp cs x y = some r := by
  cases x with
  | lst c =>
    obtain ⟨b, rfl, h1⟩ := CV.onIls_is none_some h
    exact absurd h1 none_some
  | _ => exact h
theorem cmpOp_any {cs : Cells} {op : CmpOp} {x y : CV} {r : Bool} (h : cmpOp [] op x y = some r) : cmpOp cs op x y = some r := by
  cases op with
  | Eq => exact eqOp_any h
  | NotEq =>
    obtain ⟨b, h1, h2⟩ := Option.map_eq_some_iff.mp h
    exact Option.map_eq_some_iff.mpr ⟨b, eqOp_any h1, h2⟩
  | _ => exact h

noncomputable def aEmpty (acs : List ACell) (i : Nat) : Option Bool := (aList acs i).bind fun xs => ofIf (okAs xs 30 = true) xs.isEmpty
theorem aEmpty_ok {ρ : Env} {acs cs} (H : Csr ρ acs cs) {i : Nat} {b} (h : aEmpty acs i = some b) : eqOp cs (.lst (ρ.μ i)) (.ils []) = some b := by
  obtain ⟨xs, hx, h⟩ := Option.bind_eq_some_iff.mp h
  obtain ⟨hk, rfl⟩ := ofIf_is h
  show (listAt cs (ρ.μ i)).bind _ = _
  rw [(aList_ok H hx).1]
  refine (ofIf_pos ⟨rfl, okAs_ok ρ xs 30 hk⟩).trans ?_
  cases xs <;> rfl

noncomputable def isNil (a : AV) : Bool := match a with
  | .ils xs => xs.isEmpty
  | _ => false
theorem isNil_is {a : AV} (h : isNil a = true) : a = .ils [] := by
  cases a with
  | ils xs => rw [List.isEmpty_iff.mp h]
  | _ => exact (ff_tt h).elim
noncomputable def aCmpPos (op : CmpOp) (i : Nat) (b : AV) : Option Bool := match op with
  | .Lt => (match b with
    | .tln n => ofIf (i < n) true
    | .pos j => some (decide (i < j))
    | _ => none)
  | _ => none
noncomputable def aCmpPst (op : CmpOp) (u : List Nat) (b : AV) : Option Bool := match op with
  | .Eq => b.onC fun v => v.onStr none fun s => ofIf (unlike u s = true) false
  | _ => none
noncomputable def aCmpLst (acs : List ACell) (op : CmpOp) (i : Nat) (b : AV) : Option Bool := match op with
  | .Eq => (ofIf (isNil b = true) i).bind (aEmpty acs)
  | .NotEq => ((ofIf (isNil b = true) i).bind (aEmpty acs)).map (!·)
  | _ => none
noncomputable def aCmp (acs : List ACell) (op : CmpOp) (a b : AV) : Option Bool := match a with
  | .pos i => aCmpPos op i b
  | .pst u _ => aCmpPst op u b
  | .lst i => aCmpLst acs op i b
  | a => k2 a b (cmpOp [] op)

theorem aCmpLst_eq {ρ : Env} {acs cs} (H : Csr ρ acs cs) {i : Nat} {b : AV} {r : Bool} (h : (ofIf (isNil b = true) i).bind (aEmpty acs) = some r) : eqOp cs (.lst (ρ.μ i)) (γ ρ b) = some r := by
  obtain ⟨j, hj, h⟩ := Option.bind_eq_some_iff.mp h
  obtain ⟨hn, rfl⟩ := ofIf_is hj
  rw [isNil_is hn]; exact aEmpty_ok H h
theorem aCmp_ok {ρ : Env} {acs cs} (H : Csr ρ acs cs) {op : CmpOp} {a b : AV} {r : Bool} (h : aCmp acs op a b = some r) :
    cmpOp cs op (γ ρ a) (γ ρ b) = some r := by
  cases a with
  | pos i =>
    cases op with
    | Lt =>
      cases b with
      | tln n =>
        obtain ⟨hi, rfl⟩ := ofIf_is h
        exact congrArg some (decide_eq_true (by omega))
      | pos j =>
        obtain rfl := Option.some.inj h
        exact congrArg some (decide_eq_decide.mpr (by omega))
      | _ => exact absurd h none_some
    | _ => exact absurd h none_some
  | pst u m =>
    cases op with
    | Eq =>
      obtain ⟨v, rfl, h1⟩ := AV.onC_is h
      obtain ⟨s, rfl, h2⟩ := CV.onStr_is none_some h1
      obtain ⟨hu, rfl⟩ := ofIf_is h2
      exact congrArg some (decide_eq_false (unlike_ok _ _ _ hu))
    | _ => exact absurd h none_some
  | lst i =>
    cases op with
    | Eq => exact aCmpLst_eq H h
    | NotEq =>
      obtain ⟨b, h1, h2⟩ := Option.map_eq_some_iff.mp h
      exact Option.map_eq_some_iff.mpr ⟨b, aCmpLst_eq H h1, h2⟩
    | _ => exact absurd h none_some
  | _ => exact cmpOp_any (k2_is ρ h)

noncomputable def aItem (xs : List AV) (i : Int) : Option AV := (ofIf (0 ≤ i ∧ i < 100000) i.toNat).bind fun k => xs[k]?
theorem aItem_ok (ρ : Env) {xs : List AV} {i : Int} {r : AV} (h : aItem xs i = some r) : itemAt (γs ρ xs) i = some (γ ρ r) := by
  obtain ⟨k, hk, h⟩ := Option.bind_eq_some_iff.mp h
  refine Option.bind_eq_some_iff.mpr ⟨k, hk, ?_⟩
  rw [γs_get, h]; rfl

/-- what stands at a place of a text with a hidden part ahead -/
noncomputable def aChr (w : List Nat) (b : AV) : Option AV := b.onPos fun k => ofIf (w.length ≤ 1000) () |>.bind fun _ => (w[k]?).map fun x => .c (.str [x])
noncomputable def aSub (acs : List ACell) (a b : AV) : Option AV := match a with
  | .tup xs => b.onI (aItem xs)
  | .ils xs => b.onI (aItem xs)
  | .txt w => aChr w b
  | .txe w => aChr w b
  | .lst i => (match b with
    | .idx k => (aRows acs i).bind fun xs => xs[k]?
    | b => b.onI fun j => (aList acs i).bind fun xs => aItem xs j)
  | a => kA2 a b (subOp [])

theorem subOp_any {cs : Cells} {x y : CV} {r : CV} (h : subOp [] x y = some r) : subOp cs x y = some r := by
  obtain ⟨i, rfl, h1⟩ := CV.onInt_is none_some h
  cases x with
  | lst c => exact absurd h1 none_some
  | _ => exact h1
theorem small_ix {n : Nat} (h : n < 100000) : ofIf ((0 : Int) ≤ (n : Int) ∧ (n : Int) < 100000) (n : Int).toNat = some n := ofIf_pos ⟨Int.natCast_nonneg n, Int.ofNat_lt.mpr h⟩
theorem itemAt_nat {xs : List CV} {n : Nat} {z : CV} (h : xs[n]? = some z) (hn : n < 100000) : itemAt xs (n : Int) = some z := by
  show (ofIf ((0 : Int) ≤ (n : Int) ∧ (n : Int) < 100000) (n : Int).toNat).bind (fun k => xs[k]?) = some z
  rw [small_ix hn]; exact h
theorem charAt_nat {cs : Cells} {s : List Nat} {n x : Nat} (h : s[n]? = some x) (hn : n < 100000) : subOp cs (.str s) (.int (n : Int)) = some (.str [x]) := by
  show strAt s (n : Int) = _
  show (ofIf ((0 : Int) ≤ (n : Int) ∧ (n : Int) < 100000) (n : Int).toNat).bind (fun k => (s[k]?).map fun x => CV.str [x]) = _
  rw [small_ix hn]; exact Option.map_eq_some_iff.mpr ⟨x, h, rfl⟩
theorem aChr_ok (ρ : Env) {w suf : List Nat} (hs : ρ.pre.length + suf.length ≤ 90000) {b r : AV} (h : aChr w b = some r) {cs : Cells} : subOp cs (.str (ρ.pre ++ (w ++ suf))) (γ ρ b) = some (γ ρ r) := by
  obtain ⟨k, rfl, h1⟩ := AV.onPos_is h
  obtain ⟨_, h2, h3⟩ := Option.bind_eq_some_iff.mp h1
  obtain ⟨x, hx, rfl⟩ := Option.map_eq_some_iff.mp h3
  have hw := (ofIf_is h2).1
  have hk := get_lt hx
  refine charAt_nat ?_ (by omega)
  rw [List.getElem?_append_right (Nat.le_add_right ..), Nat.add_sub_cancel_left, List.getElem?_append_left hk]; exact hx
theorem rows_at (ρ : Env) {xs : List AV} {k : Nat} {r : AV} (h : xs[k]? = some r) (hb : xs.length ≤ 1000) : itemAt (ρ.rpre ++ γs ρ xs ++ ρ.rsuf) ((ρ.rpre.length + k : Nat) : Int) = some (γ ρ r) := by
  have hr := ρ.smallr
  have hk := get_lt h
  refine itemAt_nat ?_ (by omega)
  rw [List.append_assoc, List.getElem?_append_right (Nat.le_add_right ..), Nat.add_sub_cancel_left, List.getElem?_append_left (by rw [γs_length]; exact hk), γs_get, h]; rfl

theorem aSub_ok {ρ : Env} {acs cs} (H : Csr ρ acs cs) {a b r : AV} (h : aSub acs a b = some r) :
    subOp cs (γ ρ a) (γ ρ b) = some (γ ρ r) := by
  cases a with
  | tup xs => obtain ⟨i, rfl, h⟩ := AV.onI_is h; exact aItem_ok ρ h
  | ils xs => obtain ⟨i, rfl, h⟩ := AV.onI_is h; exact aItem_ok ρ h
  | txt w =>
    have := aChr_ok ρ ρ.small h (cs := cs)
    rw [← List.append_assoc] at this; exact this
  | txe w =>
    have := aChr_ok ρ (suf := []) (Nat.le_trans (Nat.le_add_right _ _) ρ.small) h (cs := cs)
    rw [List.append_nil] at this; exact this
  | lst i =>
    have key : b.onI (fun j => (aList acs i).bind fun xs => aItem xs j) = some r → subOp cs (γ ρ (.lst i)) (γ ρ b) = some (γ ρ r) := fun h => by
      obtain ⟨j, rfl, h1⟩ := AV.onI_is h
      obtain ⟨xs, hx, h2⟩ := Option.bind_eq_some_iff.mp h1
      exact Option.bind_eq_some_iff.mpr ⟨_, (aList_ok H hx).1, aItem_ok ρ h2⟩
    cases b with
    | idx k =>
      obtain ⟨xs, hx, h1⟩ := Option.bind_eq_some_iff.mp h
      obtain ⟨hl, -, hb⟩ := aRows_ok H hx
      exact Option.bind_eq_some_iff.mpr ⟨_, hl, rows_at ρ h1 hb⟩
    | _ => exact key h
  | _ => exact subOp_any (kA2_is ρ h)

noncomputable def kno (a : Option AV) : Option (Option CV) := match a with
  | none => some none
  | some a => (kn a).map some
theorem kno_ok (ρ : Env) {a : Option AV} {v} (h : kno a = some v) : a.map (γ ρ) = v := by
  cases a with
  | none => exact Option.some.inj h
  | some a =>
    obtain ⟨x, hx, rfl⟩ := Option.map_eq_some_iff.mp h
    exact congrArg some (kn_ok ρ a x hx)

/-- both bounds -/
noncomputable def pos2 {β : Type} (a b : Option AV) (f : Nat → Nat → Option β) : Option β := a.bind fun a => b.bind fun b => a.onPos fun i => b.onPos fun j => f i j
theorem pos2_is {β : Type} {a b : Option AV} {f : Nat → Nat → Option β} {r : β} (h : pos2 a b f = some r) : ∃ i j, a = some (.pos i) ∧ b = some (.pos j) ∧ f i j = some r := by
  obtain ⟨x, rfl, h1⟩ := Option.bind_eq_some_iff.mp h
  obtain ⟨y, rfl, h2⟩ := Option.bind_eq_some_iff.mp h1
  obtain ⟨i, rfl, h3⟩ := AV.onPos_is h2
  obtain ⟨j, rfl, h4⟩ := AV.onPos_is h3
  exact ⟨i, j, rfl, rfl, h4⟩
noncomputable def aSlc (a : AV) (lo hi : Option AV) : Option AV := match a with
  | .txt w => pos2 lo hi fun i j => ofIf (w.length ≤ 1000 ∧ i ≤ w.length) (if j ≤ w.length then .c (.str ((w.take j).drop i)) else .pst (w.drop i) (j - w.length))
  | .txe w => pos2 lo hi fun i j => ofIf (w.length ≤ 1000 ∧ i ≤ w.length) (.c (.str ((w.take j).drop i)))
  | a => k1 a fun x => (kno lo).bind fun y => (kno hi).bind fun z => (slcOp x y z).map .c

theorem cut (p w s : List Nat) (i j : Nat) (hi : i ≤ w.length) : ((p ++ (w ++ s)).take (p.length + j)).drop (p.length + i) = (w.take j).drop i ++ s.take (j - w.length) := by
  have e : (w.take j).length = min j w.length := List.length_take
  rw [List.take_append, List.take_of_length_le (Nat.le_add_right _ _), Nat.add_sub_cancel_left, List.drop_append, List.drop_of_length_le (Nat.le_add_right _ _), Nat.add_sub_cancel_left, List.nil_append,
    List.take_append, List.drop_append]
  by_cases h : j ≤ w.length
  · rw [Nat.sub_eq_zero_of_le h, List.take_zero, List.drop_nil]
  · rw [e, Nat.min_eq_right (Nat.le_of_lt (Nat.lt_of_not_le h)), Nat.sub_eq_zero_of_le hi, List.drop_zero]
theorem slc_ok (p w s : List Nat) (i j : Nat) (hs : p.length + s.length ≤ 90000) (hw : w.length ≤ 1000) (hi : i ≤ w.length) :
    slcOp (.str (p ++ (w ++ s))) (some (.int ((p.length + i : Nat) : Int))) (some (.int ((p.length + j : Nat) : Int))) = some (.str ((w.take j).drop i ++ s.take (j - w.length))) := by
  have eb : ∀ n d : Nat, bound (some (.int (n : Int))) d = some n := fun n _ => ofIf_pos (Int.natCast_nonneg n)
  show slcStr (p ++ (w ++ s)) (some (.int ((p.length + i : Nat) : Int))) (some (.int ((p.length + j : Nat) : Int))) = _
  unfold slcStr
  rw [eb, Option.bind_some, eb, Option.bind_some]
  refine (ofIf_pos ⟨?_, rfl⟩).trans (congrArg (fun z => some (CV.str z)) (cut p w s i j hi))
  rw [List.length_append, List.length_append]; omega
theorem aSlc_ok {ρ : Env} {a : AV} {lo hi : Option AV} {r : AV} (h : aSlc a lo hi = some r) :
    slcOp (γ ρ a) (lo.map (γ ρ)) (hi.map (γ ρ)) = some (γ ρ r) := by
  have key : (k1 a fun x => (kno lo).bind fun y => (kno hi).bind fun z => (slcOp x y z).map AV.c) = some r → slcOp (γ ρ a) (lo.map (γ ρ)) (hi.map (γ ρ)) = some (γ ρ r) := fun h => by
    have h := k1_is ρ h
    obtain ⟨y, hy, h1⟩ := Option.bind_eq_some_iff.mp h
    obtain ⟨z, hz, h2⟩ := Option.bind_eq_some_iff.mp h1
    obtain ⟨v, hv, rfl⟩ := Option.map_eq_some_iff.mp h2
    rw [kno_ok ρ hy, kno_ok ρ hz]; exact hv
  cases a with
  | txt w =>
    obtain ⟨i, j, rfl, rfl, h1⟩ := pos2_is h
    obtain ⟨⟨hw, hi⟩, rfl⟩ := ofIf_is h1
    have e := slc_ok ρ.pre w ρ.suf i j ρ.small hw hi
    rw [← List.append_assoc] at e
    refine e.trans (congrArg some ?_)
    by_cases hj : j ≤ w.length
    · rw [if_pos hj, Nat.sub_eq_zero_of_le hj, List.take_zero, List.append_nil]; rfl
    · rw [if_neg hj, List.take_of_length_le (Nat.le_of_lt (Nat.lt_of_not_le hj))]; rfl
  | txe w =>
    obtain ⟨i, j, rfl, rfl, h1⟩ := pos2_is h
    obtain ⟨⟨hw, hi⟩, rfl⟩ := ofIf_is h1
    have e := slc_ok ρ.pre w [] i j (Nat.le_trans (Nat.le_add_right _ _) ρ.small) hw hi
    rw [List.append_nil, List.take_nil, List.append_nil] at e
    exact e
  | _ => exact key h

theorem lenOp_any {cs : Cells} {x : CV} {r : CV} (h : lenOp [] x = some r) : lenOp cs x = some r := by
  cases x with
  | lst c => exact absurd h none_some
  | _ => exact h

noncomputable def aLen (acs : List ACell) (a : AV) : Option AV := match a with
  | .txt w => ofIf (w.length ≤ 1000) (.tln w.length)
  | .txe w => ofIf (w.length ≤ 1000) (.pos w.length)
  | .tup xs => ofIf (xs.length ≤ 1000) (.c (.int xs.length))
  | .ils xs => ofIf (xs.length ≤ 1000) (.c (.int xs.length))
  | .lst i => (match aRows acs i with
    | some xs => some (.rln xs.length)
    | none => (aList acs i).bind fun xs => ofIf (xs.length ≤ 1000) (.c (.int xs.length)))
  | a => kA a (lenOp [])

theorem sized_of {n m : Nat} (e : n = m) (h : m ≤ 100000) : sized n = some (.int (m : Int)) := by rw [e]; exact ofIf_pos h
theorem aLen_ok {ρ : Env} {acs cs} (H : Csr ρ acs cs) {a r : AV} (h : aLen acs a = some r) :
    lenOp cs (γ ρ a) = some (γ ρ r) := by
  have hs := ρ.small
  have hr := ρ.smallr
  cases a with
  | txt w => obtain ⟨h1, rfl⟩ := ofIf_is h; exact sized_of (by rw [List.length_append, List.length_append]) (by omega)
  | txe w => obtain ⟨h1, rfl⟩ := ofIf_is h; exact sized_of List.length_append (by omega)
  | tup xs => obtain ⟨h1, rfl⟩ := ofIf_is h; exact sized_of (γs_length ρ xs) (by omega)
  | ils xs => obtain ⟨h1, rfl⟩ := ofIf_is h; exact sized_of (γs_length ρ xs) (by omega)
  | lst i =>
    cases hx : aRows acs i with
    | some xs =>
      have h1 : (match aRows acs i with | some xs => some (AV.rln xs.length) | none => (aList acs i).bind fun xs => ofIf (xs.length ≤ 1000) (AV.c (.int xs.length))) = some r := h
      rw [hx] at h1
      obtain rfl := Option.some.inj h1
      obtain ⟨hl, -, hb⟩ := aRows_ok H hx
      exact Option.bind_eq_some_iff.mpr ⟨_, hl, sized_of (by rw [List.length_append, List.length_append, γs_length]) (by omega)⟩
    | none =>
      have h1 : (match aRows acs i with | some xs => some (AV.rln xs.length) | none => (aList acs i).bind fun xs => ofIf (xs.length ≤ 1000) (AV.c (.int xs.length))) = some r := h
      rw [hx] at h1
      obtain ⟨xs, hx, h2⟩ := Option.bind_eq_some_iff.mp h1
      obtain ⟨h3, rfl⟩ := ofIf_is h2
      exact Option.bind_eq_some_iff.mpr ⟨_, (aList_ok H hx).1, sized_of (γs_length ρ xs) (by omega)⟩
  | _ => exact lenOp_any (kA_is ρ h)

noncomputable def aMin (a b : AV) : Option AV := match a with
  | .idx k => (match b with
    | .rlm n => ofIf (k < n) (.idx k)
    | _ => none)
  | a => a.onI fun i => b.onI fun j => some (.c (.int (if j < i then j else i)))

theorem aMin_ok {ρ : Env} {a b r : AV} (h : aMin a b = some r) : ∃ i j, γ ρ a = .int i ∧ γ ρ b = .int j ∧ γ ρ r = .int (if j < i then j else i) := by
  cases a with
  | idx k =>
    cases b with
    | rlm n =>
      obtain ⟨hk, rfl⟩ := ofIf_is h
      exact ⟨_, _, rfl, rfl, by rw [if_neg (by omega)]; rfl⟩
    | _ => exact absurd h none_some
  | c v =>
    obtain ⟨i, e, h1⟩ := AV.onI_is (x := .c v) (f := fun i => b.onI fun j => some (AV.c (.int (if j < i then j else i)))) h
    obtain ⟨j, rfl, h2⟩ := AV.onI_is h1
    obtain rfl := Option.some.inj h2
    rw [e]
    exact ⟨_, _, rfl, rfl, rfl⟩
  | _ => exact absurd h none_some

noncomputable def aGetA (i : AInst) (n : Nat) : Option AV := match n with
  | 0 => i.r
  | n + 1 => match n with
    | 0 => i.a
    | _ + 1 => i.d
noncomputable def aAttr (acs : List ACell) (o : AV) (n : Nat) : Option AV := o.onObj fun i => (aInst acs i).bind fun x => aGetA x n
theorem aAttr_ok {ρ : Env} {acs cs} (H : Csr ρ acs cs) {o r : AV} {n} (h : aAttr acs o n = some r) : attrOp cs (γ ρ o) n = some (γ ρ r) := by
  obtain ⟨i, rfl, h1⟩ := AV.onObj_is h
  obtain ⟨x, hi, h2⟩ := Option.bind_eq_some_iff.mp h1
  refine Option.bind_eq_some_iff.mpr ⟨_, (aInst_ok H hi).1, ?_⟩
  have h3 : ∀ {z : Option AV}, z = some r → z.map (γ ρ) = some (γ ρ r) := fun e => by rw [e]; rfl
  match n, h2 with
  | 0, h2 => exact h3 h2
  | 1, h2 => exact h3 h2
  | _ + 2, h2 => exact h3 h2

noncomputable def aPut (i : AInst) (n : Nat) (v : AV) : Option ACell := match n with
  | 0 => ofIf ((i.r.isSome || (i.a.isNone && i.d.isNone)) = true) (.inst (some v) i.a i.d)
  | n + 1 => match n with
    | 0 => ofIf ((i.r.isSome && (i.a.isSome || i.d.isNone)) = true) (.inst i.r (some v) i.d)
    | n + 1 => match n with
      | 0 => ofIf ((i.r.isSome && i.a.isSome) = true) (.inst i.r i.a (some v))
      | _ + 1 => none
theorem aPut_ok (ρ : Env) {i : AInst} {n v x} (h : aPut i n v = some x) : ∃ c, putA (γi ρ i) n (γ ρ v) = some c ∧ CellR ρ x c := by
  have e1 : ∀ z : Option AV, (z.map (γ ρ)).isSome = z.isSome := fun _ => Option.isSome_map
  have e2 : ∀ z : Option AV, (z.map (γ ρ)).isNone = z.isNone := fun _ => Option.isNone_map
  match n, h with
  | 0, h => obtain ⟨h1, rfl⟩ := ofIf_is h; exact ⟨_, ofIf_pos (by rw [← h1]; show ((i.r.map (γ ρ)).isSome || ((i.a.map (γ ρ)).isNone && (i.d.map (γ ρ)).isNone)) = _; rw [e1, e2, e2]), rfl⟩
  | 1, h => obtain ⟨h1, rfl⟩ := ofIf_is h; exact ⟨_, ofIf_pos (by rw [← h1]; show ((i.r.map (γ ρ)).isSome && ((i.a.map (γ ρ)).isSome || (i.d.map (γ ρ)).isNone)) = _; rw [e1, e1, e2]), rfl⟩
  | 2, h => obtain ⟨h1, rfl⟩ := ofIf_is h; exact ⟨_, ofIf_pos (by rw [← h1]; show ((i.r.map (γ ρ)).isSome && (i.a.map (γ ρ)).isSome) = _; rw [e1, e1]), rfl⟩
  | _ + 3, h => exact absurd h none_some
noncomputable def aSetA (acs : List ACell) (o : AV) (n : Nat) (v : AV) : Option (List ACell) := o.onObj fun i => (aInst acs i).bind fun x => (aPut x n v).map fun y => acs.set i y
theorem aSetA_ok {ρ : Env} {acs cs} (H : Csr ρ acs cs) {o v : AV} {n acs'} (h : aSetA acs o n v = some acs') :
    ∃ cs', setAOp cs (γ ρ o) n (γ ρ v) = some cs' ∧ Csr ρ acs' cs' := by
  obtain ⟨i, rfl, h1⟩ := AV.onObj_is h
  obtain ⟨x, hi, h2⟩ := Option.bind_eq_some_iff.mp h1
  obtain ⟨y, hy, rfl⟩ := Option.map_eq_some_iff.mp h2
  obtain ⟨hc, hl⟩ := aInst_ok H hi
  obtain ⟨c, hp, hr⟩ := aPut_ok ρ hy
  exact ⟨_, Option.bind_eq_some_iff.mpr ⟨_, hc, Option.map_eq_some_iff.mpr ⟨c, hp, rfl⟩⟩, H.set hl hr⟩
end Mine.L
end

section
namespace Mine.L
open PySem

noncomputable abbrev AOrc := Nat → List AV → List ACell → Option (AV × List ACell)
noncomputable abbrev ALoc := List (Option AV)

noncomputable def abind (x : Option (α × τ)) (k : α → τ → Option (β × τ)) : Option (β × τ) := match x with
  | some (a, t) => k a t
  | none => none
noncomputable def aopt (o : Option α) (t : τ) : Option (α × τ) := o.map fun a => (a, t)

noncomputable def Okr (Q : τ → σ → Prop) (f : α → β) (x : Option (α × τ)) (y : Res σ β) : Prop := ∀ a t, x = some (a, t) → ∃ s, y = .ok (f a) s ∧ Q t s

theorem Okr.bind {Q : τ → σ → Prop} {f : α → β} {g : α' → β'} {x y} {k : α → τ → Option (α' × τ)} {k' : β → σ → Res σ β'}
    (h : Okr Q f x y) (hk : ∀ a t s, Q t s → Okr Q g (k a t) (k' (f a) s)) : Okr Q g (abind x k) (y.bind k') := by
  intro a t e
  unfold abind at e
  split at e
  · rename_i b u
    obtain ⟨s, rfl, hq⟩ := h b u rfl
    exact hk b u s hq a t e
  · cases e

theorem Okr.opt {Q : τ → σ → Prop} {f : α → β} {o : Option α} {o' : Option β} {t s} (hq : Q t s)
    (h : ∀ a, o = some a → o' = some (f a)) : Okr Q f (aopt o t) (.ofOpt o' s) := by
  intro a u e
  simp only [aopt, Option.map_eq_some_iff, Prod.mk.injEq] at e
  obtain ⟨b, hb, rfl, rfl⟩ := e
  rw [h b hb]
  exact ⟨s, rfl, hq⟩

theorem Okr.ok {Q : τ → σ → Prop} {f : α → β} {a t s} {b : β} (hq : Q t s) (hb : b = f a) : Okr Q f (some (a, t)) (.ok b s) := by
  intro a' t' e
  injection e with e
  injection e with e1 e2
  subst e1; subst e2; subst hb
  exact ⟨s, rfl, hq⟩

theorem Okr.none {Q : τ → σ → Prop} {f : α → β} {y} : Okr Q f none y := by intro a t e; cases e

theorem Okr.of {Q : τ → σ → Prop} {f : α → β} {x : Option (α × τ)} {y : Res σ β} (h : ∀ a t, x = some (a, t) → Okr Q f (some (a, t)) y) : Okr Q f x y := fun a t e => h a t e a t rfl
theorem Okr.if_ {Q : τ → σ → Prop} {f : α → β} {c d : Prop} [Decidable c] [Decidable d] {x : Option (α × τ)} {y z : Res σ β} (cd : c → d) (h : c → Okr Q f x y) : Okr Q f (if c then x else Option.none) (if d then y else z) := by
  by_cases k : c
  · rw [if_pos k, if_pos (cd k)]; exact h k
  · rw [if_neg k]; exact .none
section
variable {ρ : Env} {Q : τ → σ → Prop} {f : α → β} {x : AV} {y : Res σ β}
theorem Okr.onB {k : Bool → Option (α × τ)} {k' : Bool → Res σ β} (h : ∀ t, Okr Q f (k t) (k' t)) : Okr Q f (x.onB k) ((γ ρ x).onBool .no k') := fun a t e => by
  obtain ⟨b, rfl, e⟩ := AV.onB_is e; exact h b a t e
theorem Okr.onI {k : Int → Option (α × τ)} {k' : Int → Res σ β} (h : ∀ t, Okr Q f (k t) (k' t)) : Okr Q f (x.onI k) ((γ ρ x).onInt .no k') := fun a t e => by
  obtain ⟨b, rfl, e⟩ := AV.onI_is e; exact h b a t e
theorem Okr.onLst {k : Nat → Option (α × τ)} {k' : Nat → Res σ β} (h : ∀ t, Okr Q f (k t) (k' (ρ.μ t))) : Okr Q f (x.onLst k) ((γ ρ x).onLst .no k') := fun a t e => by
  obtain ⟨b, rfl, e⟩ := AV.onLst_is e; exact h b a t e
theorem Okr.onObj {k : Nat → Option (α × τ)} {k' : Nat → Res σ β} (h : ∀ t, Okr Q f (k t) (k' (ρ.μ t))) : Okr Q f (x.onObj k) ((γ ρ x).onObj .no k') := fun a t e => by
  obtain ⟨b, rfl, e⟩ := AV.onObj_is e; exact h b a t e
end

/-- a list of the cells, if it is not too long -/
noncomputable def aroom (cs : List ACell) (c : Nat) (f : List AV → Option (β × τ)) : Option (β × τ) := (aList cs c).bind fun xs => if xs.length ≤ 1000 then f xs else none
noncomputable def afresh (cs : List ACell) (xs : List AV) : Option (AV × List ACell) := some (.lst cs.length, cs ++ [.list xs])
noncomputable def afound (es : List (List Nat × Int)) (s : List Nat) (z : AV) : AV := match lookD es s with
  | some i => .c (.int i)
  | none => z
noncomputable def isNone (x : AV) : Bool := match x with
  | .c v => v.onNone false true
  | _ => false
theorem isNone_is {x : AV} (h : isNone x = true) : x = .c .none := by
  cases x with
  | c v => rw [(CV.onNone_is (x := v) ff_tt h).1]
  | _ => exact (ff_tt h).elim
mutual
noncomputable def aX (G : List CV) (C : AOrc) : X → ALoc → List ACell → Option (AV × List ACell)
  | .k c, _, cs => if atomK c = true then some (.c c, cs) else none
  | .v i, l, cs => aopt (l[i]?.join) cs
  | .g n, _, cs => aopt (G[n]?.map .c) cs
  | .bop a xs, l, cs => aB G C a xs l cs
  | .bin op a b, l, cs => abind (aX G C a l cs) fun x cs => abind (aX G C b l cs) fun y cs => aopt (aBin op x y) cs
  | .not a, l, cs => abind (aX G C a l cs) fun x cs => x.onB fun t => some (.c (.bool (!t)), cs)
  | .ife c a b, l, cs => abind (aX G C c l cs) fun t cs => t.onB fun t => match t with
    | true => aX G C a l cs
    | false => aX G C b l cs
  | .tup xs, l, cs => abind (aXs G C xs l cs) fun vs cs => some (.tup vs, cs)
  | .lst xs, l, cs => abind (aXs G C xs l cs) fun vs cs => afresh cs vs
  | .ilst xs, l, cs => abind (aXs G C xs l cs) fun vs cs => some (.ils vs, cs)
  | .dct ks xs, l, cs => abind (aXs G C xs l cs) fun vs cs => aopt ((kns vs).bind fun us => (zipD ks us).map .c) cs
  | .cmp op a b, l, cs => abind (aX G C a l cs) fun x cs => abind (aX G C b l cs) fun y cs => aopt ((aCmp cs op x y).map fun b => .c (.bool b)) cs
  | .call f xs, l, cs => abind (aXs G C xs l cs) fun vs cs => C f vs cs
  | .meth o m xs, l, cs => abind (aX G C o l cs) fun w cs => w.onObj fun c => if (aInst cs c).isSome = true then abind (aXs G C xs l cs) fun vs cs => C m (.obj c :: vs) cs else none
  | .len a, l, cs => abind (aX G C a l cs) fun x cs => aopt (aLen cs x) cs
  | .min a b, l, cs => abind (aX G C a l cs) fun x cs => abind (aX G C b l cs) fun y cs => aopt (aMin x y) cs
  | .lstof a, l, cs => abind (aX G C a l cs) fun x cs => x.onLst fun c => aroom cs c fun xs => afresh cs xs
  | .tupof a, l, cs => abind (aX G C a l cs) fun x cs => x.onLst fun c => aroom cs c fun xs => some (.tup xs, cs)
  | .strof a, l, cs => abind (aX G C a l cs) fun x cs => aopt (kA x strOf) cs
  | .words a, l, cs => abind (aX G C a l cs) fun x cs => abind (C initIx [.obj cs.length, x] (cs ++ [.inst none none none])) fun r cs' => if isNone r = true then some (.obj cs.length, cs') else none
  | .app o a, l, cs => abind (aX G C o l cs) fun x cs => x.onLst fun c => if (aList cs c).isSome = true then abind (aX G C a l cs) fun y cs => aroom cs c fun xs => some (.c .none, cs.set c (.list (xs ++ [y]))) else none
  | .get d k z, l, cs => abind (aX G C d l cs) fun x cs => x.onC fun x => match x with
    | .dct es => abind (aX G C k l cs) fun y cs => abind (aX G C z l cs) fun z cs => y.onC fun y => y.onStr none fun s => some (afound es s z, cs)
    | _ => none
  | .find o a, l, cs => abind (aX G C o l cs) fun x cs => x.onC fun x => x.onStr none fun u => abind (aX G C a l cs) fun y cs => aopt (kA y (findOp (.str u))) cs
  | .lower o, l, cs => abind (aX G C o l cs) fun x cs => aopt (kA x lowerOp) cs
  | .attr o n, l, cs => abind (aX G C o l cs) fun x cs => aopt (aAttr cs x n) cs
  | .sub o i, l, cs => abind (aX G C o l cs) fun x cs => abind (aX G C i l cs) fun y cs => aopt (aSub cs x y) cs
  | .slc o lo hi, l, cs => abind (aX G C o l cs) fun x cs => abind (aO G C lo l cs) fun a cs => abind (aO G C hi l cs) fun b cs => aopt (aSlc x a b) cs
  | _, _, _ => none
noncomputable def aXs (G : List CV) (C : AOrc) : List X → ALoc → List ACell → Option (List AV × List ACell)
  | [], _, cs => some ([], cs)
  | x :: r, l, cs => abind (aX G C x l cs) fun v cs => abind (aXs G C r l cs) fun vs cs => some (v :: vs, cs)
noncomputable def aB (G : List CV) (C : AOrc) (isAnd : Bool) : List X → ALoc → List ACell → Option (AV × List ACell)
  | [], _, _ => none
  | x :: r, l, cs => match r with
    | [] => aX G C x l cs
    | y :: r => abind (aX G C x l cs) fun v cs => v.onB fun b => if b = isAnd then aB G C isAnd (y :: r) l cs else some (.c (.bool b), cs)
noncomputable def aO (G : List CV) (C : AOrc) : Option X → ALoc → List ACell → Option (Option AV × List ACell)
  | none, _, cs => some (none, cs)
  | some x, l, cs => abind (aX G C x l cs) fun v cs => some (some v, cs)
end

noncomputable def γl (ρ : Env) (l : ALoc) : Loc := l.map (·.map (γ ρ))
theorem γl_get (ρ : Env) (l : ALoc) (i : Nat) : (γl ρ l)[i]?.join = (l[i]?.join).map (γ ρ) := by
  simp only [γl, List.getElem?_map]
  cases l[i]? with
  | none => rfl
  | some x => cases x <;> rfl
theorem γl_set (ρ : Env) (l : ALoc) (i : Nat) (v : AV) : (γl ρ l).set i (some (γ ρ v)) = γl ρ (l.set i (some v)) := by
  simp [γl, List.map_set]

noncomputable def SimO (ρ : Env) (C : AOrc) (C' : Orc) : Prop := ∀ f vs acs cs, Csr ρ acs cs → Okr (Csr ρ) (γ ρ) (C f vs acs) (C' f (γs ρ vs) cs)

section
variable {ρ : Env} {G : List CV} {C : AOrc} {C' : Orc} (S : SimO ρ C C')
include S

theorem Csr.fresh {ρ : Env} {acs cs} (H : Csr ρ acs cs) (xs) : Okr (Csr ρ) (γ ρ) (afresh acs xs) (fresh cs (γs ρ xs)) :=
  .ok (H.push rfl) (congrArg CV.lst H.new.symm)
theorem room_ok {acs cs} (H : Csr ρ acs cs) {c : Nat} {k : List AV → Option (AV × List ACell)} {k' : List CV → Res Cells CV} (h : ∀ xs, aList acs c = some xs → Okr (Csr ρ) (γ ρ) (k xs) (k' (γs ρ xs))) :
    Okr (Csr ρ) (γ ρ) (aroom acs c k) (room cs (ρ.μ c) k') := fun a t e => by
  obtain ⟨xs, hx, e⟩ := Option.bind_eq_some_iff.mp e
  unfold room
  rw [(aList_ok H hx).1]
  exact Okr.if_ (fun k => by rw [γs_length]; exact Nat.le_trans k (show 1000 ≤ 100000 by decide)) (fun _ => h xs hx) a t e

theorem kA_ok {acs cs} (H : Csr ρ acs cs) {x : AV} {f : CV → Option CV} : Okr (Csr ρ) (γ ρ) (aopt (kA x f) acs) (.ofOpt (f (γ ρ x)) cs) := .opt H fun _ h => kA_is ρ h
theorem found_ok (es : List (List Nat × Int)) (s : List Nat) (z : AV) : found es s (γ ρ z) = γ ρ (afound es s z) := by
  unfold found afound
  cases lookD es s <;> rfl

mutual
theorem aX_ok : ∀ (e : X) (l : ALoc) (acs cs), Csr ρ acs cs → Okr (Csr ρ) (γ ρ) (aX G C e l acs) (evX G C' e (γl ρ l) cs)
  | .bad, l, acs, cs, H => Okr.none
  | .k c, l, acs, cs, H => Okr.if_ id fun _ => .ok H rfl
  | .v i, l, acs, cs, H => .opt H fun a h => by rw [γl_get, h]; rfl
  | .g n, l, acs, cs, H => .opt H fun a h => by
    obtain ⟨v, h1, rfl⟩ := Option.map_eq_some_iff.mp h; exact h1
  | .bop b xs, l, acs, cs, H => aB_ok b xs l acs cs H
  | .bin op a b, l, acs, cs, H => (aX_ok a l acs cs H).bind fun x acs cs H => (aX_ok b l acs cs H).bind fun y acs cs H => .opt H fun r h => aBin_ok ρ h
  | .not a, l, acs, cs, H => (aX_ok a l acs cs H).bind fun x acs cs H => .onB fun t => .ok H rfl
  | .neg a, l, acs, cs, H => Okr.none
  | .ife c a b, l, acs, cs, H => (aX_ok c l acs cs H).bind fun x acs cs H => .onB fun t => match t with
    | true => aX_ok a l acs cs H
    | false => aX_ok b l acs cs H
  | .tup xs, l, acs, cs, H => (aXs_ok xs l acs cs H).bind fun vs acs cs H => .ok H rfl
  | .lst xs, l, acs, cs, H => (aXs_ok xs l acs cs H).bind fun vs acs cs H => H.fresh S vs
  | .ilst xs, l, acs, cs, H => (aXs_ok xs l acs cs H).bind fun vs acs cs H => .ok H rfl
  | .dct ks xs, l, acs, cs, H => (aXs_ok xs l acs cs H).bind fun vs acs cs H => .opt H fun r h => by
    obtain ⟨us, h1, h2⟩ := Option.bind_eq_some_iff.mp h
    obtain ⟨v, h3, rfl⟩ := Option.map_eq_some_iff.mp h2
    rw [kns_ok ρ _ _ h1]; exact h3
  | .cmp op a b, l, acs, cs, H => (aX_ok a l acs cs H).bind fun x acs cs H => (aX_ok b l acs cs H).bind fun y acs cs H => .opt H fun r h => by
    obtain ⟨v, h1, rfl⟩ := Option.map_eq_some_iff.mp h
    rw [aCmp_ok H h1]; rfl
  | .call f xs, l, acs, cs, H => (aXs_ok xs l acs cs H).bind fun vs acs cs H => S f vs acs cs H
  | .meth o m xs, l, acs, cs, H => (aX_ok o l acs cs H).bind fun x acs cs H => .onObj fun c => Okr.if_ (fun hc => by
      obtain ⟨y, hc⟩ := Option.isSome_iff_exists.1 hc
      exact congrArg Option.isSome (aInst_ok H hc).1) fun _ => (aXs_ok xs l acs cs H).bind fun vs acs cs H => S m (.obj c :: vs) acs cs H
  | .len a, l, acs, cs, H => (aX_ok a l acs cs H).bind fun x acs cs H => .opt H fun r h => aLen_ok H h
  | .min a b, l, acs, cs, H => (aX_ok a l acs cs H).bind fun x acs cs H => (aX_ok b l acs cs H).bind fun y acs cs H => fun r t h => by
    obtain ⟨r', h, e⟩ := Option.map_eq_some_iff.mp h
    obtain ⟨i, j, h1, h2, h3⟩ := aMin_ok (ρ := ρ) h
    cases e
    rw [h1, h2, h3]
    exact ⟨cs, rfl, H⟩
  | .max a b, l, acs, cs, H => Okr.none
  | .lstof a, l, acs, cs, H => (aX_ok a l acs cs H).bind fun x acs cs H => fun r t e => by
    obtain ⟨c, rfl, e⟩ := AV.onLst_is e
    exact room_ok S H (fun xs _ => H.fresh S xs) r t e
  | .tupof a, l, acs, cs, H => (aX_ok a l acs cs H).bind fun x acs cs H => .onLst fun c => room_ok S H fun xs _ => .ok H rfl
  | .strof a, l, acs, cs, H => (aX_ok a l acs cs H).bind fun x acs cs H => kA_ok S H
  | .intof a, l, acs, cs, H => Okr.none
  | .words a, l, acs, cs, H => (aX_ok a l acs cs H).bind fun x acs cs H => by
    have h := S initIx [.obj acs.length, x] _ _ (H.push (x := .inst none none none) (c := .inst none none none) rfl)
    have e : γs ρ [.obj acs.length, x] = [.obj cs.length, γ ρ x] := congrArg (fun n => [CV.obj n, γ ρ x]) H.new
    rw [e] at h
    refine h.bind fun r acs' cs' H' => fun a t e => ?_
    by_cases k : isNone r = true
    · rw [if_pos k] at e
      rw [isNone_is k]
      exact Okr.ok (f := γ ρ) H' (congrArg CV.obj H.new.symm) a t e
    · rw [if_neg k] at e; exact absurd e none_some
  | .app o a, l, acs, cs, H => (aX_ok o l acs cs H).bind fun x acs cs H => .onLst fun c => Okr.if_ (fun hc => by
      obtain ⟨ys, hc⟩ := Option.isSome_iff_exists.1 hc
      rw [(aList_ok H hc).1]; rfl) fun _ => (aX_ok a l acs cs H).bind fun y acs cs H => room_ok S H fun xs hx =>
        .ok (H.set (x := .list (xs ++ [y])) (c := .list (γs ρ xs ++ [γ ρ y])) (aList_ok H hx).2.1 (congrArg Cell.list (by rw [γs_map, γs_map, List.map_append]; rfl))) rfl
  | .get d k z, l, acs, cs, H => (aX_ok d l acs cs H).bind fun x acs cs H => fun r t e => by
    obtain ⟨v, rfl, e⟩ := AV.onC_is e
    cases v with
    | dct es =>
      refine Okr.bind (aX_ok k l acs cs H) (fun y acs cs H => (aX_ok z l acs cs H).bind fun z acs cs H => fun r t e => ?_) r t e
      obtain ⟨v, rfl, e⟩ := AV.onC_is e
      obtain ⟨s, rfl, e⟩ := CV.onStr_is (x := v) none_some e
      exact Okr.ok (f := γ ρ) H (found_ok S es s z) r t e
    | _ => exact absurd e none_some
  | .find o a, l, acs, cs, H => (aX_ok o l acs cs H).bind fun x acs cs H => fun r t e => by
    obtain ⟨v, rfl, e⟩ := AV.onC_is e
    obtain ⟨s, rfl, e⟩ := CV.onStr_is (x := v) none_some e
    exact Okr.bind (aX_ok a l acs cs H) (fun x acs cs H => kA_ok S H) r t e
  | .lower a, l, acs, cs, H => (aX_ok a l acs cs H).bind fun x acs cs H => kA_ok S H
  | .attr o n, l, acs, cs, H => (aX_ok o l acs cs H).bind fun x acs cs H => .opt H fun r h => aAttr_ok H h
  | .sub o i, l, acs, cs, H => (aX_ok o l acs cs H).bind fun x acs cs H => (aX_ok i l acs cs H).bind fun y acs cs H => .opt H fun r h => aSub_ok H h
  | .slc o lo hi, l, acs, cs, H => (aX_ok o l acs cs H).bind fun x acs cs H => (aO_ok lo l acs cs H).bind fun y acs cs H => (aO_ok hi l acs cs H).bind fun z acs cs H => .opt H fun r h => aSlc_ok h
  | .nocomp a b, l, acs, cs, H => Okr.none
theorem aXs_ok : ∀ (e : List X) (l : ALoc) (acs cs), Csr ρ acs cs → Okr (Csr ρ) (γs ρ) (aXs G C e l acs) (evXs G C' e (γl ρ l) cs)
  | [], l, acs, cs, H => .ok H rfl
  | x :: r, l, acs, cs, H => (aX_ok x l acs cs H).bind fun v acs cs H => (aXs_ok r l acs cs H).bind fun vs acs cs H => .ok H rfl
theorem aB_ok (b : Bool) : ∀ (e : List X) (l : ALoc) (acs cs), Csr ρ acs cs → Okr (Csr ρ) (γ ρ) (aB G C b e l acs) (evB G C' b e (γl ρ l) cs)
  | [], l, acs, cs, H => Okr.none
  | [x], l, acs, cs, H => aX_ok x l acs cs H
  | x :: y :: r, l, acs, cs, H => (aX_ok x l acs cs H).bind fun v acs cs H => .onB fun t => by
    by_cases k : t = b
    · rw [if_pos k, if_pos k]; exact aB_ok b (y :: r) l acs cs H
    · rw [if_neg k, if_neg k]; exact .ok H rfl
theorem aO_ok : ∀ (e : Option X) (l : ALoc) (acs cs), Csr ρ acs cs → Okr (Csr ρ) (Option.map (γ ρ)) (aO G C e l acs) (evO G C' e (γl ρ l) cs)
  | none, l, acs, cs, H => .ok H rfl
  | some x, l, acs, cs, H => (aX_ok x l acs cs H).bind fun v acs cs H => .ok H rfl
end
end
end Mine.L
end

section
namespace Mine.L
open PySem

inductive AFl where
  | next
  | brk
  | ret (v : AV)
noncomputable def γf (ρ : Env) : AFl → Fl
  | .next => .next
  | .brk => .brk
  | .ret v => .ret (γ ρ v)

noncomputable abbrev ASt := ALoc × List ACell
noncomputable def Str (ρ : Env) (t : ASt) (s : St) : Prop := s.1 = γl ρ t.1 ∧ Csr ρ t.2 s.2

noncomputable def aEv (G : List CV) (C : AOrc) (e : X) (t : ASt) : Option (AV × ASt) := (aX G C e t.1 t.2).map fun p => (p.1, (t.1, p.2))

noncomputable def aPutAll : List Nat → List AV → ALoc → Option ALoc
  | [], vs, l => ofIf (vs.isEmpty = true) l
  | i :: is, vs, l => match vs with
    | [] => none
    | v :: vs => aPutAll is vs (l.set i (some v))

noncomputable def aturns (test : ASt → Option (AV × ASt)) (body : ASt → Option (AFl × ASt)) : Nat → ASt → Option (AFl × ASt)
  | 0, _ => none
  | n + 1, s => abind (test s) fun t s => t.onB fun t => match t with
    | true => abind (body s) fun f s => match f with
      | .next => aturns test body n s
      | .brk => some (.next, s)
      | .ret v => some (.ret v, s)
    | false => some (.next, s)
noncomputable def aeach (i : Nat) (body : ASt → Option (AFl × ASt)) : List AV → ASt → Option (AFl × ASt)
  | [], s => some (.next, s)
  | x :: r, s => abind (body (s.1.set i (some x), s.2)) fun f s => match f with
    | .next => aeach i body r s
    | .brk => some (.next, s)
    | .ret v => some (.ret v, s)

/-- the items of a tuple or a row of data -/
noncomputable def cItems (v : CV) : Option (List AV) := match v with
  | .tup vs => some (vs.map .c)
  | .ils vs => some (vs.map .c)
  | _ => none
noncomputable def items (a : AV) : Option (List AV) := match a with
  | .tup xs => some xs
  | .ils xs => some xs
  | .c v => cItems v
  | _ => none
/-- the parts of a tuple -/
noncomputable def tupOf (a : AV) : Option (List AV) := match a with
  | .tup xs => some xs
  | .c v => v.onTup none fun vs => some (vs.map .c)
  | _ => none
noncomputable def aupto (n : Nat) : List AV := (List.range n).map fun (k : Nat) => AV.c (.int (k : Int))

mutual
noncomputable def aS (G : List CV) (C : AOrc) : S → ASt → Option (AFl × ASt)
  | .asg i e, s => abind (aEv G C e s) fun v s => some (.next, (s.1.set i (some v), s.2))
  | .asgs is e, s => abind (aEv G C e s) fun v s => (tupOf v).bind fun vs => (aPutAll is vs s.1).bind fun l => some (.next, (l, s.2))
  | .seta o n e, s => abind (aEv G C e s) fun v s => abind (aEv G C o s) fun w s => (aSetA s.2 w n v).bind fun cs => some (.next, (s.1, cs))
  | .seti o i e, s => abind (aEv G C e s) fun v s => abind (aEv G C o s) fun w s => abind (aEv G C i s) fun j s => w.onLst fun c => j.onI fun j => (aList s.2 c).bind fun xs =>
      if 0 ≤ j ∧ j < 100000 ∧ j.toNat < xs.length then some (.next, (s.1, s.2.set c (.list (xs.set j.toNat v)))) else none
  | .aug i op e, s => (s.1[i]?.join).bind fun a => abind (aEv G C e s) fun b s => (aAug op a b).bind fun v => some (.next, (s.1.set i (some v), s.2))
  | .auga o n op e, s => abind (aEv G C o s) fun w s => (aAttr s.2 w n).bind fun a => abind (aEv G C e s) fun b s => (aAug op a b).bind fun v => (aSetA s.2 w n v).bind fun cs => some (.next, (s.1, cs))
  | .ife c a b, s => abind (aEv G C c s) fun t s => t.onB fun t => match t with
    | true => aSs G C a s
    | false => aSs G C b s
  | .whl c b, s => aturns (aEv G C c) (fun s => aSs G C b s) mostTurns s
  | .for_ i e b, s => abind (aEv G C e s) fun x s => (items x).bind fun xs => aeach i (fun s => aSs G C b s) xs s
  | .forr i e b, s => abind (aEv G C e s) fun x s => x.onI fun n => if 0 ≤ n ∧ n ≤ 1000 then aeach i (fun s => aSs G C b s) (aupto n.toNat) s else none
  | .ret e, s => abind (aEv G C e s) fun v s => some (.ret v, s)
  | .ex e, s => abind (aEv G C e s) fun _ s => some (.next, s)
  | .try_ b _, s => aSs G C b s
  | .brk, s => some (.brk, s)
  | _, _ => none
noncomputable def aSs (G : List CV) (C : AOrc) : List S → ASt → Option (AFl × ASt)
  | [], s => some (.next, s)
  | x :: r, s => abind (aS G C x s) fun f s => match f with
    | .next => aSs G C r s
    | .brk => some (.brk, s)
    | .ret v => some (.ret v, s)
end

theorem aPutAll_ok (ρ : Env) : ∀ (is : List Nat) (vs : List AV) (l l' : ALoc), aPutAll is vs l = some l' → putAll is (γs ρ vs) (γl ρ l) = some (γl ρ l')
  | [], vs, l, l', h => by
    obtain ⟨h1, rfl⟩ := ofIf_is h
    rw [List.isEmpty_iff.mp h1]; rfl
  | i :: is, v :: vs, l, l', h => by
    have := aPutAll_ok ρ is vs _ l' h
    rw [← γl_set] at this; exact this
  | _ :: _, [], _, _, h => absurd h none_some

theorem γs_c (ρ : Env) (vs : List CV) : γs ρ (vs.map .c) = vs := by
  induction vs with
  | nil => rfl
  | cons x r ih => exact congrArg (x :: ·) ih

section
variable {ρ : Env} {G : List CV} {C : AOrc} {C' : Orc} (S : SimO ρ C C')
include S

theorem aEv_ok (e : X) {t s} (H : Str ρ t s) : Okr (Str ρ) (γ ρ) (aEv G C e t) (evS G C' e s) := fun a t' h => by
  obtain ⟨⟨a', acs⟩, h1, e1⟩ := Option.map_eq_some_iff.mp h
  cases e1
  obtain ⟨cs, h2, h3⟩ := aX_ok S e t.1 t.2 s.2 H.2 _ _ h1
  refine ⟨(s.1, cs), ?_, ⟨H.1, h3⟩⟩
  show (evX G C' e s.1 s.2).up _ = _
  rw [H.1, h2]; rfl
end

theorem aturns_ok {ρ : Env} {test : ASt → Option (AV × ASt)} {body : ASt → Option (AFl × ASt)} {test' : St → Res St CV} {body' : St → Res St Fl}
    (ht : ∀ t s, Str ρ t s → Okr (Str ρ) (γ ρ) (test t) (test' s)) (hb : ∀ t s, Str ρ t s → Okr (Str ρ) (γf ρ) (body t) (body' s)) :
    ∀ n t s, Str ρ t s → Okr (Str ρ) (γf ρ) (aturns test body n t) (turns test' body' n s)
  | 0, _, _, _ => Okr.none
  | n + 1, t, s, H => (ht t s H).bind fun v t s H => .onB fun q => match q with
    | true => (hb t s H).bind fun f t s H => match f with
      | .next => aturns_ok ht hb n t s H
      | .brk => .ok H rfl
      | .ret _ => .ok H rfl
    | false => .ok H rfl

theorem aeach_ok {ρ : Env} {i : Nat} {body : ASt → Option (AFl × ASt)} {body' : St → Res St Fl}
    (hb : ∀ t s, Str ρ t s → Okr (Str ρ) (γf ρ) (body t) (body' s)) :
    ∀ xs t s, Str ρ t s → Okr (Str ρ) (γf ρ) (aeach i body xs t) (each i body' (γs ρ xs) s)
  | [], _, _, H => .ok H rfl
  | x :: r, t, s, H => Okr.bind (hb (t.1.set i (some x), t.2) (s.1.set i (some (γ ρ x)), s.2) ⟨by rw [H.1]; exact γl_set .., H.2⟩) fun f t s H => match f with
    | .next => aeach_ok hb r t s H
    | .brk => .ok H rfl
    | .ret _ => .ok H rfl

theorem cItems_ok (ρ : Env) {v : CV} {xs} (h : cItems v = some xs) : v = .tup (γs ρ xs) ∨ v = .ils (γs ρ xs) := by
  cases v with
  | tup vs => obtain rfl := Option.some.inj h; exact .inl (congrArg CV.tup (γs_c ρ vs).symm)
  | ils vs => obtain rfl := Option.some.inj h; exact .inr (congrArg CV.ils (γs_c ρ vs).symm)
  | _ => exact absurd h none_some
theorem items_ok (ρ : Env) {x : AV} {xs} (h : items x = some xs) : γ ρ x = .tup (γs ρ xs) ∨ γ ρ x = .ils (γs ρ xs) := by
  cases x with
  | tup vs => obtain rfl := Option.some.inj h; exact .inl rfl
  | ils vs => obtain rfl := Option.some.inj h; exact .inr rfl
  | c v => exact cItems_ok ρ h
  | _ => exact absurd h none_some
theorem tupOf_ok (ρ : Env) {x : AV} {xs} (h : tupOf x = some xs) : γ ρ x = .tup (γs ρ xs) := by
  cases x with
  | tup vs => obtain rfl := Option.some.inj h; rfl
  | c v =>
    obtain ⟨vs, rfl, h1⟩ := CV.onTup_is (x := v) none_some h
    obtain rfl := Option.some.inj h1
    exact congrArg CV.tup (γs_c ρ vs).symm
  | _ => exact absurd h none_some

/-- the value of an option on both sides -/
theorem Okr.g {α α' β β' τ σ : Type} {Q : τ → σ → Prop} {f : α → β} {o : Option α'} {o' : Option β'} {h : α' → β'} {k : α' → Option (α × τ)} {k' : β' → Res σ β} (ho : ∀ a, o = some a → o' = some (h a)) (hk : ∀ a, o = some a → Okr Q f (k a) (k' (h a))) : Okr Q f (o.bind k) (Mine.got o' k') := by
  intro a t e
  obtain ⟨x, hx, e⟩ := Option.bind_eq_some_iff.mp e
  rw [ho x hx]
  exact hk x hx a t e

section
variable {ρ : Env} {G : List CV} {C : AOrc} {C' : Orc} (S : SimO ρ C C')
include S
theorem seta_ok {t s} (H : Str ρ t s) {w v : AV} {n : Nat} : Okr (Str ρ) (γf ρ) ((aSetA t.2 w n v).bind fun cs => some (AFl.next, (t.1, cs))) (got (setAOp s.2 (γ ρ w) n (γ ρ v)) fun cs => .ok .next (s.1, cs)) := fun a t' e => by
  obtain ⟨acs, hx, e⟩ := Option.bind_eq_some_iff.mp e
  obtain ⟨cs, h1, h2⟩ := aSetA_ok H.2 hx
  rw [h1]
  exact Okr.ok (f := γf ρ) (Q := Str ρ) (t := (t.1, acs)) (s := (s.1, cs)) ⟨H.1, h2⟩ rfl a t' e
theorem aug_okr {t s} (H : Str ρ t s) {i : Nat} {op : Operator} {a b : AV} : Okr (Str ρ) (γf ρ) ((aAug op a b).bind fun v => some (AFl.next, (t.1.set i (some v), t.2))) (got (augOp op (γ ρ a) (γ ρ b)) fun v => .ok .next (s.1.set i (some v), s.2)) :=
  .g (fun _ => aAug_ok ρ) fun v _ => .ok ⟨by rw [H.1]; exact γl_set .., H.2⟩ rfl
theorem upto_ok (ρ : Env) (n : Nat) : γs ρ (aupto n) = upto n := by rw [γs_map]; exact List.map_map
mutual
theorem aS_ok : ∀ (e : Mine.S) (t s), Str ρ t s → Okr (Str ρ) (γf ρ) (aS G C e t) (exS G C' e s)
  | .bad, _, _, _ => Okr.none
  | .asg i e, t, s, H => (aEv_ok S e H).bind fun v t s H => .ok ⟨by rw [H.1]; exact γl_set .., H.2⟩ rfl
  | .asgr i f j, _, _, _ => Okr.none
  | .asgs is e, t, s, H => (aEv_ok S e H).bind fun v t s H => fun r u h => by
    obtain ⟨vs, hv, h⟩ := Option.bind_eq_some_iff.mp h
    rw [tupOf_ok ρ hv]
    exact Okr.g (f := γf ρ) (Q := Str ρ) (o' := putAll is (γs ρ vs) s.1) (k' := fun l => Res.ok Fl.next (l, s.2)) (h := γl ρ) (fun l hl => by rw [H.1]; exact aPutAll_ok ρ _ _ _ _ hl) (k := fun l => some (AFl.next, (l, t.2))) (fun l _ => .ok ⟨rfl, H.2⟩ rfl) r u h
  | .seta o n e, t, s, H => (aEv_ok S e H).bind fun v t s H => (aEv_ok S o H).bind fun w t s H => seta_ok S H
  | .seti o i e, t, s, H => (aEv_ok S e H).bind fun v t s H => (aEv_ok S o H).bind fun w t s H => (aEv_ok S i H).bind fun j t s H => .onLst fun c => .onI fun j =>
      .g (fun xs hx => (aList_ok H.2 hx).1) fun xs hx => .if_ (fun h => by rw [γs_length]; exact h) fun _ =>
        .ok ⟨H.1, H.2.set (x := .list (xs.set j.toNat v)) (c := .list ((γs ρ xs).set j.toNat (γ ρ v))) (aList_ok H.2 hx).2.1 (congrArg Cell.list (by rw [γs_map, γs_map, List.map_set]))⟩ rfl
  | .aug i op e, t, s, H => .g (fun a h => by rw [H.1, γl_get, h]; rfl) fun a _ => (aEv_ok S e H).bind fun b t s H => aug_okr S H
  | .auga o n op e, t, s, H => (aEv_ok S o H).bind fun w t s H => .g (fun a h => aAttr_ok H.2 h) fun a _ => (aEv_ok S e H).bind fun b t s H => .g (fun _ => aAug_ok ρ) fun v _ => seta_ok S H
  | .ife c a b, t, s, H => (aEv_ok S c H).bind fun w t s H => .onB fun q => match q with
    | true => aSs_ok a t s H
    | false => aSs_ok b t s H
  | .whl c b, t, s, H => aturns_ok (fun _ _ H => aEv_ok S c H) (fun t s H => aSs_ok b t s H) _ t s H
  | .for_ i e b, t, s, H => (aEv_ok S e H).bind fun w t s H => fun r u h => by
    obtain ⟨xs, hx, h⟩ := Option.bind_eq_some_iff.mp h
    have k := aeach_ok (fun t s H => aSs_ok b t s H) (i := i) xs t s H r u h
    rcases items_ok ρ hx with e | e
    · rw [e]; exact k
    · rw [e]; exact k
  | .forr i e b, t, s, H => (aEv_ok S e H).bind fun w t s H => .onI fun n => .if_ id fun _ => by
    rw [← upto_ok S ρ]
    exact aeach_ok (fun t s H => aSs_ok b t s H) _ t s H
  | .ret e, t, s, H => (aEv_ok S e H).bind fun w t s H => .ok H rfl
  | .ex e, t, s, H => (aEv_ok S e H).bind fun w t s H => .ok H rfl
  | .rse m p, _, _, _ => Okr.none
  | .try_ b h, t, s, H => fun a t' e => by
    obtain ⟨s', h1, h2⟩ := aSs_ok b t s H a t' e
    refine ⟨s', ?_, h2⟩
    show (match exSs G C' b s with | .ok f s => Res.ok f s | .ex m p s => got (evH m p h) fun v => Res.ok (Fl.ret v) s | .no => Res.no) = _
    rw [h1]
  | .brk, _, _, H => .ok H rfl
theorem aSs_ok : ∀ (e : List Mine.S) (t s), Str ρ t s → Okr (Str ρ) (γf ρ) (aSs G C e t) (exSs G C' e s)
  | [], _, _, H => .ok H rfl
  | x :: r, t, s, H => (aS_ok x t s H).bind fun f t s H => match f with
    | .next => aSs_ok r t s H
    | .brk => .ok H rfl
    | .ret _ => .ok H rfl
end
end

noncomputable def aBindLoc (f : Fn) (vs : List AV) : Option ALoc :=
  ofIf (vs.length ≤ f.np ∧ f.np ≤ vs.length + f.dflt.length) (((vs ++ (f.dflt.drop (f.dflt.length + vs.length - f.np)).map AV.c).map some) ++ List.replicate (f.nv - f.np) none)
theorem aBindLoc_ok (ρ : Env) {f : Fn} {vs : List AV} {l} (h : aBindLoc f vs = some l) : bindLoc f (γs ρ vs) = some (γl ρ l) := by
  obtain ⟨h1, rfl⟩ := ofIf_is h
  unfold bindLoc
  rw [γs_length]
  refine (ofIf_pos h1).trans (congrArg some ?_)
  generalize f.dflt.drop (f.dflt.length + vs.length - f.np) = D
  have key : ∀ zs : List AV, (zs.map some).map (Option.map (γ ρ)) = (γs ρ zs).map some := fun zs => by rw [γs_map, List.map_map, List.map_map]; rfl
  have ka : γs ρ (vs ++ D.map .c) = γs ρ vs ++ D := by rw [γs_map, List.map_append, ← γs_map, ← γs_map, γs_c]
  show List.map some (γs ρ vs ++ D) ++ List.replicate (f.nv - f.np) none = List.map (Option.map (γ ρ)) (List.map some (vs ++ D.map .c) ++ List.replicate (f.nv - f.np) none)
  rw [List.map_append (f := Option.map (γ ρ)), key, ka, List.map_replicate]; rfl

/-- what is left of the jar behind a draw of t things -/
noncomputable def aDraw (c : ACell) (t : Int) : Option (Nat × List (Nat × Nat)) := match c with
  | .jar ch => (match ch with
    | [] => none
    | d :: r => ofIf (t = (d.1 : Int)) (d.2, r))
  | _ => none
theorem aDraw_is {c : ACell} {t : Int} {x} (h : aDraw c t = some x) : ∃ t' : Nat, t = (t' : Int) ∧ c = .jar ((t', x.1) :: x.2) := by
  cases c with
  | jar ch => cases ch with
    | nil => exact absurd h none_some
    | cons d r =>
      obtain ⟨h1, rfl⟩ := ofIf_is h
      exact ⟨d.1, h1, rfl⟩
  | _ => exact absurd h none_some
noncomputable def two {α β : Type} (l : List α) (f : α → α → Option β) : Option β := match l with
  | [] => none
  | a :: r => match r with
    | [] => none
    | b :: r => match r with
      | [] => f a b
      | _ :: _ => none
theorem two_is {α β : Type} {l : List α} {f : α → α → Option β} {r : β} (h : two l f = some r) : ∃ a b, l = [a, b] ∧ f a b = some r := by
  match l, h with
  | [a, b], h => exact ⟨a, b, rfl, h⟩
  | [], h => exact absurd h none_some
  | [_], h => exact absurd h none_some
  | _ :: _ :: _ :: _, h => exact absurd h none_some
noncomputable def aDip (vs : List AV) (cs : List ACell) : Option (AV × List ACell) := two vs fun a b => a.onLst fun i => b.onI fun t => (cs[i]?.bind fun c => aDraw c t).bind fun x => some (.c (.int x.1), cs.set i (.jar x.2))
/-- what a body's end answers -/
noncomputable def aended (x : Option (AFl × ASt)) : Option (AV × List ACell) := x.bind fun p => match p.1 with
  | .ret v => some (v, p.2.2)
  | .next => some (.c .none, p.2.2)
  | .brk => none
/-- the call of a def; j: the def that draws -/
noncomputable def callA (P : List Fn) (G : List CV) (j : Nat) : Nat → AOrc
  | 0 => fun _ _ _ => none
  | b + 1 => fun f vs cs => if f = j then aDip vs cs else P[f]?.bind fun d => (aBindLoc d vs).bind fun l => aended (aSs G (callA P G j b) d.body (l, cs))

/-- what drawing does -/
noncomputable def DipOK (P : List Fn) (G : List CV) (j : Nat) : Prop := ∀ b cs c a e (t : Nat), 0 < t → t < 1000 → JOK (a, e) → listAt cs c = some [.int a, .int e] →
  callB P G (b + 1) j [.lst c, .int t] cs = .ok (.int (dipF t (a, e)).1) (cs.set c (.list [.int (dipF t (a, e)).2.1, .int (dipF t (a, e)).2.2]))

theorem aDip_ok {ρ : Env} {P G j} (hj : DipOK P G j) {b : Nat} {vs acs cs} (H : Csr ρ acs cs) : Okr (Csr ρ) (γ ρ) (aDip vs acs) (callB P G (b + 1) j (γs ρ vs) cs) := fun r u e => by
  obtain ⟨a, z, rfl, e1⟩ := two_is e
  obtain ⟨i, rfl, e2⟩ := AV.onLst_is e1
  obtain ⟨t, rfl, e3⟩ := AV.onI_is e2
  obtain ⟨x, hx, e4⟩ := Option.bind_eq_some_iff.mp e3
  obtain ⟨c, hi, hx2⟩ := Option.bind_eq_some_iff.mp hx
  obtain ⟨t', ht, rfl⟩ := aDraw_is hx2
  obtain ⟨c, hc, a, e', hc', hk, h1, h2, h3, h4⟩ := H.at_ i _ hi
  have := hj b cs (ρ.μ i) a e' t' h1 h2 hk (listAt_of (hc.trans (congrArg some hc')))
  rw [h3, ← ht] at this
  obtain ⟨rfl, rfl⟩ := Prod.mk.inj (Option.some.inj e4)
  exact ⟨_, this, H.set (get_lt hi) ⟨_, _, rfl, by rw [ht]; exact h4⟩⟩
theorem aended_ok {ρ : Env} {r u} {x : Option (AFl × ASt)} {y : Res St Fl} (h : Okr (Str ρ) (γf ρ) x y) (e : aended x = some (r, u)) : ∃ s, ended y = .ok (γ ρ r) s ∧ Csr ρ u s := by
  obtain ⟨⟨f, t⟩, hs, e1⟩ := Option.bind_eq_some_iff.mp e
  obtain ⟨s2, h1, h2⟩ := h _ _ hs
  rw [h1]
  cases f with
  | ret v => obtain ⟨rfl, rfl⟩ := Prod.mk.inj (Option.some.inj e1); exact ⟨_, rfl, h2.2⟩
  | next => obtain ⟨rfl, rfl⟩ := Prod.mk.inj (Option.some.inj e1); exact ⟨_, rfl, h2.2⟩
  | brk => exact absurd e1 none_some
theorem callA_ok (ρ : Env) {P G j} (hj : DipOK P G j) : ∀ b b', b ≤ b' → SimO ρ (callA P G j b) (callB P G b')
  | 0, _, _ => fun _ _ _ _ _ => .none
  | b + 1, b' + 1, hb => fun f vs acs cs H => by
    have ih := callA_ok ρ hj b b' (Nat.le_of_succ_le_succ hb)
    show Okr _ _ (if f = j then aDip vs acs else P[f]?.bind fun d => (aBindLoc d vs).bind fun l => aended (aSs G (callA P G j b) d.body (l, acs))) _
    by_cases hf : f = j
    · rw [if_pos hf, hf]; exact aDip_ok hj H
    · rw [if_neg hf]
      exact .g (h := id) (fun _ h => h) fun d _ => .g (fun l => aBindLoc_ok ρ) fun l _ => fun r u => aended_ok (aSs_ok (G := G) ih d.body (l, acs) (γl ρ l, cs) ⟨rfl, H⟩)
  | b + 1, 0, h => absurd h (Nat.not_succ_le_zero b)
end Mine.L
end

section
namespace Mine.L
open PySem

structure Tok where
  lead : List Nat
  s : List Nat
  kind : List Nat
  val : CV
  suf : CV

noncomputable def kSign : List Nat := [115, 105, 103, 110]
noncomputable def kName : List Nat := [110, 97, 109, 101]
noncomputable def kInt : List Nat := [105, 110, 116]
noncomputable def sg (s : List Nat) : Tok := ⟨[], s, kSign, .none, .none⟩
noncomputable def nm (s : List Nat) : Tok := ⟨[], s, kName, .none, .none⟩
noncomputable def num (s : List Nat) (v : Int) (k : CV) : Tok := ⟨[], s, kInt, .int v, k⟩
noncomputable def Tok.sp (t : Tok) : Tok := { t with lead := [32] }

noncomputable def row (p : Nat) (t : Tok) : CV := .tup [.str t.kind, .str t.s, .int (p : Int), t.val, t.suf]
noncomputable def arow (k : Nat) (t : Tok) : AV := .tup [.c (.str t.kind), .c (.str t.s), .pos k, .c t.val, .c t.suf]
noncomputable def txtOf : List Tok → List Nat
  | [] => []
  | t :: r => t.lead ++ (t.s ++ txtOf r)
noncomputable def rowsAt (p : Nat) : List Tok → List CV
  | [] => []
  | t :: r => row (p + t.lead.length) t :: rowsAt (p + t.lead.length + t.s.length) r
noncomputable def arowsAt (p : Nat) : List Tok → List AV
  | [] => []
  | t :: r => arow (p + t.lead.length) t :: arowsAt (p + t.lead.length + t.s.length) r

noncomputable def sOf (s : String) : List Nat := s.toList.map Char.toNat
noncomputable def tInt (k : AV) (v : Int) (s : CV) : AV := .tup [.c (.str kInt), k, .c (.int v), .c s]
noncomputable def tPath (k : AV) (s : List Nat) : AV := .tup [.c (.str [112, 97, 116, 104]), k, .tup [.tup [.c (.str s), .tup [], .tup []]]]
noncomputable def tTrue (k : AV) : AV := .tup [.c (.str [98, 111, 111, 108]), k, .c (.bool true)]
noncomputable def tBin (k : Nat) : AV := .tup [.c (.str [98, 105, 110, 97, 114, 121]), .pos k, .c (.str [43]), tPath (.pos k) [121], tInt (.pos (k + 4)) 1 .none]

/-- the five values: words and tree -/
noncomputable def exToks : Nat → List Tok
  | 0 => [num [55] 7 .none]
  | 1 => [nm [121]]
  | 2 => [nm [116, 114, 117, 101]]
  | 3 => [num [51, 117, 56] 3 (.str [117, 56])]
  | _ => [nm [121], (sg [43]).sp, (num [49] 1 .none).sp]
noncomputable def exTree (k : Nat) : Nat → AV
  | 0 => tInt (.pos k) 7 .none
  | 1 => tPath (.pos k) [121]
  | 2 => tTrue (.pos k)
  | 3 => tInt (.pos k) 3 (.str [117, 56])
  | _ => tBin k
/-- the three types -/
noncomputable def tyToks : Nat → List Tok
  | 0 => [nm [117, 56]]
  | 1 => [sg [33]]
  | _ => [nm [95]]
noncomputable def tyTree (k : Nat) : Nat → AV
  | 0 => tPath (.pos k) [117, 56]
  | 1 => .tup [.c (.str [110, 101, 118, 101, 114]), .pos k]
  | _ => .tup [.c (.str [105, 110, 102, 101, 114]), .pos k]

noncomputable def lead1 : List Tok → List Tok
  | [] => []
  | t :: r => t.sp :: r
/-- parts behind one another, a comma and a blank between them -/
noncomputable def parts (f : Nat → List Tok) : Bool → List Nat → List Tok
  | _, [] => []
  | first, e :: r => (if first then f e else sg [44] :: lead1 (f e)) ++ parts f false r
noncomputable def partTrees (f : Nat → List Tok) (g : Nat → Nat → AV) : Nat → List Nat → List AV
  | _, [] => []
  | k, e :: r => g k e :: partTrees f g (k + (txtOf (f e)).length + 2) r

/-- what is drawn for a bracket: parts, and whether a comma stands behind -/
noncomputable abbrev Var := List Nat × Bool
noncomputable def pairsOf (n : Nat) : List (List Nat) := [[]] ++ (List.range n).map (fun a => [a]) ++ (List.range n).flatMap fun a => (List.range n).map fun b => [a, b]
noncomputable def variants (n : Nat) : List Var := (pairsOf n).flatMap fun es => if es = [] then [(es, false)] else [(es, false), (es, true)]
noncomputable def brToks (f : Nat → List Tok) (o e : Nat) (v : Var) : List Tok := sg [o] :: (parts f true v.1 ++ (if v.2 then [sg [44]] else []) ++ [sg [e]])
noncomputable def vTrees (v : Var) : List AV := partTrees exToks exTree 1 v.1
noncomputable def yTrees (v : Var) : List AV := partTrees tyToks tyTree 1 v.1
/-- the draws for it -/
noncomputable def drawsOf (n : Nat) (v : Var) : List (Nat × Nat) := (3, v.1.length) :: (v.1.map (fun e => (n, e)) ++ (if v.1 = [] then [] else [(2, if v.2 then 0 else 1)]))

mutual
/-- a tree at the place p -/
noncomputable def δ (p : Nat) : AV → CV
  | .c v => v
  | .tup xs => .tup (δs p xs)
  | .pos k => .int ((p + k : Nat) : Int)
  | _ => .none
noncomputable def δs (p : Nat) : List AV → List CV
  | [] => []
  | x :: xs => δ p x :: δs p xs
end
mutual
/-- a, where the tree b is awaited -/
noncomputable def avEq : AV → AV → Option Unit
  | .c b, a => a.onC fun v => ofIf (CV.beq v b = true) ()
  | .tup b, a => (tupOf a).bind fun xs => avEqs b xs
  | .pos b, a => a.onPos fun k => ofIf (k = b) ()
  | _, _ => none
noncomputable def avEqs : List AV → List AV → Option Unit
  | [], y => ofIf (y.isEmpty = true) ()
  | b :: bs, y => match y with
    | [] => none
    | a :: as => (avEq b a).bind fun _ => avEqs bs as
end
mutual
theorem avEq_ok (ρ : Env) : ∀ (b a : AV) (u : Unit), avEq b a = some u → γ ρ a = δ ρ.pre.length b
  | .c b, a, _, h => by
    obtain ⟨v, rfl, h1⟩ := AV.onC_is h
    exact CV.beq_is _ _ (ofIf_is h1).1
  | .tup b, a, _, h => by
    obtain ⟨xs, hx, h1⟩ := Option.bind_eq_some_iff.mp h
    exact (tupOf_ok ρ hx).trans (congrArg CV.tup (avEqs_ok ρ b xs _ h1))
  | .pos b, a, _, h => by
    obtain ⟨k, rfl, h1⟩ := AV.onPos_is h
    rw [(ofIf_is h1).1]; rfl
  | .lst _, _, _, h | .obj _, _, _, h | .ils _, _, _, h | .txt _, _, _, h | .txe _, _, _, h | .tln _, _, _, h | .pst _ _, _, _, h
  | .idx _, _, _, h | .rln _, _, _, h | .rlm _, _, _, h | .atm _, _, _, h => (none_some h).elim
theorem avEqs_ok (ρ : Env) : ∀ (b a : List AV) (u : Unit), avEqs b a = some u → γs ρ a = δs ρ.pre.length b
  | [], a, _, h => by rw [List.isEmpty_iff.mp (ofIf_is h).1]; rfl
  | _ :: _, [], _, h => (none_some h).elim
  | b :: bs, a :: as, _, h => by
    obtain ⟨_, h1, h2⟩ := Option.bind_eq_some_iff.mp h
    show γ ρ a :: γs ρ as = δ ρ.pre.length b :: δs ρ.pre.length bs
    rw [avEq_ok ρ b a _ h1, avEqs_ok ρ bs as _ h2]
end
theorem γs_arows (ρ : Env) : ∀ (ts : List Tok) (k : Nat), γs ρ (arowsAt k ts) = rowsAt (ρ.pre.length + k) ts
  | [], _ => rfl
  | t :: r, k => by
    show γ ρ (arow (k + t.lead.length) t) :: γs ρ (arowsAt (k + t.lead.length + t.s.length) r) = row (ρ.pre.length + k + t.lead.length) t :: rowsAt (ρ.pre.length + k + t.lead.length + t.s.length) r
    rw [γs_arows ρ r, Nat.add_assoc, Nat.add_assoc, Nat.add_assoc, ← Nat.add_assoc k]; rfl
theorem δs_arows (p : Nat) : ∀ (ts : List Tok) (k : Nat), δs p (arowsAt k ts) = rowsAt (p + k) ts
  | [], _ => rfl
  | t :: r, k => by
    show δ p (arow (k + t.lead.length) t) :: δs p (arowsAt (k + t.lead.length + t.s.length) r) = row (p + k + t.lead.length) t :: rowsAt (p + k + t.lead.length + t.s.length) r
    rw [δs_arows p r, Nat.add_assoc, Nat.add_assoc, Nat.add_assoc, ← Nat.add_assoc k]; rfl
end Mine.L
end

section
namespace Mine.L
open PySem
/- one step of a run at a time -/
section
variable {σ τ α β : Type}
theorem bd {x : Res σ α} {a : α} {s : σ} {k : α → σ → Res σ β} {r : Res σ β} (h : x = .ok a s) (e : k a s = r) : x.bind k = r := by rw [h]; exact e
theorem bs {e : X} {G : List CV} {C : Orc} {l : Loc} {cs cs1 : Cells} {v : CV} {k : CV → St → Res St β} {r : Res St β} (h : evX G C e l cs = .ok v cs1) (e' : k v (l, cs1) = r) : (evS G C e (l, cs)).bind k = r := by
  show ((evX G C e l cs).up _).bind k = r
  rw [h]; exact e'
theorem ot {o : Option α} {a : α} {s : σ} (h : o = some a) : Res.ofOpt o s = .ok a s := by rw [h]; rfl
theorem gt {o : Option α} {a : α} {k : α → Res σ β} {r : Res σ β} (h : o = some a) (e : k a = r) : got o k = r := by rw [h]; exact e
theorem rm {cs : Cells} {c : Nat} {xs : List CV} {k : List CV → Res Cells CV} {r : Res Cells CV} (h : listAt cs c = some xs) (hn : xs.length ≤ 100000) (e : k xs = r) : room cs c k = r := by
  unfold room; rw [h]; exact (if_pos hn).trans e
end
section
variable {G : List CV} {C : Orc} {l l1 : Loc} {cs cs1 cs2 cs3 : Cells} {v w z : CV} {vs : List CV} {s : St}
theorem e_v {i : Nat} (h : l[i]?.join = some v) : evX G C (.v i) l cs = .ok v cs := ot h
theorem e_g {i : Nat} (h : G[i]? = some v) : evX G C (.g i) l cs = .ok v cs := ot h
theorem e_k {c : CV} (h : atomK c = true) : evX G C (.k c) l cs = .ok c cs := if_pos h
theorem e_0 : evXs G C [] l cs = .ok [] cs := rfl
theorem e_1 {x : X} {r : List X} (h1 : evX G C x l cs = .ok v cs1) (h2 : evXs G C r l cs1 = .ok vs cs2) : evXs G C (x :: r) l cs = .ok (v :: vs) cs2 := bd h1 (bd h2 rfl)
theorem e_call {f : Nat} {xs : List X} (h1 : evXs G C xs l cs = .ok vs cs1) (h2 : C f vs cs1 = .ok v cs2) : evX G C (.call f xs) l cs = .ok v cs2 := bd h1 h2
theorem e_meth {o : X} {m c : Nat} {xs : List X} (h0 : evX G C o l cs = .ok (.obj c) cs1) (hi : isInst cs1 c = true) (h1 : evXs G C xs l cs1 = .ok vs cs2) (h2 : C m (.obj c :: vs) cs2 = .ok v cs3) :
    evX G C (.meth o m xs) l cs = .ok v cs3 := bd h0 ((if_pos hi).trans (bd h1 h2))
theorem e_bin {op : Operator} {a b : X} (h1 : evX G C a l cs = .ok v cs1) (h2 : evX G C b l cs1 = .ok w cs2) (h3 : binOp op v w = some z) : evX G C (.bin op a b) l cs = .ok z cs2 := bd h1 (bd h2 (ot h3))
theorem e_cmp {op : CmpOp} {a b : X} {t : Bool} (h1 : evX G C a l cs = .ok v cs1) (h2 : evX G C b l cs1 = .ok w cs2) (h3 : cmpOp cs2 op v w = some t) : evX G C (.cmp op a b) l cs = .ok (.bool t) cs2 := bd h1 (bd h2 (ot (congrArg (Option.map CV.bool) h3)))
theorem e_sub {a b : X} (h1 : evX G C a l cs = .ok v cs1) (h2 : evX G C b l cs1 = .ok w cs2) (h3 : subOp cs2 v w = some z) : evX G C (.sub a b) l cs = .ok z cs2 := bd h1 (bd h2 (ot h3))
theorem e_len {a : X} (h1 : evX G C a l cs = .ok v cs1) (h3 : lenOp cs1 v = some z) : evX G C (.len a) l cs = .ok z cs1 := bd h1 (ot h3)
theorem e_attr {a : X} {n : Nat} (h1 : evX G C a l cs = .ok v cs1) (h3 : attrOp cs1 v n = some z) : evX G C (.attr a n) l cs = .ok z cs1 := bd h1 (ot h3)
theorem e_strof {a : X} (h1 : evX G C a l cs = .ok v cs1) (h3 : strOf v = some z) : evX G C (.strof a) l cs = .ok z cs1 := bd h1 (ot h3)
theorem e_tup {xs : List X} (h1 : evXs G C xs l cs = .ok vs cs1) : evX G C (.tup xs) l cs = .ok (.tup vs) cs1 := bd h1 rfl
theorem e_ils {xs : List X} (h1 : evXs G C xs l cs = .ok vs cs1) : evX G C (.ilst xs) l cs = .ok (.ils vs) cs1 := bd h1 rfl
theorem e_lst {xs : List X} (h1 : evXs G C xs l cs = .ok vs cs1) : evX G C (.lst xs) l cs = .ok (.lst cs1.length) (cs1 ++ [.list vs]) := bd h1 rfl
theorem e_not {a : X} {t : Bool} (h1 : evX G C a l cs = .ok (.bool t) cs1) : evX G C (.not a) l cs = .ok (.bool (!t)) cs1 := bd h1 rfl
theorem e_if1 {c a b : X} (h1 : evX G C c l cs = .ok (.bool true) cs1) (h2 : evX G C a l cs1 = .ok v cs2) : evX G C (.ife c a b) l cs = .ok v cs2 := bd h1 h2
theorem e_if0 {c a b : X} (h1 : evX G C c l cs = .ok (.bool false) cs1) (h2 : evX G C b l cs1 = .ok v cs2) : evX G C (.ife c a b) l cs = .ok v cs2 := bd h1 h2
theorem e_b1 {a b : X} {i : Bool} {r : List X} (h1 : evX G C a l cs = .ok (.bool i) cs1) (h2 : evX G C (.bop i (b :: r)) l cs1 = .ok v cs2) : evX G C (.bop i (a :: b :: r)) l cs = .ok v cs2 := bd h1 ((if_pos rfl).trans h2)
theorem e_b0 {a b : X} {i t : Bool} {r : List X} (h1 : evX G C a l cs = .ok (.bool t) cs1) (h2 : t ≠ i) : evX G C (.bop i (a :: b :: r)) l cs = .ok (.bool t) cs1 := bd h1 (if_neg h2)
theorem e_bl {a : X} {i : Bool} (h1 : evX G C a l cs = .ok v cs1) : evX G C (.bop i [a]) l cs = .ok v cs1 := h1
theorem e_neg {a : X} {i : Int} (h1 : evX G C a l cs = .ok (.int i) cs1) : evX G C (.neg a) l cs = .ok (.int (-i)) cs1 := bd h1 rfl
theorem e_max {a b : X} {i j : Int} (h1 : evX G C a l cs = .ok (.int i) cs1) (h2 : evX G C b l cs1 = .ok (.int j) cs2) : evX G C (.max a b) l cs = .ok (.int (if i < j then j else i)) cs2 := bd h1 (bd h2 rfl)
theorem e_min {a b : X} {i j : Int} (h1 : evX G C a l cs = .ok (.int i) cs1) (h2 : evX G C b l cs1 = .ok (.int j) cs2) : evX G C (.min a b) l cs = .ok (.int (if j < i then j else i)) cs2 := bd h1 (bd h2 rfl)
theorem e_app {o a : X} {c : Nat} {xs ys : List CV} (h1 : evX G C o l cs = .ok (.lst c) cs1) (hi : listAt cs1 c = some xs) (h2 : evX G C a l cs1 = .ok v cs2) (hy : listAt cs2 c = some ys) (hn : ys.length ≤ 100000) :
    evX G C (.app o a) l cs = .ok .none (cs2.set c (.list (ys ++ [v]))) := bd h1 ((if_pos (by rw [hi]; rfl)).trans (bd h2 (rm hy hn rfl)))
theorem e_tupof {a : X} {c : Nat} {xs : List CV} (h1 : evX G C a l cs = .ok (.lst c) cs1) (hy : listAt cs1 c = some xs) (hn : xs.length ≤ 100000) : evX G C (.tupof a) l cs = .ok (.tup xs) cs1 := bd h1 (rm hy hn rfl)
theorem e_lstofc {a : X} {c : Nat} {xs : List CV} (h1 : evX G C a l cs = .ok (.lst c) cs1) (hy : listAt cs1 c = some xs) (hn : xs.length ≤ 100000) : evX G C (.lstof a) l cs = .ok (.lst cs1.length) (cs1 ++ [.list xs]) := bd h1 (rm hy hn rfl)
theorem e_lstofi {a : X} {xs : List CV} (h1 : evX G C a l cs = .ok (.ils xs) cs1) (hn : xs.length ≤ 100000) : evX G C (.lstof a) l cs = .ok (.lst cs1.length) (cs1 ++ [.list xs]) := bd h1 (if_pos hn)
theorem e_slc {o : X} {a b : Option X} {x y : Option CV} (h1 : evX G C o l cs = .ok v cs1) (h2 : evO G C a l cs1 = .ok x cs2) (h3 : evO G C b l cs2 = .ok y cs3) (h4 : slcOp v x y = some z) : evX G C (.slc o a b) l cs = .ok z cs3 := bd h1 (bd h2 (bd h3 (ot h4)))
theorem o_0 : evO G C none l cs = .ok none cs := rfl
theorem o_1 {x : X} (h1 : evX G C x l cs = .ok v cs1) : evO G C (some x) l cs = .ok (some v) cs1 := bd h1 rfl
theorem e_words {a : X} (h1 : evX G C a l cs = .ok v cs1) (h2 : C initIx [.obj cs1.length, v] (cs1 ++ [.inst none none none]) = .ok .none cs2) : evX G C (.words a) l cs = .ok (.obj cs1.length) cs2 := bd h1 (bd h2 rfl)
theorem s_asg {i : Nat} {e : X} (h : evX G C e l cs = .ok v cs1) : exS G C (.asg i e) (l, cs) = .ok .next (l.set i (some v), cs1) := bs h rfl
theorem s_asgs {is : List Nat} {e : X} (h : evX G C e l cs = .ok (.tup vs) cs1) (hp : putAll is vs l = some l1) : exS G C (.asgs is e) (l, cs) = .ok .next (l1, cs1) := bs h (gt hp rfl)
theorem s_aug {i : Nat} {op : Operator} {e : X} (h0 : l[i]?.join = some v) (h : evX G C e l cs = .ok w cs1) (h1 : augOp op v w = some z) : exS G C (.aug i op e) (l, cs) = .ok .next (l.set i (some z), cs1) := gt h0 (bs h (gt h1 rfl))
theorem s_auga {o e : X} {n : Nat} {op : Operator} {a : CV} (h0 : evX G C o l cs = .ok v cs1) (ha : attrOp cs1 v n = some a) (h : evX G C e l cs1 = .ok w cs2) (h1 : augOp op a w = some z) (h2 : setAOp cs2 v n z = some cs3) :
    exS G C (.auga o n op e) (l, cs) = .ok .next (l, cs3) := bs h0 (gt ha (bs h (gt h1 (gt h2 rfl))))
theorem s_seta {o e : X} {n : Nat} (h : evX G C e l cs = .ok w cs1) (h0 : evX G C o l cs1 = .ok v cs2) (h2 : setAOp cs2 v n w = some cs3) : exS G C (.seta o n e) (l, cs) = .ok .next (l, cs3) := bs h (bs h0 (gt h2 rfl))
theorem s_seti {o i e : X} {c : Nat} {j : Int} {xs : List CV} (h : evX G C e l cs = .ok w cs1) (h0 : evX G C o l cs1 = .ok (.lst c) cs2) (h1 : evX G C i l cs2 = .ok (.int j) cs3) (hl : listAt cs3 c = some xs) (hj : 0 ≤ j ∧ j < 100000 ∧ j.toNat < xs.length) :
    exS G C (.seti o i e) (l, cs) = .ok .next (l, cs3.set c (.list (xs.set j.toNat w))) := bs h (bs h0 (bs h1 (gt hl (if_pos hj))))
theorem s_if1 {c : X} {a b : List S} {r : Res St Fl} (h : evX G C c l cs = .ok (.bool true) cs1) (k : exSs G C a (l, cs1) = r) : exS G C (.ife c a b) (l, cs) = r := bs h k
theorem s_if0 {c : X} {a b : List S} {r : Res St Fl} (h : evX G C c l cs = .ok (.bool false) cs1) (k : exSs G C b (l, cs1) = r) : exS G C (.ife c a b) (l, cs) = r := bs h k
theorem s_ret {e : X} (h : evX G C e l cs = .ok v cs1) : exS G C (.ret e) (l, cs) = .ok (.ret v) (l, cs1) := bs h rfl
theorem s_ex {e : X} (h : evX G C e l cs = .ok v cs1) : exS G C (.ex e) (l, cs) = .ok .next (l, cs1) := bs h rfl
theorem s_try {b : List S} {h : H} {f : Fl} {s1 : St} (k : exSs G C b s = .ok f s1) : exS G C (.try_ b h) s = .ok f s1 := by
  show (match exSs G C b s with | .ok f s => Res.ok f s | .ex m p s => got (evH m p h) fun v => Res.ok (Fl.ret v) s | .no => Res.no) = _
  rw [k]
theorem s_forr {i : Nat} {e : X} {b : List S} {n : Int} {r : Res St Fl} (h : evX G C e l cs = .ok (.int n) cs1) (hn : 0 ≤ n ∧ n ≤ 1000) (k : each i (fun s => exSs G C b s) (upto n.toNat) (l, cs1) = r) : exS G C (.forr i e b) (l, cs) = r := bs h ((if_pos hn).trans k)
theorem ss_0 : exSs G C [] s = .ok .next s := rfl
theorem ss_1 {x : S} {r : List S} {s1 : St} {z : Res St Fl} (h : exS G C x s = .ok .next s1) (k : exSs G C r s1 = z) : exSs G C (x :: r) s = z := bd h k
theorem ss_ret {x : S} {r : List S} {s1 : St} (h : exS G C x s = .ok (.ret v) s1) : exSs G C (x :: r) s = .ok (.ret v) s1 := bd h rfl
theorem ss_brk {x : S} {r : List S} {s1 : St} (h : exS G C x s = .ok .brk s1) : exSs G C (x :: r) s = .ok .brk s1 := bd h rfl
theorem tn1 {test : St → Res St CV} {body : St → Res St Fl} {n : Nat} {s1 s2 : St} {r : Res St Fl} (h : test s = .ok (.bool true) s1) (h2 : body s1 = .ok .next s2) (k : turns test body n s2 = r) : turns test body (n + 1) s = r := bd h (bd h2 k)
theorem tnb {test : St → Res St CV} {body : St → Res St Fl} {n : Nat} {s1 s2 : St} (h : test s = .ok (.bool true) s1) (h2 : body s1 = .ok .brk s2) : turns test body (n + 1) s = .ok .next s2 := bd h (bd h2 rfl)
theorem tnr {test : St → Res St CV} {body : St → Res St Fl} {n : Nat} {s1 s2 : St} (h : test s = .ok (.bool true) s1) (h2 : body s1 = .ok (.ret v) s2) : turns test body (n + 1) s = .ok (.ret v) s2 := bd h (bd h2 rfl)
theorem tn0 {test : St → Res St CV} {body : St → Res St Fl} {n : Nat} {s1 : St} (h : test s = .ok (.bool false) s1) : turns test body (n + 1) s = .ok .next s1 := bd h rfl
theorem eS {e : X} (h : evX G C e l cs = .ok v cs1) : evS G C e (l, cs) = .ok v (l, cs1) := by
  show (evX G C e l cs).up _ = _
  rw [h]; rfl
end
end Mine.L
end

section
namespace Mine.L
open PySem

/-- the words object o, its rows at r, the place q, the depth d -/
structure WS (cs : Cells) (o r : Nat) (rows : List CV) (q : Nat) (d : Int) : Prop where
  ob : cs[o]? = some (.inst (some (.lst r)) (some (.int (q : Int))) (some (.int d)))
  rw_ : cs[r]? = some (.list rows)
  ne : o ≠ r
  lim : rows.length ≤ 90000

/-- all but the words stand -/
structure Frm (o r : Nat) (cs cs' : Cells) : Prop where
  le : cs.length ≤ cs'.length
  at_ : ∀ j, j < cs.length → j ≠ o → j ≠ r → cs'[j]? = cs[j]?

theorem Frm.refl {o r cs} : Frm o r cs cs := ⟨Nat.le_refl _, fun _ _ _ _ => rfl⟩
theorem Frm.trans {o r a b c} (h : Frm o r a b) (k : Frm o r b c) : Frm o r a c :=
  ⟨Nat.le_trans h.le k.le, fun j hj h1 h2 => (k.at_ j (Nat.lt_of_lt_of_le hj h.le) h1 h2).trans (h.at_ j hj h1 h2)⟩

theorem WS.listAt {cs o r rows q d} (h : WS cs o r rows q d) : listAt cs r = some rows := listAt_of h.rw_
theorem WS.inst {cs o r rows q d} (h : WS cs o r rows q d) : instAt cs o = some ⟨some (.lst r), some (.int (q : Int)), some (.int d)⟩ := instAt_of h.ob
theorem WS.isI {cs o r rows q d} (h : WS cs o r rows q d) : isInst cs o = true := congrArg Option.isSome h.inst
theorem WS.at_ {cs o r rows q d} (h : WS cs o r rows q d) (n : Nat) : attrOp cs (.obj o) n = getA ⟨some (.lst r), some (.int (q : Int)), some (.int d)⟩ n := congrArg (fun z : Option Inst => z.bind fun i => getA i n) h.inst
theorem WS.at1 {cs o r rows q d} (h : WS cs o r rows q d) : attrOp cs (.obj o) 1 = some (.int q) := h.at_ 1
theorem WS.at0 {cs o r rows q d} (h : WS cs o r rows q d) : attrOp cs (.obj o) 0 = some (.lst r) := h.at_ 0
theorem WS.at2 {cs o r rows q d} (h : WS cs o r rows q d) : attrOp cs (.obj o) 2 = some (.int d) := h.at_ 2

theorem WS.put1 {cs o r rows q d} (h : WS cs o r rows q d) (n : Nat) :
    ∃ cs', setAOp cs (.obj o) 1 (.int n) = some cs' ∧ WS cs' o r rows n d ∧ Frm o r cs cs' :=
  ⟨cs.set o (.inst (some (.lst r)) (some (.int n)) (some (.int d))), congrArg (fun z : Option Inst => z.bind fun i => (putA i 1 (.int n)).map fun x => cs.set o x) h.inst,
    ⟨List.getElem?_set_self (get_lt h.ob), (List.getElem?_set_ne h.ne).trans h.rw_, h.ne, h.lim⟩, Nat.le_of_eq List.length_set.symm, fun _ _ h1 _ => List.getElem?_set_ne (Ne.symm h1)⟩

/-- the rows: the first ones are hidden -/
theorem get_mid (a b : List CV) (v : CV) : (a ++ v :: b)[a.length]? = some v := by simp

theorem bind_ok {a : α} {s : σ} {k : α → σ → Res σ β} : (Res.ok a s).bind k = k a s := rfl
theorem up_ok {a : α} {s : σ} {f : σ → τ} : (Res.ok a s).up f = .ok a (f s) := rfl
theorem ofOpt_some {a : α} {s : σ} : Res.ofOpt (some a) s = .ok a s := rfl

theorem call_ret {f : Nat} {d : Fn} {vs l cs v s} {b : Nat} (hf : funs[f]? = some d) (hl : bindLoc d vs = some l)
    (h : exSs globs (callB funs globs b) d.body (l, cs) = .ok (.ret v) s) : callB funs globs (b + 1) f vs cs = .ok v s.2 := gt hf (gt hl (congrArg ended h))
theorem call_next {f : Nat} {d : Fn} {vs l cs s} {b : Nat} (hf : funs[f]? = some d) (hl : bindLoc d vs = some l)
    (h : exSs globs (callB funs globs b) d.body (l, cs) = .ok .next s) : callB funs globs (b + 1) f vs cs = .ok .none s.2 := gt hf (gt hl (congrArg ended h))

theorem rowAt_some {xs : List CV} {i : Int} : rowAt (some xs) i = itemAt xs i := Option.bind_some _ _
theorem lst_at {cs : Cells} {c n : Nat} {rows : List CV} {v : CV} (h : listAt cs c = some rows) (hv : rows[n]? = some v) (hn : rows.length ≤ 100000) : subOp cs (.lst c) (.int (n : Int)) = some v := by
  show rowAt (listAt cs c) (n : Int) = _
  rw [h, rowAt_some]; exact itemAt_nat hv (Nat.lt_of_lt_of_le (get_lt hv) hn)
theorem lst_len {cs : Cells} {c : Nat} {rows : List CV} (h : listAt cs c = some rows) (hn : rows.length ≤ 100000) : lenOp cs (.lst c) = some (.int rows.length) :=
  (congrArg (fun z : Option (List CV) => z.bind fun xs => sized xs.length) h).trans (ofIf_pos hn)
theorem peek_at {cs o r rows q d v} (h : WS cs o r rows q d) (hv : rows[q]? = some v) (b : Nat) (hb : 1 ≤ b) :
    callB funs globs b 12 [.obj o, .int 0] cs = .ok v cs := by
  obtain ⟨b, rfl⟩ := Nat.exists_eq_add_of_le' hb
  have h1 : rows.length ≤ 100000 := Nat.le_trans h.lim (by decide)
  have h2 : (if (rows.length : Int) - 1 < (q : Int) + 0 then (rows.length : Int) - 1 else (q : Int) + 0) = (q : Int) := by
    have := get_lt hv
    rw [if_neg (by omega)]; exact Int.add_zero _
  have h3 : subOp cs (.lst r) (.int (if (rows.length : Int) - 1 < (q : Int) + 0 then (rows.length : Int) - 1 else (q : Int) + 0)) = some v := by rw [h2]; exact lst_at h.listAt hv h1
  exact call_ret (d := f_peek) (l := [some (.obj o), some (.int 0)]) rfl rfl (ss_ret (s_ret (e_sub (e_attr (e_v rfl) h.at0) (e_min (e_bin (e_attr (e_v rfl) h.at1) (e_v rfl) rfl) (e_bin (e_len (e_attr (e_v rfl) h.at0) (lst_len h.listAt h1)) (e_k rfl) rfl)) h3)))

theorem peek0 {cs o r rows q d v} (h : WS cs o r rows q d) (hv : rows[q]? = some v) (b : Nat) (hb : 1 ≤ b) :
    callB funs globs b 12 [.obj o] cs = .ok v cs := by
  rw [← peek_at h hv b hb]
  obtain ⟨b, rfl⟩ := Nat.exists_eq_add_of_le' hb
  rfl

/-- what looks tells of a row -/
noncomputable def looksLike (t : Tok) (s : List Nat) : Bool := decide (t.kind = kSign ∨ t.kind = kName) && decide (t.s = s)

theorem row0 {cs p t} : subOp cs (row p t) (.int 0) = some (.str t.kind) := rfl
theorem row1 {cs p t} : subOp cs (row p t) (.int 1) = some (.str t.s) := rfl
theorem row2 {cs p t} : subOp cs (row p t) (.int 2) = some (.int p) := rfl
theorem row4 {cs p t} : subOp cs (row p t) (.int 4) = some t.suf := rfl
theorem ne_of {cs : Cells} {a b : List Nat} (h : a ≠ b) : cmpOp cs .NotEq (.str a) (.str b) = some true := congrArg (fun z => some (!z)) (decide_eq_false h)
theorem ne_no {cs : Cells} {a b : List Nat} (h : a = b) : cmpOp cs .NotEq (.str a) (.str b) = some false := congrArg (fun z => some (!z)) (decide_eq_true h)

theorem looks0 {cs o r rows q d p t} (h : WS cs o r rows q d) (hv : rows[q]? = some (row p t)) (s : List Nat) (b : Nat) (hb : 2 ≤ b) :
    callB funs globs b 14 [.obj o, .str s] cs = .ok (.bool (looksLike t s)) cs := by
  obtain ⟨b, rfl⟩ := Nat.exists_eq_add_of_le' hb
  have e : cmpOp cs .In (.str t.kind) (.tup [.str [115, 105, 103, 110], .str [110, 97, 109, 101]]) = some (decide (t.kind = kSign ∨ t.kind = kName)) := by
    show some ((kSign == t.kind) || ((kName == t.kind) || false)) = _
    rw [Bool.or_false, Option.some.injEq, Bool.eq_iff_iff, Bool.or_eq_true, beq_iff_eq, beq_iff_eq, decide_eq_true_eq, eq_comm, @eq_comm _ kName]
  refine call_ret (b := b + 1) (d := f_looks) (l := [some (.obj o), some (.str s), some (.int 0), none]) (s := ([some (.obj o), some (.str s), some (.int 0), some (row p t)], cs)) rfl rfl
    (ss_1 (s_asg (e_meth (e_v rfl) h.isI (e_1 (e_v rfl) e_0) (peek_at h hv (b + 1) (Nat.le_add_left 1 b)))) (ss_ret (s_ret ?_)))
  have e1 := e_cmp (G := globs) (C := callB funs globs (b + 1)) (l := [some (.obj o), some (.str s), some (.int 0), some (row p t)]) (e_sub (a := .v 3) (b := .k (.int 0)) (e_v rfl) (e_k rfl) row0) (e_tup (xs := [.k (.str [115, 105, 103, 110]), .k (.str [110, 97, 109, 101])]) (e_1 (e_k rfl) (e_1 (e_k rfl) e_0))) e
  by_cases hk : t.kind = kSign ∨ t.kind = kName
  · have ek : looksLike t s = decide (t.s = s) := by unfold looksLike; rw [decide_eq_true hk]; rfl
    rw [ek]
    rw [decide_eq_true hk] at e1
    exact e_b1 e1 (e_bl (e_cmp (e_sub (e_v rfl) (e_k rfl) row1) (e_v rfl) rfl))
  · have ek : looksLike t s = false := by unfold looksLike; rw [decide_eq_false hk]; rfl
    rw [ek]
    rw [decide_eq_false hk] at e1
    exact e_b0 e1 ff_tt

/-- a word is taken -/
theorem take0 {cs o r rows q d p t} (h : WS cs o r rows q d) (hv : rows[q]? = some (row p t)) (ht : t.kind ≠ [101, 110, 100]) (b : Nat) (hb : 2 ≤ b) :
    ∃ cs', callB funs globs b 13 [.obj o] cs = .ok (row p t) cs' ∧ WS cs' o r rows (q + 1) d ∧ Frm o r cs cs' := by
  obtain ⟨b, rfl⟩ := Nat.exists_eq_add_of_le' hb
  obtain ⟨cs', h1, h2, h3⟩ := h.put1 (q + 1)
  exact ⟨cs', call_ret (b := b + 1) (d := f_take) (l := [some (.obj o), none]) (s := ([some (.obj o), some (row p t)], cs')) rfl rfl
    (ss_1 (s_asg (e_meth (e_v rfl) h.isI e_0 (peek0 h hv (b + 1) (Nat.le_add_left 1 b)))) (ss_1 (s_if1 (e_cmp (e_sub (e_v rfl) (e_k rfl) row0) (e_k rfl) (ne_of ht)) (ss_1 (s_auga (e_v rfl) h.at1 (e_k rfl) rfl h1) ss_0)) (ss_ret (s_ret (e_v rfl))))), h2, h3⟩

theorem expect0 {cs o r rows q d p t} (h : WS cs o r rows q d) (hv : rows[q]? = some (row p t)) (s : List Nat) (hs : looksLike t s = true)
    (ht : t.kind ≠ [101, 110, 100]) (b : Nat) (hb : 3 ≤ b) :
    ∃ cs', callB funs globs b 15 [.obj o, .str s] cs = .ok (row p t) cs' ∧ WS cs' o r rows (q + 1) d ∧ Frm o r cs cs' := by
  obtain ⟨b, rfl⟩ := Nat.exists_eq_add_of_le' hb
  have hl := looks0 h hv s (b + 2) (Nat.le_add_left 2 b)
  rw [hs] at hl
  obtain ⟨cs', h1, h2, h3⟩ := take0 h hv ht (b + 2) (Nat.le_add_left 2 b)
  exact ⟨cs', call_ret (b := b + 2) (d := f_expect) (l := [some (.obj o), some (.str s)]) (s := ([some (.obj o), some (.str s)], cs')) rfl rfl
    (ss_1 (s_if0 (e_not (e_meth (e_v rfl) h.isI (e_1 (e_v rfl) e_0) hl)) ss_0) (ss_ret (s_ret (e_meth (e_v rfl) h.isI e_0 h1)))), h2, h3⟩

end Mine.L
end

section
namespace Mine.L
open PySem

noncomputable def cA (b : Nat) : AOrc := callA funs globs 40 b
noncomputable def w0 (toks : List Tok) : List ACell := [.inst (some (.lst 1)) (some (.idx 0)) (some (.c (.int 0))), .rows (arowsAt 0 toks)]
noncomputable abbrev AV.onIdx {β : Type} (x : AV) (f : Nat → Option β) : Option β := match x with
  | .idx i => f i
  | _ => none
theorem AV.onIdx_is {β : Type} {x : AV} {r : β} {f : Nat → Option β} (h : x.onIdx f = some r) : ∃ v, x = .idx v ∧ f v = some r := by cases x with | idx v => exact ⟨v, rfl, h⟩ | _ => exact absurd h none_some
/-- the words at the place n -/
noncomputable def isW (n : Nat) (i : AInst) : Option Unit := i.r.bind fun r => r.onLst fun k => (ofIf (k = 1) ()).bind fun _ => i.a.bind fun a => a.onIdx fun k => (ofIf (k = n) ()).bind fun _ => i.d.bind fun d => d.onI fun k => ofIf (k = 0) ()
theorem isW_is {n : Nat} {i : AInst} {u : Unit} (h : isW n i = some u) : i = ⟨some (.lst 1), some (.idx n), some (.c (.int 0))⟩ := by
  obtain ⟨r, a, d⟩ := i
  obtain ⟨r, rfl, h1⟩ := Option.bind_eq_some_iff.mp h
  obtain ⟨k, rfl, h2⟩ := AV.onLst_is h1
  obtain ⟨_, hk, h3⟩ := Option.bind_eq_some_iff.mp h2
  obtain ⟨a, rfl, h4⟩ := Option.bind_eq_some_iff.mp h3
  obtain ⟨m, rfl, h5⟩ := AV.onIdx_is h4
  obtain ⟨_, hm, h6⟩ := Option.bind_eq_some_iff.mp h5
  obtain ⟨d, rfl, h7⟩ := Option.bind_eq_some_iff.mp h6
  obtain ⟨z, rfl, h8⟩ := AV.onI_is h7
  rw [(ofIf_is hk).1, (ofIf_is hm).1, (ofIf_is h8).1]
/-- a reading def at some words: n of them are taken, the tree is as told -/
noncomputable def chkO (f : Nat) (ts : List Tok) (n : Nat) (tree : AV) : Option Unit := (cA 16 f [.obj 0] (w0 ts)).bind fun p => (aInst p.2 0).bind fun i => (isW n i).bind fun _ => (aRows p.2 1).bind fun xs => (avEq tree p.1).bind fun _ =>
  (avEqs (arowsAt 0 ts) xs).bind fun _ => ofIf (ts.length ≤ 1000) ()
noncomputable def chkP (f : Nat) (ts : List Tok) (n : Nat) (tree : AV) : Bool := (chkO f ts n tree).isSome

theorem op_mod {a b : Int} (h : 0 < b ∧ b < 2 ^ 62) : binOp .Mod (.int a) (.int b) = some (.int (Int.fmod a b)) := ofIf_pos h
theorem op_div {a b : Int} (h : 0 < b ∧ b < 2 ^ 62) : binOp .FloorDiv (.int a) (.int b) = some (.int (Int.fdiv a b)) := ofIf_pos h
theorem op_mul {a b : Int} (h : a.natAbs < 2 ^ 62 ∧ b.natAbs < 2 ^ 62) : binOp .Mult (.int a) (.int b) = some (.int (a * b)) := ofIf_pos h
theorem op_add {a b : Int} : binOp .Add (.int a) (.int b) = some (.int (a + b)) := rfl
theorem op_gt {cs} {a b : Int} : cmpOp cs .Gt (.int a) (.int b) = some (decide (a > b)) := rfl
theorem op_gt1 {cs} {a b : Int} (h : a > b) : cmpOp cs .Gt (.int a) (.int b) = some true := congrArg some (decide_eq_true h)
theorem op_gt0 {cs} {a b : Int} (h : ¬ a > b) : cmpOp cs .Gt (.int a) (.int b) = some false := congrArg some (decide_eq_false h)
theorem sub_l0 {cs c x y} (h : listAt cs c = some [x, y]) : subOp cs (.lst c) (.int 0) = some x := lst_at (n := 0) h rfl (show 2 ≤ 100000 by decide)
theorem sub_l1 {cs c x y} (h : listAt cs c = some [x, y]) : subOp cs (.lst c) (.int 1) = some y := lst_at (n := 1) h rfl (show 2 ≤ 100000 by decide)
theorem listAt_set {cs : Cells} {c : Nat} {xs} (h : c < cs.length) : listAt (cs.set c (.list xs)) c = some xs := listAt_of (List.getElem?_set_self h)

theorem DipOK_of : DipOK funs globs 40 := by
  intro b cs c a e t h0 h1 hj hl
  obtain ⟨h2, h3, h4⟩ := hj
  have hlt := get_lt (listAt_some hl)
  have ht : (0 : Int) < (t : Int) ∧ (t : Int) < 2 ^ 62 := by omega
  have two : ∀ i : Int, 0 ≤ i ∧ i < 2 → 0 ≤ i ∧ i < 100000 ∧ i.toNat < 2 := fun i h => by omega
  by_cases ha : a > 0
  · have e1 : dipF t (a, e) = (Int.fmod a t, (Int.fdiv a t, e)) := if_pos ha
    rw [e1]
    exact call_ret (d := f_law_dip) (l := [some (.lst c), some (.int t), none]) (s := ([some (.lst c), some (.int t), some (.int (Int.fmod a t))], cs.set c (.list [.int (Int.fdiv a t), .int e]))) rfl rfl
      (ss_ret (s_if1 (e_cmp (e_sub (e_v rfl) (e_k rfl) (sub_l0 hl)) (e_k rfl) (op_gt1 ha)) (ss_1 (s_asg (e_bin (e_sub (e_v rfl) (e_k rfl) (sub_l0 hl)) (e_v rfl) (op_mod ht))) (ss_1 (s_seti (e_bin (e_sub (e_v rfl) (e_k rfl) (sub_l0 hl)) (e_v rfl) (op_div ht)) (e_v rfl) (e_k rfl) hl (two 0 (by decide))) (ss_ret (s_ret (e_v rfl)))))))
  · have hM : (0 : Int) < 2147483647 ∧ (2147483647 : Int) < 2 ^ 62 := by decide
    have hN : (0 : Int) < 2147483629 ∧ (2147483629 : Int) < 2 ^ 62 := by decide
    have hO : (0 : Int) < 32 ∧ (32 : Int) < 2 ^ 62 := by decide
    have hm : e.natAbs < 2 ^ 62 ∧ (39373 : Int).natAbs < 2 ^ 62 := ⟨by omega, by decide⟩
    have hb0 : 0 ≤ Int.fmod (e * 39373 + 7) 2147483647 := Int.fmod_nonneg_of_pos _ (by decide)
    have hb1 : Int.fmod (e * 39373 + 7) 2147483647 < 2147483647 := Int.fmod_lt_of_pos _ (by decide)
    have e1 : dipF t (a, e) = (Int.fmod (Int.fdiv (Int.fmod (Int.fmod (e * 39373 + 7) 2147483647 * Int.fmod (e * 39373 + 7) 2147483647) 2147483629) 32) t, (a, Int.fmod (e * 39373 + 7) 2147483647)) := if_neg ha
    rw [e1]
    have om := op_mod hM (a := e * 39373 + 7)
    generalize Int.fmod (e * 39373 + 7) 2147483647 = B at hb0 hb1 om ⊢
    have hm2 : B.natAbs < 2 ^ 62 := by omega
    have hl2 : listAt (cs.set c (.list [.int a, .int B])) c = some [.int a, .int B] := listAt_set hlt
    exact call_ret (d := f_law_dip) (l := [some (.lst c), some (.int t), none]) (s := ([some (.lst c), some (.int t), none], cs.set c (.list [.int a, .int B]))) rfl rfl
      (ss_1 (s_if0 (e_cmp (e_sub (e_v rfl) (e_k rfl) (sub_l0 hl)) (e_k rfl) (op_gt0 ha)) ss_0) (ss_1 (s_seti (e_bin (e_bin (e_bin (e_sub (e_v rfl) (e_k rfl) (sub_l1 hl)) (e_k rfl) (op_mul hm)) (e_k rfl) op_add) (e_k rfl) om) (e_v rfl) (e_k rfl) hl (two 1 (by decide)))
        (ss_ret (s_ret (e_bin (e_bin (e_bin (e_bin (e_sub (e_v rfl) (e_k rfl) (sub_l1 hl2)) (e_sub (e_v rfl) (e_k rfl) (sub_l1 hl2)) (op_mul ⟨hm2, hm2⟩)) (e_k rfl) (op_mod hN)) (e_k rfl) (op_div hO)) (e_v rfl) (op_mod ht))))))

theorem dip_JOK {j : Int × Int} (h : JOK j) {t : Int} (ht : 0 < t) : JOK (dipF t j).2 ∧ 0 ≤ (dipF t j).1 ∧ (dipF t j).1 < t := by
  obtain ⟨h1, h2, h3⟩ := h
  by_cases ha : j.1 > 0
  · simp only [dipF, if_pos ha]
    exact ⟨⟨Int.fdiv_nonneg h1 (by omega), h2, h3⟩, Int.fmod_nonneg_of_pos _ ht, Int.fmod_lt_of_pos _ ht⟩
  · simp only [dipF, if_neg ha]
    have h4 := Int.fmod_nonneg_of_pos (j.2 * 39373 + 7) (show (0 : Int) < 2147483647 by omega)
    have h5 := Int.fmod_lt_of_pos (j.2 * 39373 + 7) (show (0 : Int) < 2147483647 by omega)
    exact ⟨⟨h1, h4, Int.lt_trans h5 (by omega)⟩, Int.fmod_nonneg_of_pos _ ht, Int.fmod_lt_of_pos _ ht⟩

theorem drawn (j : Int × Int) (h : JOK j) (t : Nat) (h0 : 0 < t) (h1 : t < 1000) :
    ∃ d, d < t ∧ ∀ r, Pro r (dipF t j).2 → Pro ((t, d) :: r) j := by
  obtain ⟨h2, h3, h4⟩ := dip_JOK h (t := (t : Int)) (by omega)
  refine ⟨(dipF t j).1.toNat, by omega, fun r hr => ⟨h, h0, h1, by omega, hr⟩⟩

theorem arows_len : ∀ (ts : List Tok) (k : Nat), (arowsAt k ts).length = ts.length
  | [], _ => rfl
  | _ :: r, k => congrArg Nat.succ (arows_len r _)
/-- an environment at n0 cells, given by their places -/
theorem Csr.two {cs : Cells} {o r : Nat} {q : Nat} {p : Nat} {rpre rsuf : List CV} {ts : List Tok}
    (h : WS cs o r (rpre ++ rowsAt p ts ++ rsuf) q 0) (hq : q = rpre.length) (hp : p ≤ 90000) (hl : ts.length ≤ 1000) :
    ∃ ρ : Env, ρ.pre.length = p ∧ ρ.rpre = rpre ∧ ρ.rsuf = rsuf ∧ ρ.μ 0 = o ∧ ρ.μ 1 = r ∧ ρ.off = cs.length ∧ ρ.n0 = 2 ∧ ρ.cs0 = cs ∧ Csr ρ (w0 ts) cs := by
  have ho := get_lt h.ob
  have hr := get_lt h.rw_
  have hlim := h.lim
  have hne := h.ne
  rw [List.length_append, List.length_append] at hlim
  let β : Nat → Nat := fun i => match i with
    | 0 => o
    | _ + 1 => r
  have inj : ∀ i j, i < 2 → j < 2 → β i = β j → i = j := fun i j hi hj e => match i, j, hi, hj, e with
    | 0, 0, _, _, _ => rfl
    | 1, 1, _, _, _ => rfl
    | 0, 1, _, _, e => absurd e hne
    | 1, 0, _, _, e => absurd e.symm hne
    | _ + 2, _, hi, _, _ => absurd hi (by omega)
    | _, _ + 2, _, hj, _ => absurd hj (by omega)
  have lt : ∀ i, i < 2 → β i < cs.length := fun i _ => match i with
    | 0 => ho
    | _ + 1 => hr
  have ep : (List.replicate p 0).length = p := List.length_replicate
  let ρ : Env := ⟨2, β, cs.length, List.replicate p 0, [], rpre, rsuf, fun _ => .none, cs, inj, lt, by rw [ep]; exact hp, by omega⟩
  refine ⟨ρ, ep, rfl, rfl, rfl, rfl, rfl, rfl, rfl, ⟨Nat.le_refl _, rfl, fun i x hx => ?_, fun _ _ _ => rfl⟩⟩
  match i, hx with
  | 0, hx =>
    obtain rfl := Option.some.inj hx
    exact ⟨_, h.ob, by rw [hq]; rfl⟩
  | 1, hx =>
    obtain rfl := Option.some.inj hx
    refine ⟨_, h.rw_, ?_, by rw [arows_len]; exact hl⟩
    rw [γs_arows]
    show Cell.list (rpre ++ rowsAt p ts ++ rsuf) = Cell.list (rpre ++ rowsAt ((List.replicate p 0).length + 0) ts ++ rsuf)
    rw [ep]; rfl
  | _ + 2, hx => exact absurd hx none_some

theorem parse_bridge {f : Nat} {ts : List Tok} {n : Nat} {tree : AV} (hc : chkP f ts n tree = true)
    {cs : Cells} {o r : Nat} {q : Nat} {p : Nat} {rpre rsuf : List CV}
    (h : WS cs o r (rpre ++ rowsAt p ts ++ rsuf) q 0) (hq : q = rpre.length) (hp : p ≤ 90000) (b : Nat) (hb : 16 ≤ b) :
    ∃ cs', callB funs globs b f [.obj o] cs = .ok (δ p tree) cs' ∧ WS cs' o r (rpre ++ rowsAt p ts ++ rsuf) (q + n) 0 ∧ Frm o r cs cs' := by
  obtain ⟨u, hc⟩ := Option.isSome_iff_exists.mp hc
  obtain ⟨⟨a, acs⟩, he, h1⟩ := Option.bind_eq_some_iff.mp hc
  obtain ⟨i, hi, h2⟩ := Option.bind_eq_some_iff.mp h1
  obtain ⟨_, hw, h3⟩ := Option.bind_eq_some_iff.mp h2
  obtain ⟨xs, hx, h4⟩ := Option.bind_eq_some_iff.mp h3
  obtain ⟨_, ht, h5⟩ := Option.bind_eq_some_iff.mp h4
  obtain ⟨_, hr, h6⟩ := Option.bind_eq_some_iff.mp h5
  obtain ⟨ρ, ep, erp, ers, e0, e1, eo, en, ec, C⟩ := Csr.two h hq hp (ofIf_is h6).1
  obtain ⟨cs', hv, C'⟩ := callA_ok ρ DipOK_of 16 b hb f _ _ _ C _ _ he
  have g0 := instAt_some (aInst_ok C' hi).1
  have g1 := listAt_some (aRows_ok C' hx).1
  rw [isW_is hw] at g0
  rw [avEqs_ok ρ _ _ _ hr, δs_arows] at g1
  rw [avEq_ok ρ _ _ _ ht] at hv
  subst ep erp ers e0 e1 hq
  refine ⟨cs', hv, ⟨g0.trans ?_, g1, h.ne, h.lim⟩, ?_, fun j hj n1 n2 => ?_⟩
  · rfl
  · rw [C'.sz, eo]; exact Nat.le_add_right _ _
  · rw [← ec]
    refine C'.fr j (eo ▸ hj) fun i hi e => ?_
    have m : ∀ i, i < 2 → ρ.μ i = ρ.β i := fun i hi => if_pos (en ▸ hi)
    match i, (en ▸ hi : i < 2) with
    | 0, hi => exact n1 (e.symm.trans (m 0 hi).symm)
    | 1, hi => exact n2 (e.symm.trans (m 1 hi).symm)

/-- all but the jar stands -/
structure FrJ (c : Nat) (cs cs' : Cells) : Prop where
  le : cs.length ≤ cs'.length
  at_ : ∀ j, j < cs.length → j ≠ c → cs'[j]? = cs[j]?
theorem FrJ.refl {c cs} : FrJ c cs cs := ⟨Nat.le_refl _, fun _ _ _ => rfl⟩
theorem FrJ.trans {c x y z} (h : FrJ c x y) (k : FrJ c y z) : FrJ c x z :=
  ⟨Nat.le_trans h.le k.le, fun j hj h1 => (k.at_ j (Nat.lt_of_lt_of_le hj h.le) h1).trans (h.at_ j hj h1)⟩
noncomputable def JarAt (cs : Cells) (c : Nat) (j : Int × Int) : Prop := cs[c]? = some (.list [.int j.1, .int j.2])

/-- an empty jar behind all draws -/
noncomputable def spent (c : ACell) : Option Unit := match c with
  | .jar ch => ofIf (ch.isEmpty = true) ()
  | _ => none
theorem spent_is {c : ACell} {u : Unit} (h : spent c = some u) : c = .jar [] := by
  cases c with
  | jar ch => rw [List.isEmpty_iff.mp (ofIf_is h).1]
  | _ => exact absurd h none_some
/-- a drawing def at some draws -/
noncomputable def chkD (f : Nat) (as : List AV) (ch : List (Nat × Nat)) (tree : AV) : Option Unit := (cA 8 f (.lst 0 :: as) [.jar ch]).bind fun p => (p.2[0]?.bind spent).bind fun _ => (avEq tree p.1).bind fun _ => avEqs as as
noncomputable def chkG (f : Nat) (as : List AV) (ch : List (Nat × Nat)) (tree : AV) : Bool := (chkD f as ch tree).isSome

theorem gen_bridge {f : Nat} {as : List AV} {ch : List (Nat × Nat)} {tree : AV} (hc : chkG f as ch tree = true)
    {cs : Cells} {c : Nat} {j : Int × Int} (hj : JarAt cs c j) (hpro : Pro ch j) {p : Nat} (hp : p ≤ 90000) (b : Nat) (hb : 8 ≤ b) :
    ∃ cs' j', callB funs globs b f (.lst c :: δs p as) cs = .ok (δ p tree) cs' ∧ JarAt cs' c j' ∧ JOK j' ∧ FrJ c cs cs' := by
  obtain ⟨u, hc⟩ := Option.isSome_iff_exists.mp hc
  obtain ⟨⟨a, acs⟩, he, h1⟩ := Option.bind_eq_some_iff.mp hc
  obtain ⟨_, hz, h2⟩ := Option.bind_eq_some_iff.mp h1
  obtain ⟨z, hz, hs⟩ := Option.bind_eq_some_iff.mp hz
  obtain ⟨_, ht, ha⟩ := Option.bind_eq_some_iff.mp h2
  have ho := get_lt hj
  have ep : (List.replicate p 0).length = p := List.length_replicate
  let ρ : Env := ⟨1, fun _ => c, cs.length, List.replicate p 0, [], [], [], fun _ => .none, cs,
    fun i j hi hj _ => by omega, fun _ _ => ho, by rw [ep]; exact hp, Nat.zero_le _⟩
  have C : Csr ρ [.jar ch] cs := ⟨Nat.le_refl _, rfl, fun i x hx => match i, hx with
    | 0, hx => by
      obtain rfl := Option.some.inj hx
      exact ⟨_, hj, _, _, rfl, hpro⟩
    | _ + 1, hx => absurd hx none_some, fun _ _ _ => rfl⟩
  obtain ⟨cs', hv, C'⟩ := callA_ok ρ DipOK_of 8 b hb f _ _ _ C _ _ he
  obtain ⟨c', g1, g2⟩ := C'.at_ 0 _ hz
  rw [spent_is hs] at g2
  obtain ⟨x, y, rfl, g3⟩ := g2
  have ea : γs ρ as = δs p as := (avEqs_ok ρ _ _ _ ha).trans (congrArg (δs · as) ep)
  have et : γ ρ a = δ p tree := (avEq_ok ρ _ _ _ ht).trans (congrArg (δ · tree) ep)
  rw [et] at hv
  refine ⟨cs', (x, y), ?_, g1, g3, ?_, fun j hj n1 => C'.fr j hj fun _ _ e => n1 e.symm⟩
  · rw [← ea]; exact hv
  · rw [C'.sz]; exact Nat.le_add_right _ _
end Mine.L
end

section
namespace Mine.L
open PySem

/-- what a run without cells tells -/
noncomputable def noCells (cs : List ACell) : Option Unit := ofIf (cs.isEmpty = true) ()
/-- the word t at the begin of w, and the blanks behind it up to n -/
noncomputable def lexAt (t : Tok) (w : AV) (n : Nat) : Option Unit := (cA 12 6 [w, .pos 0] []).bind fun p => (noCells p.2).bind fun _ => (avEq (.tup [arow 0 t, .pos t.s.length]) p.1).bind fun _ =>
  (cA 12 1 [w, .pos t.s.length] []).bind fun p => (noCells p.2).bind fun _ => (avEq (.pos n) p.1).bind fun _ => ofIf (t.s.isEmpty = false) ()
/-- one word and the blanks behind it, up to the sign c -/
noncomputable def lexChk (t : Tok) (lead : List Nat) (c : Nat) : Bool := (lexAt t (.txt (t.s ++ (lead ++ [c]))) (t.s.length + lead.length)).isSome
/-- the last word of a text -/
noncomputable def lexEnd (t : Tok) : Bool := (lexAt t (.txe t.s) t.s.length).isSome
/-- the blanks ahead of a text -/
noncomputable def lexBegO (lead : List Nat) (c : Nat) : Option Unit := (cA 12 1 [.txt (lead ++ [c]), .pos 0] []).bind fun p => (noCells p.2).bind fun _ => avEq (.pos lead.length) p.1
noncomputable def lexBeg (lead : List Nat) (c : Nat) : Bool := (lexBegO lead c).isSome

noncomputable def sameTok (t u : Tok) : Bool := (t.s == u.s && t.kind == u.kind) && (CV.beq t.val u.val && CV.beq t.suf u.suf)
theorem lexAt_same {t u : Tok} (h : sameTok t u = true) : ∃ l, t = { u with lead := l } := by
  obtain ⟨h12, h34⟩ := and_tt h
  obtain ⟨h1, h2⟩ := and_tt h12
  obtain ⟨h3, h4⟩ := and_tt h34
  refine ⟨t.lead, ?_⟩
  rw [← eq_of_beq h1, ← eq_of_beq h2, ← CV.beq_is _ _ h3, ← CV.beq_is _ _ h4]
theorem lexChk_same {t u : Tok} (h : sameTok t u = true) {l c} (k : lexChk u l c = true) : lexChk t l c = true := by
  obtain ⟨l, rfl⟩ := lexAt_same h; exact k
theorem lexEnd_same {t u : Tok} (h : sameTok t u = true) (k : lexEnd u = true) : lexEnd t = true := by
  obtain ⟨l, rfl⟩ := lexAt_same h; exact k

noncomputable abbrev Ent3 := Tok × List Nat × Nat
noncomputable def ents (ts : List Tok) (fs : List (List Nat × Nat)) : List Ent3 := ts.flatMap fun t => fs.map fun f => (t, f.1, f.2)
noncomputable def exBeg : List Nat := [55, 121, 116, 51]
noncomputable def table : List Ent3 :=
  ents [sg [40]] (([], 41) :: exBeg.map fun c => ([], c)) ++
  ents [sg [91]] (([], 93) :: exBeg.map fun c => ([], c)) ++
  ents [num [55] 7 .none, nm [121], nm [116, 114, 117, 101], num [51, 117, 56] 3 (.str [117, 56]), num [49] 1 .none] [([], 44), ([], 41), ([], 93)] ++
  ents [nm [121]] [([32], 43)] ++
  ents [sg [43]] [([32], 49)] ++
  ents [sg [44]] (([], 41) :: ([], 93) :: ([], 62) :: ([32], 117) :: ([32], 33) :: ([32], 95) :: exBeg.map fun c => ([32], c)) ++
  ents [sg [41], sg [93], num [48] 0 .none, num [49, 50] 12 .none, nm [108, 101, 110], nm [121, 49]] [([], 40), ([], 91), ([], 46), ([32], 46), ([32], 59)] ++
  ents [sg [93]] [([32], 125)] ++
  ents [nm [103, 101, 116]] [([], 40)] ++
  ents [nm [109]] [([], 58)] ++
  ents [sg [58, 58]] [([], 60)] ++
  ents [sg [60]] [([], 117), ([], 33), ([], 95), ([], 62)] ++
  ents [nm [117, 56], sg [33], nm [95]] [([], 44), ([], 62)] ++
  ents [sg [46]] [([], 48), ([], 49), ([], 108), ([], 121), ([32], 48), ([32], 49), ([32], 108), ([32], 121), ([], 103), ([32], 103), ([], 109)] ++
  ents [sg [62]] [([], 40), ([], 59)] ++
  ents [sg [62, 62], sg [62, 61], sg [62, 62, 61]] [([32], 49)]
noncomputable def tabEnd : List Tok := [sg [59], sg [125], num [49] 1 .none]
noncomputable def tabBeg : List (List Nat × Nat) := [([], 40), ([], 91), ([], 46), ([], 60), ([32], 46), ([32], 59)]
theorem table_ok : (table.all fun e => lexChk e.1 e.2.1 e.2.2) = true := by decide +kernel
theorem tabEnd_ok : tabEnd.all lexEnd = true := by decide +kernel
theorem tabBeg_ok : (tabBeg.all fun e => lexBeg e.1 e.2) = true := by decide +kernel

theorem all_any {α : Type} {l : List α} {p q : α → Bool} {r : Prop} (ha : l.all p = true) (h : l.any q = true) (k : ∀ e, p e = true → q e = true → r) : r := by
  obtain ⟨e, he, hq⟩ := List.any_eq_true.mp h
  exact k e (List.all_eq_true.mp ha e he) hq
noncomputable def pairOK (t : Tok) (l : List Nat) (c : Nat) : Bool := table.any fun e => sameTok t e.1 && (l == e.2.1 && c == e.2.2)
theorem pairOK_lex {t l c} (h : pairOK t l c = true) : lexChk t l c = true := all_any table_ok h fun e he hq => by
  obtain ⟨h1, h2⟩ := and_tt hq
  obtain ⟨h2, h3⟩ := and_tt h2
  rw [eq_of_beq h2, eq_of_beq h3]
  exact lexChk_same h1 he
noncomputable def endOK (t : Tok) : Bool := tabEnd.any fun e => sameTok t e
theorem endOK_lex {t} (h : endOK t = true) : lexEnd t = true := all_any tabEnd_ok h fun _ he hq => lexEnd_same hq he
noncomputable def begOK (t : Tok) : Bool := tabBeg.any fun e => t.lead == e.1 && t.s.headD 0 == e.2
theorem begOK_lex {t} (h : begOK t = true) : lexBeg t.lead (t.s.headD 0) = true := all_any tabBeg_ok h fun e he hq => by
  obtain ⟨h1, h2⟩ := and_tt hq
  rw [eq_of_beq h1, eq_of_beq h2]; exact he

/-- words that may stand behind one another -/
noncomputable def adj : List Tok → Bool
  | [] => true
  | t :: r => match r with
    | [] => true
    | u :: r => pairOK t u.lead (u.s.headD 0) && adj (u :: r)

theorem pure_bridge {f : Nat} {as : List AV} {res : AV} {acs : List ACell} (hc : cA 12 f as [] = some (res, acs)) {u : Unit} (hn : noCells acs = some u) (pre suf : List Nat) (hs : pre.length + suf.length ≤ 90000)
    {tree : AV} {u' : Unit} (ht : avEq tree res = some u') {vs : List CV} (hv : ∀ ρ : Env, ρ.pre = pre → ρ.suf = suf → γs ρ as = vs) (cs : Cells) (b : Nat) (hb : 12 ≤ b) :
    callB funs globs b f vs cs = .ok (δ pre.length tree) cs := by
  let ρ : Env := ⟨0, fun _ => 0, cs.length, pre, suf, [], [], fun _ => .none, cs,
    fun _ _ h => absurd h (Nat.not_lt_zero _), fun _ h => absurd h (Nat.not_lt_zero _), hs, Nat.zero_le _⟩
  have C : Csr ρ [] cs := ⟨Nat.le_refl _, rfl, fun _ _ h => absurd h none_some, fun _ _ _ => rfl⟩
  obtain rfl := List.isEmpty_iff.mp (ofIf_is hn).1
  obtain ⟨cs', h, C'⟩ := callA_ok ρ DipOK_of 12 b hb f _ _ _ C _ _ hc
  have e : cs' = cs := by
    have hl : cs'.length = cs.length := C'.sz
    refine List.ext_getElem? fun j => ?_
    by_cases hj : j < cs.length
    · exact C'.fr j hj fun _ h => absurd h (Nat.not_lt_zero _)
    · rw [List.getElem?_eq_none (hl ▸ Nat.le_of_not_lt hj), List.getElem?_eq_none (Nat.le_of_not_lt hj)]
  rw [avEq_ok ρ _ _ _ ht, hv ρ rfl rfl, e] at h
  exact h

/-- what the two lexing defs tell at a place of a text -/
structure LexW (t : Tok) (T : List Nat) (p n : Nat) (cs : Cells) (b : Nat) : Prop where
  word : callB funs globs b 6 [.str T, .int (p : Nat)] cs = .ok (.tup [row p t, .int ((p + t.s.length : Nat) : Int)]) cs
  blank : callB funs globs b 1 [.str T, .int ((p + t.s.length : Nat) : Int)] cs = .ok (.int ((p + n : Nat) : Int)) cs
  ne : t.s ≠ []
theorem lexAt_ok {t : Tok} {w : AV} {n : Nat} (h : (lexAt t w n).isSome = true) (pre suf : List Nat) (hs : pre.length + suf.length ≤ 90000) {T : List Nat} (hT : ∀ ρ : Env, ρ.pre = pre → ρ.suf = suf → γ ρ w = .str T)
    (cs : Cells) (b : Nat) (hb : 12 ≤ b) : LexW t T pre.length n cs b := by
  obtain ⟨_, h⟩ := Option.isSome_iff_exists.mp h
  obtain ⟨⟨r, acs⟩, k1, h1⟩ := Option.bind_eq_some_iff.mp h
  obtain ⟨_, n1, h2⟩ := Option.bind_eq_some_iff.mp h1
  obtain ⟨_, t1, h3⟩ := Option.bind_eq_some_iff.mp h2
  obtain ⟨⟨r', acs'⟩, k2, h4⟩ := Option.bind_eq_some_iff.mp h3
  obtain ⟨_, n2, h5⟩ := Option.bind_eq_some_iff.mp h4
  obtain ⟨_, t2, h6⟩ := Option.bind_eq_some_iff.mp h5
  exact ⟨pure_bridge k1 n1 pre suf hs t1 (fun ρ e1 e2 => by show [γ ρ w, .int ((ρ.pre.length + 0 : Nat) : Int)] = _; rw [hT ρ e1 e2, e1]; rfl) cs b hb,
    pure_bridge k2 n2 pre suf hs t2 (fun ρ e1 e2 => by show [γ ρ w, .int ((ρ.pre.length + t.s.length : Nat) : Int)] = _; rw [hT ρ e1 e2, e1]) cs b hb,
    fun e => by have := (ofIf_is h6).1; rw [e] at this; exact ff_tt this.symm⟩

theorem arow_plain (t : Tok) : δ p (arow 0 t) = row p t := rfl

theorem lex_word {t : Tok} {lead : List Nat} {c : Nat} (h : lexChk t lead c = true) (pre suf : List Nat) (hs : pre.length + suf.length ≤ 90000)
    (cs : Cells) (b : Nat) (hb : 12 ≤ b) : LexW t (pre ++ (t.s ++ (lead ++ c :: suf))) pre.length (t.s.length + lead.length) cs b :=
  lexAt_ok h pre suf hs (fun ρ e1 e2 => by
    show CV.str (ρ.pre ++ (t.s ++ (lead ++ [c])) ++ ρ.suf) = _
    rw [e1, e2, List.append_assoc, List.append_assoc, List.append_assoc]; rfl) cs b hb
theorem lex_last {t : Tok} (h : lexEnd t = true) (pre : List Nat) (hs : pre.length ≤ 90000)
    (cs : Cells) (b : Nat) (hb : 12 ≤ b) : LexW t (pre ++ t.s) pre.length t.s.length cs b :=
  lexAt_ok h pre [] hs (fun ρ e1 _ => by
    show CV.str (ρ.pre ++ t.s) = _
    rw [e1]) cs b hb
theorem lex_first {lead : List Nat} {c : Nat} (h : lexBeg lead c = true) (suf : List Nat) (hs : suf.length ≤ 90000)
    (cs : Cells) (b : Nat) (hb : 12 ≤ b) :
    callB funs globs b 1 [.str (lead ++ c :: suf), .int 0] cs = .ok (.int ((lead.length : Nat) : Int)) cs := by
  obtain ⟨_, h⟩ := Option.isSome_iff_exists.mp h
  obtain ⟨⟨r, acs⟩, k1, h1⟩ := Option.bind_eq_some_iff.mp h
  obtain ⟨_, n1, h2⟩ := Option.bind_eq_some_iff.mp h1
  have := pure_bridge k1 n1 [] suf (by rw [List.length_nil, Nat.zero_add]; exact hs) h2 (vs := [.str (lead ++ c :: suf), .int 0]) (fun ρ e1 e2 => by
    show [CV.str (ρ.pre ++ (lead ++ [c]) ++ ρ.suf), .int ((ρ.pre.length + 0 : Nat) : Int)] = _
    rw [e1, e2, List.nil_append, List.append_assoc]; rfl) cs b hb
  rw [this]
  exact congrArg (fun n : Nat => Res.ok (CV.int (n : Int)) cs) (Nat.zero_add _)
end Mine.L
end

section
namespace Mine.L
open PySem

/-- the words of a whole text -/
noncomputable def fine : List Tok → Bool
  | [] => false
  | t :: r => match r with
    | [] => endOK t
    | u :: r => pairOK t u.lead (u.s.headD 0) && fine (u :: r)

theorem fine_cons {t u : Tok} {r : List Tok} (h : fine (t :: u :: r) = true) : pairOK t u.lead (u.s.headD 0) = true ∧ fine (u :: r) = true := and_tt h
noncomputable def lexTest : X := .cmp .Lt (.v 2) (.len (.v 0))
noncomputable def lexBody : List S := [.asgs [3, 2] (.call 6 [.v 0, .v 2]), .ex (.app (.v 1) (.v 3)), .asg 2 (.call 1 [.v 0, .v 2])]
noncomputable def lexSt (T : List Nat) (c : Nat) (p : Nat) (w : Option CV) : Loc := [some (.str T), some (.lst c), some (.int (p : Int)), w]

theorem get_end (cs : Cells) (x : Cell) : (cs ++ [x])[cs.length]? = some x := by rw [List.getElem?_append_right (Nat.le_refl _), Nat.sub_self]; rfl
theorem set_end (cs : Cells) (x y : Cell) : (cs ++ [x]).set cs.length y = cs ++ [y] := by rw [List.set_append_right _ _ (Nat.le_refl _), Nat.sub_self]; rfl
theorem lex_turn {C : Orc} {T : List Nat} {p q m : Nat} {rw_ : CV} {cs : Cells} {acc : List CV} {w : Option CV}
    (h6 : ∀ cs, C 6 [.str T, .int p] cs = .ok (.tup [rw_, .int q]) cs) (h1 : ∀ cs, C 1 [.str T, .int q] cs = .ok (.int m) cs) (hacc : acc.length ≤ 100000) :
    exSs globs C lexBody (lexSt T cs.length p w, cs ++ [.list acc]) = .ok .next (lexSt T cs.length m (some rw_), cs ++ [.list (acc ++ [rw_])]) := by
  have hl := listAt_of (get_end cs (.list acc))
  rw [← set_end cs (.list acc) (.list (acc ++ [rw_]))]
  exact ss_1 (s_asgs (e_call (e_1 (e_v rfl) (e_1 (e_v rfl) e_0)) (h6 _)) rfl) (ss_1 (s_ex (e_app (e_v rfl) hl (e_v rfl) hl hacc)) (ss_1 (s_asg (e_call (e_1 (e_v rfl) (e_1 (e_v rfl) e_0)) (h1 _))) ss_0))

theorem lex_test {C : Orc} {T : List Nat} {p : Nat} {cs : Cells} {c : Nat} {w : Option CV} {t : Bool} (hT : T.length ≤ 90000) (ht : decide ((p : Int) < (T.length : Int)) = t) :
    evS globs C lexTest (lexSt T c p w, cs) = .ok (.bool t) (lexSt T c p w, cs) :=
  eS (e_cmp (e_v rfl) (e_len (e_v rfl) (ofIf_pos (Nat.le_trans hT (by decide)))) (congrArg some ht))

theorem head_eq {t : Tok} (h : t.s ≠ []) (r : List Nat) : t.s ++ r = t.s.headD 0 :: (t.s.tail ++ r) := by
  cases hs : t.s with
  | nil => exact absurd hs h
  | cons x s => rfl

theorem fine_ne : ∀ {t : Tok} {r : List Tok}, fine (t :: r) = true → t.s ≠ []
  | _, [], h => (lex_last (endOK_lex h) [] (Nat.zero_le _) [] 12 (Nat.le_refl _)).ne
  | _, _ :: _, h => (lex_word (pairOK_lex (fine_cons h).1) [] [] (Nat.zero_le _) [] 12 (Nat.le_refl _)).ne

theorem lex_loop (b : Nat) (hb : 12 ≤ b) (m : Nat) (T : List Nat) (hl : T.length ≤ 90000) (cs : Cells) : ∀ (r : List Tok) (t : Tok) (pre : List Nat) (acc : List CV) (w : Option CV),
    fine (t :: r) = true → T = pre ++ (t.s ++ txtOf r) → acc.length + (t :: r).length ≤ 100000 →
    ∃ w', turns (evS globs (callB funs globs b) lexTest) (fun s => exSs globs (callB funs globs b) lexBody s) (m + (r.length + 2)) (lexSt T cs.length pre.length w, cs ++ [.list acc]) =
      .ok .next (lexSt T cs.length T.length w', cs ++ [.list (acc ++ row pre.length t :: rowsAt (pre.length + t.s.length) r)])
  | [], t, pre, acc, w, hf, hT, ha => by
    have h0 := List.length_pos_iff.2 (fine_ne hf)
    have hT' : T = pre ++ t.s := by rw [hT]; exact congrArg (pre ++ ·) (List.append_nil _)
    have hn : T.length = pre.length + t.s.length := by rw [hT', List.length_append]
    have L := fun cs => lex_last (endOK_lex hf) pre (by omega) cs b hb
    rw [← hT'] at L
    have ht := lex_turn (cs := cs) (acc := acc) (w := w) (fun cs => (L cs).word) (fun cs => (L cs).blank) (by omega)
    rw [← hn] at ht
    exact ⟨some (row pre.length t), tn1 (lex_test hl (decide_eq_true (by omega))) ht (tn0 (lex_test hl (decide_eq_false (Int.lt_irrefl _))))⟩
  | u :: r, t, pre, acc, w, hf, hT, ha => by
    have h0 := List.length_pos_iff.2 (fine_ne hf)
    obtain ⟨hp, hu⟩ := fine_cons hf
    have eT : T = pre ++ (t.s ++ (u.lead ++ u.s.headD 0 :: (u.s.tail ++ txtOf r))) := by rw [hT, ← head_eq (fine_ne hu)]; rfl
    have hn : T.length = pre.length + (t.s.length + (u.lead.length + ((u.s.tail ++ txtOf r).length + 1))) := by rw [eT, List.length_append, List.length_append, List.length_append, List.length_cons]
    have L := fun cs => lex_word (pairOK_lex hp) pre (u.s.tail ++ txtOf r) (by omega) cs b hb
    rw [← eT] at L
    have ht := lex_turn (cs := cs) (acc := acc) (w := w) (fun cs => (L cs).word) (fun cs => (L cs).blank) (Nat.le_trans (Nat.le_add_right _ _) ha)
    have e4 : (pre ++ (t.s ++ u.lead)).length = pre.length + (t.s.length + u.lead.length) := by rw [List.length_append, List.length_append]
    have e5 : (acc ++ [row pre.length t]).length + (u :: r).length ≤ 100000 := by
      rw [List.length_append, Nat.add_assoc, Nat.add_comm [row pre.length t].length]; exact ha
    obtain ⟨w', ih⟩ := lex_loop b hb m T hl cs r u (pre ++ (t.s ++ u.lead)) (acc ++ [row pre.length t]) (some (row pre.length t)) hu
      (by rw [hT, List.append_assoc, List.append_assoc]; rfl) e5
    rw [e4, ← Nat.add_assoc pre.length, List.append_assoc] at ih
    rw [← Nat.add_assoc pre.length] at ht
    exact ⟨w', tn1 (lex_test hl (decide_eq_true (by omega))) ht ih⟩

noncomputable def endRow (n : Nat) : CV := .tup [.str [101, 110, 100], .str [], .int (n : Int), .none, .none]
theorem rowsAt_len : ∀ (ts : List Tok) (p : Nat), (rowsAt p ts).length = ts.length
  | [], _ => rfl
  | _ :: r, _ => congrArg Nat.succ (rowsAt_len r _)

theorem word_rows_ok {t : Tok} {r : List Tok} (hb0 : begOK t = true) (hf : fine (t :: r) = true) (hl : (txtOf (t :: r)).length ≤ 80000) (hn : (t :: r).length ≤ 4000)
    (cs : Cells) (b : Nat) (hb : 13 ≤ b) :
    callB funs globs b 7 [.str (txtOf (t :: r))] cs = .ok (.lst cs.length) (cs ++ [.list (rowsAt 0 (t :: r) ++ [endRow (txtOf (t :: r)).length])]) := by
  obtain ⟨b, rfl⟩ := Nat.exists_eq_add_of_le' (show 1 ≤ b from Nat.le_trans (by decide) hb)
  have hb' : 12 ≤ b := Nat.le_of_succ_le_succ hb
  have e0 : txtOf (t :: r) = t.lead ++ t.s.headD 0 :: (t.s.tail ++ txtOf r) := by rw [← head_eq (fine_ne hf)]; rfl
  have e1 : (txtOf (t :: r)).length = t.lead.length + ((t.s.tail ++ txtOf r).length + 1) := by rw [e0, List.length_append, List.length_cons]
  have h1 := fun cs => lex_first (begOK_lex hb0) (t.s.tail ++ txtOf r) (by omega) cs b hb'
  rw [← e0] at h1
  have hm : mostTurns = mostTurns - (r.length + 2) + (r.length + 2) := (Nat.sub_add_cancel (by have : mostTurns = 5000 := rfl; rw [List.length_cons] at hn; omega)).symm
  obtain ⟨w, hw⟩ := lex_loop b hb' (mostTurns - (r.length + 2)) (txtOf (t :: r)) (by omega) cs r t t.lead [] none hf rfl (by rw [List.length_nil]; omega)
  rw [← hm] at hw
  have hR : (rowsAt 0 (t :: r)).length ≤ 100000 := by rw [rowsAt_len]; omega
  have er : row t.lead.length t :: rowsAt (t.lead.length + t.s.length) r = rowsAt 0 (t :: r) := by
    show _ = row (0 + t.lead.length) t :: rowsAt (0 + t.lead.length + t.s.length) r
    rw [Nat.zero_add]
  rw [List.nil_append, er] at hw
  generalize rowsAt 0 (t :: r) = R at hw hR ⊢
  have hT : (txtOf (t :: r)).length ≤ 100000 := Nat.le_trans hl (by decide)
  generalize txtOf (t :: r) = T at hw h1 hT ⊢
  have hla := listAt_of (get_end cs (.list R))
  rw [← set_end cs (.list R) (.list (R ++ [endRow T.length]))]
  exact call_ret (d := f_word_rows) (l := [some (.str T), none, none, none]) (s := (lexSt T cs.length T.length w, (cs ++ [Cell.list R]).set cs.length (.list (R ++ [endRow T.length])))) rfl rfl
    (ss_1 (s_asg (e_lst e_0)) (ss_1 (s_asg (e_call (e_1 (e_v rfl) (e_1 (e_k rfl) e_0)) (h1 _))) (ss_1 hw
      (ss_1 (s_ex (e_app (e_v rfl) hla (e_tup (e_1 (e_k rfl) (e_1 (e_k rfl) (e_1 (e_len (e_v rfl) (ofIf_pos hT)) (e_1 (e_k rfl) (e_1 (e_k rfl) e_0)))))) hla hR)) (ss_ret (s_ret (e_v rfl)))))))
end Mine.L
end

section
namespace Mine.L
open PySem

theorem setA_of {X : Cells} {o n : Nat} {i : Inst} {r a d : Option CV} {v : CV} {c : Cell} (h : X[o]? = some (.inst r a d)) (hp : putA ⟨r, a, d⟩ n v = some c) : setAOp X (.obj o) n v = some (X.set o c) :=
  Option.bind_eq_some_iff.mpr ⟨_, instAt_of h, Option.map_eq_some_iff.mpr ⟨c, hp, rfl⟩⟩
theorem init_ok {X : Cells} {o c : Nat} {R : List CV} (ho : X[o]? = some (.inst none none none)) (hc : listAt X c = some R) (hR : R.length ≤ 90000) (b : Nat) (hb : 1 ≤ b) :
    ∃ X', callB funs globs b 9 [.obj o, .lst c] X = .ok .none X' ∧ WS X' o X.length R 0 0 ∧ X.length ≤ X'.length ∧ ∀ j, j < X.length → j ≠ o → X'[j]? = X[j]? := by
  obtain ⟨b, rfl⟩ := Nat.exists_eq_add_of_le' hb
  have hol := get_lt ho
  have hne : o ≠ X.length := Nat.ne_of_lt hol
  have a1 : (X ++ [.list R])[o]? = some (.inst none none none) := (List.getElem?_append_left hol).trans ho
  have g : ∀ {Y : Cells} {x : Cell}, Y.length = X.length + 1 → (Y.set o x)[o]? = some x ∧ (Y.set o x).length = X.length + 1 := fun h => ⟨List.getElem?_set_self (by rw [h]; exact Nat.lt_succ_of_lt hol), List.length_set.trans h⟩
  have k : ∀ {Y : Cells} {x : Cell} {j}, j ≠ o → (Y.set o x)[j]? = Y[j]? := fun h => List.getElem?_set_ne (Ne.symm h)
  obtain ⟨b1, l1⟩ := g (Y := X ++ [.list R]) (x := .inst (some (.lst X.length)) none none) List.length_append
  obtain ⟨d1, l2⟩ := g (x := .inst (some (.lst X.length)) (some (.int 0)) none) l1
  obtain ⟨e1, l3⟩ := g (x := .inst (some (.lst X.length)) (some (.int 0)) (some (.int 0))) l2
  refine ⟨_, call_next (d := f_init) (l := [some (.obj o), some (.lst c)]) rfl rfl (ss_1 (s_seta (e_lstofc (e_v rfl) hc (Nat.le_trans hR (by decide))) (e_v rfl) (setA_of (i := ⟨none, none, none⟩) a1 rfl))
    (ss_1 (s_seta (e_k rfl) (e_v rfl) (setA_of (i := ⟨none, none, none⟩) b1 rfl)) (ss_1 (s_seta (e_k rfl) (e_v rfl) (setA_of (i := ⟨none, none, none⟩) d1 rfl)) ss_0))), ⟨e1, ?_, hne, hR⟩, ?_, fun j hj hn => ?_⟩
  · exact (k hne.symm).trans ((k hne.symm).trans ((k hne.symm).trans (get_end X _)))
  · rw [l3]; exact Nat.le_succ _
  · exact (k hn).trans ((k hn).trans ((k hn).trans (List.getElem?_append_left hj)))

/-- all old cells stand -/
structure FrA (cs cs' : Cells) : Prop where
  le : cs.length ≤ cs'.length
  at_ : ∀ j, j < cs.length → cs'[j]? = cs[j]?

theorem read_words_ok {t : Tok} {r : List Tok} (hb0 : begOK t = true) (hf : fine (t :: r) = true) (hl : (txtOf (t :: r)).length ≤ 80000) (hn : (t :: r).length ≤ 4000)
    (cs : Cells) (b : Nat) (hb : 14 ≤ b) :
    ∃ o q cs', callB funs globs b 8 [.str (txtOf (t :: r))] cs = .ok (.obj o) cs' ∧
      WS cs' o q (rowsAt 0 (t :: r) ++ [endRow (txtOf (t :: r)).length]) 0 0 ∧ FrA cs cs' ∧ cs.length ≤ o ∧ cs.length ≤ q := by
  obtain ⟨b, rfl⟩ := Nat.exists_eq_add_of_le' (show 1 ≤ b from Nat.le_trans (by decide) hb)
  have hw := word_rows_ok hb0 hf hl hn cs b (Nat.le_of_succ_le_succ hb)
  have hRl : (rowsAt 0 (t :: r) ++ [endRow (txtOf (t :: r)).length]).length ≤ 90000 := by
    rw [List.length_append, rowsAt_len]; exact Nat.le_trans (Nat.add_le_add_right hn 1) (by decide)
  generalize rowsAt 0 (t :: r) ++ [endRow (txtOf (t :: r)).length] = R at hw hRl ⊢
  have e1 : (cs ++ [Cell.list R]).length = cs.length + 1 := List.length_append
  have e2 : (cs ++ [Cell.list R] ++ [Cell.inst none none none]).length = cs.length + 1 + 1 := by rw [List.length_append, e1]; rfl
  have g : (cs ++ [Cell.list R] ++ [Cell.inst none none none])[cs.length + 1]? = some (.inst none none none) := by rw [← e1]; exact get_end _ _
  have g2 : listAt (cs ++ [Cell.list R] ++ [Cell.inst none none none]) cs.length = some R := listAt_of ((List.getElem?_append_left (by rw [e1]; exact Nat.lt_succ_self _)).trans (get_end _ _))
  obtain ⟨X', h1, h2, h3, h4⟩ := init_ok g g2 hRl b (Nat.le_trans (by decide) (Nat.le_of_succ_le_succ hb))
  rw [e2] at h2 h3 h4
  rw [← e1] at h1 h2
  refine ⟨(cs ++ [Cell.list R]).length, _, X', call_ret (d := f_read_words) (l := [some (.str (txtOf (t :: r)))]) (s := ([some (.str (txtOf (t :: r)))], X')) rfl rfl (ss_ret (s_ret (e_words (e_call (e_1 (e_v rfl) e_0) hw) h1))), h2, ⟨?_, fun j hj => ?_⟩, ?_, ?_⟩
  · exact Nat.le_trans (Nat.le_add_right _ 2) h3
  · exact (h4 j (Nat.lt_of_lt_of_le hj (Nat.le_add_right _ 2)) (Nat.ne_of_lt (Nat.lt_succ_of_lt hj))).trans ((List.getElem?_append_left (by rw [e1]; exact Nat.lt_succ_of_lt hj)).trans (List.getElem?_append_left hj))
  · rw [e1]; exact Nat.le_succ _
  · rw [e1]; exact Nat.le_add_right _ 2
end Mine.L
end

section
namespace Mine.L
open PySem

theorem txt_len (t : Tok) (r : List Tok) : (txtOf (t :: r)).length = t.lead.length + (t.s.length + (txtOf r).length) := by
  show (t.lead ++ (t.s ++ txtOf r)).length = _
  rw [List.length_append, List.length_append]
theorem rowsAt_app : ∀ (a b : List Tok) (p : Nat), rowsAt p (a ++ b) = rowsAt p a ++ rowsAt (p + (txtOf a).length) b
  | [], _, _ => rfl
  | t :: a, b, p => by
    show row _ t :: rowsAt (p + t.lead.length + t.s.length) (a ++ b) = row _ t :: (rowsAt _ a ++ _)
    rw [rowsAt_app a b, txt_len, ← Nat.add_assoc, ← Nat.add_assoc]
theorem txtOf_app : ∀ (a b : List Tok), txtOf (a ++ b) = txtOf a ++ txtOf b
  | [], _ => rfl
  | t :: a, b => by
    show t.lead ++ (t.s ++ txtOf (a ++ b)) = t.lead ++ (t.s ++ txtOf a) ++ txtOf b
    rw [txtOf_app a b, List.append_assoc, List.append_assoc]
theorem txt_app_len (a b : List Tok) : (txtOf (a ++ b)).length = (txtOf a).length + (txtOf b).length := by rw [txtOf_app, List.length_append]

/-- the cells below N stand, but for the words -/
structure FrN (N o r : Nat) (cs cs' : Cells) : Prop where
  le : cs.length ≤ cs'.length
  at_ : ∀ j, j < N → j ≠ o → j ≠ r → cs'[j]? = cs[j]?
theorem Frm.toN {N o r cs cs'} (h : Frm o r cs cs') (hN : N ≤ cs.length) : FrN N o r cs cs' := ⟨h.le, fun j hj => h.at_ j (Nat.lt_of_lt_of_le hj hN)⟩
theorem FrN.trans {N o r a b c} (h : FrN N o r a b) (k : FrN N o r b c) : FrN N o r a c :=
  ⟨Nat.le_trans h.le k.le, fun j hj h1 h2 => (k.at_ j hj h1 h2).trans (h.at_ j hj h1 h2)⟩
theorem FrN.refl {N o r a} : FrN N o r a a := ⟨Nat.le_refl _, fun _ _ _ _ => rfl⟩

theorem WS.setOther {cs o r rows q d} (h : WS cs o r rows q d) {c : Nat} {x : Cell} (h1 : c ≠ o) (h2 : c ≠ r) : WS (cs.set c x) o r rows q d :=
  ⟨(List.getElem?_set_ne h1).trans h.ob, (List.getElem?_set_ne h2).trans h.rw_, h.ne, h.lim⟩

/-- the body of the loop of a list of parts; i: the list found, F: the def that reads a part -/
noncomputable def elBody (i F : Nat) : List S := [.ex (.app (.v i) (.call F [.v 0])), .ife (.not (.meth (.v 0) 14 [.k (.str [44])])) [.brk] [], .ex (.meth (.v 0) 13 [])]

theorem sg_kind (s : List Nat) : (sg s).kind ≠ [101, 110, 100] := fun h => nomatch (List.cons.inj h).1
theorem sg_looks (s s' : List Nat) : looksLike (sg s) s' = decide (s = s') := rfl
theorem sg_self (s : List Nat) : looksLike (sg s) s = true := decide_eq_true (p := s = s) rfl

/-- a part is read, and the list has it -/
structure Got (cs cs' : Cells) (N o r c : Nat) (R : List CV) (q : Nat) (acc : List CV) : Prop where
  ws : WS cs' o r R q 0
  fr : FrN N o r cs cs'
  ls : listAt cs' c = some acc
section
variable {i F : Nat} {l : Loc} {o r c : Nat} {R : List CV} {q : Nat} {p' : Nat} {acc : List CV} {v : CV} {u : Tok} {cs cs1 : Cells} {N : Nat} {b : Nat} (hb : 3 ≤ b)
    (hl0 : l[0]?.join = some (.obj o)) (hli : l[i]?.join = some (.lst c)) (hc : listAt cs c = some acc) (hacc : acc.length ≤ 1000) (hco : c ≠ o) (hcr : c ≠ r) (hN : N ≤ c)
    (hv : callB funs globs b F [.obj o] cs = .ok v cs1) (hw : WS cs1 o r R q 0) (hf : Frm o r cs cs1) (hu : R[q]? = some (row p' u))
include hc hco hcr hN hw hf
theorem el_put : listAt cs1 c = some acc ∧ Got cs (cs1.set c (.list (acc ++ [v]))) N o r c R q (acc ++ [v]) := by
  have hcl := get_lt (listAt_some hc)
  have hc1 := hf.at_ c hcl hco hcr
  exact ⟨(congrArg (Option.bind · Cell.asList) hc1).trans hc, hw.setOther hco hcr, (hf.toN (Nat.le_of_lt (Nat.lt_of_le_of_lt hN hcl))).trans ⟨Nat.le_of_eq List.length_set.symm, fun j hj _ _ => List.getElem?_set_ne (Nat.ne_of_gt (Nat.lt_of_lt_of_le hj hN))⟩,
    listAt_set (Nat.lt_of_lt_of_le hcl hf.le)⟩
include hb hl0 hli hacc hv hu
theorem el_brk (hu0 : looksLike u [44] = false) : ∃ cs', exSs globs (callB funs globs b) (elBody i F) (l, cs) = .ok .brk (l, cs') ∧ Got cs cs' N o r c R q (acc ++ [v]) := by
  obtain ⟨h1, g⟩ := el_put (v := v) hc hco hcr hN hw hf
  have hlk := looks0 g.ws hu [44] b (Nat.le_trans (by decide) hb)
  rw [hu0] at hlk
  exact ⟨_, ss_1 (s_ex (e_app (e_v hli) hc (e_call (e_1 (e_v hl0) e_0) hv) h1 (Nat.le_trans hacc (by decide)))) (ss_brk (s_if1 (e_not (e_meth (e_v hl0) g.ws.isI (e_1 (e_k rfl) e_0) hlk)) (ss_brk rfl))), g⟩
theorem el_next (hu0 : looksLike u [44] = true) (huk : u.kind ≠ [101, 110, 100]) : ∃ cs', exSs globs (callB funs globs b) (elBody i F) (l, cs) = .ok .next (l, cs') ∧ Got cs cs' N o r c R (q + 1) (acc ++ [v]) := by
  obtain ⟨h1, g⟩ := el_put (v := v) hc hco hcr hN hw hf
  have hlk := looks0 g.ws hu [44] b (Nat.le_trans (by decide) hb)
  rw [hu0] at hlk
  obtain ⟨cs3, k1, k2, k3⟩ := take0 g.ws hu huk b (Nat.le_trans (by decide) hb)
  have hcl := get_lt (listAt_some g.ls)
  exact ⟨_, ss_1 (s_ex (e_app (e_v hli) hc (e_call (e_1 (e_v hl0) e_0) hv) h1 (Nat.le_trans hacc (by decide)))) (ss_1 (s_if0 (e_not (e_meth (e_v hl0) g.ws.isI (e_1 (e_k rfl) e_0) hlk)) ss_0) (ss_1 (s_ex (e_meth (e_v hl0) g.ws.isI e_0 k1)) ss_0)),
    k2, g.fr.trans (k3.toN (Nat.le_of_lt (Nat.lt_of_le_of_lt hN hcl))), (congrArg (Option.bind · Cell.asList) (k3.at_ c hcl hco hcr)).trans g.ls⟩
end

/-- parts read one behind another -/
noncomputable def treesAt (f : Nat → List Tok) (g : Nat → AV) : Nat → List Nat → List CV
  | _, [] => []
  | p, e :: r => δ p (g e) :: treesAt f g (p + (txtOf (f e)).length + 2) r
theorem trees_len (f : Nat → List Tok) (g : Nat → AV) : ∀ (es : List Nat) (p : Nat), (treesAt f g p es).length = es.length
  | [], _ => rfl
  | _ :: es, _ => congrArg Nat.succ (trees_len f g es _)

/-- what stands ahead of the closing sign -/
noncomputable def inner (f : Nat → List Tok) (v : Var) : List Tok := parts f true v.1 ++ (if v.2 then [sg [44]] else [])
/-- what stands behind the first part -/
noncomputable def rest (f : Nat → List Tok) (cm : Bool) (cl : Tok) : List Nat → List Tok
  | [] => (if cm then [sg [44]] else []) ++ [cl]
  | e :: es => sg [44] :: (lead1 (f e) ++ rest f cm cl es)
theorem rest_eq (f : Nat → List Tok) (cm : Bool) (cl : Tok) : ∀ es, parts f false es ++ (if cm then [sg [44]] else []) ++ [cl] = rest f cm cl es
  | [] => rfl
  | e :: es => by
    show sg [44] :: (lead1 (f e) ++ parts f false es) ++ (if cm then [sg [44]] else []) ++ [cl] = sg [44] :: (lead1 (f e) ++ rest f cm cl es)
    rw [← rest_eq f cm cl es, List.cons_append, List.cons_append, List.append_assoc, List.append_assoc, List.append_assoc]
theorem inner_eq (f : Nat → List Tok) (cm : Bool) (cl : Tok) (x : Nat) (es : List Nat) : inner f (x :: es, cm) ++ [cl] = f x ++ rest f cm cl es := by
  show f x ++ parts f false es ++ (if cm then [sg [44]] else []) ++ [cl] = _
  rw [← rest_eq, List.append_assoc, List.append_assoc, List.append_assoc]

theorem rowsAt_sp (p : Nat) {ts : List Tok} {t : Tok} {r : List Tok} (e : ts = t :: r) (h : t.lead = []) (b : List Tok) : rowsAt p (lead1 ts ++ b) = rowsAt (p + 1) (ts ++ b) := by
  subst e
  show row (p + 1) t.sp :: rowsAt (p + 1 + t.s.length) (r ++ b) = row (p + 1 + t.lead.length) t :: rowsAt (p + 1 + t.lead.length + t.s.length) (r ++ b)
  rw [h]; rfl
theorem txtOf_sp {ts : List Tok} {t : Tok} {r : List Tok} (e : ts = t :: r) (h : t.lead = []) : txtOf (lead1 ts) = 32 :: txtOf ts := by
  subst e
  show [32] ++ (t.s ++ txtOf r) = 32 :: (t.lead ++ (t.s ++ txtOf r))
  rw [h]; rfl
theorem lead1_len (ts : List Tok) : (lead1 ts).length = ts.length := by cases ts <;> rfl

theorem mid_at (rpre rsuf : List CV) (p : Nat) (a : List Tok) (t : Tok) (b : List Tok) :
    (rpre ++ rowsAt p (a ++ t :: b) ++ rsuf)[rpre.length + a.length]? = some (row (p + (txtOf a).length + t.lead.length) t) := by
  rw [rowsAt_app, List.append_assoc, List.append_assoc, List.getElem?_append_right (Nat.le_add_right _ _), Nat.add_sub_cancel_left, List.getElem?_append_right (Nat.le_of_eq (rowsAt_len a p)), rowsAt_len, Nat.sub_self]; rfl

theorem cons_eq {α : Type} (a : List α) (u : α) (b : List α) : a ++ u :: b = a ++ [u] ++ b := by rw [List.append_assoc]; rfl
structure PartOK (f : Nat → List Tok) (g : Nat → AV) (F : Nat) (cl : Tok) (e : Nat) : Prop where
  hd : ∃ t r, f e = t :: r ∧ t.lead = []
  rd : ∀ u, u = sg [44] ∨ u = cl → chkP F (f e ++ [u]) (f e).length (g e) = true

section
variable {f : Nat → List Tok} {g : Nat → AV} {i F : Nat} {cl : Tok} {l : Loc} {o r c : Nat} {R : List CV} {N : Nat} {b : Nat} (hb : 16 ≤ b) {test : X}
    (hl0 : l[0]?.join = some (.obj o)) (hli : l[i]?.join = some (.lst c)) (hco : c ≠ o) (hcr : c ≠ r) (hN : N ≤ c) (hcl : cl.lead = []) (hclc : looksLike cl [44] = false)
    (ht1 : ∀ cs q p, WS cs o r R q 0 → R[q]? = some (row p cl) → evS globs (callB funs globs b) test (l, cs) = .ok (.bool false) (l, cs))
    (ht2 : ∀ cs q p t r' e, WS cs o r R q 0 → R[q]? = some (row p t) → PartOK f g F cl e → f e = t :: r' → evS globs (callB funs globs b) test (l, cs) = .ok (.bool true) (l, cs))
include hb hl0 hli hco hcr hN
/-- a part, and the word u behind it -/
theorem el_part {x : Nat} (hx : PartOK f g F cl x) {u : Tok} (hu : u = sg [44] ∨ u = cl) (hul : u.lead = []) {p : Nat} {rpre rsuf : List CV} {acc : List CV} {cs : Cells}
    (hw : WS cs o r R rpre.length 0) (hR : R = rpre ++ rowsAt p (f x ++ [u]) ++ rsuf) (hp : p ≤ 90000) (hc : listAt cs c = some acc) (hacc : acc.length ≤ 1000) :
    (looksLike u [44] = false → ∃ cs', exSs globs (callB funs globs b) (elBody i F) (l, cs) = .ok .brk (l, cs') ∧ Got cs cs' N o r c R (rpre.length + (f x).length) (acc ++ [δ p (g x)])) ∧
    (looksLike u [44] = true → u.kind ≠ [101, 110, 100] → ∃ cs', exSs globs (callB funs globs b) (elBody i F) (l, cs) = .ok .next (l, cs') ∧ Got cs cs' N o r c R (rpre.length + (f x).length + 1) (acc ++ [δ p (g x)])) := by
  subst hR
  obtain ⟨cs1, h1, h2, h3⟩ := parse_bridge (hx.rd u hu) hw rfl hp b hb
  have q := mid_at rpre rsuf p (f x) u []
  exact ⟨el_brk (Nat.le_trans (by decide) hb) hl0 hli hc hacc hco hcr hN h1 h2 h3 q, el_next (Nat.le_trans (by decide) hb) hl0 hli hc hacc hco hcr hN h1 h2 h3 q⟩
include hcl hclc ht1 ht2
theorem el_loop (m : Nat) {cm : Bool} {rsuf : List CV} {q' : Nat} : ∀ (es : List Nat) (x : Nat) (p : Nat) (rpre : List CV) (acc : List CV) (cs : Cells), (∀ e ∈ x :: es, PartOK f g F cl e) →
      WS cs o r R rpre.length 0 → R = rpre ++ rowsAt p (f x ++ rest f cm cl es) ++ rsuf → p + (txtOf (f x ++ rest f cm cl es)).length ≤ 90000 → q' + 1 = rpre.length + (f x ++ rest f cm cl es).length →
      listAt cs c = some acc → acc.length + es.length + 1 ≤ 1000 →
      ∃ cs', turns (evS globs (callB funs globs b) test) (fun s => exSs globs (callB funs globs b) (elBody i F) s) (m + (es.length + 2)) (l, cs) = .ok .next (l, cs') ∧ Got cs cs' N o r c R q' (acc ++ treesAt f g p (x :: es))
  | [], x, p, rpre, acc, cs, he, hw, hR, hp, hq', hc, hacc => by
    have hx := he x (List.mem_cons_self ..)
    obtain ⟨t0, r0, hf0, hl⟩ := hx.hd
    have hp' : p ≤ 90000 := Nat.le_trans (Nat.le_add_right _ _) hp
    have hacc' : acc.length ≤ 1000 := Nat.le_trans (Nat.le_add_right _ _) hacc
    have hq : R[rpre.length]? = some (row (p + 0 + t0.lead.length) t0) := by rw [hR, hf0]; exact mid_at rpre rsuf p [] t0 (r0 ++ rest f cm cl [])
    have htest := ht2 cs _ _ t0 r0 x hw hq hx hf0
    cases cm with
    | false =>
      obtain ⟨cs1, k1, k2⟩ := (el_part hb hl0 hli hco hcr hN hx (.inr rfl) hcl hw hR hp' hc hacc').1 hclc
      have e : q' = rpre.length + (f x).length := by
        rw [List.length_append] at hq'
        exact Nat.succ.inj hq'
      exact ⟨cs1, tnb htest k1, e ▸ k2⟩
    | true =>
      have hR2 : R = rpre ++ rowsAt p (f x ++ [sg [44]]) ++ (rowsAt (p + (txtOf (f x ++ [sg [44]])).length) [cl] ++ rsuf) := by
        rw [hR]
        show rpre ++ rowsAt p (f x ++ sg [44] :: [cl]) ++ rsuf = _
        rw [cons_eq, rowsAt_app, ← List.append_assoc rpre, List.append_assoc]
      obtain ⟨cs1, k1, k2⟩ := (el_part hb hl0 hli hco hcr hN hx (.inl rfl) rfl hw hR2 hp' hc hacc').2 rfl (sg_kind _)
      have e : q' = rpre.length + (f x).length + 1 := by
        rw [List.length_append] at hq'
        exact Nat.succ.inj hq'
      have hq2 := mid_at rpre rsuf p (f x ++ [sg [44]]) cl []
      rw [← cons_eq, List.length_append, ← Nat.add_assoc] at hq2
      have hq3 : R[rpre.length + (f x).length + 1]? = some (row (p + (txtOf (f x ++ [sg [44]])).length + cl.lead.length) cl) := by rw [hR]; exact hq2
      exact ⟨cs1, tn1 htest k1 (tn0 (ht1 cs1 _ _ k2.ws hq3)), e ▸ k2⟩
  | y :: es, x, p, rpre, acc, cs, he, hw, hR, hp, hq', hc, hacc => by
    have hx := he x (List.mem_cons_self ..)
    have hy := he y (List.mem_cons_of_mem _ (List.mem_cons_self ..))
    obtain ⟨t0, r0, hf0, hl⟩ := hx.hd
    obtain ⟨t1, r1, hf1, hl1⟩ := hy.hd
    have hp' : p ≤ 90000 := Nat.le_trans (Nat.le_add_right _ _) hp
    rw [List.length_cons] at hacc
    have hacc' : acc.length ≤ 1000 := by omega
    have hq : R[rpre.length]? = some (row (p + 0 + t0.lead.length) t0) := by rw [hR, hf0]; exact mid_at rpre rsuf p [] t0 (r0 ++ rest f cm cl (y :: es))
    have htest := ht2 cs _ _ t0 r0 x hw hq hx hf0
    have e1 : (txtOf (f x ++ [sg [44]])).length = (txtOf (f x)).length + 1 := txt_app_len _ _
    have hR2 : R = rpre ++ rowsAt p (f x ++ [sg [44]]) ++ (rowsAt (p + (txtOf (f x)).length + 2) (f y ++ rest f cm cl es) ++ rsuf) := by
      rw [hR]
      show rpre ++ rowsAt p (f x ++ sg [44] :: (lead1 (f y) ++ rest f cm cl es)) ++ rsuf = _
      rw [cons_eq, rowsAt_app, rowsAt_sp _ hf1 hl1, e1, ← List.append_assoc rpre, List.append_assoc]; rfl
    obtain ⟨cs1, k1, k2⟩ := (el_part hb hl0 hli hco hcr hN hx (.inl rfl) rfl hw hR2 hp' hc hacc').2 rfl (sg_kind _)
    have eq2 : (rpre ++ rowsAt p (f x ++ [sg [44]])).length = rpre.length + (f x).length + 1 := by rw [List.length_append, rowsAt_len, List.length_append]; rfl
    have e2 : (txtOf (f x ++ rest f cm cl (y :: es))).length = (txtOf (f x)).length + (1 + (((txtOf (f y)).length + 1) + (txtOf (rest f cm cl es)).length)) := by
      rw [txt_app_len]
      show _ + (txtOf (sg [44] :: (lead1 (f y) ++ rest f cm cl es))).length = _
      rw [txt_len, txt_app_len, txtOf_sp hf1 hl1, List.length_cons]
      show _ + (0 + _) = _
      rw [Nat.zero_add]; rfl
    have e3 : (f x ++ rest f cm cl (y :: es)).length = (f x).length + (((f y).length + (rest f cm cl es).length) + 1) := by
      rw [List.length_append]
      show _ + (sg [44] :: (lead1 (f y) ++ rest f cm cl es)).length = _
      rw [List.length_cons, List.length_append, lead1_len]
    rw [e2] at hp
    rw [e3] at hq'
    obtain ⟨cs3, j1, j2⟩ := el_loop m (cm := cm) (rsuf := rsuf) (q' := q') es y (p + (txtOf (f x)).length + 2) (rpre ++ rowsAt p (f x ++ [sg [44]])) (acc ++ [δ p (g x)]) cs1 (fun e h => he e (List.mem_cons_of_mem _ h)) (by rw [eq2]; exact k2.ws) (by rw [List.append_assoc _ _ rsuf]; exact hR2)
      (by rw [txt_app_len]; omega) (by rw [eq2, List.length_append]; omega) k2.ls (by rw [List.length_append, List.length_singleton]; omega)
    exact ⟨cs3, tn1 htest k1 j1, j2.ws, k2.fr.trans j2.fr, j2.ls.trans (congrArg some (List.append_assoc _ _ _))⟩
/-- the whole list between its brackets; q: the place of its first word -/
theorem list_loop {v : Var} (hv0 : v.1 = [] → v.2 = false) (hv2 : v.1.length ≤ 900) (he : ∀ e ∈ v.1, PartOK f g F cl e) {p : Nat} {rpre rsuf : List CV} {cs : Cells}
    (hw : WS cs o r R rpre.length 0) (hR : R = rpre ++ rowsAt p (inner f v ++ [cl]) ++ rsuf) (hp : p + (txtOf (inner f v ++ [cl])).length ≤ 90000) (hc : listAt cs c = some []) :
    ∃ cs', turns (evS globs (callB funs globs b) test) (fun s => exSs globs (callB funs globs b) (elBody i F) s) mostTurns (l, cs) = .ok .next (l, cs') ∧ Got cs cs' N o r c R (rpre.length + (inner f v).length) (treesAt f g p v.1) := by
  obtain ⟨es, cm⟩ := v
  cases es with
  | nil =>
    obtain rfl : cm = false := hv0 rfl
    have hq := mid_at rpre rsuf p [] cl []
    exact ⟨cs, tn0 (ht1 cs _ _ hw (hR ▸ hq)), hw, FrN.refl, hc⟩
  | cons x es =>
    rw [inner_eq] at hR hp
    have hm : mostTurns = mostTurns - (es.length + 2) + (es.length + 2) := (Nat.sub_add_cancel (Nat.le_trans (Nat.succ_le_succ hv2) (by decide))).symm
    rw [hm]
    refine el_loop hb hl0 hli hco hcr hN hcl hclc ht1 ht2 _ es x p rpre [] cs he hw hR hp ?_ hc (Nat.le_trans (Nat.le_of_eq (congrArg Nat.succ (Nat.zero_add _))) (Nat.le_trans hv2 (by decide)))
    rw [← inner_eq, List.length_append (bs := [cl])]; rfl
end
end Mine.L
end

section
namespace Mine.L
open PySem

/-- a part is read by read_expr -/
noncomputable def exOK (c : Nat) : Bool := (List.range 5).all fun e => chkP 23 (exToks e ++ [sg [44]]) (exToks e).length (exTree 0 e) && chkP 23 (exToks e ++ [sg [c]]) (exToks e).length (exTree 0 e)
theorem exOK_41 : exOK 41 = true := by decide +kernel
theorem exOK_93 : exOK 93 = true := by decide +kernel
noncomputable def tyOK (m : List Nat) : Bool := (List.range 3).all fun e => chkP 18 (tyToks e ++ [sg [44]]) (tyToks e).length (tyTree 0 e) && chkP 18 (tyToks e ++ [sg (62 :: m)]) (tyToks e).length (tyTree 0 e)
theorem tyOK_all : ([[], [62], [61], [62, 61]].all tyOK) = true := by decide +kernel

/-- the first word of a part -/
theorem ex_hd : ∀ e, ∃ t r, exToks e = t :: r ∧ t.lead = [] ∧ looksLike t [41] = false ∧ looksLike t [93] = false
  | 0 => ⟨_, _, rfl, rfl, rfl, rfl⟩
  | 1 => ⟨_, _, rfl, rfl, rfl, rfl⟩
  | 2 => ⟨_, _, rfl, rfl, rfl, rfl⟩
  | 3 => ⟨_, _, rfl, rfl, rfl, rfl⟩
  | _ + 4 => ⟨_, _, rfl, rfl, rfl, rfl⟩
noncomputable def opens (t : Tok) : Bool := decide (t.kind = kSign) && decide (t.s.take 1 = [62])
theorem ty_hd : ∀ e, ∃ t r, tyToks e = t :: r ∧ t.lead = [] ∧ t.s.length ≤ 100 ∧ opens t = false
  | 0 => ⟨_, _, rfl, rfl, (by decide : 2 ≤ 100), rfl⟩
  | 1 => ⟨_, _, rfl, rfl, (by decide : 1 ≤ 100), rfl⟩
  | _ + 2 => ⟨_, _, rfl, rfl, (by decide : 1 ≤ 100), rfl⟩

theorem part_of {f : Nat → List Tok} {g : Nat → AV} {F n : Nat} {u : Tok} (hd : ∃ t r, f e = t :: r ∧ t.lead = []) (h : ((List.range n).all fun e => chkP F (f e ++ [sg [44]]) (f e).length (g e) && chkP F (f e ++ [u]) (f e).length (g e)) = true) (he : e < n) : PartOK f g F u e := by
  obtain ⟨h1, h2⟩ := and_tt (List.all_eq_true.1 h e (List.mem_range.2 he))
  refine ⟨hd, fun w hw => ?_⟩
  rcases hw with rfl | rfl
  · exact h1
  · exact h2
theorem exPart {c : Nat} (h : exOK c = true) {e : Nat} (he : e < 5) : PartOK exToks (exTree 0) 23 (sg [c]) e := by
  obtain ⟨t, r, h1, h2, _⟩ := ex_hd e
  exact part_of ⟨t, r, h1, h2⟩ h he
theorem tyPart {m : List Nat} (h : tyOK m = true) {e : Nat} (he : e < 3) : PartOK tyToks (tyTree 0) 18 (sg (62 :: m)) e := by
  obtain ⟨t, r, h1, h2, _⟩ := ty_hd e
  exact part_of ⟨t, r, h1, h2⟩ h he

theorem exHead {e : Nat} {t : Tok} {r : List Tok} (h : exToks e = t :: r) {c : Nat} (hc : c = 41 ∨ c = 93) : looksLike t [c] = false := by
  obtain ⟨t', r', h1, _, h3, h4⟩ := ex_hd e
  obtain rfl := (List.cons.inj (h1.symm.trans h)).1
  rcases hc with rfl | rfl
  · exact h3
  · exact h4
theorem tyHead {e : Nat} {t : Tok} {r : List Tok} (h : tyToks e = t :: r) : t.s.length ≤ 100 ∧ opens t = false := by
  obtain ⟨t', r', h1, _, h3, h4⟩ := ty_hd e
  obtain rfl := (List.cons.inj (h1.symm.trans h)).1
  exact ⟨h3, h4⟩

theorem WS.push {cs o r R q d x} (h : WS cs o r R q d) : WS (cs ++ [x]) o r R q d := ⟨(List.getElem?_append_left (get_lt h.ob)).trans h.ob, (List.getElem?_append_left (get_lt h.rw_)).trans h.rw_, h.ne, h.lim⟩
theorem Frm.around {o r cs cs1 cs3 cs4 x} (a : Frm o r cs cs1) (g : FrN cs1.length o r (cs1 ++ [x]) cs3) (d : Frm o r cs3 cs4) : Frm o r cs cs4 := by
  have h1 : cs1.length ≤ cs3.length := Nat.le_trans (by rw [List.length_append]; exact Nat.le_add_right _ _) g.le
  refine ⟨Nat.le_trans a.le (Nat.le_trans h1 d.le), fun j hj n1 n2 => ?_⟩
  have hj1 := Nat.lt_of_lt_of_le hj a.le
  exact (d.at_ j (Nat.lt_of_lt_of_le hj1 h1) n1 n2).trans ((g.at_ j hj1 n1 n2).trans ((List.getElem?_append_left hj1).trans (a.at_ j hj n1 n2)))

/-- the rows behind the first bracket -/
theorem rows_in {R rpre rsuf : List CV} {p c : Nat} {Z : List Tok} {u : Tok} (hR : R = rpre ++ rowsAt p (sg [c] :: (Z ++ [u])) ++ rsuf) :
    R[rpre.length]? = some (row p (sg [c])) ∧ R = rpre ++ [row p (sg [c])] ++ rowsAt (p + 1) (Z ++ [u]) ++ rsuf ∧ R[rpre.length + 1 + Z.length]? = some (row (p + 1 + (txtOf Z).length + u.lead.length) u) := by
  have h1 := mid_at rpre rsuf p [] (sg [c]) (Z ++ [u])
  have h2 : R = rpre ++ [row p (sg [c])] ++ rowsAt (p + 1) (Z ++ [u]) ++ rsuf := by
    rw [hR]
    show rpre ++ (row p (sg [c]) :: rowsAt (p + 1) (Z ++ [u])) ++ rsuf = _
    rw [cons_eq rpre]
  have h3 := mid_at (rpre ++ [row p (sg [c])]) rsuf (p + 1) Z u []
  rw [← h2, List.length_append] at h3
  exact ⟨hR ▸ h1, h2, h3⟩

theorem read_list_ok {v : Var} {ob ec : Nat} (hec : ec = 41 ∨ ec = 93) (hv : ∀ e ∈ v.1, e < 5) (hv2 : v.1.length ≤ 900) (hv0 : v.1 = [] → v.2 = false)
    {o r q p : Nat} {R rpre rsuf : List CV} {cs : Cells} (hq : q = rpre.length) (hw : WS cs o r R q 0) (hR : R = rpre ++ rowsAt p (sg [ob] :: (inner exToks v ++ [sg [ec]])) ++ rsuf)
    (hp : p + (txtOf (sg [ob] :: (inner exToks v ++ [sg [ec]]))).length ≤ 90000) (b : Nat) (hb : 17 ≤ b) :
    ∃ cs', callB funs globs b 35 [.obj o, .str [ob], .str [ec]] cs = .ok (.tup (treesAt exToks (exTree 0) (p + 1) v.1)) cs' ∧
      WS cs' o r R (q + (inner exToks v).length + 2) 0 ∧ Frm o r cs cs' := by
  obtain ⟨b, rfl⟩ := Nat.exists_eq_add_of_le' (show 1 ≤ b from Nat.le_trans (by decide) hb)
  have hb' : 16 ≤ b := Nat.le_of_succ_le_succ hb
  have hb3 : 3 ≤ b := Nat.le_trans (by decide) hb'
  subst hq
  obtain ⟨hq0, hR', hend⟩ := rows_in hR
  obtain ⟨cs1, a1, a2, a3⟩ := expect0 hw hq0 [ob] (sg_self _) (sg_kind _) b hb3
  have hco := Nat.ne_of_gt (get_lt a2.ob)
  have hcr := Nat.ne_of_gt (get_lt a2.rw_)
  have hcl : looksLike (sg [ec]) [44] = false := by rcases hec with rfl | rfl <;> rfl
  have hex : exOK ec = true := by
    rcases hec with rfl | rfl
    · exact exOK_41
    · exact exOK_93
  have ht : ∀ cs q p t k, WS cs o r R q 0 → R[q]? = some (row p t) → looksLike t [ec] = k → evS globs (callB funs globs b) (.not (.meth (.v 0) 14 [.v 2])) ([some (.obj o), some (.str [ob]), some (.str [ec]), some (.lst cs1.length)], cs) = .ok (.bool (!k)) ([some (.obj o), some (.str [ob]), some (.str [ec]), some (.lst cs1.length)], cs) := fun cs q p t k hw hq hk => by
    have := looks0 hw hq [ec] b (Nat.le_trans (by decide) hb3)
    rw [hk] at this
    exact eS (e_not (e_meth (e_v rfl) hw.isI (e_1 (e_v rfl) e_0) this))
  obtain ⟨cs3, b1, g⟩ := list_loop (i := 3) (F := 23) (l := [some (.obj o), some (.str [ob]), some (.str [ec]), some (.lst cs1.length)]) hb' rfl rfl hco hcr (Nat.le_refl _) rfl hcl (fun cs q p hw hq => ht cs q p _ true hw hq (sg_self _))
    (fun cs q p t r' e hw hq _ he => ht cs q p t false hw hq (exHead he hec)) hv0 hv2 (fun e he => exPart hex (hv e he)) (by rw [List.length_append]; exact a2.push) hR' (by rw [Nat.add_right_comm]; exact hp) (listAt_of (get_end cs1 _))
  rw [List.length_append] at g
  obtain ⟨cs4, d1, d2, d3⟩ := expect0 g.ws hend [ec] (sg_self _) (sg_kind _) b hb3
  have hc4 := (congrArg (Option.bind · Cell.asList) (d3.at_ cs1.length (get_lt (listAt_some g.ls)) hco hcr)).trans g.ls
  refine ⟨cs4, call_ret (d := f_read_list) (l := [some (.obj o), some (.str [ob]), some (.str [ec]), none]) (s := ([some (.obj o), some (.str [ob]), some (.str [ec]), some (.lst cs1.length)], cs4)) rfl rfl
    (ss_1 (s_ex (e_meth (e_v rfl) hw.isI (e_1 (e_v rfl) e_0) a1)) (ss_1 (s_asg (e_lst e_0)) (ss_1 b1 (ss_1 (s_ex (e_meth (e_v rfl) g.ws.isI (e_1 (e_v rfl) e_0) d1)) (ss_ret (s_ret (e_tupof (e_v rfl) hc4 (by rw [trees_len]; exact Nat.le_trans hv2 (by decide))))))))), ?_, a3.around g.fr d3⟩
  rw [show rpre.length + (inner exToks v).length + 2 = rpre.length + 1 + (inner exToks v).length + 1 by omega]; exact d2
end Mine.L
end

section
namespace Mine.L
open PySem

theorem take1 {s : List Nat} (h : s.length ≤ 100) : slcOp (.str s) none (some (.int 1)) = some (.str (s.take 1)) := by
  show slcStr s none (some (.int 1)) = _
  exact ofIf_pos ⟨Nat.le_trans h (by decide), rfl⟩
theorem closes_ok {cs o r rows q d p t} (h : WS cs o r rows q d) (hv : rows[q]? = some (row p t)) (ht : t.s.length ≤ 100) (b : Nat) (hb : 2 ≤ b) :
    callB funs globs b 34 [.obj o] cs = .ok (.bool (opens t)) cs := by
  obtain ⟨b, rfl⟩ := Nat.exists_eq_add_of_le' hb
  refine call_ret (b := b + 1) (d := f_closes) (l := [some (.obj o), none]) (s := ([some (.obj o), some (row p t)], cs)) rfl rfl (ss_1 (s_asg (e_meth (e_v rfl) h.isI e_0 (peek0 h hv (b + 1) (Nat.le_add_left 1 b)))) (ss_ret (s_ret ?_)))
  by_cases hk : t.kind = kSign
  · have e : opens t = decide (t.s.take 1 = [62]) := by unfold opens; rw [decide_eq_true hk]; rfl
    rw [e]
    exact e_b1 (e_cmp (e_sub (e_v rfl) (e_k rfl) row0) (e_k rfl) (congrArg some (decide_eq_true hk))) (e_bl (e_cmp (e_slc (e_sub (e_v rfl) (e_k rfl) row1) o_0 (o_1 (e_k rfl)) (take1 ht)) (e_k rfl) rfl))
  · have e : opens t = false := by unfold opens; rw [decide_eq_false hk]; rfl
    rw [e]
    exact e_b0 (e_cmp (e_sub (e_v rfl) (e_k rfl) row0) (e_k rfl) (congrArg some (decide_eq_false hk))) ff_tt

noncomputable def rowsClosed (R : List CV) (q p : Nat) (m : List Nat) : List CV := if m = [] then R else R.set q (row (p + 1) (sg m))
noncomputable def placeClosed (q : Nat) (m : List Nat) : Nat := if m = [] then q + 1 else q

theorem split_ok {cs o r R q p m} (h : WS cs o r R q 0) (hv : R[q]? = some (row p (sg (62 :: m)))) (hm : m.length ≤ 10) (b : Nat) (hb : 2 ≤ b) :
    ∃ cs' v, callB funs globs b 17 [.obj o] cs = .ok v cs' ∧ WS cs' o r (rowsClosed R q p m) (placeClosed q m) 0 ∧ Frm o r cs cs' := by
  obtain ⟨b, rfl⟩ := Nat.exists_eq_add_of_le' hb
  have hl : (62 :: m).length ≤ 100 := Nat.le_trans (Nat.succ_le_succ hm) (by decide)
  have hk0 : evX globs (callB funs globs (b + 1)) (.bop false [.cmp .NotEq (.sub (.v 1) (.k (.int 0))) (.k (.str [115, 105, 103, 110])), .cmp .NotEq (.slc (.sub (.v 1) (.k (.int 1))) none (some (.k (.int 1)))) (.k (.str [62]))])
      [some (.obj o), some (row p (sg (62 :: m)))] cs = .ok (.bool false) cs :=
    e_b1 (e_cmp (e_sub (e_v rfl) (e_k rfl) row0) (e_k rfl) rfl) (e_bl (e_cmp (e_slc (e_sub (e_v rfl) (e_k rfl) row1) o_0 (o_1 (e_k rfl)) (take1 hl)) (e_k rfl) rfl))
  have go : ∀ {cs'}, exS globs (callB funs globs (b + 1)) (.ife (.cmp .Eq (.sub (.v 1) (.k (.int 1))) (.k (.str [62]))) [.auga (.v 0) 1 .Add (.k (.int 1))] [.seti (.attr (.v 0) 0) (.attr (.v 0) 1) (.tup [.k (.str [115, 105, 103, 110]), .slc (.sub (.v 1) (.k (.int 1))) (some (.k (.int 1))) none, .bin .Add (.sub (.v 1) (.k (.int 2))) (.k (.int 1)), .k .none, .k .none])])
      ([some (.obj o), some (row p (sg (62 :: m)))], cs) = .ok .next ([some (.obj o), some (row p (sg (62 :: m)))], cs') → callB funs globs (b + 1 + 1) 17 [.obj o] cs = .ok (.tup [.str [115, 105, 103, 110], .str [62], .int p, .none, .none]) cs' := fun k =>
    call_ret (b := b + 1) (d := f_split_close) (l := [some (.obj o), none]) (s := ([some (.obj o), some (row p (sg (62 :: m)))], _)) rfl rfl
      (ss_1 (s_asg (e_meth (e_v rfl) h.isI e_0 (peek0 h hv (b + 1) (Nat.le_add_left 1 b)))) (ss_1 (s_if0 hk0 ss_0) (ss_1 k (ss_ret (s_ret (e_tup (e_1 (e_k rfl) (e_1 (e_k rfl) (e_1 (e_sub (e_v rfl) (e_k rfl) row2) (e_1 (e_k rfl) (e_1 (e_k rfl) e_0)))))))))))
  by_cases hm0 : m = []
  · obtain ⟨cs', h1, h2, h3⟩ := h.put1 (q + 1)
    have e1 : rowsClosed R q p m = R := if_pos hm0
    have e2 : placeClosed q m = q + 1 := if_pos hm0
    rw [e1, e2]
    exact ⟨cs', _, go (s_if1 (e_cmp (e_sub (e_v rfl) (e_k rfl) row1) (e_k rfl) (congrArg some (decide_eq_true (congrArg (62 :: ·) hm0)))) (ss_1 (s_auga (e_v rfl) h.at1 (e_k rfl) rfl h1) ss_0)), h2, h3⟩
  · have hq := get_lt hv
    have hlim := h.lim
    have e1 : rowsClosed R q p m = R.set q (row (p + 1) (sg m)) := if_neg hm0
    have e2 : placeClosed q m = q := if_neg hm0
    rw [e1, e2]
    have e3 : slcOp (.str (62 :: m)) (some (.int 1)) none = some (.str m) := by
      show slcStr (62 :: m) (some (.int 1)) none = _
      refine (ofIf_pos ⟨Nat.le_trans hl (by decide), rfl⟩).trans (congrArg (fun z => some (CV.str z)) ?_)
      rw [List.take_length]; rfl
    refine ⟨cs.set r (.list (R.set q (row (p + 1) (sg m)))), _, go (s_if0 (e_cmp (e_sub (e_v rfl) (e_k rfl) row1) (e_k rfl) (congrArg some (decide_eq_false fun e => hm0 (List.cons.inj e).2)))
      (ss_1 (s_seti (j := (q : Int)) (e_tup (e_1 (e_k rfl) (e_1 (e_slc (e_sub (e_v rfl) (e_k rfl) row1) (o_1 (e_k rfl)) o_0 e3) (e_1 (e_bin (e_sub (e_v rfl) (e_k rfl) row2) (e_k rfl) rfl) (e_1 (e_k rfl) (e_1 (e_k rfl) e_0)))))) (e_attr (e_v rfl) h.at0) (e_attr (e_v rfl) h.at1) h.listAt ⟨Int.natCast_nonneg q, by omega, hq⟩) ss_0)),
      ⟨(List.getElem?_set_ne (Ne.symm h.ne)).trans h.ob, List.getElem?_set_self (get_lt h.rw_), h.ne, by rw [List.length_set]; exact hlim⟩, Nat.le_of_eq List.length_set.symm, fun j hj h1 h2 => List.getElem?_set_ne (Ne.symm h2)⟩

theorem read_types_ok {v : Var} {m : List Nat} (hm : tyOK m = true) (hml : m.length ≤ 10) (hv : ∀ e ∈ v.1, e < 3) (hv2 : v.1.length ≤ 900) (hv0 : v.1 = [] → v.2 = false)
    {o r q p : Nat} {R rpre rsuf : List CV} {cs : Cells} (hq : q = rpre.length) (hw : WS cs o r R q 0) (hR : R = rpre ++ rowsAt p (sg [60] :: (inner tyToks v ++ [sg (62 :: m)])) ++ rsuf)
    (hp : p + (txtOf (sg [60] :: (inner tyToks v ++ [sg (62 :: m)]))).length ≤ 90000) (b : Nat) (hb : 17 ≤ b) :
    ∃ cs', callB funs globs b 33 [.obj o] cs = .ok (.tup (treesAt tyToks (tyTree 0) (p + 1) v.1)) cs' ∧
      WS cs' o r (rowsClosed R (q + 1 + (inner tyToks v).length) (p + 1 + (txtOf (inner tyToks v)).length) m) (placeClosed (q + 1 + (inner tyToks v).length) m) 0 ∧ Frm o r cs cs' := by
  obtain ⟨b, rfl⟩ := Nat.exists_eq_add_of_le' (show 1 ≤ b from Nat.le_trans (by decide) hb)
  have hb' : 16 ≤ b := Nat.le_of_succ_le_succ hb
  have hb3 : 3 ≤ b := Nat.le_trans (by decide) hb'
  have hb2 : 2 ≤ b := Nat.le_trans (by decide) hb3
  subst hq
  obtain ⟨hq0, hR', hend⟩ := rows_in hR
  obtain ⟨cs1, a1, a2, a3⟩ := expect0 hw hq0 [60] (sg_self _) (sg_kind _) b hb3
  have hco := Nat.ne_of_gt (get_lt a2.ob)
  have hcr := Nat.ne_of_gt (get_lt a2.rw_)
  have hcl : looksLike (sg (62 :: m)) [44] = false := (sg_looks _ _).trans (decide_eq_false fun e => absurd (List.cons.inj e).1 (by decide))
  have ht : ∀ cs q p t k, WS cs o r R q 0 → R[q]? = some (row p t) → t.s.length ≤ 100 → opens t = k → evS globs (callB funs globs b) (.not (.call 34 [.v 0])) ([some (.obj o), some (.lst cs1.length)], cs) = .ok (.bool (!k)) ([some (.obj o), some (.lst cs1.length)], cs) := fun cs q p t k hw hq hl hk => by
    have := closes_ok hw hq hl b hb2
    rw [hk] at this
    exact eS (e_not (e_call (e_1 (e_v rfl) e_0) this))
  obtain ⟨cs3, b1, g⟩ := list_loop (i := 1) (F := 18) (l := [some (.obj o), some (.lst cs1.length)]) hb' rfl rfl hco hcr (Nat.le_refl _) rfl hcl (fun cs q p hw hq => ht cs q p _ true hw hq (Nat.le_trans (Nat.succ_le_succ hml) (by decide)) rfl)
    (fun cs q p t r' e hw hq _ he => ht cs q p t false hw hq (tyHead he).1 (tyHead he).2) hv0 hv2 (fun e he => tyPart hm (hv e he)) (by rw [List.length_append]; exact a2.push) hR' (by rw [Nat.add_right_comm]; exact hp) (listAt_of (get_end cs1 _))
  rw [List.length_append] at g
  obtain ⟨cs4, w, d1, d2, d3⟩ := split_ok g.ws hend hml b hb2
  have hc4 := (congrArg (Option.bind · Cell.asList) (d3.at_ cs1.length (get_lt (listAt_some g.ls)) hco hcr)).trans g.ls
  exact ⟨cs4, call_ret (d := f_read_types) (l := [some (.obj o), none]) (s := ([some (.obj o), some (.lst cs1.length)], cs4)) rfl rfl
    (ss_1 (s_ex (e_meth (e_v rfl) hw.isI (e_1 (e_k rfl) e_0) a1)) (ss_1 (s_asg (e_lst e_0)) (ss_1 b1 (ss_1 (s_ex (e_meth (e_v rfl) g.ws.isI e_0 d1)) (ss_ret (s_ret (e_tupof (e_v rfl) hc4 (by rw [trees_len]; exact Nat.le_trans hv2 (by decide))))))))), d2, a3.around g.fr d3⟩
end Mine.L
end

section
namespace Mine.L
open PySem

theorem name_ok {cs o r R q p t} (h : WS cs o r R q 0) (hv : R[q]? = some (row p t)) (hk : t.kind = kName) (hw : ∀ cs, cmpOp cs .In (.str t.s) g_KEYWORDS = some false) (b : Nat) (hb : 2 ≤ b) :
    ∃ cs', callB funs globs b 16 [.obj o] cs = .ok (.tup [.str t.s, .int p]) cs' ∧ WS cs' o r R (q + 1) 0 ∧ Frm o r cs cs' := by
  obtain ⟨b, rfl⟩ := Nat.exists_eq_add_of_le' hb
  obtain ⟨cs', h1, h2, h3⟩ := h.put1 (q + 1)
  exact ⟨cs', call_ret (b := b + 1) (d := f_name) (l := [some (.obj o), none]) (s := ([some (.obj o), some (row p t)], cs')) rfl rfl
    (ss_1 (s_asg (e_meth (e_v rfl) h.isI e_0 (peek0 h hv (b + 1) (Nat.le_add_left 1 b)))) (ss_1 (s_if0 (e_b1 (e_cmp (e_sub (e_v rfl) (e_k rfl) row0) (e_k rfl) (ne_no hk)) (e_bl (e_cmp (e_sub (e_v rfl) (e_k rfl) row1) (e_g rfl) (hw cs)))) ss_0)
      (ss_1 (s_auga (e_v rfl) h.at1 (e_k rfl) rfl h1) (ss_ret (s_ret (e_tup (e_1 (e_sub (e_v rfl) (e_k rfl) row1) (e_1 (e_sub (e_v rfl) (e_k rfl) row2) e_0)))))))), h2, h3⟩

theorem place_ok {p : Nat} {t : Tok} (n : Int) (hn : t.val = .int n) (hs : strOf (.int n) = some (.str t.s)) (cs : Cells) (b : Nat) (hb : 1 ≤ b) :
    callB funs globs b 32 [row p t] cs = .ok (.str t.s) cs := by
  obtain ⟨b, rfl⟩ := Nat.exists_eq_add_of_le' hb
  rw [← hn] at hs
  exact call_ret (d := f_place_name) (l := [some (row p t)]) (s := ([some (row p t)], cs)) rfl rfl
    (ss_1 (s_if0 (e_cmp (e_sub (e_v rfl) (e_k rfl) row1) (e_strof (e_sub (z := t.val) (e_v rfl) (e_k rfl) rfl) hs) (ne_no rfl)) ss_0) (ss_ret (s_ret (e_sub (e_v rfl) (e_k rfl) row1))))

noncomputable def sField : List Nat := [102, 105, 101, 108, 100]
noncomputable def sMethod : List Nat := [109, 101, 116, 104, 111, 100]
noncomputable def sCall : List Nat := [99, 97, 108, 108]
noncomputable def sIndex : List Nat := [105, 110, 100, 101, 120]
theorem eq_yes {cs : Cells} {a b : List Nat} (h : a = b) : cmpOp cs .Eq (.str a) (.str b) = some true := congrArg some (decide_eq_true h)
theorem eq_no {cs : Cells} {a b : List Nat} (h : a ≠ b) : cmpOp cs .Eq (.str a) (.str b) = some false := congrArg some (decide_eq_false h)

theorem member_int {cs o r R q p t T} (h : WS cs o r R q 0) (hv : R[q]? = some (row p t)) (hk : t.kind = kInt) (hsf : t.suf = .none)
    (n : Int) (hn : t.val = .int n) (hs : strOf (.int n) = some (.str t.s)) (hT : ∀ cs, subOp cs T (.int 1) = some (.int 77)) (b : Nat) (hb : 4 ≤ b) :
    ∃ cs', callB funs globs b 31 [.obj o, T] cs = .ok (.tup [.str sField, .int 77, T, .str t.s]) cs' ∧ WS cs' o r R (q + 1) 0 ∧ Frm o r cs cs' := by
  obtain ⟨b, rfl⟩ := Nat.exists_eq_add_of_le' (show 1 ≤ b from Nat.le_trans (by decide) hb)
  have hb1 : 1 ≤ b := Nat.le_trans (by decide) (Nat.le_of_succ_le_succ hb)
  obtain ⟨cs', h1, h2, h3⟩ := take0 h hv (by rw [hk]; decide) b (Nat.le_trans (by decide) (Nat.le_of_succ_le_succ hb))
  have e2 : cmpOp cs' .IsNot t.suf .none = some false := by rw [hsf]; rfl
  exact ⟨cs', call_ret (d := f_read_member) (l := [some (.obj o), some T, none, none, none, none]) (s := ([some (.obj o), some T, some (row p t), none, none, none], cs')) rfl rfl
    (ss_1 (s_asg (e_meth (e_v rfl) h.isI e_0 (peek0 h hv b hb1))) (ss_ret (s_if1 (e_cmp (e_sub (e_v rfl) (e_k rfl) row0) (e_k rfl) (eq_yes hk)) (ss_1 (s_ex (e_meth (e_v rfl) h.isI e_0 h1)) (ss_1 (s_if0 (e_cmp (e_sub (e_v rfl) (e_k rfl) row4) (e_k rfl) e2) ss_0)
      (ss_ret (s_ret (e_tup (e_1 (e_k rfl) (e_1 (e_sub (e_v rfl) (e_k rfl) (hT _)) (e_1 (e_v rfl) (e_1 (e_call (e_1 (e_v rfl) e_0) (place_ok (p := p) n hn hs cs' b hb1)) e_0)))))))))))), h2, h3⟩

/-- a member that begins with a name: what is done first -/
theorem member_hd {cs cs1 o r R q p t T} (h : WS cs o r R q 0) (hv : R[q]? = some (row p t)) (hk : t.kind = kName) {b : Nat} (hb : 1 ≤ b) (h1 : callB funs globs b 16 [.obj o] cs = .ok (.tup [.str t.s, .int p]) cs1) {v : CV} {s : St}
    (k : exSs globs (callB funs globs b) (f_read_member.body.drop 4) ([some (.obj o), some T, some (row p t), some (.str t.s), some (.int p), some (.tup [])], cs1) = .ok (.ret v) s) : callB funs globs (b + 1) 31 [.obj o, T] cs = .ok v s.2 :=
  call_ret (d := f_read_member) (l := [some (.obj o), some T, none, none, none, none]) (s := s) rfl rfl
    (ss_1 (s_asg (e_meth (e_v rfl) h.isI e_0 (peek0 h hv b hb))) (ss_1 (s_if0 (e_cmp (e_sub (e_v rfl) (e_k rfl) row0) (e_k rfl) (eq_no (by rw [hk]; decide))) ss_0) (ss_1 (s_asgs (e_meth (e_v rfl) h.isI e_0 h1) rfl) (ss_1 (s_asg (e_tup e_0)) k))))

theorem member_fld {cs o r R q p t T p' u} (h : WS cs o r R q 0) (hv : R[q]? = some (row p t)) (hk : t.kind = kName) (hw : ∀ cs, cmpOp cs .In (.str t.s) g_KEYWORDS = some false)
    (hu : R[q + 1]? = some (row p' u)) (hu1 : looksLike u [58, 58] = false) (hu2 : looksLike u [40] = false)
    (hT : ∀ cs, subOp cs T (.int 1) = some (.int 77)) (b : Nat) (hb : 4 ≤ b) :
    ∃ cs', callB funs globs b 31 [.obj o, T] cs = .ok (.tup [.str sField, .int 77, T, .str t.s]) cs' ∧ WS cs' o r R (q + 1) 0 ∧ Frm o r cs cs' := by
  obtain ⟨b, rfl⟩ := Nat.exists_eq_add_of_le' (show 1 ≤ b from Nat.le_trans (by decide) hb)
  have hb2 : 2 ≤ b := Nat.le_trans (by decide) (Nat.le_of_succ_le_succ hb)
  obtain ⟨cs', h1, h2, h3⟩ := name_ok h hv hk hw b hb2
  have l1 := looks0 h2 hu [58, 58] b hb2
  have l2 := looks0 h2 hu [40] b hb2
  rw [hu1] at l1
  rw [hu2] at l2
  exact ⟨cs', member_hd (s := ([some (.obj o), some T, some (row p t), some (.str t.s), some (.int p), some (.tup [])], cs')) h hv hk (Nat.le_of_succ_le hb2) h1 (ss_1 (s_if0 (e_meth (e_v rfl) h2.isI (e_1 (e_k rfl) e_0) l1) ss_0)
    (ss_1 (s_if0 (e_meth (e_v rfl) h2.isI (e_1 (e_k rfl) e_0) l2) ss_0) (ss_ret (s_ret (e_tup (e_1 (e_k rfl) (e_1 (e_sub (e_v rfl) (e_k rfl) (hT _)) (e_1 (e_v rfl) (e_1 (e_v rfl) e_0))))))))), h2, h3⟩

/-- a bracket behind a name: the last two rows of the text -/
theorem member_br {cs cs' : Cells} {o r : Nat} {R : List CV} {q p' : Nat} {t : Tok} {b : Nat} {T Y V x y : CV} (h2 : WS cs o r R q 0) (hu : R[q]? = some (row p' (sg [40]))) (hT : ∀ cs, subOp cs T (.int 1) = some (.int 77)) (hb : 2 ≤ b)
    (k1 : callB funs globs b 35 [.obj o, .str [40], .str [41]] cs = .ok V cs') :
    exSs globs (callB funs globs b) (f_read_member.body.drop 5) ([some (.obj o), some T, some x, some (.str t.s), some y, some Y], cs) = .ok (.ret (.tup [.str sMethod, .int 77, T, .str t.s, Y, V])) ([some (.obj o), some T, some x, some (.str t.s), some y, some Y], cs') := by
  have l2 := looks0 h2 hu [40] b hb
  rw [sg_self] at l2
  exact ss_ret (s_if1 (e_meth (e_v rfl) h2.isI (e_1 (e_k rfl) e_0) l2) (ss_ret (s_ret (e_tup (e_1 (e_k rfl) (e_1 (e_sub (e_v rfl) (e_k rfl) (hT _)) (e_1 (e_v rfl) (e_1 (e_v rfl) (e_1 (e_v rfl) (e_1 (e_call (e_1 (e_v rfl) (e_1 (e_k rfl) (e_1 (e_k rfl) e_0))) k1) e_0))))))))))

theorem member_mth {cs o r R q p t T p' q' V} (h : WS cs o r R q 0) (hv : R[q]? = some (row p t)) (hk : t.kind = kName) (hw : ∀ cs, cmpOp cs .In (.str t.s) g_KEYWORDS = some false)
    (hu : R[q + 1]? = some (row p' (sg [40])))
    (hT : ∀ cs, subOp cs T (.int 1) = some (.int 77)) (b : Nat) (hb : 4 ≤ b)
    (HL : ∀ cs, WS cs o r R (q + 1) 0 → ∃ cs', callB funs globs b 35 [.obj o, .str [40], .str [41]] cs = .ok V cs' ∧ WS cs' o r R q' 0 ∧ Frm o r cs cs') :
    ∃ cs', callB funs globs (b + 1) 31 [.obj o, T] cs = .ok (.tup [.str sMethod, .int 77, T, .str t.s, .tup [], V]) cs' ∧ WS cs' o r R q' 0 ∧ Frm o r cs cs' := by
  have hb2 : 2 ≤ b := Nat.le_trans (by decide) hb
  obtain ⟨cs1, h1, h2, h3⟩ := name_ok h hv hk hw b hb2
  have l1 := looks0 h2 hu [58, 58] b hb2
  obtain ⟨cs', k1, k2, k3⟩ := HL cs1 h2
  exact ⟨cs', member_hd h hv hk (Nat.le_of_succ_le hb2) h1 (ss_1 (s_if0 (e_meth (e_v rfl) h2.isI (e_1 (e_k rfl) e_0) l1) ss_0) (member_br h2 hu hT hb2 k1)), k2, h3.trans k3⟩

theorem member_mty {cs o r R q p t T p' q' p2 q2 V Y} (h : WS cs o r R q 0) (hv : R[q]? = some (row p t)) (hk : t.kind = kName) (hw : ∀ cs, cmpOp cs .In (.str t.s) g_KEYWORDS = some false)
    (hu : R[q + 1]? = some (row p' (sg [58, 58]))) (hu2 : R[q2]? = some (row p2 (sg [40])))
    (hT : ∀ cs, subOp cs T (.int 1) = some (.int 77)) (b : Nat) (hb : 4 ≤ b)
    (HT : ∀ cs, WS cs o r R (q + 2) 0 → ∃ cs', callB funs globs b 33 [.obj o] cs = .ok Y cs' ∧ WS cs' o r R q2 0 ∧ Frm o r cs cs')
    (HL : ∀ cs, WS cs o r R q2 0 → ∃ cs', callB funs globs b 35 [.obj o, .str [40], .str [41]] cs = .ok V cs' ∧ WS cs' o r R q' 0 ∧ Frm o r cs cs') :
    ∃ cs', callB funs globs (b + 1) 31 [.obj o, T] cs = .ok (.tup [.str sMethod, .int 77, T, .str t.s, Y, V]) cs' ∧ WS cs' o r R q' 0 ∧ Frm o r cs cs' := by
  have hb2 : 2 ≤ b := Nat.le_trans (by decide) hb
  obtain ⟨cs1, h1, h2, h3⟩ := name_ok h hv hk hw b hb2
  have l1 := looks0 h2 hu [58, 58] b hb2
  obtain ⟨cs2, t1, t2, t3⟩ := take0 h2 hu (sg_kind _) b hb2
  obtain ⟨cs3, y1, y2, y3⟩ := HT cs2 t2
  have l2 := looks0 y2 hu2 [40] b hb2
  obtain ⟨cs', k1, k2, k3⟩ := HL cs3 y2
  exact ⟨cs', member_hd h hv hk (Nat.le_of_succ_le hb2) h1 (ss_1 (s_if1 (e_meth (e_v rfl) h2.isI (e_1 (e_k rfl) e_0) l1) (ss_1 (s_ex (e_meth (e_v rfl) h2.isI e_0 t1)) (ss_1 (s_asg (e_call (e_1 (e_v rfl) e_0) y1))
    (ss_1 (s_if0 (e_not (e_meth (e_v rfl) y2.isI (e_1 (e_k rfl) e_0) l2)) ss_0) ss_0)))) (member_br y2 hu2 hT hb2 k1)), k2, ((h3.trans t3).trans y3).trans k3⟩
end Mine.L
end

section
namespace Mine.L
open PySem

noncomputable def nameS : Nat → List Nat
  | 0 => [48]
  | 1 => [49, 50]
  | 2 => [108, 101, 110]
  | 3 => [121, 49]
  | _ => [103, 101, 116]
noncomputable def nameTok : Nat → Tok
  | 0 => num [48] 0 .none
  | 1 => num [49, 50] 12 .none
  | n => nm (nameS n)
noncomputable def dots (sp : Bool) : Tok := if sp then (sg [46]).sp else sg [46]
noncomputable def nmT (n : Nat) (sp : Bool) : Tok := if sp then (nameTok n).sp else nameTok n

inductive Seg where
  | call (v : Var)
  | idx (e : Nat)
  | fld (n : Nat) (sp : Bool)
  | mth (n : Nat) (sp : Bool) (v : Var)
  | mty (t v : Var)

noncomputable def brE (v : Var) : List Tok := sg [40] :: (inner exToks v ++ [sg [41]])
noncomputable def brT (t : Var) : List Tok := sg [60] :: (inner tyToks t ++ [sg [62]])
noncomputable def segToks : Seg → List Tok
  | .call v => brE v
  | .idx e => sg [91] :: (exToks e ++ [sg [93]])
  | .fld n sp => [dots sp, nmT n sp]
  | .mth n sp v => dots sp :: nmT n sp :: brE v
  | .mty t v => sg [46] :: nm [109] :: sg [58, 58] :: (brT t ++ brE v)
noncomputable def VarOK (n : Nat) (v : Var) : Prop := (∀ e ∈ v.1, e < n) ∧ v.1.length ≤ 2 ∧ (v.1 = [] → v.2 = false)
noncomputable def segOK : Seg → Prop
  | .call v => VarOK 5 v
  | .idx e => e < 5
  | .fld n _ => n < 4
  | .mth n _ v => 2 ≤ n ∧ n < 5 ∧ VarOK 5 v
  | .mty t v => VarOK 3 t ∧ VarOK 5 v
noncomputable def lenT (ts : List Tok) : Nat := (txtOf ts).length
noncomputable def valsAt (p : Nat) (v : Var) : CV := .tup (treesAt exToks (exTree 0) (p + 1) v.1)
noncomputable def typesAt (p : Nat) (v : Var) : CV := .tup (treesAt tyToks (tyTree 0) (p + 1) v.1)
noncomputable def segTree (p : Nat) (T : CV) : Seg → CV
  | .call v => .tup [.str sCall, .int 77, T, valsAt p v]
  | .idx e => .tup [.str sIndex, .int 77, T, δ (p + 1) (exTree 0 e)]
  | .fld n _ => .tup [.str sField, .int 77, T, .str (nameS n)]
  | .mth n sp v => .tup [.str sMethod, .int 77, T, .str (nameS n), .tup [], valsAt (p + lenT [dots sp, nmT n sp]) v]
  | .mty t v => .tup [.str sMethod, .int 77, T, .str [109], typesAt (p + 4) t, valsAt (p + 4 + lenT (brT t)) v]

noncomputable def postBody : List S := [.ife (.meth (.v 0) 14 [.k (.str [40])]) [.asg 1 (.tup [.k (.str [99, 97, 108, 108]), .sub (.v 1) (.k (.int 1)), .v 1, .call 35 [.v 0, .k (.str [40]), .k (.str [41])]])] [.ife (.meth (.v 0) 14 [.k (.str [91])]) [.ex (.meth (.v 0) 13 []), .asg 2 (.call 23 [.v 0]), .ex (.meth (.v 0) 15 [.k (.str [93])]), .asg 1 (.tup [.k (.str [105, 110, 100, 101, 120]), .sub (.v 1) (.k (.int 1)), .v 1, .v 2])] [.ife (.meth (.v 0) 14 [.k (.str [46])]) [.ex (.meth (.v 0) 13 []), .asg 1 (.call 31 [.v 0, .v 1])] [.ret (.v 1)]]]]

section
variable {C : Orc} {o : Nat} {T V x y : CV} {w : Option CV} {cs cs1 cs2 cs3 : Cells}
theorem looks_k {l : Loc} {s : List Nat} {v : Bool} (hl : l[0]?.join = some (.obj o)) (hi : isInst cs o = true) (h : C 14 [.obj o, .str s] cs = .ok (.bool v) cs) :
    evX globs C (.meth (.v 0) 14 [.k (.str s)]) l cs = .ok (.bool v) cs := e_meth (e_v hl) hi (e_1 (e_k rfl) e_0) h

theorem turn_call (hi : isInst cs o = true) (hT : ∀ cs, subOp cs T (.int 1) = some (.int 77))
    (h1 : C 14 [.obj o, .str [40]] cs = .ok (.bool true) cs) (h2 : C 35 [.obj o, .str [40], .str [41]] cs = .ok V cs1) :
    exSs globs C postBody ([some (.obj o), some T, w], cs) = .ok .next ([some (.obj o), some (.tup [.str sCall, .int 77, T, V]), w], cs1) :=
  ss_1 (s_if1 (looks_k rfl hi h1) (ss_1 (s_asg (e_tup (e_1 (e_k rfl) (e_1 (e_sub (e_v rfl) (e_k rfl) (hT _)) (e_1 (e_v rfl) (e_1 (e_call (e_1 (e_v rfl) (e_1 (e_k rfl) (e_1 (e_k rfl) e_0))) h2) e_0)))))) ss_0)) ss_0

theorem turn_index (hi : isInst cs o = true) (hi2 : isInst cs2 o = true) (hT : ∀ cs, subOp cs T (.int 1) = some (.int 77))
    (h1 : C 14 [.obj o, .str [40]] cs = .ok (.bool false) cs) (h2 : C 14 [.obj o, .str [91]] cs = .ok (.bool true) cs) (h3 : C 13 [.obj o] cs = .ok x cs1)
    (h4 : C 23 [.obj o] cs1 = .ok V cs2) (h5 : C 15 [.obj o, .str [93]] cs2 = .ok y cs3) :
    exSs globs C postBody ([some (.obj o), some T, w], cs) = .ok .next ([some (.obj o), some (.tup [.str sIndex, .int 77, T, V]), some V], cs3) :=
  ss_1 (s_if0 (looks_k rfl hi h1) (ss_1 (s_if1 (looks_k rfl hi h2) (ss_1 (s_ex (e_meth (e_v rfl) hi e_0 h3)) (ss_1 (s_asg (e_call (e_1 (e_v rfl) e_0) h4)) (ss_1 (s_ex (e_meth (e_v rfl) hi2 (e_1 (e_k rfl) e_0) h5))
    (ss_1 (s_asg (e_tup (e_1 (e_k rfl) (e_1 (e_sub (e_v rfl) (e_k rfl) (hT _)) (e_1 (e_v rfl) (e_1 (e_v rfl) e_0)))))) ss_0))))) ss_0)) ss_0

theorem turn_dot (hi : isInst cs o = true)
    (h1 : C 14 [.obj o, .str [40]] cs = .ok (.bool false) cs) (h2 : C 14 [.obj o, .str [91]] cs = .ok (.bool false) cs) (h3 : C 14 [.obj o, .str [46]] cs = .ok (.bool true) cs)
    (h4 : C 13 [.obj o] cs = .ok x cs1) (h5 : C 31 [.obj o, T] cs1 = .ok V cs2) :
    exSs globs C postBody ([some (.obj o), some T, w], cs) = .ok .next ([some (.obj o), some V, w], cs2) :=
  ss_1 (s_if0 (looks_k rfl hi h1) (ss_1 (s_if0 (looks_k rfl hi h2) (ss_1 (s_if1 (looks_k rfl hi h3) (ss_1 (s_ex (e_meth (e_v rfl) hi e_0 h4)) (ss_1 (s_asg (e_call (e_1 (e_v rfl) (e_1 (e_v rfl) e_0)) h5)) ss_0))) ss_0)) ss_0)) ss_0

theorem turn_end (hi : isInst cs o = true)
    (h1 : C 14 [.obj o, .str [40]] cs = .ok (.bool false) cs) (h2 : C 14 [.obj o, .str [91]] cs = .ok (.bool false) cs) (h3 : C 14 [.obj o, .str [46]] cs = .ok (.bool false) cs) :
    exSs globs C postBody ([some (.obj o), some T, w], cs) = .ok (.ret T) ([some (.obj o), some T, w], cs) :=
  ss_ret (s_if0 (looks_k rfl hi h1) (ss_ret (s_if0 (looks_k rfl hi h2) (ss_ret (s_if0 (looks_k rfl hi h3) (ss_ret (s_ret (e_v rfl))))))))
end

theorem segTree_1 (p : Nat) (T : CV) : ∀ s cs, subOp cs (segTree p T s) (.int 1) = some (.int 77)
  | .call _, _ => rfl
  | .idx _, _ => rfl
  | .fld _ _, _ => rfl
  | .mth _ _ _, _ => rfl
  | .mty _ _, _ => rfl

theorem vals_le {v : Var} (h : VarOK n v) : v.1.length ≤ 900 := Nat.le_trans h.2.1 (by decide)

/-- behind a field's name stands no bracket and no mark of types -/
noncomputable def behind (u : Tok) : Prop := looksLike u [58, 58] = false ∧ looksLike u [40] = false
noncomputable def needs : Seg → Bool
  | .fld n _ => decide (2 ≤ n)
  | _ => false

theorem dots_looks (sp : Bool) (s : List Nat) : looksLike (dots sp) s = decide ([46] = s) := by cases sp <;> rfl
theorem dots_kind (sp : Bool) : (dots sp).kind ≠ [101, 110, 100] := by cases sp <;> exact sg_kind [46]
theorem nmT_s : ∀ (n : Nat) (sp : Bool), (nmT n sp).s = nameS n
  | 0, sp => by cases sp <;> rfl
  | 1, sp => by cases sp <;> rfl
  | _ + 2, sp => by cases sp <;> rfl
theorem nmT_kind : ∀ (n : Nat) (_ : 2 ≤ n) (sp : Bool), (nmT n sp).kind = kName
  | _ + 2, _, sp => by cases sp <;> rfl
theorem name_kw : ∀ (n : Nat) (_ : 2 ≤ n) (cs : Cells), cmpOp cs .In (.str (nameS n)) g_KEYWORDS = some false
  | 2, _, _ => rfl
  | 3, _, _ => rfl
  | _ + 4, _, _ => rfl

theorem at_ {R rpre rsuf : List CV} {p : Nat} {A B : List Tok} {u : Tok} (hR : R = rpre ++ rowsAt p (A ++ u :: B) ++ rsuf) : R[rpre.length + A.length]? = some (row (p + lenT A + u.lead.length) u) := hR ▸ mid_at rpre rsuf p A u B
theorem cut_at {R rpre rsuf : List CV} {p : Nat} {A Z B : List Tok} (hR : R = rpre ++ rowsAt p (A ++ (Z ++ B)) ++ rsuf) :
    R = (rpre ++ rowsAt p A) ++ rowsAt (p + lenT A) Z ++ (rowsAt (p + lenT A + lenT Z) B ++ rsuf) ∧ (rpre ++ rowsAt p A).length = rpre.length + A.length := by
  refine ⟨?_, by rw [List.length_append, rowsAt_len]⟩
  rw [hR, rowsAt_app, rowsAt_app, ← List.append_assoc rpre, ← List.append_assoc (rpre ++ rowsAt p A), List.append_assoc]; rfl
theorem lenT_app (a b : List Tok) : lenT (a ++ b) = lenT a + lenT b := txt_app_len a b
theorem cut_le {p : Nat} {A Z B : List Tok} (hp : p + lenT (A ++ (Z ++ B)) ≤ 90000) : p + lenT A + lenT Z ≤ 90000 := by
  rw [lenT_app, lenT_app] at hp; omega
theorem list_at {o r p : Nat} {R rpre rsuf : List CV} {A B : List Tok} {v : Var} (g : VarOK 5 v) (hR : R = rpre ++ rowsAt p (A ++ (brE v ++ B)) ++ rsuf) (hp : p + lenT (A ++ (brE v ++ B)) ≤ 90000) {b : Nat} (hb : 17 ≤ b) {cs : Cells} (hw : WS cs o r R (rpre.length + A.length) 0) :
    ∃ cs', callB funs globs b 35 [.obj o, .str [40], .str [41]] cs = .ok (valsAt (p + lenT A) v) cs' ∧ WS cs' o r R (rpre.length + A.length + (brE v).length) 0 ∧ Frm o r cs cs' := by
  obtain ⟨h1, h2⟩ := cut_at hR
  obtain ⟨cs', k1, k2, k3⟩ := read_list_ok (v := v) (ob := 40) (ec := 41) (.inl rfl) g.1 (vals_le g) g.2.2 h2.symm hw h1 (cut_le hp) b hb
  have e : (brE v).length = (inner exToks v).length + 2 := congrArg Nat.succ List.length_append
  exact ⟨cs', k1, by rw [e]; exact k2, k3⟩
theorem tyOK_0 : tyOK [] = true := (and_tt tyOK_all).1
theorem types_at {o r p : Nat} {R rpre rsuf : List CV} {A B : List Tok} {v : Var} (g : VarOK 3 v) (hR : R = rpre ++ rowsAt p (A ++ (brT v ++ B)) ++ rsuf) (hp : p + lenT (A ++ (brT v ++ B)) ≤ 90000) {b : Nat} (hb : 17 ≤ b) {cs : Cells} (hw : WS cs o r R (rpre.length + A.length) 0) :
    ∃ cs', callB funs globs b 33 [.obj o] cs = .ok (typesAt (p + lenT A) v) cs' ∧ WS cs' o r R (rpre.length + A.length + (brT v).length) 0 ∧ Frm o r cs cs' := by
  obtain ⟨h1, h2⟩ := cut_at hR
  obtain ⟨cs', k1, k2, k3⟩ := read_types_ok (v := v) (m := []) tyOK_0 (Nat.zero_le _) g.1 (vals_le g) g.2.2 h2.symm hw h1 (cut_le hp) b hb
  have e : rpre.length + A.length + 1 + (inner tyToks v).length + 1 = rpre.length + A.length + (brT v).length := by
    have : (brT v).length = (inner tyToks v).length + 1 + 1 := congrArg Nat.succ List.length_append
    omega
  exact ⟨cs', k1, e ▸ k2, k3⟩

section
variable {o r p : Nat} {R rpre rsuf : List CV} {u : Tok} {rest : List Tok} {cs : Cells} {T : CV} {w : Option CV} {b : Nat}
    (hw : WS cs o r R rpre.length 0) (hT : ∀ cs, subOp cs T (.int 1) = some (.int 77)) (hb : 17 ≤ b)
include hw hb
theorem looks_at {A : List Tok} {t : Tok} (hR : R = rpre ++ rowsAt p (t :: A) ++ rsuf) (s : List Nat) : callB funs globs (b + 1) 14 [.obj o, .str s] cs = .ok (.bool (looksLike t s)) cs :=
  looks0 hw (at_ (A := []) hR) s (b + 1) (Nat.le_trans (by decide) (Nat.succ_le_succ hb))
theorem take_at {A : List Tok} {t : Tok} (hR : R = rpre ++ rowsAt p (t :: A) ++ rsuf) (ht : t.kind ≠ [101, 110, 100]) : ∃ v cs', callB funs globs (b + 1) 13 [.obj o] cs = .ok v cs' ∧ WS cs' o r R (rpre.length + 1) 0 ∧ Frm o r cs cs' := by
  obtain ⟨cs', h⟩ := take0 hw (at_ (A := []) hR) ht (b + 1) (Nat.le_trans (by decide) (Nat.succ_le_succ hb))
  exact ⟨_, cs', h⟩
theorem turn_dots {A : List Tok} {sp : Bool} (hR : R = rpre ++ rowsAt p (dots sp :: A) ++ rsuf) {V : CV} {q : Nat}
    (H : ∀ cs1, WS cs1 o r R (rpre.length + 1) 0 → ∃ cs', callB funs globs (b + 1) 31 [.obj o, T] cs1 = .ok V cs' ∧ WS cs' o r R q 0 ∧ Frm o r cs1 cs') :
    ∃ cs' w', exSs globs (callB funs globs (b + 1)) postBody ([some (.obj o), some T, w], cs) = .ok .next ([some (.obj o), some V, w'], cs') ∧ WS cs' o r R q 0 ∧ Frm o r cs cs' := by
  have lk := fun s => (looks_at hw hb hR s).trans (congrArg (fun z => Res.ok (CV.bool z) cs) (dots_looks sp s))
  obtain ⟨v, cs1, a1, a2, a3⟩ := take_at hw hb hR (dots_kind sp)
  obtain ⟨cs2, m1, m2, m3⟩ := H cs1 a2
  exact ⟨cs2, w, turn_dot hw.isI (lk _) (lk _) (lk _) a1 m1, m2, a3.trans m3⟩
include hT
theorem seg_call {v : Var} (g : VarOK 5 v) (hR : R = rpre ++ rowsAt p (brE v ++ u :: rest) ++ rsuf) (hp : p + lenT (brE v ++ u :: rest) ≤ 90000) :
    ∃ cs' w', exSs globs (callB funs globs (b + 1)) postBody ([some (.obj o), some T, w], cs) = .ok .next ([some (.obj o), some (segTree p T (.call v)), w'], cs') ∧ WS cs' o r R (rpre.length + (brE v).length) 0 ∧ Frm o r cs cs' := by
  obtain ⟨cs', k1, k2, k3⟩ := list_at (A := []) g hR hp (Nat.le_succ_of_le hb) hw
  exact ⟨cs', w, turn_call hw.isI hT (looks_at hw hb hR _) k1, k2, k3⟩
theorem seg_idx {e : Nat} (hs : e < 5) (hR : R = rpre ++ rowsAt p (segToks (.idx e) ++ u :: rest) ++ rsuf) (hp : p + lenT (segToks (.idx e) ++ u :: rest) ≤ 90000) :
    ∃ cs' w', exSs globs (callB funs globs (b + 1)) postBody ([some (.obj o), some T, w], cs) = .ok .next ([some (.obj o), some (segTree p T (.idx e)), w'], cs') ∧ WS cs' o r R (rpre.length + (segToks (.idx e)).length) 0 ∧ Frm o r cs cs' := by
  have hb3 : 3 ≤ b + 1 := Nat.le_trans (by decide) (Nat.succ_le_succ hb)
  obtain ⟨v, cs1, a1, a2, a3⟩ := take_at hw hb hR (sg_kind _)
  obtain ⟨h1, h2⟩ := cut_at (A := [sg [91]]) (Z := exToks e ++ [sg [93]]) (B := u :: rest) hR
  obtain ⟨cs2, b1, b2, b3⟩ := parse_bridge ((exPart exOK_93 hs).rd (sg [93]) (.inr rfl)) (h1 ▸ a2) h2.symm (Nat.le_trans (Nat.le_add_right _ _) (cut_le (A := [sg [91]]) (Z := exToks e ++ [sg [93]]) (B := u :: rest) hp)) (b + 1) (Nat.le_trans (by decide) (Nat.succ_le_succ hb))
  rw [← h1] at b2
  have hend : R[rpre.length + 1 + (exToks e).length]? = some (row (p + lenT [sg [91]] + (txtOf (exToks e)).length) (sg [93])) := by
    have := mid_at (rpre ++ rowsAt p [sg [91]]) (rowsAt (p + lenT [sg [91]] + lenT (exToks e ++ [sg [93]])) (u :: rest) ++ rsuf) (p + lenT [sg [91]]) (exToks e) (sg [93]) []
    rw [← h1, h2] at this
    exact this
  obtain ⟨cs3, d1, d2, d3⟩ := expect0 b2 hend [93] (sg_self _) (sg_kind _) (b + 1) hb3
  refine ⟨cs3, _, turn_index hw.isI b2.isI hT (looks_at hw hb hR _) (looks_at hw hb hR _) a1 b1 d1, ?_, (a3.trans b3).trans d3⟩
  have e : (segToks (.idx e)).length = (exToks e).length + 1 + 1 := congrArg Nat.succ List.length_append
  rw [e, ← Nat.add_assoc, ← Nat.add_assoc, Nat.add_right_comm _ (exToks _).length 1]; exact d2
theorem seg_fld {n : Nat} {sp : Bool} (hs : n < 4) (hu : 2 ≤ n → behind u) (hR : R = rpre ++ rowsAt p (dots sp :: nmT n sp :: u :: rest) ++ rsuf) :
    ∃ cs' w', exSs globs (callB funs globs (b + 1)) postBody ([some (.obj o), some T, w], cs) = .ok .next ([some (.obj o), some (segTree p T (.fld n sp)), w'], cs') ∧ WS cs' o r R (rpre.length + 2) 0 ∧ Frm o r cs cs' := by
  have hb4 : 4 ≤ b + 1 := Nat.le_trans (by decide) (Nat.succ_le_succ hb)
  have hq1 := at_ (A := [dots sp]) hR
  have hq2 := at_ (A := [dots sp, nmT n sp]) hR
  refine turn_dots hw hb hR fun cs1 a2 => ?_
  show ∃ cs', callB funs globs (b + 1) 31 [.obj o, T] cs1 = .ok (.tup [.str sField, .int 77, T, .str (nameS n)]) cs' ∧ _
  rw [← nmT_s n sp]
  match n, hs, hu, hq1, hq2 with
  | 0, _, _, hq1, _ => cases sp <;> exact member_int a2 hq1 rfl rfl 0 rfl rfl hT (b + 1) hb4
  | 1, _, _, hq1, _ => cases sp <;> exact member_int a2 hq1 rfl rfl 12 rfl rfl hT (b + 1) hb4
  | n + 2, _, hu, hq1, hq2 =>
    obtain ⟨u1, u2⟩ := hu (Nat.le_add_left 2 n)
    exact member_fld a2 hq1 (nmT_kind _ (Nat.le_add_left 2 n) sp) (by rw [nmT_s]; exact name_kw _ (Nat.le_add_left 2 n)) hq2 u1 u2 hT (b + 1) hb4
theorem seg_mth {n : Nat} {sp : Bool} {v : Var} (hn : 2 ≤ n) (g : VarOK 5 v) (hR : R = rpre ++ rowsAt p ([dots sp, nmT n sp] ++ (brE v ++ u :: rest)) ++ rsuf) (hp : p + lenT ([dots sp, nmT n sp] ++ (brE v ++ u :: rest)) ≤ 90000) :
    ∃ cs' w', exSs globs (callB funs globs (b + 1)) postBody ([some (.obj o), some T, w], cs) = .ok .next ([some (.obj o), some (segTree p T (.mth n sp v)), w'], cs') ∧ WS cs' o r R (rpre.length + 2 + (brE v).length) 0 ∧ Frm o r cs cs' := by
  refine turn_dots hw hb hR fun cs1 a2 => ?_
  have := member_mth a2 (at_ (A := [dots sp]) hR) (nmT_kind n hn sp) (by rw [nmT_s]; exact name_kw n hn) (at_ (A := [dots sp, nmT n sp]) hR) hT b (Nat.le_trans (by decide) hb) (fun cs hw => list_at g hR hp hb hw)
  rw [nmT_s] at this
  exact this
theorem seg_mty {t v : Var} (f : VarOK 3 t) (g : VarOK 5 v) (hR : R = rpre ++ rowsAt p ([sg [46], nm [109], sg [58, 58]] ++ (brT t ++ (brE v ++ u :: rest))) ++ rsuf) (hp : p + lenT ([sg [46], nm [109], sg [58, 58]] ++ (brT t ++ (brE v ++ u :: rest))) ≤ 90000) :
    ∃ cs' w', exSs globs (callB funs globs (b + 1)) postBody ([some (.obj o), some T, w], cs) = .ok .next ([some (.obj o), some (segTree p T (.mty t v)), w'], cs') ∧ WS cs' o r R (rpre.length + 3 + (brT t).length + (brE v).length) 0 ∧ Frm o r cs cs' := by
  refine turn_dots (sp := false) hw hb hR fun cs1 a2 => ?_
  have hR' := hR
  have hp' := hp
  rw [← List.append_assoc] at hR' hp'
  have eL : ([sg [46], nm [109], sg [58, 58]] ++ brT t).length = 3 + (brT t).length := List.length_append
  have eT : p + lenT ([sg [46], nm [109], sg [58, 58]] ++ brT t) = p + 4 + lenT (brT t) := by rw [lenT_app, Nat.add_assoc]; rfl
  have h3 := at_ (u := sg [40]) hR'
  have h4 := fun cs (hw : WS cs o r R (rpre.length + ([sg [46], nm [109], sg [58, 58]] ++ brT t).length) 0) => list_at g hR' hp' hb hw
  rw [eL, ← Nat.add_assoc] at h3 h4
  rw [eT] at h4
  exact member_mty a2 (at_ (A := [sg [46]]) hR) rfl (fun _ => rfl) (at_ (A := [sg [46], nm [109]]) hR) h3 hT b (Nat.le_trans (by decide) hb) (fun cs hw => types_at f hR hp hb hw) h4
end

theorem seg_turn {s : Seg} (hs : segOK s) {o r p : Nat} {R rpre rsuf : List CV} {u : Tok} {rest : List Tok} {cs : Cells} {T : CV} {w : Option CV}
    (hw : WS cs o r R rpre.length 0) (hR : R = rpre ++ rowsAt p (segToks s ++ u :: rest) ++ rsuf) (hu : needs s = true → behind u)
    (hp : p + lenT (segToks s ++ u :: rest) ≤ 90000) (hT : ∀ cs, subOp cs T (.int 1) = some (.int 77)) (b : Nat) (hb : 17 ≤ b) :
    ∃ cs' w', exSs globs (callB funs globs (b + 1)) postBody ([some (.obj o), some T, w], cs) = .ok .next ([some (.obj o), some (segTree p T s), w'], cs') ∧
      WS cs' o r R (rpre.length + (segToks s).length) 0 ∧ Frm o r cs cs' := by
  cases s with
  | call v => exact seg_call hw hT hb hs hR hp
  | idx e => exact seg_idx hw hT hb hs hR hp
  | fld n sp => exact seg_fld hw hT hb hs (fun h => hu (decide_eq_true h)) hR
  | mth n sp v =>
    have e : rpre.length + (segToks (.mth n sp v)).length = rpre.length + 2 + (brE v).length := by rw [Nat.add_assoc, Nat.add_comm 2]; rfl
    rw [e]; exact seg_mth hw hT hb hs.1 hs.2.2 hR hp
  | mty t v =>
    have e : rpre.length + (segToks (.mty t v)).length = rpre.length + 3 + (brT t).length + (brE v).length := by
      rw [Nat.add_assoc, Nat.add_assoc, ← List.length_append, Nat.add_comm 3]; rfl
    have e2 : segToks (.mty t v) ++ u :: rest = [sg [46], nm [109], sg [58, 58]] ++ (brT t ++ (brE v ++ u :: rest)) := congrArg ([sg [46], nm [109], sg [58, 58]] ++ ·) (List.append_assoc (brT t) (brE v) (u :: rest))
    rw [e2] at hR hp
    rw [e]; exact seg_mty hw hT hb hs.1 hs.2 hR hp
end Mine.L
end

section
namespace Mine.L
open PySem

noncomputable def segsToks : List Seg → List Tok
  | [] => []
  | s :: r => segToks s ++ segsToks r
noncomputable def build (p : Nat) (T : CV) : List Seg → CV
  | [] => T
  | s :: r => build (p + lenT (segToks s)) (segTree p T s) r
noncomputable def isCall : Seg → Bool
  | .call _ => true
  | _ => false
/-- no call stands right behind a field with a name -/
noncomputable def wf : List Seg → Prop
  | [] => True
  | s :: r => match r with
    | [] => True
    | s' :: r => (needs s = true → isCall s' = false) ∧ wf (s' :: r)

noncomputable def semi : Tok := (sg [59]).sp

theorem dots_behind (sp : Bool) : behind (dots sp) := by cases sp <;> exact ⟨rfl, rfl⟩
theorem first_behind : ∀ (s : Seg), ∃ u r, segToks s = u :: r ∧ (isCall s = false → behind u)
  | .call _ => ⟨_, _, rfl, fun h => (ff_tt h.symm).elim⟩
  | .idx _ => ⟨_, _, rfl, fun _ => ⟨rfl, rfl⟩⟩
  | .fld _ sp => ⟨_, _, rfl, fun _ => dots_behind sp⟩
  | .mth _ sp _ => ⟨_, _, rfl, fun _ => dots_behind sp⟩
  | .mty _ _ => ⟨_, _, rfl, fun _ => ⟨rfl, rfl⟩⟩
theorem wf_tail : ∀ {s : Seg} {r : List Seg}, wf (s :: r) → wf r
  | _, [], _ => trivial
  | _, _ :: _, h => h.2
/-- the word behind a part -/
theorem wf_next : ∀ {s : Seg} {ss : List Seg}, wf (s :: ss) → ∃ u r, segsToks ss ++ [semi] = u :: r ∧ (needs s = true → behind u)
  | _, [], _ => ⟨semi, [], rfl, fun _ => ⟨rfl, rfl⟩⟩
  | _, s' :: r, h => by
    obtain ⟨u, r', e, k⟩ := first_behind s'
    exact ⟨u, r' ++ segsToks r ++ [semi], congrArg (· ++ segsToks r ++ [semi]) e, fun hn => k (h.1 hn)⟩

theorem post_loop (b : Nat) (hb : 17 ≤ b) (m : Nat) {o r : Nat} {R rsuf : List CV} : ∀ (ss : List Seg) (p : Nat) (rpre : List CV) (cs : Cells) (T : CV) (w : Option CV),
    (∀ s ∈ ss, segOK s) → wf ss → WS cs o r R rpre.length 0 → R = rpre ++ rowsAt p (segsToks ss ++ [semi]) ++ rsuf → p + lenT (segsToks ss ++ [semi]) ≤ 90000 →
    (∀ cs, subOp cs T (.int 1) = some (.int 77)) →
    ∃ cs' l', turns (evS globs (callB funs globs (b + 1)) (.k (.bool true))) (fun s => exSs globs (callB funs globs (b + 1)) postBody s) (m + (ss.length + 1)) ([some (.obj o), some T, w], cs) =
      .ok (.ret (build p T ss)) (l', cs') ∧ WS cs' o r R (rpre.length + (segsToks ss).length) 0 ∧ Frm o r cs cs'
  | [], p, rpre, cs, T, w, hs, hwf, hw, hR, hp, hT => by
    have lk := looks_at (b := b) (t := semi) (A := []) hw hb hR
    exact ⟨cs, [some (.obj o), some T, w], tnr (eS (e_k rfl)) (turn_end hw.isI (lk _) (lk _) (lk _)), hw, Frm.refl⟩
  | s :: ss, p, rpre, cs, T, w, hs, hwf, hw, hR, hp, hT => by
    obtain ⟨u, rest, eu, hu⟩ := wf_next hwf
    have e0 : segsToks (s :: ss) ++ [semi] = segToks s ++ (segsToks ss ++ [semi]) := List.append_assoc _ _ _
    rw [e0] at hR hp
    have hR' := hR
    have hp' := hp
    rw [eu] at hR' hp'
    obtain ⟨cs1, w1, k1, k2, k3⟩ := seg_turn (w := w) (hs s (List.mem_cons_self ..)) hw hR' hu hp' hT b hb
    have eq1 : (rpre ++ rowsAt p (segToks s)).length = rpre.length + (segToks s).length := by rw [List.length_append, rowsAt_len]
    rw [← eq1] at k2
    obtain ⟨cs', l', j1, j2, j3⟩ := post_loop b hb m (rsuf := rsuf) ss (p + lenT (segToks s)) (rpre ++ rowsAt p (segToks s)) cs1 (segTree p T s) w1 (fun s h => hs s (List.mem_cons_of_mem _ h)) (wf_tail hwf) k2
      (by rw [hR, rowsAt_app, ← List.append_assoc rpre]; rfl) (by rw [lenT_app] at hp; omega) (segTree_1 p T s)
    refine ⟨cs', l', tn1 (eS (e_k rfl)) k1 j1, ?_, k3.trans j3⟩
    have e : (segsToks (s :: ss)).length = (segToks s).length + (segsToks ss).length := List.length_append
    rw [e, ← Nat.add_assoc, ← eq1]; exact j2

theorem read_postfix_ok {o r p : Nat} {R rpre rsuf : List CV} {ss : List Seg} {cs : Cells} {T : CV} (hs : ∀ s ∈ ss, segOK s) (hwf : wf ss) (hw : WS cs o r R rpre.length 0)
    (hR : R = rpre ++ rowsAt p (segsToks ss ++ [semi]) ++ rsuf) (hp : p + lenT (segsToks ss ++ [semi]) ≤ 90000) (hT : ∀ cs, subOp cs T (.int 1) = some (.int 77)) (hn : ss.length ≤ 1000) (b : Nat) (hb : 19 ≤ b) :
    ∃ cs', callB funs globs b 30 [.obj o, T] cs = .ok (build p T ss) cs' ∧ WS cs' o r R (rpre.length + (segsToks ss).length) 0 ∧ Frm o r cs cs' := by
  obtain ⟨b, rfl⟩ := Nat.exists_eq_add_of_le' (show 2 ≤ b from Nat.le_trans (by decide) hb)
  have hm : mostTurns = mostTurns - (ss.length + 1) + (ss.length + 1) := (Nat.sub_add_cancel (Nat.le_trans (Nat.succ_le_succ hn) (by decide))).symm
  obtain ⟨cs', l', h1, h2, h3⟩ := post_loop b (Nat.le_of_succ_le_succ (Nat.le_of_succ_le_succ hb)) (mostTurns - (ss.length + 1)) ss p rpre cs T none hs hwf hw hR hp hT
  rw [← hm] at h1
  exact ⟨cs', call_ret (b := b + 1) (d := f_read_postfix) (l := [some (.obj o), some T, none]) (s := (l', cs')) rfl rfl (ss_ret h1), h2, h3⟩

noncomputable def baseT : CV := .tup [.str [112, 97, 116, 104], .int 77, .tup [.tup [.str [120], .tup [], .tup []]]]
theorem base_ok (cs : Cells) (b : Nat) (hb : 1 ≤ b) : callB funs globs b 42 [] cs = .ok baseT cs := by
  obtain ⟨b, rfl⟩ := Nat.exists_eq_add_of_le' hb
  exact call_ret (d := f_law_base) (l := []) (s := ([], cs)) rfl rfl rfl

noncomputable def wPostfix : List Nat := [112, 111, 115, 116, 102, 105, 120]
noncomputable def wTypes : List Nat := [116, 121, 112, 101, 115]
noncomputable def wList : List Nat := [108, 105, 115, 116]

theorem heard_of {way : List Nat} {T : List Nat} {cs cs1 cs2 : Cells} {o r q q' p : Nat} {R R' : List CV} {V : CV} {t : Tok} {b : Nat} (hb : 3 ≤ b)
    (h8 : callB funs globs b 8 [.str T] cs = .ok (.obj o) cs1) (hw1 : WS cs1 o r R q 0)
    (hread : (way = wPostfix ∧ callB funs globs b 30 [.obj o, baseT] cs1 = .ok V cs2) ∨ (way = wTypes ∧ callB funs globs b 33 [.obj o] cs1 = .ok V cs2) ∨
      (way = wList ∧ callB funs globs b 35 [.obj o, .str [91], .str [93]] cs1 = .ok V cs2))
    (hw2 : WS cs2 o r R' q' 0) (hq : R'[q']? = some (row p t)) :
    callB funs globs (b + 1) 43 [.str T, .str way] cs = .ok (.tup [V, .str t.s]) cs2 := by
  have hb1 : 1 ≤ b := Nat.le_trans (by decide) hb
  have fin : exS globs (callB funs globs b) (.try_ [.ife (.cmp .Eq (.v 1) (.k (.str [112, 111, 115, 116, 102, 105, 120]))) [.asg 3 (.call 30 [.v 2, .call 42 []])] [.ife (.cmp .Eq (.v 1) (.k (.str [116, 121, 112, 101, 115]))) [.asg 3 (.call 33 [.v 2])] [.asg 3 (.call 35 [.v 2, .k (.str [91]), .k (.str [93])])]]] (.tup [.str [114, 101, 102, 117, 115, 101, 100], .msg, .spot]))
      ([some (.str T), some (.str way), some (.obj o), none], cs1) = .ok .next ([some (.str T), some (.str way), some (.obj o), some V], cs2) := by
    refine s_try (ss_1 ?_ ss_0)
    rcases hread with ⟨rfl, h⟩ | ⟨rfl, h⟩ | ⟨rfl, h⟩
    · exact s_if1 (e_cmp (e_v rfl) (e_k rfl) rfl) (ss_1 (s_asg (e_call (e_1 (e_v rfl) (e_1 (e_call e_0 (base_ok cs1 b hb1)) e_0)) h)) ss_0)
    · exact s_if0 (e_cmp (e_v rfl) (e_k rfl) rfl) (ss_1 (s_if1 (e_cmp (e_v rfl) (e_k rfl) rfl) (ss_1 (s_asg (e_call (e_1 (e_v rfl) e_0) h)) ss_0)) ss_0)
    · exact s_if0 (e_cmp (e_v rfl) (e_k rfl) rfl) (ss_1 (s_if0 (e_cmp (e_v rfl) (e_k rfl) rfl) (ss_1 (s_asg (e_call (e_1 (e_v rfl) (e_1 (e_k rfl) (e_1 (e_k rfl) e_0))) h)) ss_0)) ss_0)
  exact call_ret (d := f_law_heard) (l := [some (.str T), some (.str way), none, none]) (s := ([some (.str T), some (.str way), some (.obj o), some V], cs2)) rfl rfl
    (ss_1 (s_asg (e_call (e_1 (e_v rfl) e_0) h8)) (ss_1 fin (ss_ret (s_ret (e_tup (e_1 (e_v rfl) (e_1 (e_sub (e_meth (e_v rfl) hw2.isI e_0 (peek0 hw2 hq b hb1)) (e_k rfl) row1) e_0)))))))
end Mine.L
end

section
namespace Mine.L
open PySem

theorem adj_app : ∀ (a : List Tok) (u : Tok) (b : List Tok), adj (a ++ [u]) = true → adj (u :: b) = true → adj (a ++ u :: b) = true
  | [], _, _, _, h => h
  | [_], _, _, h1, h2 => and_of (and_tt h1).1 h2
  | _ :: t' :: a, u, b, h1, h2 => and_of (and_tt h1).1 (adj_app (t' :: a) u b (and_tt h1).2 h2)
theorem fine_adj : ∀ (a : List Tok) (e : Tok), adj (a ++ [e]) = true → endOK e = true → fine (a ++ [e]) = true
  | [], _, _, h => h
  | [_], _, h1, h2 => and_of (and_tt h1).1 h2
  | _ :: t' :: a, e, h1, h2 => and_of (and_tt h1).1 (fine_adj (t' :: a) e (and_tt h1).2 h2)

/-- what holds of each row of draws holds of all -/
noncomputable def varAll (n : Nat) (P : Var → Bool) : Bool := P ([], false) && ((List.range n).all fun a => (P ([a], true) && P ([a], false)) && (List.range n).all fun b => P ([a, b], true) && P ([a, b], false))
theorem all_at {n a : Nat} {p : Nat → Bool} (h : (List.range n).all p = true) (ha : a < n) : p a = true := List.all_eq_true.1 h a (List.mem_range.2 ha)
theorem two_at {p : Bool → Bool} (h : (p true && p false) = true) : ∀ c, p c = true
  | true => (and_tt h).1
  | false => (and_tt h).2
theorem var_all {n : Nat} {P : Var → Bool} (h : varAll n P = true) : ∀ {v : Var}, VarOK n v → P v = true
  | ([], c), hv => by
    have e : c = false := hv.2.2 rfl
    rw [e]; exact (and_tt h).1
  | ([a], c), hv => two_at (p := fun c => P ([a], c)) (and_tt (all_at (and_tt h).2 (hv.1 a (List.mem_cons_self ..)))).1 c
  | ([a, b], c), hv => two_at (p := fun c => P ([a, b], c)) (all_at (and_tt (all_at (and_tt h).2 (hv.1 a (List.mem_cons_self ..)))).2 (hv.1 b (List.mem_cons_of_mem _ (List.mem_cons_self ..)))) c
  | (_ :: _ :: _ :: r, _), hv => absurd hv.2.1 (Nat.not_le_of_lt (Nat.le_add_left 3 r.length))

noncomputable def shortOK (n : Nat) (ts : List Tok) : Bool := adj ts && (decide (lenT ts ≤ n) && decide (ts.length ≤ 20))
structure Short (n : Nat) (ts : List Tok) : Prop where
  adj : adj ts = true
  len : lenT ts ≤ n
  num : ts.length ≤ 20
theorem short_of {n : Nat} {ts : List Tok} (h : shortOK n ts = true) : Short n ts := ⟨(and_tt h).1, of_decide_eq_true (and_tt (and_tt h).2).1, of_decide_eq_true (and_tt (and_tt h).2).2⟩
noncomputable def brOK (f : Nat → List Tok) (o : Nat) (e : List Nat) (v : Var) : Bool := shortOK 40 (sg [o] :: (inner f v ++ [sg e]))
theorem brE_40 : varAll 5 (brOK exToks 40 [41]) = true := by decide +kernel
theorem brE_91 : varAll 5 (brOK exToks 91 [93]) = true := by decide +kernel
theorem brT_all : ([[], [62], [61], [62, 61]].all fun m => varAll 3 (brOK tyToks 60 (62 :: m))) = true := by decide +kernel
theorem idx_all : ((List.range 5).all fun e => shortOK 40 (segToks (.idx e))) = true := by decide +kernel
noncomputable def firsts : List Tok := [sg [40], sg [91], dots false, dots true, semi]
noncomputable def lasts : List Tok := [sg [41], sg [93], nmT 0 false, nmT 0 true, nmT 1 false, nmT 1 true, nmT 2 false, nmT 2 true, nmT 3 false, nmT 3 true]
theorem ends_all : (lasts.all fun t => firsts.all fun u => adj [t, u]) = true := by decide +kernel
theorem firsts_beg : (firsts.all begOK) = true := by decide +kernel
noncomputable def both (p : Bool → Bool) : Bool := p true && p false
theorem dot_nm_all : ((List.range 5).all fun n => both fun sp => shortOK 10 [dots sp, nmT n sp]) = true := by decide +kernel
theorem nm_par_all : ((List.range 5).all fun n => both fun sp => (decide (n < 2)) || adj [nmT n sp, sg [40]]) = true := by decide +kernel
theorem nm_last : ((List.range 4).all fun n => both fun sp => firsts.all fun u => adj [nmT n sp, u]) = true := by decide +kernel
theorem mty_adj : adj [sg [46], nm [109], sg [58, 58], sg [60]] = true := by decide +kernel
theorem gt_par : adj [sg [62], sg [40]] = true := by decide +kernel
theorem par_end : (firsts.all fun u => adj [sg [41], u] && adj [sg [93], u]) = true := by decide +kernel

theorem dn_short {n : Nat} (h : n < 5) (sp : Bool) : Short 10 [dots sp, nmT n sp] := short_of (two_at (p := fun sp => shortOK 10 [dots sp, nmT n sp]) (all_at dot_nm_all h) sp)
theorem np_adj {n : Nat} (h : n < 5) (h2 : 2 ≤ n) (sp : Bool) : adj [nmT n sp, sg [40]] = true := by
  have := two_at (p := fun sp => (decide (n < 2)) || adj [nmT n sp, sg [40]]) (all_at nm_par_all h) sp
  rw [decide_eq_false (Nat.not_lt_of_le h2)] at this; exact this
theorem brE_fact {v : Var} (h : VarOK 5 v) : Short 40 (brE v) := short_of (var_all brE_40 h)
theorem brT_fact {m : List Nat} (hm : m ∈ [[], [62], [61], [62, 61]]) {v : Var} (h : VarOK 3 v) : Short 40 (sg [60] :: (inner tyToks v ++ [sg (62 :: m)])) := short_of (var_all (List.all_eq_true.1 brT_all m hm) h)

/-- a bracket, and what may stand behind it -/
theorem adj_br {o c u : Tok} {Z B : List Tok} (h : adj (o :: (Z ++ [c])) = true) (k : adj (c :: u :: B) = true) : adj (o :: (Z ++ [c]) ++ u :: B) = true := by
  have := adj_app (o :: Z) c (u :: B) h k
  rw [cons_eq (o :: Z)] at this; exact this
theorem seg_adj {s : Seg} (hs : segOK s) {u : Tok} (hu : u ∈ firsts) : adj (segToks s ++ [u]) = true := by
  obtain ⟨e1, e2⟩ := and_tt (List.all_eq_true.1 par_end u hu)
  cases s with
  | call v => exact adj_br (brE_fact hs).adj e1
  | idx e => exact adj_br (short_of (all_at idx_all hs)).adj e2
  | fld n sp => exact adj_app [dots sp] _ [u] (dn_short (Nat.lt_succ_of_lt hs) sp).adj (List.all_eq_true.1 (two_at (p := fun sp => firsts.all fun u => adj [nmT n sp, u]) (all_at nm_last hs) sp) u hu)
  | mth n sp v =>
    obtain ⟨h1, h2, h3⟩ := hs
    exact adj_app [dots sp, nmT n sp] (sg [40]) (inner exToks v ++ [sg [41]] ++ [u]) (adj_app [dots sp] _ [sg [40]] (dn_short h2 sp).adj (np_adj h2 h1 sp)) (adj_br (brE_fact h3).adj e1)
  | mty t v =>
    obtain ⟨h1, h2⟩ := hs
    have k := adj_app [sg [46], nm [109], sg [58, 58]] (sg [60]) _ mty_adj (adj_br (B := inner exToks v ++ [sg [41]] ++ [u]) (brT_fact (m := []) (List.mem_cons_self ..) h1).adj (and_of (and_tt gt_par).1 (adj_br (brE_fact h2).adj e1)))
    rw [show segToks (.mty t v) ++ [u] = [sg [46], nm [109], sg [58, 58]] ++ (brT t ++ (brE v ++ [u])) from congrArg ([sg [46], nm [109], sg [58, 58]] ++ ·) (List.append_assoc (brT t) (brE v) [u])]
    exact k

theorem dots_first : ∀ sp, dots sp ∈ firsts
  | false => List.mem_cons_of_mem _ (List.mem_cons_of_mem _ (List.mem_cons_self ..))
  | true => List.mem_cons_of_mem _ (List.mem_cons_of_mem _ (List.mem_cons_of_mem _ (List.mem_cons_self ..)))
theorem seg_first : ∀ (s : Seg), ∃ u r, segToks s = u :: r ∧ u ∈ firsts
  | .call _ => ⟨_, _, rfl, List.mem_cons_self ..⟩
  | .idx _ => ⟨_, _, rfl, List.mem_cons_of_mem _ (List.mem_cons_self ..)⟩
  | .fld _ sp => ⟨_, _, rfl, dots_first sp⟩
  | .mth _ sp _ => ⟨_, _, rfl, dots_first sp⟩
  | .mty _ _ => ⟨_, _, rfl, dots_first false⟩
theorem segs_first : ∀ (ss : List Seg), ∃ u r, segsToks ss ++ [semi] = u :: r ∧ u ∈ firsts
  | [] => ⟨semi, [], rfl, List.mem_cons_of_mem _ (List.mem_cons_of_mem _ (List.mem_cons_of_mem _ (List.mem_cons_of_mem _ (List.mem_cons_self ..))))⟩
  | s :: ss => by
    obtain ⟨u, r, e, hu⟩ := seg_first s
    exact ⟨u, r ++ segsToks ss ++ [semi], congrArg (· ++ segsToks ss ++ [semi]) e, hu⟩

theorem segs_adj : ∀ (ss : List Seg), (∀ s ∈ ss, segOK s) → adj (segsToks ss ++ [semi]) = true
  | [], _ => rfl
  | s :: ss, h => by
    have ih := segs_adj ss (fun s hs => h s (List.mem_cons_of_mem _ hs))
    obtain ⟨u, r, e, hu⟩ := segs_first ss
    rw [e] at ih
    have := adj_app (segToks s) u r (seg_adj (h s (List.mem_cons_self ..)) hu) ih
    rw [← e, ← List.append_assoc] at this
    exact this

noncomputable def lens (ts : List Tok) (n : Nat) : Prop := lenT ts ≤ n ∧ ts.length ≤ n
theorem lens_app {a b : List Tok} {m n : Nat} (h : lens a m) (k : lens b n) : lens (a ++ b) (m + n) := by
  refine ⟨?_, ?_⟩
  · rw [lenT_app]; exact Nat.add_le_add h.1 k.1
  · rw [List.length_append]; exact Nat.add_le_add h.2 k.2
theorem lens_le {a : List Tok} {m n : Nat} (h : lens a m) (k : m ≤ n) : lens a n := ⟨Nat.le_trans h.1 k, Nat.le_trans h.2 k⟩
theorem Short.lens {a : List Tok} (h : Short 40 a) : lens a 40 := ⟨h.len, Nat.le_trans h.num (by decide)⟩
theorem seg_len {s : Seg} (hs : segOK s) : lens (segToks s) 100 := by
  cases s with
  | call v => exact lens_le (brE_fact hs).lens (by decide)
  | idx e => exact lens_le (short_of (all_at idx_all hs)).lens (by decide)
  | fld n sp => exact lens_le ⟨(dn_short (Nat.lt_succ_of_lt hs) sp).len, (by decide : 2 ≤ 10)⟩ (by decide)
  | mth n sp v => exact lens_le (lens_app (a := [dots sp, nmT n sp]) (m := 10) ⟨(dn_short hs.2.1 sp).len, (by decide : 2 ≤ 10)⟩ (brE_fact hs.2.2).lens) (by decide)
  | mty t v => exact lens_le (lens_app (a := [sg [46], nm [109], sg [58, 58]]) (m := 10) ⟨(by decide : 4 ≤ 10), (by decide : 3 ≤ 10)⟩ (lens_app (brT_fact (m := []) (List.mem_cons_self ..) hs.1).lens (brE_fact hs.2).lens)) (by decide)

theorem segs_len : ∀ (ss : List Seg), (∀ s ∈ ss, segOK s) → lens (segsToks ss) (100 * ss.length)
  | [], _ => ⟨Nat.le_refl _, Nat.le_refl _⟩
  | s :: ss, h => by
    rw [List.length_cons, Nat.mul_succ, Nat.add_comm]
    exact lens_app (seg_len (h s (List.mem_cons_self ..))) (segs_len ss fun s hs => h s (List.mem_cons_of_mem _ hs))

/-- a text's words -/
theorem words_at {A r : List Tok} {u : Tok} (B : List Tok) (e : Tok) (he : A = B ++ [e]) (hA : A = u :: r) (hu : begOK u = true) (ha : adj A = true) (hend : endOK e = true) (hl : lens A 2000) (cs : Cells) {b : Nat} (hb : 14 ≤ b) :
    ∃ o q cs', callB funs globs b 8 [.str (txtOf A)] cs = .ok (.obj o) cs' ∧ WS cs' o q (rowsAt 0 A ++ [endRow (txtOf A).length]) 0 0 ∧ FrA cs cs' ∧ cs.length ≤ o ∧ cs.length ≤ q := by
  subst he
  have hf := fine_adj B e ha hend
  rw [hA] at hf hl ⊢
  exact read_words_ok hu hf (Nat.le_trans hl.1 (by decide)) (Nat.le_trans hl.2 (by decide)) cs b hb
theorem FrA.more {cs cs1 cs2 : Cells} {o q : Nat} (h : FrA cs cs1) (ho : cs.length ≤ o) (hq : cs.length ≤ q) (k : Frm o q cs1 cs2) : FrA cs cs2 :=
  ⟨Nat.le_trans h.le k.le, fun j hj => (k.at_ j (Nat.lt_of_lt_of_le hj h.le) (Nat.ne_of_lt (Nat.lt_of_lt_of_le hj ho)) (Nat.ne_of_lt (Nat.lt_of_lt_of_le hj hq))).trans (h.at_ j hj)⟩

theorem heard_postfix {ss : List Seg} (hs : ∀ s ∈ ss, segOK s) (hwf : wf ss) (hn : ss.length ≤ 10) (cs : Cells) (b : Nat) (hb : 21 ≤ b) :
    ∃ cs', callB funs globs b 43 [.str (txtOf (segsToks ss ++ [semi])), .str wPostfix] cs = .ok (.tup [build 0 baseT ss, .str [59]]) cs' ∧ FrA cs cs' := by
  obtain ⟨b, rfl⟩ := Nat.exists_eq_add_of_le' (show 1 ≤ b from Nat.le_trans (by decide) hb)
  have hb' : 20 ≤ b := Nat.le_of_succ_le_succ hb
  obtain ⟨u, r, e, hu⟩ := segs_first ss
  have hl : lens (segsToks ss ++ [semi]) 2000 := lens_le (lens_app (segs_len ss hs) (b := [semi]) (n := 2) ⟨Nat.le_refl _, (by decide : 1 ≤ 2)⟩) (Nat.le_trans (Nat.add_le_add_right (Nat.mul_le_mul_left 100 hn) 2) (by decide))
  obtain ⟨o, q, cs1, h1, h2, h3, h4, h5⟩ := words_at (segsToks ss) semi rfl e (List.all_eq_true.1 firsts_beg u hu) (segs_adj ss hs) (by decide +kernel) hl cs (Nat.le_trans (by decide) hb')
  obtain ⟨cs2, k1, k2, k3⟩ := read_postfix_ok (rpre := []) (rsuf := [endRow (txtOf (segsToks ss ++ [semi])).length]) (p := 0) hs hwf h2 rfl (Nat.le_trans (Nat.le_of_eq (Nat.zero_add _)) (Nat.le_trans hl.1 (by decide))) (fun _ => rfl) (Nat.le_trans hn (by decide)) (T := baseT) b (Nat.le_trans (by decide) hb')
  exact ⟨cs2, heard_of (Nat.le_trans (by decide) hb') h1 h2 (.inl ⟨rfl, k1⟩) k2 (mid_at [] [endRow (txtOf (segsToks ss ++ [semi])).length] 0 (segsToks ss) semi []), h3.more h4 h5 k3⟩

theorem heard_list {v : Var} (hv : VarOK 5 v) (cs : Cells) (b : Nat) (hb : 21 ≤ b) :
    ∃ cs', callB funs globs b 43 [.str (txtOf (sg [91] :: (inner exToks v ++ [sg [93]])) ++ [32, 125]), .str wList] cs = .ok (.tup [valsAt 0 v, .str [125]]) cs' ∧ FrA cs cs' := by
  obtain ⟨b, rfl⟩ := Nat.exists_eq_add_of_le' (show 1 ≤ b from Nat.le_trans (by decide) hb)
  have hb' : 20 ≤ b := Nat.le_of_succ_le_succ hb
  have hB := short_of (var_all brE_91 hv)
  have et : txtOf (sg [91] :: (inner exToks v ++ [sg [93]])) ++ [32, 125] = txtOf (sg [91] :: (inner exToks v ++ [sg [93]]) ++ [(sg [125]).sp]) := by rw [txtOf_app]; rfl
  have en : 0 + (inner exToks v).length + 2 = 0 + (sg [91] :: (inner exToks v ++ [sg [93]])).length := by rw [List.length_cons, List.length_append, Nat.zero_add, Nat.zero_add]; rfl
  rw [et]
  have ha : adj (sg [91] :: (inner exToks v ++ [sg [93]]) ++ [(sg [125]).sp]) = true := adj_br hB.adj (by decide +kernel)
  have hl : lens (sg [91] :: (inner exToks v ++ [sg [93]]) ++ [(sg [125]).sp]) 2000 := lens_le (lens_app hB.lens (b := [(sg [125]).sp]) (n := 2) ⟨Nat.le_refl _, (by decide : 1 ≤ 2)⟩) (by decide)
  obtain ⟨o, q, cs1, h1, h2, h3, h4, h5⟩ := words_at (sg [91] :: (inner exToks v ++ [sg [93]])) (sg [125]).sp rfl rfl (by decide +kernel) ha (by decide +kernel) hl cs (Nat.le_trans (by decide) hb')
  have hR := (cut_at (A := []) (rpre := []) (rsuf := [endRow (txtOf (sg [91] :: (inner exToks v ++ [sg [93]]) ++ [(sg [125]).sp])).length]) (p := 0) (Z := sg [91] :: (inner exToks v ++ [sg [93]])) (B := [(sg [125]).sp]) rfl).1
  obtain ⟨cs2, k1, k2, k3⟩ := read_list_ok (v := v) (ob := 91) (ec := 93) (.inr rfl) hv.1 (vals_le hv) hv.2.2 (rpre := []) (q := 0) (p := 0) rfl h2 hR (Nat.le_trans (Nat.le_of_eq (Nat.zero_add _)) (Nat.le_trans hB.len (by decide))) b (Nat.le_trans (by decide) hb')
  rw [en] at k2
  have hq := mid_at [] [endRow (txtOf (sg [91] :: (inner exToks v ++ [sg [93]]) ++ [(sg [125]).sp])).length] 0 (sg [91] :: (inner exToks v ++ [sg [93]])) (sg [125]).sp []
  exact ⟨cs2, heard_of (t := (sg [125]).sp) (Nat.le_trans (by decide) hb') h1 h2 (.inr (.inr ⟨rfl, k1⟩)) k2 hq, h3.more h4 h5 k3⟩

/-- the four ends of the types' text -/
noncomputable def tailOf : Nat → List Nat × List Nat × List Nat × List Tok
  | 0 => ([59], [59], [], [sg [59]])
  | 1 => ([62, 32, 49], [62], [62], [(num [49] 1 .none).sp])
  | 2 => ([61, 32, 49], [61], [61], [(num [49] 1 .none).sp])
  | _ => ([62, 61, 32, 49], [62, 61], [62, 61], [(num [49] 1 .none).sp])

theorem heard_tail {v : Var} (hv : VarOK 3 v) {m t2 : List Nat} {e : Tok} (hm : m ∈ [[], [62], [61], [62, 61]]) (hme : adj [sg (62 :: m), e] = true) (hend : endOK e = true) (he : lenT [e] ≤ 5)
    (ht : (m = [] ∧ e.s = t2) ∨ (m ≠ [] ∧ m = t2)) (cs : Cells) (b : Nat) (hb : 21 ≤ b) :
    ∃ cs', callB funs globs b 43 [.str (txtOf (brT v) ++ (m ++ txtOf [e])), .str wTypes] cs = .ok (.tup [typesAt 0 v, .str t2]) cs' ∧ FrA cs cs' := by
  obtain ⟨b, rfl⟩ := Nat.exists_eq_add_of_le' (show 1 ≤ b from Nat.le_trans (by decide) hb)
  have hb' : 20 ≤ b := Nat.le_of_succ_le_succ hb
  have hB := brT_fact hm hv
  have tz : ∀ a, txtOf (sg [60] :: (inner tyToks v ++ [sg a])) = 60 :: (txtOf (inner tyToks v) ++ a) := fun a => by
    show 60 :: txtOf (inner tyToks v ++ [sg a]) = _
    rw [txtOf_app]
    show 60 :: (txtOf (inner tyToks v) ++ (a ++ [])) = _
    rw [List.append_nil]
  have et : txtOf (brT v) ++ (m ++ txtOf [e]) = txtOf (sg [60] :: (inner tyToks v ++ [sg (62 :: m)]) ++ [e]) := by
    rw [txtOf_app, tz, show txtOf (brT v) = _ from tz [62], List.cons_append, List.cons_append, List.append_assoc, List.append_assoc]; rfl
  rw [et]
  have hl : lens (sg [60] :: (inner tyToks v ++ [sg (62 :: m)]) ++ [e]) 2000 := lens_le (lens_app hB.lens (b := [e]) (n := 5) ⟨he, (by decide : 1 ≤ 5)⟩) (by decide)
  obtain ⟨o, q, cs1, h1, h2, h3, h4, h5⟩ := words_at (sg [60] :: (inner tyToks v ++ [sg (62 :: m)])) e rfl rfl (by decide +kernel) (adj_br hB.adj hme) hend hl cs (Nat.le_trans (by decide) hb')
  have hml : m.length ≤ 10 := (List.all_eq_true.1 (by decide : ([[], [62], [61], [62, 61]].all fun m : List Nat => decide (m.length ≤ 10)) = true) m hm |> of_decide_eq_true)
  have hR := (cut_at (A := []) (rpre := []) (rsuf := [endRow (txtOf (sg [60] :: (inner tyToks v ++ [sg (62 :: m)]) ++ [e])).length]) (p := 0) (Z := sg [60] :: (inner tyToks v ++ [sg (62 :: m)])) (B := [e]) rfl).1
  obtain ⟨cs2, k1, k2, k3⟩ := read_types_ok (v := v) (m := m) (List.all_eq_true.1 tyOK_all m hm) hml hv.1 (vals_le hv) hv.2.2 (rpre := []) (q := 0) (p := 0) rfl h2 hR (Nat.le_trans (Nat.le_of_eq (Nat.zero_add _)) (Nat.le_trans hB.len (by decide))) b (Nat.le_trans (by decide) hb')
  have en : (sg [60] :: (inner tyToks v ++ [sg (62 :: m)])).length = 0 + 1 + (inner tyToks v).length + 1 := by rw [List.length_cons, List.length_append, Nat.zero_add, Nat.add_comm 1]; rfl
  have fin : ∃ p t, t.s = t2 ∧ (rowsClosed (rowsAt 0 (sg [60] :: (inner tyToks v ++ [sg (62 :: m)]) ++ [e]) ++ [endRow (txtOf (sg [60] :: (inner tyToks v ++ [sg (62 :: m)]) ++ [e])).length]) (0 + 1 + (inner tyToks v).length) (0 + 1 + (txtOf (inner tyToks v)).length) m)[placeClosed (0 + 1 + (inner tyToks v).length) m]? = some (row p t) := by
    rcases ht with ⟨h, rfl⟩ | ⟨h, rfl⟩
    · have hq := mid_at [] [endRow (txtOf (sg [60] :: (inner tyToks v ++ [sg (62 :: m)]) ++ [e])).length] 0 (sg [60] :: (inner tyToks v ++ [sg (62 :: m)])) e []
      rw [en] at hq
      unfold rowsClosed placeClosed
      rw [if_pos h, if_pos h]
      exact ⟨_, e, rfl, (congrArg (fun n => (rowsAt 0 (sg [60] :: (inner tyToks v ++ [sg (62 :: m)]) ++ [e]) ++ [endRow (txtOf (sg [60] :: (inner tyToks v ++ [sg (62 :: m)]) ++ [e])).length])[n]?) (Nat.zero_add _).symm).trans hq⟩
    · refine ⟨0 + 1 + (txtOf (inner tyToks v)).length + 1, sg m, rfl, ?_⟩
      unfold rowsClosed placeClosed
      rw [if_neg h, if_neg h]
      exact List.getElem?_set_self (by rw [List.length_append, rowsAt_len, List.length_append, en]; exact Nat.lt_add_right _ (Nat.lt_add_right _ (Nat.lt_succ_self _)))
  obtain ⟨p, t, rfl, hq⟩ := fin
  exact ⟨cs2, heard_of (Nat.le_trans (by decide) hb') h1 h2 (.inr (.inl ⟨rfl, k1⟩)) k2 hq, h3.more h4 h5 k3⟩
theorem heard_types {v : Var} (hv : VarOK 3 v) : ∀ {k : Nat} (_ : k < 4) (cs : Cells) (b : Nat) (_ : 21 ≤ b),
    ∃ cs', callB funs globs b 43 [.str (txtOf (brT v) ++ (tailOf k).1), .str wTypes] cs = .ok (.tup [typesAt 0 v, .str (tailOf k).2.1]) cs' ∧ FrA cs cs'
  | 0, _, cs, b, hb => heard_tail (e := sg [59]) (m := []) hv (by decide) (by decide +kernel) (by decide +kernel) (by decide) (.inl ⟨rfl, rfl⟩) cs b hb
  | 1, _, cs, b, hb => heard_tail (e := (num [49] 1 .none).sp) (m := [62]) hv (by decide) (by decide +kernel) (by decide +kernel) (by decide) (.inr ⟨by decide, rfl⟩) cs b hb
  | 2, _, cs, b, hb => heard_tail (e := (num [49] 1 .none).sp) (m := [61]) hv (by decide) (by decide +kernel) (by decide +kernel) (by decide) (.inr ⟨by decide, rfl⟩) cs b hb
  | 3, _, cs, b, hb => heard_tail (e := (num [49] 1 .none).sp) (m := [62, 61]) hv (by decide) (by decide +kernel) (by decide +kernel) (by decide) (.inr ⟨by decide, rfl⟩) cs b hb
  | _ + 4, h, _, _, _ => absurd h (Nat.not_lt_of_le (Nat.le_add_left 4 _))
end Mine.L
end

section
namespace Mine.L
open PySem

theorem draw1 (t : Nat) (h0 : 0 < t) (h1 : t < 1000) {j : Int × Int} (hj : JOK j) : ∃ d, d < t ∧ ∃ j', JOK j' ∧ ∀ r, Pro r j' → Pro ((t, d) :: r) j := by
  obtain ⟨d, hd, h⟩ := drawn j hj t h0 h1
  exact ⟨d, hd, _, (dip_JOK hj (Int.ofNat_lt.mpr h0)).1, h⟩
theorem comma : ∀ {c : Nat}, c < 2 → ∃ cm : Bool, c = if cm = true then 0 else 1
  | 0, _ => ⟨true, rfl⟩
  | 1, _ => ⟨false, rfl⟩
  | _ + 2, h => absurd h (Nat.not_lt_of_le (Nat.le_add_left 2 _))
theorem draws_ex (n : Nat) (h0 : 0 < n) (h1 : n < 1000) (j : Int × Int) (hj : JOK j) : ∃ v, VarOK n v ∧ Pro (drawsOf n v) j := by
  obtain ⟨k, hk, j1, o1, f1⟩ := draw1 3 (by decide) (by decide) hj
  match k, hk, f1 with
  | 0, _, f1 => exact ⟨([], false), ⟨fun _ h => (List.not_mem_nil h).elim, Nat.zero_le _, fun _ => rfl⟩, f1 [] o1⟩
  | 1, _, f1 =>
    obtain ⟨a, ha, j2, o2, f2⟩ := draw1 n h0 h1 o1
    obtain ⟨c, hc, j3, o3, f3⟩ := draw1 2 (by decide) (by decide) o2
    obtain ⟨cm, rfl⟩ := comma hc
    exact ⟨([a], cm), ⟨fun _ h => List.mem_singleton.mp h ▸ ha, (by decide : 1 ≤ 2), fun h => nomatch h⟩, f1 _ (f2 _ (f3 [] o3))⟩
  | 2, _, f1 =>
    obtain ⟨a, ha, j2, o2, f2⟩ := draw1 n h0 h1 o1
    obtain ⟨b, hb, j4, o4, f4⟩ := draw1 n h0 h1 o2
    obtain ⟨c, hc, j3, o3, f3⟩ := draw1 2 (by decide) (by decide) o4
    obtain ⟨cm, rfl⟩ := comma hc
    refine ⟨([a, b], cm), ⟨fun e h => ?_, Nat.le_refl 2, fun h => nomatch h⟩, f1 _ (f2 _ (f4 _ (f3 [] o3)))⟩
    rcases List.mem_cons.mp h with rfl | h
    · exact ha
    · exact List.mem_singleton.mp h ▸ hb
  | _ + 3, h, _ => exact absurd h (Nat.not_lt_of_le (Nat.le_add_left 3 _))

theorem δ_ex (p k : Nat) : ∀ e, δ p (exTree k e) = δ (p + k) (exTree 0 e)
  | 0 => rfl
  | 1 => rfl
  | 2 => rfl
  | 3 => rfl
  | _ + 4 => rfl
theorem δ_ty (p k : Nat) : ∀ e, δ p (tyTree k e) = δ (p + k) (tyTree 0 e)
  | 0 => rfl
  | 1 => rfl
  | _ + 2 => rfl
theorem δs_parts {f : Nat → List Tok} {g : Nat → Nat → AV} (h : ∀ p k e, δ p (g k e) = δ (p + k) (g 0 e)) (p : Nat) : ∀ (es : List Nat) (k : Nat), δs p (partTrees f g k es) = treesAt f (g 0) (p + k) es
  | [], _ => rfl
  | e :: es, k => by
    show δ p (g k e) :: δs p (partTrees f g (k + (txtOf (f e)).length + 2) es) = δ (p + k) (g 0 e) :: treesAt f (g 0) (p + k + (txtOf (f e)).length + 2) es
    rw [h, δs_parts h p es, ← Nat.add_assoc, ← Nat.add_assoc]

/-- the text of a bracket -/
noncomputable def brText (f : Nat → List Tok) (o e : Nat) (v : Var) : List Nat := txtOf (sg [o] :: (inner f v ++ [sg [e]]))
noncomputable def genOK (o e : Nat) (v : Var) : Bool := chkG 45 [.pos 0, .c (.str [o]), .c (.str [e])] (drawsOf 5 v) (.tup [.c (.str (brText exToks o e v)), .tup (vTrees v)])
theorem gen_40 : varAll 5 (genOK 40 41) = true := by decide +kernel
theorem gen_91 : varAll 5 (genOK 91 93) = true := by decide +kernel
theorem gen_60 : (varAll 3 fun v => chkG 46 [.pos 0] (drawsOf 3 v) (.tup [.c (.str (brText tyToks 60 62 v)), .tup (yTrees v)])) = true := by decide +kernel
theorem gen_ex : ((List.range 5).all fun e => chkG 44 [.pos 0] [(5, e)] (.tup [.c (.str (txtOf (exToks e))), exTree 0 e])) = true := by decide +kernel

theorem vals_δ (p : Nat) (v : Var) : valsAt p v = .tup (δs p (vTrees v)) := congrArg CV.tup (δs_parts δ_ex p v.1 1).symm
theorem types_δ (p : Nat) (v : Var) : typesAt p v = .tup (δs p (yTrees v)) := congrArg CV.tup (δs_parts δ_ty p v.1 1).symm
theorem gen_values {o e : Nat} (ho : (o = 40 ∧ e = 41) ∨ (o = 91 ∧ e = 93)) {cs : Cells} {c : Nat} {j : Int × Int} (hc : JarAt cs c j) (hj : JOK j) {p : Nat} (hp : p ≤ 90000) (b : Nat) (hb : 8 ≤ b) :
    ∃ v, VarOK 5 v ∧ ∃ cs' j', callB funs globs b 45 [.lst c, .int p, .str [o], .str [e]] cs = .ok (.tup [.str (brText exToks o e v), valsAt p v]) cs' ∧ JarAt cs' c j' ∧ JOK j' ∧ FrJ c cs cs' := by
  obtain ⟨v, hv, hpro⟩ := draws_ex 5 (by decide) (by decide) j hj
  have hg : genOK o e v = true := by
    rcases ho with ⟨rfl, rfl⟩ | ⟨rfl, rfl⟩
    · exact var_all gen_40 hv
    · exact var_all gen_91 hv
  refine ⟨v, hv, ?_⟩
  rw [vals_δ]
  exact gen_bridge hg hc hpro hp b hb

theorem gen_types {cs : Cells} {c : Nat} {j : Int × Int} (hc : JarAt cs c j) (hj : JOK j) {p : Nat} (hp : p ≤ 90000) (b : Nat) (hb : 8 ≤ b) :
    ∃ v, VarOK 3 v ∧ ∃ cs' j', callB funs globs b 46 [.lst c, .int p] cs = .ok (.tup [.str (txtOf (brT v)), typesAt p v]) cs' ∧ JarAt cs' c j' ∧ JOK j' ∧ FrJ c cs cs' := by
  obtain ⟨v, hv, hpro⟩ := draws_ex 3 (by decide) (by decide) j hj
  refine ⟨v, hv, ?_⟩
  rw [types_δ]
  exact gen_bridge (var_all gen_60 hv) hc hpro hp b hb

theorem gen_value {cs : Cells} {c : Nat} {j : Int × Int} (hc : JarAt cs c j) (hj : JOK j) {p : Nat} (hp : p ≤ 90000) (b : Nat) (hb : 8 ≤ b) :
    ∃ e, e < 5 ∧ ∃ cs' j', callB funs globs b 44 [.lst c, .int p] cs = .ok (.tup [.str (txtOf (exToks e)), δ p (exTree 0 e)]) cs' ∧ JarAt cs' c j' ∧ JOK j' ∧ FrJ c cs cs' := by
  obtain ⟨e, he, j1, o1, f1⟩ := draw1 5 (by decide) (by decide) hj
  exact ⟨e, he, gen_bridge (all_at gen_ex he) hc (f1 [] o1) hp b hb⟩

theorem gen_dip {cs : Cells} {c : Nat} {j : Int × Int} (hc : JarAt cs c j) (hj : JOK j) (t : Nat) (h0 : 0 < t) (h1 : t < 1000) (b : Nat) (hb : 1 ≤ b) :
    ∃ d, d < t ∧ ∃ cs' j', callB funs globs b 40 [.lst c, .int t] cs = .ok (.int (d : Nat)) cs' ∧ JarAt cs' c j' ∧ JOK j' ∧ FrJ c cs cs' := by
  obtain ⟨b, rfl⟩ := Nat.exists_eq_add_of_le' hb
  obtain ⟨j1, k1, k2⟩ := dip_JOK hj (Int.ofNat_lt.mpr h0)
  have h := DipOK_of b cs c j.1 j.2 t h0 h1 hj (listAt_of hc)
  have e : (((dipF t j).1.toNat : Nat) : Int) = (dipF t j).1 := Int.toNat_of_nonneg k1
  exact ⟨(dipF t j).1.toNat, Int.ofNat_lt.mp (e ▸ k2), _, (dipF t j).2, h.trans (congrArg (fun z => Res.ok (CV.int z) _) e.symm), List.getElem?_set_self (get_lt hc), j1, Nat.le_of_eq List.length_set.symm, fun i _ hi => List.getElem?_set_ne (Ne.symm hi)⟩
end Mine.L
end

section
namespace Mine.L
open PySem
theorem gen_one {cs : Cells} {c : Nat} {j : Int × Int} (hc : JarAt cs c j) (hj : JOK j) (xs : List CV) (h0 : 0 < xs.length) (h1 : xs.length < 1000) (b : Nat) (hb : 2 ≤ b) :
    ∃ d x, d < xs.length ∧ xs[d]? = some x ∧ ∃ cs' j', callB funs globs b 41 [.lst c, .ils xs] cs = .ok x cs' ∧ JarAt cs' c j' ∧ JOK j' ∧ FrJ c cs cs' := by
  obtain ⟨b, rfl⟩ := Nat.exists_eq_add_of_le' (show 1 ≤ b from Nat.le_trans (by decide) hb)
  obtain ⟨d, hd, cs', j', k1, k⟩ := gen_dip hc hj xs.length h0 h1 b (Nat.le_of_succ_le_succ hb)
  have hx := List.getElem?_eq_getElem hd
  exact ⟨d, _, hd, hx, cs', j', call_ret (d := f_law_one) (l := [some (.lst c), some (.ils xs)]) (s := ([some (.lst c), some (.ils xs)], cs')) rfl rfl
    (ss_ret (s_ret (e_sub (e_v rfl) (e_call (e_1 (e_v rfl) (e_1 (e_len (e_v rfl) (ofIf_pos (Nat.le_trans (Nat.le_of_lt h1) (by decide)))) e_0)) k1) (itemAt_nat hx (Nat.lt_trans hd (Nat.lt_trans h1 (by decide))))))), k⟩
end Mine.L
end

section
namespace Mine.L
open PySem

noncomputable def lawBody : List S := [.asg 4 (.call 40 [.v 0, .k (.int 6)]), .ife (.cmp .Eq (.v 4) (.k (.int 0))) [.asgs [5, 6] (.call 45 [.v 0, .len (.v 1), .k (.str [40]), .k (.str [41])]), .asg 7 (.bop true [.cmp .Eq (.sub (.v 2) (.k (.int 0))) (.k (.str [102, 105, 101, 108, 100])), .cmp .In (.sub (.v 2) (.k (.int 3))) (.ilst [.k (.str [108, 101, 110]), .k (.str [121, 49])])]), .asg 2 (.ife (.v 7) (.tup [.k (.str [109, 101, 116, 104, 111, 100]), .k (.int 77), .sub (.v 2) (.k (.int 2)), .sub (.v 2) (.k (.int 3)), .tup [], .v 6]) (.tup [.k (.str [99, 97, 108, 108]), .k (.int 77), .v 2, .v 6]))] [.ife (.cmp .Eq (.v 4) (.k (.int 1))) [.asgs [8, 9] (.call 44 [.v 0, .bin .Add (.len (.v 1)) (.k (.int 1))]), .asgs [5, 2] (.tup [.bin .Add (.bin .Add (.k (.str [91])) (.v 8)) (.k (.str [93])), .tup [.k (.str [105, 110, 100, 101, 120]), .k (.int 77), .v 2, .v 9]])] [.ife (.cmp .Eq (.v 4) (.k (.int 2))) [.asg 10 (.call 41 [.v 0, .ilst [.k (.str [48]), .k (.str [49, 50]), .k (.str [108, 101, 110]), .k (.str [121, 49])]]), .asgs [5, 2] (.tup [.bin .Add (.call 41 [.v 0, .ilst [.k (.str [46]), .k (.str [32, 46, 32])]]) (.v 10), .tup [.k (.str [102, 105, 101, 108, 100]), .k (.int 77), .v 2, .v 10]])] [.ife (.cmp .Lt (.v 4) (.k (.int 5))) [.asgs [6, 11] (.call 45 [.v 0, .bin .Add (.len (.v 1)) (.k (.int 4)), .k (.str [40]), .k (.str [41])]), .asgs [5, 2] (.tup [.bin .Add (.k (.str [46, 103, 101, 116])) (.v 6), .tup [.k (.str [109, 101, 116, 104, 111, 100]), .k (.int 77), .v 2, .k (.str [103, 101, 116]), .tup [], .v 11]])] [.asgs [12, 13] (.call 46 [.v 0, .bin .Add (.len (.v 1)) (.k (.int 4))]), .asgs [6, 11] (.call 45 [.v 0, .bin .Add (.bin .Add (.len (.v 1)) (.k (.int 4))) (.len (.v 12)), .k (.str [40]), .k (.str [41])]), .asgs [5, 2] (.tup [.bin .Add (.bin .Add (.k (.str [46, 109, 58, 58])) (.v 12)) (.v 6), .tup [.k (.str [109, 101, 116, 104, 111, 100]), .k (.int 77), .v 2, .k (.str [109]), .v 13, .v 11]])]]]], .asg 1 (.bin .Add (.v 1) (.v 5))]

theorem lawPostfix_body : f_law_postfix.body = [.asgs [1, 2] (.tup [.k (.str []), .call 42 []]), .forr 3 (.call 40 [.v 0, .k (.int 5)]) lawBody, .ret (.tup [.v 1, .v 2])] := rfl

/-- the names of a turn: the jar, the text, the tree, and eleven others -/
noncomputable def LP (c : Nat) (T : List Nat) (tr : CV) (l : Loc) : Prop := ∃ a b d e f g h i k m n, l = [some (.lst c), some (.str T), some tr, a, b, d, e, f, g, h, i, k, m, n]

theorem op_sadd {a b : List Nat} (h : a.length + b.length ≤ 100000) : binOp .Add (.str a) (.str b) = some (.str (a ++ b)) := ofIf_pos h
theorem len_str {cs} {a : List Nat} (h : a.length ≤ 100000) : lenOp cs (.str a) = some (.int a.length) := ofIf_pos h
theorem eq_int {cs} {a b : Int} : cmpOp cs .Eq (.int a) (.int b) = some (decide (a = b)) := rfl
theorem lt_int {cs} {a b : Int} : cmpOp cs .Lt (.int a) (.int b) = some (decide (a < b)) := rfl
theorem eq_str {cs} {a b : List Nat} : cmpOp cs .Eq (.str a) (.str b) = some (decide (a = b)) := rfl

section
variable {C : Orc} {c : Nat} {T : List Nat} {tr : CV} {l : Loc} {cs cs1 cs2 cs3 : Cells}

/-- the first draw, the choice behind it -/
theorem dip6 {w : Int} {a b d e f g h i k m n : Option CV} (h40 : C 40 [.lst c, .int 6] cs = .ok (.int w) cs1) :
    exS globs C (.asg 4 (.call 40 [.v 0, .k (.int 6)])) ([some (.lst c), some (.str T), some tr, a, b, d, e, f, g, h, i, k, m, n], cs) =
      .ok .next ([some (.lst c), some (.str T), some tr, a, some (.int w), d, e, f, g, h, i, k, m, n], cs1) :=
  s_asg (e_call (e_1 (e_v rfl) (e_1 (e_k rfl) e_0)) h40)
theorem is_v4 {w z : Int} {a d e f g h i k m n : Option CV} : evX globs C (.cmp .Eq (.v 4) (.k (.int z))) [some (.lst c), some (.str T), some tr, a, some (.int w), d, e, f, g, h, i, k, m, n] cs1 = .ok (.bool (decide (w = z))) cs1 :=
  e_cmp (e_v rfl) (e_k rfl) rfl
/-- the text grows -/
theorem grow {M : List Nat} {a b e f g h i k m n : Option CV} (hA : T.length + M.length ≤ 100000) :
    exSs globs C [.asg 1 (.bin .Add (.v 1) (.v 5))] ([some (.lst c), some (.str T), some tr, a, b, some (.str M), e, f, g, h, i, k, m, n], cs) =
      .ok .next ([some (.lst c), some (.str (T ++ M)), some tr, a, b, some (.str M), e, f, g, h, i, k, m, n], cs) :=
  ss_1 (s_asg (e_bin (e_v rfl) (e_v rfl) (op_sadd hA))) ss_0
theorem lenT_ok {cs : Cells} {xs : List (Option CV)} (hT : T.length ≤ 50000) : evX globs C (.len (.v 1)) (some (.lst c) :: some (.str T) :: xs) cs = .ok (.int T.length) cs :=
  e_len (e_v rfl) (len_str (by omega))

variable (hl : LP c T tr l) (hT : T.length ≤ 50000)
include hl hT

theorem body_call {M : List Nat} {V tr' : CV} (hM : M.length ≤ 1000) (h40 : C 40 [.lst c, .int 6] cs = .ok (.int 0) cs1) (h45 : C 45 [.lst c, .int T.length, .str [40], .str [41]] cs1 = .ok (.tup [.str M, V]) cs2)
    (hn : (∃ t0 nm, (∀ cs, subOp cs tr (.int 0) = some (.str sField)) ∧ (∀ cs, subOp cs tr (.int 3) = some (.str nm)) ∧ (nm = [108, 101, 110] ∨ nm = [121, 49]) ∧ (∀ cs, subOp cs tr (.int 2) = some t0) ∧ tr' = .tup [.str sMethod, .int 77, t0, .str nm, .tup [], V]) ∨
      (∃ k, (∀ cs, subOp cs tr (.int 0) = some (.str k)) ∧ (k = sField → ∃ nm, (∀ cs, subOp cs tr (.int 3) = some (.str nm)) ∧ nm ≠ [108, 101, 110] ∧ nm ≠ [121, 49]) ∧ tr' = .tup [.str sCall, .int 77, tr, V])) :
    ∃ l', LP c (T ++ M) tr' l' ∧ exSs globs C lawBody (l, cs) = .ok .next (l', cs2) := by
  obtain ⟨a, b, d, e, f, g, h, i, k, m, n, rfl⟩ := hl
  have key : ∀ (t : Bool), evX globs C (.bop true [.cmp .Eq (.sub (.v 2) (.k (.int 0))) (.k (.str [102, 105, 101, 108, 100])), .cmp .In (.sub (.v 2) (.k (.int 3))) (.ilst [.k (.str [108, 101, 110]), .k (.str [121, 49])])])
      [some (.lst c), some (.str T), some tr, a, some (.int 0), some (.str M), some V, f, g, h, i, k, m, n] cs2 = .ok (.bool t) cs2 →
      evX globs C (.ife (.v 7) (.tup [.k (.str [109, 101, 116, 104, 111, 100]), .k (.int 77), .sub (.v 2) (.k (.int 2)), .sub (.v 2) (.k (.int 3)), .tup [], .v 6]) (.tup [.k (.str [99, 97, 108, 108]), .k (.int 77), .v 2, .v 6]))
        [some (.lst c), some (.str T), some tr, a, some (.int 0), some (.str M), some V, some (.bool t), g, h, i, k, m, n] cs2 = .ok tr' cs2 →
      ∃ l', LP c (T ++ M) tr' l' ∧ exSs globs C lawBody ([some (.lst c), some (.str T), some tr, a, b, d, e, f, g, h, i, k, m, n], cs) = .ok .next (l', cs2) := fun t h1 h2 =>
    ⟨_, ⟨_, _, _, _, _, _, _, _, _, _, _, rfl⟩, ss_1 (dip6 h40) (ss_1 (s_if1 is_v4 (ss_1 (s_asgs (e_call (e_1 (e_v rfl) (e_1 (lenT_ok hT) (e_1 (e_k rfl) (e_1 (e_k rfl) e_0)))) h45) rfl) (ss_1 (s_asg h1) (ss_1 (s_asg h2) ss_0)))) (grow (by omega)))⟩
  rcases hn with ⟨t0, nm, n0, n3, nn, n2, rfl⟩ | ⟨k0, n0, n3, rfl⟩
  · have e3 : ∀ cs, cmpOp cs .In (.str nm) (.ils [.str [108, 101, 110], .str [121, 49]]) = some true := by
      intro cs; rcases nn with rfl | rfl <;> rfl
    exact key true (e_b1 (e_cmp (e_sub (e_v rfl) (e_k rfl) (n0 _)) (e_k rfl) rfl) (e_cmp (e_sub (e_v rfl) (e_k rfl) (n3 _)) (e_ils (e_1 (e_k rfl) (e_1 (e_k rfl) e_0))) (e3 _)))
      (e_if1 (e_v rfl) (e_tup (e_1 (e_k rfl) (e_1 (e_k rfl) (e_1 (e_sub (e_v rfl) (e_k rfl) (n2 _)) (e_1 (e_sub (e_v rfl) (e_k rfl) (n3 _)) (e_1 (e_tup e_0) (e_1 (e_v rfl) e_0))))))))
  · have fin : evX globs C (.ife (.v 7) (.tup [.k (.str [109, 101, 116, 104, 111, 100]), .k (.int 77), .sub (.v 2) (.k (.int 2)), .sub (.v 2) (.k (.int 3)), .tup [], .v 6]) (.tup [.k (.str [99, 97, 108, 108]), .k (.int 77), .v 2, .v 6]))
        [some (.lst c), some (.str T), some tr, a, some (.int 0), some (.str M), some V, some (.bool false), g, h, i, k, m, n] cs2 = .ok (.tup [.str sCall, .int 77, tr, V]) cs2 :=
      e_if0 (e_v rfl) (e_tup (e_1 (e_k rfl) (e_1 (e_k rfl) (e_1 (e_v rfl) (e_1 (e_v rfl) e_0)))))
    by_cases hk : k0 = sField
    · obtain ⟨nm, g3, g4, g5⟩ := n3 hk
      have e3 : ∀ cs, cmpOp cs .In (.str nm) (.ils [.str [108, 101, 110], .str [121, 49]]) = some false := by
        intro cs; simp [cmpOp, inOp, ofIf, allStr, isStr, -not_or]; exact ⟨Ne.symm g4, Ne.symm g5⟩
      subst hk
      exact key false (e_b1 (e_cmp (e_sub (e_v rfl) (e_k rfl) (n0 _)) (e_k rfl) rfl) (e_cmp (e_sub (e_v rfl) (e_k rfl) (g3 _)) (e_ils (e_1 (e_k rfl) (e_1 (e_k rfl) e_0))) (e3 _))) fin
    · have e0 : ∀ cs, cmpOp cs .Eq (.str k0) (.str [102, 105, 101, 108, 100]) = some false := fun cs => (eq_str (cs := cs)).trans (congrArg some (decide_eq_false hk))
      exact key false (e_b0 (e_cmp (e_sub (e_v rfl) (e_k rfl) (n0 _)) (e_k rfl) (e0 _)) Bool.false_ne_true) fin

theorem body_index {M : List Nat} {V : CV} (hM : M.length ≤ 1000) (h40 : C 40 [.lst c, .int 6] cs = .ok (.int 1) cs1) (h44 : C 44 [.lst c, .int (T.length + 1)] cs1 = .ok (.tup [.str M, V]) cs2) :
    ∃ l', LP c (T ++ (91 :: (M ++ [93]))) (.tup [.str sIndex, .int 77, tr, V]) l' ∧ exSs globs C lawBody (l, cs) = .ok .next (l', cs2) := by
  obtain ⟨a, b, d, e, f, g, h, i, k, m, n, rfl⟩ := hl
  have h1 : binOp .Add (.str [91]) (.str M) = some (.str (91 :: M)) := op_sadd (by simp; omega)
  have h2 : binOp .Add (.str (91 :: M)) (.str [93]) = some (.str (91 :: (M ++ [93]))) := op_sadd (by simp; omega)
  exact ⟨_, ⟨_, _, _, _, _, _, _, _, _, _, _, rfl⟩, ss_1 (dip6 h40) (ss_1 (s_if0 is_v4 (ss_1 (s_if1 is_v4 (ss_1 (s_asgs (e_call (e_1 (e_v rfl) (e_1 (e_bin (lenT_ok hT) (e_k rfl) rfl) e_0)) h44) rfl)
    (ss_1 (s_asgs (e_tup (e_1 (e_bin (e_bin (e_k rfl) (e_v rfl) h1) (e_k rfl) h2) (e_1 (e_tup (e_1 (e_k rfl) (e_1 (e_k rfl) (e_1 (e_v rfl) (e_1 (e_v rfl) e_0))))) e_0))) rfl) ss_0))) ss_0)) (grow (by simp; omega)))⟩

theorem body_field {N D : List Nat} (hM : N.length ≤ 1000) (hD : D.length ≤ 1000) (h40 : C 40 [.lst c, .int 6] cs = .ok (.int 2) cs1)
    (h1 : C 41 [.lst c, .ils [.str [48], .str [49, 50], .str [108, 101, 110], .str [121, 49]]] cs1 = .ok (.str N) cs2) (h2 : C 41 [.lst c, .ils [.str [46], .str [32, 46, 32]]] cs2 = .ok (.str D) cs3) :
    ∃ l', LP c (T ++ (D ++ N)) (.tup [.str sField, .int 77, tr, .str N]) l' ∧ exSs globs C lawBody (l, cs) = .ok .next (l', cs3) := by
  obtain ⟨a, b, d, e, f, g, h, i, k, m, n, rfl⟩ := hl
  exact ⟨_, ⟨_, _, _, _, _, _, _, _, _, _, _, rfl⟩, ss_1 (dip6 h40) (ss_1 (s_if0 is_v4 (ss_1 (s_if0 is_v4 (ss_1 (s_if1 is_v4 (ss_1 (s_asg (e_call (e_1 (e_v rfl) (e_1 (e_ils (e_1 (e_k rfl) (e_1 (e_k rfl) (e_1 (e_k rfl) (e_1 (e_k rfl) e_0))))) e_0)) h1))
    (ss_1 (s_asgs (e_tup (e_1 (e_bin (e_call (e_1 (e_v rfl) (e_1 (e_ils (e_1 (e_k rfl) (e_1 (e_k rfl) e_0))) e_0)) h2) (e_v rfl) (op_sadd (by omega))) (e_1 (e_tup (e_1 (e_k rfl) (e_1 (e_k rfl) (e_1 (e_v rfl) (e_1 (e_v rfl) e_0))))) e_0))) rfl) ss_0))) ss_0)) ss_0)) (grow (by simp; omega)))⟩

theorem body_get {M : List Nat} {V : CV} {w : Int} (hw : w = 3 ∨ w = 4) (hM : M.length ≤ 1000) (h40 : C 40 [.lst c, .int 6] cs = .ok (.int w) cs1)
    (h45 : C 45 [.lst c, .int (T.length + 4), .str [40], .str [41]] cs1 = .ok (.tup [.str M, V]) cs2) :
    ∃ l', LP c (T ++ ([46, 103, 101, 116] ++ M)) (.tup [.str sMethod, .int 77, tr, .str [103, 101, 116], .tup [], V]) l' ∧ exSs globs C lawBody (l, cs) = .ok .next (l', cs2) := by
  obtain ⟨a, b, d, e, f, g, h, i, k, m, n, rfl⟩ := hl
  have n0 : decide (w = 0) = false := by rcases hw with rfl | rfl <;> rfl
  have n1 : decide (w = 1) = false := by rcases hw with rfl | rfl <;> rfl
  have n2 : decide (w = 2) = false := by rcases hw with rfl | rfl <;> rfl
  have n5 : ∀ cs, cmpOp cs .Lt (.int w) (.int 5) = some true := by intro cs; rcases hw with rfl | rfl <;> rfl
  exact ⟨_, ⟨_, _, _, _, _, _, _, _, _, _, _, rfl⟩, ss_1 (dip6 h40) (ss_1 (s_if0 (n0 ▸ is_v4) (ss_1 (s_if0 (n1 ▸ is_v4) (ss_1 (s_if0 (n2 ▸ is_v4) (ss_1 (s_if1 (e_cmp (e_v rfl) (e_k rfl) (n5 _))
    (ss_1 (s_asgs (e_call (e_1 (e_v rfl) (e_1 (e_bin (lenT_ok hT) (e_k rfl) rfl) (e_1 (e_k rfl) (e_1 (e_k rfl) e_0)))) h45) rfl)
    (ss_1 (s_asgs (e_tup (e_1 (e_bin (e_k rfl) (e_v rfl) (op_sadd (by simp; omega))) (e_1 (e_tup (e_1 (e_k rfl) (e_1 (e_k rfl) (e_1 (e_v rfl) (e_1 (e_k rfl) (e_1 (e_tup e_0) (e_1 (e_v rfl) e_0))))))) e_0))) rfl) ss_0))) ss_0)) ss_0)) ss_0)) (grow (by simp; omega)))⟩

theorem body_m {A M : List Nat} {V Y : CV} (hAl : A.length ≤ 1000) (hM : M.length ≤ 1000) (h40 : C 40 [.lst c, .int 6] cs = .ok (.int 5) cs1)
    (h46 : C 46 [.lst c, .int (T.length + 4)] cs1 = .ok (.tup [.str A, Y]) cs2)
    (h45 : C 45 [.lst c, .int (T.length + 4 + A.length), .str [40], .str [41]] cs2 = .ok (.tup [.str M, V]) cs3) :
    ∃ l', LP c (T ++ ([46, 109, 58, 58] ++ A ++ M)) (.tup [.str sMethod, .int 77, tr, .str [109], Y, V]) l' ∧ exSs globs C lawBody (l, cs) = .ok .next (l', cs3) := by
  obtain ⟨a, b, d, e, f, g, h, i, k, m, n, rfl⟩ := hl
  exact ⟨_, ⟨_, _, _, _, _, _, _, _, _, _, _, rfl⟩, ss_1 (dip6 h40) (ss_1 (s_if0 is_v4 (ss_1 (s_if0 is_v4 (ss_1 (s_if0 is_v4 (ss_1 (s_if0 (e_cmp (e_v rfl) (e_k rfl) rfl)
    (ss_1 (s_asgs (e_call (e_1 (e_v rfl) (e_1 (e_bin (lenT_ok hT) (e_k rfl) rfl) e_0)) h46) rfl)
    (ss_1 (s_asgs (e_call (e_1 (e_v rfl) (e_1 (e_bin (e_bin (lenT_ok hT) (e_k rfl) rfl) (e_len (e_v rfl) (len_str (by omega))) rfl) (e_1 (e_k rfl) (e_1 (e_k rfl) e_0)))) h45) rfl)
    (ss_1 (s_asgs (e_tup (e_1 (e_bin (e_bin (e_k rfl) (e_v rfl) (op_sadd (by simp; omega))) (e_v rfl) (op_sadd (by simp; omega))) (e_1 (e_tup (e_1 (e_k rfl) (e_1 (e_k rfl) (e_1 (e_v rfl) (e_1 (e_k rfl) (e_1 (e_v rfl) (e_1 (e_v rfl) e_0))))))) e_0))) rfl) ss_0)))) ss_0)) ss_0)) ss_0)) (grow (by simp; omega)))⟩
end
end Mine.L
end

section
namespace Mine.L
open PySem

theorem segsToks_snoc : ∀ (ss : List Seg) (s : Seg), segsToks (ss ++ [s]) = segsToks ss ++ segToks s
  | [], s => by simp [segsToks]
  | t :: ss, s => by simp [segsToks, segsToks_snoc ss s]
theorem build_snoc : ∀ (ss : List Seg) (p : Nat) (T : CV) (s : Seg), build p T (ss ++ [s]) = segTree (p + lenT (segsToks ss)) (build p T ss) s
  | [], p, T, s => by simp [build, segsToks, lenT, txtOf]
  | t :: ss, p, T, s => by
    simp only [List.cons_append, build, build_snoc ss, segsToks, lenT, txtOf_app, List.length_append, Nat.add_assoc]
theorem wf_snoc : ∀ (ss : List Seg) (s : Seg), wf ss → (∀ L t, ss = L ++ [t] → needs t = true → isCall s = false) → wf (ss ++ [s])
  | [], s, _, _ => trivial
  | [t], s, _, h => ⟨h [] t rfl, trivial⟩
  | t :: t' :: ss, s, hw, h => ⟨hw.1, wf_snoc (t' :: ss) s hw.2 fun L u e => h (t :: L) u (by rw [e]; rfl)⟩
theorem wf_init : ∀ (ss : List Seg) (s : Seg), wf (ss ++ [s]) → wf ss
  | [], s, _ => trivial
  | [t], s, _ => trivial
  | t :: t' :: ss, s, hw => ⟨hw.1, wf_init (t' :: ss) s hw.2⟩
theorem isCall_not {s : Seg} (h : ∀ v, s ≠ .call v) : isCall s = false := by
  cases s with
  | call v => exact absurd rfl (h v)
  | _ => rfl

structure Good (ss : List Seg) : Prop where
  ok : ∀ s ∈ ss, segOK s
  wf : wf ss

theorem Good.snoc {ss : List Seg} {s : Seg} (h : Good ss) (hs : segOK s) (hn : ∀ L t, ss = L ++ [t] → needs t = true → isCall s = false) : Good (ss ++ [s]) :=
  ⟨fun x hx => by
    rcases List.mem_append.1 hx with hx | hx
    · exact h.ok x hx
    · rw [List.mem_singleton.1 hx]; exact hs, wf_snoc ss s h.wf hn⟩

noncomputable def txtS (ss : List Seg) : List Nat := txtOf (segsToks ss)
theorem txtS_snoc (ss : List Seg) (s : Seg) : txtS (ss ++ [s]) = txtS ss ++ txtOf (segToks s) := by simp [txtS, segsToks_snoc, txtOf_app]
theorem build0 (ss : List Seg) (s : Seg) : build 0 baseT (ss ++ [s]) = segTree (txtS ss).length (build 0 baseT ss) s := by
  rw [build_snoc, Nat.zero_add]; rfl

theorem law_turn {c : Nat} {ss : List Seg} {l : Loc} {cs : Cells} {j : Int × Int} (hg : Good ss) (hss : ss.length ≤ 10) (hl : LP c (txtS ss) (build 0 baseT ss) l)
    (hc : JarAt cs c j) (hj : JOK j) (b : Nat) (hb : 8 ≤ b) :
    ∃ ss' l' cs' j', exSs globs (callB funs globs b) lawBody (l, cs) = .ok .next (l', cs') ∧ LP c (txtS ss') (build 0 baseT ss') l' ∧ Good ss' ∧ ss'.length ≤ ss.length + 1 ∧
      JarAt cs' c j' ∧ JOK j' ∧ FrJ c cs cs' := by
  have hlen := (segs_len ss hg.ok).1
  have hT : (txtS ss).length ≤ 1000 := by simp only [lenT, txtS] at hlen ⊢; omega
  obtain ⟨w, hw, cs1, j1, d1, c1, k1, f1⟩ := gen_dip hc hj 6 (by omega) (by omega) b (by omega)
  have hnc : ∀ {s : Seg}, isCall s = false → ∀ L t, ss = L ++ [t] → needs t = true → isCall s = false := fun h _ _ _ _ => h
  match w, hw with
  | 0, _ =>
    obtain ⟨v, hv, cs2, j2, d2, c2, k2, f2⟩ := gen_values (.inl ⟨rfl, rfl⟩) c1 k1 (p := (txtS ss).length) (by omega) b hb
    have hM := (brE_fact hv).len
    have eM : brText exToks 40 41 v = txtOf (brE v) := rfl
    rw [eM] at d2
    simp only [lenT] at hM
    have plainCase : (∀ L t, ss = L ++ [t] → needs t = false) → (∃ k, (∀ cs, subOp cs (build 0 baseT ss) (.int 0) = some (.str k)) ∧
        (k = sField → ∃ nm, (∀ cs, subOp cs (build 0 baseT ss) (.int 3) = some (.str nm)) ∧ nm ≠ [108, 101, 110] ∧ nm ≠ [121, 49])) →
        ∃ ss' l' cs' j', exSs globs (callB funs globs b) lawBody (l, cs) = .ok .next (l', cs') ∧ LP c (txtS ss') (build 0 baseT ss') l' ∧ Good ss' ∧ ss'.length ≤ ss.length + 1 ∧
          JarAt cs' c j' ∧ JOK j' ∧ FrJ c cs cs' := by
      intro h1 ⟨k, h2, h3⟩
      obtain ⟨l', g1, g2⟩ := body_call hl (by omega) (by omega) d1 d2 (.inr ⟨k, h2, h3, rfl⟩)
      refine ⟨ss ++ [.call v], l', cs2, j2, g2, ?_, hg.snoc (s := .call v) hv (fun L t e hn => by rw [h1 L t e] at hn; cases hn), by simp, c2, k2, f1.trans f2⟩
      rw [txtS_snoc, build0]
      exact g1
    rcases List.eq_nil_or_concat ss with rfl | ⟨L, s, e⟩
    · exact plainCase (by intro L t e; simp at e) ⟨_, fun cs => rfl, fun h => absurd h (by decide)⟩
    · rw [List.concat_eq_append] at e
      have hlast : ∀ L' t, ss = L' ++ [t] → t = s := by
        intro L' t e'; rw [e] at e'
        exact ((List.append_inj' e' rfl).2 |> List.singleton_inj.1).symm
      have hb0 : build 0 baseT ss = segTree (txtS L).length (build 0 baseT L) s := by rw [e, build0]
      cases s with
      | call v' => exact plainCase (by intro L t e'; rw [hlast L t e']; rfl) ⟨sCall, by rw [hb0]; exact fun cs => rfl, fun h => absurd h (by decide)⟩
      | idx x => exact plainCase (by intro L t e'; rw [hlast L t e']; rfl) ⟨sIndex, by rw [hb0]; exact fun cs => rfl, fun h => absurd h (by decide)⟩
      | mth n sp v' => exact plainCase (by intro L t e'; rw [hlast L t e']; rfl) ⟨sMethod, by rw [hb0]; exact fun cs => rfl, fun h => absurd h (by decide)⟩
      | mty t' v' => exact plainCase (by intro L t e'; rw [hlast L t e']; rfl) ⟨sMethod, by rw [hb0]; exact fun cs => rfl, fun h => absurd h (by decide)⟩
      | fld n sp =>
        have hn4 : n < 4 := hg.ok (.fld n sp) (by rw [e]; simp)
        by_cases hn : 2 ≤ n
        · have hnm : nameS n = [108, 101, 110] ∨ nameS n = [121, 49] := by
            match n, hn, hn4 with
            | 2, _, _ => exact .inl rfl
            | 3, _, _ => exact .inr rfl
            | n + 4, _, h => omega
          obtain ⟨l', g1, g2⟩ := body_call hl (by omega) (by omega) d1 d2 (.inl ⟨build 0 baseT L, nameS n, by rw [hb0]; exact fun cs => rfl, by rw [hb0]; exact fun cs => rfl, hnm, by rw [hb0]; exact fun cs => rfl, rfl⟩)
          have hgL : Good L := ⟨fun x hx => hg.ok x (by rw [e]; simp [hx]), wf_init L (.fld n sp) (by rw [← e]; exact hg.wf)⟩
          refine ⟨L ++ [.mth n sp v], l', cs2, j2, g2, ?_, hgL.snoc (s := .mth n sp v) ⟨hn, by omega, hv⟩ (fun _ _ _ _ => rfl), by rw [e]; simp, c2, k2, f1.trans f2⟩
          have e1 : txtS ss ++ txtOf (brE v) = txtS (L ++ [.mth n sp v]) := by
            rw [e, txtS_snoc, txtS_snoc]
            simp [segToks, txtOf]
          have e2 : segTree (txtS L).length (build 0 baseT L) (.mth n sp v) = .tup [.str sMethod, .int 77, build 0 baseT L, .str (nameS n), .tup [], valsAt (txtS ss).length v] := by
            have : (txtS ss).length = (txtS L).length + lenT [dots sp, nmT n sp] := by rw [e, txtS_snoc]; simp [segToks, lenT]
            rw [this]; rfl
          rw [build0, e2, ← e1]
          exact g1
        · refine plainCase (by intro L t e'; rw [hlast L t e']; simp [needs]; omega) ⟨sField, by rw [hb0]; exact fun cs => rfl, fun _ => ⟨nameS n, by rw [hb0]; exact fun cs => rfl, ?_⟩⟩
          match n, hn with
          | 0, _ => exact ⟨by decide, by decide⟩
          | 1, _ => exact ⟨by decide, by decide⟩
          | n + 2, h => omega
  | 1, _ =>
    obtain ⟨x, hx, cs2, j2, d2, c2, k2, f2⟩ := gen_value c1 k1 (p := (txtS ss).length + 1) (by omega) b hb
    have hM : (txtOf (exToks x)).length ≤ 1000 := by
      match x, hx with
      | 0, _ | 1, _ | 2, _ | 3, _ | 4, _ => simp [exToks, txtOf, sg, nm, num, Tok.sp]
      | x + 5, h => omega
    obtain ⟨l', g1, g2⟩ := body_index hl (by omega) hM d1 d2
    refine ⟨ss ++ [.idx x], l', cs2, j2, g2, ?_, hg.snoc (s := .idx x) hx (hnc rfl), by simp, c2, k2, f1.trans f2⟩
    rw [txtS_snoc, build0]
    have e : txtOf (segToks (.idx x)) = 91 :: (txtOf (exToks x) ++ [93]) := by simp [segToks, txtOf, txtOf_app, sg]
    rw [e]
    exact g1
  | 2, _ =>
    obtain ⟨n, x, hn, hx, cs2, j2, d2, c2, k2, f2⟩ := gen_one c1 k1 [.str [48], .str [49, 50], .str [108, 101, 110], .str [121, 49]] (by simp) (by simp) b (by omega)
    obtain ⟨q, y, hq, hy, cs3, j3, d3, c3, k3, f3⟩ := gen_one c2 k2 [.str [46], .str [32, 46, 32]] (by simp) (by simp) b (by omega)
    have hn4 : n < 4 := hn
    have ex : x = .str (nameS n) := by
      match n, hn4 with
      | 0, _ | 1, _ | 2, _ | 3, _ => simp at hx; rw [← hx]; rfl
      | n + 4, h => omega
    have ey : ∃ sp : Bool, y = .str (if sp then [32, 46, 32] else [46]) := by
      match q, hq with
      | 0, _ => exact ⟨false, by simp at hy; rw [← hy]; rfl⟩
      | 1, _ => exact ⟨true, by simp at hy; rw [← hy]; rfl⟩
      | q + 2, h => simp at h; omega
    obtain ⟨sp, ey⟩ := ey
    subst ex; subst ey
    have hN : (nameS n).length ≤ 1000 := by
      match n, hn4 with
      | 0, _ | 1, _ | 2, _ | 3, _ => simp [nameS]
      | n + 4, h => omega
    obtain ⟨l', g1, g2⟩ := body_field hl (by omega) hN (by cases sp <;> simp) d1 d2 d3
    refine ⟨ss ++ [.fld n sp], l', cs3, j3, g2, ?_, hg.snoc (s := .fld n sp) hn4 (hnc rfl), by simp, c3, k3, (f1.trans f2).trans f3⟩
    rw [txtS_snoc, build0]
    have e : txtOf (segToks (.fld n sp)) = (if sp then [32, 46, 32] else [46]) ++ nameS n := by
      match n, hn4 with
      | 0, _ | 1, _ | 2, _ | 3, _ => cases sp <;> rfl
      | n + 4, h => omega
    rw [e]
    exact g1
  | 3, _ =>
    obtain ⟨v, hv, cs2, j2, d2, c2, k2, f2⟩ := gen_values (.inl ⟨rfl, rfl⟩) c1 k1 (p := (txtS ss).length + 4) (by omega) b hb
    have hM := (brE_fact hv).len
    have eM : brText exToks 40 41 v = txtOf (brE v) := rfl
    rw [eM] at d2
    simp only [lenT] at hM
    obtain ⟨l', g1, g2⟩ := body_get hl (by omega) (w := 3) (.inl rfl) (by omega) d1 d2
    refine ⟨ss ++ [.mth 4 false v], l', cs2, j2, g2, ?_, hg.snoc (s := .mth 4 false v) ⟨by omega, by omega, hv⟩ (hnc rfl), by simp, c2, k2, f1.trans f2⟩
    rw [txtS_snoc, build0]
    exact g1
  | 4, _ =>
    obtain ⟨v, hv, cs2, j2, d2, c2, k2, f2⟩ := gen_values (.inl ⟨rfl, rfl⟩) c1 k1 (p := (txtS ss).length + 4) (by omega) b hb
    have hM := (brE_fact hv).len
    have eM : brText exToks 40 41 v = txtOf (brE v) := rfl
    rw [eM] at d2
    simp only [lenT] at hM
    obtain ⟨l', g1, g2⟩ := body_get hl (by omega) (w := 4) (.inr rfl) (by omega) d1 d2
    refine ⟨ss ++ [.mth 4 false v], l', cs2, j2, g2, ?_, hg.snoc (s := .mth 4 false v) ⟨by omega, by omega, hv⟩ (hnc rfl), by simp, c2, k2, f1.trans f2⟩
    rw [txtS_snoc, build0]
    exact g1
  | 5, _ =>
    obtain ⟨t, ht, cs2, j2, d2, c2, k2, f2⟩ := gen_types c1 k1 (p := (txtS ss).length + 4) (by omega) b hb
    have hA := (brT_fact (m := []) (by simp) ht).len
    have hA : (txtOf (brT t)).length ≤ 40 := hA
    obtain ⟨v, hv, cs3, j3, d3, c3, k3, f3⟩ := gen_values (.inl ⟨rfl, rfl⟩) c2 k2 (p := (txtS ss).length + 4 + (txtOf (brT t)).length) (by omega) b hb
    have hM := (brE_fact hv).len
    have eM : brText exToks 40 41 v = txtOf (brE v) := rfl
    rw [eM] at d3
    simp only [lenT] at hM
    obtain ⟨l', g1, g2⟩ := body_m hl (by omega) (by omega) (by omega) d1 d2 d3
    refine ⟨ss ++ [.mty t v], l', cs3, j3, g2, ?_, hg.snoc (s := .mty t v) ⟨ht, hv⟩ (hnc rfl), by simp, c3, k3, (f1.trans f2).trans f3⟩
    rw [txtS_snoc, build0]
    have e : txtOf (segToks (.mty t v)) = [46, 109, 58, 58] ++ txtOf (brT t) ++ txtOf (brE v) := by simp [segToks, txtOf, txtOf_app, sg, nm]
    rw [e]
    exact g1
  | w + 6, h => omega

theorem LP.set3 {c T tr l} (h : LP c T tr l) (x : CV) : LP c T tr (l.set 3 (some x)) := by
  obtain ⟨a, b, d, e, f, g, h, i, k, m, n, rfl⟩ := h
  exact ⟨_, _, _, _, _, _, _, _, _, _, _, rfl⟩

theorem law_each {c : Nat} (b : Nat) (hb : 8 ≤ b) : ∀ (xs : List CV) (ss : List Seg) (l : Loc) (cs : Cells) (j : Int × Int), Good ss → ss.length + xs.length ≤ 10 → LP c (txtS ss) (build 0 baseT ss) l →
    JarAt cs c j → JOK j →
    ∃ ss' l' cs' j', each 3 (fun s => exSs globs (callB funs globs b) lawBody s) xs (l, cs) = .ok .next (l', cs') ∧ LP c (txtS ss') (build 0 baseT ss') l' ∧ Good ss' ∧ ss'.length ≤ ss.length + xs.length ∧
      JarAt cs' c j' ∧ JOK j' ∧ FrJ c cs cs'
  | [], ss, l, cs, j, hg, hn, hl, hc, hj => ⟨ss, l, cs, j, rfl, hl, hg, by simp, hc, hj, FrJ.refl⟩
  | x :: xs, ss, l, cs, j, hg, hn, hl, hc, hj => by
    simp only [List.length_cons] at hn
    obtain ⟨ss1, l1, cs1, j1, h1, h2, h3, h4, h5, h6, h7⟩ := law_turn hg (by omega) (hl.set3 x) hc hj b hb
    obtain ⟨ss2, l2, cs2, j2, k1, k2, k3, k4, k5, k6, k7⟩ := law_each b hb xs ss1 l1 cs1 j1 h3 (by omega) h2 h5 h6
    refine ⟨ss2, l2, cs2, j2, ?_, k2, k3, by simp; omega, k5, k6, h7.trans k7⟩
    exact bd h1 k1

theorem gen_postfix {c : Nat} {cs : Cells} {j : Int × Int} (hc : JarAt cs c j) (hj : JOK j) (b : Nat) (hb : 10 ≤ b) :
    ∃ ss, Good ss ∧ ss.length ≤ 5 ∧ ∃ cs' j', callB funs globs b 47 [.lst c] cs = .ok (.tup [.str (txtS ss), build 0 baseT ss]) cs' ∧ JarAt cs' c j' ∧ JOK j' ∧ FrJ c cs cs' := by
  obtain ⟨b, rfl⟩ := Nat.exists_eq_add_of_le' (show 1 ≤ b by omega)
  obtain ⟨d, hd, cs1, j1, d1, c1, k1, f1⟩ := gen_dip hc hj 5 (by omega) (by omega) b (by omega)
  let l0 : Loc := [some (.lst c), some (.str []), some baseT, none, none, none, none, none, none, none, none, none, none, none]
  obtain ⟨ss, l', cs2, j2, h1, h2, h3, h4, h5, h6, h7⟩ := law_each (c := c) b (by omega) ((List.range d).map fun (k : Nat) => CV.int (k : Int)) [] l0 cs1 j1 ⟨by simp, trivial⟩ (by simp; omega)
    ⟨_, _, _, _, _, _, _, _, _, _, _, rfl⟩ c1 k1
  refine ⟨ss, h3, by simp at h4; omega, cs2, j2, ?_, h5, h6, f1.trans h7⟩
  have hbase := base_ok cs b (by omega)
  refine call_ret (d := f_law_postfix) (l := [some (.lst c), none, none, none, none, none, none, none, none, none, none, none, none, none]) (s := (l', cs2)) rfl rfl ?_
  rw [lawPostfix_body]
  obtain ⟨a, b', d', e, f, g, h, i, k, m, n, rfl⟩ := h2
  generalize callB funs globs b = C at d1 h1 hbase ⊢
  exact ss_1 (s_asgs (e_tup (e_1 (e_k rfl) (e_1 (e_call e_0 hbase) e_0))) rfl) (ss_1 (s_forr (e_call (e_1 (e_v rfl) (e_1 (e_k rfl) e_0)) d1) (by omega) h1) (ss_ret (s_ret (e_tup (e_1 (e_v rfl) (e_1 (e_v rfl) e_0))))))
end Mine.L
end

section
namespace Mine.L
open PySem

theorem op_ge1 {cs} {a b : Int} (h : a ≥ b) : cmpOp cs .GtE (.int a) (.int b) = some true := congrArg some (decide_eq_true h)
theorem op_ge0 {cs} {a b : Int} (h : ¬ a ≥ b) : cmpOp cs .GtE (.int a) (.int b) = some false := congrArg some (decide_eq_false h)
theorem len_ils {cs} {a : List CV} (h : a.length ≤ 100000) : lenOp cs (.ils a) = some (.int a.length) := ofIf_pos h
theorem jar_ok (ns : List Int) (hn : ns.length ≤ 90000) (cs : Cells) (b : Nat) (hb : 1 ≤ b) :
    ∃ j, callB funs globs b 39 [.ils (ns.map .int)] cs = .ok (.lst cs.length) (cs ++ [.list [.int j.1, .int j.2]]) ∧ JOK j := by
  obtain ⟨b, rfl⟩ := Nat.exists_eq_add_of_le' hb
  let told : Int := match ns with | [] => 0 | n :: _ => n
  let wide : Int := if told < -1 - told then -1 - told else told
  let a : Int := if wide ≥ 10 ^ 18 then wide else 0
  let e : Int := Int.fmod ((Int.fmod wide 2147483629 + 17) * 48271) 2147483647
  have hm : (0 : Int) < 2147483647 ∧ (2147483647 : Int) < 2 ^ 62 := by omega
  have hk : (0 : Int) < 2147483629 ∧ (2147483629 : Int) < 2 ^ 62 := by omega
  have h1 := Int.fmod_nonneg_of_pos wide hk.1
  have h2 := Int.fmod_lt_of_pos wide hk.1
  have hmul : (Int.fmod wide 2147483629 + 17).natAbs < 2 ^ 62 ∧ (48271 : Int).natAbs < 2 ^ 62 := by omega
  have e1 : 0 ≤ e := Int.fmod_nonneg_of_pos _ hm.1
  have e2 : e < 2147483647 := Int.fmod_lt_of_pos _ hm.1
  refine ⟨(a, e), call_ret (d := f_law_jar) (l := [some (.ils (ns.map .int)), none, none]) (s := ([some (.ils (ns.map .int)), some (.int told), some (.int wide)], cs ++ [.list [.int a, .int e]])) rfl rfl ?_, ?_, e1, Int.lt_trans e2 (by omega)⟩
  · have g1 : evX globs (callB funs globs b) (.ife (.cmp .Gt (.len (.v 0)) (.k (.int 0))) (.sub (.v 0) (.k (.int 0))) (.k (.int 0))) [some (.ils (ns.map .int)), none, none] cs = .ok (.int told) cs := by
      cases ns with
      | nil => exact e_if0 (e_cmp (e_len (e_v rfl) (len_ils (Nat.zero_le _))) (e_k rfl) rfl) (e_k rfl)
      | cons n r =>
        have h3 : (CV.int n :: r.map .int).length ≤ 100000 := by
          rw [List.length_cons, List.length_map]
          exact Nat.le_trans hn (by decide)
        exact e_if1 (e_cmp (e_len (e_v rfl) (len_ils h3)) (e_k rfl) (op_gt1 (Int.ofNat_lt.mpr (Nat.succ_pos _)))) (e_sub (e_v rfl) (e_k rfl) rfl)
    have g3 : evX globs (callB funs globs b) (.ife (.cmp .GtE (.v 2) (.bin .Pow (.k (.int 10)) (.k (.int 18)))) (.v 2) (.k (.int 0))) [some (.ils (ns.map .int)), some (.int told), some (.int wide)] cs = .ok (.int a) cs := by
      by_cases hw : wide ≥ 10 ^ 18
      · refine (e_if1 (e_cmp (e_v rfl) (e_bin (e_k rfl) (e_k rfl) rfl) (op_ge1 hw)) (e_v rfl)).trans ?_
        show _ = Res.ok (CV.int (if wide ≥ 10 ^ 18 then wide else 0)) cs
        rw [if_pos hw]
      · refine (e_if0 (e_cmp (e_v rfl) (e_bin (e_k rfl) (e_k rfl) rfl) (op_ge0 hw)) (e_k rfl)).trans ?_
        show _ = Res.ok (CV.int (if wide ≥ 10 ^ 18 then wide else 0)) cs
        rw [if_neg hw]
    exact ss_1 (s_asg g1) (ss_1 (s_asg (e_max (e_v rfl) (e_bin (e_neg (e_k rfl)) (e_v rfl) rfl))) (ss_ret (s_ret (e_lst (e_1 g3 (e_1 (e_bin (e_bin (e_bin (e_bin (e_v rfl) (e_k rfl) (op_mod hk)) (e_k rfl) rfl) (e_k rfl) (op_mul hmul)) (e_k rfl) (op_mod hm)) e_0))))))
  · show 0 ≤ a
    simp only [a]
    split
    · rename_i hw; exact Int.le_trans (by decide) hw
    · exact Int.le_refl _

mutual
theorem beq_ok : ∀ v n, okV v n = true → CV.beq v v = true
  | .none, _, _ => rfl
  | .bool b, _, _ => beq_self_eq_true b
  | .int i, _, _ => beq_self_eq_true i
  | .str s, _, _ => beq_self_eq_true s
  | .tup _, 0, h => (ff_tt h).elim
  | .tup xs, n + 1, h => beqs_ok xs n h
  | .ils _, _, h => (ff_tt h).elim
  | .dct _, _, h => (ff_tt h).elim
  | .lst _, _, h => (ff_tt h).elim
  | .obj _, _, h => (ff_tt h).elim
theorem beqs_ok : ∀ v n, okVs v n = true → CV.beqs v v = true
  | [], _, _ => rfl
  | x :: xs, n, h => and_of (beq_ok x n (and_tt h).1) (beqs_ok xs n (and_tt h).2)
end

theorem ok_ex (n p : Nat) : ∀ e, okV (δ p (exTree 0 e)) (n + 8) = true
  | 0 => rfl
  | 1 => rfl
  | 2 => rfl
  | 3 => rfl
  | _ + 4 => rfl
theorem ok_ty (n p : Nat) : ∀ e, okV (δ p (tyTree 0 e)) (n + 8) = true
  | 0 => rfl
  | 1 => rfl
  | _ + 2 => rfl
theorem ok_trees {f : Nat → List Tok} {g : Nat → AV} {n : Nat} (h : ∀ p e, okV (δ p (g e)) n = true) : ∀ (es : List Nat) (p : Nat), okVs (treesAt f g p es) n = true
  | [], _ => rfl
  | _ :: es, _ => and_of (h _ _) (ok_trees h es _)
theorem ok_vals (n p : Nat) (v : Var) : okV (valsAt p v) (n + 9) = true := ok_trees (fun p e => ok_ex n p e) _ _
theorem ok_types (n p : Nat) (v : Var) : okV (typesAt p v) (n + 9) = true := ok_trees (fun p e => ok_ty n p e) _ _
theorem ok_name (n : Nat) : ∀ k, okV (.str (nameS k)) n = true
  | 0 => rfl
  | 1 => rfl
  | 2 => rfl
  | 3 => rfl
  | _ + 4 => rfl
theorem okc {x : CV} {xs : List CV} {n : Nat} (h : okV x n = true) (k : okVs xs n = true) : okVs (x :: xs) n = true := and_of h k
theorem ok_seg {n p : Nat} {T : CV} (h : okV T (n + 10) = true) : ∀ s : Seg, okV (segTree p T s) (n + 11) = true
  | .call v => show okVs [_, _, _, _] (n + 10) = true from okc rfl (okc rfl (okc h (okc (ok_vals (n + 1) p v) rfl)))
  | .idx e => show okVs [_, _, _, _] (n + 10) = true from okc rfl (okc rfl (okc h (okc (ok_ex (n + 2) (p + 1) e) rfl)))
  | .fld k _ => show okVs [_, _, _, _] (n + 10) = true from okc rfl (okc rfl (okc h (okc (ok_name _ k) rfl)))
  | .mth k _ v => show okVs [_, _, _, _, _, _] (n + 10) = true from okc rfl (okc rfl (okc h (okc (ok_name _ k) (okc rfl (okc (ok_vals (n + 1) _ v) rfl)))))
  | .mty t v => show okVs [_, _, _, _, _, _] (n + 10) = true from okc rfl (okc rfl (okc h (okc rfl (okc (ok_types (n + 1) _ t) (okc (ok_vals (n + 1) _ v) rfl)))))
theorem ok_build : ∀ (ss : List Seg) (n p : Nat) (T : CV), okV T (n + 10) = true → okV (build p T ss) (n + 10 + ss.length) = true
  | [], n, p, T, h => h
  | s :: ss, n, p, T, h => by
    have := ok_build ss (n + 1) (p + lenT (segToks s)) (segTree p T s) (ok_seg h s)
    rw [show n + 1 + 10 + ss.length = n + 10 + (ss.length + 1) by rw [Nat.add_right_comm n 1 10, Nat.add_right_comm (n + 10) 1]; rfl] at this
    exact this

theorem eq_self {cs : Cells} {a : CV} {s : List Nat} (h : okV a 30 = true) (hs : s.all (fun c => decide (c < 1114112)) = true) : eqOp cs (.tup [a, .str s]) (.tup [a, .str s]) = some true := by
  have h1 : okVs [a, .str s] 30 = true := and_of h (and_of hs rfl)
  exact ofIf_pos ⟨beqs_ok _ 30 h1, h1⟩
theorem eq_self' {cs : Cells} {a : CV} {s : List Nat} (h : okV a 30 = true) (hs : s.all (fun c => decide (c < 1114112)) = true) : cmpOp cs .Eq (.tup [a, .str s]) (.tup [a, .str s]) = some true := eq_self (cs := cs) h hs
theorem ne_self {cs : Cells} {a : CV} {s : List Nat} (h : okV a 30 = true) (hs : s.all (fun c => decide (c < 1114112)) = true) : cmpOp cs .NotEq (.tup [a, .str s]) (.tup [a, .str s]) = some false := congrArg (Option.map (!·)) (eq_self (cs := cs) h hs)

/-- the written part of the law -/
noncomputable def lawPre : List S := f_law.body.take 8
noncomputable def lawPost : List S := f_law.body.drop 8
noncomputable def preRes (x : CV) : Res St Fl := exSs globs (callB funs globs 39) lawPre ([some x, none, none, none, none, none, none, none, none, none, none], [])
noncomputable def outS (x : CV) : St := match preRes x with
  | .ok _ s => s
  | _ => ([], [])
noncomputable def outE (x : CV) (i : Nat) : Option CV := (outS x).1.getD i none
theorem pre_eq (x : CV) : preRes x = .ok .next ([some x, outE x 1, outE x 2, outE x 3, none, none, none, none, none, none, none], (outS x).2) := by kernel_rfl

theorem exSs_app {C : Orc} {b : List S} {r : Res St Fl} : ∀ (a : List S) {s s1 : St}, exSs globs C a s = .ok .next s1 → exSs globs C b s1 = r → exSs globs C (a ++ b) s = r
  | [], _, _, h, k => by cases h; exact k
  | x :: a, s, s1, h, k => by
    have h' : (exS globs C x s).bind (fun f s => match f with | .next => exSs globs C a s | .brk => .ok .brk s | .ret v => .ok (.ret v) s) = .ok .next s1 := h
    cases e : exS globs C x s with
    | ok f s2 =>
      rw [e] at h'
      cases f with
      | next => exact ss_1 e (exSs_app a h' k)
      | brk => exact Fl.noConfusion (Res.ok.inj h').1
      | ret v => exact Fl.noConfusion (Res.ok.inj h').1
    | ex _ _ _ => rw [e] at h'; cases h'
    | no => rw [e] at h'; cases h'

theorem law_body : f_law.body = lawPre ++ [.asg 4 (.call 39 [.v 0]),
  .asgs [5, 6] (.call 47 [.v 4]),
  .ife (.cmp .NotEq (.call 43 [.bin .Add (.v 5) (.k (.str [32, 59])), .k (.str [112, 111, 115, 116, 102, 105, 120])]) (.tup [.v 6, .k (.str [59])])) [.ret (.k (.bool false))] [],
  .asgs [5, 7] (.call 46 [.v 4, .k (.int 0)]),
  .asgs [8, 9] (.call 41 [.v 4, .ilst [.tup [.k (.str [59]), .k (.str [59])], .tup [.k (.str [62, 32, 49]), .k (.str [62])], .tup [.k (.str [61, 32, 49]), .k (.str [61])], .tup [.k (.str [62, 61, 32, 49]), .k (.str [62, 61])]]]),
  .ife (.cmp .NotEq (.call 43 [.bin .Add (.v 5) (.v 8), .k (.str [116, 121, 112, 101, 115])]) (.tup [.v 7, .v 9])) [.ret (.k (.bool false))] [],
  .asgs [5, 10] (.call 45 [.v 4, .k (.int 0), .k (.str [91]), .k (.str [93])]),
  .ret (.cmp .Eq (.call 43 [.bin .Add (.v 5) (.k (.str [32, 125])), .k (.str [108, 105, 115, 116])]) (.tup [.v 10, .k (.str [125])]))] := rfl

theorem FrA.jar {c : Nat} {j : Int × Int} {cs cs' : Cells} (h : FrA cs cs') (hc : JarAt cs c j) : JarAt cs' c j := by
  have := (List.getElem?_eq_some_iff.1 hc).1
  unfold JarAt at hc ⊢
  rw [h.at_ c this, hc]

theorem brText_len {v : Var} (hv : VarOK 5 v) : (brText exToks 91 93 v).length ≤ 40 := by
  have := var_all brE_91 hv
  exact (short_of this).len

theorem law_ok (ns : List Int) (hn : ns.length ≤ 90000) : ∃ cs, callB funs globs 40 53 [.ils (ns.map .int)] [] = .ok (.bool true) cs := by
  have hpre := pre_eq (.ils (ns.map .int))
  unfold preRes at hpre
  generalize outE (.ils (ns.map .int)) 1 = a1 at hpre
  generalize outE (.ils (ns.map .int)) 2 = a2 at hpre
  generalize outE (.ils (ns.map .int)) 3 = a3 at hpre
  generalize (outS (.ils (ns.map .int))).2 = cs0 at hpre
  obtain ⟨j0, hjar, hj0⟩ := jar_ok ns hn cs0 39 (by omega)
  generalize CV.ils (ns.map .int) = x at hpre hjar ⊢
  have hc0 : JarAt (cs0 ++ [.list [.int j0.1, .int j0.2]]) cs0.length j0 := by simp [JarAt]
  generalize hcc : cs0.length = c at hjar hc0
  generalize cs0 ++ [Cell.list [.int j0.1, .int j0.2]] = cs1 at hjar hc0
  -- the tree
  obtain ⟨ss, hg, hss, cs2, j2, p1, p2, p3, p4⟩ := gen_postfix hc0 hj0 39 (by omega)
  obtain ⟨cs3, q1, q2⟩ := heard_postfix hg.ok hg.wf (by omega) cs2 39 (by omega)
  have hc3 := q2.jar p2
  -- the types
  obtain ⟨v, hv, cs4, j4, t1, t2, t3, t4⟩ := gen_types hc3 p3 (p := 0) (by omega) 39 (by omega)
  obtain ⟨k, y, hk, hy, cs5, j5, o1, o2, o3, o4⟩ := gen_one t2 t3 [.tup [.str [59], .str [59]], .tup [.str [62, 32, 49], .str [62]], .tup [.str [61, 32, 49], .str [61]], .tup [.str [62, 61, 32, 49], .str [62, 61]]] (by simp) (by simp) 39 (by omega)
  have hk4 : k < 4 := hk
  have ey : y = .tup [.str (tailOf k).1, .str (tailOf k).2.1] := by
    match k, hk4 with
    | 0, _ | 1, _ | 2, _ | 3, _ => simp at hy; rw [← hy]; rfl
    | k + 4, h => omega
  subst ey
  obtain ⟨cs6, r1, r2⟩ := heard_types hv hk4 cs5 39 (by omega)
  have hc6 := r2.jar o2
  -- the values
  obtain ⟨u, hu, cs7, j7, w1, w2, w3, w4⟩ := gen_values (.inr ⟨rfl, rfl⟩) hc6 o3 (p := 0) (by omega) 39 (by omega)
  obtain ⟨cs8, z1, z2⟩ := heard_list hu cs7 39 (by omega)
  -- lengths
  have l1 : (txtS ss).length ≤ 1000 := by
    have := (segs_len ss hg.ok).1
    simp only [lenT, txtS] at this ⊢; omega
  have l2 : (txtOf (brT v)).length ≤ 40 := (brT_fact (m := []) (by simp) hv).len
  have l3 := brText_len hu
  have l4 : (tailOf k).1.length ≤ 10 := by
    match k, hk4 with
    | 0, _ | 1, _ | 2, _ | 3, _ => simp [tailOf]
    | k + 4, h => omega
  have g1 : binOp .Add (.str (txtS ss)) (.str [32, 59]) = some (.str (txtOf (segsToks ss ++ [semi]))) := by
    rw [op_sadd (by simp; omega), txtOf_app]; rfl
  have g2 : binOp .Add (.str (txtOf (brT v))) (.str (tailOf k).1) = some (.str (txtOf (brT v) ++ (tailOf k).1)) := op_sadd (by omega)
  have g3 : binOp .Add (.str (brText exToks 91 93 u)) (.str [32, 125]) = some (.str (txtOf (sg [91] :: (inner exToks u ++ [sg [93]])) ++ [32, 125])) := op_sadd (by simp; omega)
  -- what is told is what is built
  have b1 : okV (build 0 baseT ss) 30 = true := by
    have := ok_build ss (20 - ss.length) 0 baseT rfl
    rw [show 20 - ss.length + 10 + ss.length = 30 by omega] at this
    exact this
  have s1 : (tailOf k).2.1.all (fun c => decide (c < 1114112)) = true := by
    match k, hk4 with
    | 0, _ => rfl
    | 1, _ => rfl
    | 2, _ => rfl
    | 3, _ => rfl
    | k + 4, h => omega
  refine ⟨cs8, call_ret (b := 39) (d := f_law) (l := [some x, none, none, none, none, none, none, none, none, none, none])
    (s := ([some x, a1, a2, a3, some (.lst c), some (.str (brText exToks 91 93 u)), some (build 0 baseT ss), some (typesAt 0 v), some (.str (tailOf k).1), some (.str (tailOf k).2.1), some (valsAt 0 u)], cs8)) rfl rfl ?_⟩
  have t1' : callB funs globs 39 46 [.lst c, .int 0] cs3 = .ok (.tup [.str (txtOf (brT v)), typesAt 0 v]) cs4 := t1
  have w1' : callB funs globs 39 45 [.lst c, .int 0, .str [91], .str [93]] cs6 = .ok (.tup [.str (brText exToks 91 93 u), valsAt 0 u]) cs7 := w1
  rw [law_body]
  refine exSs_app _ hpre ?_
  clear hpre t1 w1
  generalize callB funs globs 39 = C at *
  exact ss_1 (s_asg (e_call (e_1 (e_v rfl) e_0) hjar)) (ss_1 (s_asgs (e_call (e_1 (e_v rfl) e_0) p1) rfl)
    (ss_1 (s_if0 (e_cmp (e_call (e_1 (e_bin (e_v rfl) (e_k rfl) g1) (e_1 (e_k rfl) e_0)) q1) (e_tup (e_1 (e_v rfl) (e_1 (e_k rfl) e_0))) (ne_self b1 rfl)) ss_0)
    (ss_1 (s_asgs (e_call (e_1 (e_v rfl) (e_1 (e_k rfl) e_0)) t1') rfl)
    (ss_1 (s_asgs (e_call (e_1 (e_v rfl) (e_1 (e_ils (e_1 (e_tup (e_1 (e_k rfl) (e_1 (e_k rfl) e_0))) (e_1 (e_tup (e_1 (e_k rfl) (e_1 (e_k rfl) e_0))) (e_1 (e_tup (e_1 (e_k rfl) (e_1 (e_k rfl) e_0))) (e_1 (e_tup (e_1 (e_k rfl) (e_1 (e_k rfl) e_0))) e_0))))) e_0)) o1) rfl)
    (ss_1 (s_if0 (e_cmp (e_call (e_1 (e_bin (e_v rfl) (e_v rfl) g2) (e_1 (e_k rfl) e_0)) r1) (e_tup (e_1 (e_v rfl) (e_1 (e_v rfl) e_0))) (ne_self (ok_types 21 0 v) s1)) ss_0)
    (ss_1 (s_asgs (e_call (e_1 (e_v rfl) (e_1 (e_k rfl) (e_1 (e_k rfl) (e_1 (e_k rfl) e_0)))) w1') rfl)
    (ss_ret (s_ret (e_cmp (e_call (e_1 (e_bin (e_v rfl) (e_k rfl) g3) (e_1 (e_k rfl) e_0)) z1) (e_tup (e_1 (e_v rfl) (e_1 (e_k rfl) e_0))) (eq_self' (ok_vals 21 0 u) rfl))))))))))
end Mine.L
end

section
open PySem PySem.W PyProof.Rows PySem.Spec PySem.Calls
namespace Mine

noncomputable def tx (s : List Nat) : Str := ⟨s.toArray⟩
theorem tx_cps (s : List Nat) : (tx s).cps.toList = s := rfl
theorem tx_of (x : Str) : tx x.cps.toList = x := by cases x; rfl
theorem tx_inj {a b : List Nat} (h : tx a = tx b) : a = b := by
  have := congrArg (fun x : Str => x.cps.toList) h; exact this
theorem tx_len (s : List Nat) : (tx s).length = s.length := by simp [tx, Str.length]

/-- what stays fixed: program, world, the heap of the law's call, the text's two classes -/
structure Gd where
  prog : Program
  w : World
  base : Heap
  CW : Addr
  CG : Addr

mutual
/-- the value v bears the datum; σ: the cells' addresses, F: the frames' -/
inductive Rp (D : Gd) (h : Heap) (σ F : List Addr) : Value → CV → Prop
  | none : Rp D h σ F .none .none
  | bool (b : Bool) : Rp D h σ F (.bool b) (.bool b)
  | int (i : Int) (t : Tok) : Rp D h σ F (.int i t) (.int i)
  | str (s : List Nat) (t : Tok) : Rp D h σ F (.str (tx s) t) (.str s)
  | tup {a : Addr} {vs : List Value} {xs : List CV} : IsTup h a vs.toArray → a ∉ σ → a ∉ F → Rps D h σ F vs xs → Rp D h σ F (.ref a) (.tup xs)
  | ils {a : Addr} {vs : List Value} {xs : List CV} : h.IsList a vs.toArray → a ∉ σ → a ∉ F → Rps D h σ F vs xs → Rp D h σ F (.ref a) (.ils xs)
  | dct {a : Addr} {f : Str → Option Value} {es : List (List Nat × Int)} : h.MapOf (PySem.strKind D.prog D.w) a f → (a == sysModules) = false →
      (∀ k, match lookD es k with | some i => ∃ t, f (tx k) = some (.int i t) | none => f (tx k) = none) → a ∉ σ → a ∉ F → Rp D h σ F (.ref a) (.dct es)
  | lst {a : Addr} {c : Nat} : σ[c]? = some a → Rp D h σ F (.ref a) (.lst c)
  | obj {o a : Addr} {c : Nat} : h.get? o = some (instObj D.CW a) → o ∉ σ → o ∉ F → σ[c]? = some a → Rp D h σ F (.ref o) (.obj c)
inductive Rps (D : Gd) (h : Heap) (σ F : List Addr) : List Value → List CV → Prop
  | nil : Rps D h σ F [] []
  | cons {v : Value} {vs : List Value} {x : CV} {xs : List CV} : Rp D h σ F v x → Rps D h σ F vs xs → Rps D h σ F (v :: vs) (x :: xs)
end

/-- what a value that bears a datum looks like -/
noncomputable def RpV (D : Gd) (h : Heap) (σ F : List Addr) (v : Value) : CV → Prop
  | .none => v = .none
  | .bool b => v = .bool b
  | .int i => ∃ t, v = .int i t
  | .str s => ∃ t, v = .str (tx s) t
  | .tup xs => ∃ a vs, v = .ref a ∧ IsTup h a vs.toArray ∧ a ∉ σ ∧ a ∉ F ∧ Rps D h σ F vs xs
  | .ils xs => ∃ a vs, v = .ref a ∧ h.IsList a vs.toArray ∧ a ∉ σ ∧ a ∉ F ∧ Rps D h σ F vs xs
  | .dct es => ∃ a f, v = .ref a ∧ h.MapOf (PySem.strKind D.prog D.w) a f ∧ (a == sysModules) = false ∧
      (∀ k, match lookD es k with | some i => ∃ t, f (tx k) = some (.int i t) | none => f (tx k) = none) ∧ a ∉ σ ∧ a ∉ F
  | .lst c => ∃ a, v = .ref a ∧ σ[c]? = some a
  | .obj c => ∃ o a, v = .ref o ∧ h.get? o = some (instObj D.CW a) ∧ o ∉ σ ∧ o ∉ F ∧ σ[c]? = some a
theorem Rp.view {D : Gd} {h : Heap} {σ F : List Addr} {v : Value} {x : CV} (r : Rp D h σ F v x) : RpV D h σ F v x :=
  Rp.casesOn (motive_1 := fun v x _ => RpV D h σ F v x) r rfl (fun _ => rfl) (fun _ t => ⟨t, rfl⟩) (fun _ t => ⟨t, rfl⟩) (fun a b c d => ⟨_, _, rfl, a, b, c, d⟩) (fun a b c d => ⟨_, _, rfl, a, b, c, d⟩) (fun a b c d e => ⟨_, _, rfl, a, b, c, d, e⟩) (fun a => ⟨_, rfl, a⟩) (fun a b c d => ⟨_, _, rfl, a, b, c, d⟩)
noncomputable def RpsV (D : Gd) (h : Heap) (σ F : List Addr) (vs : List Value) : List CV → Prop
  | [] => vs = []
  | x :: xs => ∃ v r, vs = v :: r ∧ Rp D h σ F v x ∧ Rps D h σ F r xs
theorem Rps.view {D : Gd} {h : Heap} {σ F : List Addr} {vs : List Value} {xs : List CV} (r : Rps D h σ F vs xs) : RpsV D h σ F vs xs :=
  Rps.casesOn (motive_2 := fun vs xs _ => RpsV D h σ F vs xs) r rfl (fun a b => ⟨_, _, rfl, a, b⟩)

noncomputable def isD (o : Obj) : Prop := ∃ es ep, o.data = .dict es ep
/-- what may become of a frame's own object: a dict stays a dict; what is none stays as it is -/
noncomputable def Frm (o o' : Obj) : Prop := o' = o ∨ (isD o ∧ isD o')
theorem Frm.trans {a b c : Obj} (x : Frm a b) (y : Frm b c) : Frm a c := by
  rcases x with rfl | ⟨x1, x2⟩
  · exact y
  · rcases y with rfl | ⟨y1, y2⟩
    · exact .inr ⟨x1, x2⟩
    · exact .inr ⟨x1, y2⟩

/-- from one heap to a later one: all else that stood stands; frames up to their slots; cells grow at the end -/
structure Step (F σ : List Addr) (h : Heap) (σ' : List Addr) (h' : Heap) : Prop where
  pre : σ <+: σ'
  fresh : ∀ b ∈ σ', b ∉ σ → h.get? b = none
  keep : ∀ a o, h.get? a = some o → a ∉ σ → a ∉ F → h'.get? a = some o
  fr : ∀ L ∈ F, ∀ m, h.Ns L m → h'.Ns L m
  frk : ∀ L ∈ F, ∀ o, h.get? L = some o → ∃ o', h'.get? L = some o' ∧ Frm o o'

theorem Step.fro {F σ σ' : List Addr} {h h' : Heap} (S : Step F σ h σ' h') : ∀ L ∈ F, h.get? L ≠ none → h'.get? L ≠ none := fun L hL n => by
  cases q : h.get? L with
  | none => exact absurd q n
  | some o => obtain ⟨o', e, _⟩ := S.frk L hL o q; rw [e]; simp
theorem Step.refl (F σ : List Addr) (h : Heap) : Step F σ h σ h :=
  ⟨List.prefix_refl _, fun _ hb hn => absurd hb hn, fun _ _ e _ _ => e, fun _ _ _ n => n, fun _ _ o e => ⟨o, e, .inl rfl⟩⟩

theorem Step.notin {F σ σ' : List Addr} {h h' : Heap} (S : Step F σ h σ' h') {a : Addr} {o : Obj} (e : h.get? a = some o) (n : a ∉ σ) : a ∉ σ' := fun m => by
  have := S.fresh a m n; rw [e] at this; cases this

theorem Step.trans {F σ σ₁ σ₂ : List Addr} {h h₁ h₂ : Heap} (S : Step F σ h σ₁ h₁) (T : Step F σ₁ h₁ σ₂ h₂) : Step F σ h σ₂ h₂ := by
  refine ⟨S.pre.trans T.pre, fun b hb hn => ?_, fun a o e n1 n2 => T.keep a o (S.keep a o e n1 n2) (S.notin e n1) n2, fun L hL m n => T.fr L hL m (S.fr L hL m n), fun L hL o e => by
    obtain ⟨o1, e1, f1⟩ := S.frk L hL o e
    obtain ⟨o2, e2, f2⟩ := T.frk L hL o1 e1
    exact ⟨o2, e2, f1.trans f2⟩⟩
  · by_cases m : b ∈ σ₁
    · exact S.fresh b m hn
    · have hb' := T.fresh b hb m
      cases q : h.get? b with
      | none => rfl
      | some o =>
        by_cases hF : b ∈ F
        · exact absurd hb' (S.fro b hF (by rw [q]; simp))
        · rw [S.keep b o q hn hF] at hb'; cases hb'

theorem prefix_get {α : Type} {l l' : List α} (p : l <+: l') {c : Nat} {a : α} (e : l[c]? = some a) : l'[c]? = some a := by
  obtain ⟨r, rfl⟩ := p
  rw [List.getElem?_append_left]; exact e
  exact (List.getElem?_eq_some_iff.mp e).1

/-- an object of no bare fields -/
noncomputable def NF (o : Obj) : Prop := ∀ v, o.data ≠ .fields v
theorem nf_seq {o : Obj} {a n} (e : o.data = .seq a n) : NF o := fun _ q => Data.noConfusion (e.symm.trans q)
theorem nf_dict {o : Obj} {a n} (e : o.data = .dict a n) : NF o := fun _ q => Data.noConfusion (e.symm.trans q)
theorem nf_cell {o : Obj} {a} (e : o.data = .cell a) : NF o := fun _ q => Data.noConfusion (e.symm.trans q)
theorem nf_inst {C a : Addr} : NF (instObj C a) := fun _ q => Data.noConfusion q
/-- what bears data goes over -/
structure Mp (h : Heap) (σ F : List Addr) (h' : Heap) (σ' F' : List Addr) : Prop where
  keep : ∀ a o, h.get? a = some o → a ∉ σ → a ∉ F → NF o → h'.get? a = some o
  out : ∀ a o, h.get? a = some o → a ∉ σ → a ∉ F → NF o → a ∉ σ' ∧ a ∉ F'
  pre : ∀ (c : Nat) a, σ[c]? = some a → σ'[c]? = some a
section
variable {D : Gd} {h h' : Heap} {σ σ' F F' : List Addr}
theorem mapAll (M : Mp h σ F h' σ' F') : (∀ {v : Value} {x : CV}, Rp D h σ F v x → Rp D h' σ' F' v x) ∧ ∀ {vs : List Value} {xs : List CV}, Rps D h σ F vs xs → Rps D h' σ' F' vs xs := by
  have tup : ∀ {a vs xs}, IsTup h a (List.toArray vs) → a ∉ σ → a ∉ F → Rps D h σ F vs xs → Rps D h' σ' F' vs xs → Rp D h' σ' F' (.ref a) (.tup xs) := fun ⟨o, e, q1, n, q2⟩ n1 n2 _ r =>
    have k := M.out _ _ e n1 n2 (nf_seq q2)
    .tup ⟨o, M.keep _ _ e n1 n2 (nf_seq q2), q1, n, q2⟩ k.1 k.2 r
  have ils : ∀ {a vs xs}, h.IsList a (List.toArray vs) → a ∉ σ → a ∉ F → Rps D h σ F vs xs → Rps D h' σ' F' vs xs → Rp D h' σ' F' (.ref a) (.ils xs) := fun ⟨o, e, q1, n, q2⟩ n1 n2 _ r =>
    have k := M.out _ _ e n1 n2 (nf_seq q2)
    .ils ⟨o, M.keep _ _ e n1 n2 (nf_seq q2), q1, n, q2⟩ k.1 k.2 r
  have dct : ∀ {a f es}, h.MapOf (PySem.strKind D.prog D.w) a f → (a == sysModules) = false → (∀ k, match lookD es k with | some i => ∃ t, f (tx k) = some (.int i t) | none => f (tx k) = none) → a ∉ σ → a ∉ F → Rp D h' σ' F' (.ref a) (.dct es) :=
    fun ⟨o, es, ep, e, q, q2, q3⟩ ns hk n1 n2 =>
    have k := M.out _ _ e n1 n2 (nf_dict q2)
    .dct ⟨o, es, ep, M.keep _ _ e n1 n2 (nf_dict q2), q, q2, q3⟩ ns hk k.1 k.2
  have obj : ∀ {o a : Addr} {c : Nat}, h.get? o = some (instObj D.CW a) → o ∉ σ → o ∉ F → σ[c]? = some a → Rp D h' σ' F' (.ref o) (.obj c) := fun e n1 n2 ec =>
    have k := M.out _ _ e n1 n2 nf_inst
    .obj (M.keep _ _ e n1 n2 nf_inst) k.1 k.2 (M.pre _ _ ec)
  exact ⟨Rp.rec (motive_1 := fun v x _ => Rp D h' σ' F' v x) (motive_2 := fun vs xs _ => Rps D h' σ' F' vs xs) .none .bool .int .str tup ils dct (fun e => .lst (M.pre _ _ e)) obj .nil (fun _ _ => .cons),
    Rps.rec (motive_1 := fun v x _ => Rp D h' σ' F' v x) (motive_2 := fun vs xs _ => Rps D h' σ' F' vs xs) .none .bool .int .str tup ils dct (fun e => .lst (M.pre _ _ e)) obj .nil (fun _ _ => .cons)⟩
theorem Rp.map (M : Mp h σ F h' σ' F') {v : Value} {x : CV} (r : Rp D h σ F v x) : Rp D h' σ' F' v x := (mapAll M).1 r
theorem Rps.map (M : Mp h σ F h' σ' F') {vs : List Value} {xs : List CV} (r : Rps D h σ F vs xs) : Rps D h' σ' F' vs xs := (mapAll M).2 r
theorem Step.mp (S : Step F σ h σ' h') : Mp h σ F h' σ' F := ⟨fun a o e n1 n2 _ => S.keep a o e n1 n2, fun _ _ e n1 n2 _ => ⟨S.notin e n1, n2⟩, fun _ _ => prefix_get S.pre⟩
theorem mp_more (k : ∀ a o, h.get? a = some o → a ∉ F → h'.get? a = some o) (L : Addr) (n : h.get? L = none) : Mp h σ F h' σ (L :: F) :=
  ⟨fun a o e _ n2 _ => k a o e n2, fun a o e n1 n2 _ => ⟨n1, fun m => (List.mem_cons.mp m).elim (fun q => none_some (n.symm.trans (q ▸ e))) n2⟩, fun _ _ e => e⟩
theorem mp_less (hF : ∀ a ∈ F', a ∈ F) : Mp h σ F h σ F' := ⟨fun _ _ e _ _ _ => e, fun a _ _ n1 n2 _ => ⟨n1, fun m => n2 (hF a m)⟩, fun _ _ e => e⟩
theorem Rp.step (S : Step F σ h σ' h') {v : Value} {x : CV} (r : Rp D h σ F v x) : Rp D h' σ' F v x := r.map S.mp
theorem Rps.step (S : Step F σ h σ' h') {vs : List Value} {xs : List CV} (r : Rps D h σ F vs xs) : Rps D h' σ' F vs xs := r.map S.mp
/-- a new frame, at a fresh place; the heap has grown -/
theorem Rp.more (k : ∀ a o, h.get? a = some o → a ∉ F → h'.get? a = some o) (L : Addr) (n : h.get? L = Option.none) {v : Value} {x : CV} (r : Rp D h σ F v x) : Rp D h' σ (L :: F) v x := r.map (mp_more k L n)
theorem Rps.more (k : ∀ a o, h.get? a = some o → a ∉ F → h'.get? a = some o) (L : Addr) (n : h.get? L = none) {vs : List Value} {xs : List CV} (r : Rps D h σ F vs xs) : Rps D h' σ (L :: F) vs xs := r.map (mp_more k L n)
theorem Rp.less (hF : ∀ a ∈ F', a ∈ F) {v : Value} {x : CV} (r : Rp D h σ F v x) : Rp D h σ F' v x := r.map (mp_less hF)
theorem Rps.less (hF : ∀ a ∈ F', a ∈ F) {vs : List Value} {xs : List CV} (r : Rps D h σ F vs xs) : Rps D h σ F' vs xs := r.map (mp_less hF)
/-- what holds of rows part by part -/
theorem Rps.ind {P : List Value → List CV → Prop} (nil : P [] []) (cons : ∀ {v vs x xs}, Rp D h σ F v x → Rps D h σ F vs xs → P vs xs → P (v :: vs) (x :: xs)) {vs : List Value} {xs : List CV} (r : Rps D h σ F vs xs) : P vs xs :=
  Rps.rec (motive_1 := fun _ _ _ => True) (motive_2 := fun vs xs _ => P vs xs) trivial (fun _ => trivial) (fun _ _ => trivial) (fun _ _ => trivial) (fun _ _ _ _ _ => trivial) (fun _ _ _ _ _ => trivial) (fun _ _ _ _ _ => trivial) (fun _ => trivial) (fun _ _ _ _ => trivial) nil (fun a b _ ih => cons a b ih) r
theorem Rps.length {vs : List Value} {xs : List CV} (r : Rps D h σ F vs xs) : vs.length = xs.length := Rps.ind (P := fun vs xs => vs.length = xs.length) rfl (fun _ _ e => congrArg Nat.succ e) r
theorem Rps.get {vs : List Value} {xs : List CV} (r : Rps D h σ F vs xs) : ∀ {i : Nat} {x : CV}, xs[i]? = some x → ∃ v, vs[i]? = some v ∧ Rp D h σ F v x := by
  refine Rps.ind (P := fun vs xs => ∀ {i : Nat} {x : CV}, xs[i]? = some x → ∃ v, vs[i]? = some v ∧ Rp D h σ F v x) (fun e => nomatch e) (fun a _ ih => ?_) r
  intro i x e
  cases i with
  | zero => exact ⟨_, rfl, Option.some.inj e ▸ a⟩
  | succ i => exact ih e
theorem Rps.append {vs ws : List Value} {xs ys : List CV} (r : Rps D h σ F vs xs) (q : Rps D h σ F ws ys) : Rps D h σ F (vs ++ ws) (xs ++ ys) :=
  Rps.ind (P := fun vs xs => Rps D h σ F (vs ++ ws) (xs ++ ys)) q (fun a _ ih => .cons a ih) r
theorem Rps.set {vs : List Value} {xs : List CV} (r : Rps D h σ F vs xs) : ∀ (i : Nat) {v : Value} {x : CV}, Rp D h σ F v x → Rps D h σ F (vs.set i v) (xs.set i x) := by
  refine Rps.ind (P := fun vs xs => ∀ (i : Nat) {v : Value} {x : CV}, Rp D h σ F v x → Rps D h σ F (vs.set i v) (xs.set i x)) (fun _ _ _ _ => .nil) (fun a b ih => ?_) r
  intro i v x q
  cases i with
  | zero => exact .cons q b
  | succ i => exact .cons a (ih i q)
theorem Rp.handed {v : Value} {x : CV} (r : Rp D h σ F v x) : handedIn v = true :=
  Rp.casesOn (motive_1 := fun v _ _ => handedIn v = true) r rfl (fun _ => rfl) (fun _ _ => rfl) (fun _ _ => rfl) (fun _ _ _ _ => rfl) (fun _ _ _ _ => rfl) (fun _ _ _ _ _ => rfl) (fun _ => rfl) (fun _ _ _ _ => rfl)
end

/-- the entry of an attribute, where it is set -/
noncomputable def Ent (D : Gd) (h : Heap) (σ F : List Addr) (x : String) (o : Option CV) (l : List DictEntry) : Prop := match o with
  | none => l = []
  | some cv => ∃ hsh t v, l = [⟨hsh, .str (Str.ofString x) t, v⟩] ∧ Rp D h σ F v cv

/-- what stands at a cell's address -/
noncomputable def CellAt (D : Gd) (h : Heap) (σ F : List Addr) (a : Addr) : Cell → Prop
  | .list xs => ∃ vs n, h.get? a = some (listOf vs.toArray n) ∧ Rps D h σ F vs xs
  | .inst r i d => ∃ er ei ed n, h.get? a = some (dictOf (er ++ ei ++ ed) n) ∧ Ent D h σ F "rows" r er ∧ Ent D h σ F "at" i ei ∧ Ent D h σ F "deep" d ed

noncomputable def FrOK (h : Heap) (envs : List Env) : Prop :=
  ∀ env ∈ envs, env.scope.kind = .function ∧ ∃ L m, env.frame = some L ∧ h.Ns L m

/-- the world as the small language sees it -/
structure Wd (D : Gd) (envs : List Env) (F σ : List Addr) (cs : Cells) (h : Heap) : Prop where
  base : D.base.StaysIn h
  len : σ.length = cs.length
  nd : σ.Nodup
  new : ∀ a ∈ σ, D.base.objs.size ≤ a
  apart : ∀ a ∈ σ, a ∉ F
  newF : ∀ a ∈ F, D.base.objs.size ≤ a
  cells : ∀ (c : Nat) a x, σ[c]? = some a → cs[c]? = some x → CellAt D h σ F a x
  frs : FrOK h envs
  inF : ∀ env ∈ envs, ∀ L, env.frame = some L → L ∈ F
  exF : ∀ a ∈ F, h.get? a ≠ none

/-- the newest entry of an exception's traceback -/
structure TbAt (h₀ h' : Heap) (ea da : Addr) (vs : Array Value) (T : Addr) : Prop where
  here : vs[1]? = some (.ref T)
  new : h₀.get? T = none
  ne : T ≠ ea
  nd : T ≠ da
  obj : ∃ c d ts sl, h'.get? T = some { cls := c, dict := d, data := .fields ts, slots := sl } ∧ 4 ≤ ts.size
/-- what an exception's own dict holds: message and spot -/
noncomputable def Laid (h' : Heap) (da : Addr) (mu : List Nat) (pi : Int) : Prop := ∃ g1 g2 t1 t2 t3 t4 n, h'.get? da = some (dictOf [⟨g1, .str (Str.ofString "message") t1, .str (tx mu) t3⟩, ⟨g2, .str (Str.ofString "spot") t2, .int pi t4⟩] n)
/-- the exception's own objects: new since h₀ (m: its message, p: its spot) -/
structure ExcIs (D : Gd) (h₀ h' : Heap) (ea da : Addr) (vs : Array Value) (m p : CV) : Prop where
  newE : h₀.get? ea = none
  newD : h₀.get? da = none
  ne : ea ≠ da
  obj : h'.get? ea = some { cls := .ref D.CG, dict := some da, data := .fields vs }
  size : vs.size = 6
  tb : vs[1]? = some .none ∨ ∃ T, TbAt h₀ h' ea da vs T
  laid : ∃ mu pi, m = .str mu ∧ p = .int pi ∧ Laid h' da mu pi
/-- since the raise (h₀) all else stands, up to the frames' slots -/
structure Fly (Fx σ : List Addr) (h₀ h' : Heap) : Prop where
  step : Step Fx σ h₀ σ h'
  cells : ∀ a ∈ σ, ∀ o, h₀.get? a = some o → h'.get? a = some o
/-- an exception in flight -/
structure ExcAt (D : Gd) (Fx σ : List Addr) (h₀ h' : Heap) (e : Value) (m p : CV) : Prop where
  fly : Fly Fx σ h₀ h'
  obj : ∃ ea da vs, e = .ref ea ∧ ExcIs D h₀ h' ea da vs m p

/-- all but the heap and the count of the tokens is as it was -/
structure Later (s s' : Shared) : Prop where
  gens : s'.gens = s.gens
  drawn : s'.drawn = s.drawn
  os : s'.os = s.os
theorem Later.refl (s : Shared) : Later s s := ⟨rfl, rfl, rfl⟩
theorem Later.mk' (s : Shared) (h : Heap) (tk : Nat) : Later s { s with heap := h, toks := tk } := ⟨rfl, rfl, rfl⟩
theorem Later.trans {s s' s'' : Shared} (a : Later s s') (b : Later s' s'') : Later s s'' := ⟨b.1.trans a.1, b.2.trans a.2, b.3.trans a.3⟩
/-- a step of the run -/
structure Go (F σ : List Addr) (s : Shared) (σ' : List Addr) (s' : Shared) : Prop where
  st : Step F σ s.heap σ' s'.heap
  lt : Later s s'
theorem Go.refl {F σ : List Addr} {s : Shared} : Go F σ s σ s := ⟨Step.refl _ _ _, Later.refl _⟩

/-- where a block runs: what is around it, the frames, its environment, the addresses left out of account -/
structure Cx where
  A : Around
  envs : List Env
  env : Env
  F : List Addr

noncomputable def Post (D : Gd) (x : Cx) (σ : List Addr) (s : Shared) (E : Value → Shared → Prop) {α : Type} (r : Res Cells α) (K : α → Cells → List Addr → Shared → Prop) : Prop := match r with
  | .ok a cs' => ∀ σ' s', Wd D x.envs x.F σ' cs' s'.heap → Go x.F σ s σ' s' → K a cs' σ' s'
  | .ex m p cs' => ∀ e σ' h₀ s' Fx, (∀ a ∈ x.F, a ∈ Fx) → (∀ a ∈ Fx, a ∈ x.F ∨ s.heap.get? a = none) → Wd D x.envs Fx σ' cs' h₀ → Step x.F σ s.heap σ' h₀ → ExcAt D Fx σ' h₀ s'.heap e m p → Later s s' → E e s'
  | .no => False

theorem none_of_size {h : Heap} {a : Addr} (n : h.objs.size ≤ a) : h.get? a = none := by
  cases q : h.get? a with
  | none => rfl
  | some o => exact absurd (Heap.lt_size q) (Nat.not_lt.mpr n)
theorem ns_one {h : Heap} {L : Addr} {m m' : Str → Option Value} (a : h.Ns L m) (b : h.Ns L m') : m = m' := by
  obtain ⟨o, es, ep, e, d, _, f⟩ := a
  obtain ⟨o', es', ep', e', d', _, f'⟩ := b
  rw [e] at e'; cases e'
  rw [d] at d'; cases d'
  funext x; exact (f x).symm.trans (f' x)

theorem frm_ns {h h' : Heap} {L : Addr} {m m' : Str → Option Value} (n : h.Ns L m) (n' : h'.Ns L m') {o : Obj} (q : h.get? L = some o) : ∃ o', h'.get? L = some o' ∧ Frm o o' := by
  obtain ⟨o1, es, ep, e1, d1, _⟩ := n
  obtain ⟨o2, es', ep', e2, d2, _⟩ := n'
  rw [e1] at q; cases q
  exact ⟨o2, e2, .inr ⟨⟨es, ep, d1⟩, ⟨es', ep', d2⟩⟩⟩

section
variable {D : Gd} {h h' : Heap} {σ F : List Addr} {envs : List Env} {cs : Cells}
theorem Ent.map {σ' F' : List Addr} (M : Mp h σ F h' σ' F') {x : String} {o : Option CV} {l : List DictEntry} (e : Ent D h σ F x o l) : Ent D h' σ' F' x o l := match o, e with
  | none, e => e
  | some _, ⟨hsh, t, v, e, r⟩ => ⟨hsh, t, v, e, r.map M⟩
theorem CellAt.map {σ' F' : List Addr} (M : Mp h σ F h' σ' F') {a : Addr} {x : Cell} (k : ∀ o, h.get? a = some o → NF o → h'.get? a = some o) (c : CellAt D h σ F a x) : CellAt D h' σ' F' a x := match x, c with
  | .list _, ⟨vs, n, e, r⟩ => ⟨vs, n, k _ e (nf_seq rfl), r.map M⟩
  | .inst _ _ _, ⟨er, ei, ed, n, e, a1, a2, a3⟩ => ⟨er, ei, ed, n, k _ e (nf_dict rfl), a1.map M, a2.map M, a3.map M⟩
theorem CellAt.there {a : Addr} {x : Cell} (c : CellAt D h σ F a x) : h.get? a ≠ none := match x, c with
  | .list _, ⟨_, _, e, _⟩ => fun q => nomatch e.symm.trans q
  | .inst _ _ _, ⟨_, _, _, _, e, _⟩ => fun q => nomatch e.symm.trans q
theorem Ent.step {σ' : List Addr} (S : Step F σ h σ' h') {x : String} {o : Option CV} {l : List DictEntry} (e : Ent D h σ F x o l) : Ent D h' σ' F x o l := e.map S.mp
theorem CellAt.step {σ' : List Addr} (S : Step F σ h σ' h') {a : Addr} {x : Cell} (k : ∀ o, h.get? a = some o → h'.get? a = some o) (c : CellAt D h σ F a x) : CellAt D h' σ' F a x := c.map S.mp fun o e _ => k o e
theorem FrOK.step {σ' : List Addr} (S : Step F σ h σ' h') (i : ∀ env ∈ envs, ∀ L, env.frame = some L → L ∈ F) (f : FrOK h envs) : FrOK h' envs := fun env he =>
  let ⟨k, L, m, e, n⟩ := f env he; ⟨k, L, m, e, S.fr L (i env he L e) m n⟩
/-- all that stood stands as it stood, but one frame, whose names stand -/
theorem Step.of_keep {L : Addr} {m : Str → Option Value} (k : ∀ a o, h.get? a = some o → a ≠ L → h'.get? a = some o) (hL : L ∈ F) (n : h.Ns L m) (n' : h'.Ns L m) : Step F σ h σ h' := by
  refine ⟨List.prefix_refl _, fun _ hb hn => absurd hb hn, fun a o e _ n2 => k a o e fun q => n2 (q ▸ hL), fun L' _ m' q => ?_, fun L' _ o q => ?_⟩
  · by_cases e : L' = L
    · subst e; rw [ns_one q n]; exact n'
    · obtain ⟨o, es, ep, q1, q2⟩ := q; exact ⟨o, es, ep, k _ _ q1 e, q2⟩
  · by_cases e : L' = L
    · subst e; exact frm_ns n n' q
    · exact ⟨o, k _ _ q e, .inl rfl⟩
theorem Wd.keep (W : Wd D envs F σ cs h) (S : Step F σ h σ h') (k : ∀ a ∈ σ, ∀ o, h.get? a = some o → h'.get? a = some o) : Wd D envs F σ cs h' :=
  ⟨fun a o e => S.keep a o (W.base a o e) (fun m => absurd (Heap.lt_size e) (Nat.not_lt.mpr (W.new a m))) (fun m => absurd (Heap.lt_size e) (Nat.not_lt.mpr (W.newF a m))), W.len, W.nd, W.new, W.apart, W.newF,
   fun c a x e1 e2 => (W.cells c a x e1 e2).step S (k a (List.mem_of_getElem? e1)), W.frs.step S W.inF, W.inF, fun a m => S.fro a m (W.exF a m)⟩
theorem Wd.of_keep {L : Addr} {m : Str → Option Value} (W : Wd D envs F σ cs h) (k : ∀ a o, h.get? a = some o → a ≠ L → h'.get? a = some o) (hL : L ∈ F) (n : h.Ns L m) (n' : h'.Ns L m) : Wd D envs F σ cs h' :=
  W.keep (Step.of_keep k hL n n') fun a ha o e => k a o e fun q => W.apart a ha (q ▸ hL)

/-- a new object -/
theorem Step.push (o : Obj) : Step F σ h σ (h.push o) :=
  ⟨List.prefix_refl _, fun _ hb hn => absurd hb hn, fun _ _ e _ _ => Heap.get?_push_of_some _ e, fun _ _ _ n => n.push o, fun L _ o' q => ⟨o', Heap.get?_push_of_some _ q, .inl rfl⟩⟩
theorem Wd.push (W : Wd D envs F σ cs h) (o : Obj) : Wd D envs F σ cs (h.push o) := W.keep (Step.push o) fun _ _ _ e => Heap.get?_push_of_some _ e
theorem fresh_here : h.get? h.objs.size = none := none_of_size (Nat.le_refl _)
theorem Wd.there (W : Wd D envs F σ cs h) {a : Addr} (m : a ∈ σ) : h.get? a ≠ none := by
  obtain ⟨c, hc, e⟩ := List.getElem_of_mem m
  exact (W.cells c a _ ((List.getElem?_eq_getElem hc).trans (congrArg some e)) (List.getElem?_eq_getElem (W.len ▸ hc))).there
theorem Wd.notσ (W : Wd D envs F σ cs h) : h.objs.size ∉ σ := fun m => W.there m fresh_here

theorem Wd.notF (W : Wd D envs F σ cs h) : h.objs.size ∉ F := fun m => W.exF _ m fresh_here

/-- all that the call and what stands around it have made, but the frame L -/
noncomputable def allN (base : Heap) (L : Addr) (h : Heap) : List (Addr × Obj) := (List.range h.objs.size).filterMap fun a =>
  if a = L then none else match base.get? a with
    | some _ => none
    | none => (h.get? a).map fun o => (a, o)
theorem allN_mem {base h : Heap} {L a : Addr} {o : Obj} : (a, o) ∈ allN base L h ↔ h.get? a = some o ∧ a ≠ L ∧ base.get? a = none := by
  unfold allN
  rw [List.mem_filterMap]
  constructor
  · rintro ⟨b, _, e⟩
    by_cases hb : b = L
    · simp [hb] at e
    · rw [if_neg hb] at e
      split at e
      · cases e
      · rename_i hn
        obtain ⟨o', e1, e2⟩ := Option.map_eq_some_iff.mp e
        cases e2
        exact ⟨e1, hb, hn⟩
  · rintro ⟨e, hL, hn⟩
    refine ⟨a, List.mem_range.mpr (Heap.lt_size e), ?_⟩
    rw [if_neg hL, hn, e]; rfl
theorem allN_news (base : Heap) (L : Addr) (h : Heap) : News base L h (allN base L h) := fun p hp => (allN_mem (base := base) (h := h) (L := L) (a := p.1) (o := p.2)).mp hp
theorem allN_sorted (base : Heap) (L : Addr) (h : Heap) : (allN base L h).Pairwise fun p q => p.1 < q.1 := by
  unfold allN
  rw [List.pairwise_filterMap]
  refine List.Pairwise.imp ?_ List.pairwise_lt_range
  intro a b hab p hp q hq
  have key : ∀ (c : Addr) (r : Addr × Obj), (if c = L then none else match base.get? c with
    | some _ => none
    | none => (h.get? c).map fun o => (c, o)) = some r → r.1 = c := by
    intro c r e
    by_cases hc : c = L
    · simp [hc] at e
    · rw [if_neg hc] at e
      split at e
      · cases e
      · obtain ⟨o', _, e2⟩ := Option.map_eq_some_iff.mp e; cases e2; rfl
  rw [key a p hp, key b q hq]; exact hab
/-- the library's frame fact for our base -/
theorem Wd.fr (W : Wd D envs F σ cs h) {L : Addr} {m : Str → Option Value} (hL : L ∈ F) (n : h.Ns L m) : Fr D.base L h m := ⟨n, W.base, W.newF L hL⟩
/-- back from the library's facts -/
theorem Wd.back (W : Wd D envs F σ cs h) {L : Addr} {m : Str → Option Value} {more : List (Addr × Obj)} (f : Fr D.base L h' m) (N : News D.base L h' (more ++ allN D.base L h)) :
    ∀ a o, h.get? a = some o → a ≠ L → h'.get? a = some o := fun a o e hL => by
  cases q : D.base.get? a with
  | some o' => have := W.base a o' q; rw [e] at this; cases this; exact f.keep a _ q
  | none => exact N.get (List.mem_append.mpr (.inr (allN_mem.mpr ⟨e, hL, q⟩)))
end

section
variable {D : Gd} {envs : List Env} {F σ : List Addr}
/-- what is missing later was missing before -/
theorem missing_back {cs₁ : Cells} {σ₁ : List Addr} {h h₁ : Heap} (pre : σ <+: σ₁) (keep : ∀ a o, h.get? a = some o → a ∉ σ → a ∉ F → h₁.get? a = some o) (W : Wd D envs F σ₁ cs₁ h₁) {a : Addr} (x : a ∈ F ∨ h₁.get? a = none) : a ∈ F ∨ h.get? a = none := by
  by_cases hF : a ∈ F
  · exact .inl hF
  · refine .inr ?_
    have x := x.resolve_left hF
    cases q : h.get? a with
    | none => rfl
    | some o =>
      by_cases hs : a ∈ σ
      · exact absurd x (W.there (pre.subset hs))
      · rw [keep a o q hs hF] at x; cases x
end

section
variable {D : Gd} {x : Cx} {σ : List Addr} {s : Shared} {E : Value → Shared → Prop} {α β : Type}
theorem Go.trans {F σ σ₁ σ₂ : List Addr} {s s₁ s₂ : Shared} (a : Go F σ s σ₁ s₁) (b : Go F σ₁ s₁ σ₂ s₂) : Go F σ s σ₂ s₂ := ⟨a.st.trans b.st, a.lt.trans b.lt⟩
theorem Step.go {F σ σ' : List Addr} {s : Shared} {h' : Heap} {tk : Nat} (S : Step F σ s.heap σ' h') : Go F σ s σ' { s with heap := h', toks := tk } := ⟨S, Later.mk' _ _ _⟩

theorem Post.mono {r : Res Cells α} {K K' : α → Cells → List Addr → Shared → Prop} (p : Post D x σ s E r K)
    (m : ∀ a cs σ' s', Wd D x.envs x.F σ' cs s'.heap → Go x.F σ s σ' s' → K a cs σ' s' → K' a cs σ' s') : Post D x σ s E r K' := by
  cases r with
  | ok a cs => exact fun σ' s' W S => m a cs σ' s' W S (p σ' s' W S)
  | ex _ _ _ => exact p
  | no => exact p
/-- from where we are to a later state of the same walk -/
theorem Post.from {r : Res Cells α} {K : α → Cells → List Addr → Shared → Prop} {cs₁ : Cells} {σ₁ : List Addr} {s₁ : Shared}
    (p : Post D x σ s E r K) (S : Go x.F σ s σ₁ s₁) (W : Wd D x.envs x.F σ₁ cs₁ s₁.heap) : Post D x σ₁ s₁ E r K := by
  cases r with
  | ok a cs => exact fun σ' s' W' S' => p σ' s' W' (S.trans S')
  | ex m q cs => exact fun e σ' h₀ s' Fx i1 i2 W' S' x l => p e σ' h₀ s' Fx i1 (fun a m => missing_back S.st.pre S.st.keep W (i2 a m)) W' (S.st.trans S') x (S.lt.trans l)
  | no => exact p
theorem Post.bind {r : Res Cells α} {k : α → Cells → Res Cells β} {K : β → Cells → List Addr → Shared → Prop} (p : Post D x σ s E (r.bind k) K) :
    Post D x σ s E r (fun a cs σ₁ s₁ => Post D x σ₁ s₁ E (k a cs) K) := by
  cases r with
  | ok a cs => exact fun σ₁ s₁ W S => Post.from (r := k a cs) p S W
  | ex m q cs => exact p
  | no => exact p
end
end Mine
end

section
open PySem
namespace Mine
theorem dite_tt {c : Prop} [Decidable c] {t : c → Bool} (h : (if h : c then t h else false) = true) : c := Decidable.byContradiction fun n => ff_tt ((dif_neg n).symm.trans h)
noncomputable def onBoolOp (t : Expr) (f : BoolOp → List Expr → Pos → Bool) : Bool := if h : t.ctorIdx = 0 then Expr.BoolOp.elim (motive_1 := fun _ => Bool) t h f else false
theorem onBoolOp_is {P : Expr → Prop} {f : BoolOp → List Expr → Pos → Bool} {t : Expr} (h : onBoolOp t f = true) (k : ∀ a b c, f a b c = true → P (.BoolOp a b c)) : P t :=
  Expr.BoolOp.elim (motive_1 := fun t => onBoolOp t f = true → P t) t (dite_tt h) k h
noncomputable def onBinOp (t : Expr) (f : Expr → Operator → Expr → Pos → Bool) : Bool := if h : t.ctorIdx = 2 then Expr.BinOp.elim (motive_1 := fun _ => Bool) t h f else false
theorem onBinOp_is {P : Expr → Prop} {f : Expr → Operator → Expr → Pos → Bool} {t : Expr} (h : onBinOp t f = true) (k : ∀ a b c d, f a b c d = true → P (.BinOp a b c d)) : P t :=
  Expr.BinOp.elim (motive_1 := fun t => onBinOp t f = true → P t) t (dite_tt h) k h
noncomputable def onUnaryOp (t : Expr) (f : UnaryOp → Expr → Pos → Bool) : Bool := if h : t.ctorIdx = 3 then Expr.UnaryOp.elim (motive_1 := fun _ => Bool) t h f else false
theorem onUnaryOp_is {P : Expr → Prop} {f : UnaryOp → Expr → Pos → Bool} {t : Expr} (h : onUnaryOp t f = true) (k : ∀ a b c, f a b c = true → P (.UnaryOp a b c)) : P t :=
  Expr.UnaryOp.elim (motive_1 := fun t => onUnaryOp t f = true → P t) t (dite_tt h) k h
noncomputable def onIfExp (t : Expr) (f : Expr → Expr → Expr → Pos → Bool) : Bool := if h : t.ctorIdx = 5 then Expr.IfExp.elim (motive_1 := fun _ => Bool) t h f else false
theorem onIfExp_is {P : Expr → Prop} {f : Expr → Expr → Expr → Pos → Bool} {t : Expr} (h : onIfExp t f = true) (k : ∀ a b c d, f a b c d = true → P (.IfExp a b c d)) : P t :=
  Expr.IfExp.elim (motive_1 := fun t => onIfExp t f = true → P t) t (dite_tt h) k h
noncomputable def onDict (t : Expr) (f : List (Option Expr) → List Expr → Pos → Bool) : Bool := if h : t.ctorIdx = 6 then Expr.Dict.elim (motive_1 := fun _ => Bool) t h f else false
theorem onDict_is {P : Expr → Prop} {f : List (Option Expr) → List Expr → Pos → Bool} {t : Expr} (h : onDict t f = true) (k : ∀ a b c, f a b c = true → P (.Dict a b c)) : P t :=
  Expr.Dict.elim (motive_1 := fun t => onDict t f = true → P t) t (dite_tt h) k h
noncomputable def onListComp (t : Expr) (f : Expr → List Comprehension → Scope → Pos → Bool) : Bool := if h : t.ctorIdx = 8 then Expr.ListComp.elim (motive_1 := fun _ => Bool) t h f else false
theorem onListComp_is {P : Expr → Prop} {f : Expr → List Comprehension → Scope → Pos → Bool} {t : Expr} (h : onListComp t f = true) (k : ∀ a b c d, f a b c d = true → P (.ListComp a b c d)) : P t :=
  Expr.ListComp.elim (motive_1 := fun t => onListComp t f = true → P t) t (dite_tt h) k h
noncomputable def onCompare (t : Expr) (f : Expr → List CmpOp → List Expr → Pos → Bool) : Bool := if h : t.ctorIdx = 15 then Expr.Compare.elim (motive_1 := fun _ => Bool) t h f else false
theorem onCompare_is {P : Expr → Prop} {f : Expr → List CmpOp → List Expr → Pos → Bool} {t : Expr} (h : onCompare t f = true) (k : ∀ a b c d, f a b c d = true → P (.Compare a b c d)) : P t :=
  Expr.Compare.elim (motive_1 := fun t => onCompare t f = true → P t) t (dite_tt h) k h
noncomputable def onCall (t : Expr) (f : Expr → List Expr → List Keyword → Pos → Bool) : Bool := if h : t.ctorIdx = 16 then Expr.Call.elim (motive_1 := fun _ => Bool) t h f else false
theorem onCall_is {P : Expr → Prop} {f : Expr → List Expr → List Keyword → Pos → Bool} {t : Expr} (h : onCall t f = true) (k : ∀ a b c d, f a b c d = true → P (.Call a b c d)) : P t :=
  Expr.Call.elim (motive_1 := fun t => onCall t f = true → P t) t (dite_tt h) k h
noncomputable def onConstant (t : Expr) (f : Const → Nat → Pos → Bool) : Bool := if h : t.ctorIdx = 19 then Expr.Constant.elim (motive_1 := fun _ => Bool) t h f else false
theorem onConstant_is {P : Expr → Prop} {f : Const → Nat → Pos → Bool} {t : Expr} (h : onConstant t f = true) (k : ∀ a b c, f a b c = true → P (.Constant a b c)) : P t :=
  Expr.Constant.elim (motive_1 := fun t => onConstant t f = true → P t) t (dite_tt h) k h
noncomputable def onAttribute (t : Expr) (f : Expr → Str → Pos → Bool) : Bool := if h : t.ctorIdx = 20 then Expr.Attribute.elim (motive_1 := fun _ => Bool) t h f else false
theorem onAttribute_is {P : Expr → Prop} {f : Expr → Str → Pos → Bool} {t : Expr} (h : onAttribute t f = true) (k : ∀ a b c, f a b c = true → P (.Attribute a b c)) : P t :=
  Expr.Attribute.elim (motive_1 := fun t => onAttribute t f = true → P t) t (dite_tt h) k h
noncomputable def onSubscript (t : Expr) (f : Expr → Expr → Pos → Bool) : Bool := if h : t.ctorIdx = 21 then Expr.Subscript.elim (motive_1 := fun _ => Bool) t h f else false
theorem onSubscript_is {P : Expr → Prop} {f : Expr → Expr → Pos → Bool} {t : Expr} (h : onSubscript t f = true) (k : ∀ a b c, f a b c = true → P (.Subscript a b c)) : P t :=
  Expr.Subscript.elim (motive_1 := fun t => onSubscript t f = true → P t) t (dite_tt h) k h
noncomputable def onName (t : Expr) (f : Str → Pos → Bool) : Bool := if h : t.ctorIdx = 23 then Expr.Name.elim (motive_1 := fun _ => Bool) t h f else false
theorem onName_is {P : Expr → Prop} {f : Str → Pos → Bool} {t : Expr} (h : onName t f = true) (k : ∀ a b, f a b = true → P (.Name a b)) : P t :=
  Expr.Name.elim (motive_1 := fun t => onName t f = true → P t) t (dite_tt h) k h
noncomputable def onList (t : Expr) (f : List Expr → Pos → Bool) : Bool := if h : t.ctorIdx = 24 then Expr.List.elim (motive_1 := fun _ => Bool) t h f else false
theorem onList_is {P : Expr → Prop} {f : List Expr → Pos → Bool} {t : Expr} (h : onList t f = true) (k : ∀ a b, f a b = true → P (.List a b)) : P t :=
  Expr.List.elim (motive_1 := fun t => onList t f = true → P t) t (dite_tt h) k h
noncomputable def onTuple (t : Expr) (f : List Expr → Nat → Pos → Bool) : Bool := if h : t.ctorIdx = 25 then Expr.Tuple.elim (motive_1 := fun _ => Bool) t h f else false
theorem onTuple_is {P : Expr → Prop} {f : List Expr → Nat → Pos → Bool} {t : Expr} (h : onTuple t f = true) (k : ∀ a b c, f a b c = true → P (.Tuple a b c)) : P t :=
  Expr.Tuple.elim (motive_1 := fun t => onTuple t f = true → P t) t (dite_tt h) k h
noncomputable def onSlice (t : Expr) (f : Option Expr → Option Expr → Option Expr → Pos → Bool) : Bool := if h : t.ctorIdx = 26 then Expr.Slice.elim (motive_1 := fun _ => Bool) t h f else false
theorem onSlice_is {P : Expr → Prop} {f : Option Expr → Option Expr → Option Expr → Pos → Bool} {t : Expr} (h : onSlice t f = true) (k : ∀ a b c d, f a b c d = true → P (.Slice a b c d)) : P t :=
  Expr.Slice.elim (motive_1 := fun t => onSlice t f = true → P t) t (dite_tt h) k h
noncomputable def onSReturn (t : Stmt) (f : Option Expr → Pos → Bool) : Bool := if h : t.ctorIdx = 3 then Stmt.Return.elim (motive_2 := fun _ => Bool) t h f else false
theorem onSReturn_is {P : Stmt → Prop} {f : Option Expr → Pos → Bool} {t : Stmt} (h : onSReturn t f = true) (k : ∀ a b, f a b = true → P (.Return a b)) : P t :=
  Stmt.Return.elim (motive_2 := fun t => onSReturn t f = true → P t) t (dite_tt h) k h
noncomputable def onSAssign (t : Stmt) (f : List Expr → Expr → Pos → Bool) : Bool := if h : t.ctorIdx = 5 then Stmt.Assign.elim (motive_2 := fun _ => Bool) t h f else false
theorem onSAssign_is {P : Stmt → Prop} {f : List Expr → Expr → Pos → Bool} {t : Stmt} (h : onSAssign t f = true) (k : ∀ a b c, f a b c = true → P (.Assign a b c)) : P t :=
  Stmt.Assign.elim (motive_2 := fun t => onSAssign t f = true → P t) t (dite_tt h) k h
noncomputable def onSAugAssign (t : Stmt) (f : Expr → Operator → Expr → Pos → Bool) : Bool := if h : t.ctorIdx = 7 then Stmt.AugAssign.elim (motive_2 := fun _ => Bool) t h f else false
theorem onSAugAssign_is {P : Stmt → Prop} {f : Expr → Operator → Expr → Pos → Bool} {t : Stmt} (h : onSAugAssign t f = true) (k : ∀ a b c d, f a b c d = true → P (.AugAssign a b c d)) : P t :=
  Stmt.AugAssign.elim (motive_2 := fun t => onSAugAssign t f = true → P t) t (dite_tt h) k h
noncomputable def onSFor (t : Stmt) (f : Expr → Expr → List Stmt → List Stmt → Pos → Bool) : Bool := if h : t.ctorIdx = 9 then Stmt.For.elim (motive_2 := fun _ => Bool) t h f else false
theorem onSFor_is {P : Stmt → Prop} {f : Expr → Expr → List Stmt → List Stmt → Pos → Bool} {t : Stmt} (h : onSFor t f = true) (k : ∀ a b c d e, f a b c d e = true → P (.For a b c d e)) : P t :=
  Stmt.For.elim (motive_2 := fun t => onSFor t f = true → P t) t (dite_tt h) k h
noncomputable def onSWhile (t : Stmt) (f : Expr → List Stmt → List Stmt → Pos → Bool) : Bool := if h : t.ctorIdx = 11 then Stmt.While.elim (motive_2 := fun _ => Bool) t h f else false
theorem onSWhile_is {P : Stmt → Prop} {f : Expr → List Stmt → List Stmt → Pos → Bool} {t : Stmt} (h : onSWhile t f = true) (k : ∀ a b c d, f a b c d = true → P (.While a b c d)) : P t :=
  Stmt.While.elim (motive_2 := fun t => onSWhile t f = true → P t) t (dite_tt h) k h
noncomputable def onSIf (t : Stmt) (f : Expr → List Stmt → List Stmt → Pos → Bool) : Bool := if h : t.ctorIdx = 12 then Stmt.If.elim (motive_2 := fun _ => Bool) t h f else false
theorem onSIf_is {P : Stmt → Prop} {f : Expr → List Stmt → List Stmt → Pos → Bool} {t : Stmt} (h : onSIf t f = true) (k : ∀ a b c d, f a b c d = true → P (.If a b c d)) : P t :=
  Stmt.If.elim (motive_2 := fun t => onSIf t f = true → P t) t (dite_tt h) k h
noncomputable def onSRaise (t : Stmt) (f : Option Expr → Option Expr → Pos → Bool) : Bool := if h : t.ctorIdx = 16 then Stmt.Raise.elim (motive_2 := fun _ => Bool) t h f else false
theorem onSRaise_is {P : Stmt → Prop} {f : Option Expr → Option Expr → Pos → Bool} {t : Stmt} (h : onSRaise t f = true) (k : ∀ a b c, f a b c = true → P (.Raise a b c)) : P t :=
  Stmt.Raise.elim (motive_2 := fun t => onSRaise t f = true → P t) t (dite_tt h) k h
noncomputable def onSTry (t : Stmt) (f : List Stmt → List ExceptHandler → List Stmt → List Stmt → Pos → Bool) : Bool := if h : t.ctorIdx = 17 then Stmt.Try.elim (motive_2 := fun _ => Bool) t h f else false
theorem onSTry_is {P : Stmt → Prop} {f : List Stmt → List ExceptHandler → List Stmt → List Stmt → Pos → Bool} {t : Stmt} (h : onSTry t f = true) (k : ∀ a b c d e, f a b c d e = true → P (.Try a b c d e)) : P t :=
  Stmt.Try.elim (motive_2 := fun t => onSTry t f = true → P t) t (dite_tt h) k h
noncomputable def onSExpr (t : Stmt) (f : Expr → Pos → Bool) : Bool := if h : t.ctorIdx = 24 then Stmt.Expr.elim (motive_2 := fun _ => Bool) t h f else false
theorem onSExpr_is {P : Stmt → Prop} {f : Expr → Pos → Bool} {t : Stmt} (h : onSExpr t f = true) (k : ∀ a b, f a b = true → P (.Expr a b)) : P t :=
  Stmt.Expr.elim (motive_2 := fun t => onSExpr t f = true → P t) t (dite_tt h) k h
noncomputable def onSBreak (t : Stmt) (f : Pos → Bool) : Bool := if h : t.ctorIdx = 26 then Stmt.Break.elim (motive_2 := fun _ => Bool) t h f else false
theorem onSBreak_is {P : Stmt → Prop} {f : Pos → Bool} {t : Stmt} (h : onSBreak t f = true) (k : ∀ a, f a = true → P (.Break a)) : P t :=
  Stmt.Break.elim (motive_2 := fun t => onSBreak t f = true → P t) t (dite_tt h) k h
section
variable {α : Type}
noncomputable def on0 (l : List α) (b : Bool) : Bool := match l with
  | [] => b
  | _ :: _ => false
noncomputable def on1 (l : List α) (f : α → Bool) : Bool := match l with
  | [] => false
  | a :: r => on0 r (f a)
noncomputable def on2 (l : List α) (f : α → α → Bool) : Bool := match l with
  | [] => false
  | a :: r => on1 r (f a)
noncomputable def onSome (o : Option α) (f : α → Bool) : Bool := match o with
  | none => false
  | some a => f a
theorem on0_is {P : List α → Prop} {b : Bool} {l : List α} (h : on0 l b = true) (k : b = true → P []) : P l := match l, h with
  | [], h => k h
  | _ :: _, h => (ff_tt h).elim
theorem on1_is {P : List α → Prop} {f : α → Bool} {l : List α} (h : on1 l f = true) (k : ∀ a, f a = true → P [a]) : P l := match l, h with
  | [], h => (ff_tt h).elim
  | a :: _, h => on0_is (P := fun r => P (a :: r)) h (k a)
theorem on2_is {P : List α → Prop} {f : α → α → Bool} {l : List α} (h : on2 l f = true) (k : ∀ a b, f a b = true → P [a, b]) : P l := match l, h with
  | [], h => (ff_tt h).elim
  | a :: _, h => on1_is (P := fun r => P (a :: r)) h (k a)
theorem onSome_is {P : Option α → Prop} {f : α → Bool} {o : Option α} (h : onSome o f = true) (k : ∀ a, f a = true → P (some a)) : P o := match o, h with
  | none, h => (ff_tt h).elim
  | some a, h => k a h
end
noncomputable def onCstr (v : Const) (f : Str → Bool) : Bool := match v with
  | .str s => f s
  | _ => false
noncomputable def onCint (v : Const) (f : Int → Bool) : Bool := match v with
  | .int s => f s
  | _ => false
theorem onCstr_is {P : Const → Prop} {f : Str → Bool} {v : Const} (h : onCstr v f = true) (k : ∀ a, f a = true → P (.str a)) : P v := by
  cases v with
  | str a => exact k a h
  | _ => exact (ff_tt h).elim
theorem onCint_is {P : Const → Prop} {f : Int → Bool} {v : Const} (h : onCint v f = true) (k : ∀ a, f a = true → P (.int a)) : P v := by
  cases v with
  | int a => exact k a h
  | _ => exact (ff_tt h).elim
end Mine
end

section
open PySem PySem.W PyProof.Rows
namespace Mine
/-- the names that the numbers stand for -/
structure Nm where
  gn : List Str
  fn : List Str
  ms : List Nat
noncomputable def attrNm : Nat → Str
  | 0 => "rows"
  | 1 => "at"
  | _ => "deep"

noncomputable abbrev Kd := Str → Option NameKind
/-- a block's names: their kinds, their places -/
structure Sc where
  kd : Kd
  nm : List Str
noncomputable def isLoc (kd : Kd) (x : Str) : Bool := kd x == some .local || kd x == some .cell
noncomputable def isGl (kd : Kd) (x : Str) : Bool := kd x == some .globalImplicit && x != ("__debug__" : Str)
noncomputable def isNm (e : Expr) : Bool := onName e fun _ _ => true
/-- an expression before a dot whose value is read as it stands -/
noncomputable def isBase (e : Expr) : Bool := e.ctorIdx == 23 || e.ctorIdx == 19 || e.ctorIdx == 20
noncomputable def isStar (e : Expr) : Bool := e.ctorIdx == 22
noncomputable def isSlice (e : Expr) : Bool := e.ctorIdx == 26
noncomputable def isSet (e : Expr) : Bool := e.ctorIdx == 7
noncomputable def isGlNm (kd : Kd) (x : Str) (e : Expr) : Bool := onName e fun y _ => y == x && isGl kd x
noncomputable def sameC (c : CV) (v : Const) : Bool := match c with
  | .none => v.ctorIdx == 0
  | .bool b => match v with
    | .bool d => b == d
    | _ => false
  | .int i => onCint v fun j => i == j
  | .str s => onCstr v fun t => s == t.cps.toList
  | _ => false

noncomputable def onXk (t : X) (f : CV → Bool) : Bool := if h : t.ctorIdx = 1 then X.k.elim (motive_1 := fun _ => Bool) t h f else false
theorem onXk_is {P : X → Prop} {f : CV → Bool} {t : X} (h : onXk t f = true) (k : ∀ a, f a = true → P (.k a)) : P t :=
  X.k.elim (motive_1 := fun t => onXk t f = true → P t) t (dite_tt h) k h
noncomputable def allIntK : List X → Bool
  | [] => true
  | x :: r => onXk x fun c => c.onInt false fun _ => allIntK r

/-- the kinds of a comprehension's names, as the function around it makes them -/
noncomputable def relK (scope : Scope) (kd : Kd) : Kd := fun x => (scope.names.map fun (n, k) => if (k == NameKind.free && kd n == some .cell) then (n, NameKind.cell) else (n, k)).lookup x
/-- a comprehension's own scope: names of its own alone -/
noncomputable def ownScope (scope : Scope) (x : Str) : Bool := scope.kind == .function && scope.names.all (fun y => y.2 != .cell && y.2 != .free && (y.2 != .local || scope.names.lookup y.1 == some .local)) && scope.names.lookup x == some .local
/-- a call of a method, n parts: the name, the object, the parts -/
noncomputable def onMeth (e : Expr) (f : Str → Expr → List Expr → Bool) : Bool := onCall e fun g es ks pos => onAttribute g fun b x apos => on0 ks (apos.endLine == pos.line && isBase b && f x b es)
/-- a call of a built-in thing by its name -/
noncomputable def onBlt (kd : Kd) (n : Str) (e : Expr) (f : List Expr → Bool) : Bool := onCall e fun g es ks _ => on0 ks (isGlNm kd n g && f es)
noncomputable def mKs : List (List Nat) → List (Option Expr) → Bool
  | [], es => on0 es true
  | k :: ks, es => match es with
    | [] => false
    | e :: es => onSome e fun e => onConstant e fun v _ _ => onCstr v fun s => k == s.cps.toList && mKs ks es

mutual
noncomputable def mE (N : Nm) (c : Sc) : X → Expr → Bool
  | .bad, e => !isStar e
  | .k v, e => onConstant e fun w _ _ => sameC v w
  | .v i, e => onName e fun x _ => c.nm[i]? == some x && (isLoc c.kd x && x != ("__debug__" : Str))
  | .g n, e => onName e fun x _ => N.gn[n]? == some x && isGl c.kd x
  | .bop a xs, e => onBoolOp e fun op vs _ => (op == .And) == a && mEs N c xs vs
  | .bin o a b, e => onBinOp e fun l op r _ => o == op && (mE N c a l && mE N c b r)
  | .not a, e => onUnaryOp e fun op e _ => op == .Not && mE N c a e
  | .neg a, e => onUnaryOp e fun op e _ => op == .USub && mE N c a e
  | .ife t a b, e => onIfExp e fun u e f _ => mE N c t u && (mE N c a e && mE N c b f)
  | .tup xs, e => onTuple e fun es _ _ => mEs N c xs es && decide (xs.length ≤ 1000)
  | .lst xs, e => onList e fun es _ => mEs N c xs es && decide (xs.length ≤ 1000)
  | .ilst xs, e => onList e fun es _ => mEs N c xs es && decide (xs.length ≤ 1000)
  | .dct ks xs, e => onDict e fun keys vs _ => mKs ks keys && (mEs N c xs vs && (allIntK xs && (decide (xs.length ≤ 10) && (decide (ks.length = xs.length) && (!ks.isEmpty && decide ks.Nodup)))))
  | .cmp o a b, e => onCompare e fun l ops rs _ => on1 ops fun op => on1 rs fun r => o == op && (mE N c a l && (mE N c b r && !behindInMarks op r))
  | .call f xs, e => onCall e fun g es ks _ => onName g fun x _ => on0 ks (N.fn[f]? == some x && (!N.ms.contains f && (isGl c.kd x && mEs N c xs es)))
  | .meth o m xs, e => onMeth e fun x b es => N.fn[m]? == some x && (N.ms.contains m && (mE N c o b && (mEs N c xs es && decide (xs.length ≤ 10))))
  | .len a, e => onBlt c.kd "len" e fun es => on1 es fun e => mE N c a e
  | .min a b, e => onBlt c.kd "min" e fun es => on2 es fun e g => mE N c a e && mE N c b g
  | .max a b, e => onBlt c.kd "max" e fun es => on2 es fun e g => mE N c a e && mE N c b g
  | .lstof a, e => onBlt c.kd "list" e fun es => on1 es fun e => mE N c a e
  | .tupof a, e => onBlt c.kd "tuple" e fun es => on1 es fun e => mE N c a e
  | .strof a, e => onBlt c.kd "str" e fun es => on1 es fun e => mE N c a e
  | .intof a, e => onBlt c.kd "int" e fun es => on1 es fun e => mE N c a e
  | .words a, e => onBlt c.kd "Words" e fun es => on1 es fun e => mE N c a e
  | .app o a, e => onMeth e fun x b es => on1 es fun g => x == ("append" : Str) && (mE N c o b && mE N c a g)
  | .get d k z, e => onMeth e fun x b es => on2 es fun g u => x == ("get" : Str) && (mE N c d b && (mE N c k g && mE N c z u))
  | .find o a, e => onMeth e fun x b es => on1 es fun g => x == ("find" : Str) && (mE N c o b && mE N c a g)
  | .lower o, e => onMeth e fun x b es => on0 es (x == ("lower" : Str) && mE N c o b)
  | .attr o n, e => onAttribute e fun b x _ => isNm b && (x == attrNm n && mE N c o b)
  | .sub o i, e => onSubscript e fun b f _ => mE N c o b && (mE N c i f && !isSlice f)
  | .slc o lo hi, e => onSubscript e fun b f _ => onSlice f fun l u s _ => s.isNone && (mE N c o b && (mO N c lo l && mO N c hi u))
  | .nocomp src cond, e => onListComp e fun _ gens scope _ => on1 gens fun g => onName g.target fun x _ => on1 g.ifs fun t => decide (g.is_async = 0) && (mE N c src g.iter && (!isSet g.iter && (ownScope scope x && mE N ⟨fun y => scope.names.lookup y, [x]⟩ cond t)))
noncomputable def mEs (N : Nm) (c : Sc) : List X → List Expr → Bool
  | [], es => on0 es true
  | x :: xs, es => match es with
    | [] => false
    | e :: es => mE N c x e && mEs N c xs es
noncomputable def mO (N : Nm) (c : Sc) : Option X → Option Expr → Bool
  | none, e => e.isNone
  | some x, e => onSome e fun e => mE N c x e
end
section
variable {N : Nm} {c : Sc}
theorem mEs_ind {P : List X → List Expr → Prop} (nil : P [] []) (cons : ∀ {x xs e es}, mE N c x e = true → mEs N c xs es = true → P xs es → P (x :: xs) (e :: es)) : ∀ {xs es}, mEs N c xs es = true → P xs es
  | [], _, h => on0_is (P := P []) h fun _ => nil
  | _ :: _, [], h => (ff_tt h).elim
  | _ :: _, _ :: _, h => cons (and_tt h).1 (and_tt h).2 (mEs_ind nil cons (and_tt h).2)
theorem mEs_len {xs : List X} {es : List Expr} (h : mEs N c xs es = true) : es.length = xs.length := mEs_ind (P := fun xs es => es.length = xs.length) rfl (fun _ _ e => congrArg Nat.succ e) h
theorem isGlNm_is {P : Expr → Prop} {kd : Kd} {x : Str} {f : Expr} (h : isGlNm kd x f = true) (k : ∀ p, kd x = some .globalImplicit → (x == ("__debug__" : Str)) = false → P (.Name x p)) : P f :=
  onName_is h fun y p h => by
    obtain ⟨h1, h⟩ := and_tt h
    rw [eq_of_beq h1]
    exact k p (eq_of_beq (and_tt h).1) ((Bool.not_eq_true' _).mp (and_tt h).2)
theorem onBlt_is {P : Expr → Prop} {kd : Kd} {n : Str} {e : Expr} {f : List Expr → Bool} (h : onBlt kd n e f = true) (k : ∀ np es pos, kd n = some .globalImplicit → (n == ("__debug__" : Str)) = false → f es = true → P (.Call (.Name n np) es [] pos)) : P e :=
  onCall_is h fun g es ks pos h => on0_is (P := fun ks => P (.Call g es ks pos)) h fun h => isGlNm_is (P := fun g => P (.Call g es [] pos)) (and_tt h).1 fun np h1 h2 => k np es pos h1 h2 (and_tt h).2
theorem onMeth_is {P : Expr → Prop} {e : Expr} {f : Str → Expr → List Expr → Bool} (h : onMeth e f = true) (k : ∀ b x apos es pos, (apos.endLine == pos.line) = true → isBase b = true → f x b es = true → P (.Call (.Attribute b x apos) es [] pos)) : P e :=
  onCall_is h fun g es ks pos h => onAttribute_is (P := fun g => P (.Call g es ks pos)) h fun b x apos h => on0_is (P := fun ks => P (.Call (.Attribute b x apos) es ks pos)) h fun h => k b x apos es pos (and_tt (and_tt h).1).1 (and_tt (and_tt h).1).2 (and_tt h).2
end
end Mine
end

section
open PySem PySem.W PyProof.Rows PySem.Spec PySem.Calls
namespace Mine

structure Room (A : Around) (envs : List Env) (b : Nat) : Prop where
  frames : A.frames = some envs
  handled : A.handled = none
  depth : A.depth + 3 * b ≤ 900
  units : A.units + 30 * b ≤ 9000

/-- a block's environment: a function's (or a comprehension's within it) -/
structure EnvOK (env : Env) (kd : Kd) (F : List Addr) : Prop where
  kind : env.scope.kind = .function
  glob : env.globals = mainGlobals
  blt : env.builtins = builtinsNs
  loc : env.locals ∈ F
  kd : ∀ x, env.kindOf x = kd x

noncomputable def VarAt (D : Gd) (env : Env) (h : Heap) (σ F : List Addr) (m : Str → Option Value) (x : Str) (cv : CV) : Prop :=
  ∃ v, Rp D h σ F v cv ∧ ((env.kindOf x = some .local ∧ m x = some v) ∨ (env.kindOf x = some .cell ∧ ∃ c, env.cells.lookup x = some c ∧ h.IsCell c (some v) ∧ c ∉ σ ∧ c ∉ F))
/-- the names of the block hold what the small language's locals say -/
noncomputable def LocOK (D : Gd) (env : Env) (nm : List Str) (loc : Loc) (h : Heap) (σ F : List Addr) : Prop :=
  ∃ m, h.Ns env.locals m ∧ ∀ (i : Nat) x cv, nm[i]? = some x → loc[i]? = some (some cv) → VarAt D env h σ F m x cv

theorem VarAt.map {D : Gd} {env : Env} {h h' : Heap} {σ σ' F F' : List Addr} {m m' : Str → Option Value} {x : Str} {cv : CV} (M : Mp h σ F h' σ' F') (k : ∀ v, m x = some v → m' x = some v) (a : VarAt D env h σ F m x cv) : VarAt D env h' σ' F' m' x cv :=
  let ⟨v, r, q⟩ := a
  ⟨v, r.map M, q.imp (fun ⟨a, b⟩ => ⟨a, k v b⟩) fun ⟨a, c, b, ⟨o, e, d⟩, n1, n2⟩ => ⟨a, c, b, ⟨o, M.keep _ _ e n1 n2 (nf_cell d), d⟩, M.out _ _ e n1 n2 (nf_cell d)⟩⟩
theorem LocOK.map {D : Gd} {env : Env} {nm : List Str} {loc : Loc} {h h' : Heap} {σ σ' F F' : List Addr} (M : Mp h σ F h' σ' F') (hL : ∀ m, h.Ns env.locals m → h'.Ns env.locals m) (l : LocOK D env nm loc h σ F) : LocOK D env nm loc h' σ' F' :=
  let ⟨m, n, r⟩ := l
  ⟨m, hL m n, fun i x cv e1 e2 => (r i x cv e1 e2).map M fun _ e => e⟩
theorem LocOK.step {D : Gd} {env : Env} {nm : List Str} {loc : Loc} {h h' : Heap} {σ σ' F : List Addr} (S : Step F σ h σ' h') (hL : env.locals ∈ F) (l : LocOK D env nm loc h σ F) : LocOK D env nm loc h' σ' F := l.map S.mp (S.fr _ hL)

noncomputable def bltRows : List (Str × Value) := [("len", .builtin "len"), ("min", .builtin "min"), ("max", .builtin "max"), ("list", .type "list"), ("tuple", .type "tuple"), ("str", .type "str"), ("int", .type "int"), ("range", .type "range")]
/-- all that a proof of soundness speaks of -/
structure Lng where
  D : Gd
  K : Frag
  N : Nm
  G : List CV
  C : Orc
  b : Nat
  mg : Str → Option Value
  mb : Str → Option Value
  fa : Nat → Addr
/-- what is known of the text's own world -/
structure Fx (L : Lng) : Prop where
  X : L.K.In L.D.base
  g : L.D.base.Ns mainGlobals L.mg
  b : L.D.base.Ns builtinsNs L.mb
  nolimit : L.D.base.NoLimit
  big : sysModules < L.D.base.objs.size
  bl : ∀ x v, (x, v) ∈ bltRows → L.mg x = none ∧ L.mb x = some v
  gl : ∀ (n : Nat) x cv, L.N.gn[n]? = some x → L.G[n]? = some cv → ∃ v, L.mg x = some v ∧ Rp L.D L.D.base [] [] v cv

/-- where a run is -/
structure At (L : Lng) (c : Sc) (x : Cx) (loc : Loc) (cs : Cells) (σ : List Addr) (s : Shared) : Prop where
  room : Room x.A x.envs L.b
  eo : EnvOK x.env c.kd x.F
  wd : Wd L.D x.envs x.F σ cs s.heap
  lo : LocOK L.D x.env c.nm loc s.heap σ x.F
/-- what is made of a value -/
noncomputable def KV (D : Gd) (F : List Addr) (Q : Value → Shared → Prop) : CV → Cells → List Addr → Shared → Prop := fun v _ σ s => ∀ val, Rp D s.heap σ F val v → Q val s
noncomputable def KB (Q : Bool → Shared → Prop) : CV → Cells → List Addr → Shared → Prop := fun v _ _ s => ∃ t, v = .bool t ∧ Q t s
/-- m does what r says -/
noncomputable def Does (L : Lng) (x : Cx) (σ : List Addr) (s : Shared) (m : Sem Value) (r : Res Cells CV) : Prop :=
  ∀ Q E, Post L.D x σ s E r (KV L.D x.F Q) → wpAny (model L.D.prog L.D.w) x.A m Q E s
noncomputable def Tells (L : Lng) (x : Cx) (σ : List Addr) (s : Shared) (m : Sem Bool) (r : Res Cells CV) : Prop :=
  ∀ Q E, Post L.D x σ s E r (KB Q) → wpAny (model L.D.prog L.D.w) x.A m Q E s
noncomputable def Val (L : Lng) (c : Sc) (y : X) (e : Expr) : Prop := ∀ {x loc cs σ s}, At L c x loc cs σ s → Does L x σ s (eval e x.env) (evX L.G L.C y loc cs)
noncomputable def Tst (L : Lng) (c : Sc) (y : X) (e : Expr) : Prop := ∀ {x loc cs σ s}, At L c x loc cs σ s → Tells L x σ s (isTrue e x.env (eval e x.env)) (evX L.G L.C y loc cs)
noncomputable def Snd (L : Lng) (y : X) : Prop := ∀ ⦃c e⦄, mE L.N c y e = true → Val L c y e ∧ Tst L c y e

section
variable {L : Lng} {c : Sc} {x : Cx} {loc : Loc} {cs : Cells} {σ : List Addr} {s : Shared} {Q : Value → Shared → Prop} {E : Value → Shared → Prop}
theorem At.go {cs₁ : Cells} {σ₁ : List Addr} {s₁ : Shared} (a : At L c x loc cs σ s) (W : Wd L.D x.envs x.F σ₁ cs₁ s₁.heap) (S : Go x.F σ s σ₁ s₁) : At L c x loc cs₁ σ₁ s₁ := ⟨a.room, a.eo, W, a.lo.step S.st a.eo.loc⟩
theorem At.ns (a : At L c x loc cs σ s) : ∃ m, s.heap.Ns x.env.locals m := let ⟨m, n, _⟩ := a.lo; ⟨m, n⟩
/-- the answer stands here -/
theorem Post.now {z : CV} (p : Post L.D x σ s E (.ok z cs) (KV L.D x.F Q)) (a : At L c x loc cs σ s) {v : Value} (r : Rp L.D s.heap σ x.F v z) : Q v s := p σ s a.wd Go.refl v r
theorem Post.here {z : CV} (p : Post L.D x σ s E (.ok z cs) (KV L.D x.F Q)) (a : At L c x loc cs σ s) {v : Value} (r : Rp L.D s.heap σ x.F v z) (tk : Nat) : Q v { s with toks := tk } := p σ { s with toks := tk } a.wd ⟨Step.refl _ _ _, rfl, rfl, rfl⟩ v r
theorem Post.to {z : CV} {cs' : Cells} (p : Post L.D x σ s E (.ok z cs') (KV L.D x.F Q)) {σ' : List Addr} {h' : Heap} (W : Wd L.D x.envs x.F σ' cs' h') (S : Step x.F σ s.heap σ' h') {v : Value} (r : Rp L.D h' σ' x.F v z) (tk : Nat) : Q v { s with heap := h', toks := tk } := p σ' { s with heap := h', toks := tk } W S.go v r
section
variable {D : Gd} {K : CV → Cells → List Addr → Shared → Prop} {β : Type} {K' : β → Cells → List Addr → Shared → Prop} {α : Type}
theorem Post.opt {o : Option β} {P : Prop} (p : Post D x σ s E (Res.ofOpt o cs) K') (k : ∀ a, o = some a → Post D x σ s E (.ok a cs) K' → P) : P := match o, p, k with
  | none, p, _ => p.elim
  | some a, p, k => k a rfl p
theorem Post.bool {z : CV} {f : Bool → Res Cells β} {P : CV → Prop} (p : Post D x σ s E (z.onBool .no f) K') (k : ∀ t, Post D x σ s E (f t) K' → P (.bool t)) : P z := by
  obtain ⟨t, rfl, p⟩ := CV.onBool_of (P := fun r => Post D x σ s E r K') id p; exact k t p
theorem Post.int {z : CV} {f : Int → Res Cells β} {P : CV → Prop} (p : Post D x σ s E (z.onInt .no f) K') (k : ∀ t, Post D x σ s E (f t) K' → P (.int t)) : P z := by
  obtain ⟨t, rfl, p⟩ := CV.onInt_of (P := fun r => Post D x σ s E r K') id p; exact k t p
theorem Post.str {z : CV} {f : List Nat → Res Cells β} {P : CV → Prop} (p : Post D x σ s E (z.onStr .no f) K') (k : ∀ t, Post D x σ s E (f t) K' → P (.str t)) : P z := by
  obtain ⟨t, rfl, p⟩ := CV.onStr_of (P := fun r => Post D x σ s E r K') id p; exact k t p
theorem Post.ils {z : CV} {f : List CV → Res Cells β} {P : CV → Prop} (p : Post D x σ s E (z.onIls .no f) K') (k : ∀ t, Post D x σ s E (f t) K' → P (.ils t)) : P z := by
  obtain ⟨t, rfl, p⟩ := CV.onIls_of (P := fun r => Post D x σ s E r K') id p; exact k t p
theorem Post.lst {z : CV} {f : Nat → Res Cells β} {P : CV → Prop} (p : Post D x σ s E (z.onLst .no f) K') (k : ∀ t, Post D x σ s E (f t) K' → P (.lst t)) : P z := by
  obtain ⟨t, rfl, p⟩ := CV.onLst_of (P := fun r => Post D x σ s E r K') id p; exact k t p
theorem Post.obj {z : CV} {f : Nat → Res Cells β} {P : CV → Prop} (p : Post D x σ s E (z.onObj .no f) K') (k : ∀ t, Post D x σ s E (f t) K' → P (.obj t)) : P z := by
  obtain ⟨t, rfl, p⟩ := CV.onObj_of (P := fun r => Post D x σ s E r K') id p; exact k t p
theorem Post.none {z : CV} {f : Res Cells β} {P : CV → Prop} (p : Post D x σ s E (z.onNone .no f) K') (k : Post D x σ s E f K' → P .none) : P z := by
  obtain ⟨rfl, p⟩ := CV.onNone_of (P := fun r => Post D x σ s E r K') id p; exact k p
theorem Post.ite {q : Prop} [Decidable q] {r : Res Cells β} {P : Prop} (p : Post D x σ s E (if q then r else .no) K') (k : q → Post D x σ s E r K' → P) : P := by
  by_cases h : q
  · rw [if_pos h] at p; exact k h p
  · rw [if_neg h] at p; exact p.elim
end
/-- the value of a part, and on -/
theorem Val.and {β : Type} {y : X} {e : Expr} {k : CV → Cells → Res Cells β} {K : β → Cells → List Addr → Shared → Prop} (hy : Val L c y e) (a : At L c x loc cs σ s) (p : Post L.D x σ s E ((evX L.G L.C y loc cs).bind k) K)
    (q : ∀ v cs₁ σ₁ s₁, At L c x loc cs₁ σ₁ s₁ → Go x.F σ s σ₁ s₁ → Post L.D x σ₁ s₁ E (k v cs₁) K → ∀ val, Rp L.D s₁.heap σ₁ x.F val v → Q val s₁) : wpAny (model L.D.prog L.D.w) x.A (eval e x.env) Q E s :=
  hy a Q E ((Post.bind p).mono fun v cs₁ σ₁ s₁ W S p val r => q v cs₁ σ₁ s₁ (a.go W S) S p val r)
theorem Tst.and {β : Type} {y : X} {e : Expr} {k : Bool → Cells → Res Cells β} {K : β → Cells → List Addr → Shared → Prop} {Q : Bool → Shared → Prop} (hy : Tst L c y e) (a : At L c x loc cs σ s) (p : Post L.D x σ s E ((evX L.G L.C y loc cs).bind fun v cs => v.onBool .no fun t => k t cs) K)
    (q : ∀ t cs₁ σ₁ s₁, At L c x loc cs₁ σ₁ s₁ → Go x.F σ s σ₁ s₁ → Post L.D x σ₁ s₁ E (k t cs₁) K → Q t s₁) : wpAny (model L.D.prog L.D.w) x.A (isTrue e x.env (eval e x.env)) Q E s :=
  hy a Q E ((Post.bind p).mono fun v cs₁ σ₁ s₁ W S p => Post.bool (P := fun v => ∃ t, v = .bool t ∧ Q t s₁) p fun t p => ⟨t, rfl, q t cs₁ σ₁ s₁ (a.go W S) S p⟩)

/-- the test of a value that is no test of its own form -/
theorem tst_of {y : X} {e : Expr} (hv : Val L c y e) (he : ∀ env whole, isTrue e env whole = (do let v ← whole; standAt e.pos; holding [v] (truthy v))) : Tst L c y e := fun {x loc cs σ s} a Q E p =>
  isTrue_plain (hv a _ E (p.mono fun v cs' σ' s' _ _ ⟨t, e, q⟩ val r => by
    subst e
    rw [r.view]; exact wpAny_truthy_bool q)) (he _ _)
theorem val_tst {y : X} {e : Expr} (hv : Val L c y e) (he : ∀ env whole, isTrue e env whole = (do let v ← whole; standAt e.pos; holding [v] (truthy v))) : Val L c y e ∧ Tst L c y e := ⟨hv, tst_of hv he⟩

theorem star_of {e : Expr} (h : isStar e = false) (rest : List Expr) (env : Env) : starEach (e :: rest) env = (false, eval e env) :: starEach rest env := by
  cases e <;> first | rfl | exact (ff_tt h.symm).elim
theorem notStar {y : X} {e : Expr} (h : mE L.N c y e = true) : isStar e = false := by
  have key : ∀ f g p, isStar (.Call f g [] p) = false := fun _ _ _ => rfl
  have hm : ∀ {f : Str → Expr → List Expr → Bool}, onMeth e f = true → isStar e = false := fun h => onMeth_is (P := fun e => isStar e = false) h fun _ _ _ _ _ _ _ _ => rfl
  have hb : ∀ {n : Str} {f : List Expr → Bool}, onBlt c.kd n e f = true → isStar e = false := fun h => onBlt_is (P := fun e => isStar e = false) h fun _ _ _ _ _ _ => rfl
  cases y with
  | bad => exact (Bool.not_eq_true' _).mp h
  | k _ => exact onConstant_is (P := fun e => isStar e = false) h fun _ _ _ _ => rfl
  | v _ => exact onName_is (P := fun e => isStar e = false) h fun _ _ _ => rfl
  | g _ => exact onName_is (P := fun e => isStar e = false) h fun _ _ _ => rfl
  | bop _ _ => exact onBoolOp_is (P := fun e => isStar e = false) h fun _ _ _ _ => rfl
  | bin _ _ _ => exact onBinOp_is (P := fun e => isStar e = false) h fun _ _ _ _ _ => rfl
  | not _ => exact onUnaryOp_is (P := fun e => isStar e = false) h fun _ _ _ _ => rfl
  | neg _ => exact onUnaryOp_is (P := fun e => isStar e = false) h fun _ _ _ _ => rfl
  | ife _ _ _ => exact onIfExp_is (P := fun e => isStar e = false) h fun _ _ _ _ _ => rfl
  | tup _ => exact onTuple_is (P := fun e => isStar e = false) h fun _ _ _ _ => rfl
  | lst _ => exact onList_is (P := fun e => isStar e = false) h fun _ _ _ => rfl
  | ilst _ => exact onList_is (P := fun e => isStar e = false) h fun _ _ _ => rfl
  | dct _ _ => exact onDict_is (P := fun e => isStar e = false) h fun _ _ _ _ => rfl
  | cmp _ _ _ => exact onCompare_is (P := fun e => isStar e = false) h fun _ _ _ _ _ => rfl
  | call _ _ => exact onCall_is (P := fun e => isStar e = false) h fun _ _ _ _ _ => rfl
  | meth _ _ _ => exact hm h
  | len _ => exact hb h
  | min _ _ => exact hb h
  | max _ _ => exact hb h
  | lstof _ => exact hb h
  | tupof _ => exact hb h
  | strof _ => exact hb h
  | intof _ => exact hb h
  | words _ => exact hb h
  | app _ _ => exact hm h
  | get _ _ _ => exact hm h
  | find _ _ => exact hm h
  | lower _ => exact hm h
  | attr _ _ => exact onAttribute_is (P := fun e => isStar e = false) h fun _ _ _ _ => rfl
  | sub _ _ => exact onSubscript_is (P := fun e => isStar e = false) h fun _ _ _ _ => rfl
  | slc _ _ _ => exact onSubscript_is (P := fun e => isStar e = false) h fun _ _ _ _ => rfl
  | nocomp _ _ => exact onListComp_is (P := fun e => isStar e = false) h fun _ _ _ _ _ => rfl

theorem Snd.bad : Snd L .bad := fun _ _ _ => ⟨fun _ _ _ p => p.elim, fun _ _ _ p => p.elim⟩

theorem rp_str {D : Gd} {h : Heap} {σ F : List Addr} (x : Str) (t : Tok) : Rp D h σ F (.str x t) (.str x.cps.toList) := by
  have := Rp.str (D := D) (h := h) (σ := σ) (F := F) x.cps.toList t
  rwa [tx_of] at this
theorem eq_of_bool {a b : Bool} (h : (a == b) = true) : a = b := eq_of_beq h
theorem Snd.k (d : CV) : Snd L (.k d) := fun c e h => onConstant_is (P := fun e => Val L c (.k d) e ∧ Tst L c (.k d) e) h fun v kk pos h => by
  refine val_tst (fun {x loc cs σ s} a Q E p => ?_) fun _ _ => rfl
  have p := Post.ite (P := Post L.D x σ s E (.ok d cs) (KV L.D x.F Q)) p fun _ p => p
  cases d with
  | none => cases v with
    | none => exact wpAny_Constant_none (p.now a .none)
    | _ => exact (ff_tt h).elim
  | bool t => cases v with
    | bool u => cases eq_of_beq h; exact wpAny_Constant_bool (p.now a (.bool _))
    | _ => exact (ff_tt h).elim
  | int i => exact onCint_is (P := fun v => wpAny (model L.D.prog L.D.w) x.A (eval (.Constant v kk pos) x.env) Q E s) h fun j h => by cases eq_of_beq h; exact wpAny_Constant_int (p.here a (.int _ _) _)
  | str u => exact onCstr_is (P := fun v => wpAny (model L.D.prog L.D.w) x.A (eval (.Constant v kk pos) x.env) Q E s) h fun t h => by cases eq_of_beq h; exact wpAny_Constant_str (p.here a (rp_str _ _) _)
  | _ => exact (ff_tt h).elim

theorem join_some {α : Type} {l : List (Option α)} {i : Nat} {z : α} (e : l[i]?.join = some z) : l[i]? = some (some z) := Option.join_eq_some_iff.mp e
theorem noDebug {x : Str} (h : (x != ("__debug__" : Str)) = true) : (x == ("__debug__" : Str)) = false := (Bool.not_eq_true' _).mp h
theorem Snd.v (i : Nat) : Snd L (.v i) := fun c e h => onName_is (P := fun e => Val L c (.v i) e ∧ Tst L c (.v i) e) h fun y pos h => by
  refine val_tst (fun {x loc cs σ s} a Q E p => Post.opt p fun cv e p => ?_) fun _ _ => rfl
  obtain ⟨m, n, r⟩ := a.lo
  obtain ⟨v, hv, q⟩ := r i y cv (eq_of_beq (and_tt h).1) (join_some e)
  have fin := p.now a hv
  exact q.elim (fun q => wpAny_Name (wpAny_loadName_local a.eo.kind q.1 n q.2 fin) (noDebug (and_tt (and_tt h).2).2))
    fun ⟨q1, _, q2, q3, _⟩ => wpAny_Name (wpAny_loadName_cell a.eo.kind q1 q2 q3 fin) (noDebug (and_tt (and_tt h).2).2)

theorem rp_ofBase {D : Gd} {h : Heap} {σ F : List Addr} (st : D.base.StaysIn h) (n1 : ∀ a ∈ σ, D.base.get? a = none) (n2 : ∀ a ∈ F, D.base.get? a = none) {v : Value} {x : CV} (r : Rp D D.base [] [] v x) : Rp D h σ F v x :=
  r.map ⟨fun _ _ e _ _ _ => st _ _ e, fun _ _ e _ _ _ => ⟨fun m => none_some ((n1 _ m).symm.trans e), fun m => none_some ((n2 _ m).symm.trans e)⟩, fun _ _ e => (none_some e).elim⟩
theorem gl_name (Z : Fx L) (a : At L c x loc cs σ s) {y : Str} {pos : Pos} {v : Value} (h2 : isGl c.kd y = true) (e : L.mg y = some v) (q : Q v s) : wpAny (model L.D.prog L.D.w) x.A (eval (.Name y pos) x.env) Q E s :=
  Name_function_global a.eo.kind ((a.eo.kd y).trans (eq_of_beq (and_tt h2).1)) (loadGlobal_global (mg := L.mg) (a.eo.glob ▸ Z.g.keeps a.wd.base) e q) (noDebug (and_tt h2).2)
theorem Snd.g (Z : Fx L) (n : Nat) : Snd L (.g n) := fun c e h => onName_is (P := fun e => Val L c (.g n) e ∧ Tst L c (.g n) e) h fun y pos h => by
  refine val_tst (fun {x loc cs σ s} a Q E p => Post.opt p fun cv e p => ?_) fun _ _ => rfl
  obtain ⟨v, e2, r⟩ := Z.gl n y cv (eq_of_beq (and_tt h).1) e
  exact gl_name Z a (and_tt h).2 e2 (p.now a (rp_ofBase a.wd.base (fun a' h => none_of_size (a.wd.new a' h)) (fun a' h => none_of_size (a.wd.newF a' h)) r))
end
end Mine
end

section
open PySem PySem.W PyProof.Rows PySem.Spec PySem.Calls
namespace Mine

section
variable {L : Lng} {c : Sc} {x : Cx} {loc : Loc} {cs : Cells} {σ : List Addr} {s : Shared} {E : Value → Shared → Prop} {Q : Value → Shared → Prop}

/-- data as they stand here -/
noncomputable abbrev RpA (L : Lng) (x : Cx) (σ : List Addr) (s : Shared) (v : Value) (y : CV) : Prop := Rp L.D s.heap σ x.F v y

theorem small_ok {vs : List Value} {n : Nat} (e : vs.length = n) (h : n ≤ 100000) : vs.toArray.size ≤ sizeLine := by
  rw [List.size_toArray, e, sizeLine_eq]; exact Nat.le_trans h (by decide)
/-- a new tuple -/
theorem newTuple_ok (a : At L c x loc cs σ s) {vs : List Value} {xs : List CV} (r : Rps L.D s.heap σ x.F vs xs) (hz : xs.length ≤ 100000) (p : Post L.D x σ s E (.ok (.tup xs) cs) (KV L.D x.F Q)) :
    wpAny (model L.D.prog L.D.w) x.A (newTuple vs) Q E s :=
  wpAny_newObj_type (p.to (a.wd.push _) (Step.push _) (.tup ⟨_, Heap.get?_push_size _ rfl, rfl, 0, rfl⟩ a.wd.notσ a.wd.notF (r.step (Step.push _))) _) (small_ok r.length hz)
/-- a new list that nothing will change -/
theorem newList_ok (a : At L c x loc cs σ s) {vs : List Value} {xs : List CV} (r : Rps L.D s.heap σ x.F vs xs) (hz : xs.length ≤ 100000) (p : Post L.D x σ s E (.ok (.ils xs) cs) (KV L.D x.F Q)) :
    wpAny (model L.D.prog L.D.w) x.A (newList vs) Q E s :=
  wpAny_newObj_type (p.to (a.wd.push _) (Step.push _) (.ils ⟨_, Heap.get?_push_size _ rfl, rfl, 0, rfl⟩ a.wd.notσ a.wd.notF (r.step (Step.push _))) _) (small_ok r.length hz)

theorem tx_append (a b : List Nat) : tx a ++ tx b = tx (a ++ b) := by
  show (⟨a.toArray ++ b.toArray⟩ : Str) = ⟨(a ++ b).toArray⟩
  rw [List.append_toArray]
theorem mulOk {a b : Int} (ha : a.natAbs < 2 ^ 62) (hb : b.natAbs < 2 ^ 62) : IntMulOk a b := by
  have h1 := intBits_le_64 (k := a) (by omega) (by omega)
  unfold IntMulOk
  rw [show decide (Builtin.Int.intBits a > shortFactorBits) = false from decide_eq_false (Nat.not_lt.mpr (Nat.le_trans h1 (by decide)))]
  exact ff_tt
theorem log_small {b : Int} (h0 : 0 < b) (h : b < 2 ^ 62) : b.natAbs.log2 < 9000 :=
  Nat.lt_trans ((Nat.log2_lt (n := b.natAbs) (Int.natAbs_ne_zero.mpr (Int.ne_of_gt h0))).mpr (show b.natAbs < 2 ^ 62 by omega)) (by decide)

/-- two ints -/
theorem both_as {D : Gd} {h : Heap} {σ F : List Addr} {va vb : Value} {x y : CV} {α : Type} {z : α} {f : Int → Int → Option α} {P : Value → Value → Prop} (ra : Rp D h σ F va x) (rb : Rp D h σ F vb y) (e : both x y f = some z)
    (k : ∀ i j t u, f i j = some z → P (.int i t) (.int j u)) : P va vb := by
  obtain ⟨i, j, rfl, rfl, e⟩ := both_is e
  obtain ⟨t, rfl⟩ := ra.view
  obtain ⟨u, rfl⟩ := rb.view
  exact k i j t u e
theorem add_ok (a : At L c x loc cs σ s) {va vb : Value} {y w z : CV} (ra : RpA L x σ s va y) (rb : RpA L x σ s vb w) (e : addOp y w = some z) (p : Post L.D x σ s E (.ok z cs) (KV L.D x.F Q)) : wpAny (model L.D.prog L.D.w) x.A (binaryOp .Add va vb) Q E s := by
  cases y with
  | int i =>
    obtain ⟨t, rfl⟩ := ra.view
    obtain ⟨j, rfl, e⟩ := CV.onInt_is none_some e
    obtain ⟨u, rfl⟩ := rb.view
    cases e
    exact add_int (p.here a (.int _ _) _)
  | str i =>
    obtain ⟨t, rfl⟩ := ra.view
    obtain ⟨j, rfl, e⟩ := CV.onStr_is none_some e
    obtain ⟨u, rfl⟩ := rb.view
    obtain ⟨q, rfl⟩ := ofIf_is e
    exact add_str (fun t' tk => tx_append _ _ ▸ p.here a (Rp.str _ t') tk) (by rw [tx_len, tx_len]; exact Nat.le_trans q (by rw [sizeLine_eq]; decide))
  | ils xs =>
    obtain ⟨a0, va, rfl, hva, _, _, ra⟩ := ra.view
    obtain ⟨ys, rfl, e⟩ := CV.onIls_is none_some e
    obtain ⟨b0, vb, rfl, hvb, _, _, rb⟩ := rb.view
    obtain ⟨q, rfl⟩ := ofIf_is e
    obtain ⟨m, n⟩ := a.ns
    refine add_lists (news := allN L.D.base x.env.locals s.heap) (a.wd.fr a.eo.loc n) (allN_news L.D.base x.env.locals s.heap) hva hvb (fun h' f N => ?_) (by
      rw [ra.length, rb.length]; exact Nat.le_trans q (by rw [sizeLine_eq]; decide))
    have k := a.wd.back f (more := [_]) N
    have S : Step x.F σ s.heap σ h' := Step.of_keep k a.eo.loc n f.ns
    exact p.to (a.wd.of_keep k a.eo.loc n f.ns) S (.ils ⟨_, N.get (.head _), rfl, 0, rfl⟩ a.wd.notσ a.wd.notF ((ra.step S).append (rb.step S))) _
  | _ => exact (none_some e).elim
theorem bin_ok (a : At L c x loc cs σ s) {op : Operator} {va vb : Value} {y w z : CV} (ra : RpA L x σ s va y) (rb : RpA L x σ s vb w) (e : binOp op y w = some z) (p : Post L.D x σ s E (.ok z cs) (KV L.D x.F Q)) :
    wpAny (model L.D.prog L.D.w) x.A (binaryOp op va vb) Q E s := by
  have fin : ∀ {i : Int} (t : Tok) (tk : Nat), some (CV.int i) = some z → Q (.int i t) { s with toks := tk } := fun t tk e => by cases e; exact p.here a (.int _ _) tk
  cases op with
  | Add => exact add_ok a ra rb e p
  | Sub => exact both_as (P := fun va vb => wpAny (model L.D.prog L.D.w) x.A (binaryOp .Sub va vb) Q E s) ra rb e fun i j t u e => sub_int (fin _ _ e)
  | Mult => exact both_as (P := fun va vb => wpAny (model L.D.prog L.D.w) x.A (binaryOp .Mult va vb) Q E s) ra rb e fun i j t u e => mul_int (fin _ _ (congrArg some (ofIf_is e).2)) (mulOk (ofIf_is e).1.1 (ofIf_is e).1.2)
  | FloorDiv => exact both_as (P := fun va vb => wpAny (model L.D.prog L.D.w) x.A (binaryOp .FloorDiv va vb) Q E s) ra rb e fun i j t u e => floordiv_int (Int.ne_of_gt (ofIf_is e).1.1) (fin _ _ (congrArg some (ofIf_is e).2)) (.inl (PyProof.noPylong_of_log2 (log_small (ofIf_is e).1.1 (ofIf_is e).1.2)))
  | Mod => exact both_as (P := fun va vb => wpAny (model L.D.prog L.D.w) x.A (binaryOp .Mod va vb) Q E s) ra rb e fun i j t u e => mod_int' (Int.ne_of_gt (ofIf_is e).1.1) (fin _ _ (congrArg some (ofIf_is e).2))
  | Pow =>
    refine both_as (P := fun va vb => wpAny (model L.D.prog L.D.w) x.A (binaryOp .Pow va vb) Q E s) ra rb e fun i j t u e => ?_
    obtain ⟨⟨rfl, rfl⟩, e⟩ := ofIf_is e
    exact pow_int (by decide) (by decide +kernel) (fin _ _ e)
  | _ => exact (none_some e).elim

theorem contains_one (b : List Nat) (a : Nat) : (!(Builtin.Str.occurrences (tx b) (tx [a]) 0 (tx b).length 1).isEmpty) = b.contains a := by
  have e := StrLaws.found_one (tx b) a
  rw [show tx [a] = (⟨#[a]⟩ : Str) from rfl, e, tx_cps]
  simp
theorem tx_beq (a b : List Nat) : (tx a == tx b) = (a == b) := by
  by_cases q : a = b
  · rw [q, beq_self_eq_true, beq_self_eq_true]
  · rw [beq_eq_false_iff_ne.mpr q, beq_eq_false_iff_ne.mpr fun z => q (tx_inj z)]

theorem strsAre {D : Gd} {F : List Addr} {h : Heap} {vs : List Value} {xs : List CV} (r : Rps D h σ F vs xs) : allStr xs = true → ∃ ys, StrsAre vs ys ∧ ∀ k, ys.any (· == tx k) = xs.any (isStr · k) := by
  refine Rps.ind (P := fun vs xs => allStr xs = true → ∃ ys, StrsAre vs ys ∧ ∀ k, ys.any (· == tx k) = xs.any (isStr · k)) (fun _ => ⟨[], .nil, fun _ => rfl⟩) (fun q _ ih a => ?_) r
  obtain ⟨st, rfl, a⟩ := CV.onStr_is ff_tt a
  obtain ⟨t, rfl⟩ := q.view
  obtain ⟨ys, hy, e⟩ := ih a
  exact ⟨tx st :: ys, .cons _ _ hy, fun k => by rw [List.any_cons, List.any_cons, e k, tx_beq]; rfl⟩

mutual
noncomputable def toP : CV → PyData
  | .bool b => .bool b
  | .int i => .int i
  | .str s => .str (tx s)
  | .tup xs => .tuple (toPs xs)
  | _ => .none
noncomputable def toPs : List CV → List PyData
  | [] => []
  | x :: xs => toP x :: toPs xs
end
theorem rps_reads {D : Gd} {F : List Addr} {h : Heap} {vs : List Value} {xs : List CV} (r : Rps D h σ F vs xs) : ∀ n, okVs xs n = true → ∃ as, ReadsAll h vs (toPs xs) as :=
  Rps.rec (motive_1 := fun v x _ => ∀ n, okV x n = true → ∃ as, Reads h v (toP x) as) (motive_2 := fun vs xs _ => ∀ n, okVs xs n = true → ∃ as, ReadsAll h vs (toPs xs) as)
    (fun _ _ => ⟨_, .none⟩) (fun b _ _ => ⟨_, .bool b⟩) (fun i t _ _ => ⟨_, .int i t⟩) (fun s t _ _ => ⟨_, .str _ t⟩)
    (fun ⟨_, e, hc, _, hd⟩ _ _ _ ih n k => by
      cases n with
      | zero => exact (ff_tt k).elim
      | succ n => obtain ⟨as, q⟩ := ih n k; exact ⟨as, reads_tuple_at e hc hd q⟩)
    (fun _ _ _ _ _ _ k => (ff_tt k).elim) (fun _ _ _ _ _ _ k => (ff_tt k).elim) (fun _ _ k => (ff_tt k).elim) (fun _ _ _ _ _ k => (ff_tt k).elim)
    (fun _ _ => ⟨_, .nil⟩) (fun _ _ ia ib n k => by
      obtain ⟨as, p⟩ := ia n (and_tt k).1
      obtain ⟨bs, p'⟩ := ib n (and_tt k).2
      exact ⟨_, .cons p p'⟩) r
mutual
theorem okV_lay : ∀ (x : CV) (n : Nat), okV x n = true → (toP x).canLay0 = true ∧ (toP x).depth ≤ n
  | .none, _, _ => ⟨rfl, Nat.zero_le _⟩
  | .bool _, _, _ => ⟨rfl, Nat.zero_le _⟩
  | .int _, _, _ => ⟨rfl, Nat.zero_le _⟩
  | .str s, n, k => by
    have k : s.all (fun c => decide (c < 1114112)) = true := k
    refine ⟨?_, Nat.zero_le _⟩
    show PyData.strOk (tx s) = true
    simp only [PyData.strOk, tx, ← Array.all_toList]
    exact k
  | .tup _, 0, k => (ff_tt k).elim
  | .tup xs, n + 1, k => ⟨(okVs_lay xs n k).1, Nat.succ_le_succ (okVs_lay xs n k).2⟩
  | .ils _, _, k => (ff_tt k).elim
  | .dct _, _, k => (ff_tt k).elim
  | .lst _, _, k => (ff_tt k).elim
  | .obj _, _, k => (ff_tt k).elim
theorem okVs_lay : ∀ (xs : List CV) (n : Nat), okVs xs n = true → PyData.canLayAll0 (toPs xs) = true ∧ PyData.depthAll (toPs xs) ≤ n
  | [], _, _ => ⟨rfl, Nat.zero_le _⟩
  | x :: xs, n, k => ⟨and_of (okV_lay x n (and_tt k).1).1 (okVs_lay xs n (and_tt k).2).1, Nat.max_le.mpr ⟨(okV_lay x n (and_tt k).1).2, (okVs_lay xs n (and_tt k).2).2⟩⟩
end
theorem cell_list (W : Wd L.D x.envs x.F σ cs s.heap) {c : Nat} {a : Addr} {xs : List CV} (hc : σ[c]? = some a) (e : listAt cs c = some xs) : ∃ vs n, s.heap.get? a = some (listOf vs.toArray n) ∧ Rps L.D s.heap σ x.F vs xs := W.cells c a _ hc (listAt_some e)

theorem units_ok (a : At L c x loc cs σ s) : x.A.units + 64 < cLine := Nat.lt_of_le_of_lt (Nat.add_le_add_right (Nat.le_trans (Nat.le_add_right _ _) a.room.units) 64) (by have := cLine_is; omega)
/-- data that are compared -/
noncomputable def Shp (h : Heap) (v : Value) (d : PyData) : Prop := (∃ as, Reads h v d as) ∧ SeqAt.shaped d = true
theorem shp_list {D : Gd} {F : List Addr} {h : Heap} {a : Addr} {vs : List Value} {xs : List CV} (l : h.IsList a vs.toArray) (r : Rps D h σ F vs xs) (k : okVs xs 30 = true) : Shp h (.ref a) (.list (toPs xs)) := by
  obtain ⟨as, r⟩ := rps_reads r 30 k
  obtain ⟨o, e, c, n, d⟩ := l
  exact ⟨⟨_, reads_list_at (xs := toPs xs) e c d r⟩, and_of (okVs_lay xs 30 k).1 (decide_eq_true (Nat.le_trans (Nat.succ_le_succ (okVs_lay xs 30 k).2) (by decide)))⟩
theorem shp_tup {D : Gd} {F : List Addr} {h : Heap} {v : Value} {xs : List CV} (r : Rp D h σ F v (.tup xs)) (k : okVs xs 30 = true) : Shp h v (.tuple (toPs xs)) := by
  obtain ⟨a, vs, rfl, ⟨o, e, c, n, d⟩, _, _, r⟩ := r.view
  obtain ⟨as, r⟩ := rps_reads r 30 k
  exact ⟨⟨_, reads_tuple_at e c d r⟩, and_of (okVs_lay xs 30 k).1 (decide_eq_true (Nat.le_trans (Nat.succ_le_succ (okVs_lay xs 30 k).2) (by decide)))⟩
theorem shp_nil {D : Gd} {F : List Addr} {h : Heap} {v : Value} (r : Rp D h σ F v (.ils [])) : Shp h v (.list []) := by
  obtain ⟨a, vs, rfl, l, _, _, r⟩ := r.view
  exact shp_list (xs := []) l r rfl
/-- the two answers of an equation -/
noncomputable def Eqs (L : Lng) (x : Cx) (s : Shared) (va vb : Value) (t : Bool) : Prop := ∀ Q E, (Q (.bool t) s → wpAny (model L.D.prog L.D.w) x.A (compareOp .Eq va vb) Q E s) ∧ (Q (.bool (!t)) s → wpAny (model L.D.prog L.D.w) x.A (compareOp .NotEq va vb) Q E s)
theorem eq_shp (a : At L c x loc cs σ s) {va vb : Value} {d e : PyData} (r1 : Shp s.heap va d) (r2 : Shp s.heap vb e) {t : Bool} (h : PyData.eqv d e = t) : Eqs L x s va vb t := fun Q E => by
  obtain ⟨⟨_, r1⟩, h1⟩ := r1
  obtain ⟨⟨_, r2⟩, h2⟩ := r2
  subst h
  exact ⟨eq_dataH r1 r2 h1 h2 (units_ok a), ne_dataH r1 r2 h1 h2 (units_ok a)⟩
theorem eqv_nil : ∀ xs : List CV, PyData.eqv (.list (toPs xs)) (.list []) = xs.isEmpty
  | [] => rfl
  | _ :: _ => rfl
theorem dec_beq (a b : List Nat) : (tx a == tx b) = decide (a = b) := (tx_beq a b).trans (Bool.eq_iff_iff.mpr (beq_iff_eq.trans decide_eq_true_iff.symm))
theorem eq_ok (a : At L c x loc cs σ s) {va vb : Value} {y w : CV} (ra : RpA L x σ s va y) (rb : RpA L x σ s vb w) {t : Bool} (e : eqOp cs y w = some t) : Eqs L x s va vb t := by
  cases y with
  | int i =>
    obtain ⟨u, rfl⟩ := ra.view
    obtain ⟨j, rfl, e⟩ := CV.onInt_is none_some e
    obtain ⟨u, rfl⟩ := rb.view
    cases e
    exact fun Q E => ⟨fun h => eq_int h, fun h => ne_int h⟩
  | str i =>
    obtain ⟨u, rfl⟩ := ra.view
    obtain ⟨j, rfl, e⟩ := CV.onStr_is none_some e
    obtain ⟨u, rfl⟩ := rb.view
    cases e
    exact fun Q E => ⟨fun h => eq_str (by rw [dec_beq]; exact h), fun h => ne_str (by rw [bne, dec_beq]; exact h)⟩
  | tup xs =>
    obtain ⟨ys, rfl, e⟩ := CV.onTup_is none_some e
    obtain ⟨⟨q1, q2⟩, rfl⟩ := ofIf_is e
    cases CV.beqs_is _ _ q1
    exact eq_shp a (shp_tup ra q2) (shp_tup rb q2) (PySem.SeqAt.eqv_refl (.tuple (toPs xs)) (okVs_lay xs 30 q2).1)
  | ils xs =>
    obtain ⟨ys, rfl, e⟩ := CV.onIls_is none_some e
    obtain ⟨⟨q1, q2⟩, rfl⟩ := ofIf_is e
    cases List.isEmpty_iff.mp q1
    cases List.isEmpty_iff.mp q2
    exact eq_shp a (shp_nil ra) (shp_nil rb) rfl
  | lst i =>
    obtain ⟨u, rfl, hc⟩ := ra.view
    obtain ⟨ys, rfl, e⟩ := CV.onIls_is none_some e
    obtain ⟨xs, ex, e⟩ := Option.bind_eq_some_iff.mp e
    obtain ⟨⟨q1, q2⟩, rfl⟩ := ofIf_is e
    cases List.isEmpty_iff.mp q1
    obtain ⟨vs, n, e1, r⟩ := cell_list a.wd hc ex
    exact eq_shp a (shp_list ⟨_, e1, rfl, n, rfl⟩ r q2) (shp_nil rb) (eqv_nil xs)
  | _ => exact (none_some e).elim

/-- the answer of a comparison -/
noncomputable def Cmp (L : Lng) (x : Cx) (s : Shared) (op : CmpOp) (va vb : Value) (t : Bool) : Prop := ∀ Q E, (∀ tk, Q (.bool t) { s with toks := tk }) → wpAny (model L.D.prog L.D.w) x.A (compareOp op va vb) Q E s
theorem in_ok (a : At L c x loc cs σ s) {va vb : Value} {y w : CV} (ra : RpA L x σ s va y) (rb : RpA L x σ s vb w) {t : Bool} (e : inOp y w = some t) : Cmp L x s .In va vb t := by
  obtain ⟨k, rfl, e⟩ := CV.onStr_is none_some e
  obtain ⟨u, rfl⟩ := ra.view
  cases w with
  | str b =>
    obtain ⟨v, rfl⟩ := rb.view
    obtain ⟨c, rfl, e⟩ := one_is e
    cases e
    exact fun Q E h => in_str (by rw [contains_one]; exact h s.toks)
  | tup xs =>
    obtain ⟨a0, vs, rfl, hT, _, _, r⟩ := rb.view
    obtain ⟨q, rfl⟩ := ofIf_is e
    obtain ⟨ys, hy, ey⟩ := strsAre r q
    exact fun Q E h => in_tuple_strs hT hy (by rw [ey]; exact h s.toks)
  | ils xs =>
    obtain ⟨a0, vs, rfl, hT, _, _, r⟩ := rb.view
    obtain ⟨q, rfl⟩ := ofIf_is e
    obtain ⟨ys, hy, ey⟩ := strsAre r q
    exact fun Q E h => in_list_strs hT hy (by rw [ey]; exact h s.toks)
  | dct es =>
    cases e
    obtain ⟨a0, f, rfl, hm, ns, hk, _, _⟩ := rb.view
    refine fun Q E h => wpAny_in_of (strKind_is L.D.prog L.D.w (tx k) u) ns hm ?_
    have q := hk k
    have : (f (tx k)).isSome = (lookD es k).isSome := by
      cases z : lookD es k with
      | none => rw [z] at q; rw [q]; rfl
      | some i => rw [z] at q; obtain ⟨t, q⟩ := q; rw [q]; rfl
    rw [this]; exact h _
  | _ => exact (none_some e).elim
theorem notin_ok (a : At L c x loc cs σ s) {va vb : Value} {y w : CV} (ra : RpA L x σ s va y) (rb : RpA L x σ s vb w) {t : Bool} (e : notInOp y w = some t) : Cmp L x s .NotIn va vb t := by
  obtain ⟨k, rfl, e⟩ := CV.onStr_is none_some e
  obtain ⟨u, rfl⟩ := ra.view
  cases w with
  | str b =>
    obtain ⟨v, rfl⟩ := rb.view
    obtain ⟨c, rfl, e⟩ := one_is e
    cases e
    exact fun Q E h => notIn_str (by rw [contains_one]; exact h s.toks)
  | tup xs =>
    obtain ⟨a0, vs, rfl, hT, _, _, r⟩ := rb.view
    obtain ⟨q, rfl⟩ := ofIf_is e
    obtain ⟨ys, hy, ey⟩ := strsAre r q
    exact fun Q E h => notin_tuple_strs hT hy (by rw [ey]; exact h s.toks)
  | _ => exact (none_some e).elim
theorem is_ok {va vb : Value} {y w : CV} (ra : RpA L x σ s va y) (rb : RpA L x σ s vb w) {t : Bool} (e : isOp y w = some t) : Cmp L x s .Is va vb t ∧ Cmp L x s .IsNot va vb (!t) := by
  obtain ⟨rfl, e⟩ := CV.onNone_is none_some e
  cases (rb.view : vb = .none)
  cases y with
  | none =>
    cases (ra.view : va = .none)
    cases e
    exact ⟨fun Q E h => is_none_none (h s.toks), fun Q E h => isnot_none_none (h s.toks)⟩
  | str i =>
    obtain ⟨u, rfl⟩ := ra.view
    cases e
    exact ⟨fun Q E h => is_str_none (h s.toks), fun Q E h => isnot_str_none (h s.toks)⟩
  | _ => exact (none_some e).elim
theorem cmp_ok (a : At L c x loc cs σ s) {op : CmpOp} {va vb : Value} {y w : CV} (ra : RpA L x σ s va y) (rb : RpA L x σ s vb w) {t : Bool} (e : cmpOp cs op y w = some t) : Cmp L x s op va vb t := by
  have ord : ∀ {op : CmpOp} {f : Int → Int → Bool}, (∀ i j t u Q E, Q (.bool (f i j)) s → wpAny (model L.D.prog L.D.w) x.A (compareOp op (.int i t) (.int j u)) Q E s) → both y w (fun a b => some (f a b)) = some t → Cmp L x s op va vb t := fun {op f} k e Q E h =>
    both_as (P := fun va vb => wpAny (model L.D.prog L.D.w) x.A (compareOp op va vb) Q E s) ra rb e fun i j t' u e => k i j t' u Q E (by cases e; exact h s.toks)
  cases op with
  | Eq => exact fun Q E h => (eq_ok a ra rb e Q E).1 (h s.toks)
  | NotEq =>
    obtain ⟨u, e1, rfl⟩ := Option.map_eq_some_iff.mp e
    exact fun Q E h => (eq_ok a ra rb e1 Q E).2 (h s.toks)
  | Lt => exact ord (fun i j t u Q E h => lt_int h) e
  | LtE => exact ord (fun i j t u Q E h => le_int h) e
  | Gt => exact ord (fun i j t u Q E h => gt_int h) e
  | GtE => exact ord (fun i j t u Q E h => ge_int h) e
  | In => exact in_ok a ra rb e
  | NotIn => exact notin_ok a ra rb e
  | Is => exact (is_ok ra rb e).1
  | IsNot =>
    obtain ⟨u, e1, rfl⟩ := Option.map_eq_some_iff.mp e
    exact (is_ok ra rb e1).2
end
end Mine
end

section
open PySem PySem.W PyProof.Rows PySem.Spec PySem.Calls
namespace Mine
theorem notSlice {f : Expr} (h : isSlice f = false) (o i : Value) : subscripted f false o i = operate [o, i] (getItem o i) := by
  cases f <;> first | rfl | exact (ff_tt h.symm).elim
theorem letGo_str (value : Expr) (x : Str) (t : Tok) (r : Value) : letTemporaryGo value (.str x t) r = pure () := by cases value <;> rfl
theorem seqIx {k : Int} {n : Nat} (h0 : 0 ≤ k) (h : k.toNat < n) : seqIndex? k n = some k.toNat := by
  unfold seqIndex?
  rw [if_neg (Int.not_lt.mpr h0)]
  exact if_pos (and_of (decide_eq_true h0) (decide_eq_true (by omega)))
theorem txt_item {u : List Nat} {i : Int} {c : Nat} (h0 : 0 ≤ i) (e : u[i.toNat]? = some c) : Txt.item (tx u) i = tx [c] := by
  unfold Txt.item Txt.charAt
  rw [tx_len, seqIx h0 (List.getElem?_eq_some_iff.mp e).1]
  show (⟨#[((tx u).cps[i.toNat]?).getD 0]⟩ : Str) = _
  rw [show (tx u).cps[i.toNat]? = some c by simp [tx, e]]
  rfl
/-- a place in a row -/
theorem ix_is {i : Int} {α : Type} {f : Nat → Option α} {z : α} (e : (ofIf (0 ≤ i ∧ i < 100000) i.toNat).bind f = some z) : 0 ≤ i ∧ i < 100000 ∧ f i.toNat = some z := by
  obtain ⟨k, e1, e⟩ := Option.bind_eq_some_iff.mp e
  obtain ⟨⟨q1, q2⟩, rfl⟩ := ofIf_is e1
  exact ⟨q1, q2, e⟩
section
variable {L : Lng} {c : Sc} {x : Cx} {loc : Loc} {cs : Cells} {σ : List Addr} {s : Shared} {E : Value → Shared → Prop} {Q : Value → Shared → Prop}
theorem ltIx {i : Int} (h : i < 100000) : i < 9223372036854775808 := Int.lt_trans h (by decide)
theorem item_list {value f : Expr} (hf : isSlice f = false) {a : Addr} {vs : List Value} {xs : List CV} {i : Int} {t : Tok} {z : CV} (hT : s.heap.IsList a vs.toArray) (r : Rps L.D s.heap σ x.F vs xs) (e : itemAt xs i = some z) (q : ∀ v, RpA L x σ s v z → Q v s) :
    wpAny (model L.D.prog L.D.w) x.A (subscriptTail value f (.ref a) (.int i t)) Q E s := by
  obtain ⟨h0, h1, e⟩ := ix_is e
  obtain ⟨v, ev, rv⟩ := r.get e
  exact tail_any hT.typeIs slot_list_getitem.lookup (wpAny_getItem_list hT h0 (ltIx h1) (List.getElem?_toArray.trans ev) (q v rv)) (notSlice hf _ _)
theorem sub_ok (a : At L c x loc cs σ s) {value f : Expr} (hf : isSlice f = false) {va vb : Value} {y w z : CV} (ra : RpA L x σ s va y) (rb : RpA L x σ s vb w) (e : subOp cs y w = some z) (p : Post L.D x σ s E (.ok z cs) (KV L.D x.F Q)) :
    wpAny (model L.D.prog L.D.w) x.A (subscriptTail value f va vb) Q E s := by
  obtain ⟨i, rfl, e⟩ := CV.onInt_is none_some e
  obtain ⟨t, rfl⟩ := rb.view
  cases y with
  | tup xs =>
    obtain ⟨a0, vs, rfl, hT, _, _, r⟩ := ra.view
    obtain ⟨h0, h1, e⟩ := ix_is e
    obtain ⟨v, ev, rv⟩ := r.get e
    exact item_tupleT hT (Int.le_trans (by decide) h0) (ltIx h1) (seqIx h0 (List.getElem?_eq_some_iff.mp ev).1) ev (p.now a rv) (notSlice hf _ _)
  | ils xs =>
    obtain ⟨a0, vs, rfl, hT, _, _, r⟩ := ra.view
    exact item_list hf hT r e fun v rv => p.now a rv
  | lst j =>
    obtain ⟨a0, rfl, hc⟩ := ra.view
    obtain ⟨xs, ex, e⟩ := Option.bind_eq_some_iff.mp e
    obtain ⟨vs, n, eo, r⟩ := cell_list a.wd hc ex
    exact item_list hf ⟨_, eo, rfl, n, rfl⟩ r e fun v rv => p.now a rv
  | str u =>
    obtain ⟨t2, rfl⟩ := ra.view
    obtain ⟨h0, h1, e⟩ := ix_is e
    obtain ⟨ch, ec, rfl⟩ := Option.map_eq_some_iff.mp e
    have hl : i.toNat < u.length := (List.getElem?_eq_some_iff.mp ec).1
    refine item_str (fitsSsize_of (N := 9223372036854775808) (Int.le_trans (by decide) h0) (ltIx h1) (Int.le_refl _)) (by rw [tx_len]; omega) (by rw [tx_len]; omega) (fun _ => ?_) (notSlice hf _ _) (fun r => letGo_str _ _ _ r)
    rw [txt_item h0 ec]
    exact p.here a (.str _ _) _
  | _ => exact (none_some e).elim
end

theorem filterMap_range (u : List Nat) (a n : Nat) : ((List.range n).map (· + a)).filterMap (fun i => u.toArray[i]?) = (u.drop a).take n := by
  induction n with
  | zero => rw [List.take_zero]; rfl
  | succ n ih =>
    rw [List.range_succ, List.map_append, List.filterMap_append, ih, List.take_add_one]
    congr 1
    rw [List.getElem?_drop, Nat.add_comm a n]
    show List.filterMap (fun i => u.toArray[i]?) [n + a] = _
    rw [List.filterMap_cons, List.getElem?_toArray]
    cases u[n + a]? <;> rfl

noncomputable def clipD (n : Nat) (v : Option Int) (d : Int) : Int := match v with
  | none => d
  | some i => max 0 (min (if i < 0 then i + (n : Int) else i) (n : Int))
theorem strSlice_eq (l r : Option Int) (n : Nat) : Builtin.Str.strSliceIndices l r 1 n = sliceRange (clipD n l 0) (clipD n r n) 1 := by
  cases l <;> cases r <;> rfl
theorem clip_is {l : Option Int} {a d n : Nat} (hl : match l with | none => a = d | some i => 0 ≤ i ∧ a = i.toNat) (hd : d ≤ n) : clipD n l d = ((min a n : Nat) : Int) := by
  cases l with
  | none => cases hl; rw [Nat.min_eq_left hd]; rfl
  | some i =>
    obtain ⟨h0, rfl⟩ := hl
    obtain ⟨k, rfl⟩ := Int.eq_ofNat_of_zero_le h0
    show max 0 (min (if (k : Int) < 0 then (k : Int) + (n : Int) else k) (n : Int)) = _
    rw [if_neg (Int.not_lt.mpr h0)]
    rcases Nat.le_total k n with q | q
    · rw [Int.min_eq_left (Int.ofNat_le.mpr q), Int.max_eq_right h0, Int.toNat_natCast, Nat.min_eq_left q]
    · rw [Int.min_eq_right (Int.ofNat_le.mpr q), Int.max_eq_right (Int.natCast_nonneg _), Int.toNat_natCast, Nat.min_eq_right q]
theorem range_eq (m n : Nat) : sliceRange (m : Int) (n : Int) 1 = (List.range (n - m)).map (· + m) := by
  unfold sliceRange
  rw [if_pos (by decide)]
  dsimp only
  rw [show (if (m : Int) < (n : Int) then ((n : Int) - (m : Int) + 1 - 1) / 1 else 0).toNat = n - m by split <;> omega]
  exact List.map_congr_left fun k _ => by
    rw [Int.one_mul]; exact (Int.toNat_natCast (m + k)).trans (Nat.add_comm m k)
theorem whole_is {m n l : Nat} (h : n - m = l) (hn : n ≤ l) (hm : m ≤ l) : m = 0 := by omega
theorem drop_take (u : List Nat) (a b : Nat) : (u.drop (min a u.length)).take (min b u.length - min a u.length) = (u.take b).drop a := by
  rw [List.drop_take]
  rcases Nat.le_total a u.length with h1 | h1
  · rw [Nat.min_eq_left h1]
    rcases Nat.le_total b u.length with h2 | h2
    · rw [Nat.min_eq_left h2]
    · rw [Nat.min_eq_right h2, List.take_of_length_le (Nat.le_of_eq List.length_drop), List.take_of_length_le (Nat.le_trans (Nat.le_of_eq List.length_drop) (Nat.sub_le_sub_right h2 _))]
  · rw [Nat.min_eq_right h1, List.drop_of_length_le (Nat.le_refl _), List.drop_of_length_le h1, List.take_nil, List.take_nil]

theorem txt_slice (u : List Nat) (l r : Option Int) (a b : Nat) (hl : match l with | none => a = 0 | some i => 0 ≤ i ∧ a = i.toNat) (hr : match r with | none => b = u.length | some i => 0 ≤ i ∧ b = i.toNat) :
    Txt.slice (tx u) l r = tx ((u.take b).drop a) := by
  have e : Builtin.Str.strSliceIndices l r 1 (tx u).length = (List.range (min b u.length - min a u.length)).map (· + min a u.length) := by
    rw [strSlice_eq, tx_len, clip_is (d := u.length) hr (Nat.le_refl _), show clipD u.length l 0 = _ from clip_is (d := 0) hl (Nat.zero_le _), range_eq]
  have e2 : ((List.range (min b u.length - min a u.length)).map (· + min a u.length)).filterMap ((tx u).cps[·]?) = (u.take b).drop a := (filterMap_range _ _ _).trans (drop_take u a b)
  unfold Txt.slice
  rw [e, e2]
  split
  · rename_i q
    obtain ⟨_, q2⟩ := and_tt q
    have q2 := eq_of_beq q2
    rw [List.length_map, List.length_range, tx_len] at q2
    show tx u = _
    congr 1
    rw [← drop_take, q2, whole_is q2 (Nat.min_le_right _ _) (Nat.min_le_right _ _)]
    exact (List.take_length).symm
  · rfl
end Mine
end

section
open PySem PySem.W PyProof.Rows PySem.Spec PySem.Calls
namespace Mine

section
variable {D : Gd} {envs : List Env} {F σ : List Addr} {cs : Cells}
theorem Step.cell {h h' : Heap} (k : ∀ a o, h.get? a = some o → h'.get? a = some o) : Step F σ h (σ ++ [h.objs.size]) h' :=
  ⟨List.prefix_append _ _, fun b hb hn => (List.mem_append.mp hb).elim (fun m => absurd m hn) fun m => List.mem_singleton.mp m ▸ fresh_here, fun a o e _ _ => k a o e, fun L _ m ⟨o, es, ep, e, q⟩ => ⟨o, es, ep, k _ _ e, q⟩, fun L _ o q => ⟨o, k _ _ q, .inl rfl⟩⟩
/-- all that stood stands -/
theorem Step.all {h h' : Heap} (k : ∀ a o, h.get? a = some o → h'.get? a = some o) : Step F σ h σ h' :=
  ⟨List.prefix_refl _, fun _ hb hn => absurd hb hn, fun a o e _ _ => k a o e, fun L _ m ⟨o, es, ep, e, q⟩ => ⟨o, es, ep, k _ _ e, q⟩, fun L _ o q => ⟨o, k _ _ q, .inl rfl⟩⟩
theorem Wd.all {h h' : Heap} (W : Wd D envs F σ cs h) (k : ∀ a o, h.get? a = some o → h'.get? a = some o) : Wd D envs F σ cs h' := W.keep (Step.all k) fun a _ o e => k a o e
theorem Wd.size {h : Heap} (W : Wd D envs F σ cs h) {L : Addr} (hL : L ∈ F) : D.base.objs.size ≤ h.objs.size := by
  cases q : h.get? L with
  | none => exact absurd q (W.exF L hL)
  | some o' => exact Nat.le_trans (W.newF L hL) (Nat.le_of_lt (Heap.lt_size q))
/-- the last of two rows of one length -/
theorem last_of {α β : Type} {l : List α} {m : List β} {a x : α} {b y : β} {c : Nat} (e : l.length = m.length) (e1 : (l ++ [a])[c]? = some x) (e2 : (m ++ [b])[c]? = some y) : (l[c]? = some x ∧ m[c]? = some y) ∨ (a = x ∧ b = y) := by
  rcases Nat.lt_or_ge c l.length with q | q
  · exact .inl ⟨(List.getElem?_append_left q).symm.trans e1, (List.getElem?_append_left (e ▸ q)).symm.trans e2⟩
  · rw [List.getElem?_append_right q] at e1
    rw [List.getElem?_append_right (e ▸ q), ← e] at e2
    cases z : c - l.length with
    | zero => rw [z] at e1 e2; exact .inr ⟨Option.some.inj e1, Option.some.inj e2⟩
    | succ n => rw [z] at e1; exact (none_some e1).elim
/-- a new cell -/
theorem Wd.cell {h h' : Heap} (W : Wd D envs F σ cs h) {L : Addr} (hL : L ∈ F) (k : ∀ a o, h.get? a = some o → h'.get? a = some o) (x : Cell) (c : CellAt D h' (σ ++ [h.objs.size]) F h.objs.size x) : Wd D envs F (σ ++ [h.objs.size]) (cs ++ [x]) h' := by
  have S := Step.cell (F := F) (σ := σ) k
  have W' := W.all k
  refine ⟨W'.base, ?_, ?_, fun a ha => ?_, fun a ha => ?_, W.newF, fun c' a y e1 e2 => ?_, W'.frs, W.inF, W'.exF⟩
  · rw [List.length_append, List.length_append, W.len]; rfl
  · exact List.nodup_append.mpr ⟨W.nd, List.nodup_cons.mpr ⟨List.not_mem_nil, List.nodup_nil⟩, fun a ha b hb e => W.notσ (List.mem_singleton.mp hb ▸ e ▸ ha)⟩
  · exact (List.mem_append.mp ha).elim (W.new a) fun m => List.mem_singleton.mp m ▸ W.size hL
  · exact (List.mem_append.mp ha).elim (W.apart a) fun m => List.mem_singleton.mp m ▸ W.notF
  · rcases last_of W.len e1 e2 with ⟨e1, e2⟩ | ⟨rfl, rfl⟩
    · exact (W.cells c' a y e1 e2).step S fun o e => k a o e
    · exact c
theorem last_cell {a : Addr} (e : σ.length = cs.length) : (σ ++ [a])[cs.length]? = some a := by
  rw [← e]; exact List.getElem?_concat_length
end

section
variable {L : Lng} {c : Sc} {x : Cx} {loc : Loc} {cs : Cells} {σ : List Addr} {s : Shared} {E : Value → Shared → Prop} {Q : Value → Shared → Prop}

/-- a value of two parts -/
theorem two_ok {y z : X} {l r : Expr} {f : CV → CV → Cells → Res Cells CV} {m : Value → Value → Sem Value} (hy : Val L c y l) (hz : Val L c z r)
    (op : ∀ {cs σ s v w va vb}, At L c x loc cs σ s → RpA L x σ s va v → RpA L x σ s vb w → Does L x σ s (m va vb) (f v w cs)) (a : At L c x loc cs σ s)
    (p : Post L.D x σ s E ((evX L.G L.C y loc cs).bind fun v cs => (evX L.G L.C z loc cs).bind fun w cs => f v w cs) (KV L.D x.F Q)) :
    wpAny (model L.D.prog L.D.w) x.A (eval l x.env) (fun va s₁ => wpAny (model L.D.prog L.D.w) x.A (eval r x.env) (fun vb s₂ => wpAny (model L.D.prog L.D.w) x.A (m va vb) Q E s₂) E s₁) E s :=
  hy.and a p fun v cs₁ σ₁ s₁ a₁ S₁ p va ra => hz.and a₁ p fun w cs₂ σ₂ s₂ a₂ S₂ p vb rb => op a₂ (ra.step S₂.st) rb Q E p
/-- a value of one part -/
theorem one_ok {y : X} {l : Expr} {f : CV → Cells → Res Cells CV} {m : Value → Sem Value} (hy : Val L c y l)
    (op : ∀ {cs σ s v va}, At L c x loc cs σ s → RpA L x σ s va v → Does L x σ s (m va) (f v cs)) (a : At L c x loc cs σ s) (p : Post L.D x σ s E ((evX L.G L.C y loc cs).bind f) (KV L.D x.F Q)) :
    wpAny (model L.D.prog L.D.w) x.A (eval l x.env) (fun va s₁ => wpAny (model L.D.prog L.D.w) x.A (m va) Q E s₁) E s :=
  hy.and a p fun v cs₁ σ₁ s₁ a₁ S₁ p va ra => op a₁ ra Q E p
theorem opt_ok {m : Sem Value} {o : Option CV} (k : ∀ {Q E z}, o = some z → Post L.D x σ s E (.ok z cs) (KV L.D x.F Q) → wpAny (model L.D.prog L.D.w) x.A m Q E s) : Does L x σ s m (.ofOpt o cs) := fun Q E p => Post.opt p fun z e p => k e p

theorem Snd.bin (op : Operator) {y z : X} (hy : Snd L y) (hz : Snd L z) : Snd L (.bin op y z) := fun c e h => onBinOp_is (P := fun e => Val L c (.bin op y z) e ∧ Tst L c (.bin op y z) e) h fun l op' r pos h =>
  val_tst (fun a Q E p => wpAny_BinOp (two_ok (hy (and_tt (and_tt h).2).1).1 (hz (and_tt (and_tt h).2).2).1 (fun a ra rb => opt_ok fun e p => bin_ok a ra rb (eq_of_beq (and_tt h).1 ▸ e) p) a p)) fun _ _ => rfl

theorem unop_is {P : UnaryOp → Prop} {op op' : UnaryOp} (h : (op == op') = true) (k : P op') : P op := eq_of_beq h ▸ k
theorem neg_ok (a : At L c x loc cs σ s) {v : CV} {va : Value} (r : RpA L x σ s va v) : Does L x σ s (unaryOp .USub va) (v.onInt .no fun i => .ok (.int (-i)) cs) := fun Q E p => by
  refine Post.int (P := fun v => RpA L x σ s va v → wpAny (model L.D.prog L.D.w) x.A (unaryOp .USub va) Q E s) p (fun i p r => ?_) r
  obtain ⟨t, rfl⟩ := r.view
  exact neg_int (p.here a (.int _ _) _)
theorem Snd.neg {y : X} (hy : Snd L y) : Snd L (.neg y) := fun c e h => onUnaryOp_is (P := fun e => Val L c (.neg y) e ∧ Tst L c (.neg y) e) h fun op e pos h => by
  cases eq_of_beq (and_tt h).1
  exact val_tst (fun a Q E p => wpAny_UnaryOp (one_ok (hy (and_tt h).2).1 (fun a r => neg_ok a r) a p)) fun _ _ => rfl
theorem not_ok (a : At L c x loc cs σ s) {v : CV} {va : Value} (r : RpA L x σ s va v) : Does L x σ s (unaryOp .Not va) (v.onBool .no fun i => .ok (.bool (!i)) cs) := fun Q E p => by
  refine Post.bool (P := fun v => RpA L x σ s va v → wpAny (model L.D.prog L.D.w) x.A (unaryOp .Not va) Q E s) p (fun i p r => ?_) r
  cases (r.view : va = .bool i)
  exact not_of (wpAny_truthy_bool (p.now a (.bool _)))
/-- the answer of a test -/
theorem Post.yes {t : Bool} {Q : Bool → Shared → Prop} (p : Post L.D x σ s E (.ok (.bool t) cs) (KB Q)) (a : At L c x loc cs σ s) (tk : Nat) : Q t { s with toks := tk } := by
  obtain ⟨u, e, q⟩ := p σ { s with toks := tk } a.wd ⟨Step.refl _ _ _, rfl, rfl, rfl⟩
  cases e; exact q
theorem Snd.not {y : X} (hy : Snd L y) : Snd L (.not y) := fun c e h => onUnaryOp_is (P := fun e => Val L c (.not y) e ∧ Tst L c (.not y) e) h fun op e pos h => by
  cases eq_of_beq (and_tt h).1
  exact ⟨fun a Q E p => wpAny_UnaryOp (one_ok (hy (and_tt h).2).1 (fun a r => not_ok a r) a p),
    fun a Q E p => wpAny_isTrue_Not (Tst.and (hy (and_tt h).2).2 a p fun t cs₁ σ₁ s₁ a₁ S₁ p => p.yes a₁ s₁.toks)⟩

theorem Snd.ife {t y z : X} (ht : Snd L t) (hy : Snd L y) (hz : Snd L z) : Snd L (.ife t y z) := fun c e h => onIfExp_is (P := fun e => Val L c (.ife t y z) e ∧ Tst L c (.ife t y z) e) h fun u e f pos h =>
  ⟨fun a Q E p => wpAny_IfExp (Tst.and (ht (and_tt h).1).2 (k := fun t cs => match t with | true => evX L.G L.C y _ cs | false => evX L.G L.C z _ cs) a p fun t cs₁ σ₁ s₁ a₁ S₁ p => match t, p with
      | true, p => (hy (and_tt (and_tt h).2).1).1 a₁ Q E p
      | false, p => (hz (and_tt (and_tt h).2).2).1 a₁ Q E p),
    fun a Q E p => isTrue_IfExp (Tst.and (ht (and_tt h).1).2 (k := fun t cs => match t with | true => evX L.G L.C y _ cs | false => evX L.G L.C z _ cs) a p fun t cs₁ σ₁ s₁ a₁ S₁ p => match t, p with
      | true, p => (hy (and_tt (and_tt h).2).1).2 a₁ Q E p
      | false, p => (hz (and_tt (and_tt h).2).2).2 a₁ Q E p)⟩

/-- a row of expressions, as a display or a call evaluates it -/
noncomputable def KVs (D : Gd) (F : List Addr) (Q : List Value → Shared → Prop) : List CV → Cells → List Addr → Shared → Prop := fun vs _ σ s => ∀ vals, Rps D s.heap σ F vals vs → Q vals s
theorem spliced_ok {ys : List X} {es : List Expr} (hm : mEs L.N c ys es = true) (pos : Pos) : (∀ y ∈ ys, Snd L y) → ∀ {cs σ s Q E}, At L c x loc cs σ s → Post L.D x σ s E (evXs L.G L.C ys loc cs) (KVs L.D x.F Q) →
    wpAny (model L.D.prog L.D.w) x.A (spliced (backTo pos (starEach es x.env))) Q E s := by
  refine mEs_ind (P := fun ys es => (∀ y ∈ ys, Snd L y) → ∀ {cs σ s Q E}, At L c x loc cs σ s → Post L.D x σ s E (evXs L.G L.C ys loc cs) (KVs L.D x.F Q) → wpAny (model L.D.prog L.D.w) x.A (spliced (backTo pos (starEach es x.env))) Q E s) ?_ (fun h1 _ ih => ?_) hm
  · intro _ cs σ s Q E a p
    exact spliced_none (p σ s a.wd Go.refl [] .nil)
  · intro hy cs σ s Q E a p
    exact spliced_more (Val.and (hy _ List.mem_cons_self h1).1 a p fun v cs₁ σ₁ s₁ a₁ S₁ p va ra => ih (fun y m => hy y (List.mem_cons_of_mem _ m)) a₁ ((Post.bind p).mono fun vs cs₂ σ₂ s₂ W₂ S₂ p vals rs => p σ₂ s₂ W₂ Go.refl _ (.cons (ra.step S₂.st) rs))) (star_of (notStar h1) _ _)

theorem bind_is {σ α β : Type} {r : Res σ α} {k : α → σ → Res σ β} {b : β} {s : σ} (e : r.bind k = .ok b s) : ∃ a s', r = .ok a s' ∧ k a s' = .ok b s := by
  cases r with
  | ok a s' => exact ⟨a, s', rfl, e⟩
  | ex _ _ _ => cases e
  | no => cases e
theorem evXs_len {G : List CV} {C : Orc} : ∀ {ys : List X} {cs cs' : Cells} {vs : List CV}, evXs G C ys loc cs = .ok vs cs' → vs.length = ys.length
  | [], _, _, _, e => by cases e; rfl
  | _ :: _, _, _, _, e => by
    obtain ⟨_, _, _, e⟩ := bind_is e
    obtain ⟨_, _, e1, e⟩ := bind_is e
    cases e
    exact congrArg Nat.succ (evXs_len e1)
/-- what a Post says, with the fact of the answer at hand -/
theorem Post.withEq {D : Gd} {α : Type} {r : Res Cells α} {K : α → Cells → List Addr → Shared → Prop} (p : Post D x σ s E r K) : Post D x σ s E r (fun a cs σ' s' => r = .ok a cs ∧ K a cs σ' s') := by
  cases r with
  | ok a cs => exact fun σ' s' W S => ⟨rfl, p σ' s' W S⟩
  | ex _ _ _ => exact p
  | no => exact p
/-- a display's parts -/
theorem parts_ok {ys : List X} {es : List Expr} {f : List CV → Cells → Res Cells CV} {m : List Value → Sem Value} (h : (mEs L.N c ys es && decide (ys.length ≤ 1000)) = true) (hy : ∀ y ∈ ys, Snd L y) (pos : Pos)
    (op : ∀ {cs σ s vs vals Q E}, At L c x loc cs σ s → Rps L.D s.heap σ x.F vals vs → vs.length ≤ 100000 → Post L.D x σ s E (f vs cs) (KV L.D x.F Q) → wpAny (model L.D.prog L.D.w) x.A (m vals) Q E s)
    (a : At L c x loc cs σ s) (p : Post L.D x σ s E ((evXs L.G L.C ys loc cs).bind f) (KV L.D x.F Q)) :
    wpAny (model L.D.prog L.D.w) x.A (spliced (backTo pos (starEach es x.env))) (fun vals s₁ => wpAny (model L.D.prog L.D.w) x.A (m vals) Q E s₁) E s :=
  spliced_ok (and_tt h).1 pos hy a ((Post.bind p).withEq.mono fun vs cs₁ σ₁ s₁ W S ⟨e, p⟩ vals rs => op (a.go W S) rs (Nat.le_trans (evXs_len e ▸ of_decide_eq_true (and_tt h).2) (by decide)) p)

theorem Snd.tup {ys : List X} (hy : ∀ y ∈ ys, Snd L y) : Snd L (.tup ys) := fun c e h => onTuple_is (P := fun e => Val L c (.tup ys) e ∧ Tst L c (.tup ys) e) h fun es k pos h =>
  val_tst (fun a Q E p => Tuple_ (parts_ok h hy pos (fun a r l p => newTuple_ok a r l p) a p)) fun _ _ => rfl
theorem Snd.ilst {ys : List X} (hy : ∀ y ∈ ys, Snd L y) : Snd L (.ilst ys) := fun c e h => onList_is (P := fun e => Val L c (.ilst ys) e ∧ Tst L c (.ilst ys) e) h fun es pos h =>
  val_tst (fun a Q E p => List_ (parts_ok h hy pos (fun a r l p => newList_ok a r l p) a p)) fun _ _ => rfl

/-- what a new list is that may change -/
theorem made_ok (a : At L c x loc cs σ s) {vs : List Value} {xs : List CV} (r : Rps L.D s.heap σ x.F vs xs) (p : Post L.D x σ s E (fresh cs xs) (KV L.D x.F Q)) {h' : Heap} {n : Nat} (k : ∀ a o, s.heap.get? a = some o → h'.get? a = some o) (e : h'.get? s.heap.objs.size = some (listOf vs.toArray n)) (tk : Nat) :
    Q (.ref s.heap.objs.size) { s with heap := h', toks := tk } :=
  Post.to p (a.wd.cell a.eo.loc k _ ⟨vs, n, e, r.step (Step.cell k)⟩) (Step.cell k) (.lst (last_cell a.wd.len)) tk
/-- a new list that is a cell -/
theorem newCell_ok (a : At L c x loc cs σ s) {vs : List Value} {xs : List CV} (r : Rps L.D s.heap σ x.F vs xs) (hz : xs.length ≤ 100000) (p : Post L.D x σ s E (fresh cs xs) (KV L.D x.F Q)) : wpAny (model L.D.prog L.D.w) x.A (newList vs) Q E s :=
  wpAny_newObj_type (made_ok a r p (fun _ _ e => Heap.get?_push_of_some _ e) (Heap.get?_push_size _ rfl) _) (small_ok r.length hz)
theorem Snd.lst {ys : List X} (hy : ∀ y ∈ ys, Snd L y) : Snd L (.lst ys) := fun c e h => onList_is (P := fun e => Val L c (.lst ys) e ∧ Tst L c (.lst ys) e) h fun es pos h =>
  val_tst (fun a Q E p => List_ (parts_ok h hy pos (fun a r l p => newCell_ok a r l p) a p)) fun _ _ => rfl

theorem cmp_is {op : CmpOp} {v w : CV} {D : Gd} {K : CV → Cells → List Addr → Shared → Prop} {P : Prop} (p : Post D x σ s E (.ofOpt ((cmpOp cs op v w).map .bool) cs) K) (k : ∀ t, cmpOp cs op v w = some t → Post D x σ s E (.ok (.bool t) cs) K → P) : P :=
  Post.opt p fun z e p => by
    obtain ⟨t, e1, rfl⟩ := Option.map_eq_some_iff.mp e
    exact k t e1 p
theorem Snd.cmp (op : CmpOp) {y z : X} (hy : Snd L y) (hz : Snd L z) : Snd L (.cmp op y z) := fun c e h => onCompare_is (P := fun e => Val L c (.cmp op y z) e ∧ Tst L c (.cmp op y z) e) h fun l ops rs pos h =>
  on1_is (P := fun ops => Val L c (.cmp op y z) (.Compare l ops rs pos) ∧ Tst L c (.cmp op y z) (.Compare l ops rs pos)) h fun op' h => on1_is (P := fun rs => Val L c (.cmp op y z) (.Compare l [op'] rs pos) ∧ Tst L c (.cmp op y z) (.Compare l [op'] rs pos)) h fun r h => by
    cases eq_of_beq (and_tt h).1
    have h := (and_tt h).2
    have h3 := (Bool.not_eq_true' _).mp (and_tt (and_tt h).2).2
    exact ⟨fun a Q E p => wpAny_Compare1 (two_ok (hy (and_tt h).1).1 (hz (and_tt (and_tt h).2).1).1 (fun a ra rb Q E p => cmp_is p fun t e p => cmp_ok a ra rb e Q E fun tk => p.here a (.bool t) tk) a p) h3,
      fun a Q E p => wpAny_isTrue_Compare1 (Val.and (hy (and_tt h).1).1 a p fun v cs₁ σ₁ s₁ a₁ S₁ p va ra => Val.and (hz (and_tt (and_tt h).2).1).1 a₁ p fun w cs₂ σ₂ s₂ a₂ S₂ p vb rb =>
        cmp_is p fun t e p => cmp_ok a₂ (ra.step S₂.st) rb e _ E fun tk => wpAny_truthy_bool (p.yes a₂ tk)) h3⟩

theorem Snd.sub {y z : X} (hy : Snd L y) (hz : Snd L z) : Snd L (.sub y z) := fun c e h => onSubscript_is (P := fun e => Val L c (.sub y z) e ∧ Tst L c (.sub y z) e) h fun e f pos h =>
  val_tst (fun a Q E p => Subscript_ (two_ok (hy (and_tt h).1).1 (hz (and_tt (and_tt h).2).1).1 (fun a ra rb => opt_ok fun e p => sub_ok a ((Bool.not_eq_true' _).mp (and_tt (and_tt h).2).2) ra rb e p) a p)) fun _ _ => rfl
end
end Mine
end

section
open PySem PySem.W PyProof.Rows PySem.Spec PySem.Calls
namespace Mine
theorem bop_step {M : Model} {A : Around} {env : Env} {E : Value → Shared → Prop} {s : Shared} {op : BoolOp} {i : Bool} (ho : (op == .And) = i) {e₁ e₂ : Expr} {rest : List Expr} {pos : Pos} {Q : Value → Shared → Prop}
    (h : wpAny M A (eval e₁ env) (fun v s₁ => wpAny M A (truthy v) (fun t s₂ => if t = i then wpAny M A (eval (.BoolOp op (e₂ :: rest) pos) env) Q E s₂ else Q v s₂) E s₁) E s) : wpAny M A (eval (.BoolOp op (e₁ :: e₂ :: rest) pos) env) Q E s := by
  cases ho
  cases op with
  | And => exact BoolOp_and h
  | Or => exact BoolOp_or (wpAny_mono h (fun v s₁ q => wpAny_mono q (fun t s₂ q => match t, q with
    | true, q => q
    | false, q => q) fun _ _ x => x) fun _ _ x => x)
theorem bot_step {M : Model} {A : Around} {env : Env} {E : Value → Shared → Prop} {s : Shared} {op : BoolOp} {i : Bool} (ho : (op == .And) = i) {e : Expr} {rest : List Expr} {pos : Pos} {whole : Sem Value} {Q : Bool → Shared → Prop}
    (h : wpAny M A (isTrue e env (eval e env)) (fun t s₁ => if t = i then wpAny M A (isTrue (.BoolOp op rest pos) env whole) Q E s₁ else Q t s₁) E s) : wpAny M A (isTrue (.BoolOp op (e :: rest) pos) env whole) Q E s := by
  cases ho
  cases op with
  | And => exact isTrue_and (wpAny_mono h (fun t s₂ q => match t, q with
    | true, q => q
    | false, q => q) fun _ _ x => x)
  | Or => exact isTrue_or (wpAny_mono h (fun t s₂ q => match t, q with
    | true, q => q
    | false, q => q) fun _ _ x => x)
theorem bot_end {M : Model} {A : Around} {env : Env} {E : Value → Shared → Prop} {s : Shared} {op : BoolOp} {i : Bool} (ho : (op == .And) = i) {pos : Pos} {whole : Sem Value} {Q : Bool → Shared → Prop} (h : Q i s) : wpAny M A (isTrue (.BoolOp op [] pos) env whole) Q E s := by
  cases ho
  cases op with
  | And => exact isTrue_and_nil h
  | Or => exact isTrue_or_nil h
section
variable {L : Lng} {c : Sc} {x : Cx} {loc : Loc} {cs : Cells} {σ : List Addr} {s : Shared} {E : Value → Shared → Prop}
theorem none_es {es : List Expr} (h : mEs L.N c [] es = true) : es = [] := List.length_eq_zero_iff.mp (mEs_len h)
theorem more_es {y : X} {ys : List X} {es : List Expr} {P : List Expr → Prop} (h : mEs L.N c (y :: ys) es = true) (k : ∀ e es, P (e :: es)) : P es := match es, h with
  | [], h => (ff_tt h).elim
  | e :: es, _ => k e es

theorem bop_val {isAnd : Bool} {op : BoolOp} (ho : (op == .And) = isAnd) (pos : Pos) {ys : List X} {es : List Expr} (hm : mEs L.N c ys es = true) : (∀ y ∈ ys, Snd L y) → ∀ {cs σ s Q}, At L c x loc cs σ s → Post L.D x σ s E (evB L.G L.C isAnd ys loc cs) (KV L.D x.F Q) →
    wpAny (model L.D.prog L.D.w) x.A (eval (.BoolOp op es pos) x.env) Q E s := by
  refine mEs_ind (P := fun ys es => (∀ y ∈ ys, Snd L y) → ∀ {cs σ s Q}, At L c x loc cs σ s → Post L.D x σ s E (evB L.G L.C isAnd ys loc cs) (KV L.D x.F Q) → wpAny (model L.D.prog L.D.w) x.A (eval (.BoolOp op es pos) x.env) Q E s) (fun _ _ _ _ _ _ p => p.elim) (fun {y ys e es} h1 h2 ih => ?_) hm
  intro hy cs σ s Q a p
  cases ys with
  | nil => cases none_es h2; exact BoolOp_one ((hy _ List.mem_cons_self h1).1 a Q E p)
  | cons z ys =>
    have ih := fun {cs σ s Q} => ih (fun y m => hy y (List.mem_cons_of_mem _ m)) (cs := cs) (σ := σ) (s := s) (Q := Q)
    refine more_es (P := fun es => (∀ {cs σ s Q}, At L c x loc cs σ s → Post L.D x σ s E (evB L.G L.C isAnd (z :: ys) loc cs) (KV L.D x.F Q) → wpAny (model L.D.prog L.D.w) x.A (eval (.BoolOp op es pos) x.env) Q E s) → wpAny (model L.D.prog L.D.w) x.A (eval (.BoolOp op (e :: es) pos) x.env) Q E s) h2 (fun e₂ es ih => ?_) ih
    refine bop_step ho (Val.and (hy _ List.mem_cons_self h1).1 a p fun v cs₁ σ₁ s₁ a₁ S₁ p va ra => ?_)
    refine Post.bool (P := fun v => RpA L x σ₁ s₁ va v → wpAny (model L.D.prog L.D.w) x.A (truthy va) (fun t s₂ => if t = isAnd then wpAny (model L.D.prog L.D.w) x.A (eval (.BoolOp op (e₂ :: es) pos) x.env) Q E s₂ else Q va s₂) E s₁) p (fun t p ra => ?_) ra
    cases (ra.view : va = .bool t)
    refine wpAny_truthy_bool ?_
    by_cases ht : t = isAnd
    · rw [if_pos ht] at p ⊢; exact ih a₁ p
    · rw [if_neg ht] at p ⊢; exact p.now a₁ (.bool _)
theorem bop_tst {isAnd : Bool} {op : BoolOp} (ho : (op == .And) = isAnd) (pos : Pos) {whole : Sem Value} {ys : List X} {es : List Expr} (hm : mEs L.N c ys es = true) : (∀ y ∈ ys, Snd L y) → ∀ {cs σ s Q}, At L c x loc cs σ s → Post L.D x σ s E (evB L.G L.C isAnd ys loc cs) (KB Q) →
    wpAny (model L.D.prog L.D.w) x.A (isTrue (.BoolOp op es pos) x.env whole) Q E s := by
  refine mEs_ind (P := fun ys es => (∀ y ∈ ys, Snd L y) → ∀ {cs σ s Q}, At L c x loc cs σ s → Post L.D x σ s E (evB L.G L.C isAnd ys loc cs) (KB Q) → wpAny (model L.D.prog L.D.w) x.A (isTrue (.BoolOp op es pos) x.env whole) Q E s) (fun _ _ _ _ _ _ p => p.elim) (fun {y ys e es} h1 h2 ih => ?_) hm
  intro hy cs σ s Q a p
  refine bot_step ho ?_
  cases ys with
  | nil =>
    cases none_es h2
    refine wpAny_mono ((hy _ List.mem_cons_self h1).2 a Q E p) (fun t s₁ q => ?_) fun _ _ x => x
    by_cases ht : t = isAnd
    · rw [if_pos ht]; exact bot_end ho (ht ▸ q)
    · rw [if_neg ht]; exact q
  | cons z ys =>
    have ih := fun {cs σ s Q} => ih (fun y m => hy y (List.mem_cons_of_mem _ m)) (cs := cs) (σ := σ) (s := s) (Q := Q)
    refine Tst.and (hy _ List.mem_cons_self h1).2 (k := fun t cs => if t = isAnd then evB L.G L.C isAnd (z :: ys) loc cs else .ok (.bool t) cs) a p fun t cs₁ σ₁ s₁ a₁ S₁ p => ?_
    by_cases ht : t = isAnd
    · rw [if_pos ht] at p ⊢; exact ih a₁ p
    · rw [if_neg ht] at p ⊢; exact p.yes a₁ s₁.toks

theorem Snd.bop (isAnd : Bool) {ys : List X} (hy : ∀ y ∈ ys, Snd L y) : Snd L (.bop isAnd ys) := fun c e h => onBoolOp_is (P := fun e => Val L c (.bop isAnd ys) e ∧ Tst L c (.bop isAnd ys) e) h fun op vs pos h =>
  ⟨fun a Q E p => bop_val (eq_of_beq (and_tt h).1) pos (and_tt h).2 hy a p, fun a Q E p => bop_tst (eq_of_beq (and_tt h).1) pos (and_tt h).2 hy a p⟩
end
end Mine
end

section
open PySem PySem.W PyProof.Rows PySem.Spec PySem.Calls
namespace Mine
section
variable {D : Gd} {envs : List Env} {F σ : List Addr} {cs : Cells}
/-- a cell's object and a frame's own storage change; the frame's names stand -/
theorem Step.updL {h h' : Heap} {c : Nat} {a L : Addr} {m : Str → Option Value} (W : Wd D envs F σ cs h) (hc : σ[c]? = some a) (hL : L ∈ F) (k : ∀ b o, h.get? b = some o → b ≠ L → b ≠ a → h'.get? b = some o) (n : h.Ns L m) (n' : h'.Ns L m) : Step F σ h σ h' := by
  have ha : a ∈ σ := List.mem_of_getElem? hc
  have hk : ∀ L' ∈ F, L' ≠ L → ∀ o, h.get? L' = some o → h'.get? L' = some o := fun L' hL' e o q => k _ _ q e fun z => W.apart a ha (z ▸ hL')
  refine ⟨List.prefix_refl _, fun _ hb hn => absurd hb hn, fun b o e n1 n2 => k b o e (fun q => n2 (q ▸ hL)) fun q => n1 (q ▸ ha), fun L' hL' m' q => ?_, fun L' hL' o q => ?_⟩
  · by_cases e : L' = L
    · subst e; rw [ns_one q n]; exact n'
    · obtain ⟨o, es, ep, q1, q2⟩ := q; exact ⟨o, es, ep, hk _ hL' e _ q1, q2⟩
  · by_cases e : L' = L
    · subst e; exact frm_ns n n' q
    · exact ⟨o, hk _ hL' e _ q, .inl rfl⟩
theorem nodup_ix {α : Type} {l : List α} (hn : l.Nodup) {i j : Nat} {a : α} (h1 : l[i]? = some a) (h2 : l[j]? = some a) : i = j :=
  (List.getElem_inj hn).mp ((List.getElem?_eq_some_iff.mp h1).2.trans (List.getElem?_eq_some_iff.mp h2).2.symm)
theorem Wd.updL {h h' : Heap} {c : Nat} {a L : Addr} {m : Str → Option Value} (W : Wd D envs F σ cs h) (hc : σ[c]? = some a) (hL : L ∈ F) (k : ∀ b o, h.get? b = some o → b ≠ L → b ≠ a → h'.get? b = some o) (n : h.Ns L m) (n' : h'.Ns L m)
    {x : Cell} (ca : CellAt D h' σ F a x) : Wd D envs F σ (cs.set c x) h' := by
  have S := Step.updL W hc hL k n n'
  refine ⟨fun b o e => S.keep b o (W.base b o e) (fun m => absurd (Heap.lt_size e) (Nat.not_lt.mpr (W.new b m))) (fun m => absurd (Heap.lt_size e) (Nat.not_lt.mpr (W.newF b m))), W.len.trans List.length_set.symm, W.nd, W.new, W.apart, W.newF,
    fun d b y e1 e2 => ?_, W.frs.step S W.inF, W.inF, fun b m => S.fro b m (W.exF b m)⟩
  by_cases q : d = c
  · subst q
    cases hc.symm.trans e1
    rw [List.getElem?_set_self (W.len ▸ (List.getElem?_eq_some_iff.mp hc).1)] at e2
    cases e2; exact ca
  · rw [List.getElem?_set_ne (Ne.symm q)] at e2
    exact (W.cells d b y e1 e2).step S fun o e => k b o e (fun z => W.apart b (List.mem_of_getElem? e1) (z ▸ hL)) fun z => q (nodup_ix W.nd (z ▸ e1) hc)
end
section
variable {L : Lng} {c : Sc} {x : Cx} {loc : Loc} {cs : Cells} {σ : List Addr} {s : Shared} {E : Value → Shared → Prop} {Q : Value → Shared → Prop}
/-- a cell's object changes -/
theorem At.upd (a : At L c x loc cs σ s) {i : Nat} {d : Addr} {h' : Heap} (hc : σ[i]? = some d) (hs : Heap.SameBut d s.heap h') {y : Cell} (ca : Step x.F σ s.heap σ h' → CellAt L.D h' σ x.F d y) : Wd L.D x.envs x.F σ (cs.set i y) h' ∧ Step x.F σ s.heap σ h' := by
  obtain ⟨m, n⟩ := a.ns
  have ne : x.env.locals ≠ d := fun z => a.wd.apart d (List.mem_of_getElem? hc) (z ▸ a.eo.loc)
  have n' : h'.Ns x.env.locals m := let ⟨o, es, ep, e, q⟩ := n; ⟨o, es, ep, (hs.2 _ ne).trans e, q⟩
  have k : ∀ b o, s.heap.get? b = some o → b ≠ x.env.locals → b ≠ d → h'.get? b = some o := fun b o e _ z => (hs.2 b z).trans e
  have S := Step.updL a.wd hc a.eo.loc k n n'
  exact ⟨a.wd.updL hc a.eo.loc k n n' (ca S), S⟩
theorem blt_name (Z : Fx L) (a : At L c x loc cs σ s) {n : Str} {p : Pos} {v : Value} (hk : c.kd n = some .globalImplicit) (hd : (n == ("__debug__" : Str)) = false) (hm : (n, v) ∈ bltRows) (h : Q v s) : wpAny (model L.D.prog L.D.w) x.A (eval (.Name n p) x.env) Q E s :=
  Name_function_global a.eo.kind ((a.eo.kd n).trans hk) (loadGlobal_builtin (mg := L.mg) (mb := L.mb) (a.eo.glob ▸ Z.g.keeps a.wd.base) (Z.bl n v hm).1 (a.eo.blt ▸ Z.b.keeps a.wd.base) (Z.bl n v hm).2 h) hd

/-- the call of a built-in function or class by its name, with one part -/
noncomputable def Callee (v : Value) : Prop := ∀ {M A E s pos t Q}, wpAny M A t (fun w s₁ => wpAny M A (call v [w]) Q E s₁) E s → wpAny M A (callWith pos v [] [(false, t)] []) Q E s
theorem callee_b {i : String} : Callee (.builtin i) := fun h => PySem.callWith_builtin1 h
theorem callee_t {i : String} : Callee (.type i) := fun h => PySem.callWith_type1 h
theorem blt_call1 (Z : Fx L) {n : Str} {v : Value} (hm : (n, v) ∈ bltRows) (hv : Callee v) (a : At L c x loc cs σ s) {np pos : Pos} {e : Expr} (hk : c.kd n = some .globalImplicit) (hd : (n == ("__debug__" : Str)) = false) (hs : isStar e = false)
    (h : wpAny (model L.D.prog L.D.w) x.A (eval e x.env) (fun w s₁ => wpAny (model L.D.prog L.D.w) x.A (call v [w]) Q E s₁) E s) : wpAny (model L.D.prog L.D.w) x.A (eval (.Call (.Name n np) [e] [] pos) x.env) Q E s :=
  Call_Name1 (blt_name Z a hk hd hm (hv h)) (star_of hs [] x.env)
theorem Snd.blt1 (Z : Fx L) {n : Str} {v : Value} (hm : (n, v) ∈ bltRows) (hv : Callee v) {y z : X} (hy : Snd L y) {f : CV → Cells → Res Cells CV} (hz : ∀ c e, mE L.N c z e = onBlt c.kd n e fun es => on1 es fun e => mE L.N c y e) (he : ∀ loc cs, evX L.G L.C z loc cs = (evX L.G L.C y loc cs).bind f)
    (op : ∀ {c x loc cs σ s w va}, At L c x loc cs σ s → RpA L x σ s va w → Does L x σ s (call v [va]) (f w cs)) : Snd L z := fun c e h =>
  onBlt_is (P := fun e => Val L c z e ∧ Tst L c z e) (hz c e ▸ h) fun np es pos h1 h2 h => on1_is (P := fun es => Val L c z (.Call (.Name n np) es [] pos) ∧ Tst L c z (.Call (.Name n np) es [] pos)) h fun e h =>
    val_tst (fun a Q E p => blt_call1 Z hm hv a h1 h2 (notStar h) (one_ok (hy h).1 (fun a r => op a r) a (he _ _ ▸ p))) fun _ _ => rfl

theorem sized_is {n : Nat} {z : CV} (e : sized n = some z) : n ≤ 100000 ∧ CV.int n = z := ofIf_is e
theorem fit63 {n : Nat} (h : n ≤ 100000) : (n : Int) < 2 ^ 63 := Int.lt_of_le_of_lt (Int.ofNat_le.mpr h) (by decide)
theorem len_seq (a : At L c x loc cs σ s) {vs : List Value} {xs : List CV} {z : CV} {va : Value} (r : Rps L.D s.heap σ x.F vs xs) (e : sized xs.length = some z) (p : Post L.D x σ s E (.ok z cs) (KV L.D x.F Q))
    (k : (vs.toArray.size : Int) < 2 ^ 63 → Q (.int vs.toArray.size (s.toks + 1)) { s with toks := s.toks + 1 + 1 } → wpAny (model L.D.prog L.D.w) x.A (call (.builtin "len") [va]) Q E s) : wpAny (model L.D.prog L.D.w) x.A (call (.builtin "len") [va]) Q E s := by
  obtain ⟨q, rfl⟩ := sized_is e
  rw [List.size_toArray, r.length] at k
  exact k (fit63 q) (p.here a (.int _ _) _)
theorem len_ok (a : At L c x loc cs σ s) {va : Value} {w : CV} (ra : RpA L x σ s va w) : Does L x σ s (call (.builtin "len") [va]) (.ofOpt (lenOp cs w) cs) := opt_ok fun {Q E z} e p => by
  cases w with
  | str u =>
    obtain ⟨t, rfl⟩ := ra.view
    obtain ⟨q, rfl⟩ := sized_is e
    exact P.len_str (by rw [tx_len]; exact Int.not_le.mpr (fit63 q)) (by rw [tx_len]; exact p.here a (.int _ _) _)
  | tup xs =>
    obtain ⟨d, vs, rfl, hT, _, _, r⟩ := ra.view
    exact len_seq a r e p fun h q => len_tuple hT h q
  | ils xs =>
    obtain ⟨d, vs, rfl, hT, _, _, r⟩ := ra.view
    exact len_seq a r e p fun h q => len_list hT h q
  | lst i =>
    obtain ⟨d, rfl, hc⟩ := ra.view
    obtain ⟨xs, ex, e⟩ := Option.bind_eq_some_iff.mp e
    obtain ⟨vs, n, eo, r⟩ := cell_list a.wd hc ex
    exact len_seq a r e p fun h q => len_list ⟨_, eo, rfl, n, rfl⟩ h q
  | _ => exact (none_some e).elim
theorem blt_mem {n : Nat} {p : Str × Value} (h : bltRows[n]? = some p) : p ∈ bltRows := List.mem_of_getElem? h
theorem Snd.len (Z : Fx L) {y : X} (hy : Snd L y) : Snd L (.len y) := Snd.blt1 Z (blt_mem (n := 0) rfl) callee_b hy (fun _ _ => rfl) (fun _ _ => rfl) fun a r => len_ok a r

theorem strInt_all : (List.range 100).all (fun n => CV.beq ((strInt n).getD .none) (.str (Str.ofString (toString (n : Int))).cps.toList)) = true := by decide +kernel
theorem strInt_lt {i : Int} {z : CV} (e : strInt i = some z) : 0 ≤ i ∧ i < 100 := by
  unfold strInt at e
  by_cases q : 0 ≤ i ∧ i < 10
  · exact ⟨q.1, Int.lt_trans q.2 (by decide)⟩
  · rw [if_neg q] at e; exact ⟨Int.le_trans (by decide) (ofIf_is e).1.1, (ofIf_is e).1.2⟩
theorem strInt_is {i : Int} {z : CV} (e : strInt i = some z) : z = .str (Str.ofString (toString i)).cps.toList ∧ i.natAbs < 100 := by
  obtain ⟨h0, h1⟩ := strInt_lt e
  obtain ⟨n, rfl⟩ := Int.eq_ofNat_of_zero_le h0
  have h1 := Int.ofNat_lt.mp h1
  have k := CV.beq_is _ _ (List.all_eq_true.mp strInt_all n (List.mem_range.mpr h1))
  rw [e] at k
  exact ⟨k, h1⟩
theorem str_ok (a : At L c x loc cs σ s) {va : Value} {w : CV} (ra : RpA L x σ s va w) : Does L x σ s (call (.type "str") [va]) (.ofOpt (strOf w) cs) := opt_ok fun {Q E z} e p => by
  obtain ⟨i, rfl, e⟩ := CV.onInt_is none_some e
  obtain ⟨t, rfl⟩ := ra.view
  obtain ⟨rfl, h⟩ := strInt_is e
  exact P.str_of_int (Nat.lt_of_le_of_lt (Nat.log2_le_self _) (Nat.lt_trans h (by decide))) (p.here a (rp_str _ _) _)
theorem Snd.strof (Z : Fx L) {y : X} (hy : Snd L y) : Snd L (.strof y) := Snd.blt1 Z (blt_mem (n := 5) rfl) callee_t hy (fun _ _ => rfl) (fun _ _ => rfl) fun a r => str_ok a r

theorem intStr_is {u : List Nat} {z : CV} (e : intStr u = some z) : ∃ i, z = .int i ∧ PySem.intText? (tx u) = some i ∧ u.length ≤ 640 := by
  unfold intStr at e
  by_cases q : u = [48, 49]
  · rw [if_pos q] at e; cases q; cases e; exact ⟨1, rfl, by decide +kernel, by decide⟩
  · rw [if_neg q] at e
    by_cases q : u = [48]
    · rw [if_pos q] at e; cases q; cases e; exact ⟨0, rfl, by decide +kernel, by decide⟩
    · rw [if_neg q] at e
      obtain ⟨rfl, rfl⟩ := ofIf_is e
      exact ⟨7, rfl, by decide +kernel, by decide⟩
theorem int_ok (a : At L c x loc cs σ s) {va : Value} {w : CV} (ra : RpA L x σ s va w) : Does L x σ s (call (.type "int") [va]) (.ofOpt (intOf w) cs) := opt_ok fun {Q E z} e p => by
  obtain ⟨u, rfl, e⟩ := CV.onStr_is none_some e
  obtain ⟨t, rfl⟩ := ra.view
  obtain ⟨i, rfl, e2, e3⟩ := intStr_is e
  exact KIN.call_text e2 (by rw [tx_len]; exact e3) (p.here a (.int _ _) _)
theorem Snd.intof (Z : Fx L) {y : X} (hy : Snd L y) : Snd L (.intof y) := Snd.blt1 Z (blt_mem (n := 6) rfl) callee_t hy (fun _ _ => rfl) (fun _ _ => rfl) fun a r => int_ok a r

theorem Post.room {D : Gd} {i : Nat} {f : List CV → Res Cells CV} {K : CV → Cells → List Addr → Shared → Prop} {P : Prop} (p : Post D x σ s E (room cs i f) K) (k : ∀ xs, listAt cs i = some xs → xs.length ≤ 100000 → Post D x σ s E (f xs) K → P) : P := by
  unfold Mine.room at p
  cases e : listAt cs i with
  | none => rw [e] at p; exact p.elim
  | some xs => rw [e] at p; exact Post.ite p fun h p => k xs e h p
theorem tup_ok (a : At L c x loc cs σ s) {va : Value} {w : CV} (ra : RpA L x σ s va w) : Does L x σ s (call (.type "tuple") [va]) (w.onLst .no fun i => room cs i fun xs => .ok (.tup xs) cs) := fun Q E p =>
  Post.lst (P := fun w => RpA L x σ s va w → wpAny (model L.D.prog L.D.w) x.A (call (.type "tuple") [va]) Q E s) p (fun i p ra => by
    obtain ⟨d, rfl, hc⟩ := ra.view
    exact Post.room p fun xs ex hl p => by
      obtain ⟨vs, n, eo, r⟩ := cell_list a.wd hc ex
      refine call_tuple_list (items := vs.toArray) ⟨_, eo, rfl, n, rfl⟩ (fun h' k => ?_) (small_ok r.length hl)
      have k' : ∀ a o, s.heap.get? a = some o → (h'.push { cls := .type "tuple", data := .seq vs.toArray }).get? a = some o := fun a o e => Heap.get?_push_of_some _ (k a o e)
      exact p.to (a.wd.all k') (Step.all k') (.tup ⟨_, Heap.get?_push_size _ rfl, rfl, 0, rfl⟩ (a.wd.all k).notσ (a.wd.all k).notF (r.step (Step.all k'))) _) ra
theorem Snd.tupof (Z : Fx L) {y : X} (hy : Snd L y) : Snd L (.tupof y) := Snd.blt1 Z (blt_mem (n := 4) rfl) callee_t hy (fun _ _ => rfl) (fun _ _ => rfl) fun a r => tup_ok a r

theorem copy_ok (a : At L c x loc cs σ s) {d : Addr} {vs : List Value} {xs : List CV} (hT : s.heap.IsList d vs.toArray) (r : Rps L.D s.heap σ x.F vs xs) (hz : xs.length ≤ 100000) (p : Post L.D x σ s E (fresh cs xs) (KV L.D x.F Q)) : wpAny (model L.D.prog L.D.w) x.A (call (.type "list") [.ref d]) Q E s := by
  obtain ⟨o, eo, hc, n, hd⟩ := hT
  exact call_list_seq _ (.inl rfl) eo hc hd (fun h' c' k e => made_ok a r p k e _) (small_ok r.length hz)
theorem lst_ok (a : At L c x loc cs σ s) {va : Value} {w : CV} (ra : RpA L x σ s va w) : Does L x σ s (call (.type "list") [va]) (match (generalizing := false) w with
    | .ils xs => if xs.length ≤ 100000 then fresh cs xs else .no
    | .lst c => room cs c fun xs => fresh cs xs
    | _ => .no) := fun Q E p => by
  cases w with
  | ils xs =>
    obtain ⟨d, vs, rfl, hT, _, _, r⟩ := ra.view
    exact Post.ite p fun h p => copy_ok a hT r h p
  | lst i =>
    obtain ⟨d, rfl, hc⟩ := ra.view
    exact Post.room p fun xs ex hl p => by
      obtain ⟨vs, n, eo, r⟩ := cell_list a.wd hc ex
      exact copy_ok a ⟨_, eo, rfl, n, rfl⟩ r hl p
  | _ => exact p.elim
theorem Snd.lstof (Z : Fx L) {y : X} (hy : Snd L y) : Snd L (.lstof y) := Snd.blt1 Z (blt_mem (n := 3) rfl) callee_t hy (fun _ _ => rfl) (fun _ _ => rfl) fun a r => lst_ok a r

/-- with two parts -/
theorem Snd.blt2 (Z : Fx L) {n : Str} {i : String} (hm : (n, .builtin i) ∈ bltRows) {y z w : X} (hy : Snd L y) (hz : Snd L z) {f : CV → CV → Cells → Res Cells CV} (hw : ∀ c e, mE L.N c w e = onBlt c.kd n e fun es => on2 es fun e g => mE L.N c y e && mE L.N c z g)
    (he : ∀ loc cs, evX L.G L.C w loc cs = (evX L.G L.C y loc cs).bind fun u cs => (evX L.G L.C z loc cs).bind fun v cs => f u v cs)
    (op : ∀ {c x loc cs σ s u v va vb}, At L c x loc cs σ s → RpA L x σ s va u → RpA L x σ s vb v → Does L x σ s (call (.builtin i) [va, vb]) (f u v cs)) : Snd L w := fun c e h =>
  onBlt_is (P := fun e => Val L c w e ∧ Tst L c w e) (hw c e ▸ h) fun np es pos h1 h2 h => on2_is (P := fun es => Val L c w (.Call (.Name n np) es [] pos) ∧ Tst L c w (.Call (.Name n np) es [] pos)) h fun e g h =>
    val_tst (fun {x loc cs σ s} a Q E p => Call_Name2 (blt_name Z a h1 h2 hm (Calls.callWith_builtin rfl (Calls.evalArgs_plain (Calls.spliced_cons (wpAny_mono (two_ok (hy (and_tt h).1).1 (hz (and_tt h).2).1 (fun a ra rb => op a ra rb) a (he _ _ ▸ p))
      (fun _ _ q => Calls.spliced_cons (wpAny_mono q (fun _ _ q => Calls.spliced_nil q) fun _ _ x => x)) fun _ _ x => x)))))
      ((star_of (notStar (and_tt h).1) [g] x.env).trans (congrArg ((false, eval e x.env) :: ·) (star_of (notStar (and_tt h).2) [] x.env)))) fun _ _ => rfl
/-- the smaller or the greater of two -/
theorem pick_ok (a : At L c x loc cs σ s) {u v : CV} {va vb : Value} {f : Int → Int → CV} {n : String} (ra : RpA L x σ s va u) (rb : RpA L x σ s vb v)
    (k : ∀ i j t t' Q E, (∀ h' tk, (∀ c o, s.heap.get? c = some o → h'.get? c = some o) → ∀ w, Rp L.D h' σ x.F w (f i j) → Q w { s with heap := h', toks := tk }) → wpAny (model L.D.prog L.D.w) x.A (call (.builtin n) [.int i t, .int j t']) Q E s) :
    Does L x σ s (call (.builtin n) [va, vb]) (u.onInt .no fun i => v.onInt .no fun j => .ok (f i j) cs) := fun Q E p =>
  Post.int (P := fun u => RpA L x σ s va u → wpAny (model L.D.prog L.D.w) x.A (call (.builtin n) [va, vb]) Q E s) p (fun i p ra => Post.int (P := fun v => RpA L x σ s vb v → wpAny (model L.D.prog L.D.w) x.A (call (.builtin n) [va, vb]) Q E s) p (fun j p rb => by
    obtain ⟨t, rfl⟩ := ra.view
    obtain ⟨t', rfl⟩ := rb.view
    exact k i j t t' Q E fun h' tk kk w r => p.to (a.wd.all kk) (Step.all kk) r tk) rb) ra
theorem rp_if {D : Gd} {h : Heap} {σ F : List Addr} {i j : Int} {t t' : Tok} {b : Bool} {q : Prop} [Decidable q] (e : b = decide q) : Rp D h σ F (if b then .int j t' else .int i t) (.int (if q then j else i)) := by
  subst e
  by_cases z : q
  · rw [if_pos (decide_eq_true z), if_pos z]; exact .int _ _
  · rw [if_neg (fun e => z (of_decide_eq_true e)), if_neg z]; exact .int _ _
theorem Snd.min (Z : Fx L) {y z : X} (hy : Snd L y) (hz : Snd L z) : Snd L (.min y z) := Snd.blt2 Z (blt_mem (n := 1) rfl) hy hz (fun _ _ => rfl) (fun _ _ => rfl) fun a ra rb =>
  pick_ok a ra rb fun i j t t' Q E q => Flt.min_two_num a.room.handled (.int _ _) (.int _ _) fun h' tk k => q h' tk k _ (rp_if rfl)
theorem Snd.max (Z : Fx L) {y z : X} (hy : Snd L y) (hz : Snd L z) : Snd L (.max y z) := Snd.blt2 Z (blt_mem (n := 2) rfl) hy hz (fun _ _ => rfl) (fun _ _ => rfl) fun a ra rb =>
  pick_ok a ra rb fun i j t t' Q E q => Flt.max_two_num a.room.handled (.int _ _) (.int _ _) fun h' tk k => q h' tk k _ (rp_if rfl)
end
end Mine
end

section
open PySem PySem.W PyProof.Rows PySem.Spec PySem.Calls
namespace Mine
section
variable {L : Lng} {c : Sc} {x : Cx} {loc : Loc} {cs : Cells} {σ : List Addr} {s : Shared} {E : Value → Shared → Prop} {Q : Value → Shared → Prop}
theorem base_of {e : Expr} (h : isBase e = true) (n : Str) (env : Env) : attributeBase e n env (eval e env) = eval e env := by
  cases e <;> first | rfl | exact (ff_tt h).elim
theorem line_of {p q : Pos} (h : (p.endLine == q.line) = true) : (p.endLine == q.line) = true := h

theorem lower_all : (List.range 128).all (fun n => Txt.lower (tx [n]) == tx [if 65 ≤ n ∧ n ≤ 90 then n + 32 else n]) = true := by decide +kernel
theorem lower_of {n : Nat} (h : n < 128) : Txt.lower (tx [n]) = tx [if 65 ≤ n ∧ n ≤ 90 then n + 32 else n] := eq_of_beq (List.all_eq_true.mp lower_all n (List.mem_range.mpr h))
theorem low_ok (a : At L c x loc cs σ s) {w : CV} {va : Value} {pos : Pos} (ra : RpA L x σ s va w) (p : Post L.D x σ s E (.ofOpt (lowerOp w) cs) (KV L.D x.F Q)) : MethodOnS L.D.prog L.D.w x.A E "lower" va pos [] Q s :=
  Post.opt p fun z e p => by
    obtain ⟨u, rfl, e⟩ := CV.onStr_is none_some e
    obtain ⟨n, rfl, e⟩ := one_is e
    obtain ⟨t, rfl⟩ := ra.view
    obtain ⟨h, rfl⟩ := ofIf_is e
    exact SB.lower (by rw [lower_of h, tx_len]; exact (by decide +kernel : Builtin.Str.tooLong 1 = false)) (by rw [lower_of h]; exact p.here a (.str _ _) _)
theorem Snd.lower {y : X} (hy : Snd L y) : Snd L (.lower y) := fun c e h => onMeth_is (P := fun e => Val L c (.lower y) e ∧ Tst L c (.lower y) e) h fun b n apos es pos g1 g2 h =>
  on0_is (P := fun es => Val L c (.lower y) (.Call (.Attribute b n apos) es [] pos) ∧ Tst L c (.lower y) (.Call (.Attribute b n apos) es [] pos)) h fun h => by
    cases eq_of_beq (and_tt h).1
    exact val_tst (fun a Q E p => Call_method0 (base_of g2 _ _) g1 (Val.and (hy (and_tt h).2).1 a p fun v cs₁ σ₁ s₁ a₁ S₁ p va ra => low_ok a₁ ra p)) fun _ _ => rfl

theorem find_all : (List.range 128).all (fun n => decide (Txt.find (tx hex16) (tx [n]) = ixOf hex16 n)) = true := by decide +kernel
theorem find_of {n : Nat} (h : n < 128) : Txt.find (tx hex16) (tx [n]) = ixOf hex16 n := of_decide_eq_true (List.all_eq_true.mp find_all n (List.mem_range.mpr h))
theorem fnd_ok (a : At L c x loc cs σ s) {u : List Nat} {w z : CV} {vb : Value} (rb : RpA L x σ s vb w) (e : findOp (.str u) w = some z) (p : Post L.D x σ s E (.ok z cs) (KV L.D x.F Q)) : ∃ v t, vb = .str v t ∧ Q (.int (Txt.find (tx u) v) s.toks) { s with toks := s.toks + 1 } := by
  obtain ⟨v, rfl, e⟩ := CV.onStr_is none_some e
  obtain ⟨n, rfl, e⟩ := one_is e
  obtain ⟨t, rfl⟩ := rb.view
  obtain ⟨⟨rfl, h⟩, rfl⟩ := ofIf_is e
  exact ⟨_, _, rfl, by rw [find_of h]; exact p.here a (.int _ _) _⟩
theorem Snd.find {y z : X} (hy : Snd L y) (hz : Snd L z) : Snd L (.find y z) := fun c e h => onMeth_is (P := fun e => Val L c (.find y z) e ∧ Tst L c (.find y z) e) h fun b n apos es pos g1 g2 h =>
  on1_is (P := fun es => Val L c (.find y z) (.Call (.Attribute b n apos) es [] pos) ∧ Tst L c (.find y z) (.Call (.Attribute b n apos) es [] pos)) h fun g h => by
    cases eq_of_beq (and_tt h).1
    exact val_tst (fun {x loc cs σ s} a Q E p => Call_method1 (base_of g2 _ _) (star_of (notStar (and_tt (and_tt h).2).2) [] x.env) g1 (Val.and (hy (and_tt (and_tt h).2).1).1 a p fun v cs₁ σ₁ s₁ a₁ S₁ p va ra =>
      Post.str (P := fun v => RpA L x σ₁ s₁ va v → MethodOnS L.D.prog L.D.w x.A E "find" va pos [(false, eval g x.env)] Q s₁) p (fun u p ra => by
        obtain ⟨t, rfl⟩ := ra.view
        exact SB.find (Val.and (hz (and_tt (and_tt h).2).2).1 a₁ p fun w cs₂ σ₂ s₂ a₂ S₂ p vb rb => Post.opt p fun z e p => fnd_ok a₂ rb e p)) ra)) fun _ _ => rfl

theorem put_ok (a : At L c x loc cs σ s) {i : Nat} {d : Addr} (hc : σ[i]? = some d) {w : CV} {vb : Value} (rb : RpA L x σ s vb w) (p : Post L.D x σ s E (room cs i fun xs => .ok .none (cs.set i (.list (xs ++ [w])))) (KV L.D x.F Q)) :
    wpAny (model L.D.prog L.D.w) x.A (call (.builtin "list.append") [.ref d, vb]) Q E s :=
  Post.room p fun xs ex hl p => by
    obtain ⟨vs, n, eo, r⟩ := cell_list a.wd hc ex
    refine append_at eo (fun h' hs e' => ?_) (small_ok r.length hl)
    obtain ⟨W, S⟩ := a.upd hc hs (y := .list (xs ++ [w])) fun S => ⟨vs ++ [vb], n + 1, by rw [e', List.push_toArray], (r.step S).append (.cons (rb.step S) .nil)⟩
    exact p.to W S .none s.toks
theorem Snd.app {y z : X} (hy : Snd L y) (hz : Snd L z) : Snd L (.app y z) := fun c e h => onMeth_is (P := fun e => Val L c (.app y z) e ∧ Tst L c (.app y z) e) h fun b n apos es pos g1 g2 h =>
  on1_is (P := fun es => Val L c (.app y z) (.Call (.Attribute b n apos) es [] pos) ∧ Tst L c (.app y z) (.Call (.Attribute b n apos) es [] pos)) h fun g h => by
    cases eq_of_beq (and_tt h).1
    refine val_tst (fun {x loc cs σ s} a Q E p => ?_) fun _ _ => rfl
    have hst : starEach [g] x.env = [(false, eval g x.env)] := star_of (notStar (and_tt (and_tt h).2).2) [] x.env
    exact wpAny_Call_append (base_of g2 _ _) (by rw [hst]; rfl) g1 (by rw [hst]; rfl) (Val.and (hy (and_tt (and_tt h).2).1).1 a p fun v cs₁ σ₁ s₁ a₁ S₁ p va ra =>
      Post.lst (P := fun v => RpA L x σ₁ s₁ va v → ∃ D its, va = .ref D ∧ PlainL s₁.heap D its ∧ wpAny (model L.D.prog L.D.w) x.A (eval g x.env) (fun y s₂ => wpAny (model L.D.prog L.D.w) x.A (call (.builtin "list.append") [.ref D, y]) Q E s₂) E s₁) p (fun i p ra => by
        obtain ⟨d, rfl, hc⟩ := ra.view
        refine Post.ite p fun h0 p => ?_
        obtain ⟨xs, ex⟩ := Option.isSome_iff_exists.mp h0
        obtain ⟨vs, n, e, _⟩ := cell_list a₁.wd hc ex
        exact ⟨d, vs.toArray, rfl, ⟨_, n, e, rfl, rfl, rfl⟩, Val.and (hz (and_tt (and_tt h).2).2).1 a₁ p fun w cs₂ σ₂ s₂ a₂ S₂ p vb rb => put_ok a₂ (prefix_get S₂.st.pre hc) rb p⟩) ra)

theorem got_ok (a : At L c x loc cs σ s) {es : List (List Nat × Int)} {u w : CV} {va vb vc : Value} (ra : RpA L x σ s va (.dct es)) (rb : RpA L x σ s vb u) (rc : RpA L x σ s vc w)
    (p : Post L.D x σ s E (u.onStr .no fun k => .ok (found es k w) cs) (KV L.D x.F Q)) : wpAny (model L.D.prog L.D.w) x.A (call (.builtin "dict.get") [va, vb, vc]) Q E s :=
  Post.str (P := fun u => RpA L x σ s vb u → wpAny (model L.D.prog L.D.w) x.A (call (.builtin "dict.get") [va, vb, vc]) Q E s) p (fun k p rb => by
    obtain ⟨d, f, rfl, hm, hs, hk, _, _⟩ := ra.view
    obtain ⟨t, rfl⟩ := rb.view
    refine call_meetsIn PySem.F.slot_dict_get hm.typeIs PySem.F.entry_dict_get (PySem.F.args_dict_get_3 _ _ _) (meets_dict_get_default (strKind L.D.prog L.D.w) _ (strKind_is L.D.prog L.D.w (tx k) t) hs vc) ⟨_, hm, p.here a ?_ _⟩
    have hk := hk k
    unfold found
    cases q : lookD es k with
    | none => rw [q] at hk; rw [show f (tx k) = none from hk]; exact rc
    | some i => rw [q] at hk; obtain ⟨t, e⟩ := hk; rw [e]; exact .int _ _) rb
theorem Snd.get {y z w : X} (hy : Snd L y) (hz : Snd L z) (hw : Snd L w) : Snd L (.get y z w) := fun c e h => onMeth_is (P := fun e => Val L c (.get y z w) e ∧ Tst L c (.get y z w) e) h fun b n apos es pos g1 g2 h =>
  on2_is (P := fun es => Val L c (.get y z w) (.Call (.Attribute b n apos) es [] pos) ∧ Tst L c (.get y z w) (.Call (.Attribute b n apos) es [] pos)) h fun g u h => by
    cases eq_of_beq (and_tt h).1
    have h := (and_tt h).2
    refine val_tst (fun {x loc cs σ s} a Q E p => ?_) fun _ _ => rfl
    have hst : starEach [g, u] x.env = [(false, eval g x.env), (false, eval u x.env)] := (star_of (notStar (and_tt (and_tt h).2).1) [u] x.env).trans (congrArg (_ :: ·) (star_of (notStar (and_tt (and_tt h).2).2) [] x.env))
    refine wpAny_Call_method2_late (base_of g2 _ _) g1 (by rw [hst]; rfl) (Val.and (hy (and_tt h).1).1 a p fun v cs₁ σ₁ s₁ a₁ S₁ p va ra => ?_)
    cases v with
    | dct es =>
      obtain ⟨d, f, rfl, hm, _⟩ := id ra.view
      exact ⟨"dict", "dict.get", PySem.F.plainAttrs_dict, PySem.F.slot_dict_get, PySem.F.type_dict_get, hm.typeIs, hm.noDict, Calls.callWith_builtin rfl (Calls.evalArgs_plain (Calls.spliced_cons
        (Val.and (hz (and_tt (and_tt h).2).1).1 a₁ p fun v cs₂ σ₂ s₂ a₂ S₂ p vb rb => Calls.spliced_cons (Val.and (hw (and_tt (and_tt h).2).2).1 a₂ p fun w cs₃ σ₃ s₃ a₃ S₃ p vc rc => Calls.spliced_nil (got_ok a₃ ((ra.step S₂.st).step S₃.st) (rb.step S₃.st) rc p)))))⟩
    | _ => exact p.elim

/-- a bound of a slice -/
noncomputable def RpO (D : Gd) (h : Heap) (σ F : List Addr) (v : Value) : Option CV → Prop
  | none => v = .none
  | some c => Rp D h σ F v c
theorem RpO.step {D : Gd} {h h' : Heap} {σ σ' F : List Addr} {v : Value} {o : Option CV} (S : Step F σ h σ' h') (r : RpO D h σ F v o) : RpO D h' σ' F v o := match o, r with
  | none, r => r
  | some _, r => Rp.step S r
theorem evO_ok {oy : Option X} (hy : ∀ y, oy = some y → Snd L y) {l : Option Expr} (h : mO L.N c oy l = true) (a : At L c x loc cs σ s) {β : Type} {k : Option CV → Cells → Res Cells β} {K : β → Cells → List Addr → Shared → Prop} (p : Post L.D x σ s E ((evO L.G L.C oy loc cs).bind k) K)
    (q : ∀ v cs₁ σ₁ s₁, At L c x loc cs₁ σ₁ s₁ → Go x.F σ s σ₁ s₁ → Post L.D x σ₁ s₁ E (k v cs₁) K → ∀ val, RpO L.D s₁.heap σ₁ x.F val v → Q val s₁) : wpAny (model L.D.prog L.D.w) x.A (evalPart l x.env) Q E s := by
  cases oy with
  | none =>
    cases Option.isNone_iff_eq_none.mp h
    exact wpAny_evalPart_none (q _ _ _ _ a Go.refl p _ rfl)
  | some y =>
    refine onSome_is (P := fun l => wpAny (model L.D.prog L.D.w) x.A (evalPart l x.env) Q E s) h fun e h => ?_
    have eq : ((evX L.G L.C y loc cs).bind fun v cs => Res.ok (some v) cs).bind k = (evX L.G L.C y loc cs).bind fun v cs => k (some v) cs := by cases evX L.G L.C y loc cs <;> rfl
    have p' : Post L.D x σ s E ((evX L.G L.C y loc cs).bind fun v cs => k (some v) cs) K := eq ▸ p
    exact wpAny_evalPart_some (Val.and (hy y rfl h).1 a p' fun v cs₁ σ₁ s₁ a₁ S₁ p val r => q _ cs₁ σ₁ s₁ a₁ S₁ p val r)
theorem bound_is {h : Heap} {F : List Addr} {v : Value} {o : Option CV} {d i : Nat} (r : RpO L.D h σ F v o) (e : bound o d = some i) : ∃ l : Option (Int × Tok), v = partValue l ∧ (match l.map (·.1) with | none => i = d | some k => 0 ≤ k ∧ i = k.toNat) := by
  cases o with
  | none => cases e; exact ⟨none, r, rfl⟩
  | some w =>
    obtain ⟨k, rfl, e⟩ := CV.onInt_is none_some e
    obtain ⟨t, rfl⟩ := Rp.view r
    obtain ⟨h0, rfl⟩ := ofIf_is e
    exact ⟨some (k, t), rfl, h0, rfl⟩
theorem cut_ok (a : At L c x loc cs σ s) {w z : CV} {lo hi : Option CV} {va vl vu : Value} {value : Expr} {l u : Option Expr} {sp : Pos} (ra : RpA L x σ s va w) (rl : RpO L.D s.heap σ x.F vl lo) (ru : RpO L.D s.heap σ x.F vu hi) (e : slcOp w lo hi = some z) (p : Post L.D x σ s E (.ok z cs) (KV L.D x.F Q)) :
    wpAny (model L.D.prog L.D.w) x.A (subscriptTail value (.Slice l u none sp) va (.ref s.heap.objs.size)) Q E { s with heap := s.heap.push { cls := .type "slice", data := .fields #[vl, vu, .none] } } := by
  obtain ⟨y, rfl, e⟩ := CV.onStr_is none_some e
  obtain ⟨t, rfl⟩ := ra.view
  obtain ⟨i, e1, e⟩ := Option.bind_eq_some_iff.mp e
  obtain ⟨j, e2, e⟩ := Option.bind_eq_some_iff.mp e
  obtain ⟨⟨hz, _⟩, rfl⟩ := ofIf_is e
  obtain ⟨pl, rfl, hl⟩ := bound_is rl e1
  obtain ⟨pu, rfl, hu⟩ := bound_is ru e2
  refine tail_of_ItemOn ⟨"str", _, F.slot_str_getitem.lookup, typeIs_str _ _ _, wpAny_getItem_str_slice (l := pl) (u := pu) (st := none) ⟨_, Heap.get?_push_size _ rfl, rfl, rfl⟩ rfl (post_val_or_str ⟨Nat.le_trans (Txt.slice_le (tx y) _ _) (by rw [tx_len, sizeLine_eq]; exact Nat.le_trans hz (by decide)), fun t' k => ?_⟩)⟩ rfl (fun r => letGo_str _ _ _ r)
  show Q (.str (Txt.slice (tx y) (pl.map (·.1)) (pu.map (·.1))) t') _
  rw [txt_slice y _ _ i j hl hu]
  exact p.to (a.wd.push _) (Step.push _) (.str _ _) k
theorem Snd.slc {y : X} {lo hi : Option X} (hy : Snd L y) (hlo : ∀ y, lo = some y → Snd L y) (hhi : ∀ y, hi = some y → Snd L y) : Snd L (.slc y lo hi) := fun c e h => onSubscript_is (P := fun e => Val L c (.slc y lo hi) e ∧ Tst L c (.slc y lo hi) e) h fun e f pos h =>
  onSlice_is (P := fun f => Val L c (.slc y lo hi) (.Subscript e f pos) ∧ Tst L c (.slc y lo hi) (.Subscript e f pos)) h fun l u st sp h => by
    cases Option.isNone_iff_eq_none.mp (and_tt h).1
    have h := (and_tt h).2
    exact val_tst (fun a Q E p => Subscript_ (Val.and (hy (and_tt h).1).1 a p fun v cs₁ σ₁ s₁ a₁ S₁ p va ra => wpAny_Slice (evO_ok hlo (and_tt (and_tt h).2).1 a₁ p fun v cs₂ σ₂ s₂ a₂ S₂ p vl rl =>
      evO_ok hhi (and_tt (and_tt h).2).2 a₂ p fun w cs₃ σ₃ s₃ a₃ S₃ p vu ru => wpAny_evalPart_none (Post.opt p fun z e p => cut_ok a₃ ((ra.step S₂.st).step S₃.st) (rl.step S₃.st) ru e p)))) fun _ _ => rfl
end
end Mine
end

section
open PySem PySem.W PyProof.Rows PySem.Spec PySem.Calls
namespace Mine
/-- the text's class of words, as the fragment shows it -/
structure ClsOK (K : Frag) (CW : Addr) : Prop where
  hga : findIn K (.ref CW) "__getattribute__" = some (some (.builtin "object.__getattribute__"))
  hgk : findIn K (.ref CW) "__getattr__" = some none
  hset : findIn K (.ref CW) "__setattr__" = some (some (.builtin "object.__setattr__"))
  hasD : hasDictIn K CW = true
  plain : plainOver K CW = true
  makes : makesIn K CW = true
  noAttr : ∀ n, findIn K (.ref CW) (attrNm n) = some none
  taker : ∀ n, takerIn K CW (attrNm n) = some none

section
variable {D : Gd} {h : Heap} {σ F : List Addr}
/-- the entry of a name -/
noncomputable abbrev Nam (n : Str) : DictEntry → Bool := fun e => e.key.isStr n
theorem Ent.skip {y : String} {o : Option CV} {l : List DictEntry} (e : Ent D h σ F y o l) {n : Str} (ne : (Str.ofString y == n) = false) : (∀ r, (l ++ r).find? (Nam n) = r.find? (Nam n)) ∧ (∀ r, (l ++ r).any (·.refKey) = r.any (·.refKey)) ∧ ∀ hs k v r, putL n hs k v (l ++ r) = l ++ putL n hs k v r := by
  cases o with
  | none => cases (e : l = []); exact ⟨fun _ => rfl, fun _ => rfl, fun _ _ _ _ => rfl⟩
  | some z =>
    obtain ⟨hs, t, v, rfl, _⟩ := e
    have ne' : ¬ (Value.str (Str.ofString y) t).isStr n = true := fun q => ff_tt (ne.symm.trans q)
    exact ⟨fun r => List.find?_cons_of_neg ne', fun r => rfl, fun hs k v r => if_neg ne'⟩
theorem Ent.hit {y : String} {z : CV} {l : List DictEntry} (e : Ent D h σ F y (some z) l) : ∃ v, (∀ r, ∃ en : DictEntry, (l ++ r).find? (Nam (Str.ofString y)) = some en ∧ en.val = v) ∧ Rp D h σ F v z ∧ ∀ hs k w, ∃ l', (∀ r, putL (Str.ofString y) hs k w (l ++ r) = l' ++ r) ∧ l'.length = 1 ∧ ∀ {h' σ' F'} {c : CV}, Rp D h' σ' F' w c → Ent D h' σ' F' y (some c) l' := by
  obtain ⟨hs, t, v, rfl, r⟩ := e
  have eq : (Value.str (Str.ofString y) t).isStr (Str.ofString y) = true := beq_self_eq_true (Str.ofString y)
  exact ⟨v, fun r => ⟨_, List.find?_cons_of_pos eq, rfl⟩, r, fun hs' k w => ⟨[⟨hs, .str (Str.ofString y) t, w⟩], fun r => if_pos eq, rfl, fun r => ⟨hs, t, w, rfl, r⟩⟩⟩
theorem ne_ra : (Str.ofString "rows" == Str.ofString "at") = false := by decide
theorem ne_rd : (Str.ofString "rows" == Str.ofString "deep") = false := by decide
theorem ne_ad : (Str.ofString "at" == Str.ofString "deep") = false := by decide
theorem getL_of {n : Str} {es : List DictEntry} {en : DictEntry} (e : es.find? (Nam n) = some en) : getL n es = some (some en.val) := by
  unfold getL
  rw [e]
/-- the three entries of a thing of the own class -/
structure Ents (D : Gd) (h : Heap) (σ F : List Addr) (i : Inst) (er ei ed : List DictEntry) : Prop where
  r : Ent D h σ F "rows" i.r er
  a : Ent D h σ F "at" i.a ei
  d : Ent D h σ F "deep" i.d ed
theorem getL_ent {i : Inst} {er ei ed : List DictEntry} (E : Ents D h σ F i er ei ed) : ∀ {n : Nat} {z : CV}, getA i n = some z → ∃ v, getL (attrNm n) (er ++ ei ++ ed) = some (some v) ∧ Rp D h σ F v z
  | 0, z, e => by
    have E0 := E.r
    rw [show i.r = some z from e] at E0
    obtain ⟨v, q, rv, _⟩ := E0.hit
    obtain ⟨en, q', rfl⟩ := q (ei ++ ed)
    exact ⟨_, getL_of (List.append_assoc er ei ed ▸ q'), rv⟩
  | 1, z, e => by
    have E0 := E.a
    rw [show i.a = some z from e] at E0
    obtain ⟨v, q, rv, _⟩ := E0.hit
    obtain ⟨en, q', rfl⟩ := q ed
    exact ⟨_, getL_of (List.append_assoc er ei ed ▸ ((E.r.skip ne_ra).1 _).trans q'), rv⟩
  | n + 2, z, e => by
    have E0 := E.d
    rw [show i.d = some z from e] at E0
    obtain ⟨v, q, rv, _⟩ := E0.hit
    obtain ⟨en, q', rfl⟩ := q []
    exact ⟨_, getL_of (List.append_assoc er ei ed ▸ ((E.r.skip ne_rd).1 _).trans (((E.a.skip ne_ad).1 _).trans (List.append_nil ed ▸ q'))), rv⟩
end
section
variable {L : Lng} {c : Sc} {x : Cx} {loc : Loc} {cs : Cells} {σ : List Addr} {s : Shared} {E : Value → Shared → Prop} {Q : Value → Shared → Prop}
/-- a thing of the own class, as it stands -/
theorem inst_of (a : At L c x loc cs σ s) {j : Nat} {i : Inst} {d : Addr} (hc : σ[j]? = some d) (e : instAt cs j = some i) : ∃ er ei ed m, s.heap.get? d = some (dictOf (er ++ ei ++ ed) m) ∧ Ents L.D s.heap σ x.F i er ei ed := by
  obtain ⟨er, ei, ed, m, eo, e1, e2, e3⟩ := a.wd.cells j _ _ hc (instAt_some e)
  exact ⟨er, ei, ed, m, eo, e1, e2, e3⟩
/-- the reading of an attribute of the words -/
theorem attr_ok (Z : Fx L) (Y : ClsOK L.K L.D.CW) (a : At L c x loc cs σ s) {o : Value} {w z : CV} {n : Nat} {ex : Bool} (ra : RpA L x σ s o w) (e : attrOp cs w n = some z) (q : ∀ v tk, RpA L x σ s v z → Q v { s with toks := tk }) :
    wpAny (model L.D.prog L.D.w) x.A (getAttr o (attrNm n) ex) Q E s := by
  obtain ⟨j, rfl, e⟩ := CV.onObj_is none_some e
  obtain ⟨i, ei, e⟩ := Option.bind_eq_some_iff.mp e
  obtain ⟨oa, d, rfl, ho, _, _, hc⟩ := ra.view
  obtain ⟨er, ei, ed, m, eo, es⟩ := inst_of a hc ei
  obtain ⟨v, hv, rv⟩ := getL_ent es e
  exact get_value (Z.X.keeps a.wd.base) (C := L.D.CW) (od := some (dictOf (er ++ ei ++ ed) m)) ⟨ho, rfl, rfl, eo⟩ Y.hga (findObj_own Y.hasD (Y.noAttr n) rfl ((lookIn_dict _ _ _).trans hv)) rv.handed (q v _ rv)
theorem Snd.attr (Z : Fx L) (Y : ClsOK L.K L.D.CW) {y : X} (n : Nat) (hy : Snd L y) : Snd L (.attr y n) := fun c e h => onAttribute_is (P := fun e => Val L c (.attr y n) e ∧ Tst L c (.attr y n) e) h fun b m pos h => by
  cases eq_of_beq (and_tt (and_tt h).2).1
  exact val_tst (fun {x loc cs σ s} a Q E p => onName_is (P := fun b => Val L c y b → wpAny (model L.D.prog L.D.w) x.A (eval (.Attribute b (attrNm n) pos) x.env) Q E s) (and_tt h).1 (fun _ _ _ hb =>
    Attribute_name (one_ok hb (fun a r => opt_ok fun e p => attr_ok Z Y a r e fun v tk r => p.here a r tk) a p)) (hy (and_tt (and_tt h).2).2).1) fun _ _ => rfl

/-- pairs as a display of a dict has them -/
inductive KV2 : List (Str × Value) → List (List Nat × Int) → Prop
  | nil : KV2 [] []
  | cons {k : List Nat} {i : Int} {t : Tok} {l : List (Str × Value)} {m : List (List Nat × Int)} : KV2 l m → KV2 ((tx k, .int i t) :: l) ((k, i) :: m)
theorem KV2.keys {l : List (Str × Value)} {m : List (List Nat × Int)} (h : KV2 l m) : l.map (·.1) = m.map fun x => tx x.1 := by
  induction h with
  | nil => rfl
  | cons _ ih => exact congrArg (_ :: ·) ih
theorem KV2.val {l : List (Str × Value)} {m : List (List Nat × Int)} (h : KV2 l m) (k : List Nat) : match lookD m k with | some i => ∃ t, valueAt l (tx k) = some (.int i t) | none => valueAt l (tx k) = none := by
  induction h with
  | nil => rfl
  | @cons k' i t l m h ih =>
    unfold lookD valueAt
    by_cases q : k' = k
    · subst q
      rw [if_pos rfl, List.find?_cons_of_pos (by exact decide_eq_true rfl)]
      exact ⟨t, rfl⟩
    · rw [if_neg q, List.find?_cons_of_neg (by exact fun e => q (tx_inj (of_decide_eq_true e)))]
      exact ih
/-- what is told of the pairs of a display -/
noncomputable def PairsOK (L : Lng) (env : Env) (pos : Pos) (ks : List (List Nat)) (ys : List X) (keys : List (Option Expr)) (vs : List Expr) : Prop := ∃ is : List Int,
  (∀ loc cs, evXs L.G L.C ys loc cs = .ok (is.map .int) cs) ∧ is.length = ks.length ∧ keys.length = vs.length ∧ keys.length = ks.length ∧ keys.all (·.isSome) = true ∧
    ∀ A E s (Q : List (Value × Value) → Shared → Prop), (∀ ps l tk, Carries (strKind L.D.prog L.D.w) ps l → KV2 l (ks.zip is) → Q ps { s with toks := tk }) → wpAny (model L.D.prog L.D.w) A (evalPairs (pairTrees keys vs env pos)) Q E s
theorem pairs_ok {env : Env} {pos : Pos} : ∀ (ks : List (List Nat)) (ys : List X) (keys : List (Option Expr)) (vs : List Expr), mKs ks keys = true → mEs L.N c ys vs = true → allIntK ys = true → ks.length = ys.length → PairsOK L env pos ks ys keys vs
  | [], [], keys, vs, h1, h2, _, _ => on0_is (P := fun keys => PairsOK L env pos [] [] keys vs) h1 fun _ => by
    cases none_es h2
    exact ⟨[], fun _ _ => rfl, rfl, rfl, rfl, rfl, fun A E s Q q => pairTrees_nil_walk (q [] [] s.toks trivial .nil)⟩
  | [], _ :: _, _, _, _, _, _, h => nomatch h
  | _ :: _, [], _, _, _, _, _, h => nomatch h
  | _ :: _, _ :: _, [], _, h, _, _, _ => (ff_tt h).elim
  | _ :: _, _ :: _, _ :: _, [], _, h, _, _ => (ff_tt h).elim
  | k :: ks, y :: ys, e :: keys, v :: vs, h1, h2, h3, h4 => by
    refine onSome_is (P := fun e => PairsOK L env pos (k :: ks) (y :: ys) (e :: keys) (v :: vs)) h1 fun e h1 => onConstant_is (P := fun e => PairsOK L env pos (k :: ks) (y :: ys) (some e :: keys) (v :: vs)) h1 fun w kk p h1 => onCstr_is (P := fun w => PairsOK L env pos (k :: ks) (y :: ys) (some (.Constant w kk p) :: keys) (v :: vs)) h1 fun u h1 => ?_
    refine onXk_is (P := fun y => mE L.N c y v = true → PairsOK L env pos (k :: ks) (y :: ys) (some (.Constant (.str u) kk p) :: keys) (v :: vs)) h3 (fun d h3 h2v => ?_) (and_tt h2).1
    obtain ⟨i, rfl, h3⟩ := CV.onInt_is ff_tt h3
    refine onConstant_is (P := fun v => PairsOK L env pos (k :: ks) (.k (.int i) :: ys) (some (.Constant (.str u) kk p) :: keys) (v :: vs)) h2v fun w kk2 p2 h2v => onCint_is (P := fun w => PairsOK L env pos (k :: ks) (.k (.int i) :: ys) (some (.Constant (.str u) kk p) :: keys) (.Constant w kk2 p2 :: vs)) h2v fun j h2v => ?_
    cases eq_of_beq h2v
    cases eq_of_beq (and_tt h1).1
    obtain ⟨is, e1, e2, e3, e4, e5, ih⟩ := pairs_ok (env := env) (pos := pos) ks ys keys vs (and_tt h1).2 (and_tt h2).2 h3 (Nat.succ.inj h4)
    refine ⟨i :: is, fun loc cs => ?_, congrArg Nat.succ e2, congrArg Nat.succ e3, congrArg Nat.succ e4, e5, fun A E s Q q => pairTrees_cons_walk (Constant_str (wpAny_Constant_int (ih _ _ _ _ fun ps l tk c1 c2 => q _ ((tx u.cps.toList, .int i _) :: l) tk ⟨?_, rfl, c1⟩ (.cons c2))))⟩
    · show (evXs L.G L.C ys loc cs).bind (fun vs cs => Res.ok (CV.int i :: vs) cs) = _
      rw [e1]; rfl
    · rw [tx_of]; exact strKind_is _ _ _ _
theorem intsOf_map : ∀ is : List Int, intsOf (is.map .int) = some is
  | [] => rfl
  | i :: is => congrArg (Option.map (i :: ·)) (intsOf_map is)
theorem fst_zip : ∀ (ks : List (List Nat)) (is : List Int), is.length = ks.length → (ks.zip is).map (·.1) = ks
  | [], _, _ => rfl
  | _ :: _, [], h => nomatch h
  | k :: ks, _ :: is, h => congrArg (k :: ·) (fst_zip ks is (Nat.succ.inj h))
theorem Snd.dct (Z : Fx L) {ks : List (List Nat)} {ys : List X} : Snd L (.dct ks ys) := fun c e h => onDict_is (P := fun e => Val L c (.dct ks ys) e ∧ Tst L c (.dct ks ys) e) h fun keys vs pos h => by
  refine val_tst (fun {x loc cs σ s} a Q E p => ?_) fun _ _ => rfl
  obtain ⟨h1, h⟩ := and_tt h
  obtain ⟨h2, h⟩ := and_tt h
  obtain ⟨h3, h⟩ := and_tt h
  obtain ⟨h4, h⟩ := and_tt h
  obtain ⟨h5, h⟩ := and_tt h
  obtain ⟨is, e1, e2, e3, e4, e5, e6⟩ := pairs_ok (L := L) (env := x.env) (pos := pos) ks ys keys vs h1 h2 h3 (of_decide_eq_true h5)
  have hz : zipD ks (is.map .int) = some (.dct (ks.zip is)) := by
    unfold zipD
    rw [intsOf_map]
    exact ofIf_pos e2.symm
  have p : Post L.D x σ s E (Res.ok (CV.dct (ks.zip is)) cs) (KV L.D x.F Q) := by
    have p : Post L.D x σ s E ((evXs L.G L.C ys loc cs).bind fun vs cs => .ofOpt (zipD ks vs) cs) (KV L.D x.F Q) := p
    rw [e1] at p
    have p : Post L.D x σ s E (.ofOpt (zipD ks (is.map .int)) cs) (KV L.D x.F Q) := p
    rw [hz] at p
    exact p
  have hks : keys ≠ [] := fun e => by
    have h6 := (and_tt h).1
    rw [show ks = [] from List.length_eq_zero_iff.mp (e4.symm.trans (congrArg List.length e))] at h6
    exact ff_tt h6
  refine wpAny_Dict_walk (knd := strKind L.D.prog L.D.w) e5 e3 hks (by rw [e4, of_decide_eq_true h5]; exact Nat.le_trans (of_decide_eq_true h4) (by decide)) (e6 _ _ _ _ fun ps l tk c1 c2 => ⟨l, c1, Heap.DictOf.new _, fun h' hd hs => ?_⟩)
  have hn : (l.map (·.1)).Nodup := by
    rw [c2.keys, show ((ks.zip is).map fun x => tx x.1) = ((ks.zip is).map (·.1)).map tx from (List.map_map (g := tx) (f := fun x : List Nat × Int => x.1)).symm, fst_zip ks is e2]
    exact List.pairwise_map.mpr ((of_decide_eq_true (and_tt h).2 : ks.Nodup).imp fun ne e => ne (tx_inj e))
  rw [merged_nil_of_nodup _ hn] at hd
  have k : ∀ a o, s.heap.get? a = some o → h'.get? a = some o := fun a o e => (hs.2 a (Nat.ne_of_lt (Heap.lt_size e))).trans (Heap.get?_push_of_some _ e)
  exact p.to (a.wd.all k) (Step.all k) (.dct hd.mapOf (beq_eq_false_iff_ne.mpr (Nat.ne_of_gt (Nat.lt_of_lt_of_le Z.big (a.wd.size a.eo.loc)))) c2.val a.wd.notσ a.wd.notF) _
end
end Mine
end

section
open PySem PySem.W PyProof.Rows PySem.Spec PySem.Calls
namespace Mine

/-- a step in which one frame's names may change -/
structure StepL (L : Addr) (F σ : List Addr) (h : Heap) (σ' : List Addr) (h' : Heap) : Prop where
  pre : σ <+: σ'
  fresh : ∀ b ∈ σ', b ∉ σ → h.get? b = none
  keep : ∀ a o, h.get? a = some o → a ∉ σ → a ∉ F → h'.get? a = some o
  fr : ∀ L' ∈ F, L' ≠ L → ∀ m, h.Ns L' m → h'.Ns L' m
  frk : ∀ L ∈ F, ∀ o, h.get? L = some o → ∃ o', h'.get? L = some o' ∧ Frm o o'
theorem frk_there {F : List Addr} {h h' : Heap} (k : ∀ L ∈ F, ∀ o, h.get? L = some o → ∃ o', h'.get? L = some o' ∧ Frm o o') : ∀ L ∈ F, h.get? L ≠ none → h'.get? L ≠ none := fun L hL n => by
  cases q : h.get? L with
  | none => exact absurd q n
  | some o => obtain ⟨o', e, _⟩ := k L hL o q; exact fun z => none_some (z.symm.trans e)
/-- new for a step and the next is new for both -/
theorem fresh_trans {F σ σ₁ σ₂ : List Addr} {h h₁ : Heap} (f1 : ∀ b ∈ σ₁, b ∉ σ → h.get? b = none) (k : ∀ a o, h.get? a = some o → a ∉ σ → a ∉ F → h₁.get? a = some o) (fro : ∀ L ∈ F, h.get? L ≠ none → h₁.get? L ≠ none) (f2 : ∀ b ∈ σ₂, b ∉ σ₁ → h₁.get? b = none) :
    ∀ b ∈ σ₂, b ∉ σ → h.get? b = none := fun b hb hn => by
  by_cases m : b ∈ σ₁
  · exact f1 b m hn
  · cases q : h.get? b with
    | none => rfl
    | some o =>
      by_cases hF : b ∈ F
      · exact absurd (f2 b hb m) (fro b hF fun z => none_some (z.symm.trans q))
      · exact (none_some ((f2 b hb m).symm.trans (k b o q hn hF))).elim
section
variable {D : Gd} {h h' : Heap} {σ σ' F : List Addr} {L : Addr}
theorem Step.toL (S : Step F σ h σ' h') (L : Addr) : StepL L F σ h σ' h' := ⟨S.pre, S.fresh, S.keep, fun L' m _ => S.fr L' m, S.frk⟩
theorem StepL.refl : StepL L F σ h σ h := (Step.refl F σ h).toL L
theorem StepL.notin (S : StepL L F σ h σ' h') {a : Addr} {o : Obj} (e : h.get? a = some o) (n : a ∉ σ) : a ∉ σ' := fun m => none_some ((S.fresh a m n).symm.trans e)
theorem StepL.trans {σ₁ σ₂ : List Addr} {h₁ h₂ : Heap} (S : StepL L F σ h σ₁ h₁) (T : StepL L F σ₁ h₁ σ₂ h₂) : StepL L F σ h σ₂ h₂ :=
  ⟨S.pre.trans T.pre, fresh_trans S.fresh S.keep (frk_there S.frk) T.fresh, fun a o e n1 n2 => T.keep a o (S.keep a o e n1 n2) (S.notin e n1) n2, fun L' hL ne m n => T.fr L' hL ne m (S.fr L' hL ne m n), fun L hL o e =>
    let ⟨o1, e1, f1⟩ := S.frk L hL o e
    let ⟨o2, e2, f2⟩ := T.frk L hL o1 e1
    ⟨o2, e2, f1.trans f2⟩⟩
theorem StepL.mp (S : StepL L F σ h σ' h') : Mp h σ F h' σ' F := ⟨fun a o e n1 n2 _ => S.keep a o e n1 n2, fun _ _ e n1 n2 _ => ⟨S.notin e n1, n2⟩, fun _ _ => prefix_get S.pre⟩
theorem Rp.stepL (S : StepL L F σ h σ' h') {v : Value} {x : CV} (r : Rp D h σ F v x) : Rp D h' σ' F v x := r.map S.mp
theorem Rps.stepL (S : StepL L F σ h σ' h') {vs : List Value} {xs : List CV} (r : Rps D h σ F vs xs) : Rps D h' σ' F vs xs := r.map S.mp
theorem Wd.keepL {envs : List Env} {cs : Cells} (W : Wd D envs F σ cs h) (S : StepL L F σ h σ h') (k : ∀ a ∈ σ, ∀ o, h.get? a = some o → h'.get? a = some o) {m' : Str → Option Value} (n' : h'.Ns L m') : Wd D envs F σ cs h' :=
  ⟨fun a o e => S.keep a o (W.base a o e) (fun m => absurd (Heap.lt_size e) (Nat.not_lt.mpr (W.new a m))) (fun m => absurd (Heap.lt_size e) (Nat.not_lt.mpr (W.newF a m))), W.len, W.nd, W.new, W.apart, W.newF,
   fun c a x e1 e2 => (W.cells c a x e1 e2).map S.mp fun o e _ => k a (List.mem_of_getElem? e1) o e, fun env he => by
    obtain ⟨q, L', m, e, n⟩ := W.frs env he
    by_cases z : L' = L
    · exact ⟨q, L', m', e, z ▸ n'⟩
    · exact ⟨q, L', m, e, S.fr L' (W.inF env he L' e) z m n⟩, W.inF, fun a m => frk_there S.frk a m (W.exF a m)⟩

/-- a store into the frame's names -/
theorem StepL.store (hs : Heap.SameBut L h h') (hL : L ∈ F) {m m' : Str → Option Value} (n : h.Ns L m) (n' : h'.Ns L m') : StepL L F σ h σ h' := by
  refine ⟨List.prefix_refl _, fun _ hb hn => absurd hb hn, fun a o e _ n2 => (hs.2 a fun q => n2 (q ▸ hL)).trans e, fun L' _ ne m ⟨o, es, ep, q1, q2⟩ => ⟨o, es, ep, (hs.2 L' ne).trans q1, q2⟩, fun L' _ o q => ?_⟩
  by_cases e : L' = L
  · subst e; exact frm_ns n n' q
  · exact ⟨o, (hs.2 L' e).trans q, .inl rfl⟩
end

/-- the names of the block after a run: they matter while the block goes on -/
noncomputable def LocIf (D : Gd) (env : Env) (nm : List Str) (f : Fl) (loc : Loc) (h : Heap) (σ F : List Addr) : Prop := match f with
  | .ret _ => True
  | _ => LocOK D env nm loc h σ F
theorem LocIf.of {D : Gd} {env : Env} {nm : List Str} {f : Fl} {loc : Loc} {h : Heap} {σ F : List Addr} (l : LocOK D env nm loc h σ F) : LocIf D env nm f loc h σ F := by
  cases f with
  | ret _ => exact trivial
  | _ => exact l
inductive FlRp (D : Gd) (h : Heap) (σ F : List Addr) : Flow → Fl → Prop
  | next : FlRp D h σ F .next .next
  | brk : FlRp D h σ F .brk .brk
  | ret {v : Value} {x : CV} : Rp D h σ F v x → FlRp D h σ F (.ret v) (.ret x)
/-- a step within a block -/
structure GoL (x : Cx) (σ : List Addr) (s : Shared) (σ' : List Addr) (s' : Shared) : Prop where
  st : StepL x.env.locals x.F σ s.heap σ' s'.heap
  lt : Later s s'
theorem Go.toL {x : Cx} {σ σ' : List Addr} {s s' : Shared} (g : Go x.F σ s σ' s') : GoL x σ s σ' s' := ⟨g.st.toL _, g.lt⟩
theorem GoL.refl {x : Cx} {σ : List Addr} {s : Shared} : GoL x σ s σ s := Go.refl.toL
theorem GoL.trans {x : Cx} {σ σ₁ σ₂ : List Addr} {s s₁ s₂ : Shared} (a : GoL x σ s σ₁ s₁) (b : GoL x σ₁ s₁ σ₂ s₂) : GoL x σ s σ₂ s₂ := ⟨a.st.trans b.st, a.lt.trans b.lt⟩

noncomputable def PostF (D : Gd) (nm : List Str) (x : Cx) (σ : List Addr) (s : Shared) (E : Value → Shared → Prop) (r : Res St Fl) (K : Fl → Loc → Cells → List Addr → Shared → Prop) : Prop := match r with
  | .ok f st => ∀ σ' s', Wd D x.envs x.F σ' st.2 s'.heap → GoL x σ s σ' s' → LocIf D x.env nm f st.1 s'.heap σ' x.F → K f st.1 st.2 σ' s'
  | .ex m p st => ∀ e σ' h₀ s' Fx, (∀ a ∈ x.F, a ∈ Fx) → (∀ a ∈ Fx, a ∈ x.F ∨ s.heap.get? a = none) → Wd D x.envs Fx σ' st.2 h₀ → StepL x.env.locals x.F σ s.heap σ' h₀ → ExcAt D Fx σ' h₀ s'.heap e m p → Later s s' → E e s'
  | .no => False
noncomputable def FK (D : Gd) (F : List Addr) (Q : Flow → Shared → Prop) : Fl → Loc → Cells → List Addr → Shared → Prop := fun f _ _ σ s => ∀ fl, FlRp D s.heap σ F fl f → Q fl s

section
variable {D : Gd} {nm : List Str} {x : Cx} {σ : List Addr} {s : Shared} {E : Value → Shared → Prop} {K : Fl → Loc → Cells → List Addr → Shared → Prop}
theorem PostF.mono {r : Res St Fl} {K' : Fl → Loc → Cells → List Addr → Shared → Prop} (p : PostF D nm x σ s E r K)
    (m : ∀ f loc cs σ' s', Wd D x.envs x.F σ' cs s'.heap → GoL x σ s σ' s' → LocIf D x.env nm f loc s'.heap σ' x.F → K f loc cs σ' s' → K' f loc cs σ' s') : PostF D nm x σ s E r K' := by
  cases r with
  | ok f st => exact fun σ' s' W S l => m f st.1 st.2 σ' s' W S l (p σ' s' W S l)
  | ex _ _ _ => exact p
  | no => exact p
theorem PostF.from {r : Res St Fl} {cs₁ : Cells} {σ₁ : List Addr} {s₁ : Shared} (p : PostF D nm x σ s E r K) (S : GoL x σ s σ₁ s₁) (W : Wd D x.envs x.F σ₁ cs₁ s₁.heap) : PostF D nm x σ₁ s₁ E r K := by
  cases r with
  | ok f st => exact fun σ' s' W' S' l => p σ' s' W' (S.trans S') l
  | ex m q st => exact fun e σ' h₀ s' Fx i1 i2 W' S' x l => p e σ' h₀ s' Fx i1 (fun a m => missing_back S.st.pre S.st.keep W (i2 a m)) W' (S.st.trans S') x (S.lt.trans l)
  | no => exact p
/-- one run after another -/
theorem PostF.bind {r : Res St Fl} {k : Fl → St → Res St Fl} (p : PostF D nm x σ s E (r.bind k) K) : PostF D nm x σ s E r (fun f loc cs _ _ => PostF D nm x σ s E (k f (loc, cs)) K) := by
  cases r with
  | ok f st => exact fun _ _ _ _ _ => p
  | ex m q st => exact p
  | no => exact p
/-- an expression within a statement: o, where the run began -/
theorem PostF.expr {G : List CV} {C : Orc} {y : X} {loc : Loc} {cs : Cells} {k : CV → St → Res St Fl} {σ₁ : List Addr} {s₁ : Shared} (p : PostF D nm x σ s E ((evS G C y (loc, cs)).bind k) K) (S : GoL x σ s σ₁ s₁) (W : Wd D x.envs x.F σ₁ cs s₁.heap) :
    Post D x σ₁ s₁ E (evX G C y loc cs) (fun v cs₁ _ _ => PostF D nm x σ s E (k v (loc, cs₁)) K) := by
  have e : (evS G C y (loc, cs)).bind k = ((evX G C y loc cs).up fun cs => (loc, cs)).bind k := rfl
  rw [e] at p
  cases q : evX G C y loc cs with
  | ok v cs₁ => rw [q] at p; exact fun _ _ _ _ => p
  | ex m z cs₁ => rw [q] at p; exact fun e σ' h₀ s' Fx i1 i2 W' S' x l => p e σ' h₀ s' Fx i1 (fun a m => missing_back S.st.pre S.st.keep W (i2 a m)) W' (S.st.trans (S'.toL _)) x (S.lt.trans l)
  | no => rw [q] at p; exact p
section
variable {cs : Cells}
theorem PostF.got {β : Type} {o : Option β} {f : β → Res St Fl} {P : Prop} (p : PostF D nm x σ s E (got o f) K) (k : ∀ a, o = some a → PostF D nm x σ s E (f a) K → P) : P := match o, p, k with
  | none, p, _ => p.elim
  | some a, p, k => k a rfl p
theorem PostF.bool {z : CV} {f : Bool → Res St Fl} {P : CV → Prop} (p : PostF D nm x σ s E (z.onBool .no f) K) (k : ∀ t, PostF D nm x σ s E (f t) K → P (.bool t)) : P z := by
  obtain ⟨t, rfl, p⟩ := CV.onBool_of (P := fun r => PostF D nm x σ s E r K) id p; exact k t p
theorem PostF.int {z : CV} {f : Int → Res St Fl} {P : CV → Prop} (p : PostF D nm x σ s E (z.onInt .no f) K) (k : ∀ t, PostF D nm x σ s E (f t) K → P (.int t)) : P z := by
  obtain ⟨t, rfl, p⟩ := CV.onInt_of (P := fun r => PostF D nm x σ s E r K) id p; exact k t p
theorem PostF.str {z : CV} {f : List Nat → Res St Fl} {P : CV → Prop} (p : PostF D nm x σ s E (z.onStr .no f) K) (k : ∀ t, PostF D nm x σ s E (f t) K → P (.str t)) : P z := by
  obtain ⟨t, rfl, p⟩ := CV.onStr_of (P := fun r => PostF D nm x σ s E r K) id p; exact k t p
theorem PostF.tup {z : CV} {f : List CV → Res St Fl} {P : CV → Prop} (p : PostF D nm x σ s E (z.onTup .no f) K) (k : ∀ t, PostF D nm x σ s E (f t) K → P (.tup t)) : P z := by
  obtain ⟨t, rfl, p⟩ := CV.onTup_of (P := fun r => PostF D nm x σ s E r K) id p; exact k t p
theorem PostF.ils {z : CV} {f : List CV → Res St Fl} {P : CV → Prop} (p : PostF D nm x σ s E (z.onIls .no f) K) (k : ∀ t, PostF D nm x σ s E (f t) K → P (.ils t)) : P z := by
  obtain ⟨t, rfl, p⟩ := CV.onIls_of (P := fun r => PostF D nm x σ s E r K) id p; exact k t p
theorem PostF.lst {z : CV} {f : Nat → Res St Fl} {P : CV → Prop} (p : PostF D nm x σ s E (z.onLst .no f) K) (k : ∀ t, PostF D nm x σ s E (f t) K → P (.lst t)) : P z := by
  obtain ⟨t, rfl, p⟩ := CV.onLst_of (P := fun r => PostF D nm x σ s E r K) id p; exact k t p
theorem PostF.ite {q : Prop} [Decidable q] {r : Res St Fl} {P : Prop} (p : PostF D nm x σ s E (if q then r else .no) K) (k : q → PostF D nm x σ s E r K → P) : P := by
  by_cases h : q
  · rw [if_pos h] at p; exact k h p
  · rw [if_neg h] at p; exact p.elim
end
end

/-- the block that runs is the innermost frame -/
structure Blk (envs : List Env) (env : Env) : Prop where
  head : ∃ outer, envs = env :: outer
  frame : env.frame = some env.locals
/-- where the run of a block is; o, s₀: where it began -/
structure AtS (L : Lng) (c : Sc) (x : Cx) (σ₀ : List Addr) (s₀ : Shared) (loc : Loc) (cs : Cells) (σ : List Addr) (s : Shared) : Prop extends At L c x loc cs σ s where
  blk : Blk x.envs x.env
  go : GoL x σ₀ s₀ σ s
section
variable {L : Lng} {c : Sc} {x : Cx} {loc : Loc} {cs : Cells} {σ σ₀ : List Addr} {s s₀ : Shared} {E : Value → Shared → Prop} {K : Fl → Loc → Cells → List Addr → Shared → Prop}
theorem AtS.re {loc₁ : Loc} {cs₁ : Cells} {σ₁ : List Addr} {s₁ : Shared} (a : AtS L c x σ₀ s₀ loc cs σ s) (W : Wd L.D x.envs x.F σ₁ cs₁ s₁.heap) (S : GoL x σ₀ s₀ σ₁ s₁) (l : LocOK L.D x.env c.nm loc₁ s₁.heap σ₁ x.F) : AtS L c x σ₀ s₀ loc₁ cs₁ σ₁ s₁ := ⟨⟨a.room, a.eo, W, l⟩, a.blk, S⟩
theorem AtS.to {loc₁ : Loc} {cs₁ : Cells} {σ₁ : List Addr} {s₁ : Shared} (a : AtS L c x σ₀ s₀ loc cs σ s) (W : Wd L.D x.envs x.F σ₁ cs₁ s₁.heap) (S : GoL x σ s σ₁ s₁) (l : LocOK L.D x.env c.nm loc₁ s₁.heap σ₁ x.F) : AtS L c x σ₀ s₀ loc₁ cs₁ σ₁ s₁ := ⟨⟨a.room, a.eo, W, l⟩, a.blk, a.go.trans S⟩
theorem AtS.on {cs₁ : Cells} {σ₁ : List Addr} {s₁ : Shared} (a : AtS L c x σ₀ s₀ loc cs σ s) (W : Wd L.D x.envs x.F σ₁ cs₁ s₁.heap) (S : Go x.F σ s σ₁ s₁) : AtS L c x σ₀ s₀ loc cs₁ σ₁ s₁ := a.to W S.toL (a.lo.step S.st a.eo.loc)
/-- the run's end -/
theorem AtS.done {f : Fl} {Q : Flow → Shared → Prop} (a : AtS L c x σ₀ s₀ loc cs σ s) (p : PostF L.D c.nm x σ₀ s₀ E (.ok f (loc, cs)) (FK L.D x.F Q)) {fl : Flow} (r : FlRp L.D s.heap σ x.F fl f) : Q fl s := p σ s a.wd a.go (.of a.lo) fl r
theorem Val.ands {y : X} {e : Expr} {k : CV → St → Res St Fl} {Q : Value → Shared → Prop} (hy : Val L c y e) (a : AtS L c x σ₀ s₀ loc cs σ s) (p : PostF L.D c.nm x σ₀ s₀ E ((evS L.G L.C y (loc, cs)).bind k) K)
    (q : ∀ v cs₁ σ₁ s₁, AtS L c x σ₀ s₀ loc cs₁ σ₁ s₁ → Go x.F σ s σ₁ s₁ → PostF L.D c.nm x σ₀ s₀ E (k v (loc, cs₁)) K → ∀ val, RpA L x σ₁ s₁ val v → Q val s₁) : wpAny (model L.D.prog L.D.w) x.A (eval e x.env) Q E s :=
  hy a.toAt Q E ((p.expr a.go a.wd).mono fun v cs₁ σ₁ s₁ W S p val r => q v cs₁ σ₁ s₁ (a.on W S) S p val r)
theorem Tst.ands {y : X} {e : Expr} {k : Bool → St → Res St Fl} {Q : Bool → Shared → Prop} (hy : Tst L c y e) (a : AtS L c x σ₀ s₀ loc cs σ s) (p : PostF L.D c.nm x σ₀ s₀ E ((evS L.G L.C y (loc, cs)).bind fun v s => v.onBool .no fun t => k t s) K)
    (q : ∀ t cs₁ σ₁ s₁, AtS L c x σ₀ s₀ loc cs₁ σ₁ s₁ → PostF L.D c.nm x σ₀ s₀ E (k t (loc, cs₁)) K → Q t s₁) : wpAny (model L.D.prog L.D.w) x.A (isTrue e x.env (eval e x.env)) Q E s :=
  hy a.toAt Q E ((p.expr a.go a.wd).mono fun v cs₁ σ₁ s₁ W S p => PostF.bool (P := fun v => ∃ t, v = .bool t ∧ Q t s₁) p fun t p => ⟨t, rfl, q t cs₁ σ₁ s₁ (a.on W S) p⟩)

theorem LocOK.put {D : Gd} {env : Env} {nm : List Str} {F : List Addr} {h h' : Heap} {m : Str → Option Value} (r : ∀ (i : Nat) y cv, nm[i]? = some y → loc[i]? = some (some cv) → VarAt D env h σ F m y cv) (S : StepL env.locals F σ h σ h')
    {i : Nat} {n : Str} {v : CV} {val : Value} (hn : nm.Nodup) (hi : nm[i]? = some n) (hk : env.kindOf n = some .local) (rv : Rp D h σ F val v) (n' : h'.Ns env.locals (fun y => if y = n then some val else m y)) :
    LocOK D env nm (loc.set i (some v)) h' σ F := by
  refine ⟨_, n', fun j y cv e1 e2 => ?_⟩
  by_cases q : j = i
  · subst q
    cases hi.symm.trans e1
    rw [List.getElem?_set_self (List.length_set ▸ (List.getElem?_eq_some_iff.mp e2).1)] at e2
    cases e2
    exact ⟨val, rv.stepL S, .inl ⟨hk, if_pos rfl⟩⟩
  · rw [List.getElem?_set_ne (Ne.symm q)] at e2
    exact (r j y cv e1 e2).map S.mp fun w e => (if_neg fun z => q (nodup_ix hn (z ▸ e1) hi)).trans e
/-- a value goes into a local name -/
theorem store_at {Q : Unit → Shared → Prop} (a : At L c x loc cs σ s) (hn : c.nm.Nodup) {i : Nat} {n : Str} {v : CV} {val : Value} (hi : c.nm[i]? = some n) (hk : c.kd n = some .local) (rv : RpA L x σ s val v)
    (q : ∀ s₁, At L c x (loc.set i (some v)) cs σ s₁ → StepL x.env.locals x.F σ s.heap σ s₁.heap → Later s s₁ → Q () s₁) : wpAny (model L.D.prog L.D.w) x.A (storeName x.env n val) Q E s := by
  obtain ⟨m, n0, r⟩ := a.lo
  have hk' : x.env.kindOf n = some .local := (a.eo.kd n).trans hk
  refine wpAny_storeName_local hk' n0 (fun h' n' hs => ?_) (by rw [a.eo.kind]; rfl)
  have S : StepL x.env.locals x.F σ s.heap σ h' := StepL.store hs a.eo.loc n0 n'
  exact q { s with heap := h', toks := s.toks + 1 } ⟨a.room, a.eo, a.wd.keepL S (fun d ha o e => (hs.2 d fun z => a.wd.apart d ha (z ▸ a.eo.loc)).trans e) n', LocOK.put r S hn hi hk' rv n'⟩ S ⟨rfl, rfl, rfl⟩
theorem store_ok {Q : Unit → Shared → Prop} (a : AtS L c x σ₀ s₀ loc cs σ s) (hn : c.nm.Nodup) {i : Nat} {n : Str} {v : CV} {val : Value} (hi : c.nm[i]? = some n) (hk : c.kd n = some .local) (rv : RpA L x σ s val v)
    (q : ∀ s₁, AtS L c x σ₀ s₀ (loc.set i (some v)) cs σ s₁ → StepL x.env.locals x.F σ s.heap σ s₁.heap → Q () s₁) : wpAny (model L.D.prog L.D.w) x.A (storeName x.env n val) Q E s :=
  store_at a.toAt hn hi hk rv fun s₁ a₁ S l => q s₁ ⟨a₁, a.blk, a.go.trans ⟨S, l⟩⟩ S
end
end Mine
end

section
open PySem PySem.W PyProof.Rows
namespace Mine
noncomputable def noComp (e : Expr) : Bool := !(e.ctorIdx == 8 || (e.ctorIdx == 9 || e.ctorIdx == 10))
/-- a name of the block's own -/
noncomputable def own (c : Sc) (i : Nat) (x : Str) : Bool := c.nm[i]? == some x && c.kd x == some .local
noncomputable def mNames (c : Sc) : List Nat → List Expr → Bool
  | [], es => on0 es true
  | i :: is, es => match es with
    | [] => false
    | e :: es => onName e fun x _ => own c i x && mNames c is es
/-- the one case in which the model leaves the order of the stores open -/
noncomputable def badFold (e : Expr) : Bool := onTuple e fun vs _ _ => !vs.all (foldedForSure 8) && vs.all (constantsAlone 8)

noncomputable def mH (nm : Str) : H → Expr → Bool
  | .str u, e => onConstant e fun w _ _ => onCstr w fun x => u == x.cps.toList
  | .msg, e => onAttribute e fun b x _ => onName b fun y _ => y == nm && x == ("message" : Str)
  | .spot, e => onAttribute e fun b x _ => onName b fun y _ => y == nm && x == ("spot" : Str)
  | .div h n, e => onBinOp e fun l op r _ => op == .FloorDiv && onConstant r fun w _ _ => onCint w fun k => n == k && mH nm h l
  | .tup _, _ => false
noncomputable def mHs (nm : Str) : List H → List Expr → Bool
  | [], es => on0 es true
  | h :: hs, es => match es with
    | [] => false
    | e :: es => (!isStar e && mH nm h e) && mHs nm hs es

noncomputable def rowX (f : Nat) : X := .call f [.sub (.v 0) (.v 1), .bin .Mult (.k (.int 10)) (.v 1)]
noncomputable def compScope (scope : Scope) (x : Str) : Bool := scope.kind == .function && (scope.names.all (fun y => y.2 != .cell && (y.2 != .local || scope.names.lookup y.1 == some .local)) && scope.names.lookup x == some .local)
/-- what is asked of the row-making comprehension beside its shape: y the target, w the list's name, x the turn's -/
noncomputable def rowOK (N : Nm) (c : Sc) (i f j : Nat) (y x w : Str) (yl pl : Nat) (scope : Scope) (t elt : Expr) : Bool :=
  own c i y && (mE N c (.len (.v j)) t && (compScope scope x && (yl == pl && (!(scope.names.any fun (n, k) => n == y && (k == .local || k == .cell)) && (c.kd w == some .cell && (w != x &&
    ((scope.names.filter (·.2 == .free)).map (·.1) == [w] && (relK scope c.kd w == some .cell && mE N ⟨relK scope c.kd, [w, x]⟩ (rowX f) elt))))))))
noncomputable def mRow (N : Nm) (c : Sc) (i f j : Nat) (y : Str) (yp : Pos) (e : Expr) : Bool := onListComp e fun elt gens scope pos => on1 gens fun g => onName g.target fun x _ => onBlt c.kd "range" g.iter fun es => on1 es fun t => onSome c.nm[j]? fun w =>
  on0 g.ifs (decide (g.is_async = 0) && rowOK N c i f j y x w yp.line pos.line scope t elt)
noncomputable def onHandler (h : ExceptHandler) (f : Option Expr → Option Str → List Stmt → Bool) : Bool := match h with
  | .ExceptHandler t n b _ => f t n b
mutual
noncomputable def mS (N : Nm) (c : Sc) : S → Stmt → Bool
  | .bad, _ => true
  | .asg i y, s => onSAssign s fun ts v _ => on1 ts fun t => onName t fun x _ => own c i x && (mE N c y v && noComp v)
  | .asgr i f j, s => onSAssign s fun ts v _ => on1 ts fun t => onName t fun y yp => mRow N c i f j y yp v
  | .asgs is y, s => onSAssign s fun ts v _ => on1 ts fun t => onTuple t fun ts _ _ => mNames c is ts && (mE N c y v && (noComp v && (!badFold v && decide is.Nodup)))
  | .seta o n y, s => onSAssign s fun ts v _ => on1 ts fun t => onAttribute t fun t x _ => x == attrNm n && (mE N c o t && (mE N c y v && noComp v))
  | .seti o i y, s => onSAssign s fun ts v _ => on1 ts fun t => onSubscript t fun t j _ => mE N c o t && (mE N c i j && (mE N c y v && noComp v))
  | .aug i op y, s => onSAugAssign s fun t op' v _ => onName t fun x _ => own c i x && (op == op' && mE N c y v)
  | .auga o n op y, s => onSAugAssign s fun t op' v _ => onAttribute t fun t x _ => x == attrNm n && (op == op' && (mE N c o t && mE N c y v))
  | .ife t a b, s => onSIf s fun u x y _ => mE N c t u && (mSs N c a x && mSs N c b y)
  | .whl t b, s => onSWhile s fun u x o _ => on0 o (mE N c t u && mSs N c b x)
  | .for_ i y b, s => onSFor s fun t u x o _ => on0 o (onName t fun n _ => own c i n && (mE N c y u && (!isSet u && mSs N c b x)))
  | .forr i y b, s => onSFor s fun t u x o _ => on0 o (onName t fun n _ => own c i n && (onBlt c.kd "range" u fun es => on1 es fun v => mE N c y v && mSs N c b x))
  | .ret y, s => onSReturn s fun v _ => onSome v fun v => mE N c y v
  | .ex y, s => onSExpr s fun v _ => mE N c y v && noComp v
  | .rse m p, s => onSRaise s fun e f _ => f.isNone && onSome e fun e => onCall e fun g es ks _ => onName g fun x _ => on0 ks (on2 es fun a b => x == ("GrammarFault" : Str) && (isGl c.kd x && (mE N c m a && mE N c p b)))
  | .try_ b h, s => onSTry s fun x hs o f _ => on0 o (on0 f (on1 hs fun hd => onHandler hd fun t n bd => onSome t fun t => onName t fun y _ => onSome n fun n => on1 bd fun r => onSReturn r fun v _ => onSome v fun v => onTuple v fun es _ _ => match h with
    | .tup hs => mSs N c b x && (y == ("GrammarFault" : Str) && (isGl c.kd y && (c.kd n == some .local && (mHs n hs es && (n != ("__debug__" : Str) && decide (hs.length ≤ 1000))))))
    | _ => false))
  | .brk, s => onSBreak s fun _ => true
noncomputable def mSs (N : Nm) (c : Sc) : List S → List Stmt → Bool
  | [], es => on0 es true
  | x :: xs, es => match es with
    | [] => false
    | e :: es => mS N c x e && mSs N c xs es
end
end Mine
end

section
open PySem PySem.W PyProof.Rows PySem.Spec PySem.Calls
namespace Mine
/-- one object that is no list, tuple, dict or thing of the own class changes; all else stands -/
structure Chg (it : Addr) (h h' : Heap) : Prop where
  keep : ∀ a o, h.get? a = some o → a ≠ it → h'.get? a = some o
  was : ∃ o v, h.get? it = some o ∧ o.data = .fields v

section
variable {D : Gd} {h h' : Heap} {σ F : List Addr} {it : Addr}
theorem Chg.ne (c : Chg it h h') {a : Addr} {o : Obj} (e : h.get? a = some o) (n : NF o) : h'.get? a = some o := c.keep a o e fun q => by
  obtain ⟨o', v, e', d⟩ := c.was
  cases e.symm.trans (q ▸ e')
  exact n v d
theorem Chg.mp (c : Chg it h h') : Mp h σ F h' σ F := ⟨fun _ _ e _ _ n => c.ne e n, fun _ _ _ n1 n2 _ => ⟨n1, n2⟩, fun _ _ e => e⟩
theorem Chg.ns (c : Chg it h h') {L : Addr} {m : Str → Option Value} (n : h.Ns L m) : h'.Ns L m := let ⟨o, es, ep, e, d, q⟩ := n; ⟨o, es, ep, c.ne e (nf_dict d), d, q⟩
theorem Chg.has (c : Chg it h h') {a : Addr} (ne : a ≠ it) (q : h.get? a ≠ none) : h'.get? a ≠ none := by
  cases z : h.get? a with
  | none => exact absurd z q
  | some o => exact fun e => none_some (e.symm.trans (c.keep a o z ne))
theorem Rp.chg (c : Chg it h h') {v : Value} {x : CV} (r : Rp D h σ F v x) : Rp D h' σ F v x := r.map c.mp
theorem Wd.chg {envs : List Env} {cs : Cells} (W : Wd D envs F σ cs h) (c : Chg it h h') (n : D.base.get? it = none) (nF : it ∉ F) : Wd D envs F σ cs h' :=
  ⟨fun a o e => c.keep a o (W.base a o e) fun q => none_some (n.symm.trans (q ▸ e)), W.len, W.nd, W.new, W.apart, W.newF, fun i a x e1 e2 => (W.cells i a x e1 e2).map c.mp fun o e n => c.ne e n,
   fun env he => let ⟨q, L', m, e, n⟩ := W.frs env he; ⟨q, L', m, e, c.ns n⟩, W.inF, fun a m => c.has (fun q => nF (q ▸ m)) (W.exF a m)⟩
theorem StepL.chg {L : Addr} {σ₁ : List Addr} {h₁ h₂ : Heap} (S : StepL L F σ h σ₁ h₁) (c : Chg it h₁ h₂) (n : h.get? it = none) (nF : it ∉ F) : StepL L F σ h σ₁ h₂ :=
  ⟨S.pre, S.fresh, fun a o e n1 n2 => c.keep a o (S.keep a o e n1 n2) fun q => none_some (n.symm.trans (q ▸ e)), fun L' hL ne m q => c.ns (S.fr L' hL ne m q), fun L' hL o q =>
    let ⟨o1, e1, f1⟩ := S.frk L' hL o q
    ⟨o1, c.keep _ _ e1 (fun z => nF (z ▸ hL)), f1⟩⟩
theorem Chg.of_same (hs : Heap.SameBut it h h') {o : Obj} {v : Array Value} (e : h.get? it = some o) (d : o.data = .fields v) : Chg it h h' := ⟨fun a o e n => (hs.2 a n).trans e, ⟨o, v, e, d⟩⟩
theorem Chg.of_ext (hs : Heap.ExtBut it h h') {o : Obj} {v : Array Value} (e : h.get? it = some o) (d : o.data = .fields v) : Chg it h h' := ⟨fun a o e n => hs a o n e, ⟨o, v, e, d⟩⟩
/-- a loop's own iterator: new since the run began -/
structure New (D : Gd) (F : List Addr) (s₀ : Shared) (it : Addr) : Prop where
  base : D.base.get? it = none
  old : s₀.heap.get? it = none
  out : it ∉ F
theorem AtS.chg {L : Lng} {c : Sc} {x : Cx} {loc : Loc} {cs : Cells} {σ₀ : List Addr} {s s₀ s' : Shared} (a : AtS L c x σ₀ s₀ loc cs σ s) (g : Chg it s.heap s'.heap) (l : Later s s') (n : New L.D x.F s₀ it) : AtS L c x σ₀ s₀ loc cs σ s' :=
  ⟨⟨a.room, a.eo, a.wd.chg g n.base n.out, a.lo.map g.mp fun m q => g.ns q⟩, a.blk, a.go.st.chg g n.old n.out, a.go.lt.trans l⟩
/-- what is not there now was not there -/
theorem StepL.back {L : Addr} {σ' : List Addr} (S : StepL L F σ h σ' h') {cs : Cells} {envs : List Env} (W : Wd D envs F σ' cs h') {a : Addr} (n : h'.get? a = none) : h.get? a = none := by
  cases q : h.get? a with
  | none => rfl
  | some o =>
    by_cases hF : a ∈ F
    · exact absurd n (W.exF a hF)
    · by_cases hs : a ∈ σ
      · exact absurd n (W.there (S.pre.subset hs))
      · exact (none_some (n.symm.trans (S.keep _ _ q hs hF))).elim
theorem AtS.new {L : Lng} {c : Sc} {x : Cx} {loc : Loc} {cs : Cells} {σ₀ : List Addr} {s s₀ : Shared} (a : AtS L c x σ₀ s₀ loc cs σ s) {it : Addr} (n : s.heap.get? it = none) : New L.D x.F s₀ it := by
  refine ⟨?_, a.go.st.back a.wd n, fun m => a.wd.exF _ m n⟩
  cases q : L.D.base.get? it with
  | none => rfl
  | some o => exact (none_some (n.symm.trans (a.wd.base _ _ q))).elim
end
end Mine
end

section
open PySem PySem.W PyProof.Rows PySem.Spec PySem.Calls
namespace Mine
/-- all else stands; the frames' slots may change -/
structure Up (fr R : List Addr) (h h' : Heap) : Prop where
  out : ∀ a o, h.get? a = some o → a ∉ R → a ∉ fr → h'.get? a = some o
  frm : ∀ a o, h.get? a = some o → a ∉ R → a ∈ fr → ∃ sl, h'.get? a = some { o with slots := sl }
noncomputable def frsOf (envs : List Env) : List Addr := envs.filterMap (·.frame)

section
variable {D : Gd} {envs : List Env} {env : Env} {F σ Fx : List Addr} {s : Shared} {A : Around} {E : Value → Shared → Prop} {b : Nat} {m p : CV} {cs : Cells} {h₀ h' h'' : Heap}

theorem Wd.frsIn {h : Heap} (W : Wd D envs Fx σ cs h) {a : Addr} (ha : a ∈ frsOf envs) : a ∈ Fx ∧ ∃ o, h.get? a = some o ∧ isD o := by
  obtain ⟨e, he, hf⟩ := List.mem_filterMap.mp ha
  obtain ⟨_, L, m, e1, o, es, ep, z1, z2, _⟩ := W.frs e he
  cases e1.symm.trans hf
  exact ⟨W.inF e he _ e1, o, z1, es, ep, z2⟩
theorem Wd.notFr {h : Heap} (W : Wd D envs Fx σ cs h) {a : Addr} (n : h.get? a = none) : a ∉ frsOf envs := fun m => let ⟨_, _, e, _⟩ := W.frsIn m; none_some (n.symm.trans e)

theorem Fly.up {R : List Addr} (W : Wd D envs Fx σ cs h₀) (f : Fly Fx σ h₀ h') (u : Up (frsOf envs) R h' h'') (hR : ∀ a ∈ R, h₀.get? a = none) : Fly Fx σ h₀ h'' := by
  have nR : ∀ {a o}, h₀.get? a = some o → a ∉ R := fun e m => none_some ((hR _ m).symm.trans e)
  refine ⟨⟨List.prefix_refl _, fun _ hb hn => absurd hb hn, fun a o e n1 n2 => u.out a o (f.step.keep a o e n1 n2) (nR e) fun m => n2 (W.frsIn m).1, fun L hL m n => ?_, fun L hL o e => ?_⟩, fun a ha o e => u.out a o (f.cells a ha o e) (nR e) fun m => W.apart a ha (W.frsIn m).1⟩
  · obtain ⟨o, es, ep, z1, z2, z3⟩ := f.step.fr L hL m n
    have hn : L ∉ R := let ⟨_, _, _, z, _⟩ := n; nR z
    by_cases q : L ∈ frsOf envs
    · obtain ⟨sl, z⟩ := u.frm L o z1 hn q
      exact ⟨_, es, ep, z, z2, z3⟩
    · exact ⟨o, es, ep, u.out L o z1 hn q, z2, z3⟩
  · obtain ⟨o1, e1, f1⟩ := f.step.frk L hL o e
    by_cases q : L ∈ frsOf envs
    · obtain ⟨_, o', z, d⟩ := W.frsIn q
      cases e.symm.trans z
      obtain ⟨sl, z⟩ := u.frm L o1 e1 (nR e) q
      obtain ⟨es, ep, d1⟩ : isD o1 := f1.elim (fun q => q ▸ d) fun q => q.2
      exact ⟨_, z, f1.trans (.inr ⟨⟨es, ep, d1⟩, es, ep, d1⟩)⟩
    · exact ⟨o1, u.out L o1 e1 (nR e) q, f1⟩
theorem Fly.back (W : Wd D envs Fx σ cs h₀) (f : Fly Fx σ h₀ h') {a : Addr} (q : h'.get? a = none) : h₀.get? a = none := (f.step.toL a).back (W.keep f.step f.cells) q

theorem frames_ok (W : Wd D envs Fx σ cs h₀) (f : Fly Fx σ h₀ h') : h'.FunFrames D.base envs := by
  have key : ∀ l : List Env, (∀ e ∈ l, e ∈ envs) → h'.FunFrames D.base l := fun l => by
    induction l with
    | nil => exact fun _ => trivial
    | cons e l ih =>
      intro hl
      obtain ⟨k, L, m, e1, n⟩ := W.frs e (hl e List.mem_cons_self)
      have hL := W.inF e (hl e List.mem_cons_self) L e1
      obtain ⟨o, es, ep, z1, z2, _⟩ := f.step.fr L hL m n
      exact ⟨by rw [k]; decide, ⟨L, o, e1, none_of_size (W.newF L hL), z1, nf_dict z2⟩, ih fun e' he' => hl e' (List.mem_cons_of_mem _ he')⟩
  exact key envs fun _ h => h

/-- a traceback stands -/
noncomputable def HasTb (h' : Heap) (e : Value) : Prop := ∃ ea o vs T, e = .ref ea ∧ h'.get? ea = some o ∧ o.data = .fields vs ∧ vs[1]? = some (.ref T)

theorem Laid.keep {da : Addr} {mu : List Nat} {pi : Int} (k : ∀ o, h'.get? da = some o → h''.get? da = some o) (l : Laid h' da mu pi) : Laid h'' da mu pi := let ⟨g1, g2, t1, t2, t3, t4, n, e⟩ := l; ⟨g1, g2, t1, t2, t3, t4, n, k _ e⟩
theorem Laid.there {da : Addr} {mu : List Nat} {pi : Int} (l : Laid h' da mu pi) : h'.get? da ≠ none := let ⟨_, _, _, _, _, _, _, e⟩ := l; fun q => none_some (q.symm.trans e)
/-- a new entry on top of an exception's traceback -/
theorem entry_ok {ea da : Addr} {vs : Array Value} {head : Value} {hadNext : Bool} {M : Model} {Q : Unit → Shared → Prop} (hfr : A.frames = some envs) (hb : Blk envs env) (W : Wd D envs Fx σ cs h₀) (f : Fly Fx σ h₀ s.heap) (newE : h₀.get? ea = none) (newD : h₀.get? da = none) (ne : ea ≠ da)
    (he : s.heap.get? ea = some { cls := .ref D.CG, dict := some da, data := .fields vs }) (hsz : vs.size = 6) (laid : ∃ mu pi, m = .str mu ∧ p = .int pi ∧ Laid s.heap da mu pi)
    (q : ∀ s', Later s s' → ExcAt D Fx σ h₀ s'.heap (.ref ea) m p → HasTb s'.heap (.ref ea) → Q () s') :
    wpAny M A (do let a ← frameOf env; let pl ← entryPlaceOf env.locals hadNext; let b ← EntryCells.newEntry head a .none (rawInt env.locals) .none pl; setField (.ref ea) 1 b) Q E s := by
  obtain ⟨outer, rfl⟩ := hb.head
  have nE : ea ∉ frsOf (env :: outer) := W.notFr newE
  refine wpAny_bind (wpAny_frameOf_fun hfr (frames_ok W f) hb.frame fun h₁ hs₁ => ?_)
  refine wpAny_bind (wpAny_entryPlaceOf fun pl hpl => ?_)
  unfold EntryCells.newEntry newFields
  refine wpAny_bind (wpAny_newObj_type ?_ (hpl.sizeOk5 _ _ _ _ _))
  have hts : 4 ≤ ([head, .ref env.locals, .none, rawInt env.locals, .none] ++ (if pl.isEmpty then List.replicate 6 Value.none else pl)).toArray.size := by
    rw [List.size_toArray, List.length_append]
    exact Nat.le_trans (by decide) (Nat.le_add_right 5 _)
  generalize ([head, .ref env.locals, .none, rawInt env.locals, .none] ++ (if pl.isEmpty then List.replicate 6 Value.none else pl)).toArray = ts at hts ⊢
  have he₁ := (hs₁.2.1 ea nE).trans he
  have he₂ := Heap.get?_push_of_some (h := h₁) { cls := .type "traceback", dict := none, data := .fields ts } he₁
  refine wpAny_setField he₂ rfl (by rw [hsz]; decide) ?_
  have nT : h₁.objs.size ≠ ea := Nat.ne_of_gt (Heap.lt_size he₁)
  have gT : ((h₁.push { cls := .type "traceback", dict := none, data := .fields ts }).update ea (Obj.mapFields (·.setIfInBounds 1 (.ref h₁.objs.size)))).get? h₁.objs.size = some { cls := .type "traceback", dict := none, data := .fields ts, slots := #[] } :=
    (Heap.get?_update_other _ _ (Ne.symm nT)).trans (Heap.get?_push_size h₁ rfl)
  have ge : ((h₁.push { cls := .type "traceback", dict := none, data := .fields ts }).update ea (Obj.mapFields (·.setIfInBounds 1 (.ref h₁.objs.size)))).get? ea = some { cls := .ref D.CG, dict := some da, data := .fields (vs.setIfInBounds 1 (.ref h₁.objs.size)) } := Heap.get?_update_self _ he₂ rfl
  have other : ∀ {a : Addr} {o : Obj}, a ≠ ea → h₁.get? a = some o → ((h₁.push { cls := .type "traceback", dict := none, data := .fields ts }).update ea (Obj.mapFields (·.setIfInBounds 1 (.ref h₁.objs.size)))).get? a = some o := fun {a o} ha e =>
    (Heap.get?_update_other _ _ (Ne.symm ha)).trans (Heap.get?_push_of_some _ e)
  show Q () { s with heap := (h₁.push { cls := .type "traceback", dict := none, data := .fields ts }).update ea (Obj.mapFields (·.setIfInBounds 1 (.ref h₁.objs.size))) }
  generalize (h₁.push { cls := .type "traceback", dict := none, data := .fields ts }).update ea (Obj.mapFields (·.setIfInBounds 1 (.ref h₁.objs.size))) = h₂ at gT ge other ⊢
  have one : ∀ {a : Addr}, a ∉ [ea] → a ≠ ea := fun n z => n (List.mem_singleton.mpr z)
  have u : Up (frsOf (env :: outer)) [ea] s.heap h₂ := ⟨fun a o e n1 n2 => other (one n1) ((hs₁.2.1 a n2).trans e), fun a o e n1 n2 => let ⟨sl, z⟩ := hs₁.2.2 a o e; ⟨sl, other (one n1) z⟩⟩
  have g0 : h₀.get? h₁.objs.size = none := f.back W (none_of_size (Nat.le_of_eq hs₁.1.symm))
  obtain ⟨mu, pi, em, ep, ld⟩ := laid
  have nTd : h₁.objs.size ≠ da := fun z => ld.there (none_of_size (z ▸ Nat.le_of_eq hs₁.1.symm))
  have h1 : (vs.setIfInBounds 1 (.ref h₁.objs.size))[1]? = some (.ref h₁.objs.size) := by
    rw [Array.getElem?_setIfInBounds_self_of_lt (by rw [hsz]; decide)]
  exact q { s with heap := h₂ } ⟨rfl, rfl, rfl⟩ ⟨f.up W u fun a ha => List.mem_singleton.mp ha ▸ newE, ea, da, _, rfl, newE, newD, ne, ge, Array.size_setIfInBounds.trans hsz, .inr ⟨_, h1, g0, nT, nTd, _, _, _, _, gT, hts⟩,
    mu, pi, em, ep, ld.keep fun o e => u.out da o e (fun z => ne (List.mem_singleton.mp z).symm) (W.notFr newD)⟩ ⟨ea, _, _, _, rfl, ge, rfl, h1⟩

/-- the entry of this frame goes on top of the traceback -/
theorem note_ok (hfr : A.frames = some envs) (hb : Blk envs env) {e : Value} {Q : Unit → Shared → Prop} (W : Wd D envs Fx σ cs h₀) (x : ExcAt D Fx σ h₀ s.heap e m p)
    (q : ∀ s', Later s s' → ExcAt D Fx σ h₀ s'.heap e m p → HasTb s'.heap e → Q () s') : wpAny (model D.prog D.w) A (noteFrame e env) Q E s := by
  obtain ⟨ea, da, vs, rfl, i⟩ := x.obj
  unfold noteFrame
  simp only [hb.frame]
  rcases i.tb with h1 | ⟨T, t⟩
  · refine wpAny_bind (wpAny_field i.obj rfl h1 ?_)
    rw [if_neg (by decide)]
    exact entry_ok hfr hb W x.fly i.newE i.newD i.ne i.obj i.size i.laid q
  · obtain ⟨c, d, ts, sl, gT, hts⟩ := t.obj
    refine wpAny_bind (wpAny_field i.obj rfl t.here ?_)
    rw [if_pos (show (Value.ref T != Value.none) = true from rfl)]
    refine wpAny_bind (wpAny_field gT rfl (Array.getElem?_eq_getElem (Nat.lt_of_lt_of_le (by decide : 3 < 4) hts)) ?_)
    split
    · exact wpAny_pure (q s (Later.refl s) x ⟨ea, _, _, T, rfl, i.obj, rfl, t.here⟩)
    · refine wpAny_bind (wpAny_setField gT rfl (Nat.lt_of_lt_of_le (by decide : 3 < 4) hts) ?_)
      have other : ∀ a, a ≠ T → (s.heap.update T (Obj.mapFields (·.setIfInBounds 3 Value.none))).get? a = s.heap.get? a := fun a ha => Heap.get?_update_other _ _ (Ne.symm ha)
      have one : ∀ {a : Addr}, a ∉ [T] → a ≠ T := fun n z => n (List.mem_singleton.mpr z)
      have u : Up (frsOf envs) [T] s.heap (s.heap.update T (Obj.mapFields (·.setIfInBounds 3 Value.none))) := ⟨fun a o e n1 _ => (other a (one n1)).trans e, fun a o e n1 _ => ⟨o.slots, (other a (one n1)).trans e⟩⟩
      obtain ⟨mu, pi, em, ep, ld⟩ := i.laid
      exact entry_ok (s := { s with heap := s.heap.update T (Obj.mapFields (·.setIfInBounds 3 Value.none)) }) hfr hb W (x.fly.up W u fun a ha => List.mem_singleton.mp ha ▸ t.new) i.newE i.newD i.ne ((other ea (Ne.symm t.ne)).trans i.obj) i.size ⟨mu, pi, em, ep, ld.keep fun o e => (other da (Ne.symm t.nd)).trans e⟩
        fun s' l => q s' ⟨l.1, l.2, l.3⟩

/-- where the exception is in flight -/
theorem flight_ok {e : Value} {fr : Option Addr} {Q : Unit → Shared → Prop} (W : Wd D envs Fx σ cs h₀) (x : ExcAt D Fx σ h₀ s.heap e m p)
    (q : ∀ s', Later s s' → ExcAt D Fx σ h₀ s'.heap e m p → Q () s') : wpAny (model D.prog D.w) A (setFlight e fr) Q E s := by
  obtain ⟨ea, da, vs, rfl, i⟩ := id x.obj
  unfold setFlight
  rcases i.tb with h1 | ⟨T, t⟩
  · refine wpAny_bind (wpAny_field i.obj rfl h1 ?_)
    rw [if_neg (by decide)]
    exact wpAny_pure (q s (Later.refl s) x)
  · obtain ⟨c, d, ts, sl, gT, hts⟩ := t.obj
    refine wpAny_bind (wpAny_field i.obj rfl t.here ?_)
    rw [if_pos (show (Value.ref T != Value.none) = true from rfl)]
    refine wpAny_setField gT rfl (Nat.lt_of_lt_of_le (by decide : 3 < 4) hts) (q _ ⟨rfl, rfl, rfl⟩ ?_)
    have other : ∀ (f : Obj → Obj) a, a ≠ T → (s.heap.update T f).get? a = s.heap.get? a := fun f a ha => Heap.get?_update_other _ _ (Ne.symm ha)
    have one : ∀ {a : Addr}, a ∉ [T] → a ≠ T := fun n z => n (List.mem_singleton.mpr z)
    obtain ⟨mu, pi, em, ep, ld⟩ := i.laid
    exact ⟨x.fly.up (R := [T]) W ⟨fun a o e n1 _ => (other _ a (one n1)).trans e, fun a o e n1 _ => ⟨o.slots, (other _ a (one n1)).trans e⟩⟩ fun a ha => List.mem_singleton.mp ha ▸ t.new, ea, da, vs, rfl, i.newE, i.newD, i.ne, (other _ ea (Ne.symm t.ne)).trans i.obj, i.size,
      .inr ⟨T, t.here, t.new, t.ne, t.nd, c, d, _, sl, Heap.get?_update_self _ gT rfl, Nat.le_trans hts (Nat.le_of_eq Array.size_setIfInBounds.symm)⟩, mu, pi, em, ep, ld.keep fun o e => (other _ da (Ne.symm t.nd)).trans e⟩

theorem noted_at (R : Room A envs b) (Bk : Blk envs env) {e : Value} (W : Wd D envs Fx σ cs h₀) (x : ExcAt D Fx σ h₀ s.heap e m p)
    (q : ∀ s', Later s s' → ExcAt D Fx σ h₀ s'.heap e m p → HasTb s'.heap e → E e s') : notedBy (model D.prog D.w) A env E e s := note_ok R.frames Bk W x q
theorem came_at {e : Value} (W : Wd D envs Fx σ cs h₀) (x : ExcAt D Fx σ h₀ s.heap e m p) (t : HasTb s.heap e)
    (q : ∀ s', Later s s' → ExcAt D Fx σ h₀ s'.heap e m p → E e s') : cameBackBy (model D.prog D.w) A env E e s := by
  obtain ⟨ea, o, vs, T, rfl, ge, hd, h1⟩ := t
  unfold cameBackBy
  refine wpAny_bind (wpAny_field ge hd h1 ?_)
  rw [if_neg (show ¬ (Value.ref T == Value.none) = true from ff_tt)]
  exact flight_ok W x q
theorem left_at (R : Room A envs b) (Bk : Blk envs env) {e : Value} {Q : Unit → Shared → Prop} {E' : Value → Shared → Prop} (W : Wd D envs Fx σ cs h₀) (x : ExcAt D Fx σ h₀ s.heap e m p)
    (q : ∀ s', Later s s' → ExcAt D Fx σ h₀ s'.heap e m p → Q () s') : wpAny (model D.prog D.w) A (leaving env e) Q E' s := by
  unfold leaving
  exact wpAny_bind (note_ok R.frames Bk W x fun s1 l1 x1 _ => flight_ok W x1 fun s2 l2 x2 => q s2 (l1.trans l2) x2)
end
end Mine
end

section
open PySem PySem.W PyProof.Rows PySem.Spec PySem.Calls
namespace Mine
/-- what a loop's error road makes of it -/
noncomputable def Eloop (D : Gd) (x : Cx) (E : Value → Shared → Prop) : Value → Shared → Prop := notedBy (model D.prog D.w) x.A x.env fun e s' => cameBackBy (model D.prog D.w) x.A x.env E e s'

/-- m does what r says, from where it began -/
noncomputable def DoesS (L : Lng) (c : Sc) (m : Env → Sem Flow) (r : St → Res St Fl) : Prop :=
  ∀ {x σ₀ s₀ loc cs σ s}, AtS L c x σ₀ s₀ loc cs σ s → ∀ Q E, PostF L.D c.nm x σ₀ s₀ E (r (loc, cs)) (FK L.D x.F Q) → wpAny (model L.D.prog L.D.w) x.A (m x.env) Q E s
structure SVal (L : Lng) (c : Sc) (y : S) (st : Stmt) : Prop where
  run : DoesS L c (exec st) (exS L.G L.C y)
noncomputable def SndS (L : Lng) (y : S) : Prop := ∀ ⦃c st⦄, c.nm.Nodup → mS L.N c y st = true → SVal L c y st
noncomputable def BVal (L : Lng) (c : Sc) (ys : List S) (sts : List Stmt) : Prop := DoesS L c (execs sts) (exSs L.G L.C ys)
noncomputable def SndB (L : Lng) (ys : List S) : Prop := ∀ ⦃c sts⦄, c.nm.Nodup → mSs L.N c ys sts = true → BVal L c ys sts

section
variable {L : Lng} {c : Sc} {x : Cx} {loc : Loc} {cs : Cells} {σ σ₀ : List Addr} {s s₀ : Shared} {E : Value → Shared → Prop}
theorem PostF.loop {r : Res St Fl} {k : Fl → Loc → Cells → List Addr → Shared → Prop} (a : AtS L c x σ₀ s₀ loc cs σ s) (p : PostF L.D c.nm x σ₀ s₀ E r k) : PostF L.D c.nm x σ₀ s₀ (Eloop L.D x E) r k := by
  cases r with
  | ok _ _ => exact p
  | no => exact p
  | ex m z st => exact fun e σ' h₀ s' Fx i1 i2 W S y l => noted_at a.room a.blk W y fun s2 l2 y2 t2 => came_at W y2 t2 fun s3 l3 y3 => p e σ' h₀ s3 Fx i1 i2 W S y3 (l.trans (l2.trans l3))

theorem noSwap {v : Expr} (h : noComp v = true) (t : Option Expr) (n : Nat) (env : Env) : swapsWith v t n env = pure false := by
  cases v <;> first | rfl | exact (ff_tt h).elim

theorem SndB.nil : SndB L [] := fun c sts hn h => on0_is (P := fun sts => BVal L c [] sts) h fun _ => fun a Q E p => wpAny_execs_nil (a.done p .next)
theorem SndB.cons {y : S} {ys : List S} (hy : SndS L y) (hys : SndB L ys) : SndB L (y :: ys) := fun c sts hn h => match sts, h with
  | [], h => (ff_tt h).elim
  | st :: sts, h => fun a Q E p => wpAny_execs_cons ((hy hn (and_tt h).1).run a _ E ((PostF.bind p).mono fun f loc₁ cs₁ σ₁ s₁ W S l p fl r => by
    cases r with
    | next => exact hys hn (and_tt h).2 (a.re W S l) Q E p
    | brk => exact (a.re W S l).done p .brk
    | ret rv => exact p σ₁ s₁ W S trivial _ (.ret rv)))

theorem SndS.bad : SndS L .bad := fun _ _ _ _ => ⟨fun _ _ _ p => p.elim⟩
theorem SndS.brk : SndS L .brk := fun c st hn h => onSBreak_is (P := fun st => SVal L c .brk st) h fun pos _ => ⟨fun a Q E p => wpAny_Break (a.done p .brk)⟩
theorem SndS.ret {y : X} (hy : Snd L y) : SndS L (.ret y) := fun c st hn h => onSReturn_is (P := fun st => SVal L c (.ret y) st) h fun v pos h => onSome_is (P := fun v => SVal L c (.ret y) (.Return v pos)) h fun v h => ⟨fun a Q E p =>
  wpAny_Return_some (Val.ands (hy h).1 a p fun v cs₁ σ₁ s₁ a₁ S₁ p va ra => a₁.done p (.ret ra))⟩
theorem SndS.ex {y : X} (hy : Snd L y) : SndS L (.ex y) := fun c st hn h => onSExpr_is (P := fun st => SVal L c (.ex y) st) h fun v pos h => ⟨fun a Q E p =>
  wpAny_Expr_any (Val.ands (hy (and_tt h).1).1 a p fun v cs₁ σ₁ s₁ a₁ S₁ p va ra => a₁.done p .next) (by unfold interactive; rw [a.eo.kind]; rfl) (noSwap (and_tt h).2 _ _ _)⟩
theorem SndS.ife {t : X} {y z : List S} (ht : Snd L t) (hy : SndB L y) (hz : SndB L z) : SndS L (.ife t y z) := fun c st hn h => onSIf_is (P := fun st => SVal L c (.ife t y z) st) h fun u v w pos h => ⟨fun a Q E p =>
  wpAny_If (Tst.ands (ht (and_tt h).1).2 (k := fun t s => match t with | true => exSs L.G L.C y s | false => exSs L.G L.C z s) a p fun t cs₁ σ₁ s₁ a₁ p => match t, p with
    | true, p => hy hn (and_tt (and_tt h).2).1 a₁ Q E p
    | false, p => hz hn (and_tt (and_tt h).2).2 a₁ Q E p)⟩
theorem own_nm {i : Nat} {n : Str} (h : own c i n = true) : c.nm[i]? = some n := eq_of_beq (and_tt h).1
theorem own_kd {i : Nat} {n : Str} (h : own c i n = true) : c.kd n = some .local := eq_of_beq (and_tt h).2
/-- a value goes into a name of the block's own, and the statement ends -/
theorem put_in {Q : Flow → Shared → Prop} (hn : c.nm.Nodup) {i : Nat} {n : Str} (h : own c i n = true) (a : AtS L c x σ₀ s₀ loc cs σ s) {v : CV} {val : Value} (rv : RpA L x σ s val v) (p : PostF L.D c.nm x σ₀ s₀ E (.ok .next (loc.set i (some v), cs)) (FK L.D x.F Q)) :
    wpAny (model L.D.prog L.D.w) x.A (storeName x.env n val) (fun _ => Q .next) E s := store_ok a hn (own_nm h) (own_kd h) rv fun s₁ a₁ _ => a₁.done p .next
theorem SndS.asg (i : Nat) {y : X} (hy : Snd L y) : SndS L (.asg i y) := fun c st hn h => onSAssign_is (P := fun st => SVal L c (.asg i y) st) h fun ts v pos h => on1_is (P := fun ts => SVal L c (.asg i y) (.Assign ts v pos)) h fun t h =>
  onName_is (P := fun t => SVal L c (.asg i y) (.Assign [t] v pos)) h fun n np h => ⟨fun a Q E p =>
    wpAny_Assign_Name (Val.ands (hy (and_tt (and_tt h).2).1).1 a p fun v cs₁ σ₁ s₁ a₁ S₁ p va ra => put_in hn (and_tt h).1 a₁ ra p) (noSwap (and_tt (and_tt h).2).2 _ _ _)⟩
theorem aug_ok {Q : Value → Shared → Prop} {op : Operator} {y w z : CV} {va vb : Value} {h : Heap} {F : List Addr} (e : augOp op y w = some z) (ra : Rp L.D h σ F va y) (rb : Rp L.D h σ F vb w)
    (q : ∀ v, Rp L.D h σ F v z → Q v { s with toks := s.toks + 1 }) : wpAny (model L.D.prog L.D.w) x.A (inplaceOp op va vb) Q E s := by
  have fin : ∀ {i : Int} (t : Tok), some (CV.int i) = some z → Q (.int i t) { s with toks := s.toks + 1 } := fun t e => by cases e; exact q _ (.int _ _)
  cases op with
  | Add => exact both_as (P := fun va vb => wpAny (model L.D.prog L.D.w) x.A (inplaceOp .Add va vb) Q E s) ra rb e fun i j t u e => AutoIntOps.iadd_0 (fin _ e)
  | Sub => exact both_as (P := fun va vb => wpAny (model L.D.prog L.D.w) x.A (inplaceOp .Sub va vb) Q E s) ra rb e fun i j t u e => AutoIntOps.isub_0 (fin _ e)
  | _ => exact (none_some e).elim
/-- a name of the block's own is read -/
theorem own_get {Q : Value → Shared → Prop} {i : Nat} {n : Str} (h : own c i n = true) (a : At L c x loc cs σ s) {v : CV} (e : loc[i]?.join = some v) (q : ∀ val, RpA L x σ s val v → Q val s) : wpAny (model L.D.prog L.D.w) x.A (loadName x.env n) Q E s := by
  obtain ⟨m, n0, r⟩ := a.lo
  obtain ⟨w, hw, z⟩ := r i n v (own_nm h) (join_some e)
  have hk := (a.eo.kd n).trans (own_kd h)
  exact wpAny_loadName_local a.eo.kind hk n0 (z.elim (fun q => q.2) fun q => NameKind.noConfusion (Option.some.inj (hk.symm.trans q.1))) (q w hw)
theorem AtS.tok (a : AtS L c x σ₀ s₀ loc cs σ s) (tk : Nat) : AtS L c x σ₀ s₀ loc cs σ { s with toks := tk } := a.on a.wd ⟨Step.refl _ _ _, rfl, rfl, rfl⟩
theorem SndS.aug (i : Nat) (op : Operator) {y : X} (hy : Snd L y) : SndS L (.aug i op y) := fun c st hn h => onSAugAssign_is (P := fun st => SVal L c (.aug i op y) st) h fun t op' v pos h => onName_is (P := fun t => SVal L c (.aug i op y) (.AugAssign t op' v pos)) h fun n np h => ⟨fun a Q E p => by
  cases eq_of_beq (and_tt (and_tt h).2).1
  exact PostF.got p fun u e p => wpAny_AugAssign_Name (own_get (and_tt h).1 a.toAt e fun vu ru => Val.ands (hy (and_tt (and_tt h).2).2).1 a p fun v cs₁ σ₁ s₁ a₁ S₁ p vb rb =>
    PostF.got p fun z e p => aug_ok e (ru.step S₁.st) rb fun vz rz => put_in hn (and_tt h).1 (a₁.tok _) rz p)⟩
end
end Mine
end

section
open PySem PySem.W PyProof.Rows PySem.Spec PySem.Calls
namespace Mine
theorem setItem_at {prog : Program} {w : World} {A : Around} {E : Value → Shared → Prop} {s : Shared} {l : Addr} {items : Array Value} {n : Nat} {k : Int} {t : Tok} {v : Value} {Q : Unit → Shared → Prop} (ho : s.heap.get? l = some (PySem.W.listOf items n))
    (h0 : 0 ≤ k) (hfit : k < 2 ^ 63) (hn : k < items.size)
    (hQ : ∀ h', h'.get? l = some (PySem.W.listOf (items.setIfInBounds k.toNat v) n) → Heap.SameBut l s.heap h' → Q () { s with heap := h' }) :
    wpAny (model prog w) A (setItem (.ref l) (.int k t) v) Q E s := by
  have hl : s.heap.IsList l items := ⟨_, ho, rfl, n, rfl⟩
  unfold setItem
  try with_reducible refine wpAny_holding ?_
  first | refine wpAny_bind (wpAny_pure ?_) | skip
  refine wpAny_bind (wpAny_sequenceKey hl.typeIs (by decide) ?_)
  refine wpAny_bind (wpAny_callSpecial?_slot (name := Str.ofString "__setitem__") hl.typeIs slot_list_setitem
    (wpAny_call_entry slot_list_setitem hl.typeIs entry_list_setitem ?_ (args_list_setitem _ _ _)))
  show wpAny _ _ (Builtin.List.listSubscript? (.int k t) >>= _) _ _ s
  refine wpAny_bind (wpAny_listSubscript_int (fitsIndex_of h0 hfit) ?_)
  clear hfit
  obtain ⟨j, rfl⟩ := Int.eq_ofNat_of_zero_le h0
  have hj : j < items.size := by omega
  have hx' : items[j]? = some items[j] := Array.getElem?_eq_getElem hj
  show wpAny _ _ ((seqItemAt l j >>= fun r => pure (r.map (j, ·))) >>= _) _ _ s
  refine wpAny_bind (wpAny_bind (wpAny_seqItemAt ho rfl (wpAny_pure ?_)))
  rw [hx']
  show wpAny _ _ (setSeqItemAt l j v >>= _) _ _ s
  have hfin : (s.heap.update l (Obj.mapSeq (·.setIfInBounds j v))).get? l = some (PySem.W.listOf (items.setIfInBounds j v) n) := by
    rw [Heap.get?_update_self _ ho (by simp [Obj.mapSeq]; rfl)]
    simp [Obj.mapSeq]
  refine wpAny_bind (wpAny_setSeqItemAt ho rfl ?_)
  first
    | exact wpAny_bind (wpAny_pure (wpAny_pure ⟨.none, rfl, wpAny_pure (hQ _ hfin (Heap.SameBut.update ..))⟩))
    | exact wpAny_pure ⟨.none, rfl, wpAny_pure (hQ _ hfin (Heap.SameBut.update ..))⟩

section
variable {L : Lng} {c : Sc} {x : Cx} {loc : Loc} {cs : Cells} {σ σ₀ : List Addr} {s s₀ : Shared} {E : Value → Shared → Prop}
theorem At.upds (a : AtS L c x σ₀ s₀ loc cs σ s) {cs' : Cells} {h' : Heap} {tk : Nat} (g : Wd L.D x.envs x.F σ cs' h' ∧ Step x.F σ s.heap σ h') : AtS L c x σ₀ s₀ loc cs' σ { s with heap := h', toks := tk } := a.on (s₁ := { s with heap := h', toks := tk }) g.1 g.2.go
theorem lay_ok {Q : Flow → Shared → Prop} (a : AtS L c x σ₀ s₀ loc cs σ s) {v u w : CV} {va vb vc : Value} (ra : RpA L x σ s va v) (rb : RpA L x σ s vb u) (rc : RpA L x σ s vc w)
    (p : PostF L.D c.nm x σ₀ s₀ E (u.onLst .no fun i => w.onInt .no fun j => got (listAt cs i) fun xs => if 0 ≤ j ∧ j < 100000 ∧ j.toNat < xs.length then .ok .next (loc, cs.set i (.list (xs.set j.toNat v))) else .no) (FK L.D x.F Q)) :
    wpAny (model L.D.prog L.D.w) x.A (setItem vb vc va) (fun _ => Q .next) E s :=
  PostF.lst (P := fun u => RpA L x σ s vb u → wpAny (model L.D.prog L.D.w) x.A (setItem vb vc va) (fun _ => Q .next) E s) p (fun i p rb => PostF.int (P := fun w => RpA L x σ s vc w → wpAny (model L.D.prog L.D.w) x.A (setItem vb vc va) (fun _ => Q .next) E s) p (fun j p rc => by
    obtain ⟨d, rfl, hc⟩ := rb.view
    obtain ⟨t, rfl⟩ := rc.view
    refine PostF.got p fun xs ex p => PostF.ite p fun q p => ?_
    obtain ⟨vs, n, eo, r⟩ := cell_list a.wd hc ex
    refine setItem_at eo q.1 (Int.lt_trans q.2.1 (by decide)) (by rw [List.size_toArray, r.length]; exact (Int.toNat_lt q.1).mp q.2.2) fun h' he hs => ?_
    exact (At.upds a (tk := s.toks) (a.upd hc hs (y := .list (xs.set j.toNat v)) fun S => ⟨vs.set j.toNat va, n, by rw [he, List.setIfInBounds_toArray], (r.step S).set _ (ra.step S)⟩)).done p .next) rc) rb
theorem SndS.seti {o i y : X} (ho : Snd L o) (hi : Snd L i) (hy : Snd L y) : SndS L (.seti o i y) := fun c st hn h => onSAssign_is (P := fun st => SVal L c (.seti o i y) st) h fun ts v pos h => on1_is (P := fun ts => SVal L c (.seti o i y) (.Assign ts v pos)) h fun t h =>
  onSubscript_is (P := fun t => SVal L c (.seti o i y) (.Assign [t] v pos)) h fun t j tp h => ⟨fun a Q E p =>
    wpAny_Assign_Subscript (Val.ands (hy (and_tt (and_tt (and_tt h).2).2).1).1 a p fun v cs₁ σ₁ s₁ a₁ S₁ p va ra => Val.ands (ho (and_tt h).1).1 a₁ p fun u cs₂ σ₂ s₂ a₂ S₂ p vb rb => Val.ands (hi (and_tt (and_tt h).2).1).1 a₂ p fun w cs₃ σ₃ s₃ a₃ S₃ p vc rc =>
      lay_ok a₃ ((ra.step S₂.st).step S₃.st) (rb.step S₃.st) rc p) (noSwap (and_tt (and_tt (and_tt h).2).2).2 _ _ _)⟩
theorem upd_of {d : Addr} {o o' : Obj} : ∀ {l : List (Addr × Obj)}, (d, o) ∈ l → l.Pairwise (fun p q => p.1 < q.1) → ∃ l', Upd d o o' l l' ∧ (d, o') ∈ l' ∧ ∀ p ∈ l, p.1 ≠ d → p ∈ l'
  | [], m, _ => (List.not_mem_nil m).elim
  | p :: l, m, w => by
    have w' := List.pairwise_cons.mp w
    by_cases q : p = (d, o)
    · subst q
      exact ⟨(d, o') :: l, .head fun q hq e => Nat.lt_irrefl _ (e ▸ w'.1 q hq), .head _, fun q hq ne => (List.mem_cons.mp hq).elim (fun z => absurd (congrArg (·.1) z) ne) (.tail _)⟩
    · have m := (List.mem_cons.mp m).resolve_left (Ne.symm q)
      obtain ⟨l', U, h1, h2⟩ := upd_of m w'.2
      exact ⟨p :: l', .tail (fun e => Nat.lt_irrefl _ (e ▸ w'.1 _ m)) U, .tail _ h1, fun q hq ne => (List.mem_cons.mp hq).elim (fun z => z ▸ .head _) fun m => .tail _ (h2 q m ne)⟩

/-- the entries of a thing of the own class, three at most -/
noncomputable def Entn (D : Gd) (h : Heap) (σ F : List Addr) (x : Cell) (l : List DictEntry) : Prop := ∃ i er ei ed, x = .inst i.r i.a i.d ∧ l = er ++ ei ++ ed ∧ Ents D h σ F i er ei ed
theorem Ent.len {D : Gd} {h : Heap} {σ F : List Addr} {y : String} {o : Option CV} {l : List DictEntry} (e : Ent D h σ F y o l) : l.length ≤ 1 := match o, e with
  | none, e => (e : l = []) ▸ Nat.zero_le _
  | some _, ⟨_, _, _, e, _⟩ => e ▸ Nat.le_refl _
theorem Entn.len {D : Gd} {h : Heap} {σ F : List Addr} {y : Cell} {l : List DictEntry} (e : Entn D h σ F y l) : l.length ≤ 1000 := by
  obtain ⟨i, er, ei, ed, _, rfl, E⟩ := e
  rw [List.length_append, List.length_append]
  exact Nat.le_trans (Nat.add_le_add (Nat.add_le_add E.r.len E.a.len) E.d.len) (by decide)
theorem Entn.map {D : Gd} {h h' : Heap} {σ F : List Addr} (S : Step F σ h σ h') {y : Cell} {l : List DictEntry} (e : Entn D h σ F y l) : Entn D h' σ F y l :=
  let ⟨i, er, ei, ed, h1, h2, E⟩ := e
  ⟨i, er, ei, ed, h1, h2, E.r.step S, E.a.step S, E.d.step S⟩
theorem Ent.new {D : Gd} {h : Heap} {σ F : List Addr} {y : String} {v : CV} {val : Value} (rv : Rp D h σ F val v) (hs : Int) (tk : Tok) : Ent D h σ F y (some v) [⟨hs, .str (Str.ofString y) tk, val⟩] := ⟨hs, tk, val, rfl, rv⟩
theorem getL_none {n : Str} {es : List DictEntry} (h1 : es.find? (Nam n) = none) (h2 : es.any (·.refKey) = false) : (getL n es).isSome = true := by
  unfold getL
  rw [h1, h2]; rfl
theorem getL_some {n : Str} {es : List DictEntry} {en : DictEntry} (h1 : es.find? (Nam n) = some en) : (getL n es).isSome = true := by rw [getL_of h1]; rfl
theorem some_of {α : Type} {o : Option α} (h : o.isSome = true) : ∃ a, o = some a := Option.isSome_iff_exists.mp h
theorem none_of {α : Type} {o : Option α} (h : o.isNone = true) : o = none := Option.isNone_iff_eq_none.mp h
/-- a store into an entry that stands or, at the end, into one that does not: ahead of it l, whose names differ -/
noncomputable def Put (D : Gd) (h : Heap) (σ F : List Addr) (x : Cell) (n : Str) (hs : Int) (tk : Tok) (val : Value) (l : List DictEntry) : Prop := Entn D h σ F x (putL n hs (.str n tk) val l) ∧ (getL n l).isSome = true
theorem put_ent {D : Gd} {h : Heap} {σ F : List Addr} {i : Inst} {er ei ed : List DictEntry} (E : Ents D h σ F i er ei ed) {n : Nat} {v : CV} {val : Value} (rv : Rp D h σ F val v) {x : Cell} (e : putA i n v = some x) (hs : Int) (tk : Tok) : Put D h σ F x (attrNm n) hs tk val (er ++ ei ++ ed) := by
  obtain ⟨r, a, d⟩ := i
  unfold Put
  rw [List.append_assoc]
  match n with
  | 0 =>
    obtain ⟨q, rfl⟩ := ofIf_is (e : ofIf _ _ = some x)
    cases r with
    | some z =>
      obtain ⟨w, f, _, g⟩ := E.r.hit
      obtain ⟨l', g, _, k⟩ := g hs (.str (Str.ofString "rows") tk) val
      obtain ⟨en, f, _⟩ := f (ei ++ ed)
      exact ⟨⟨⟨some v, a, d⟩, l', ei, ed, rfl, (g _).trans (List.append_assoc _ _ _).symm, k rv, E.a, E.d⟩, getL_some f⟩
    | none =>
      have q : (a.isNone && d.isNone) = true := q
      cases (E.r : er = [])
      cases none_of (and_tt q).1
      cases (E.a : ei = [])
      cases none_of (and_tt q).2
      cases (E.d : ed = [])
      exact ⟨⟨⟨some v, none, none⟩, _, [], [], rfl, rfl, .new rv hs tk, rfl, rfl⟩, rfl⟩
  | 1 =>
    obtain ⟨q, rfl⟩ := ofIf_is (e : ofIf _ _ = some x)
    obtain ⟨s1, s2, s3⟩ := E.r.skip ne_ra
    show Entn D h σ F _ (putL (Str.ofString "at") hs _ val (er ++ (ei ++ ed))) ∧ (getL (Str.ofString "at") _).isSome = true
    rw [s3]
    cases a with
    | some z =>
      obtain ⟨w, f, _, g⟩ := E.a.hit
      obtain ⟨l', g, _, k⟩ := g hs (.str (Str.ofString "at") tk) val
      obtain ⟨en, f, _⟩ := f ed
      exact ⟨⟨⟨r, some v, d⟩, er, l', ed, rfl, (congrArg (er ++ ·) (g _)).trans (List.append_assoc _ _ _).symm, E.r, k rv, E.d⟩, getL_some ((s1 _).trans f)⟩
    | none =>
      cases none_of (and_tt q).2
      cases (E.a : ei = [])
      cases (E.d : ed = [])
      exact ⟨⟨⟨r, some v, none⟩, er, _, [], rfl, (List.append_nil _).symm, E.r, .new rv hs tk, rfl⟩, getL_none ((s1 []).trans rfl) ((s2 []).trans rfl)⟩
  | 2 =>
    obtain ⟨q, rfl⟩ := ofIf_is (e : ofIf _ _ = some x)
    obtain ⟨s1, s2, s3⟩ := E.r.skip ne_rd
    obtain ⟨t1, t2, t3⟩ := E.a.skip ne_ad
    show Entn D h σ F _ (putL (Str.ofString "deep") hs _ val (er ++ (ei ++ ed))) ∧ (getL (Str.ofString "deep") _).isSome = true
    rw [s3, t3]
    cases d with
    | some z =>
      obtain ⟨w, f, _, g⟩ := E.d.hit
      obtain ⟨l', g, _, k⟩ := g hs (.str (Str.ofString "deep") tk) val
      have g := g []
      rw [List.append_nil, List.append_nil] at g
      obtain ⟨en, f, _⟩ := f []
      rw [List.append_nil] at f
      exact ⟨⟨⟨r, a, some v⟩, er, ei, l', rfl, (congrArg (fun z => er ++ (ei ++ z)) g).trans (List.append_assoc _ _ _).symm, E.r, E.a, k rv⟩, getL_some ((s1 _).trans ((t1 _).trans f))⟩
    | none =>
      cases (E.d : ed = [])
      exact ⟨⟨⟨r, a, some v⟩, er, ei, _, rfl, (List.append_assoc _ _ _).symm, E.r, E.a, .new rv hs tk⟩, getL_none ((s1 _).trans ((t1 []).trans rfl)) ((s2 _).trans ((t2 []).trans rfl))⟩
  | n + 3 => exact (none_some e).elim

/-- the store into an attribute of the words -/
theorem setA_ok (Z : Fx L) (Y : ClsOK L.K L.D.CW) (a : AtS L c x σ₀ s₀ loc cs σ s) {cs' : Cells} {Q : Unit → Shared → Prop} {o val : Value} {w v : CV} {n : Nat} (ra : RpA L x σ s o w) (rv : RpA L x σ s val v) (e : setAOp cs w n v = some cs')
    (q : ∀ s₁, AtS L c x σ₀ s₀ loc cs' σ s₁ → Q () s₁) : wpAny (model L.D.prog L.D.w) x.A (setAttr o (attrNm n) val) Q E s := by
  obtain ⟨j, rfl, e⟩ := CV.onObj_is none_some e
  obtain ⟨i, ei, e⟩ := Option.bind_eq_some_iff.mp e
  obtain ⟨y, ey, rfl⟩ := Option.map_eq_some_iff.mp e
  obtain ⟨oa, d, rfl, ho, _, _, hc⟩ := ra.view
  obtain ⟨er, ei, ed, k, eo, es⟩ := inst_of a.toAt hc ei
  obtain ⟨m, nL⟩ := a.ns
  have hd : d ∈ σ := List.mem_of_getElem? hc
  have ndL : d ≠ x.env.locals := fun z => a.wd.apart d hd (z ▸ a.eo.loc)
  obtain ⟨en, hsome⟩ := put_ent es rv ey (PyData.keyHash L.D.w.params (attrNm n)) (s.toks + 1)
  generalize er ++ ei ++ ed = l at eo en hsome
  obtain ⟨news', U, m1, m2⟩ := upd_of (o' := dictOf (putL (attrNm n) (PyData.keyHash L.D.w.params (attrNm n)) (.str (attrNm n) (s.toks + 1)) val l) (putN (attrNm n) l k)) (allN_mem.mpr ⟨eo, ndL, none_of_size (a.wd.new d hd)⟩ : (d, dictOf l k) ∈ allN L.D.base x.env.locals s.heap) (allN_sorted L.D.base x.env.locals s.heap)
  refine set_dict (a.wd.fr a.eo.loc nL) Z.X (allN_news L.D.base x.env.locals s.heap) (C := L.D.CW) (es := l) (n := k) ⟨ho, rfl, rfl, eo⟩ rfl Y.hset Y.plain (Y.taker n) Y.hasD hsome rfl U en.len fun h' f' N' => ?_
  have kk : ∀ b o, s.heap.get? b = some o → b ≠ x.env.locals → b ≠ d → h'.get? b = some o := fun b o e hbL hbd => by
    cases z : L.D.base.get? b with
    | some o' => cases e.symm.trans (a.wd.base b o' z); exact f'.keep b _ z
    | none => exact N'.get (m2 (b, o) (allN_mem.mpr ⟨e, hbL, z⟩) hbd)
  have S := Step.updL a.wd hc a.eo.loc kk nL f'.ns
  obtain ⟨i', er', ei', ed', rfl, eq, E'⟩ := en.map S
  exact q _ (At.upds a ⟨a.wd.updL hc a.eo.loc kk nL f'.ns ⟨er', ei', ed', _, eq ▸ N'.get m1, E'.r, E'.a, E'.d⟩, S⟩)
theorem SndS.seta (Z : Fx L) (Y : ClsOK L.K L.D.CW) (n : Nat) {o y : X} (ho : Snd L o) (hy : Snd L y) : SndS L (.seta o n y) := fun c st hn h => onSAssign_is (P := fun st => SVal L c (.seta o n y) st) h fun ts v pos h => on1_is (P := fun ts => SVal L c (.seta o n y) (.Assign ts v pos)) h fun t h =>
  onAttribute_is (P := fun t => SVal L c (.seta o n y) (.Assign [t] v pos)) h fun t m tp h => ⟨fun a Q E p => by
    cases eq_of_beq (and_tt h).1
    have h := (and_tt h).2
    exact plainObj_wpAny_Assign_Attribute (Val.ands (hy (and_tt (and_tt h).2).1).1 a p fun v cs₁ σ₁ s₁ a₁ S₁ p va ra => Val.ands (ho (and_tt h).1).1 a₁ p fun w cs₂ σ₂ s₂ a₂ S₂ p vb rb =>
      PostF.got p fun cs₃ e p => setA_ok Z Y a₂ rb (ra.step S₂.st) e fun s₃ a₃ => a₃.done p .next) (noSwap (and_tt (and_tt h).2).2 _ _ _)⟩
theorem SndS.auga (Z : Fx L) (Y : ClsOK L.K L.D.CW) (n : Nat) (op : Operator) {o y : X} (ho : Snd L o) (hy : Snd L y) : SndS L (.auga o n op y) := fun c st hn h => onSAugAssign_is (P := fun st => SVal L c (.auga o n op y) st) h fun t op' v pos h =>
  onAttribute_is (P := fun t => SVal L c (.auga o n op y) (.AugAssign t op' v pos)) h fun t m tp h => ⟨fun a Q E p => by
    cases eq_of_beq (and_tt h).1
    have h := (and_tt h).2
    cases eq_of_beq (and_tt h).1
    exact wpAny_AugAssign_AttributeAny (Val.ands (ho (and_tt (and_tt h).2).1).1 a p fun w cs₁ σ₁ s₁ a₁ S₁ p vb rb => PostF.got p fun u e p => attr_ok Z Y a₁.toAt rb e fun va tk ra =>
      Val.ands (hy (and_tt (and_tt h).2).2).1 (a₁.tok tk) p fun v cs₃ σ₃ s₃ a₃ S₃ p vc rc => PostF.got p fun z e p => aug_ok e (ra.step S₃.st) rc fun vz rz => PostF.got p fun cs₄ e p =>
        setA_ok Z Y (a₃.tok _) (rb.step S₃.st) rz e fun s₄ a₄ => a₄.done p .next)⟩
end
end Mine
end

section
open PySem PySem.W PyProof.Rows PySem.Spec PySem.Calls
namespace Mine
theorem putAll_nil {vs : List CV} {loc l : Loc} (e : putAll [] vs loc = some l) : vs = [] ∧ loc = l := ⟨List.isEmpty_iff.mp (ofIf_is (e : ofIf _ _ = some l)).1, (ofIf_is (e : ofIf _ _ = some l)).2⟩
theorem putAll_ind {i : Nat} {is : List Nat} {vs : List CV} {loc l : Loc} (e : putAll (i :: is) vs loc = some l) : ∃ v r, vs = v :: r ∧ putAll is r (loc.set i (some v)) = some l := match vs, e with
  | [], e => (none_some e).elim
  | v :: r, e => ⟨v, r, rfl, e⟩
theorem putAll_comm {i : Nat} {v : CV} : ∀ {is : List Nat} {vs : List CV} {loc l : Loc}, i ∉ is → putAll is vs (loc.set i (some v)) = some l → ∃ l0, putAll is vs loc = some l0 ∧ l = l0.set i (some v)
  | [], vs, loc, l, _, e => by
    obtain ⟨rfl, rfl⟩ := putAll_nil e
    exact ⟨loc, rfl, rfl⟩
  | j :: is, vs, loc, l, hi, e => by
    obtain ⟨w, r, rfl, e'⟩ := putAll_ind e
    rw [List.set_comm _ _ (show i ≠ j from fun z => hi (z ▸ List.mem_cons_self))] at e'
    exact putAll_comm (is := is) (fun m => hi (List.mem_cons_of_mem _ m)) e'
theorem putAll_snoc {i : Nat} {v : CV} : ∀ {is : List Nat} {vs : List CV} {loc l : Loc}, putAll is vs loc = some l → putAll (is ++ [i]) (vs ++ [v]) loc = some (l.set i (some v))
  | [], vs, loc, l, e => by
    obtain ⟨rfl, rfl⟩ := putAll_nil e
    rfl
  | j :: is, vs, loc, l, e => by
    obtain ⟨w, r, rfl, e'⟩ := putAll_ind e
    exact putAll_snoc (is := is) e'
theorem putAll_reverse : ∀ {is : List Nat} {vs : List CV} {loc l : Loc}, is.Nodup → putAll is vs loc = some l → putAll is.reverse vs.reverse loc = some l
  | [], vs, loc, l, _, e => by
    obtain ⟨rfl, rfl⟩ := putAll_nil e
    rfl
  | i :: is, vs, loc, l, hn, e => by
    obtain ⟨w, r, rfl, e'⟩ := putAll_ind e
    obtain ⟨l0, e0, rfl⟩ := putAll_comm (List.nodup_cons.mp hn).1 e'
    rw [List.reverse_cons, List.reverse_cons]
    exact putAll_snoc (putAll_reverse (List.nodup_cons.mp hn).2 e0)
theorem putAll_len : ∀ {is : List Nat} {vs : List CV} {loc l : Loc}, putAll is vs loc = some l → vs.length = is.length
  | [], vs, loc, l, e => congrArg List.length (putAll_nil e).1
  | i :: is, vs, loc, l, e => by
    obtain ⟨w, r, rfl, e'⟩ := putAll_ind e
    exact congrArg Nat.succ (putAll_len e')
theorem Rps.rev {D : Gd} {h : Heap} {σ F : List Addr} {vals : List Value} {vs : List CV} (r : Rps D h σ F vals vs) : Rps D h σ F vals.reverse vs.reverse :=
  Rps.ind (P := fun vals vs => Rps D h σ F vals.reverse vs.reverse) .nil (fun a _ ih => by
    rw [List.reverse_cons, List.reverse_cons]
    exact ih.append (.cons a .nil)) r

theorem mNames_ind {c : Sc} {P : List Nat → List Expr → Prop} (nil : P [] []) (cons : ∀ {i is n p ts}, own c i n = true → P is ts → P (i :: is) (.Name n p :: ts)) : ∀ {is ts}, mNames c is ts = true → P is ts
  | [], _, h => on0_is (P := P []) h fun _ => nil
  | _ :: _, [], h => (ff_tt h).elim
  | i :: is, t :: ts, h => onName_is (P := fun t => P (i :: is) (t :: ts)) h fun _ _ h => cons (and_tt h).1 (mNames_ind nil cons (and_tt h).2)
/-- what a row of stores does -/
noncomputable def Sto (M : Model) (A : Around) (E : Value → Shared → Prop) (env : Env) (c : Sc) : List (Value → Sem Unit) → List Nat → Prop
  | [], is => is = []
  | f :: fs, is => match is with
    | [] => False
    | i :: is => (∃ n, own c i n = true ∧ ∀ s Q v, wpAny M A (storeName env n v) Q E s → wpAny M A (f v) Q E s) ∧ Sto M A E env c fs is
section
variable {M : Model} {A : Around} {E : Value → Shared → Prop} {env : Env} {c : Sc}
theorem Sto.append {gs : List (Value → Sem Unit)} {js : List Nat} (g : Sto M A E env c gs js) : ∀ {fs is}, Sto M A E env c fs is → Sto M A E env c (fs ++ gs) (is ++ js)
  | [], _, h => (h : _ = []) ▸ g
  | _ :: _, [], h => h.elim
  | _ :: _, _ :: _, h => ⟨h.1, Sto.append g h.2⟩
theorem Sto.reverse : ∀ {fs is}, Sto M A E env c fs is → Sto M A E env c fs.reverse is.reverse
  | [], _, h => (h : _ = []) ▸ rfl
  | _ :: _, [], h => h.elim
  | _ :: _, _ :: _, h => by
    rw [List.reverse_cons, List.reverse_cons]
    exact Sto.append (show Sto M A E env c [_] [_] from ⟨h.1, rfl⟩) (Sto.reverse h.2)
end
section
variable {L : Lng} {c : Sc} {x : Cx} {σ σ₀ : List Addr} {s₀ : Shared} {E : Value → Shared → Prop}
/-- values into names, in the order told -/
theorem stores_ok {cs : Cells} {Q : Unit → Shared → Prop} (hn : c.nm.Nodup) {l : Loc} (q : ∀ s, AtS L c x σ₀ s₀ l cs σ s → Q () s) : ∀ {fs : List (Value → Sem Unit)} {is : List Nat} {vs : List CV} {vals : List Value} {loc : Loc} {s : Shared}, Sto (model L.D.prog L.D.w) x.A E x.env c fs is → putAll is vs loc = some l →
    Rps L.D s.heap σ x.F vals vs → AtS L c x σ₀ s₀ loc cs σ s → wpAny (model L.D.prog L.D.w) x.A (assignInOrder fs vals) Q E s
  | [], is, vs, vals, loc, s, t, e, r, a => by
    cases (t : is = [])
    obtain ⟨rfl, rfl⟩ := putAll_nil e
    exact assignInOrder_nil (q s a)
  | f :: fs, [], vs, vals, loc, s, t, e, r, a => t.elim
  | f :: fs, i :: is, vs, vals, loc, s, t, e, r, a => by
    obtain ⟨w, ws, rfl, e'⟩ := putAll_ind e
    obtain ⟨v, vals, rfl, rv, r⟩ := r.view
    obtain ⟨⟨n, hi, k⟩, t⟩ := t
    exact assignInOrder_cons (k _ _ _ (store_ok a hn (own_nm hi) (own_kd hi) rv fun s₁ a₁ S => stores_ok hn q t e' (r.stepL S) a₁))

theorem star_names {is : List Nat} {ts : List Expr} (h : mNames c is ts = true) : Sto (model L.D.prog L.D.w) x.A E x.env c ((assignEach ts x.env).map (·.2)) is ∧ (assignEach ts x.env).findIdx? (·.1) = none ∧ (assignEach ts x.env).length = is.length :=
  mNames_ind (P := fun is ts => Sto (model L.D.prog L.D.w) x.A E x.env c ((assignEach ts x.env).map (·.2)) is ∧ (assignEach ts x.env).findIdx? (·.1) = none ∧ (assignEach ts x.env).length = is.length) ⟨rfl, rfl, rfl⟩ (fun {i is n p ts} hi ih => by
    have e : assignEach (.Name n p :: ts) x.env = (false, assign (.Name n p) x.env) :: assignEach ts x.env := rfl
    rw [e]
    refine ⟨⟨⟨n, hi, fun s Q v w => wpAny_assign_Name w⟩, ih.1⟩, ?_, congrArg Nat.succ ih.2.2⟩
    rw [List.findIdx?_cons, if_neg ff_tt, ih.2.1]; rfl) h
/-- a name, if it is the block's own and stands on the line -/
noncomputable def NameF (env : Env) (f : Expr → Option Str) (line : Nat) : Prop := ∀ n p, f (.Name n p) = if (env.kindOf n == some .local && p.line == line) = true then some n else none
theorem ifN {α : Type} {q : Prop} [Decidable q] {a b : α} {P : α → Prop} (h1 : P a) (h2 : ¬ q → P b) : P (if q then a else b) := by
  by_cases h : q
  · rw [if_pos h]; exact h1
  · rw [if_neg h]; exact h2 h
theorem swap_cases {ts : List Expr} {k : Nat} {p : Pos} {value : Expr} {env : Env} (hb : badFold value = false) : swappedStores [.Tuple ts k p] value env = pure none ∨ ∃ f line, NameF env f line ∧ (ts.filterMap f).length = ts.length ∧ swappedStores [.Tuple ts k p] value env = pure (some (ts.filterMap f)) := by
  cases value with
  | Tuple vs a b =>
    have hb' : (!vs.all (foldedForSure 8) && vs.all (constantsAlone 8)) = false := hb
    unfold swappedStores
    dsimp only
    refine ifN (P := fun z => z = pure none ∨ ∃ f line, NameF env f line ∧ (ts.filterMap f).length = ts.length ∧ z = pure (some (ts.filterMap f))) (.inl rfl) fun _ => ?_
    refine ifN (P := fun z => z = pure none ∨ ∃ f line, NameF env f line ∧ (ts.filterMap f).length = ts.length ∧ z = pure (some (ts.filterMap f))) (.inl rfl) fun _ => ?_
    refine ifN (P := fun z => z = pure none ∨ ∃ f line, NameF env f line ∧ (ts.filterMap f).length = ts.length ∧ z = pure (some (ts.filterMap f))) (.inl rfl) fun h3 => ?_
    refine ifN (P := fun z => z = pure none ∨ ∃ f line, NameF env f line ∧ (ts.filterMap f).length = ts.length ∧ z = pure (some (ts.filterMap f))) (.inl rfl) fun h4 => ?_
    rw [if_neg fun h5 => by rw [h5, Bool.and_true, Bool.not_eq_false'] at hb'; exact h4 hb']
    exact .inr ⟨_, _, fun _ _ => rfl, Decidable.byContradiction fun hne => h3 ((Bool.or_eq_true _ _).mpr (.inl (bne_iff_ne.mpr hne))), rfl⟩
  | _ => exact .inl rfl
theorem swap_names {f : Expr → Option Str} {line : Nat} (hf : NameF x.env f line) {is : List Nat} {ts : List Expr} (h : mNames c is ts = true) : ts.length = is.length ∧ ((ts.filterMap f).length = ts.length → Sto (model L.D.prog L.D.w) x.A E x.env c ((ts.filterMap f).map fun n => bindName x.env n) is) :=
  mNames_ind (P := fun is ts => ts.length = is.length ∧ ((ts.filterMap f).length = ts.length → Sto (model L.D.prog L.D.w) x.A E x.env c ((ts.filterMap f).map fun n => bindName x.env n) is)) ⟨rfl, fun _ => rfl⟩ (fun {i is n p ts} hi ih => by
    refine ⟨congrArg Nat.succ ih.1, fun hl => ?_⟩
    have e := hf n p
    by_cases q : (x.env.kindOf n == some .local && p.line == line) = true
    · rw [if_pos q] at e
      rw [List.filterMap_cons_some e] at hl ⊢
      exact ⟨⟨n, hi, fun s Q v w => wpAny_bindName w⟩, ih.2 (Nat.succ.inj hl)⟩
    · rw [if_neg q] at e
      rw [List.filterMap_cons_none e] at hl
      exact absurd (hl ▸ List.length_filterMap_le f ts) (Nat.not_succ_le_self _)) h

theorem AtS.ext {loc : Loc} {cs : Cells} {s : Shared} (a : AtS L c x σ₀ s₀ loc cs σ s) {h' : Heap} (he : Heap.ExtBut s.heap.objs.size s.heap h') : AtS L c x σ₀ s₀ loc cs σ { s with heap := h' } ∧ Step x.F σ s.heap σ h' := by
  have k : ∀ a o, s.heap.get? a = some o → h'.get? a = some o := fun a o e => he a o (Nat.ne_of_lt (Heap.lt_size e)) e
  exact ⟨a.on (s₁ := { s with heap := h' }) (a.wd.all k) ⟨Step.all k, rfl, rfl, rfl⟩, Step.all k⟩
theorem SndS.asgs (is : List Nat) {y : X} (hy : Snd L y) : SndS L (.asgs is y) := fun c st hn h => onSAssign_is (P := fun st => SVal L c (.asgs is y) st) h fun ts v pos h => on1_is (P := fun ts => SVal L c (.asgs is y) (.Assign ts v pos)) h fun t h =>
  onTuple_is (P := fun t => SVal L c (.asgs is y) (.Assign [t] v pos)) h fun ts kk tp h => ⟨fun {x σ₀ s₀ loc cs σ s} a Q E p => by
    obtain ⟨h1, h⟩ := and_tt h
    obtain ⟨h2, h⟩ := and_tt h
    obtain ⟨h3, h⟩ := and_tt h
    have hsw : swapsWithSole [.Tuple ts kk tp] v pos.line x.env = pure false := by unfold swapsWithSole; exact noSwap h3 _ _ _
    have key : ∀ {fs : List (Value → Sem Unit)} {js : List Nat} {ws : List CV} {vals : List Value} {l : Loc} {cs₁ σ₁ s₁ h'}, Sto (model L.D.prog L.D.w) x.A E x.env c fs js → putAll js ws loc = some l → Rps L.D s₁.heap σ₁ x.F vals ws → AtS L c x σ₀ s₀ loc cs₁ σ₁ s₁ → Heap.ExtBut s₁.heap.objs.size s₁.heap h' →
        PostF L.D c.nm x σ₀ s₀ E (.ok .next (l, cs₁)) (FK L.D x.F Q) → wpAny (model L.D.prog L.D.w) x.A (assignInOrder fs vals) (fun _ => Q .next) E { s₁ with heap := h' } := fun t e r a he p =>
      stores_ok hn (fun s a => a.done p .next) t e (r.step (a.ext he).2) (a.ext he).1
    rcases swap_cases (ts := ts) (k := kk) (p := tp) (env := x.env) ((Bool.not_eq_true' _).mp (and_tt h).1) with hw | ⟨f, line, hf, hlen, hw⟩
    · obtain ⟨t1, t2, t3⟩ := star_names (L := L) (x := x) (E := E) h1
      refine Assign_Tuple (Val.ands (hy h2).1 a p fun v cs₁ σ₁ s₁ a₁ S₁ p va ra => ?_) hsw hw
      refine PostF.tup (P := fun v => RpA L x σ₁ s₁ va v → wpAny (model L.D.prog L.D.w) x.A (assign (.Tuple ts kk tp) x.env va) (fun _ => Q .next) E s₁) p (fun ws p ra => PostF.got p fun l el p => ?_) ra
      obtain ⟨d, vals, rfl, hT, _, _, r⟩ := ra.view
      exact wpAny_assign_Tuple a.room.handled hT (by rw [t3, List.size_toArray, r.length, putAll_len el]) t2 fun h' he => key t1 el r a₁ he p
    · obtain ⟨t1, t2⟩ := swap_names (L := L) (E := E) hf h1
      have t2 := (t2 hlen).reverse
      rw [← List.map_reverse] at t2
      refine Assign_Tuple_swapped (Val.ands (hy h2).1 a p fun v cs₁ σ₁ s₁ a₁ S₁ p va ra => ?_) hsw hw
      refine PostF.tup (P := fun v => RpA L x σ₁ s₁ va v → wpAny (model L.D.prog L.D.w) x.A (unpackItems va (ts.filterMap f).length none) (fun items s₂ => wpAny (model L.D.prog L.D.w) x.A (assignInOrder ((ts.filterMap f).reverse.map fun n => bindName x.env n) items.reverse) (fun _ => Q .next) E s₂) E s₁) p (fun ws p ra => PostF.got p fun l el p => ?_) ra
      obtain ⟨d, vals, rfl, hT, _, _, r⟩ := ra.view
      rw [show (ts.filterMap f).length = vals.toArray.size by rw [hlen, t1, List.size_toArray, r.length, putAll_len el]]
      exact wpAny_unpackItems_tuple a.room.handled hT fun h' he => key t2 (putAll_reverse (of_decide_eq_true (and_tt h).2) el) r.rev a₁ he p⟩
end
end Mine
end

section
open PySem PySem.W PyProof.Rows PySem.Spec PySem.Calls
namespace Mine
section
variable {L : Lng} {c : Sc} {x : Cx} {loc : Loc} {cs : Cells} {σ σ₀ : List Addr} {s s₀ : Shared} {E : Value → Shared → Prop}
/-- a fresh beginning -/
theorem AtS.base (a : AtS L c x σ₀ s₀ loc cs σ s) : AtS L c x σ s loc cs σ s := ⟨a.toAt, a.blk, GoL.refl⟩
/-- what a block's answer becomes within a loop -/
noncomputable def inLoop (k : St → Res St Fl) (f : Fl) (s : St) : Res St Fl := match f with
  | .next => k s
  | .brk => .ok .next s
  | .ret v => .ok (.ret v) s
/-- a block within a loop -/
theorem body_ok {ys : List S} {body : List Stmt} (hy : BVal L c ys body) (a : AtS L c x σ₀ s₀ loc cs σ s) {k : St → Res St Fl} {Q Q' : Flow → Shared → Prop} (p : PostF L.D c.nm x σ₀ s₀ (Eloop L.D x E) ((exSs L.G L.C ys (loc, cs)).bind (inLoop k)) (FK L.D x.F Q))
    (next : ∀ loc₁ cs₁ σ₁ s₁, AtS L c x σ₀ s₀ loc₁ cs₁ σ₁ s₁ → StepL x.env.locals x.F σ s.heap σ₁ s₁.heap → PostF L.D c.nm x σ₀ s₀ (Eloop L.D x E) (k (loc₁, cs₁)) (FK L.D x.F Q) → Q' .next s₁)
    (brk : ∀ s₁, Q .next s₁ → Q' .brk s₁) (ret : ∀ v s₁, Q (.ret v) s₁ → Q' (.ret v) s₁) : wpAny (model L.D.prog L.D.w) x.A (execs body x.env) Q' (Eloop L.D x E) s :=
  hy a.base Q' _ (((PostF.bind p).from a.go a.wd).mono fun f loc₁ cs₁ σ₁ s₁ W S l p fl r => by
    cases r with
    | next => exact next loc₁ cs₁ σ₁ s₁ (a.to W S l) S.st p
    | brk => exact brk _ ((a.to W S l).done p .next)
    | ret rv => exact ret _ _ (p σ₁ s₁ W (a.go.trans S) trivial _ (.ret rv)))
theorem SndS.whl {t : X} {y : List S} (ht : Snd L t) (hy : SndB L y) : SndS L (.whl t y) := fun c st hn h => onSWhile_is (P := fun st => SVal L c (.whl t y) st) h fun u body o pos h => on0_is (P := fun o => SVal L c (.whl t y) (.While u body o pos)) h fun h =>
  ⟨fun {x σ₀ s₀ loc cs σ s} a Q E p => by
    refine wpAny_While (codeAny_whileLoop (fun n s' => ∃ loc cs σ, AtS L c x σ₀ s₀ loc cs σ s' ∧ PostF L.D c.nm x σ₀ s₀ (Eloop L.D x E) (turns (evS L.G L.C t) (fun s => exSs L.G L.C y s) n (loc, cs)) (FK L.D x.F Q)) (fun n s' I => ?_) mostTurns ⟨loc, cs, σ, a, p.loop a⟩)
    obtain ⟨loc, cs, σ, a, p⟩ := I
    cases n with
    | zero => exact p.elim
    | succ n =>
      refine Tst.ands (ht (and_tt h).1).2 (k := fun b s => match b with | true => (exSs L.G L.C y s).bind (inLoop (turns (evS L.G L.C t) (fun s => exSs L.G L.C y s) n)) | false => .ok .next s) a p fun t cs₁ σ₁ s₁ a₁ p => ?_
      cases t with
      | false => exact wpAny_execs_nil (a₁.done p .next)
      | true => exact body_ok (hy hn (and_tt h).2) a₁ p (fun loc₂ cs₂ σ₂ s₂ a₂ _ p => ⟨n, Nat.lt_succ_self n, loc₂, cs₂, σ₂, a₂, p⟩) (fun _ q => q) fun _ _ q => q
⟩
/-- an iterator: J tells what it has still to give -/
structure Iter (D : Gd) (A : Around) (F : List Addr) (it : Addr) (J : List CV → List Addr → Shared → Prop) : Prop where
  keep : ∀ l σ s σ' s' L, J l σ s → StepL L F σ s.heap σ' s'.heap → J l σ' s'
  next : ∀ l σ s, J l σ s → ∀ P E, (∀ y r, l = y :: r → ∀ s' v, Chg it s.heap s'.heap → Later s s' → J r σ s' → Rp D s'.heap σ F v y → P (some v) s') → (l = [] → ∀ s', Chg it s.heap s'.heap → Later s s' → P none s') → wpAny (model D.prog D.w) A (pyNext (.ref it)) P E s
theorem drop_or {α : Type} (xs : List α) (n : Nat) : (xs.drop n = [] ∧ xs[n]? = none) ∨ ∃ y, xs.drop n = y :: xs.drop (n + 1) ∧ xs[n]? = some y := by
  rcases Nat.lt_or_ge n xs.length with q | q
  · exact .inr ⟨xs[n], List.drop_eq_getElem_cons q, List.getElem?_eq_getElem q⟩
  · exact .inl ⟨List.drop_eq_nil_of_le q, List.getElem?_eq_none q⟩
/-- over a tuple, or a list that nothing changes -/
noncomputable def SeqIt (T : String) (h : Heap) (it d : Addr) (n : Nat) : Prop := ∃ o, h.get? it = some o ∧ o.cls = .type T ∧ o.data = .fields #[.ref d, .int n 0]
noncomputable def SeqJ (D : Gd) (F : List Addr) (T : String) (it d : Addr) (y : CV) (xs : List CV) : List CV → List Addr → Shared → Prop := fun l σ s => ∃ n, l = xs.drop n ∧ SeqIt T s.heap it d n ∧ Rp D s.heap σ F (.ref d) y ∧ it ∉ σ
theorem iter_seq {D : Gd} {A : Around} {F : List Addr} {T : String} {it d : Addr} {y : CV} {xs : List CV} {Sq : Heap → List Value → Prop} (out : it ∉ F) (vw : ∀ {h σ}, Rp D h σ F (.ref d) y → ∃ vs, Sq h vs ∧ Rps D h σ F vs xs)
    (item : ∀ {s n vs v P E}, SeqIt T s.heap it d n → Sq s.heap vs → vs[n]? = some v → (∀ h', SeqIt T h' it d (n + 1) → Heap.SameBut it s.heap h' → P (some v) { s with heap := h' }) → wpAny (model D.prog D.w) A (pyNext (.ref it)) P E s)
    (last : ∀ {s n vs P E}, SeqIt T s.heap it d n → Sq s.heap vs → vs[n]? = none → (∀ h', Heap.ExtBut it s.heap h' → P none { s with heap := h' }) → wpAny (model D.prog D.w) A (pyNext (.ref it)) P E s) : Iter D A F it (SeqJ D F T it d y xs) := by
  refine ⟨fun l σ s σ' s' L ⟨n, el, ⟨o, e, q1, q2⟩, r, ns⟩ S => ⟨n, el, ⟨o, S.keep _ _ e ns out, q1, q2⟩, r.stepL S, S.notin e ns⟩, fun l σ s ⟨n, el, i, r, ns⟩ P E h1 h2 => ?_⟩
  obtain ⟨o, e, q1, q2⟩ := id i
  obtain ⟨vs, sq, rs⟩ := vw r
  rcases drop_or xs n with ⟨d1, d2⟩ | ⟨z, d1, d2⟩
  · refine last i sq ?_ fun h' hs => h2 (el.trans d1) { s with heap := h' } (Chg.of_ext hs e q2) ⟨rfl, rfl, rfl⟩
    rw [List.getElem?_eq_none_iff, rs.length]
    exact List.getElem?_eq_none_iff.mp d2
  · obtain ⟨w, ew, rw'⟩ := rs.get d2
    refine item i sq ew fun h' i' hs => ?_
    have g : Chg it s.heap h' := Chg.of_same hs e q2
    exact h1 z _ (el.trans d1) { s with heap := h' } w g ⟨rfl, rfl, rfl⟩ ⟨n + 1, rfl, i', r.chg g, ns⟩ (rw'.chg g)
theorem iter_tup {D : Gd} {A : Around} {F : List Addr} {it d : Addr} {xs : List CV} (hh : A.handled = none) (out : it ∉ F) : Iter D A F it (SeqJ D F "tuple_iterator" it d (.tup xs) xs) :=
  iter_seq (Sq := fun h vs => IsTup h d vs.toArray) out (fun r => by
    obtain ⟨_, vs, e, h, _, _, r⟩ := r.view
    cases e; exact ⟨vs, h, r⟩) (fun i sq e h => wpAny_pyNext_tuple_item i sq (List.getElem?_toArray.trans e) h) fun i sq e h => wpAny_pyNext_tuple_end hh i sq (List.getElem?_toArray.trans e) h
theorem iter_ils {D : Gd} {A : Around} {F : List Addr} {it d : Addr} {xs : List CV} (hh : A.handled = none) (out : it ∉ F) : Iter D A F it (SeqJ D F "list_iterator" it d (.ils xs) xs) :=
  iter_seq (Sq := fun h vs => h.IsList d vs.toArray) out (fun r => by
    obtain ⟨_, vs, e, h, _, _, r⟩ := r.view
    cases e; exact ⟨vs, h, r⟩) (fun i sq e h => wpAny_pyNext_list_item i sq (List.getElem?_toArray.trans e) h) fun i sq e h => wpAny_pyNext_list_end hh i sq (List.getElem?_toArray.trans e) h
/-- over the first n numbers -/
noncomputable def RanJ (it : Addr) (n : Nat) : List CV → List Addr → Shared → Prop := fun l σ s => ∃ k, l = (upto n).drop k ∧ IsRangeIter s.heap it (k : Int) ((n : Int) - (k : Int)) 1 ∧ it ∉ σ
theorem upto_at {n k : Nat} {y : CV} (e : (upto n)[k]? = some y) : k < n ∧ y = .int k := by
  unfold upto at e
  rw [List.getElem?_map] at e
  obtain ⟨j, e', rfl⟩ := Option.map_eq_some_iff.mp e
  have hk : k < n := Nat.lt_of_lt_of_eq (List.getElem?_eq_some_iff.mp e').1 List.length_range
  rw [List.getElem?_range hk] at e'
  cases e'
  exact ⟨hk, rfl⟩
theorem upto_len {n k : Nat} (e : (upto n)[k]? = none) : n ≤ k := by
  have := List.getElem?_eq_none_iff.mp e
  rwa [upto, List.length_map, List.length_range] at this
theorem iter_ran {D : Gd} {A : Around} {F : List Addr} {it : Addr} {n : Nat} (hh : A.handled = none) (out : it ∉ F) : Iter D A F it (RanJ it n) := by
  refine ⟨fun l σ s σ' s' L ⟨k, el, i, ns⟩ S => ⟨k, el, S.keep _ _ i ns out, S.notin i ns⟩, fun l σ s ⟨k, el, i, ns⟩ P E h1 h2 => ?_⟩
  rcases drop_or (upto n) k with ⟨d1, d2⟩ | ⟨z, d1, d2⟩
  · exact wpAny_pyNext_range_end hh i (Int.sub_nonpos_of_le (Int.ofNat_le.mpr (upto_len d2))) fun h' hs => h2 (el.trans d1) { s with heap := h' } (Chg.of_ext hs i rfl) ⟨rfl, rfl, rfl⟩
  · obtain ⟨hk, rfl⟩ := upto_at d2
    refine wpAny_pyNext_range_item i (Int.sub_pos_of_lt (Int.ofNat_lt.mpr hk)) fun h' j hs => ?_
    exact h1 _ _ (el.trans d1) { s with heap := h', toks := s.toks + 1 } _ (Chg.of_same hs i rfl) ⟨rfl, rfl, rfl⟩ ⟨k + 1, rfl, by rw [Int.sub_sub] at j; exact j, ns⟩ (.int _ _)

/-- the loop over what an iterator gives -/
theorem each_ok {i : Nat} {ys : List S} {n : Str} {np : Pos} {body : List Stmt} (hn : c.nm.Nodup) (ho : own c i n = true) (hy : BVal L c ys body) {it : Addr} {J : List CV → List Addr → Shared → Prop} (I : Iter L.D x.A x.F it J) (N : New L.D x.F s₀ it) {Q : Flow → Shared → Prop}
    (a : AtS L c x σ₀ s₀ loc cs σ s) {xs : List CV} (hJ : J xs σ s) (p : PostF L.D c.nm x σ₀ s₀ E (each i (fun s => exSs L.G L.C ys s) xs (loc, cs)) (FK L.D x.F Q)) :
    codeAny (model L.D.prog L.D.w) x.A (.forLoop (.Name n np) (.ref it) body [] x.env) (fun r s' => match r with | .ok f => Q f s' | .error e => cameBackBy (model L.D.prog L.D.w) x.A x.env E e s') s := by
  refine codeAny_forLoop (fun k s' => ∃ l loc cs σ, k = l.length ∧ J l σ s' ∧ AtS L c x σ₀ s₀ loc cs σ s' ∧ PostF L.D c.nm x σ₀ s₀ (Eloop L.D x E) (each i (fun s => exSs L.G L.C ys s) l (loc, cs)) (FK L.D x.F Q)) (fun k s' H => ?_) xs.length ⟨xs, loc, cs, σ, rfl, hJ, a, p.loop a⟩
  obtain ⟨l, loc, cs, σ, rfl, hJ, a, p⟩ := H
  refine I.next l σ s' hJ _ _ (fun y r el s₁ v g lt hJ' rv => ?_) fun el s₁ g lt => ?_
  · subst el
    refine wpAny_assign_Name (store_ok (a.chg g lt N) hn (own_nm ho) (own_kd ho) rv fun s₂ a₂ S => ?_)
    exact body_ok hy a₂ (k := each i (fun s => exSs L.G L.C ys s) r) p (fun loc₃ cs₃ σ₃ s₃ a₃ S₃ p => ⟨r.length, Nat.lt_succ_self _, r, loc₃, cs₃, σ₃, rfl, I.keep _ _ _ _ _ _ hJ' (S.trans S₃), a₃, p⟩) (fun _ q => q) fun _ _ q => q
  · subst el
    exact wpAny_execs_nil ((a.chg g lt N).done p .next)
theorem noFold {t : Expr} (h : isSet t = false) (env : Env) (v : Value) : foldedSetIterable t env v = pure v := by
  cases t <;> first | rfl | exact (ff_tt h.symm).elim
theorem AtS.push (a : AtS L c x σ₀ s₀ loc cs σ s) (o : Obj) (tk : Nat) : AtS L c x σ₀ s₀ loc cs σ { s with heap := s.heap.push o, toks := tk } := a.on (s₁ := { s with heap := s.heap.push o, toks := tk }) (a.wd.push o) (Step.push o).go
theorem SndS.for_ (i : Nat) {e : X} {y : List S} (he : Snd L e) (hy : SndB L y) : SndS L (.for_ i e y) := fun c st hn h => onSFor_is (P := fun st => SVal L c (.for_ i e y) st) h fun t u body o pos h => on0_is (P := fun o => SVal L c (.for_ i e y) (.For t u body o pos)) h fun h =>
  onName_is (P := fun t => SVal L c (.for_ i e y) (.For t u body [] pos)) h fun n np h => ⟨fun {x σ₀ s₀ loc cs σ s} a Q E p => by
    have hb : BVal L c y body := hy hn (and_tt (and_tt (and_tt h).2).2).2
    refine wpAny_For (Val.ands (he (and_tt (and_tt h).2).1).1 a p fun v cs₁ σ₁ s₁ a₁ S₁ p va ra => ?_) (noFold ((Bool.not_eq_true' _).mp (and_tt (and_tt (and_tt h).2).2).1) x.env)
    cases v with
    | tup xs =>
      obtain ⟨d, vs, rfl, hT, n1, n2, r⟩ := ra.view
      refine wpAny_pyIter_tuple hT ?_
      exact each_ok hn (and_tt h).1 hb (iter_tup (d := d) (xs := xs) a.room.handled a₁.wd.notF) (a₁.new fresh_here) (a₁.push _ _) ⟨0, rfl, ⟨_, Heap.get?_push_size _ rfl, rfl, rfl⟩, ra.step (Step.push _), a₁.wd.notσ⟩ p
    | ils xs =>
      obtain ⟨d, vs, rfl, hT, n1, n2, r⟩ := ra.view
      refine wpAny_pyIter_list hT ?_
      exact each_ok hn (and_tt h).1 hb (iter_ils (d := d) (xs := xs) a.room.handled a₁.wd.notF) (a₁.new fresh_here) (a₁.push _ _) ⟨0, rfl, ⟨_, Heap.get?_push_size _ rfl, rfl, rfl⟩, ra.step (Step.push _), a₁.wd.notσ⟩ p
    | _ => exact p.elim⟩
/-- the iterator of a range -/
theorem ran_ok {n : Nat} {t : Tok} (hn : n ≤ 1000) {Q : Value → Shared → Prop} (q : ∀ h tk it, (∀ a o, s.heap.get? a = some o → h.get? a = some o) → s.heap.get? it = none → IsRangeIter h it 0 n 1 → Q (.ref it) { s with heap := h, toks := tk }) :
    wpAny (model L.D.prog L.D.w) x.A (call (.type "range") [.int n t]) (fun v s₁ => wpAny (model L.D.prog L.D.w) x.A (pyIter v) Q E s₁) E s := by
  refine call_range_1 ?_
  have k : ∀ a o, s.heap.get? a = some o → (s.heap.push { cls := .type "range", data := .fields #[.int 0 s.toks, .int n t, .int 1 (s.toks + 1)] }).get? a = some o := fun a o e => Heap.get?_push_of_some _ e
  have hr := IsRange.new s.heap 0 n 1 s.toks t (s.toks + 1)
  have hb : (n : Int) ≤ 1000 := Int.ofNat_le.mpr hn
  refine wpAny_pyIter_range hr (small_one (by decide) (by decide) (Int.le_trans (by decide) (Int.natCast_nonneg n)) (Int.lt_of_le_of_lt hb (by decide))) ?_
  rw [rangeSize_one, show (if (0 : Int) < n then (n : Int) - 0 else 0) = n by split <;> omega]
  exact q _ _ _ (fun a o e => Heap.get?_push_of_some _ (k a o e)) (none_of_size (by rw [Heap.size_push]; exact Nat.le_succ _)) (Heap.get?_push_size _ rfl)
theorem SndS.forr (Z : Fx L) (i : Nat) {e : X} {y : List S} (he : Snd L e) (hy : SndB L y) : SndS L (.forr i e y) := fun c st hn h => onSFor_is (P := fun st => SVal L c (.forr i e y) st) h fun t u body o pos h => on0_is (P := fun o => SVal L c (.forr i e y) (.For t u body o pos)) h fun h =>
  onName_is (P := fun t => SVal L c (.forr i e y) (.For t u body [] pos)) h fun n np h => onBlt_is (P := fun u => SVal L c (.forr i e y) (.For (.Name n np) u body [] pos)) (and_tt h).2 fun fp es cp g1 g2 h' => on1_is (P := fun es => SVal L c (.forr i e y) (.For (.Name n np) (.Call (.Name "range" fp) es [] cp) body [] pos)) h' fun v h' =>
    ⟨fun {x σ₀ s₀ loc cs σ s} a Q E p => by
    have hb : BVal L c y body := hy hn (and_tt h').2
    refine wpAny_For (blt_call1 Z (blt_mem (n := 7) rfl) callee_t a.toAt g1 g2 (notStar (and_tt h').1) (Val.ands (he (and_tt h').1).1 a p fun v cs₁ σ₁ s₁ a₁ S₁ p va ra => ?_)) (fun _ => rfl)
    refine PostF.int (P := fun v => RpA L x σ₁ s₁ va v → wpAny (model L.D.prog L.D.w) x.A (call (.type "range") [va]) (fun x_1 s₁ => wpAny (model L.D.prog L.D.w) x.A (pyIter x_1) (fun it s₂ => codeAny (model L.D.prog L.D.w) x.A (.forLoop (.Name n np) it body [] x.env) (fun r s' => match r with | .ok f => Q f s' | .error e => cameBackBy (model L.D.prog L.D.w) x.A x.env E e s') s₂) E s₁) E s₁) p (fun m p ra => PostF.ite p fun hm p => ?_) ra
    obtain ⟨t, rfl⟩ := ra.view
    obtain ⟨m, rfl⟩ := Int.eq_ofNat_of_zero_le hm.1
    refine ran_ok (Int.ofNat_le.mp hm.2) fun hp tk it k ni hi => ?_
    have a₂ : AtS L c x σ₀ s₀ loc cs₁ σ₁ { s₁ with heap := hp, toks := tk } := a₁.on (s₁ := { s₁ with heap := hp, toks := tk }) (a₁.wd.all k) (Step.all k).go
    exact each_ok hn (and_tt h).1 hb (iter_ran (n := m) a.room.handled fun z => a₁.wd.exF _ z ni) (a₁.new ni) a₂ ⟨0, rfl, by rw [Int.natCast_zero, Int.sub_zero]; exact hi, fun z => a₁.wd.there z ni⟩ p⟩
end
end Mine
end

section
open PySem PySem.W PyProof.Rows PySem.Spec PySem.Calls
namespace Mine

/-- what is told of a def of the text, beside our own Fn: its address, its data, its names, its default values -/
structure FnRow where
  a : Addr
  fd : FuncData
  body : List Stmt
  nm : List Str
  dv : List Value
noncomputable def FnRow.sc (r : FnRow) : Sc := ⟨fun x => r.fd.scope.names.lookup x, r.nm⟩
/-- a function stands there -/
structure DefAt (D : Gd) (a : Addr) (fd : FuncData) (bd : List Stmt) : Prop where
  at_ : ∃ o, D.base.get? a = some o ∧ o.data = .func fd
  code : D.base.CodeRec fd.code fd.qualname
  body : fd.body = .stmts bd
  kind : fd.scope.kind = .function
  co : fd.scope.isCoroutine = false
  gen : fd.scope.isGenerator = false
  glob : fd.globals = mainGlobals
  blt : fd.builtins = builtinsNs
structure FnCode (L : Lng) (d : Fn) (r : FnRow) : Prop extends DefAt L.D r.a r.fd r.body where
  nmN : r.nm.Nodup
  mtch : mSs L.N r.sc d.body r.body = true
  keep : keepIn L.K (.ref r.a) = true
structure FnOK (L : Lng) (d : Fn) (r : FnRow) : Prop extends FnCode L d r where
  noCell : ∀ x ∈ r.fd.scope.names, x.2 ≠ .cell
  par : ∀ x ∈ r.nm.take d.np, r.fd.scope.names.lookup x = some .local
  np : d.np ≤ r.nm.length
  dv : ∀ h σ F, Rps L.D h σ F r.dv d.dflt
  binds : ∀ (s : Shared) (vals : List Value), L.D.base.StaysIn s.heap → vals.length ≤ d.np → d.np ≤ vals.length + d.dflt.length → BindsTo s r.fd ⟨vals, []⟩ ((r.nm.take d.np).zip (vals ++ r.dv.drop (d.dflt.length + vals.length - d.np)))
/-- a def of one parameter, that a comprehension within it holds on to -/
structure FnOKC (L : Lng) (d : Fn) (r : FnRow) (w : Str) : Prop extends FnCode L d r where
  clos : r.fd.closure = []
  nm0 : r.nm[0]? = some w
  par : r.fd.scope.names.lookup w = some .cell
  cell : ∀ n, ((cellsFrom n r.fd.scope.names []).lookup w).isSome = true
  np : d.np = 1 ∧ d.dflt = []
  binds : ∀ v, bindArgs r.fd ⟨[v], []⟩ = pure [(w, v)]

/-- the room of a call: a little wider than a block's -/
structure Room2 (A : Around) (envs : List Env) (b : Nat) : Prop where
  frames : A.frames = some envs
  handled : A.handled = none
  depth : A.depth + 3 * b ≤ 902
  units : A.units + 30 * b ≤ 9027
theorem Room.wide {A : Around} {envs : List Env} {b : Nat} (R : Room A envs b) : Room2 A envs b := ⟨R.frames, R.handled, Nat.le_trans R.depth (by decide), Nat.le_trans R.units (by decide)⟩

/-- a def's call, as the small language's oracle says it -/
noncomputable def OSnd (L : Lng) (f : Nat) (a : Addr) : Prop :=
  ∀ {x : Cx} {σ : List Addr} {s : Shared} {cs : Cells} {vs : List CV} {vals : List Value} {R : Result → Shared → Prop},
    Room2 x.A x.envs L.b → L.D.base.objs.size ≤ s.heap.objs.size → Wd L.D x.envs x.F σ cs s.heap → Rps L.D s.heap σ x.F vals vs →
    Post L.D x σ s (fun e s' => R (.error e) s') (L.C f vs cs) (KV L.D x.F fun v s' => R (.ok (.ret v)) s') →
    codeAny (model L.D.prog L.D.w) x.A (.call (.ref a) ⟨vals, []⟩) R s
/-- the language where calls may go b deep -/
noncomputable def Lng.dp (L : Lng) (P : List Fn) (b : Nat) : Lng := ⟨L.D, L.K, L.N, L.G, callB P L.G b, b, L.mg, L.mb, L.fa⟩

section
variable {D : Gd}
/-- more addresses that are left out of account: new ones -/
theorem mp_mores {h h₀ : Heap} {σ F Fs : List Addr} (k : ∀ a o, h.get? a = some o → h₀.get? a = some o) (n : ∀ a ∈ Fs, h.get? a = none) : Mp h σ F h₀ σ (Fs ++ F) :=
  ⟨fun a o e _ _ _ => k a o e, fun a o e n1 n2 _ => ⟨n1, fun m => (List.mem_append.mp m).elim (fun q => none_some ((n a q).symm.trans e)) n2⟩, fun _ _ e => e⟩
theorem Wd.addFs {envs : List Env} {F Fs σ : List Addr} {cs : Cells} {h h₀ : Heap} (W : Wd D envs F σ cs h) (hF : ∀ a ∈ Fs, D.base.objs.size ≤ a ∧ h.get? a = none ∧ h₀.get? a ≠ none) (k : ∀ a o, h.get? a = some o → h₀.get? a = some o) : Wd D envs (Fs ++ F) σ cs h₀ := by
  refine ⟨fun a o e => k a o (W.base a o e), W.len, W.nd, W.new, fun a ha m => ?_, fun a m => ?_, fun c a x e1 e2 => (W.cells c a x e1 e2).map (mp_mores k fun a m => (hF a m).2.1) fun o e _ => k a o e, fun e he => ?_, fun e he L eL => List.mem_append_right _ (W.inF e he L eL), fun a m => ?_⟩
  · exact (List.mem_append.mp m).elim (fun z => W.there ha (hF a z).2.1) (W.apart a ha)
  · exact (List.mem_append.mp m).elim (fun z => (hF a z).1) (W.newF a)
  · obtain ⟨q, L', m', e', o, es, ep, z1, z2⟩ := W.frs e he
    exact ⟨q, L', m', e', o, es, ep, k _ _ z1, z2⟩
  · rcases List.mem_append.mp m with m | m
    · exact (hF a m).2.2
    · cases q : h.get? a with
      | none => exact absurd q (W.exF a m)
      | some o => exact fun z => none_some (z.symm.trans (k _ _ q))
/-- fewer addresses are left out of account; what is let go may change -/
theorem Wd.but {envs : List Env} {F F' σ : List Addr} {cs : Cells} {h h' : Heap} (W : Wd D envs F' σ cs h) (hF : ∀ a ∈ F, a ∈ F') (k : ∀ a o, h.get? a = some o → a ∈ F ∨ a ∉ F' → h'.get? a = some o) (i : ∀ e ∈ envs, ∀ L, e.frame = some L → L ∈ F) : Wd D envs F σ cs h' := by
  have M : Mp h σ F' h' σ F := ⟨fun a o e _ n2 _ => k a o e (.inr n2), fun a _ _ n1 n2 _ => ⟨n1, fun m => n2 (hF a m)⟩, fun _ _ e => e⟩
  refine ⟨fun a o e => k a o (W.base a o e) (.inr fun m => absurd (Heap.lt_size e) (Nat.not_lt.mpr (W.newF a m))), W.len, W.nd, W.new, fun a ha m => W.apart a ha (hF a m), fun a m => W.newF a (hF a m),
    fun c a x e1 e2 => (W.cells c a x e1 e2).map M fun o e _ => k a o e (.inr (W.apart a (List.mem_of_getElem? e1))), fun e he => ?_, i, fun a m => ?_⟩
  · obtain ⟨q, L', m', e', o, es, ep, z1, z2⟩ := W.frs e he
    exact ⟨q, L', m', e', o, es, ep, k _ _ z1 (.inl (i e he L' e')), z2⟩
  · cases q : h.get? a with
    | none => exact absurd q (W.exF a (hF a m))
    | some o => exact fun z => none_some (z.symm.trans (k _ _ q (.inl m)))
theorem Wd.less {envs : List Env} {F F' σ : List Addr} {cs : Cells} {h : Heap} (W : Wd D envs F' σ cs h) (hF : ∀ a ∈ F, a ∈ F') (i : ∀ e ∈ envs, ∀ L, e.frame = some L → L ∈ F) : Wd D envs F σ cs h := W.but hF (fun _ _ e _ => e) i
theorem StepL.but {L L₀ : Addr} {F F' σ σ' : List Addr} {h h₀ h₁ h' : Heap} (S : StepL L₀ F' σ h₀ σ' h₁) (hF : ∀ a ∈ F, a ∈ F') (new : ∀ a ∈ F', a ∈ F ∨ h.get? a = none) (k0 : ∀ a o, h.get? a = some o → h₀.get? a = some o) (k : ∀ a o, h₁.get? a = some o → a ∈ F ∨ a ∉ F' → h'.get? a = some o)
    (hL : ∀ L' ∈ F, L' ≠ L → h.get? L' ≠ none → L' ≠ L₀) : StepL L F σ h σ' h' := by
  have nF : ∀ {a o}, h.get? a = some o → a ∉ F → a ∉ F' := fun e n m => (new _ m).elim n fun z => none_some (z.symm.trans e)
  refine ⟨S.pre, fun b hb hn => ?_, fun a o e n1 n2 => k a o (S.keep a o (k0 a o e) n1 (nF e n2)) (.inr (nF e n2)), fun L' hL' ne m ⟨o, es, ep, z1, z2⟩ => ?_, fun L' hL' o e => ?_⟩
  · cases q : h.get? b with
    | none => rfl
    | some o => exact (none_some ((S.fresh b hb hn).symm.trans (k0 _ _ q))).elim
  · obtain ⟨o, es, ep, z1, z2⟩ := S.fr L' (hF _ hL') (hL L' hL' ne fun z => none_some (z.symm.trans z1)) m ⟨o, es, ep, k0 _ _ z1, z2⟩
    exact ⟨o, es, ep, k _ _ z1 (.inl hL'), z2⟩
  · obtain ⟨o', e', f⟩ := S.frk L' (hF _ hL') o (k0 _ _ e)
    exact ⟨o', k _ _ e' (.inl hL'), f⟩
theorem StepL.toStep {L : Addr} {F σ σ' : List Addr} {h h' : Heap} (S : StepL L F σ h σ' h') (hL : L ∉ F) : Step F σ h σ' h' := ⟨S.pre, S.fresh, S.keep, fun L' m => S.fr L' m fun e => hL (e ▸ m), S.frk⟩
/-- a new frame -/
theorem Wd.enter {envs : List Env} {F σ : List Addr} {cs : Cells} {h : Heap} {env : Env} {C : Addr} {m : Str → Option Value} (W : Wd D envs (C :: F) σ cs h) (n : h.Ns C m) (hk : env.scope.kind = .function) (hf : env.frame = some C) : Wd D (env :: envs) (C :: F) σ cs h :=
  ⟨W.base, W.len, W.nd, W.new, W.apart, W.newF, W.cells, fun e he => (List.mem_cons.mp he).elim (fun z => z ▸ ⟨hk, _, _, hf, n⟩) (W.frs e), fun e he L eL => (List.mem_cons.mp he).elim (fun z => by
    subst z; cases hf.symm.trans eL; exact List.mem_cons_self) fun he => W.inF e he L eL, W.exF⟩
theorem Wd.leave {envs : List Env} {F F' σ : List Addr} {cs : Cells} {h : Heap} {env : Env} (W : Wd D (env :: envs) F' σ cs h) (hF : ∀ a ∈ F, a ∈ F') (i : ∀ e ∈ envs, ∀ L, e.frame = some L → L ∈ F) : Wd D envs F σ cs h :=
  Wd.less ⟨W.base, W.len, W.nd, W.new, W.apart, W.newF, W.cells, fun e he => W.frs e (List.mem_cons_of_mem _ he), fun e he L eL => hF _ (i e he L eL), W.exF⟩ hF i
end
section
variable {L : Lng} {P : List Fn} {d : Fn} {r : FnRow} {b : Nat} {x : Cx} {σ : List Addr} {s : Shared} {cs : Cells} {vs : List CV} {vals : List Value} {R : Result → Shared → Prop} {l : Loc}
theorem depth_ok {A : Around} {envs : List Env} (Rm : Room2 A envs (b + 1)) : A.depth < recursionLimit := Nat.lt_of_le_of_lt (Nat.le_trans (Nat.le_add_right _ _) Rm.depth) (by decide)
/-- the run of a def's body, within its own frame -/
theorem enter_ok (O : FnCode L d r) (hb : SndB (L.dp P b) d.body) (Rm : Room2 x.A x.envs (b + 1)) (sz : L.D.base.objs.size ≤ s.heap.objs.size) (W : Wd L.D x.envs x.F σ cs s.heap) {env : Env} {h₀ : Heap} {tk : Nat} {m : Str → Option Value}
    (e1 : env.scope = r.fd.scope) (e2 : env.globals = r.fd.globals) (e3 : env.builtins = r.fd.builtins) (e4 : env.locals = s.heap.objs.size) (e5 : env.frame = some s.heap.objs.size) (e6 : (x.A.deeper env).depth = x.A.depth + 1) (n : h₀.Ns s.heap.objs.size m) (k : ∀ a o, s.heap.get? a = some o → h₀.get? a = some o)
    (lo : LocOK L.D env r.nm l h₀ σ (s.heap.objs.size :: x.F)) (p : Post L.D x σ s (fun e s' => R (.error e) s') (ended (exSs L.G (callB P L.G b) d.body (l, cs))) (KV L.D x.F fun v s' => R (.ok (.ret v)) s')) :
    wpAny (model L.D.prog L.D.w) (x.A.deeper env) (execs r.body env) (fun f s' => R (.ok (.ret (match f with | .ret v => v | _ => .none))) s') (fun e s' => wpAny (model L.D.prog L.D.w) (x.A.deeper env) (leaving env e) (fun _ s'' => R (.error e) s'') (fun e' s'' => R (.error e') s'') s') { s with heap := h₀, toks := tk } := by
  have Rm' : Room (x.A.deeper env) (env :: x.envs) b := by
    have h1 := Rm.depth
    have h2 := Rm.units
    refine ⟨?_, Rm.handled, ?_, ?_⟩
    · show x.A.frames.map _ = _
      rw [Rm.frames]; rfl
    · show x.A.depth + 1 + 3 * b ≤ 900
      omega
    · show x.A.units + 3 + 30 * b ≤ 9000
      omega
  have hn : h₀.get? s.heap.objs.size ≠ none := let ⟨_, _, _, e, _⟩ := n; fun z => none_some (z.symm.trans e)
  have W₀ := (W.addFs (Fs := [s.heap.objs.size]) (fun a m => List.mem_singleton.mp m ▸ ⟨sz, fresh_here, hn⟩) k).enter n ((congrArg Scope.kind e1).trans O.kind) e5
  have sub : ∀ a ∈ x.F, a ∈ s.heap.objs.size :: x.F := fun a m => List.mem_cons_of_mem _ m
  let y : Cx := ⟨x.A.deeper env, env :: x.envs, env, s.heap.objs.size :: x.F⟩
  have a : AtS (L.dp P b) r.sc y σ { s with heap := h₀, toks := tk } l cs σ { s with heap := h₀, toks := tk } :=
    ⟨⟨Rm', ⟨(congrArg Scope.kind e1).trans O.kind, e2.trans O.glob, e3.trans O.blt, e4 ▸ List.mem_cons_self, fun z => congrArg (fun c : Scope => c.names.lookup z) e1⟩, W₀, lo⟩, ⟨⟨_, rfl⟩, e5.trans (congrArg some e4.symm)⟩, GoL.refl⟩
  refine (hb O.nmN O.mtch) a _ _ ?_
  have e : exSs (L.dp P b).G (L.dp P b).C d.body (l, cs) = exSs L.G (callB P L.G b) d.body (l, cs) := rfl
  rw [e]
  have leave : ∀ {σ' h'}, StepL env.locals (s.heap.objs.size :: x.F) σ h₀ σ' h' → Step x.F σ s.heap σ' h' := fun S => ((e4 ▸ S : StepL s.heap.objs.size _ _ _ _ _).but sub (fun a m => (List.mem_cons.mp m).elim (fun z => .inr (z ▸ fresh_here)) .inl) k (fun _ _ e _ => e) fun _ _ ne _ => ne).toStep W.notF
  cases q : exSs L.G (callB P L.G b) d.body (l, cs) with
  | no => rw [q] at p; exact p.elim
  | ok f st =>
    rw [q] at p
    intro σ' s' W1 S1 l1 fl rf
    have g : Go x.F σ s σ' s' := ⟨leave S1.st, S1.lt.1, S1.lt.2, S1.lt.3⟩
    have W2 := W1.leave sub W.inF
    cases rf with
    | next => exact p σ' s' W2 g _ .none
    | brk => exact p σ' s' W2 g _ .none
    | ret rv => exact p σ' s' W2 g _ (rv.less sub)
  | ex m z st =>
    rw [q] at p
    intro e σ' h0 s' Fx i1 i2 W1 S1 x1 l1
    refine left_at Rm' a.blk W1 x1 fun s2 l2 x2 => ?_
    refine p e σ' h0 s2 Fx (fun a m => i1 a (sub a m)) (fun a m => ?_) (W1.leave (fun a m => m) fun e he L eL => i1 L (sub L (W.inF e he L eL))) (leave S1) x2 ⟨(l1.trans l2).1, (l1.trans l2).2, (l1.trans l2).3⟩
    rcases i2 a m with q | q
    · exact (List.mem_cons.mp q).elim (fun z => .inr (z ▸ fresh_here)) .inl
    · refine .inr ?_
      cases z : s.heap.get? a with
      | none => rfl
      | some o => exact (none_some (q.symm.trans (k a o z))).elim

theorem lookup_of {l : List (Str × Value)} {y : Str} {v : Value} (hn : l.Pairwise fun p q => p.1 ≠ q.1) (m : (y, v) ∈ l) : l.lookup y = some v := by
  induction l with
  | nil => exact (List.not_mem_nil m).elim
  | cons p l ih =>
    obtain ⟨z, w⟩ := p
    have hn' := List.pairwise_cons.mp hn
    rw [List.lookup_cons]
    rcases List.mem_cons.mp m with e | m
    · cases e; rw [beq_self_eq_true]
    · rw [beq_eq_false_iff_ne.mpr fun e => hn'.1 _ m e.symm]
      exact ih hn'.2 m
theorem zip_pw : ∀ {ns : List Str} {ws : List Value}, ns.Nodup → (ns.zip ws).Pairwise fun p q => p.1 ≠ q.1
  | [], _, _ => .nil
  | _ :: _, [], _ => .nil
  | a :: l, _ :: _, h => .cons (fun q m (e : a = q.1) => (List.nodup_cons.mp h).1 (e ▸ (List.of_mem_zip (b := q.2) m).1)) (zip_pw (List.nodup_cons.mp h).2)
theorem lookup_zip {ns : List Str} {ws : List Value} (hn : ns.Nodup) {i : Nat} {y : Str} {v : Value} (e1 : ns[i]? = some y) (e2 : ws[i]? = some v) : (ns.zip ws).reverse.lookup y = some v :=
  lookup_of (List.pairwise_reverse.mpr ((zip_pw hn).imp Ne.symm)) (List.mem_reverse.mpr (List.mem_of_getElem? (List.getElem?_zip_eq_some.mpr ⟨e1, e2⟩)))
theorem Rps.drop {D : Gd} {h : Heap} {σ F : List Addr} {n : Nat} {vs : List Value} {xs : List CV} (r : Rps D h σ F vs xs) : Rps D h σ F (vs.drop n) (xs.drop n) := by
  induction n generalizing vs xs with
  | zero => exact r
  | succ n ih => cases r with
    | nil => exact .nil
    | cons _ r => exact ih r
/-- the run of a def's body gives the def's call -/
theorem def_ok (O : FnOK L d r) (hlim : L.D.base.NoLimit) (hb : SndB (L.dp P b) d.body) (Rm : Room2 x.A x.envs (b + 1)) (sz : L.D.base.objs.size ≤ s.heap.objs.size) (W : Wd L.D x.envs x.F σ cs s.heap) (rs : Rps L.D s.heap σ x.F vals vs) (hl : bindLoc d vs = some l)
    (p : Post L.D x σ s (fun e s' => R (.error e) s') (ended (exSs L.G (callB P L.G b) d.body (l, cs))) (KV L.D x.F fun v s' => R (.ok (.ret v)) s')) : codeAny (model L.D.prog L.D.w) x.A (.call (.ref r.a) ⟨vals, []⟩) R s := by
  obtain ⟨⟨n1, n2⟩, rfl⟩ := ofIf_is (hl : ofIf _ _ = some l)
  rw [← rs.length] at n1 n2
  obtain ⟨o, ho, hd⟩ := O.at_
  refine codeAny_call_def (fd := r.fd) (body := r.body) (binds := (r.nm.take d.np).zip (vals ++ r.dv.drop (d.dflt.length + vals.length - d.np))) (depth_ok Rm) (W.base _ _ ho) hd (hlim.keeps W.base) (O.code.keeps W.base) O.body (O.binds s vals W.base n1 n2) O.noCell (fun x hx => O.par x.1 (List.of_mem_zip hx).1) (fun h₀ n k => ?_) O.co O.gen O.kind
  have rall : Rps L.D h₀ σ (s.heap.objs.size :: x.F) (vals ++ r.dv.drop (d.dflt.length + vals.length - d.np)) (vs ++ d.dflt.drop (d.dflt.length + vs.length - d.np)) := by
    rw [rs.length]; exact (rs.more (fun a o e _ => k a o e) _ fresh_here).append (O.dv h₀ σ _).drop
  refine enter_ok O.toFnCode hb Rm sz W rfl rfl rfl rfl rfl rfl n k ⟨_, n, fun i y cv e1 e2 => ?_⟩ p
  have e3 : (vs ++ d.dflt.drop (d.dflt.length + vs.length - d.np))[i]? = some cv := by
    rcases Nat.lt_or_ge i (vs ++ d.dflt.drop (d.dflt.length + vs.length - d.np)).length with q | q
    · rw [List.getElem?_append_left (by rw [List.length_map]; exact q), List.getElem?_map] at e2
      obtain ⟨_, e3, e4⟩ := Option.map_eq_some_iff.mp e2
      cases e4; exact e3
    · rw [List.getElem?_append_right (by rw [List.length_map]; exact q)] at e2
      exact Option.noConfusion rfl (heq_of_eq (Option.some.inj ((List.getElem?_eq_some_iff.mp e2).2.symm.trans (List.getElem_replicate ..) |> congrArg some)))
  obtain ⟨v, ev, rv⟩ := rall.get e3
  have hi : i < d.np := by
    have h1 := (List.getElem?_eq_some_iff.mp e3).1
    rw [List.length_append, List.length_drop, ← rs.length] at h1
    omega
  have e5 : (r.nm.take d.np)[i]? = some y := (List.getElem?_take_of_lt hi).trans e1
  exact ⟨v, rv, .inl ⟨O.par y (List.mem_of_getElem? e5), lookup_zip (O.nmN.sublist (List.take_sublist _ _)) e5 ev⟩⟩

theorem defC_ok {w : Str} (O : FnOKC L d r w) (hlim : L.D.base.NoLimit) (hb : SndB (L.dp P b) d.body) (Rm : Room2 x.A x.envs (b + 1)) (sz : L.D.base.objs.size ≤ s.heap.objs.size) (W : Wd L.D x.envs x.F σ cs s.heap) (rs : Rps L.D s.heap σ x.F vals vs) (hl : bindLoc d vs = some l)
    (p : Post L.D x σ s (fun e s' => R (.error e) s') (ended (exSs L.G (callB P L.G b) d.body (l, cs))) (KV L.D x.F fun v s' => R (.ok (.ret v)) s')) : codeAny (model L.D.prog L.D.w) x.A (.call (.ref r.a) ⟨vals, []⟩) R s := by
  obtain ⟨⟨n1, n2⟩, rfl⟩ := ofIf_is (hl : ofIf _ _ = some l)
  rw [O.np.1] at n1 n2 p
  rw [O.np.2] at n2 p
  obtain ⟨z, rfl⟩ := List.length_eq_one_iff.mp (Nat.le_antisymm n1 n2)
  obtain ⟨v, _, rfl, hrv, rs⟩ := rs.view
  cases (rs.view : _ = [])
  obtain ⟨o, ho, hd⟩ := O.at_
  refine codeAny_call_cells (fd := r.fd) (body := r.body) (binds := [(w, v)]) (depth_ok Rm) (W.base _ _ ho) hd (hlim.keeps W.base) (O.code.keeps W.base) O.body (O.binds v) O.clos (fun y hy => List.mem_singleton.mp hy ▸ .inr ⟨O.par, O.cell _⟩) (fun s₁ I => ?_) O.co O.gen O.kind
  obtain ⟨h₀, tk₀, rfl⟩ := I.toInCall.same
  have k : ∀ a o, s.heap.get? a = some o → h₀.get? a = some o := I.toInCall.keep
  have n : h₀.Ns s.heap.objs.size _ := I.toInCall.ns
  refine enter_ok O.toFnCode hb Rm sz W rfl rfl rfl rfl rfl rfl n k ⟨_, n, fun i y cv e1 e2 => ?_⟩ p
  cases i with
  | zero =>
    cases O.nm0.symm.trans e1
    cases (Option.some.inj e2 : some z = some cv)
    obtain ⟨c, hc⟩ := Option.isSome_iff_exists.mp (O.cell (s.heap.objs.size + 1))
    have hcl : (callEnvC r.fd s.heap.objs.size r.a).cells.lookup w = some c := hc
    have ic := I.cell w c hcl
    have hnl : ¬ (callEnvC r.fd s.heap.objs.size r.a).kindOf w = some .local := fun z => NameKind.noConfusion (Option.some.inj (O.par.symm.trans z))
    have hbc : bindC (callEnvC r.fd s.heap.objs.size r.a).kindOf [(w, v)] (fun _ => none) w = some v := by
      unfold bindC; rw [if_neg hnl]; simp [bindC]
    rw [hbc] at ic
    have hgt : s.heap.objs.size < c := I.above w c (mem_of_lookup hcl)
    have hno : s.heap.get? c = none := none_of_size (Nat.le_of_lt hgt)
    exact ⟨v, hrv.more (fun a o e _ => k a o e) _ fresh_here, .inr ⟨O.par, c, hcl, ic, fun m => W.there m hno, fun m => (List.mem_cons.mp m).elim (fun z => Nat.lt_irrefl _ (z ▸ hgt)) fun m => W.exF c m hno⟩⟩
  | succ i =>
    have e2 : (List.replicate (d.nv - 1) (none : Option CV))[i]? = some (some cv) := e2
    exact (none_some ((List.getElem_replicate ..).symm.trans (List.getElem?_eq_some_iff.mp e2).2)).elim
end
end Mine
end

section
open PySem PySem.W PyProof.Rows PySem.Spec PySem.Calls
namespace Mine

/-- the text's defs, as the names reach them -/
structure FnTab (L : Lng) : Prop where
  call : ∀ (f : Nat) x, L.N.fn[f]? = some x → L.N.ms.contains f = false → L.mg x = some (.ref (L.fa f))
  meth : ∀ (f : Nat) x, L.N.fn[f]? = some x → L.N.ms.contains f = true → findIn L.K (.ref L.D.CW) x = some (some (.ref (L.fa f))) ∧ typeIn L.K (.ref (L.fa f)) = some (.type "function") ∧ (∀ n, (x == attrNm n) = false)
  keep : ∀ (f : Nat) x, L.N.fn[f]? = some x → keepIn L.K (.ref (L.fa f)) = true
  init : L.N.fn[initIx]? = some "__init__" ∧ L.N.ms.contains initIx = true
  words : L.mg "Words" = some (.ref L.D.CW) ∧ keepIn L.K (.ref L.D.CW) = true
/-- all calls of the text are sound -/
noncomputable def OSnds (L : Lng) : Prop := ∀ f, (∃ x, L.N.fn[f]? = some x) → OSnd L f (L.fa f)

section
variable {L : Lng} {c : Sc} {x : Cx} {loc : Loc} {cs : Cells} {σ : List Addr} {s : Shared} {E : Value → Shared → Prop} {Q : Value → Shared → Prop}
theorem noStars {env : Env} {pos : Pos} {ys : List X} {es : List Expr} (h : mEs L.N c ys es = true) : (backTo pos (starEach es env)).any (·.1) = false :=
  mEs_ind (P := fun _ es => (backTo pos (starEach es env)).any (·.1) = false) rfl (fun h1 _ ih => by
    rw [star_of (notStar h1) _ env]
    exact (Bool.or_eq_false_iff.mpr ⟨rfl, ih⟩)) h
/-- the parts of a call, and then the call of what the fragment knows -/
theorem args_ok (Z : Fx L) {ys : List X} (hy : ∀ y ∈ ys, Snd L y) {es : List Expr} (hm : mEs L.N c ys es = true) {f : Value} (hk : keepIn L.K f = true) {first : List Value} {pos : Pos} (a : At L c x loc cs σ s)
    (p : Post L.D x σ s E (evXs L.G L.C ys loc cs) (KVs L.D x.F fun vals s' => wpAny (model L.D.prog L.D.w) x.A (call f (first ++ vals)) Q E s')) :
    wpAny (model L.D.prog L.D.w) x.A (callWith pos f first (backTo pos (starEach es x.env)) []) Q E s := by
  cases ys with
  | nil =>
    cases none_es hm
    exact callWith_K0 (Z.X.keeps a.wd.base) hk (p σ s a.wd Go.refl [] .nil)
  | cons y ys =>
    cases es with
    | nil => exact (ff_tt hm).elim
    | cons e es => exact callWith_K Z.X hk (spliced_ok hm pos hy a (p.mono fun vs cs₁ σ₁ s₁ W₁ S₁ p vals rs => ⟨Z.X.keeps W₁.base, p vals rs⟩)) (star_of (notStar (and_tt hm).1) es x.env) (noStars (and_tt hm).2)

/-- the call itself -/
theorem ocall_ok (O : OSnds L) {f : Nat} {n : Str} (hf : L.N.fn[f]? = some n) (a : At L c x loc cs σ s) {vs : List CV} {vals : List Value} (rs : Rps L.D s.heap σ x.F vals vs) (p : Post L.D x σ s E (L.C f vs cs) (KV L.D x.F Q)) : wpAny (model L.D.prog L.D.w) x.A (call (.ref (L.fa f)) vals) Q E s :=
  wpAny_call (O f ⟨n, hf⟩ a.room.wide (a.wd.size a.eo.loc) a.wd rs p)
theorem Snd.call (Z : Fx L) (T : FnTab L) (O : OSnds L) (f : Nat) {ys : List X} (hy : ∀ y ∈ ys, Snd L y) : Snd L (.call f ys) := fun c e h => onCall_is (P := fun e => Val L c (.call f ys) e ∧ Tst L c (.call f ys) e) h fun g es ks pos h =>
  onName_is (P := fun g => Val L c (.call f ys) (.Call g es ks pos) ∧ Tst L c (.call f ys) (.Call g es ks pos)) h fun n np h => on0_is (P := fun ks => Val L c (.call f ys) (.Call (.Name n np) es ks pos) ∧ Tst L c (.call f ys) (.Call (.Name n np) es ks pos)) h fun h => by
    have h1 := eq_of_beq (and_tt h).1
    have h := (and_tt h).2
    exact val_tst (fun a Q E p => Call_Name rfl (gl_name Z a (and_tt (and_tt h).2).1 (T.call f n h1 ((Bool.not_eq_true' _).mp (and_tt h).1)) (args_ok Z hy (and_tt (and_tt h).2).2 (T.keep f n h1) a ((Post.bind p).mono fun vs cs₁ σ₁ s₁ W S p vals rs =>
      ocall_ok O h1 (a.go W S) rs p)))) fun _ _ => rfl

theorem call_meth_any {M : Model} {A : Around} {env : Env} {o : Expr} {name : Str} {apos pos : Pos} {args : List Expr}
    (hbase : attributeBase o name env (eval o env) = eval o env) (hfew : (backTo pos (starEach args env)).any (·.1) = false) (hlen : args.length < 30) (hline : (apos.endLine == pos.line) = true)
    (h : wpAny M A (eval o env) (fun ov s₁ => ∀ pl, wpAny M A (getMethod ov name pl) (fun fx s₂ => wpAny M A (callWith pos fx.1 fx.2 (backTo pos (starEach args env)) []) Q E s₂) E s₁) E s) :
    wpAny M A (eval (.Call (.Attribute o name apos) args [] pos) env) Q E s := by
  rw [arm_eval_Call, hbase]
  refine wpAny_bind (wpAny_mono h (fun ov s₁ h₁ => wpAny_bind (wpAny_standAt ?_)) fun _ _ e => e)
  have hform : methodCallForm (args.length + ([] : List Keyword).length) (backTo pos (starEach args env)) (backToKw pos (keywordEach [] env)) = true := by
    unfold methodCallForm
    refine and_of (and_of ?_ rfl) (decide_eq_true hlen)
    rw [List.all_eq_not_any_not, Bool.not_eq_true']
    simp only [Bool.not_not]
    exact hfew
  have hpos : methodCallPos true o env apos pos = pure pos := by unfold methodCallPos; rw [hline]; rfl
  unfold methodCall
  rw [hform]
  refine wpAny_bind (wpAny_holding ?_)
  unfold calleeOf
  exact wpAny_mono (h₁ _) (fun fx s₂ h₂ => wpAny_bind (wpAny_of_eq hpos h₂)) fun _ _ e => e

theorem getL_miss {D : Gd} {h : Heap} {F : List Addr} {i : Inst} {er ei ed : List DictEntry} (E : Ents D h σ F i er ei ed) {n : Str} (hn : ∀ k, (n == attrNm k) = false) : getL n (er ++ ei ++ ed) = some none := by
  have sk : ∀ {y : String} {o l}, Ent D h σ F y o l → (n == Str.ofString y) = false → _ := fun {y o l} e q => Ent.skip e (beq_eq_false_iff_ne.mpr (Ne.symm (beq_eq_false_iff_ne.mp q)))
  obtain ⟨f1, g1, _⟩ := sk E.r (hn 0)
  obtain ⟨f2, g2, _⟩ := sk E.a (hn 1)
  obtain ⟨f3, g3, _⟩ := sk E.d (hn 2)
  have e : er ++ ei ++ ed = er ++ (ei ++ (ed ++ [])) := by rw [List.append_nil, List.append_assoc]
  have q1 : (er ++ ei ++ ed).find? (Nam n) = none := by rw [e, f1, f2, f3]; rfl
  have q2 : (er ++ ei ++ ed).any (·.refKey) = false := by rw [e, g1, g2, g3]; rfl
  unfold getL
  rw [q1, q2]; rfl
theorem inst_is {cs : Cells} {j : Nat} (h : isInst cs j = true) : ∃ i, instAt cs j = some i := Option.isSome_iff_exists.mp h
theorem Snd.meth (Z : Fx L) (Y : ClsOK L.K L.D.CW) (T : FnTab L) (O : OSnds L) (m : Nat) {o : X} {ys : List X} (ho : Snd L o) (hy : ∀ y ∈ ys, Snd L y) : Snd L (.meth o m ys) := fun c e h => onMeth_is (P := fun e => Val L c (.meth o m ys) e ∧ Tst L c (.meth o m ys) e) h fun b n apos es pos g1 g2 h => by
  obtain ⟨h1, h⟩ := and_tt h
  obtain ⟨h2, h⟩ := and_tt h
  obtain ⟨h3, h⟩ := and_tt h
  have h1 := eq_of_beq h1
  obtain ⟨t1, t2, t3⟩ := T.meth m n h1 h2
  have hl : es.length < 30 := Nat.lt_of_le_of_lt (mEs_len (and_tt h).1 ▸ of_decide_eq_true (and_tt h).2) (by decide)
  refine val_tst (fun {x loc cs σ s} a Q E p => call_meth_any (base_of g2 _ _) (noStars (and_tt h).1) hl g1 (Val.and (ho h3).1 a p fun w cs₁ σ₁ s₁ a₁ S₁ p va ra => ?_)) fun _ _ => rfl
  refine Post.obj (P := fun w => RpA L x σ₁ s₁ va w → ∀ pl, wpAny (model L.D.prog L.D.w) x.A (getMethod va n pl) (fun fx s₂ => wpAny (model L.D.prog L.D.w) x.A (callWith pos fx.1 fx.2 (backTo pos (starEach es x.env)) []) Q E s₂) E s₁) p (fun j p ra pl => Post.ite p fun hi p => ?_) ra
  obtain ⟨oa, d, rfl, hoo, n1, n2, hc⟩ := ra.view
  obtain ⟨i, ei⟩ := inst_is hi
  obtain ⟨er, ei, ed, k, eo, es'⟩ := inst_of a₁ hc ei
  refine method_fn (Z.X.keeps a₁.wd.base) (C := L.D.CW) (od := some (dictOf (er ++ ei ++ ed) k)) ⟨hoo, rfl, rfl, eo⟩ Y.hga Y.hgk t1 t2 ?_ ?_
  · show (lookIn n (dictOf (er ++ ei ++ ed) k)).map _ = _
    rw [lookIn_dict, getL_miss es' t3]; rfl
  · exact args_ok Z hy (and_tt h).1 (T.keep m n h1) a₁ ((Post.bind p).mono fun vs cs₂ σ₂ s₂ W S p vals rs => ocall_ok O h1 (a₁.go W S) (.cons ((Rp.obj hoo n1 n2 hc).step S.st) rs) p)

/-- a new thing of the own class -/
theorem make_ok (Z : Fx L) (Y : ClsOK L.K L.D.CW) (T : FnTab L) (O : OSnds L) (a : At L c x loc cs σ s) {v : CV} {va : Value} (ra : RpA L x σ s va v) (p : Post L.D x σ s E ((L.C initIx [.obj cs.length, v] (cs ++ [.inst none none none])).bind fun r cs' => r.onNone .no (.ok (.obj cs.length) cs')) (KV L.D x.F Q)) :
    wpAny (model L.D.prog L.D.w) x.A (call (.ref L.D.CW) [va]) Q E s := by
  have X1 := Z.X.keeps a.wd.base
  obtain ⟨t1, t2, _⟩ := T.meth initIx "__init__" T.init.1 T.init.2
  obtain ⟨h, g, d, tk, os⟩ := s
  refine wpAny_call (make_core (makes_of X1 Y.makes) (looks_findIn X1 t1) (fun self => bind_fn X1 self t2) (.inl rfl) ?_)
  have k2 : ∀ b o, h.get? b = some o → (h.push emptyDict).get? b = some o := fun b o e => Heap.get?_push_of_some _ e
  have S2 := Step.cell (F := x.F) (σ := σ) k2
  have W2 := a.wd.cell a.eo.loc k2 (.inst none none none) ⟨[], [], [], 0, Heap.get?_push_size _ rfl, rfl, rfl, rfl⟩
  have S3 := Step.push (F := x.F) (σ := σ ++ [h.objs.size]) (h := h.push emptyDict) (instObj L.D.CW h.objs.size)
  have W3 := W2.push (instObj L.D.CW h.objs.size)
  have ro : Rp L.D ((h.push emptyDict).push (instObj L.D.CW h.objs.size)) (σ ++ [h.objs.size]) x.F (.ref (h.objs.size + 1)) (.obj cs.length) := by
    rw [← Heap.size_push h emptyDict]
    exact .obj (Heap.get?_push_size _ rfl) W2.notσ W2.notF (last_cell a.wd.len)
  let y : Cx := ⟨x.A.under (.builtin "type.__call__" ⟨[.ref L.D.CW, va], []⟩), x.envs, x.env, x.F⟩
  have R : Room2 y.A y.envs L.b := by
    have e2 : Code.weight (.builtin "type.__call__" ⟨[.ref L.D.CW, va], []⟩) = 1 := by kernel_rfl
    have e3 : Code.cUnits (.builtin "type.__call__" ⟨[.ref L.D.CW, va], []⟩) = 1 := by kernel_rfl
    have h1 := a.room.depth
    have h2 := a.room.units
    refine ⟨a.room.frames, a.room.handled, ?_, ?_⟩
    · show x.A.depth + Code.weight (.builtin "type.__call__" ⟨[.ref L.D.CW, va], []⟩) + 3 * L.b ≤ 902
      rw [e2]; omega
    · show x.A.units + Code.cUnits (.builtin "type.__call__" ⟨[.ref L.D.CW, va], []⟩) + 30 * L.b ≤ 9027
      rw [e3]; omega
  refine O initIx ⟨_, T.init.1⟩ (x := y) R (W3.size a.eo.loc) W3 (.cons ro (.cons ((ra.step S2).step S3) .nil)) ?_
  have p : Post L.D y (σ ++ [h.objs.size]) ⟨(h.push emptyDict).push (instObj L.D.CW h.objs.size), g, d, tk, os⟩ E _ _ := Post.from (x := y) (Post.bind p) (s₁ := ⟨(h.push emptyDict).push (instObj L.D.CW h.objs.size), g, d, tk, os⟩) ⟨S2.trans S3, rfl, rfl, rfl⟩ W3
  refine Post.mono (E := E) p fun r cs₄ σ₄ s₄ W₄ S₄ p val rv => ?_
  refine Post.none (P := fun r => RpA L x σ₄ s₄ val r → _) p (fun p rv => ?_) rv
  cases (rv.view : val = .none)
  exact ⟨rfl, p σ₄ s₄ W₄ Go.refl _ (ro.step S₄.st)⟩
theorem Snd.words (Z : Fx L) (Y : ClsOK L.K L.D.CW) (T : FnTab L) (O : OSnds L) {y : X} (hy : Snd L y) : Snd L (.words y) := fun c e h => onBlt_is (P := fun e => Val L c (.words y) e ∧ Tst L c (.words y) e) h fun np es pos g1 g2 h =>
  on1_is (P := fun es => Val L c (.words y) (.Call (.Name "Words" np) es [] pos) ∧ Tst L c (.words y) (.Call (.Name "Words" np) es [] pos)) h fun e h =>
    val_tst (fun {x loc cs σ s} a Q E p => Call_Name rfl (gl_name Z a (and_of (beq_iff_eq.mpr g1) ((Bool.not_eq_true' _).mpr g2)) T.words.1 (callWith_K Z.X T.words.2 (spliced_more (Val.and (hy h).1 a p fun v cs₁ σ₁ s₁ a₁ S₁ p va ra =>
      spliced_none ⟨Z.X.keeps a₁.wd.base, make_ok Z Y T O a₁ ra p⟩) (star_of (notStar h) [] x.env)) (star_of (notStar h) [] x.env)))) fun _ _ => rfl
end
end Mine
end

section
open PySem PySem.W PyProof.Rows PySem.Spec PySem.Calls
namespace Mine
/- comprehensions: D the list that is made, C the names' own storage -/
section
variable {D : Gd} {h h' : Heap} {σ F : List Addr} {d : Addr}
/-- what is left out of account changes, and is no dict -/
theorem Wd.inn {envs : List Env} {cs : Cells} (W : Wd D envs F σ cs h) (k : ∀ a o, h.get? a = some o → a ≠ d → h'.get? a = some o) (hD : d ∈ F) {o : Obj} (e : h.get? d = some o) (nd : ¬ isD o) (st : h'.get? d ≠ none) : Wd D envs F σ cs h' := by
  have M : Mp h σ F h' σ F := ⟨fun a o e _ n2 _ => k a o e fun z => n2 (z ▸ hD), fun _ _ _ n1 n2 _ => ⟨n1, n2⟩, fun _ _ e => e⟩
  refine ⟨fun a o' e' => k a o' (W.base a o' e') fun z => absurd (Heap.lt_size (z ▸ e')) (Nat.not_lt.mpr (W.newF _ hD)), W.len, W.nd, W.new, W.apart, W.newF, fun c a x e1 e2 => (W.cells c a x e1 e2).map M fun o e _ => k a o e fun z => W.apart a (List.mem_of_getElem? e1) (z ▸ hD),
    fun en he => ?_, W.inF, fun a m => ?_⟩
  · obtain ⟨q, L', m', e', o', es, ep, z1, z2⟩ := W.frs en he
    exact ⟨q, L', m', e', o', es, ep, k _ _ z1 fun z => nd (by cases e.symm.trans (z ▸ z1); exact ⟨es, ep, z2.1⟩), z2⟩
  · by_cases z : a = d
    · exact z ▸ st
    · cases q : h.get? a with
      | none => exact absurd q (W.exF a m)
      | some o => exact fun y => none_some (y.symm.trans (k _ _ q z))
theorem StepL.inn {L : Addr} {h0 : Heap} {σ0 : List Addr} (S : StepL L F σ0 h0 σ h) (k : ∀ a o, h.get? a = some o → a ≠ d → h'.get? a = some o) (n0 : h0.get? d = none) {o : Obj} (e : h.get? d = some o) (nd : ¬ isD o) : StepL L F σ0 h0 σ h' := by
  have ne : ∀ {a o}, h0.get? a = some o → a ≠ d := fun e z => none_some (n0.symm.trans (z ▸ e))
  refine ⟨S.pre, S.fresh, fun a o' e1 n1 n2 => k _ _ (S.keep a o' e1 n1 n2) (ne e1), fun L' hL nl m n => ?_, fun L' hL o' e1 => ?_⟩
  · obtain ⟨o', es, ep, z1, z2⟩ := S.fr L' hL nl m n
    exact ⟨o', es, ep, k _ _ z1 fun z => nd (by cases e.symm.trans (z ▸ z1); exact ⟨es, ep, z2.1⟩), z2⟩
  · obtain ⟨o1, e2, f⟩ := S.frk L' hL o' e1
    exact ⟨o1, k _ _ e2 (ne e1), f⟩
theorem nd_list (vs : List Value) (k : Nat) : ¬ isD (PySem.W.listOf vs.toArray k) := fun ⟨_, _, z⟩ => Data.noConfusion z
end

/-- within a comprehension that began at s: acc is what the list holds -/
structure InC (L : Lng) (x : Cx) (D C : Addr) (σ : List Addr) (s : Shared) (acc : List CV) (cs : Cells) (σn : List Addr) (s' : Shared) : Prop where
  wd : Wd L.D x.envs (D :: C :: x.F) σn cs s'.heap
  st : StepL C (D :: C :: x.F) σ s.heap σn s'.heap
  lt : Later s s'
  ns : ∃ m, s'.heap.Ns C m
  acc : ∃ ys k, s'.heap.get? D = some (PySem.W.listOf (ys : List Value).toArray k) ∧ Rps L.D s'.heap σn (D :: C :: x.F) ys acc
/-- what is new at the beginning -/
structure NewC (L : Lng) (x : Cx) (s : Shared) (it D C : Addr) : Prop where
  ni : New L.D x.F s it
  nd : New L.D x.F s D
  nc : New L.D x.F s C
  ID : it ≠ D
  IC : it ≠ C
  DC : D ≠ C
section
variable {L : Lng} {c : Sc} {x : Cx} {loc : Loc} {cs csn : Cells} {σ σn : List Addr} {s s' : Shared} {E : Value → Shared → Prop} {Q : Value → Shared → Prop} {it D C : Addr} {acc : List CV}
theorem NewC.out (N : NewC L x s it D C) : it ∉ D :: C :: x.F := fun m => (List.mem_cons.mp m).elim N.ID fun m => (List.mem_cons.mp m).elim N.IC N.ni.out
theorem NewC.fresh (N : NewC L x s it D C) : ∀ a ∈ D :: C :: x.F, a ∈ x.F ∨ s.heap.get? a = none := fun a m => (List.mem_cons.mp m).elim (fun z => .inr (z ▸ N.nd.old)) fun m => (List.mem_cons.mp m).elim (fun z => .inr (z ▸ N.nc.old)) .inl
theorem mem2 {a : Addr} {F : List Addr} (m : a ∈ F) : a ∈ D :: C :: F := List.mem_cons_of_mem _ (List.mem_cons_of_mem _ m)
theorem memC {F : List Addr} : C ∈ D :: C :: F := List.mem_cons_of_mem _ List.mem_cons_self
theorem At.newN (a : At L c x loc cs σ s) {n : Addr} (h : s.heap.get? n = none) : New L.D x.F s n := by
  refine ⟨?_, h, fun m => a.wd.exF _ m h⟩
  cases q : L.D.base.get? n with
  | none => rfl
  | some o => exact (none_some (h.symm.trans (a.wd.base _ _ q))).elim
/-- the beginning -/
theorem InC.init (a : At L c x loc cs σ s) (N : NewC L x s it D C) (sz : L.D.base.objs.size ≤ D ∧ L.D.base.objs.size ≤ C) (l : Later s s') (k : ∀ a o, s.heap.get? a = some o → s'.heap.get? a = some o) (g : s'.heap.get? D = some (PySem.W.listOf ([] : List Value).toArray 0)) {m : Str → Option Value} (n : s'.heap.Ns C m) : InC L x D C σ s [] cs σ s' := by
  refine ⟨a.wd.addFs (Fs := [D, C]) (fun b hb => ?_) k, ⟨List.prefix_refl _, fun _ hb hn => absurd hb hn, fun a o e _ _ => k a o e, fun L' _ _ m ⟨o, es, ep, z1, z2⟩ => ⟨o, es, ep, k _ _ z1, z2⟩, fun L' _ o e => ⟨o, k _ _ e, .inl rfl⟩⟩, l, ⟨m, n⟩, [], 0, g, .nil⟩
  rcases List.mem_cons.mp hb with rfl | hb
  · exact ⟨sz.1, N.nd.old, fun z => none_some (z.symm.trans g)⟩
  · obtain rfl := List.mem_singleton.mp hb
    obtain ⟨o, _, _, e, _⟩ := n
    exact ⟨sz.2, N.nc.old, fun z => none_some (z.symm.trans e)⟩
theorem InC.to {cs₂ : Cells} {σ₂ : List Addr} {s₂ : Shared} (I : InC L x D C σ s acc csn σn s') (W : Wd L.D x.envs (D :: C :: x.F) σ₂ cs₂ s₂.heap) (S : StepL C (D :: C :: x.F) σn s'.heap σ₂ s₂.heap) (l : Later s' s₂) (n : ∃ m, s₂.heap.Ns C m) : InC L x D C σ s acc cs₂ σ₂ s₂ := by
  obtain ⟨ys, k, e, r⟩ := I.acc
  obtain ⟨o', e', fr⟩ := S.frk D List.mem_cons_self _ e
  exact ⟨W, I.st.trans S, I.lt.trans l, n, ys, k, fr.elim (fun z => z ▸ e') fun z => absurd z.1 (nd_list _ _), r.stepL S⟩
theorem InC.chg {s₂ : Shared} (I : InC L x D C σ s acc csn σn s') (N : NewC L x s it D C) (g : Chg it s'.heap s₂.heap) (l : Later s' s₂) : InC L x D C σ s acc csn σn s₂ := by
  obtain ⟨ys, k, e, r⟩ := I.acc
  obtain ⟨m, n⟩ := I.ns
  exact ⟨I.wd.chg g N.ni.base N.out, I.st.chg g N.ni.old N.out, I.lt.trans l, ⟨m, g.ns n⟩, ys, k, g.ne e (nf_seq rfl), r.map g.mp⟩
/-- an item goes onto the list -/
theorem InC.put {v : Value} {z : CV} {h₂ : Heap} {ys : List Value} {k : Nat} (I : InC L x D C σ s acc csn σn s') (N : NewC L x s it D C) (e : s'.heap.get? D = some (PySem.W.listOf ys.toArray k)) (rs : Rps L.D s'.heap σn (D :: C :: x.F) ys acc) (r : Rp L.D s'.heap σn (D :: C :: x.F) v z) (hs : Heap.SameBut D s'.heap h₂) (e₂ : h₂.get? D = some (PySem.W.listOf (ys ++ [v]).toArray (k + 1))) :
    InC L x D C σ s (acc ++ [z]) csn σn { s' with heap := h₂ } := by
  have kk : ∀ a o, s'.heap.get? a = some o → a ≠ D → h₂.get? a = some o := fun a o e ne => (hs.2 a ne).trans e
  have M : Mp s'.heap σn (D :: C :: x.F) h₂ σn (D :: C :: x.F) := ⟨fun a o e _ n2 _ => kk a o e fun z => n2 (z ▸ List.mem_cons_self), fun _ _ _ n1 n2 _ => ⟨n1, n2⟩, fun _ _ e => e⟩
  obtain ⟨m, o, es, ep, z1, z2⟩ := I.ns
  exact ⟨I.wd.inn kk List.mem_cons_self e (nd_list _ _) fun z => none_some (z.symm.trans e₂), I.st.inn kk N.nd.old e (nd_list _ _), ⟨I.lt.1, I.lt.2, I.lt.3⟩, ⟨m, o, es, ep, kk _ _ z1 (Ne.symm N.DC), z2⟩, _, _, e₂, (rs.map M).append (.cons (r.map M) .nil)⟩
/-- the state as a block of the comprehension sees it -/
theorem InC.at {c' : Sc} {env : Env} {loc' : Loc} (I : InC L x D C σ s acc csn σn s') (a : At L c x loc cs σ s) (eo : EnvOK env c'.kd (D :: C :: x.F)) (lo : LocOK L.D env c'.nm loc' s'.heap σn (D :: C :: x.F)) : At L c' ⟨x.A, x.envs, env, D :: C :: x.F⟩ loc' csn σn s' := ⟨a.room, eo, I.wd, lo⟩

theorem isFF_is {v : CV} (h : isFF v = true) : v = .bool false := by
  obtain ⟨b, rfl, h⟩ := CV.onBool_is ff_tt h
  rw [(Bool.not_eq_true' _).mp h]
theorem noneOf_is {cond : Loc → Cells → Res Cells CV} {z : CV} {r : List CV} {K : CV → Cells → List Addr → Shared → Prop} (p : Post L.D x σ s E (noneOf cond (z :: r) cs) K) : ∃ cs₁, cond [some z] cs = .ok (.bool false) cs₁ ∧ Post L.D x σ s E (noneOf cond r cs₁) K := by
  have e : noneOf cond (z :: r) cs = match cond [some z] cs with
    | .ok v cs => if isFF v = true then noneOf cond r cs else .no
    | .ex _ _ _ => .no
    | .no => .no := rfl
  rw [e] at p
  cases q : cond [some z] cs with
  | ok v cs₁ =>
    rw [q] at p
    exact Post.ite p fun h p => ⟨cs₁, isFF_is h ▸ rfl, p⟩
  | ex _ _ _ => rw [q] at p; exact p.elim
  | no => rw [q] at p; exact p.elim
theorem ifF {a b : Prop} (h : b) : if false = true then a else b := h
theorem ifT {a b : Prop} (h : a) : if true = true then a else b := h
/-- the turns of a list that takes nothing up -/
theorem none_turns {src : X} {cond : X} {c' : Sc} {y : Str} {py : Pos} {iter elt ct : Expr} {scope : Scope} {pos : Pos} {env : Env} {J : List CV → List Addr → Shared → Prop} (hc : Tst L c' cond ct) (hc' : c'.nm = [y]) (hk : c'.kd y = some .local) (a : At L c x loc cs σ s) (N : NewC L x s it D C) (It : Iter L.D x.A (D :: C :: x.F) it J)
    (eo : EnvOK env c'.kd (D :: C :: x.F)) (eL : env.locals = C) {R : Result → Shared → Prop} {xs : List CV} (p : Post L.D x σ s E (noneOf (fun l cs => evX L.G L.C cond l cs) xs cs) (KV L.D x.F Q)) {cs₁ : Cells} {s₁ : Shared}
    (fin : ∀ cs₂ σ₂ s₂, InC L x D C σ s [] cs₂ σ₂ s₂ → Post L.D x σ s E (.ok (.ils []) cs₂) (KV L.D x.F Q) → R (.ok .next) s₂) (I : InC L x D C σ s [] cs σ s₁) (hJ : J xs σ s₁) :
    codeAny (model L.D.prog L.D.w) x.A (.compLoop (.ListComp elt [⟨.Name y py, iter, [ct], 0⟩] scope pos) 0 (.ref it) (.ref D) env) R s₁ := by
  refine codeAny_compLoop_tests (fun k s' => ∃ l csn σn, k = l.length ∧ InC L x D C σ s [] csn σn s' ∧ J l σn s' ∧ Post L.D x σ s E (noneOf (fun l cs => evX L.G L.C cond l cs) l csn) (KV L.D x.F Q)) (fun k s' H => ?_) xs.length ⟨xs, cs, σ, rfl, I, hJ, p⟩
  obtain ⟨l, csn, σn, rfl, I, hJ, p⟩ := H
  refine It.next l σn s' hJ _ _ (fun z r el s₂ v g lt hJ' rv => ?_) fun el s₂ g lt => ?_
  · subst el
    obtain ⟨cs₂, e2, p⟩ := noneOf_is p
    have I := I.chg N g lt
    obtain ⟨m, n⟩ := I.ns
    have a₂ := I.at (loc' := [none]) a eo ⟨m, eL ▸ n, fun i y' cv _ e2 => match i, e2 with
      | 0, e2 => (none_some (Option.some.inj e2)).elim
      | i + 1, e2 => (none_some e2).elim⟩
    refine wpAny_assign_Name (store_at a₂ (i := 0) (hc' ▸ List.nodup_cons.mpr ⟨List.not_mem_nil, List.nodup_nil⟩) (hc' ▸ rfl) hk rv fun s₃ a₃ S l₃ => wpAny_tests_one (hc a₃ _ _ ?_))
    have e2 : evX L.G L.C cond [some z] csn = .ok (.bool false) cs₂ := e2
    show Post L.D _ σn s₃ _ (evX L.G L.C cond [some z] csn) _
    rw [e2]
    intro σ₄ s₄ W S₄
    refine ⟨false, rfl, ?_⟩
    have S' : StepL C (D :: C :: x.F) σn s₂.heap σ₄ s₄.heap := (eL ▸ S : StepL C _ _ _ _ _).trans (S₄.st.toL C)
    obtain ⟨m₃, n₃⟩ := a₃.ns
    exact ifF ⟨r.length, Nat.lt_succ_self _, r, cs₂, σ₄, rfl, I.to W S' (l₃.trans S₄.lt) ⟨m₃, S₄.st.fr C memC m₃ (eL ▸ n₃)⟩, It.keep _ _ _ _ _ _ hJ' S', p⟩
  · subst el
    exact fin _ _ _ (I.chg N g lt) p
/-- the end: the names' storage goes -/
theorem InC.shut {s₂ : Shared} {h' : Heap} (I : InC L x D C σ s acc csn σn s₂) (a : At L c x loc cs σ s) (N : NewC L x s it D C) (hs : Heap.SameBut C s₂.heap h') {ys : List CV} (e : acc = ys) : Wd L.D x.envs x.F σn csn h' ∧ Step x.F σ s.heap σn h' ∧ Rp L.D h' σn x.F (.ref D) (.ils ys) := by
  subst e
  have k : ∀ b o, s₂.heap.get? b = some o → b ∈ x.F ∨ b ∉ D :: C :: x.F → h'.get? b = some o := fun b o e h => (hs.2 b fun z => h.elim (fun m => N.nc.out (z ▸ m)) fun n => n (z ▸ memC)).trans e
  obtain ⟨ys, kk, e, r⟩ := I.acc
  have M : Mp s₂.heap σn (D :: C :: x.F) h' σn x.F := ⟨fun b o e _ n2 _ => k b o e (.inr n2), fun b _ _ n1 n2 _ => ⟨n1, fun m => n2 (mem2 m)⟩, fun _ _ e => e⟩
  exact ⟨I.wd.but (fun _ => mem2) k a.wd.inF, (I.st.but (L := C) (fun _ => mem2) N.fresh (fun _ _ e => e) k fun _ _ ne _ => ne).toStep N.nc.out, .ils ⟨_, (hs.2 D N.DC).trans e, rfl, kk, rfl⟩ (fun m => I.wd.apart D m List.mem_cons_self) N.nd.out (r.map M)⟩

theorem all_is {scope : Scope} {y : Str} (h : ownScope scope y = true) : scope.kind = .function ∧ (∀ z ∈ scope.names, z.2 ≠ .cell ∧ z.2 ≠ .free ∧ (z.2 = .local → scope.names.lookup z.1 = some .local)) ∧ scope.names.lookup y = some .local :=
  ⟨eq_of_beq (and_tt (and_tt h).1).1, fun z hz => by
    have h := and_tt (List.all_eq_true.mp (and_tt (and_tt h).1).2 z hz)
    exact ⟨bne_iff_ne.mp (and_tt h.1).1, bne_iff_ne.mp (and_tt h.1).2, fun e => ((Bool.or_eq_true _ _).mp h.2).elim (fun q => absurd e (bne_iff_ne.mp q)) eq_of_beq⟩, eq_of_beq (and_tt h).2⟩
theorem Snd.nocomp {src cond : X} (hs : Snd L src) (hc : Snd L cond) : Snd L (.nocomp src cond) := fun c e h => onListComp_is (P := fun e => Val L c (.nocomp src cond) e ∧ Tst L c (.nocomp src cond) e) h fun elt gens scope pos h =>
  on1_is (P := fun gens => Val L c (.nocomp src cond) (.ListComp elt gens scope pos) ∧ Tst L c (.nocomp src cond) (.ListComp elt gens scope pos)) h fun g h => by
    obtain ⟨target, iter, ifs, as_⟩ := g
    refine onName_is (P := fun target => Val L c (.nocomp src cond) (.ListComp elt [⟨target, iter, ifs, as_⟩] scope pos) ∧ Tst L c (.nocomp src cond) (.ListComp elt [⟨target, iter, ifs, as_⟩] scope pos)) h fun y py h => on1_is (P := fun ifs => Val L c (.nocomp src cond) (.ListComp elt [⟨.Name y py, iter, ifs, as_⟩] scope pos) ∧ Tst L c (.nocomp src cond) (.ListComp elt [⟨.Name y py, iter, ifs, as_⟩] scope pos)) h fun ct h => ?_
    obtain ⟨h0, h⟩ := and_tt h
    cases (of_decide_eq_true h0 : as_ = 0)
    obtain ⟨h1, h⟩ := and_tt h
    obtain ⟨h2, h⟩ := and_tt h
    obtain ⟨hk, hall, hx⟩ := all_is (and_tt h).1
    refine val_tst (fun {x loc cs σ s} a Q E p => wpAny_ListComp (fun z hz => (hall z hz).2.1) hk (fun z hz e => (hall z hz).2.2 e) (Val.and (hs h1).1 a p fun w cs₁ σ₁ s₁ a₁ S₁ p va ra => ?_) (noFold ((Bool.not_eq_true' _).mp h2) x.env)) fun _ _ => rfl
    refine Post.ils (P := fun w => RpA L x σ₁ s₁ va w → wpAny (model L.D.prog L.D.w) x.A (pyIter va) _ E s₁) p (fun xs p ra => ?_) ra
    obtain ⟨d, vs, rfl, hT, n1, n2, r⟩ := ra.view
    refine wpAny_pyIter_list hT ?_
    obtain ⟨h₁, g₁, d₁, tk₁, os₁⟩ := s₁
    dsimp only at *
    generalize e₂ : h₁.push { cls := .type "list_iterator", data := .fields #[.ref d, .int 0 0] } = h₂
    have k12 : ∀ a o, h₁.get? a = some o → h₂.get? a = some o := fun a o e => e₂ ▸ Heap.get?_push_of_some _ e
    have z2 : h₂.objs.size = h₁.objs.size + 1 := e₂ ▸ Heap.size_push ..
    have gI : h₂.get? h₁.objs.size = some { cls := .type "list_iterator", data := .fields #[.ref d, .int 0 0] } := e₂ ▸ Heap.get?_push_size _ rfl
    refine wpAny_newObj_type ?_ (small_ok rfl (Nat.zero_le _))
    dsimp only
    generalize e₃ : h₂.push { cls := .type "list", dict := none, data := .seq ([] : List Value).toArray } = h₃
    have k23 : ∀ a o, h₂.get? a = some o → h₃.get? a = some o := fun a o e => e₃ ▸ Heap.get?_push_of_some _ e
    have z3 : h₃.objs.size = h₂.objs.size + 1 := e₃ ▸ Heap.size_push ..
    have gD : h₃.get? h₂.objs.size = some (PySem.W.listOf ([] : List Value).toArray 0) := e₃ ▸ Heap.get?_push_size _ rfl
    refine wpAny_newFunctionEnv (fun z hz => (hall z hz).1) (fun z hz => (List.not_mem_nil hz).elim) (fun h₄ n₄ s₄ => ?_) hk
    dsimp only at n₄ s₄ ⊢
    have k34 : ∀ a o, h₃.get? a = some o → h₄.get? a = some o := fun a o e => s₄.extBut a o (Nat.ne_of_lt (Heap.lt_size e)) (Heap.get?_push_of_some _ e)
    have old : ∀ {n}, h₁.objs.size ≤ n → h₁.get? n = none := none_of_size
    have l12 : h₁.objs.size < h₂.objs.size := Nat.lt_of_lt_of_eq (Nat.lt_succ_self _) z2.symm
    have l23 : h₂.objs.size < h₃.objs.size := Nat.lt_of_lt_of_eq (Nat.lt_succ_self _) z3.symm
    have l2 := Nat.le_of_lt l12
    have l3 := Nat.le_of_lt (Nat.lt_trans l12 l23)
    have sz := a₁.wd.size a₁.eo.loc
    have N : NewC L x ⟨h₁, g₁, d₁, tk₁, os₁⟩ h₁.objs.size h₂.objs.size h₃.objs.size := ⟨a₁.newN (old (Nat.le_refl _)), a₁.newN (old l2), a₁.newN (old l3), Nat.ne_of_lt l12, Nat.ne_of_lt (Nat.lt_trans l12 l23), Nat.ne_of_lt l23⟩
    have I : InC L x h₂.objs.size h₃.objs.size σ₁ ⟨h₁, g₁, d₁, tk₁, os₁⟩ [] cs₁ σ₁ ⟨h₄, g₁, d₁, tk₁ + ([] : List (Str × Value)).length, os₁⟩ := .init a₁ N ⟨Nat.le_trans sz l2, Nat.le_trans sz l3⟩ ⟨rfl, rfl, rfl⟩ (fun a o e => k34 _ _ (k23 _ _ (k12 _ _ e))) (k34 _ _ gD) n₄
    have r4 : Rp L.D h₄ σ₁ (h₂.objs.size :: h₃.objs.size :: x.F) (.ref d) (.ils xs) := ra.map (mp_mores (Fs := [h₂.objs.size, h₃.objs.size]) (fun a o e => k34 _ _ (k23 _ _ (k12 _ _ e))) fun a m => (List.mem_cons.mp m).elim (fun z => z ▸ old l2) fun m => List.mem_singleton.mp m ▸ old l3)
    have loop := none_turns (src := src) (elt := elt) (iter := iter) (scope := scope) (pos := pos) (py := py) (R := fun r s' => ∃ m, s'.heap.Ns h₃.objs.size m ∧ ∀ h', Heap.SameBut h₃.objs.size s'.heap h' →
        match r with | .ok _ => Q (.ref h₂.objs.size) { s' with heap := h' } | .error z => wpAny (model L.D.prog L.D.w) x.A (passOn "comprehension.variables-let-go" z { (newEnv scope h₃.objs.size x.env.globals [] x.env.qual none .none (some x.env) 0) with scope := scope }) Q E { s' with heap := h' })
      (hc (and_tt h).2).2 rfl hx a₁ N (iter_ils (d := d) (xs := xs) a₁.room.handled N.out) (env := { (newEnv scope h₃.objs.size x.env.globals [] x.env.qual none .none (some x.env) 0) with scope := scope }) ⟨hk, a.eo.glob, a.eo.blt, memC, fun _ => rfl⟩ rfl (cs₁ := cs₁) p (fun cs₂ σ₂ s₂ I p => by
        obtain ⟨m, n⟩ := I.ns
        refine ⟨m, n, fun h' hs => ?_⟩
        obtain ⟨W, S, r⟩ := I.shut a₁ N hs rfl
        exact p σ₂ { s₂ with heap := h' } W ⟨S, I.lt.1, I.lt.2, I.lt.3⟩ _ r) I ⟨0, rfl, ⟨_, k34 _ _ (k23 _ _ gI), rfl, rfl⟩, r4, a₁.wd.notσ⟩
    exact codeAny_compStart_list loop (wpAny_pyIter_listiter (i := 0) ⟨_, k34 _ _ (k23 _ _ gI), rfl, rfl⟩ loop)
end
end Mine
end

section
open PySem PySem.W PyProof.Rows PySem.Spec PySem.Calls
namespace Mine
theorem forIn_free {w : Str} {c : Addr} (f : Str × NameKind → List (Str × Addr) → Sem (ForInStep (List (Str × Addr)))) (hno : ∀ n k r, (k == NameKind.free) = false → f (n, k) r = pure (.yield r)) (hyes : ∀ k r, (k == NameKind.free) = true → f (w, k) r = pure (.yield ((w, c) :: r))) :
    ∀ (l : List (Str × NameKind)) (cs : List (Str × Addr)), ((l.filter (·.2 == .free)).map (·.1) = [] → forIn l cs f = pure cs) ∧ ((l.filter (·.2 == .free)).map (·.1) = [w] → forIn l cs f = pure ((w, c) :: cs)) := fun l => by
  induction l with
  | nil => exact fun cs => ⟨fun _ => rfl, fun h => (nomatch h)⟩
  | cons y l ih =>
    intro cs
    obtain ⟨n, k⟩ := y
    cases hk : (k == NameKind.free) with
    | false =>
      rw [List.filter_cons_of_neg (by exact fun e => ff_tt (hk.symm.trans e)), List.forIn_cons, hno n k cs hk, pure_bind]
      exact ih cs
    | true =>
      rw [List.filter_cons_of_pos (by exact hk)]
      refine ⟨fun h => (nomatch h), fun h => ?_⟩
      obtain ⟨h1, h2⟩ := List.cons.inj h
      cases (h1 : n = w)
      rw [List.forIn_cons, hyes k cs hk, pure_bind]
      exact (ih _).1 h2
theorem closure_one {env : Env} {scope : Scope} {w : Str} {c : Addr} (hf : (scope.names.filter (·.2 == .free)).map (·.1) = [w]) (hc : env.cells.lookup w = some c) : closureFor scope env = pure [(w, c)] := by
  have cell : cellOf env w = pure c := by unfold cellOf; rw [hc]
  simp only [closureFor]
  rw [(forIn_free (w := w) (c := c) _ (fun n k r hk => by simp only [hk, Bool.false_eq_true, if_false]) (fun k r hk => by simp only [hk, if_true, cell]; rfl) scope.names []).2 hf]
  rfl
section
variable {L : Lng} {c : Sc} {x : Cx} {loc : Loc} {cs csn : Cells} {σ σn σ₀ : List Addr} {s s' s₀ : Shared} {E : Value → Shared → Prop} {Q : Flow → Shared → Prop} {it D C : Addr} {acc : List CV}
theorem rowX_ev {f n : Nat} {xs : List CV} {z : CV} (e : xs[n]? = some z) (hn : n < 1000) : evX L.G L.C (rowX f) [some (.ils xs), some (.int n)] cs = L.C f [z, .int (10 * n)] cs :=
  Mine.L.bd (Mine.L.e_1 (Mine.L.e_sub (Mine.L.e_v rfl) (Mine.L.e_v rfl) (show (ofIf (0 ≤ (n : Int) ∧ (n : Int) < 100000) (n : Int).toNat).bind (fun k => xs[k]?) = some z by
      rw [ofIf_pos ⟨Int.natCast_nonneg n, Int.lt_trans (Int.ofNat_lt.mpr hn) (by decide)⟩]; exact e))
    (Mine.L.e_1 (Mine.L.e_bin (Mine.L.e_k rfl) (Mine.L.e_v rfl) (ofIf_pos ⟨by decide, Nat.lt_of_le_of_lt (Nat.le_of_eq (Int.natAbs_natCast n)) (Nat.lt_trans hn (by decide))⟩)) Mine.L.e_0)) rfl
/-- what becomes of the rows -/
noncomputable def rowsRes (loc : Loc) (i : Nat) (r : Res Cells CV) : Res St Fl := match r with
  | .ok v cs => .ok .next (loc.set i (some v), cs)
  | .ex _ _ _ => .no
  | .no => .no
theorem rowsOf_is {f n i : Nat} {z : CV} {r : List CV} {K : Fl → Loc → Cells → List Addr → Shared → Prop} (p : PostF L.D c.nm x σ s E (rowsRes loc i (rowsOf L.C f n (z :: r) acc cs)) K) : ∃ y cs₁, L.C f [z, .int (10 * n)] cs = .ok y cs₁ ∧ PostF L.D c.nm x σ s E (rowsRes loc i (rowsOf L.C f (n + 1) r (acc ++ [y]) cs₁)) K := by
  have e : rowsOf L.C f n (z :: r) acc cs = match L.C f [z, .int (10 * n)] cs with
    | .ok v cs => rowsOf L.C f (n + 1) r (acc ++ [v]) cs
    | .ex _ _ _ => .no
    | .no => .no := rfl
  rw [e] at p
  cases q : L.C f [z, .int (10 * n)] cs with
  | ok y cs₁ => rw [q] at p; exact ⟨y, cs₁, rfl, p⟩
  | ex _ _ _ => rw [q] at p; exact p.elim
  | no => rw [q] at p; exact p.elim
theorem upto_drop {n k : Nat} {y : CV} {r : List CV} (e : y :: r = (upto n).drop k) : k < n ∧ y = .int k ∧ r = (upto n).drop (k + 1) := by
  rcases drop_or (upto n) k with ⟨d, _⟩ | ⟨z, d, g⟩
  · exact nomatch e.trans d
  · obtain ⟨rfl, rfl⟩ := List.cons.inj (e.trans d)
    exact ⟨(upto_at g).1, (upto_at g).2, rfl⟩
/-- the turns that make the rows -/
theorem row_turns {f i : Nat} {kd' : Kd} {w y : Str} {py : Pos} {iter elt : Expr} {scope : Scope} {pos : Pos} {env : Env} {wv : Value} {wc : Addr} {xs : List CV} (hc : Val L ⟨kd', [w, y]⟩ (rowX f) elt) (hw : w ≠ y) (hk : kd' y = some .local) (hkw : kd' w = some .cell) (a : At L c x loc cs σ s) (N : NewC L x s it D C)
    (eo : EnvOK env kd' (D :: C :: x.F)) (eL : env.locals = C) (hl : env.cells.lookup w = some wc) (rw0 : Rp L.D s.heap σ x.F wv (.ils xs)) (ic : s.heap.IsCell wc (some wv)) (nw : wc ∉ σ) (nF : wc ∉ x.F) (hx : xs.length ≤ 1000)
    {R : Result → Shared → Prop} {loc₀ : Loc} {E₀ : Value → Shared → Prop} (p : PostF L.D c.nm x σ₀ s₀ E₀ (rowsRes loc₀ i (rowsOf L.C f 0 xs [] cs)) (FK L.D x.F Q)) {s₁ : Shared}
    (fin : ∀ cs₂ σ₂ s₂ acc, InC L x D C σ s acc cs₂ σ₂ s₂ → PostF L.D c.nm x σ₀ s₀ E₀ (.ok .next (loc₀.set i (some (.ils acc)), cs₂)) (FK L.D x.F Q) → R (.ok .next) s₂) (I : InC L x D C σ s [] cs σ s₁) (hJ : RanJ it xs.length (upto xs.length) σ s₁) :
    codeAny (model L.D.prog L.D.w) x.A (.compLoop (.ListComp elt [⟨.Name y py, iter, [], 0⟩] scope pos) 0 (.ref it) (.ref D) env) R s₁ := by
  have It := iter_ran (D := L.D) (A := x.A) (F := D :: C :: x.F) (it := it) (n := xs.length) a.room.handled N.out
  obtain ⟨co, q2, q3⟩ := ic
  have wn : wc ∉ D :: C :: x.F := fun m => (N.fresh _ m).elim nF fun z => none_some (z.symm.trans q2)
  refine codeAny_compLoop_tests (fun k s' => ∃ n acc csn σn, k = ((upto xs.length).drop n).length ∧ acc.length = n ∧ InC L x D C σ s acc csn σn s' ∧ RanJ it xs.length ((upto xs.length).drop n) σn s' ∧ PostF L.D c.nm x σ₀ s₀ E₀ (rowsRes loc₀ i (rowsOf L.C f n (xs.drop n) acc csn)) (FK L.D x.F Q)) (fun k s' H => ?_) (upto xs.length).length ⟨0, [], cs, σ, rfl, rfl, I, hJ, p⟩
  obtain ⟨n, acc, csn, σn, rfl, hn, I, hJ, p⟩ := H
  refine It.next _ σn s' hJ _ _ (fun z r el s₂ v g lt hJ' rv => ?_) fun el s₂ g lt => ?_
  · obtain ⟨hlt, rfl, rfl⟩ := upto_drop el.symm
    rw [List.drop_eq_getElem_cons hlt] at p
    obtain ⟨yv, cs₂, ey, p⟩ := rowsOf_is p
    have I := I.chg N g lt
    obtain ⟨m, n₂⟩ := I.ns
    have a₂ := I.at (c' := ⟨kd', [w, y]⟩) (loc' := [some (.ils xs), none]) a eo ⟨m, eL ▸ n₂, fun i y' cv e1 e2 => match i, e1, e2 with
      | 0, e1, e2 => by
        cases e1; cases e2
        exact ⟨wv, rw0.map ⟨fun b o e n1 n2 _ => I.st.keep b o e n1 fun m => (N.fresh _ m).elim n2 fun z => none_some (z.symm.trans e), fun b o e n1 n2 _ => ⟨I.st.notin e n1, fun m => (N.fresh _ m).elim n2 fun z => none_some (z.symm.trans e)⟩, fun _ _ => prefix_get I.st.pre⟩,
          .inr ⟨(eo.kd w).trans hkw, wc, hl, ⟨co, I.st.keep _ _ q2 nw wn, q3⟩, I.st.notin q2 nw, wn⟩⟩
      | 1, _, e2 => (none_some (Option.some.inj e2)).elim
      | i + 2, _, e2 => (none_some e2).elim⟩
    refine wpAny_assign_Name (store_at a₂ (i := 1) (List.nodup_cons.mpr ⟨fun m => hw (List.mem_singleton.mp m), List.nodup_cons.mpr ⟨List.not_mem_nil, List.nodup_nil⟩⟩) rfl hk rv fun s₃ a₃ S l₃ => wpAny_tests_nil (ifT (hc a₃ _ _ ?_)))
    have e2 : evX L.G L.C (rowX f) [some (.ils xs), some (.int n)] csn = .ok yv cs₂ := (rowX_ev (List.getElem?_eq_getElem hlt) (Nat.lt_of_lt_of_le hlt hx)).trans ey
    show Post L.D _ σn s₃ _ (evX L.G L.C (rowX f) [some (.ils xs), some (.int n)] csn) _
    rw [e2]
    intro σ₄ s₄ W S₄ val rval
    have S' : StepL C (D :: C :: x.F) σn s₂.heap σ₄ s₄.heap := (eL ▸ S : StepL C _ _ _ _ _).trans (S₄.st.toL C)
    obtain ⟨m₃, n₃⟩ := a₃.ns
    have I := I.to W S' (l₃.trans S₄.lt) ⟨m₃, S₄.st.fr C memC m₃ (eL ▸ n₃)⟩
    obtain ⟨ys, k, eD, ry⟩ := I.acc
    refine append_at eD (fun h₅ hs₅ e₅ => ?_) (small_ok (ry.length.trans hn) (Nat.le_trans (Nat.le_of_lt hlt) (Nat.le_trans hx (by decide))))
    exact ⟨_, by rw [List.drop_eq_getElem_cons (show n < (upto xs.length).length by rw [upto, List.length_map, List.length_range]; exact hlt)]; exact Nat.lt_succ_self _, n + 1, acc ++ [yv], cs₂, σ₄, rfl, by rw [List.length_append, hn]; rfl, I.put N eD ry rval hs₅ (e₅.trans (congrArg (fun a => some (PySem.W.listOf a (k + 1))) (List.push_toArray _ _))),
      let ⟨k', el', i', ns'⟩ := It.keep _ _ _ _ _ _ hJ' S'
      ⟨k', el', (hs₅.2 it N.ID).trans i', ns'⟩, p⟩
  · have hge : xs.length ≤ n := by
      have := List.drop_eq_nil_iff.mp el
      rwa [upto, List.length_map, List.length_range] at this
    rw [List.drop_eq_nil_of_le hge] at p
    exact fin _ _ _ _ (I.chg N g lt) p
/-- what bore data at the beginning bears them now -/
theorem InC.mp (I : InC L x D C σ s acc csn σn s') (N : NewC L x s it D C) : Mp s.heap σ x.F s'.heap σn (D :: C :: x.F) :=
  have nF : ∀ {b o}, s.heap.get? b = some o → b ∉ x.F → b ∉ D :: C :: x.F := fun e n m => (N.fresh _ m).elim n fun z => none_some (z.symm.trans e)
  ⟨fun b o e n1 n2 _ => I.st.keep b o e n1 (nF e n2), fun b o e n1 n2 _ => ⟨I.st.notin e n1, nF e n2⟩, fun _ _ => prefix_get I.st.pre⟩
theorem Mp.less {h h' : Heap} {σ' F F' F'' : List Addr} (M : Mp h σ F h' σ' F') (k : ∀ a ∈ F'', a ∈ F') : Mp h σ F h' σ' F'' := ⟨M.keep, fun a o e n1 n2 nf => ⟨(M.out a o e n1 n2 nf).1, fun m => (M.out a o e n1 n2 nf).2 (k a m)⟩, M.pre⟩
/-- the list goes into a name, and the names' storage goes -/
theorem row_end {i : Nat} {n : Str} {np : Pos} {cs₂ : Cells} {s₂ : Shared} (hn : c.nm.Nodup) (ho : own c i n = true) (a : AtS L c x σ₀ s₀ loc cs σ s) (N : NewC L x s it D C) (I : InC L x D C σ s acc cs₂ σn s₂) (p : PostF L.D c.nm x σ₀ s₀ E (.ok .next (loc.set i (some (.ils acc)), cs₂)) (FK L.D x.F Q)) :
    wpAny (model L.D.prog L.D.w) x.A (assign (.Name n np) x.env (.ref D)) (fun _ s₃ => ∃ m, s₃.heap.Ns C m ∧ ∀ h', Heap.SameBut C s₃.heap h' → Q .next { s₃ with heap := h' }) E s₂ := by
  have nL : x.env.locals ≠ C := fun z => N.nc.out (z ▸ a.eo.loc)
  have sub : ∀ b ∈ x.F, b ∈ C :: x.F := fun b m => List.mem_cons_of_mem _ m
  have sub2 : ∀ b ∈ C :: x.F, b ∈ D :: C :: x.F := fun b m => List.mem_cons_of_mem _ m
  have a₂ : At L c ⟨x.A, x.envs, x.env, C :: x.F⟩ loc cs₂ σn s₂ := ⟨a.room, ⟨a.eo.kind, a.eo.glob, a.eo.blt, sub _ a.eo.loc, a.eo.kd⟩, I.wd.less sub2 fun e he L eL => sub _ (a.wd.inF e he L eL),
    a.lo.map ((I.mp N).less sub2) fun m n => I.st.fr _ (mem2 a.eo.loc) nL m n⟩
  obtain ⟨ys, kk, eD, r⟩ := I.acc
  have racc : Rp L.D s₂.heap σn (C :: x.F) (.ref D) (.ils acc) := .ils ⟨_, eD, rfl, kk, rfl⟩ (fun m => I.wd.apart D m List.mem_cons_self) (fun m => (List.mem_cons.mp m).elim N.DC N.nd.out) (r.less sub2)
  obtain ⟨m, nC⟩ := I.ns
  refine wpAny_assign_Name (store_at a₂ hn (own_nm ho) (own_kd ho) racc fun s₃ a₃ S l₃ => ⟨m, S.fr C List.mem_cons_self (Ne.symm nL) m nC, fun h' hs => ?_⟩)
  have k : ∀ b o, s₃.heap.get? b = some o → b ∈ x.F ∨ b ∉ C :: x.F → h'.get? b = some o := fun b o e h => (hs.2 b fun z => h.elim (fun m => N.nc.out (z ▸ m)) fun n => n (z ▸ List.mem_cons_self)).trans e
  have T : StepL x.env.locals (C :: x.F) σ s.heap σn s₂.heap := I.st.but sub2 (fun b m => (List.mem_cons.mp m).elim (fun z => .inr (z ▸ N.nd.old)) .inl) (fun _ _ e => e) (fun _ _ e _ => e) fun L' _ _ ne z => ne (z ▸ N.nc.old)
  have M : Mp s₃.heap σn (C :: x.F) h' σn x.F := ⟨fun b o e _ n2 _ => k b o e (.inr n2), fun b _ _ n1 n2 _ => ⟨n1, fun m => n2 (sub b m)⟩, fun _ _ e => e⟩
  exact (a.re (s₁ := { s₃ with heap := h' }) (a₃.wd.but sub k a.wd.inF) ⟨a.go.st.trans ((T.trans S).but sub (fun b m => (List.mem_cons.mp m).elim (fun z => .inr (z ▸ N.nc.old)) .inl) (fun _ _ e => e) k fun _ _ ne _ => ne), a.go.lt.trans (I.lt.trans ⟨l₃.1, l₃.2, l₃.3⟩)⟩
    (a₃.lo.map M fun m ⟨o, es, ep, e, z⟩ => ⟨o, es, ep, (hs.2 _ nL).trans e, z⟩)).done p .next
theorem compEnv_ok {scope : Scope} {cl : List (Str × Addr)} {F' : List Addr} (eo : EnvOK x.env c.kd x.F) (hk : scope.kind = .function) (hC : C ∈ F') : EnvOK (compEnvC scope cl C x.env) (relK scope c.kd) F' := by
  refine ⟨hk, eo.glob, eo.blt, hC, fun y => ?_⟩
  show (scope.names.map fun (n, k) => if (k == .free && x.env.scope.kind == .function && x.env.kindOf n == some .cell) then (n, .cell) else (n, k)).lookup y = relK scope c.kd y
  unfold relK
  congr 1
  refine List.map_congr_left fun z _ => ?_
  obtain ⟨n, k⟩ := z
  exact congrArg (fun b : Bool => if b = true then (n, NameKind.cell) else (n, k)) (by rw [eo.kind, eo.kd n, beq_self_eq_true, Bool.and_true])
theorem SndS.asgr (Z : Fx L) (i f j : Nat) (hlen : Snd L (.len (.v j))) (hrow : Snd L (rowX f)) : SndS L (.asgr i f j) := fun c st hn h => onSAssign_is (P := fun st => SVal L c (.asgr i f j) st) h fun ts v pos0 h => on1_is (P := fun ts => SVal L c (.asgr i f j) (.Assign ts v pos0)) h fun t h =>
  onName_is (P := fun t => SVal L c (.asgr i f j) (.Assign [t] v pos0)) h fun y yp h => onListComp_is (P := fun v => SVal L c (.asgr i f j) (.Assign [.Name y yp] v pos0)) h fun elt gens scope pos h => on1_is (P := fun gens => SVal L c (.asgr i f j) (.Assign [.Name y yp] (.ListComp elt gens scope pos) pos0)) h fun g h => by
    obtain ⟨target, iter, ifs, as_⟩ := g
    refine onName_is (P := fun target => SVal L c (.asgr i f j) (.Assign [.Name y yp] (.ListComp elt [⟨target, iter, ifs, as_⟩] scope pos) pos0)) h fun z pz h => onBlt_is (P := fun iter => SVal L c (.asgr i f j) (.Assign [.Name y yp] (.ListComp elt [⟨.Name z pz, iter, ifs, as_⟩] scope pos) pos0)) h fun fp es cp g1 g2 h =>
      on1_is (P := fun es => SVal L c (.asgr i f j) (.Assign [.Name y yp] (.ListComp elt [⟨.Name z pz, .Call (.Name "range" fp) es [] cp, ifs, as_⟩] scope pos) pos0)) h fun t h => onSome_is (P := fun o => c.nm[j]? = o → SVal L c (.asgr i f j) (.Assign [.Name y yp] (.ListComp elt [⟨.Name z pz, .Call (.Name "range" fp) [t] [] cp, ifs, as_⟩] scope pos) pos0)) h (fun w h hw =>
      on0_is (P := fun ifs => SVal L c (.asgr i f j) (.Assign [.Name y yp] (.ListComp elt [⟨.Name z pz, .Call (.Name "range" fp) [t] [] cp, ifs, as_⟩] scope pos) pos0)) h fun h => ?_) rfl
    obtain ⟨h0, hr⟩ := and_tt h
    cases (of_decide_eq_true h0 : as_ = 0)
    obtain ⟨ho, h⟩ := and_tt hr
    obtain ⟨ht, h⟩ := and_tt h
    obtain ⟨hs, h⟩ := and_tt h
    obtain ⟨h7, h⟩ := and_tt h
    obtain ⟨h6, h⟩ := and_tt h
    obtain ⟨w1, h⟩ := and_tt h
    obtain ⟨w2, h⟩ := and_tt h
    obtain ⟨w3, h⟩ := and_tt h
    have hk : scope.kind = .function := eq_of_beq (and_tt hs).1
    have hx : scope.names.lookup z = some .local := eq_of_beq (and_tt (and_tt hs).2).2
    have hall : ∀ y ∈ scope.names, y.2 ≠ .cell ∧ (y.2 = .local → scope.names.lookup y.1 = some .local) := fun y hy => by
      have q := and_tt (List.all_eq_true.mp (and_tt (and_tt hs).2).1 y hy)
      exact ⟨bne_iff_ne.mp q.1, fun e => ((Bool.or_eq_true _ _).mp q.2).elim (fun q => absurd e (bne_iff_ne.mp q)) eq_of_beq⟩
    refine ⟨fun {x σ₀ s₀ loc cs σ s} a Q E p => PostF.got p fun cv ecv p => PostF.ils (P := fun cv => loc[j]?.join = some cv → wpAny (model L.D.prog L.D.w) x.A (exec (.Assign [.Name y yp] (.ListComp elt [⟨.Name z pz, .Call (.Name "range" fp) [t] [] cp, [], 0⟩] scope pos) pos0) x.env) Q E s) p (fun xs p ecv => PostF.ite p fun hxl p => ?_) ecv⟩
    have p : PostF L.D c.nm x σ₀ s₀ E (rowsRes loc i (rowsOf L.C f 0 xs [] cs)) (FK L.D x.F Q) := p
    obtain ⟨m0, n0, r0⟩ := a.lo
    obtain ⟨wv, rw0, qw⟩ := r0 j w _ hw (join_some ecv)
    have hkw : x.env.kindOf w = some .cell := (a.eo.kd w).trans (eq_of_beq w1)
    obtain ⟨wc, c1, ic, nw, nF⟩ := (qw.resolve_left fun q => NameKind.noConfusion (Option.some.inj (hkw.symm.trans q.1))).2
    have hsw : swapsWith (.ListComp elt [⟨.Name z pz, .Call (.Name "range" fp) [t] [] cp, [], 0⟩] scope pos) (some (.Name y yp)) pos0.line x.env = pure true := by
      show (pure (x.env.blockKind == .function && x.env.kindOf y == some .local && yp.line == pos.line && !(scope.names.any fun (n, k) => n == y && (k == .local || k == .cell))) : Sem Bool) = pure true
      have e : x.env.blockKind = .function := by unfold Env.blockKind; rw [a.eo.kind]; rfl
      rw [e, a.eo.kd y, own_kd ho, h7, h6]; rfl
    rw [exec_Assign_Name_used _ _ _ _ hsw]
    refine wpAny_bind (wpAny_standAt (wpAny_bind ?_))
    show wpAny _ x.A (do let _ ← comprehension (.ListComp elt [⟨.Name z pz, .Call (.Name "range" fp) [t] [] cp, [], 0⟩] scope pos) scope x.env _ (newList []) false (eval (.Call (.Name "range" fp) [t] [] cp) x.env) (some (assign (.Name y yp) x.env))) _ _ s
    refine wpAny_bind (wpAny_mono (wpAny_comprehension_free (use := some (assign (.Name y yp) x.env)) (Q := fun _ s' => Q .next s') rfl (fun _ => rfl) (closure_one (eq_of_beq w3) c1) hk (fun z hz e => (hall z hz).2 e) ?_) (fun _ s' hq => wpAny_pure (wpAny_pure hq)) fun _ _ e => e)
    have hev : evX L.G L.C (.len (.v j)) loc cs = .ok (.int xs.length) cs := Mine.L.e_len (Mine.L.e_v ecv) (ofIf_pos (Nat.le_trans hxl (by decide)))
    refine blt_call1 Z (blt_mem (n := 7) rfl) callee_t a.toAt g1 g2 (notStar ht) ((hlen ht).1 a.toAt _ E ?_)
    rw [hev]
    intro σ₁ s₁ W S val rv
    obtain ⟨tn, rfl⟩ := rv.view
    have a₁ := a.on W S
    refine ran_ok hxl fun h₂ tk it k ni hi => ?_
    refine wpAny_newObj_type ?_ (small_ok rfl (Nat.zero_le _))
    dsimp only
    generalize e₃ : h₂.push { cls := .type "list", dict := none, data := .seq ([] : List Value).toArray } = h₃
    have k23 : ∀ a o, h₂.get? a = some o → h₃.get? a = some o := fun a o e => e₃ ▸ Heap.get?_push_of_some _ e
    have z3 : h₃.objs.size = h₂.objs.size + 1 := e₃ ▸ Heap.size_push ..
    have gD : h₃.get? h₂.objs.size = some (PySem.W.listOf ([] : List Value).toArray 0) := e₃ ▸ Heap.get?_push_size _ rfl
    refine wpAny_newFunctionEnv (fun z hz => (hall z hz).1) (fun z hz => (List.not_mem_nil hz).elim) (fun h₄ n₄ s₄ => ?_) hk
    dsimp only at n₄ s₄ ⊢
    have k34 : ∀ a o, h₃.get? a = some o → h₄.get? a = some o := fun a o e => s₄.extBut a o (Nat.ne_of_lt (Heap.lt_size e)) (Heap.get?_push_of_some _ e)
    have k14 : ∀ a o, s₁.heap.get? a = some o → h₄.get? a = some o := fun a o e => k34 _ _ (k23 _ _ (k _ _ e))
    have old : ∀ {n}, h₂.objs.size ≤ n → s₁.heap.get? n = none := fun {n} le => by
      cases q : s₁.heap.get? n with
      | none => rfl
      | some o => exact absurd (Heap.lt_size (k _ _ q)) (Nat.not_lt.mpr le)
    have l12 : it < h₂.objs.size := Heap.lt_size hi
    have l23 : h₂.objs.size < h₃.objs.size := Nat.lt_of_lt_of_eq (Nat.lt_succ_self _) z3.symm
    have sz : L.D.base.objs.size ≤ h₂.objs.size := (a₁.wd.all k).size a.eo.loc
    have N : NewC L x s₁ it h₂.objs.size h₃.objs.size := ⟨a₁.newN ni, a₁.newN (old (Nat.le_refl _)), a₁.newN (old (Nat.le_of_lt l23)), Nat.ne_of_lt l12, Nat.ne_of_lt (Nat.lt_trans l12 l23), Nat.ne_of_lt l23⟩
    have I : InC L x h₂.objs.size h₃.objs.size σ₁ s₁ [] cs σ₁ { s₁ with heap := h₄, toks := tk + ([] : List (Str × Value)).length } := .init a₁.toAt N ⟨sz, Nat.le_trans sz (Nat.le_of_lt l23)⟩ ⟨rfl, rfl, rfl⟩ k14 (k34 _ _ gD) n₄
    have gI := k34 _ _ (k23 _ _ hi)
    obtain ⟨co, q2, q3⟩ := ic
    have loop := row_turns (Q := Q) (i := i) (loc₀ := loc) (E₀ := E) (σ₀ := σ₀) (s₀ := s₀) (iter := .Call (.Name "range" fp) [t] [] cp) (scope := scope) (pos := pos) (py := pz) (env := compEnvC scope [(w, wc)] h₃.objs.size x.env) (R := compPost (model L.D.prog L.D.w) x.A E (some (assign (.Name y yp) x.env)) (fun _ s' => Q .next s') (.ref h₂.objs.size) h₃.objs.size)
      (hrow (and_tt h).2).1 (bne_iff_ne.mp w2) ((compEnv_ok (c := c) (F' := x.F) a.eo hk a.eo.loc (C := x.env.locals) (cl := [])).kd z |>.symm.trans (lookup_relabel_local hx)) (eq_of_beq (and_tt h).1) a₁.toAt N (compEnv_ok a.eo hk memC) rfl (by show List.lookup w [(w, wc)] = some wc; rw [List.lookup_cons, beq_self_eq_true]) (rw0.step S.st) ⟨co, S.st.keep _ _ q2 nw nF, q3⟩ (S.st.notin q2 nw) nF hxl p
      (fun cs₂ σ₂ s₂ acc I p => row_end hn ho a₁ N I p) I ⟨0, rfl, by rw [Int.natCast_zero, Int.sub_zero]; exact gI, fun m => a₁.wd.there m ni⟩
    exact codeAny_compStart_list loop (wpAny_pyIter_rangeiter gI loop)
end
end Mine
end

section
open PySem PySem.W PyProof.Rows PySem.Spec PySem.Calls
namespace Mine
/-- what is known of the text's world, beside its calls -/
structure Wrl (L : Lng) : Prop where
  Z : Fx L
  Y : ClsOK L.K L.D.CW
  T : FnTab L
  O : OSnds L
section
variable {L : Lng}
mutual
theorem snd_all (W : Wrl L) : ∀ x : X, Snd L x
  | .bad => Snd.bad
  | .k c => Snd.k c
  | .v i => Snd.v i
  | .g n => Snd.g W.Z n
  | .bop a xs => Snd.bop a (snd_alls W xs)
  | .bin op x y => Snd.bin op (snd_all W x) (snd_all W y)
  | .not x => Snd.not (snd_all W x)
  | .neg x => Snd.neg (snd_all W x)
  | .ife c x y => Snd.ife (snd_all W c) (snd_all W x) (snd_all W y)
  | .tup xs => Snd.tup (snd_alls W xs)
  | .lst xs => Snd.lst (snd_alls W xs)
  | .ilst xs => Snd.ilst (snd_alls W xs)
  | .dct ks xs => Snd.dct W.Z
  | .cmp op x y => Snd.cmp op (snd_all W x) (snd_all W y)
  | .call f xs => Snd.call W.Z W.T W.O f (snd_alls W xs)
  | .meth o m xs => Snd.meth W.Z W.Y W.T W.O m (snd_all W o) (snd_alls W xs)
  | .len x => Snd.len W.Z (snd_all W x)
  | .min x y => Snd.min W.Z (snd_all W x) (snd_all W y)
  | .max x y => Snd.max W.Z (snd_all W x) (snd_all W y)
  | .lstof x => Snd.lstof W.Z (snd_all W x)
  | .tupof x => Snd.tupof W.Z (snd_all W x)
  | .strof x => Snd.strof W.Z (snd_all W x)
  | .intof x => Snd.intof W.Z (snd_all W x)
  | .words x => Snd.words W.Z W.Y W.T W.O (snd_all W x)
  | .app x y => Snd.app (snd_all W x) (snd_all W y)
  | .get x y z => Snd.get (snd_all W x) (snd_all W y) (snd_all W z)
  | .find x y => Snd.find (snd_all W x) (snd_all W y)
  | .lower x => Snd.lower (snd_all W x)
  | .attr x n => Snd.attr W.Z W.Y n (snd_all W x)
  | .sub x y => Snd.sub (snd_all W x) (snd_all W y)
  | .slc x lo hi => Snd.slc (snd_all W x) (snd_allo W lo) (snd_allo W hi)
  | .nocomp x y => Snd.nocomp (snd_all W x) (snd_all W y)
theorem snd_alls (W : Wrl L) : ∀ xs : List X, ∀ x ∈ xs, Snd L x
  | [], _, h => (List.not_mem_nil h).elim
  | y :: ys, x, h => (List.mem_cons.mp h).elim (fun e => e ▸ snd_all W y) (snd_alls W ys x)
theorem snd_allo (W : Wrl L) : ∀ o : Option X, ∀ x, o = some x → Snd L x
  | none, _, h => (none_some h).elim
  | some y, x, h => Option.some.inj h ▸ snd_all W y
end

/-- the two statements that need exceptions -/
structure ExcSnd (L : Lng) : Prop where
  rse : ∀ m p, Snd L m → Snd L p → SndS L (.rse m p)
  try_ : ∀ x h, SndB L x → SndS L (.try_ x h)

mutual
theorem snds_all (W : Wrl L) (X0 : ExcSnd L) : ∀ x : S, SndS L x
  | .bad => SndS.bad
  | .asg i e => SndS.asg i (snd_all W e)
  | .asgr i f j => SndS.asgr W.Z i f j (snd_all W _) (snd_all W _)
  | .asgs is e => SndS.asgs is (snd_all W e)
  | .seta o n e => SndS.seta W.Z W.Y n (snd_all W o) (snd_all W e)
  | .seti o i e => SndS.seti (snd_all W o) (snd_all W i) (snd_all W e)
  | .aug i op e => SndS.aug i op (snd_all W e)
  | .auga o n op e => SndS.auga W.Z W.Y n op (snd_all W o) (snd_all W e)
  | .ife c a b => SndS.ife (snd_all W c) (sndb_all W X0 a) (sndb_all W X0 b)
  | .whl c b => SndS.whl (snd_all W c) (sndb_all W X0 b)
  | .for_ i e b => SndS.for_ i (snd_all W e) (sndb_all W X0 b)
  | .forr i e b => SndS.forr W.Z i (snd_all W e) (sndb_all W X0 b)
  | .ret e => SndS.ret (snd_all W e)
  | .ex e => SndS.ex (snd_all W e)
  | .rse m p => X0.rse m p (snd_all W m) (snd_all W p)
  | .try_ b h => X0.try_ b h (sndb_all W X0 b)
  | .brk => SndS.brk
theorem sndb_all (W : Wrl L) (X0 : ExcSnd L) : ∀ xs : List S, SndB L xs
  | [] => SndB.nil
  | x :: xs => SndB.cons (snds_all W X0 x) (sndb_all W X0 xs)
end

/-- what is told of each def -/
noncomputable def DefOK (L : Lng) (P : List Fn) : Prop := ∀ (f : Nat) d, P[f]? = some d → (∃ r, r.a = L.fa f ∧ FnOK L d r) ∨ ∃ r w, r.a = L.fa f ∧ FnOKC L d r w
/-- every call that the small language runs, the model runs -/
theorem osnd_all {P : List Fn} (Z : ∀ C b, Fx ⟨L.D, L.K, L.N, L.G, C, b, L.mg, L.mb, L.fa⟩) (Y : ClsOK L.K L.D.CW) (T : ∀ C b, FnTab ⟨L.D, L.K, L.N, L.G, C, b, L.mg, L.mb, L.fa⟩) (X0 : ∀ C b, ExcSnd ⟨L.D, L.K, L.N, L.G, C, b, L.mg, L.mb, L.fa⟩) (F : DefOK L P) : ∀ b, OSnds (L.dp P b)
  | 0 => fun f hf x σ s cs vs vals R _ _ _ _ p => p.elim
  | b + 1 => fun f hf x σ s cs vs vals R Rm sz W rs p => by
    have p : Post L.D x σ s (fun e s' => R (.error e) s') (got P[f]? fun d => got (bindLoc d vs) fun l => ended (exSs L.G (callB P L.G b) d.body (l, cs))) (KV L.D x.F fun v s' => R (.ok (.ret v)) s') := p
    cases q : P[f]? with
    | none => rw [q] at p; exact p.elim
    | some d =>
      rw [q] at p
      have p : Post L.D x σ s (fun e s' => R (.error e) s') (got (bindLoc d vs) fun l => ended (exSs L.G (callB P L.G b) d.body (l, cs))) (KV L.D x.F fun v s' => R (.ok (.ret v)) s') := p
      cases ql : bindLoc d vs with
      | none => rw [ql] at p; exact p.elim
      | some l =>
        rw [ql] at p
        have Wr : Wrl (L.dp P b) := ⟨Z _ _, Y, T _ _, osnd_all Z Y T X0 F b⟩
        have hb : SndB (L.dp P b) d.body := sndb_all Wr (X0 _ _) d.body
        rcases F f d q with ⟨r, e, O⟩ | ⟨r, w, e, O⟩
        · exact (show L.fa f = r.a from e.symm) ▸ def_ok (L := L) O (Z L.C b).nolimit hb Rm sz W rs ql p
        · exact (show L.fa f = r.a from e.symm) ▸ defC_ok (L := L) O (Z L.C b).nolimit hb Rm sz W rs ql p
end
end Mine
end

section
open PySem
namespace Mine
noncomputable def nms : List (List Str) := (([["text", "at", "signs"],
  ["text", "at", "end"],
  ["sign", "place"],
  ["text", "at", "bases", "ahead"],
  ["text", "begin", "base", "at", "value", "many", "end", "kind"],
  ["text", "at", "sign"],
  ["text", "at", "end"],
  ["text", "found", "at", "word"],
  ["text"],
  ["self", "rows"],
  ["self"],
  ["self"],
  ["self", "ahead"],
  ["self", "word"],
  ["self", "text", "ahead", "word"],
  ["self", "text"],
  ["self", "word"],
  ["self", "word"],
  ["words", "found"],
  ["words", "word", "spot"],
  ["words", "is_expr", "found"],
  ["words", "ahead", "is_expr", "name"],
  ["words", "ahead", "word"],
  ["words", "no_struct", "left", "word"],
  ["word"],
  ["words", "least", "no_struct", "found"],
  ["words", "left", "least", "no_struct", "is_compared", "word", "level", "right"],
  ["words", "no_struct"],
  ["words", "left", "last"],
  ["words", "no_struct", "word", "inner"],
  ["words", "left", "index"],
  ["words", "left", "word", "name", "spot", "types"],
  ["word"],
  ["words", "found"],
  ["words", "word"],
  ["words", "begin", "end", "found"],
  ["words", "word"],
  ["words", "no_struct", "word"],
  ["words", "no_struct", "spot", "path", "found"],
  ["script", "told", "wide"],
  ["jar", "top", "drawn"],
  ["jar", "things"],
  [],
  ["text", "way", "words", "found"],
  ["jar", "at"],
  ["jar", "at", "begin", "end", "text", "found", "turn", "more", "tree"],
  ["jar", "at", "text", "found", "turn", "spot", "more", "tree"],
  ["jar", "text", "tree", "turn", "way", "more", "values", "is_named", "inner", "index", "name", "told", "angles", "types"],
  ["word", "spot"],
  ["words", "rows"],
  ["words", "way", "told", "found"],
  ["rows"],
  ["word", "others"],
  ["script", "x", "seven", "due", "jar", "text", "tree", "types", "more", "rest", "values"]] : List (List String))).map (·.map Str.ofString)
noncomputable def nmF : Nm := ⟨((["INT_KINDS", "KEYWORDS", "SIGNS", "NAME_BEGINS", "FIGURES", "NAME_SIGNS", "BLANKS", "MOST_FIGURES", "MOST_VALUE", "MOST_DEEP", "PATH_WORDS", "LEVELS", "COMPARED", "UPDATES", "MACROS"] : List String)).map Str.ofString,
  ((["run_end", "blank_end", "figure_worth", "base_at", "read_int", "read_sign", "read_word", "word_rows", "read_words", "__init__", "deeper", "shallower", "peek", "take", "looks", "expect", "name", "split_close", "read_type", "read_shallow_type", "read_spath", "read_segment", "read_path_name", "read_expr", "level_of", "read_binary", "read_behind", "read_cast", "cast_behind", "read_unary", "read_postfix", "read_member", "place_name", "read_types", "closes", "read_list", "is_block_like", "read_primary", "read_path_like", "_law_jar", "_law_dip", "_law_one", "_law_base", "_law_heard", "_law_value", "_law_values", "_law_types", "_law_postfix", "_law_row", "_law_words", "_law_told", "_law_refused_right", "_law_words_right", "law"] : List String)).map Str.ofString,
  [9, 10, 11, 12, 13, 14, 15, 16, 17]⟩
end Mine
end

section
open PySem PySem.W PyProof.Rows PySem.Spec PySem.Calls
set_option maxRecDepth 100000
namespace Mine

section
variable {prog : Program} {w : World} {M : Model} {A : Around} {E : Value → Shared → Prop} {R : Result → Shared → Prop} {h : Heap} {g : Array GenState} {d : Drawn} {t : Nat} {os : OsState}
variable {nm q : Str} {C N P : Addr} {bs bmB : List Value} {hdct : Bool} {sn : List Str} {sub : List Value} {ab : Bool} {col : Option Bool} {dd : Option Addr} {k0 k1 k2 k3 k5 : Option Value} {B newId initId : String}

/-- a class whose base is a class of the text, whose base is a built-in one -/
theorem own2_check_new (F : ExcBaseFacts B newId initId bmB) {rest : List Value} {Q : Unit → Shared → Prop} (hC : h.get? C = some (excClassObj nm q C N bs (.ref P :: bmB) hdct sn sub ab col dd k0 k1 k2 k3 k5 newId))
    (hq : Q () ⟨h, g, d, t, os⟩) : wpAny M A (checkBuiltinCall newId ⟨.ref C :: rest, []⟩) Q E ⟨h, g, d, t, os⟩ := by
  have hcont : (Value.ref C :: .ref P :: bmB).contains (.type B) = true := by rw [List.contains_cons, List.contains_cons, F.hasB, Bool.or_true, Bool.or_true]
  have hstar := F.noStar
  simp only [checkBuiltinCall, F.newKind, F.newSplit, F.newRow]
  repeat (first | refine wpAny_loadPart_at hC ?_ | (refine wpAny_isSubtype_exc hC ?_; rw [hcont]) | refine wpAny_staticBase_exc hC ?_ | refine wpAny_madeBy_exc hC ?_ | simp only [bne_self_eq_false, Bool.false_eq_true, if_false] | wp_step)
  exact hq

theorem own2_new (F : ExcBaseFacts B newId initId bmB) {rest : List Value} (hC : h.get? C = some (excClassObj nm q C N bs (.ref P :: bmB) hdct sn sub ab col dd k0 k1 k2 k3 k5 newId))
    (hq : R (.ok (.ret (.ref (h.objs.size + 1)))) ⟨(h.push { cls := .type "tuple", data := .seq rest.toArray }).push
      { cls := .ref C, data := .fields #[.ref h.objs.size, .none, .none, .none, .bool false, .none] }, g, d, t, os⟩) (hrest : rest.length ≤ sizeLine) :
    codeAny (model prog w) A (.builtin newId ⟨.ref C :: rest, []⟩) R ⟨h, g, d, t, os⟩ := by
  have hends := F.ends
  have hcB : (Value.ref C :: .ref P :: bmB).contains (.type B) = true := by rw [List.contains_cons, List.contains_cons, F.hasB, Bool.or_true, Bool.or_true]
  have hcA : (Value.ref C :: .ref P :: bmB).contains (.type "AttributeError") = false := by rw [List.contains_cons, List.contains_cons, F.noAttr]; rfl
  have hcN : (Value.ref C :: .ref P :: bmB).contains (.type "NameError") = false := by rw [List.contains_cons, List.contains_cons, F.noName]; rfl
  refine PySem.codeAny_builtinAt F.entry ?_
  unfold Builtin.«BaseException.__new__»
  refine PySem.wpAt_bind ?_
  show PySem.wpAt _ _ _ (stack >>= _) _ _ _
  refine PySem.wpAt_bind (PySem.wpAt_stack fun p below => PySem.wpAt_of_wpAny ?_)
  wp_walk
  refine PySem.wpAt_of_wpAny ?_
  rw [F.owner]
  repeat (first | with_reducible refine wpAny_madeHere_exc F.canon hC ?_ | with_reducible refine wpAny_loadPart_at hC ?_ | (with_reducible refine wpAny_isSubtype_exc hC ?_; first | rw [hcB] | rw [hcA] | rw [hcN]) | wp_step)
  show R _ _
  rw [Heap.size_push]
  exact hq

theorem own2_type_call (F : ExcBaseFacts B newId initId bmB) {rest : List Value} {fI : Addr} {K : Frag} {Q : Fin → Shared → Prop} (X : K.In h)
    (hC : h.get? C = some (excClassObj nm q C N bs (.ref P :: bmB) hdct sn sub ab col dd k0 k1 k2 k3 k5 newId)) (hi : findIn K (.ref C) "__init__" = some (some (.ref fI))) (hf : typeIn K (.ref fI) = some (.type "function"))
    (hq : wpAny (model prog w) A (call (.ref fI) (.ref (h.objs.size + 1) :: rest)) (fun r s' => r = .none ∧ Q (.done (.ret (.ref (h.objs.size + 1)))) s') E ⟨(h.push { cls := .type "tuple", data := .seq rest.toArray }).push
      { cls := .ref C, data := .fields #[.ref h.objs.size, .none, .none, .none, .bool false, .none] }, g, d, t, os⟩) (hrest : rest.length ≤ sizeLine) :
    wpAny (model prog w) A (Builtin.«type.__call__» ⟨.ref C :: rest, []⟩) Q E ⟨h, g, d, t, os⟩ := by
  repeat (first | with_reducible refine wpAny_loadPart_at hC ?_ | with_reducible refine wpAny_madeBy_exc hC ?_ | wp_step)
  refine codeAny_call_builtin_code (Code.quiet_builtin _ F.quiet) (own2_check_new F hC ?_)
  refine own2_new F hC ?_ hrest
  show wpAny _ _ _ _ _ _
  have k : ∀ b o, h.get? b = some o → ((h.push { cls := .type "tuple", data := .seq rest.toArray }).push { cls := .ref C, data := .fields #[.ref h.objs.size, .none, .none, .none, .bool false, .none] }).get? b = some o := fun b o e => Heap.get?_push_of_some _ (Heap.get?_push_of_some _ e)
  have hC₁ := k _ _ hC
  have X₁ := X.keeps k
  have hget : ((h.push { cls := .type "tuple", data := .seq rest.toArray }).push
      { cls := .ref C, data := .fields #[.ref h.objs.size, .none, .none, .none, .bool false, .none] }).get? (h.objs.size + 1) = some
      { cls := .ref C, data := .fields #[.ref h.objs.size, .none, .none, .none, .bool false, .none] } := by heap_get
  have hcC : (Value.ref C :: .ref P :: bmB).contains (.ref C) = true := by simp
  unfold isInstance
  repeat (first | with_reducible refine wpAny_loadPart_at hget ?_ | (with_reducible refine wpAny_isSubtype_exc hC₁ ?_; rw [hcC]) | wp_step)
  show wpAny _ _ (typeLookup (.ref C) _) _ _ _
  refine (looks_findIn X₁ hi).at ?_
  refine wpAny_holding (wpAny_bind ?_)
  refine (bind_fn X₁ _ hf).at ?_
  refine wpAny_bind (wpAny_mono hq (fun r s' hr => ?_) fun _ _ x => x)
  obtain ⟨rfl, hQ⟩ := hr
  wp_walk
  exact hQ

theorem own2_call (F : ExcBaseFacts B newId initId bmB) {rest : List Value} {fI : Addr} {K : Frag} {Q : Value → Shared → Prop} (X : K.In h)
    (hC : h.get? C = some (excClassObj nm q C N bs (.ref P :: bmB) hdct sn sub ab col dd k0 k1 k2 k3 k5 newId)) (hi : findIn K (.ref C) "__init__" = some (some (.ref fI))) (hf : typeIn K (.ref fI) = some (.type "function"))
    (hq : wpAny (model prog w) (A.under (.builtin "type.__call__" ⟨.ref C :: rest, []⟩)) (call (.ref fI) (.ref (h.objs.size + 1) :: rest)) (fun r s' => r = .none ∧ Q (.ref (h.objs.size + 1)) s') E ⟨(h.push { cls := .type "tuple", data := .seq rest.toArray }).push
      { cls := .ref C, data := .fields #[.ref h.objs.size, .none, .none, .none, .bool false, .none] }, g, d, t, os⟩) (hrest : rest.length ≤ sizeLine) :
    wpAny (model prog w) A (call (.ref C) rest) Q E ⟨h, g, d, t, os⟩ := by
  have f1 := tc_lookup
  have f2 := tc_bind (.ref C)
  have hT : (⟨h, g, d, t, os⟩ : Shared).TypeIs (.ref C) "type" := ⟨_, hC, rfl⟩
  refine wpAny_call (codeAny_of_tree ?_)
  show wpAny _ _ (callAny (.ref C) _) _ _ _
  repeat (any_goals (first | assumption | with_reducible refine wpAny_loadPart_at hC ?_ | wp_step))
  refine ⟨rfl, ?_⟩
  exact codeAny_call_builtin_at (Code.quiet_builtin _ (by decide +kernel)) entry_typeCall (wpAny_check_type_call_sub hC (own2_type_call F X hC hi hf hq hrest))
end
end Mine
end

section
open PySem PySem.W PyProof.Rows PySem.Spec PySem.Calls Builtin Builtin.ObjectAttr
set_option maxRecDepth 100000
namespace Mine

section
variable {prog : Program} {w : World} {A : Around} {E : Value → Shared → Prop} {R : Result → Shared → Prop} {s : Shared} {K : Frag} {x C dx : Addr}

/-- a name goes into a dict of texts -/
theorem dictIn_store {es : List DictEntry} {n : Nat} {name : Str} {v : Value} {tk : Tok} {Q : Fin → Shared → Prop} (D : s.heap.get? dx = some (dictOf es n)) (hl : (getL name es).isSome = true) (hz : es.length ≤ 900)
    (h : ∀ h', Heap.SameBut dx s.heap h' → h'.get? dx = some (dictOf (putL name (PyData.keyHash w.params name) (.str name s.toks) v es) (putN name es n)) → Q (.done (.ret .none)) { s with heap := h', toks := s.toks + 1 }) :
    wpAny (model prog w) A (storeInDict dx (.str name tk) name v) Q E s := by
  have hl' : (lookIn name (dictOf es n)).isSome = true := by rw [lookIn_dict]; exact hl
  have hlen : (putL name (PyData.keyHash w.params name) (.str name s.toks) v es).length ≤ es.length + 1 := by
    clear h hl' hl D hz
    induction es with
    | nil => simp [putL]
    | cons e es ih => rw [putL]; split <;> simp <;> omega
  have D' : (s.heap.update dx (Obj.putName name (PyData.keyHash w.params name) (.str name s.toks) v)).get? dx = some (dictOf (putL name (PyData.keyHash w.params name) (.str name s.toks) v es) (putN name es n)) := by
    rw [Heap.get?_update_self _ D (by rw [putName_dict]; rfl), putName_dict]
  refine wpAny_bind (wpAny_pure (wpAny_bind ?_))
  unfold nsSet
  refine wpAny_bind (wpAny_bind (wpAny_askSetting (wpAny_pure (wpAny_bind (wpAny_mkText (wpAny_bind (wpAny_loadPart D ?_)))))))
  unfold lookIn at hl'
  dsimp only at hl' ⊢
  have c : (!es.toArray.any (·.key.isStr name) && es.toArray.any (·.refKey)) = false := by
    rw [← Array.any_toList, ← Array.any_toList]
    split at hl'
    · rename_i en he
      rw [List.any_eq_true.mpr ⟨en, List.mem_of_find?_eq_some he, List.find?_some he⟩]; rfl
    · split at hl'
      · cases hl'
      · rename_i z; rw [Bool.not_eq_true] at z; rw [z, Bool.and_false]
  rw [aRefKeyMayBeTheName_at, c]
  refine wpAny_updatePart D ?_
  refine wpAny_bind (wpAny_lookBehind D' (pastItsLine_dict (by rw [List.size_toArray, sizeLine_eq]; omega)) ?_)
  exact wpAny_pure (h _ (Heap.SameBut.update ..) D')

/-- the text's class of exceptions, as the fragment shows it -/
structure ExcCls (K : Frag) (C P : Addr) : Prop where
  cls : ∃ cd, clsIn K C = some cd ∧ cd.hasDict = true ∧ cd.mro = [.ref C, .ref P, .type "Exception", .type "BaseException", .type "object"]
  hset : findIn K (.ref C) "__setattr__" = some (some (.builtin "object.__setattr__"))
  hga : findIn K (.ref C) "__getattribute__" = some (some (.builtin "BaseException.__getattribute__"))
  m0 : findIn K (.ref C) "message" = some none
  s0 : findIn K (.ref C) "spot" = some none

theorem ExcCls.mro {P : Addr} (Y : ExcCls K C P) {v : Value} : mroIn K C v = some ([.ref C, .ref P, .type "Exception", .type "BaseException", .type "object"].contains v) := by
  obtain ⟨cd, h1, _, h3⟩ := Y.cls
  unfold mroIn
  rw [h1, Option.bind_some, h3]
  rfl

theorem exc_osa {P : Addr} (Y : ExcCls K C P) {ox : Obj} {od : Option Obj} {name : Str} {tk : Tok} {v : Value} (X : K.In s.heap) (I : InstAt s.heap x ox C od) (ha : findIn K (.ref C) name = some none)
    (h : wpAny (model prog w) A.in1 (storeInOwnDict (.ref x) (.ref C) (.str name tk) name v false)
      (fun fin s' => match fin with | .done f => R (.ok f) s' | .again c' => c'.quiet = true ∧ codeAny (model prog w) A c' R s') (fun e s' => R (.error e) s') s) :
    codeAny (model prog w) A (.call (.builtin "object.__setattr__") ⟨[.ref x, .str name tk, v], []⟩) R s := by
  have SF := PySem.F.store_object
  obtain ⟨cd, hc, hd, hm⟩ := Y.cls
  have sub : Looks (model prog w) s.heap (isInstance (.ref x) (.type "object")) true := I.type.andThen (looks_mroIn X (Y.mro.trans (by simp)))
  refine codeAny_call_builtin SF.slot.plain SF.entry (@check_slot (model prog w) _ _ s "object.__setattr__" "object" "__setattr__" (.ref x) [.str name tk, v] [] _ SF.kind SF.split sub (SF.args (.ref x) (.str name tk) v) ?_)
  have hmr : Looks (model prog w) s.heap (mroOf (.ref C)) cd.mro := (looks_clsIn X hc).andThen .now
  have L3 : Looks (model prog w) s.heap (storeTaker? none) none := .now
  rw [osa_eq, refuse_eq]
  refine wpAny_bind (wpAny_bind (I.type.here (wpAny_bind (hmr.here ?_))))
  rw [hm, refuseLoop_ref, refuseLoop_ref, PySem.F.store_Exception.passes]
  refine wpAny_pure (wpAny_bind (I.type.here (wpAny_bind ((looks_findIn X ha).here (wpAny_bind (L3.here ?_))))))
  exact h

theorem exc_set_new {P : Addr} (Y : ExcCls K C P) {vs : Array Value} {name : Str} {v : Value} {Q : Unit → Shared → Prop} (X : K.In s.heap) (hx : s.heap.get? x = some { cls := .ref C, dict := none, data := .fields vs }) (ha : findIn K (.ref C) name = some none)
    (h : ∀ h' tk', h'.get? x = some { cls := .ref C, dict := some s.heap.objs.size, data := .fields vs } → (∃ tk, h'.get? s.heap.objs.size = some (dictOf [⟨PyData.keyHash w.params name, .str name tk, v⟩] 1)) → (∀ a o, s.heap.get? a = some o → a ≠ x → h'.get? a = some o) → Q () { s with heap := h', toks := tk' }) :
    wpAny (model prog w) A (setAttr (.ref x) name v) Q E s := by
  have I : InstAt s.heap x { cls := .ref C, dict := none, data := .fields vs } C none := ⟨hx, rfl, rfl, trivial⟩
  obtain ⟨cd, hc, hd, hm⟩ := Y.cls
  refine set_plain X I Y.hset (exc_osa (s := { s with toks := s.toks + 1 }) Y X I ha ?_)
  unfold storeInOwnDict ownDictForStores instanceDict
  refine wpAny_bind (wpAny_pure ?_)
  refine wpAny_bind (wpAny_bind (wpAny_loadPart hx ?_))
  dsimp only
  have L := looks_clsIn (M := model prog w) (h := s.heap) X hc
  refine wpAny_bind (Looks.here (s := { s with toks := s.toks + 1 }) L ?_)
  rw [hd]
  have hxs : x ≠ s.heap.objs.size := Nat.ne_of_lt (Heap.lt_size hx)
  have hx₁ : (s.heap.push { cls := .type "dict", data := .dict #[] }).get? x = some { cls := .ref C, dict := none, data := .fields vs } := Heap.get?_push_of_some _ hx
  refine wpAny_bind (wpAny_alloc ?_)
  refine wpAny_bind (wpAny_update hx₁ ?_)
  refine wpAny_pure ?_
  have g2 : ((s.heap.push { cls := .type "dict", data := .dict #[] }).update x fun o => { o with dict := some s.heap.objs.size }).get? s.heap.objs.size = some (dictOf [] 0) :=
    (Heap.get?_update_other _ _ hxs).trans (Heap.get?_push_size _ rfl)
  refine dictIn_store (es := []) (n := 0) g2 rfl (by simp) fun h' hs' g' => ?_
  refine h h' _ ?_ ⟨_, g'⟩ fun a o e ne => ?_
  · rw [hs'.2 x hxs, Heap.get?_update_self _ hx₁ rfl]
  · rw [hs'.2 a (Nat.ne_of_lt (Heap.lt_size e)), Heap.get?_update_other _ _ (Ne.symm ne)]
    exact Heap.get?_push_of_some _ e

theorem exc_set_old {P : Addr} (Y : ExcCls K C P) {vs : Array Value} {es : List DictEntry} {n : Nat} {name : Str} {v : Value} {Q : Unit → Shared → Prop} (X : K.In s.heap) (hx : s.heap.get? x = some { cls := .ref C, dict := some dx, data := .fields vs }) (hdx : s.heap.get? dx = some (dictOf es n)) (ha : findIn K (.ref C) name = some none)
    (hl : (getL name es).isSome = true) (hz : es.length ≤ 900)
    (h : ∀ h' tk' tk, Heap.SameBut dx s.heap h' → h'.get? dx = some (dictOf (putL name (PyData.keyHash w.params name) (.str name tk) v es) (putN name es n)) → Q () { s with heap := h', toks := tk' }) :
    wpAny (model prog w) A (setAttr (.ref x) name v) Q E s := by
  have I : InstAt s.heap x { cls := .ref C, dict := some dx, data := .fields vs } C (some (dictOf es n)) := ⟨hx, rfl, rfl, hdx⟩
  obtain ⟨cd, hc, hd, hm⟩ := Y.cls
  refine set_plain X I Y.hset (exc_osa (s := { s with toks := s.toks + 1 }) Y X I ha ?_)
  unfold storeInOwnDict ownDictForStores instanceDict
  refine wpAny_bind (wpAny_pure ?_)
  refine wpAny_bind (wpAny_bind (wpAny_loadPart hx ?_))
  dsimp only
  have L := looks_clsIn (M := model prog w) (h := s.heap) X hc
  refine wpAny_bind (Looks.here (s := { s with toks := s.toks + 1 }) L ?_)
  rw [hd]
  refine wpAny_pure ?_
  exact dictIn_store (es := es) (n := n) hdx hl hz fun h' hs' g' => h h' _ _ hs' g'
end
end Mine
end

section
open PySem PySem.W PyProof.Rows PySem.Spec PySem.Calls Builtin Builtin.ObjectAttr
set_option maxRecDepth 100000
namespace Mine
section
variable {prog : Program} {w : World} {M : Model} {A : Around} {E : Value → Shared → Prop} {R : Result → Shared → Prop} {h : Heap} {g : Array GenState} {d : Drawn} {t : Nat} {os : OsState}
variable {nm q : Str} {C N P : Addr} {bs bmB : List Value} {hdct : Bool} {sn : List Str} {sub : List Value} {ab : Bool} {col : Option Bool} {dd : Option Addr} {k0 k1 k2 k3 k5 : Option Value} {B newId initId : String}

theorem own2_check_init (F : ExcBaseFacts B newId initId bmB) {e : Addr} {oe : Obj} {rest : List Value} {Q : Unit → Shared → Prop}
    (hC : h.get? C = some (excClassObj nm q C N bs (.ref P :: bmB) hdct sn sub ab col dd k0 k1 k2 k3 k5 newId)) (he : h.get? e = some oe) (hcls : oe.cls = .ref C) (hq : Q () ⟨h, g, d, t, os⟩) :
    wpAny M A (checkBuiltinCall initId ⟨.ref e :: rest, []⟩) Q E ⟨h, g, d, t, os⟩ := by
  have hcB : (Value.ref C :: .ref P :: bmB).contains (.type B) = true := by rw [List.contains_cons, List.contains_cons, F.hasB, Bool.or_true, Bool.or_true]
  have hshort := F.noStar
  simp only [checkBuiltinCall, F.initKind, F.initSplit, F.initRow]
  repeat (first | (with_reducible refine wpAny_loadPart_at he ?_; rw [hcls]) | with_reducible refine wpAny_loadPart_at hC ?_ | (with_reducible refine wpAny_isSubtype_exc hC ?_; rw [hcB]) | wp_step)
  refine wpAny_onRaise ?_
  rw [show ∀ (a b : String) (n : Nat), Bind.check ⟨.positional, "*", B, .self, [⟨"args", .varPos, false⟩]⟩ a b n (List.map (fun x => x.fst) ({ pos := Value.ref e :: rest } : Args).kw) = pure () from
    fun a b n => check_star_args _ _ _ _ _ _]
  exact wpAny_pure hq

theorem own2_init (F : ExcBaseFacts B newId initId bmB) {e : Addr} {de : Option Addr} {vs : Array Value} {rest : List Value} {Q : Value → Shared → Prop}
    (hC : h.get? C = some (excClassObj nm q C N bs (.ref P :: bmB) hdct sn sub ab col dd k0 k1 k2 k3 k5 newId)) (he : h.get? e = some { cls := .ref C, dict := de, data := .fields vs }) {a0 : Addr} (h0 : vs[0]? = some (.ref a0)) (hrest : rest.length ≤ sizeLine)
    (hq : Q .none ⟨(h.push { cls := .type "tuple", data := .seq rest.toArray }).update e (Obj.mapFields (·.setIfInBounds 0 (.ref h.objs.size))), g, d, t, os⟩) :
    wpAny (model prog w) A (call (.builtin initId) (.ref e :: rest)) Q E ⟨h, g, d, t, os⟩ := by
  refine wpAny_call (codeAny_call_builtin F.init.plain F.initEntry (own2_check_init F hC he rfl ?_))
  wp_walk
  rw [h0]
  refine wpAny_pure ?_
  have he' : (h.push { cls := .type "tuple", data := .seq rest.toArray }).get? e = some { cls := .ref C, dict := de, data := .fields vs } := Heap.get?_push_of_some _ he
  refine wpAny_bind (wpAny_setField (s := ⟨h.push { cls := .type "tuple", data := .seq rest.toArray }, g, d, t, os⟩) he' rfl (Array.getElem?_eq_some_iff.mp h0).1 ?_)
  dsimp only
  refine wpAny_letGo ?_
  exact wpAny_pure hq
end

noncomputable def isNmI (s : Str) (e : Expr) : Bool := onName e fun a _ => a == s
theorem isNmI_is {P : Expr → Prop} {s : Str} {e : Expr} (h : isNmI s e = true) (k : ∀ p, P (.Name s p)) : P e := onName_is h fun a p h => eq_of_beq h ▸ k p
/-- self.t = t -/
noncomputable def isSelf (t : Str) (x : Stmt) : Bool := onSAssign x fun ts v _ => on1 ts fun y => onAttribute y fun b a _ => isNmI "self" b && (a == t && isNmI t v)
theorem isSelf_is {P : Stmt → Prop} {t : Str} {x : Stmt} (h : isSelf t x = true) (k : ∀ p q r u, P (.Assign [.Attribute (.Name "self" p) t q] (.Name t r) u)) : P x :=
  onSAssign_is h fun ts v u h => on1_is (P := fun ts => P (.Assign ts v u)) h fun y h => onAttribute_is (P := fun y => P (.Assign [y] v u)) h fun b a q h =>
    isNmI_is (P := fun b => P (.Assign [.Attribute b a q] v u)) (and_tt h).1 fun p => isNmI_is (P := fun v => P (.Assign [.Attribute (.Name "self" p) a q] v u)) (and_tt (and_tt h).2).2 fun r => eq_of_beq (and_tt (and_tt h).2).1 ▸ k p q r u
/-- Exception.__init__(self, message) -/
noncomputable def isSuper (x : Stmt) : Bool := onSExpr x fun v _ => onCall v fun f es ks p => on0 ks (onAttribute f fun b a q => on2 es fun y z => isNmI "Exception" b && (a == ("__init__" : Str) && (q.endLine == p.line && (isNmI "self" y && isNmI "message" z))))
theorem isSuper_is {P : Stmt → Prop} {x : Stmt} (h : isSuper x = true) (k : ∀ a b c d e f, (b.endLine == e.line) = true → P (.Expr (.Call (.Attribute (.Name "Exception" a) "__init__" b) [.Name "self" c, .Name "message" d] [] e) f)) : P x :=
  onSExpr_is h fun v f h => onCall_is (P := fun v => P (.Expr v f)) h fun g es ks e h => on0_is (P := fun ks => P (.Expr (.Call g es ks e) f)) h fun h => onAttribute_is (P := fun g => P (.Expr (.Call g es [] e) f)) h fun n i b h =>
    on2_is (P := fun es => P (.Expr (.Call (.Attribute n i b) es [] e) f)) h fun y z h => by
      obtain ⟨h1, h⟩ := and_tt h
      obtain ⟨h2, h⟩ := and_tt h
      obtain ⟨h3, h⟩ := and_tt h
      obtain ⟨h4, h5⟩ := and_tt h
      cases eq_of_beq h2
      exact isNmI_is (P := fun n => P (.Expr (.Call (.Attribute n "__init__" b) [y, z] [] e) f)) h1 fun a => isNmI_is (P := fun y => P (.Expr (.Call (.Attribute (.Name "Exception" a) "__init__" b) [y, z] [] e) f)) h4 fun c =>
        isNmI_is (P := fun z => P (.Expr (.Call (.Attribute (.Name "Exception" a) "__init__" b) [.Name "self" c, z] [] e) f)) h5 fun d => k a b c d e f h3
/-- the own __init__ of the text's class of exceptions, as its data show it -/
noncomputable def isInitBody : List Stmt → Bool
  | [a, b, c] => isSuper a && (isSelf "message" b && isSelf "spot" c)
  | _ => false

theorem bindsP {K : Frag} {s : Shared} {fd : FuncData} {args : Args} {binds : List (Str × Value)} (X : K.In s.heap) (e : ∀ S, peek K S (bindArgs fd args) = some binds) : BindsTo s fd args binds :=
  fun M _ _ _ q => (Looks.of_peek (M := M) X (e _)).here q
theorem no_cell {l : List (Str × NameKind)} (h : l.all (fun x => x.2 != .cell) = true) : ∀ x ∈ l, x.2 ≠ .cell := fun x m => bne_iff_ne.mp (List.all_eq_true.mp h x m)
/-- what is told of that __init__ -/
structure InitOK (K : Frag) (fd : FuncData) (bd : List Stmt) : Prop where
  isBody : isInitBody bd = true
  noCell : fd.scope.names.all (fun x => x.2 != .cell) = true
  n1 : fd.scope.names.lookup ("self" : Str) = some NameKind.local
  n2 : fd.scope.names.lookup ("message" : Str) = some NameKind.local
  n3 : fd.scope.names.lookup ("spot" : Str) = some NameKind.local
  n4 : fd.scope.names.lookup ("Exception" : Str) = some NameKind.globalImplicit
  binds : ∀ a b c S, peek K S (bindArgs fd ⟨[a, b, c], []⟩) = some [(("self" : Str), a), (("message" : Str), b), (("spot" : Str), c)]

/-- the shape of the text's class of exceptions in the heap -/
noncomputable def ExcShape (K : Frag) (CG P : Addr) : Prop := ∃ nm q N bs hdct sn sub ab col dd k0 k1 k2 k3 k5, K.lookup CG = some (excClassObj nm q CG N bs (.ref P :: [.type "Exception", .type "BaseException", .type "object"]) hdct sn sub ab col dd k0 k1 k2 k3 k5 "Exception.__new__")

structure ExcFx (L : Lng) (P fI : Addr) (fd : FuncData) (bd : List Stmt) : Prop where
  shape : ExcShape L.K L.D.CG P
  cls : ExcCls L.K L.D.CG P
  dat : DefAt L.D fI fd bd
  ini : InitOK L.K fd bd
  hi : findIn L.K (.ref L.D.CG) "__init__" = some (some (.ref fI))
  hf : typeIn L.K (.ref fI) = some (.type "function")
  blt : L.mg "Exception" = none ∧ L.mb "Exception" = some (.type "Exception")
  fc : findCls L.K (.type "Exception") (.type "type") "__init__" = some (.val (.builtin "Exception.__init__"))

section
variable {L : Lng} {A : Around} {E : Value → Shared → Prop}
theorem nm_ok {M : Model} {Q : Value → Shared → Prop} {s : Shared} {env : Env} {m : Str → Option Value} {y : Str} {p : Pos} {v : Value} (hk : env.scope.kind = .function) (n : s.heap.Ns env.locals m) (hl : env.kindOf y = some .local) (hv : m y = some v) (hd : (y == ("__debug__" : Str)) = false) (q : Q v s) :
    wpAny M A (eval (.Name y p) env) Q E s := wpAny_Name (wpAny_loadName_local hk hl n hv q) hd
/-- self.t = t -/
theorem self_ok {M : Model} {Q : Flow → Shared → Prop} {s : Shared} {env : Env} {m : Str → Option Value} {t : Str} {st : Stmt} {x : Addr} {v : Value} (hs : isSelf t st = true) (hk : env.scope.kind = .function) (n : s.heap.Ns env.locals m)
    (k1 : env.kindOf "self" = some .local) (m1 : m "self" = some (.ref x)) (k2 : env.kindOf t = some .local) (m2 : m t = some v) (hd : (t == ("__debug__" : Str)) = false) (q : wpAny M A (setAttr (.ref x) t v) (fun _ => Q .next) E s) : wpAny M A (exec st env) Q E s :=
  isSelf_is (P := fun st => wpAny M A (exec st env) Q E s) hs fun _ _ _ _ => plainObj_wpAny_Assign_Attribute (nm_ok hk n k2 m2 hd (nm_ok hk n k1 m1 (by decide) q)) (noSwap rfl _ _ _)
theorem ns_keep {h h' : Heap} {L : Addr} {m : Str → Option Value} (n : h.Ns L m) (k : ∀ o, h.get? L = some o → h'.get? L = some o) : h'.Ns L m := let ⟨o, es, ep, e, z⟩ := n; ⟨o, es, ep, k _ e, z⟩

/-- the own __init__ lays the message and the spot down -/
theorem init_ok (Z : Fx L) {P fI : Addr} {fd : FuncData} {bd : List Stmt} (X0 : ExcFx L P fI fd bd) {s : Shared} {Q : Value → Shared → Prop} (hdep : A.depth < recursionLimit) (st : L.D.base.StaysIn s.heap) (sz : L.D.base.objs.size ≤ s.heap.objs.size)
    {x t0 : Addr} (hx : s.heap.get? x = some { cls := .ref L.D.CG, data := .fields #[.ref t0, .none, .none, .none, .bool false, .none] }) (hxb : L.D.base.get? x = none) {mu : List Nat} {pi : Int} {t3 t4 : Tok}
    (h : ∀ s' da a0, Later s s' → (∀ a o, s.heap.get? a = some o → a ≠ x → s'.heap.get? a = some o) → s'.heap.get? x = some { cls := .ref L.D.CG, dict := some da, data := .fields #[a0, .none, .none, .none, .bool false, .none] } → s.heap.get? da = none → da ≠ x → Laid s'.heap da mu pi → Q .none s') :
    wpAny (model L.D.prog L.D.w) A (call (.ref fI) [.ref x, .str (tx mu) t3, .int pi t4]) Q E s := by
  have d := X0.dat
  obtain ⟨o, ho, hd⟩ := d.at_
  have I := X0.ini
  match bd, I.isBody, d.body with
  | [a, b, c], hb, hbd =>
  refine wpAny_call (codeAny_call_def (fd := fd) (body := [a, b, c]) (binds := [(("self" : Str), .ref x), (("message" : Str), .str (tx mu) t3), (("spot" : Str), .int pi t4)]) hdep (st _ _ ho) hd (Z.nolimit.keeps st) (d.code.keeps st) hbd (bindsP (Z.X.keeps st) (I.binds _ _ _)) (no_cell I.noCell) (fun y hy => ?_) (fun h₀ n k => ?_) d.co d.gen d.kind)
  · rcases List.mem_cons.mp hy with rfl | hy
    · exact I.n1
    · rcases List.mem_cons.mp hy with rfl | hy
      · exact I.n2
      · exact List.mem_singleton.mp hy ▸ I.n3
  generalize he : callEnv fd s.heap.objs.size fI = env
  have ek : env.scope.kind = .function := he ▸ d.kind
  have el : env.locals = s.heap.objs.size := he ▸ rfl
  have eg : mainGlobals = env.globals := he ▸ d.glob.symm
  have eb : builtinsNs = env.builtins := he ▸ d.blt.symm
  have kd : ∀ y, env.kindOf y = fd.scope.names.lookup y := fun y => he ▸ rfl
  have L0 : env.locals ≠ x := fun z => Nat.ne_of_gt (Heap.lt_size hx) (el.symm.trans z)
  have n : h₀.Ns env.locals (fun y => [(("self" : Str), Value.ref x), (("message" : Str), .str (tx mu) t3), (("spot" : Str), .int pi t4)].reverse.lookup y) := el ▸ n
  generalize hm : (fun y => [(("self" : Str), Value.ref x), (("message" : Str), .str (tx mu) t3), (("spot" : Str), .int pi t4)].reverse.lookup y) = m at n
  have m1 : m "self" = some (.ref x) := hm ▸ rfl
  have m2 : m "message" = some (.str (tx mu) t3) := hm ▸ rfl
  have m3 : m "spot" = some (.int pi t4) := hm ▸ rfl
  obtain ⟨nm, q, Nn, bs, hdct, sn, sub, ab, col, dd, k0, k1, k2, k3, k5, hCK⟩ := X0.shape
  have st0 : L.D.base.StaysIn h₀ := fun a o e => k a o (st a o e)
  have hx0 := k _ _ hx
  -- Exception.__init__(self, message)
  refine isSuper_is (P := fun a => wpAny _ _ (execs [a, b, c] env) _ _ _) (and_tt hb).1 fun p1 p2 p3 p4 p5 p6 hline => ?_
  refine wpAny_execs_cons (wpAny_Expr_any (call_meth_any rfl rfl (show 2 < 30 by decide) hline ?_) (by unfold interactive; rw [ek]; rfl) (noSwap rfl _ _ _))
  refine Name_function_global ek ((kd _).trans I.n4) (loadGlobal_builtin (mg := L.mg) (mb := L.mb) (eg ▸ Z.g.keeps st0) X0.blt.1 (eb ▸ Z.b.keeps st0) X0.blt.2 fun pl => ?_)
  refine method_type (T := "Exception") (s := { s with heap := h₀, toks := _ }) (L := env.locals) (m := m) ⟨n, st0, el ▸ sz⟩ Z.X (by kernel_rfl) (by kernel_rfl) X0.fc (by decide +kernel) ?_
  refine Calls.callWith_builtin rfl (Calls.evalArgs_plain (Calls.spliced_cons (nm_ok ek n ((kd _).trans I.n1) m1 (by decide) (Calls.spliced_cons (nm_ok ek n ((kd _).trans I.n2) m2 (by decide) (Calls.spliced_nil ?_))))))
  refine own2_init PySem.F.excBase_Exception (k _ _ (st _ _ (Z.X _ _ hCK))) (rest := [.str (tx mu) t3]) hx0 rfl (show 1 ≤ sizeLine by rw [sizeLine_eq]; decide) ?_
  have gx1 : ((h₀.push { cls := .type "tuple", data := .seq [Value.str (tx mu) t3].toArray }).update x (Obj.mapFields (·.setIfInBounds 0 (.ref h₀.objs.size)))).get? x = some { cls := .ref L.D.CG, dict := none, data := .fields #[.ref h₀.objs.size, .none, .none, .none, .bool false, .none] } := Heap.get?_update_self _ (Heap.get?_push_of_some _ hx0) rfl
  have k1 : ∀ a o, h₀.get? a = some o → a ≠ x → ((h₀.push { cls := .type "tuple", data := .seq [Value.str (tx mu) t3].toArray }).update x (Obj.mapFields (·.setIfInBounds 0 (.ref h₀.objs.size)))).get? a = some o := fun a o e ne =>
    (Heap.get?_update_other _ _ (Ne.symm ne)).trans (Heap.get?_push_of_some _ e)
  generalize (h₀.push { cls := .type "tuple", data := .seq [Value.str (tx mu) t3].toArray }).update x (Obj.mapFields (·.setIfInBounds 0 (.ref h₀.objs.size))) = h1 at gx1 k1 ⊢
  have hKin : ∀ {h' : Heap}, (∀ a o, h₀.get? a = some o → a ≠ x → h'.get? a = some o) → L.K.In h' := fun kk => Z.X.keeps fun a o e => kk a o (st0 a o e) fun z => none_some (hxb.symm.trans (z ▸ e))
  -- self.message = message
  refine wpAny_execs_cons (self_ok (and_tt (and_tt hb).2).1 ek (s := { s with heap := h1, toks := _ }) (ns_keep n fun o e => k1 _ _ e L0) ((kd _).trans I.n1) m1 ((kd _).trans I.n2) m2 (by decide) ?_)
  refine exc_set_new (s := { s with heap := h1, toks := _ }) X0.cls (hKin k1) gx1 X0.cls.m0 fun h2 tk2 g2 ⟨t2, d2⟩ k2 => ?_
  have k02 : ∀ a o, h₀.get? a = some o → a ≠ x → h2.get? a = some o := fun a o e ne => k2 a o (k1 a o e ne) ne
  -- self.spot = spot
  refine wpAny_execs_cons (self_ok (and_tt (and_tt hb).2).2 ek (s := { s with heap := h2, toks := tk2 }) (ns_keep n fun o e => k02 _ _ e L0) ((kd _).trans I.n1) m1 ((kd _).trans I.n3) m3 (by decide) ?_)
  refine exc_set_old (s := { s with heap := h2, toks := tk2 }) X0.cls (hKin k02) g2 d2 X0.cls.s0 rfl (show 1 ≤ 900 by decide) fun h3 tk3 t3' hs3 d3 => ?_
  have hda : h1.get? h1.objs.size = none := fresh_here
  have hdx : h1.objs.size ≠ x := Nat.ne_of_gt (Heap.lt_size gx1)
  have k03 : ∀ a o, h₀.get? a = some o → a ≠ x → h3.get? a = some o := fun a o e ne => (hs3.2 a fun z => none_some (hda.symm.trans (z ▸ k1 a o e ne))).trans (k02 a o e ne)
  refine wpAny_execs_nil (h { s with heap := h3, toks := tk3 } h1.objs.size _ ⟨rfl, rfl, rfl⟩ (fun a o e ne => k03 a o (k a o e) ne) ((hs3.2 x (Ne.symm hdx)).trans g2) ?_ hdx ⟨_, _, _, _, _, _, _, d3⟩)
  cases z : s.heap.get? h1.objs.size with
  | none => rfl
  | some o => exact (none_some (hda.symm.trans (k1 _ _ (k _ _ z) hdx))).elim
end
end Mine
end

section
open PySem PySem.W PyProof.Rows PySem.Spec PySem.Calls Builtin Builtin.ObjectAttr
namespace Mine
section
variable {L : Lng}

/-- a new exception of the text's own class -/
theorem mk_exc (Z : Fx L) {P fI : Addr} {fd : FuncData} {bd : List Stmt} (X0 : ExcFx L P fI fd bd) {A : Around} {E : Value → Shared → Prop} {s : Shared} {Q : Value → Shared → Prop} {F σ : List Addr} (hdep : A.depth + 2 < recursionLimit) (st : L.D.base.StaysIn s.heap) (sz : L.D.base.objs.size ≤ s.heap.objs.size)
    {mu : List Nat} {pi : Int} {t3 t4 : Tok} (q : ∀ e da a0 s', Later s s' → ExcAt L.D F σ s.heap s'.heap (.ref e) (.str mu) (.int pi) → s'.heap.get? e = some { cls := .ref L.D.CG, dict := some da, data := .fields #[a0, .none, .none, .none, .bool false, .none] } → Q (.ref e) s') :
    wpAny (model L.D.prog L.D.w) A (call (.ref L.D.CG) [.str (tx mu) t3, .int pi t4]) Q E s := by
  obtain ⟨nm, q', Nn, bs, hdct, sn, sub, ab, col, dd, k0, k1, k2, k3, k5, hCK⟩ := id X0.shape
  refine own2_call (h := s.heap) PySem.F.excBase_Exception (Z.X.keeps st) (st _ _ (Z.X _ _ hCK)) X0.hi X0.hf ?_ (show 2 ≤ sizeLine by rw [sizeLine_eq]; decide)
  have k2 : ∀ a o, s.heap.get? a = some o → ((s.heap.push { cls := .type "tuple", data := .seq [Value.str (tx mu) t3, .int pi t4].toArray }).push { cls := .ref L.D.CG, data := .fields #[.ref s.heap.objs.size, .none, .none, .none, .bool false, .none] }).get? a = some o :=
    fun a o e => Heap.get?_push_of_some _ (Heap.get?_push_of_some _ e)
  have sz2 : ((s.heap.push { cls := .type "tuple", data := .seq [Value.str (tx mu) t3, .int pi t4].toArray }).push { cls := .ref L.D.CG, data := .fields #[.ref s.heap.objs.size, .none, .none, .none, .bool false, .none] }).objs.size = s.heap.objs.size + 2 := by rw [Heap.size_push, Heap.size_push]
  have gx : ((s.heap.push { cls := .type "tuple", data := .seq [Value.str (tx mu) t3, .int pi t4].toArray }).push { cls := .ref L.D.CG, data := .fields #[.ref s.heap.objs.size, .none, .none, .none, .bool false, .none] }).get? (s.heap.objs.size + 1) = some { cls := .ref L.D.CG, data := .fields #[.ref s.heap.objs.size, .none, .none, .none, .bool false, .none] } := Heap.get?_push_at (by rw [Heap.size_push]) rfl
  generalize (s.heap.push { cls := .type "tuple", data := .seq [Value.str (tx mu) t3, .int pi t4].toArray }).push { cls := .ref L.D.CG, data := .fields #[.ref s.heap.objs.size, .none, .none, .none, .bool false, .none] } = h2 at k2 sz2 gx ⊢
  have dep : (A.under (.builtin "type.__call__" ⟨.ref L.D.CG :: [.str (tx mu) t3, .int pi t4], []⟩)).depth < recursionLimit := by
    have e2 : Code.weight (.builtin "type.__call__" ⟨.ref L.D.CG :: [.str (tx mu) t3, .int pi t4], []⟩) = 1 := by kernel_rfl
    show A.depth + Code.weight (.builtin "type.__call__" ⟨.ref L.D.CG :: [.str (tx mu) t3, .int pi t4], []⟩) < recursionLimit
    rw [e2]
    exact Nat.lt_of_succ_lt hdep
  have x0 : ∀ {i}, s.heap.objs.size ≤ i → s.heap.get? i = none := fun h => none_of_size h
  have up : s.heap.objs.size ≤ h2.objs.size := sz2 ▸ Nat.le_add_right _ 2
  refine init_ok (s := { s with heap := h2 }) Z X0 dep (fun a o e => k2 a o (st a o e)) (Nat.le_trans sz up) gx (none_of_size (Nat.le_trans sz (Nat.le_succ _))) fun s' da a0 l k g3 g4 ne g5 => ⟨rfl, ?_⟩
  have kk : ∀ a o, s.heap.get? a = some o → s'.heap.get? a = some o := fun a o e => k a o (k2 a o e) fun z => none_some ((x0 (Nat.le_succ _)).symm.trans (z ▸ e))
  refine q _ da a0 s' ⟨l.1, l.2, l.3⟩ ⟨⟨Step.all kk, fun a _ => kk a⟩, _, da, _, rfl, x0 (Nat.le_succ _), ?_, Ne.symm ne, g3, rfl, .inl rfl, mu, pi, rfl, rfl, g5⟩ g3
  cases z : s.heap.get? da with
  | none => rfl
  | some o => exact (none_some (g4.symm.trans (k2 da o z))).elim

theorem raise_made {M : Model} {A : Around} {E : Value → Shared → Prop} {env : Env} {s : Shared} {x : Sem Value} {Q : Flow → Shared → Prop} {P : Addr} (hX : ExcShape L.K L.D.CG P) (hh : A.handled = none)
    (h : wpAny M A x (fun v s₁ => ∃ e da a0, v = .ref e ∧ L.K.In s₁.heap ∧ s₁.heap.get? e = some { cls := .ref L.D.CG, dict := some da, data := .fields #[a0, .none, .none, .none, .bool false, .none] } ∧ E (.ref e) s₁) E s) :
    wpAny M A (raiseStmt env (some x) none) Q E s := by
  obtain ⟨nm, q, Nn, bs, hdct, sn, sub, ab, col, dd, k0, k1, k2, k3, k5, hCK⟩ := hX
  have hcB : (Value.ref L.D.CG :: Value.ref P :: [.type "Exception", .type "BaseException", .type "object"]).contains (.type "BaseException") = true := by
    rw [List.contains_cons, List.contains_cons]; rfl
  unfold raiseStmt
  refine wpAny_bind (wpAny_mono h (fun v s₁ h₁ => ?_) fun _ _ x => x)
  obtain ⟨e, da, a0, rfl, X, he, hE⟩ := h₁
  have hC := X _ _ hCK
  obtain ⟨hp, g, d, tk, os⟩ := s₁
  repeat (first | with_reducible refine wpAny_loadPart_at he ?_ | with_reducible refine wpAny_loadPart_at hC ?_ | (with_reducible refine wpAny_isSubtype_exc hC ?_; rw [hcB]) | wp_step)
  exact wpAny_raiseNew_none hh hE

theorem SndS.rse (Z : Fx L) {P fI : Addr} {fd : FuncData} {bd : List Stmt} (X0 : ExcFx L P fI fd bd) (hg : L.mg "GrammarFault" = some (.ref L.D.CG)) (hk : keepIn L.K (.ref L.D.CG) = true) {m p : X} (hm : Snd L m) (hp : Snd L p) : SndS L (.rse m p) := fun c st hn h =>
  onSRaise_is (P := fun st => SVal L c (.rse m p) st) h fun e f pos h => onSome_is (P := fun e => SVal L c (.rse m p) (.Raise e f pos)) (and_tt h).2 fun e h2 => onCall_is (P := fun e => SVal L c (.rse m p) (.Raise (some e) f pos)) h2 fun g es ks cp h2 =>
    onName_is (P := fun g => SVal L c (.rse m p) (.Raise (some (.Call g es ks cp)) f pos)) h2 fun n np h2 => on0_is (P := fun ks => SVal L c (.rse m p) (.Raise (some (.Call (.Name n np) es ks cp)) f pos)) h2 fun h2 =>
      on2_is (P := fun es => SVal L c (.rse m p) (.Raise (some (.Call (.Name n np) es [] cp)) f pos)) h2 fun e1 e2 h2 => ⟨fun {x σ₀ s₀ loc cs σ s} a Q E p0 => by
        cases Option.isNone_iff_eq_none.mp (and_tt h).1
        obtain ⟨h3, h2⟩ := and_tt h2
        obtain ⟨h4, h2⟩ := and_tt h2
        rw [arm_exec_Raise]
        refine wpAny_bind (wpAny_standAt (raise_made X0.shape a.room.handled (wpAny_bind (wpAny_mono (Q := fun v s₁ => ∃ e da a0, v = .ref e ∧ L.K.In s₁.heap ∧ s₁.heap.get? e = some { cls := .ref L.D.CG, dict := some da, data := .fields #[a0, .none, .none, .none, .bool false, .none] } ∧ E (.ref e) s₁) ?_ (fun v s₃ h₃ => wpAny_bind (wpAny_standAt (wpAny_pure h₃))) fun _ _ x => x))))
        refine Call_Name rfl (gl_name Z a.toAt h4 ((congrArg L.mg (eq_of_beq h3)).trans hg) (callWith_K Z.X hk (spliced_more (Val.ands (hm (and_tt h2).1).1 a p0 fun v cs₁ σ₁ s₁ a₁ S₁ p1 va ra => ?_) (star_of (notStar (and_tt h2).1) _ _)) (star_of (notStar (and_tt h2).1) _ _) (noStars (ys := [p]) (and_of (and_tt h2).2 rfl))))
        refine spliced_more (Val.ands (hp (and_tt h2).2).1 a₁ p1 fun w cs₂ σ₂ s₂ a₂ S₂ p2 vb rb => spliced_none ⟨Z.X.keeps a₂.wd.base, ?_⟩) (star_of (notStar (and_tt h2).2) _ _)
        refine PostF.str (P := fun v => RpA L x σ₁ s₁ va v → wpAny (model L.D.prog L.D.w) x.A (call (.ref L.D.CG) ([] ++ [va, vb])) _ E s₂) p2 (fun mu p2 ra => ?_) ra
        refine PostF.int (P := fun w => RpA L x σ₂ s₂ vb w → wpAny (model L.D.prog L.D.w) x.A (call (.ref L.D.CG) ([] ++ [va, vb])) _ E s₂) p2 (fun pi p2 rb => ?_) rb
        obtain ⟨t1, rfl⟩ := ra.view
        obtain ⟨t2, rfl⟩ := rb.view
        refine mk_exc (F := x.F) (σ := σ₂) Z X0 (by have := a.room.depth; rw [show recursionLimit = 1000 from rfl]; omega) a₂.wd.base (a₂.wd.size a₂.eo.loc) fun e da a0 s' l y g =>
          ⟨e, da, a0, rfl, Z.X.keeps (a₂.wd.keep y.fly.step y.fly.cells).base, g, p2 _ σ₂ s₂.heap s' x.F (fun _ m => m) (fun _ m => .inl m) a₂.wd a₂.go.st y (a₂.go.lt.trans l)⟩⟩
end
end Mine
end

section
open PySem PySem.W PyProof.Rows PySem.Spec PySem.Calls Builtin Builtin.ObjectAttr
set_option maxRecDepth 100000
namespace Mine
section
variable {prog : Program} {w : World} {A : Around} {E : Value → Shared → Prop} {s : Shared} {K : Frag} {x C P : Addr} {ox : Obj} {od : Option Obj}

/-- the reading of an attribute of an exception -/
theorem exc_get (Y : ExcCls K C P) (hgk : findIn K (.ref C) "__getattr__" = some none) {name : Str} {expr : Bool} {v : Value} {Q : Value → Shared → Prop} (X : K.In s.heap) (I : InstAt s.heap x ox C od)
    (hf : findObj K C od name = some (.value v)) (hh : handedIn v = true) (h : Q v { s with toks := s.toks + 1 }) : wpAny (model prog w) A (getAttr (.ref x) name expr) Q E s := by
  obtain ⟨hh', g, d, t, os⟩ := s
  have L0 := I.type (M := model prog w)
  have L1 := looks_findIn (M := model prog w) X Y.hga
  have L2 := looks_findIn (M := model prog w) X hgk
  have L3 := looks_find (M := model prog w) X I hf
  have FB := PySem.F.attrBase_Exception
  have hx0 : (expr && onTheHeap (Value.builtin "BaseException.__getattribute__")) = false := by cases expr <;> rfl
  have hx2 : (Value.builtin "BaseException.__getattribute__" == Value.builtin "object.__getattribute__") = false := by decide +kernel
  have sub : Looks (model prog w) hh' (isInstance (.ref x) (.type "BaseException")) true := L0.andThen (looks_mroIn X (Y.mro.trans (by simp)))
  unfold getAttr getAttrBy
  refine wpAny_bind (wpAny_mkText (wpAny_holding (wpAny_bind (L0.at (wpAny_bind (L1.at ?_))))))
  dsimp only
  rw [hx2, Bool.and_false]
  show wpAny _ _ (getAttrByItsOwn _ _ _ _ _ _) _ _ _
  unfold getAttrByItsOwn
  refine wpAny_bind (L2.at ?_)
  refine wpAny_bind (wpAny_attempt (wpAny_holding ?_))
  unfold callGetattribute boundAndCalled
  rw [hx0]
  show wpAny _ _ (do let (g, first) ← bindSpecial (.builtin "BaseException.__getattribute__") (.ref x); call g (first ++ [_])) _ _ _
  rw [FB.ga.bind]
  refine wpAny_bind (wpAny_pure ?_)
  have hk : builtinKind "BaseException.__getattribute__" = some .slot := by decide +kernel
  have hsplit : splitId "BaseException.__getattribute__" = some ("BaseException", "__getattribute__") := by decide +kernel
  show wpAny _ _ (call (.builtin "BaseException.__getattribute__") [.ref x, .str name t]) _ _ _
  refine wpAny_call ?_
  refine codeAny_call_builtin FB.ga.plain F.entry_bexc_ga ?_
  refine @check_slot (model prog w) _ _ ⟨hh', g, d, t + 1, os⟩ "BaseException.__getattribute__" "BaseException" "__getattribute__" (.ref x) [.str name t] [] _ hk hsplit sub (F.args_bexc_ga _ _) ?_
  unfold «object.__getattribute__»
  refine wpAny_bind (wpAny_pure (wpAny_bind (wpAny_pure (wpAny_bind (L0.at (wpAny_bind (L3.at ?_)))))))
  refine wpAny_pure ?_
  show wpAny _ _ (handedOut v) _ _ _
  rw [handedOut_of hh]; exact wpAny_pure h

theorem excMatches_own {M : Model} {D : Gd} (hX : ExcShape K D.CG P) {e : Addr} {oe : Obj} {Q : Bool → Shared → Prop} (X : K.In s.heap) (he : s.heap.get? e = some oe) (hcls : oe.cls = .ref D.CG) (hq : Q true s) :
    wpAny M A (excMatches (.ref e) (.ref D.CG)) Q E s := by
  obtain ⟨nm, q', Nn, bs, hdct, sn, sub, ab, col, dd, k0, k1, k2, k3, k5, hCK⟩ := hX
  have hcB : (Value.ref D.CG :: Value.ref P :: [.type "Exception", .type "BaseException", .type "object"]).contains (.type "BaseException") = true := by simp
  have hcC : (Value.ref D.CG :: Value.ref P :: [.type "Exception", .type "BaseException", .type "object"]).contains (.ref D.CG) = true := by simp
  have hC := X _ _ hCK
  obtain ⟨hp, g, d, tk, os⟩ := s
  have f3 := tc_notTuple
  have hT : (⟨hp, g, d, tk, os⟩ : Shared).TypeIs (.ref D.CG) "type" := ⟨_, hC, rfl⟩
  unfold excMatches
  repeat (first | assumption | (with_reducible refine wpAny_loadPart_at he ?_; rw [hcls]) | with_reducible refine wpAny_loadPart_at hC ?_ | (with_reducible refine wpAny_isSubtype_exc hC ?_; first | rw [hcB] | rw [hcC]) | wp_step)
end
end Mine
end

section
open PySem PySem.W PyProof.Rows PySem.Spec PySem.Calls Builtin Builtin.ObjectAttr
namespace Mine
structure ExcGt (K : Frag) (CG : Addr) : Prop where
  gk : findIn K (.ref CG) "__getattr__" = some none
  hd : hasDictIn K CG = true
/-- within the handler -/
structure AtExc (L : Lng) (c : Sc) (env : Env) (F : List Addr) (f : Str) (ea : Addr) (mu : List Nat) (pi : Int) (h : Heap) : Prop where
  eo : EnvOK env c.kd F
  hk : c.kd f = some .local
  hf : (f == ("__debug__" : Str)) = false
  X : L.K.In h
  n : ∃ m, h.Ns env.locals m ∧ m f = some (.ref ea)
  e : ∃ da vs, h.get? ea = some { cls := .ref L.D.CG, dict := some da, data := .fields vs } ∧ Laid h da mu pi

section
variable {L : Lng} {c : Sc} {env : Env} {F σ : List Addr} {f : Str} {ea P : Addr} {mu : List Nat} {pi : Int} {A : Around} {E : Value → Shared → Prop}
/-- one of the exception's own attributes is read -/
theorem field_ok (Y : ExcCls L.K L.D.CG P) (Yg : ExcGt L.K L.D.CG) {x : Str} {s : Shared} {Q : Value → Shared → Prop} {p q : Pos} (a : AtExc L c env F f ea mu pi s.heap) (m0 : findIn L.K (.ref L.D.CG) x = some none)
    (k : ∀ g1 g2 t1 t2 t3 t4, ∃ v, getL x [⟨g1, .str (Str.ofString "message") t1, .str (tx mu) t3⟩, ⟨g2, .str (Str.ofString "spot") t2, .int pi t4⟩] = some (some v) ∧ handedIn v = true ∧ Q v { s with toks := s.toks + 1 }) : wpAny (model L.D.prog L.D.w) A (eval (.Attribute (.Name f p) x q) env) Q E s := by
  obtain ⟨m, n, v⟩ := a.n
  obtain ⟨da, vs, e1, g1, g2, t1, t2, t3, t4, j, e2⟩ := a.e
  obtain ⟨u, e3, e4, z⟩ := k g1 g2 t1 t2 t3 t4
  exact Attribute_name (nm_ok a.eo.kind n ((a.eo.kd f).trans a.hk) v a.hf (exc_get Y Yg.gk a.X (od := some (dictOf _ j)) ⟨e1, rfl, rfl, e2⟩ (findObj_own Yg.hd m0 rfl ((lookIn_dict ..).trans e3)) e4 z))

theorem mH_ok (Y : ExcCls L.K L.D.CG P) (Yg : ExcGt L.K L.D.CG) : ∀ (y : H) {e : Expr} {z : CV} {s : Shared} {Q : Value → Shared → Prop}, AtExc L c env F f ea mu pi s.heap → mH f y e = true → evH (.str mu) (.int pi) y = some z →
    (∀ val tk, Rp L.D s.heap σ F val z → Q val { s with toks := tk }) → wpAny (model L.D.prog L.D.w) A (eval e env) Q E s
  | .str u, e, z, s, Q, a, h, ez, q => onConstant_is (P := fun e => wpAny (model L.D.prog L.D.w) A (eval e env) Q E s) h fun w k pos h => onCstr_is (P := fun w => wpAny (model L.D.prog L.D.w) A (eval (.Constant w k pos) env) Q E s) h fun x h => by
    cases ez
    cases eq_of_beq h
    exact wpAny_Constant_str (q _ _ (by
      have r := Rp.str (D := L.D) (h := s.heap) (σ := σ) (F := F) x.cps.toList s.toks
      rw [tx_of] at r; exact r))
  | .msg, e, z, s, Q, a, h, ez, q => onAttribute_is (P := fun e => wpAny (model L.D.prog L.D.w) A (eval e env) Q E s) h fun b x p h => onName_is (P := fun b => wpAny (model L.D.prog L.D.w) A (eval (.Attribute b x p) env) Q E s) h fun y p' h => by
    cases ez
    cases eq_of_beq (and_tt h).1
    cases eq_of_beq (and_tt h).2
    exact field_ok Y Yg a Y.m0 fun g1 g2 t1 t2 t3 t4 => ⟨_, rfl, rfl, q _ _ (.str _ _)⟩
  | .spot, e, z, s, Q, a, h, ez, q => onAttribute_is (P := fun e => wpAny (model L.D.prog L.D.w) A (eval e env) Q E s) h fun b x p h => onName_is (P := fun b => wpAny (model L.D.prog L.D.w) A (eval (.Attribute b x p) env) Q E s) h fun y p' h => by
    cases ez
    cases eq_of_beq (and_tt h).1
    cases eq_of_beq (and_tt h).2
    exact field_ok Y Yg a Y.s0 fun g1 g2 t1 t2 t3 t4 => ⟨_, rfl, rfl, q _ _ (.int _ _)⟩
  | .div x n, e, z, s, Q, a, h, ez, q => onBinOp_is (P := fun e => wpAny (model L.D.prog L.D.w) A (eval e env) Q E s) h fun l op r pos h => onConstant_is (P := fun r => wpAny (model L.D.prog L.D.w) A (eval (.BinOp l op r pos) env) Q E s) (and_tt h).2 fun w k p h2 =>
    onCint_is (P := fun w => wpAny (model L.D.prog L.D.w) A (eval (.BinOp l op (.Constant w k p) pos) env) Q E s) h2 fun i h2 => by
      obtain ⟨y, ey, ez⟩ := Option.bind_eq_some_iff.mp ez
      obtain ⟨j, rfl, ez⟩ := CV.onInt_is none_some ez
      obtain ⟨g, e'⟩ := ofIf_is ez
      subst e'
      cases eq_of_beq (and_tt h).1
      cases eq_of_beq (and_tt h2).1
      refine wpAny_BinOp (mH_ok Y Yg x a (and_tt h2).2 ey fun va tk ra => wpAny_Constant_int ?_)
      obtain ⟨t, rfl⟩ := ra.view
      exact floordiv_int (Int.ne_of_gt g.1) (q _ _ (.int _ _)) (.inl (PyProof.noPylong_of_log2 (log_small g.1 g.2)))
  | .tup _, e, z, s, Q, a, h, ez, q => (ff_tt h).elim
theorem mHs_ok (Y : ExcCls L.K L.D.CG P) (Yg : ExcGt L.K L.D.CG) (pos : Pos) : ∀ (ys : List H) {es : List Expr} {zs : List CV} {s : Shared} {Q : List Value → Shared → Prop}, AtExc L c env F f ea mu pi s.heap → mHs f ys es = true → evHs (.str mu) (.int pi) ys = some zs →
    (∀ vals tk, zs.length = ys.length → Rps L.D s.heap σ F vals zs → Q vals { s with toks := tk }) → wpAny (model L.D.prog L.D.w) A (spliced (backTo pos (starEach es env))) Q E s
  | [], es, zs, s, Q, a, h, ez, q => on0_is (P := fun es => wpAny (model L.D.prog L.D.w) A (spliced (backTo pos (starEach es env))) Q E s) h fun _ => by
    cases ez
    exact spliced_none (q _ _ rfl .nil)
  | y :: ys, [], zs, s, Q, a, h, ez, q => (ff_tt h).elim
  | y :: ys, e :: es, zs, s, Q, a, h, ez, q => by
    obtain ⟨z, ey, ez⟩ := Option.bind_eq_some_iff.mp ez
    obtain ⟨zs', eys, e'⟩ := Option.map_eq_some_iff.mp ez
    exact spliced_more (mH_ok Y Yg y a (and_tt (and_tt h).1).2 ey fun va tk ra => mHs_ok Y Yg pos ys (s := { s with toks := tk }) a (and_tt h).2 eys fun vals tk' el rs => q _ tk' (e' ▸ congrArg Nat.succ el) (e' ▸ .cons ra rs)) (star_of ((Bool.not_eq_true' _).mp (and_tt (and_tt h).1).1) es env)

theorem StepL.fly {Lc : Addr} {Fx σ' : List Addr} {h h₀ h' : Heap} (S : StepL Lc F σ h σ' h₀) (T : Step Fx σ' h₀ σ' h') (i1 : ∀ a ∈ F, a ∈ Fx) (i2 : ∀ a ∈ Fx, a ∈ F ∨ h.get? a = none) : StepL Lc F σ h σ' h' :=
  ⟨S.pre, S.fresh, fun a o e m1 m2 => T.keep a o (S.keep a o e m1 m2) (S.notin e m1) fun m => (i2 a m).elim m2 fun z => none_some (z.symm.trans e), fun L' hL ne m n => T.fr L' (i1 _ hL) m (S.fr L' hL ne m n), fun L' hL o e =>
    let ⟨o1, e1, f1⟩ := S.frk L' hL o e
    let ⟨o2, e2, f2⟩ := T.frk L' (i1 _ hL) o1 e1
    ⟨o2, e2, f1.trans f2⟩⟩
theorem fun_plain {env : Env} (h : env.scope.kind = .function) : (env.scope.kind == .class || (env.scope.kind == .module && env.locals != env.globals)) = false := by rw [h]; rfl

theorem try_is {N : Nm} {ys : List S} {hh : H} {st : Stmt} {P : H → Stmt → Prop} (h : mS N c (.try_ ys hh) st = true) (k : ∀ hs body y yp n es k tp rp hp pos, mSs N c ys body = true → y = ("GrammarFault" : Str) → isGl c.kd y = true → c.kd n = some .local → mHs n hs es = true → (n == ("__debug__" : Str)) = false → hs.length ≤ 1000 →
    P (.tup hs) (.Try body [.ExceptHandler (some (.Name y yp)) (some n) [.Return (some (.Tuple es k tp)) rp] hp] [] [] pos)) : P hh st := by
  refine onSTry_is (P := fun st => P hh st) h fun body ds oe fb pos h => ?_
  refine on0_is (P := fun oe => P hh (.Try body ds oe fb pos)) h fun h => ?_
  refine on0_is (P := fun fb => P hh (.Try body ds [] fb pos)) h fun h => ?_
  refine on1_is (P := fun ds => P hh (.Try body ds [] [] pos)) h fun d h => ?_
  obtain ⟨t, n, bd, hp⟩ := d
  refine onSome_is (P := fun t => P hh (.Try body [.ExceptHandler t n bd hp] [] [] pos)) h fun t h => ?_
  refine onName_is (P := fun t => P hh (.Try body [.ExceptHandler (some t) n bd hp] [] [] pos)) h fun y yp h => ?_
  refine onSome_is (P := fun n => P hh (.Try body [.ExceptHandler (some (.Name y yp)) n bd hp] [] [] pos)) h fun n h => ?_
  refine on1_is (P := fun bd => P hh (.Try body [.ExceptHandler (some (.Name y yp)) (some n) bd hp] [] [] pos)) h fun r h => ?_
  refine onSReturn_is (P := fun r => P hh (.Try body [.ExceptHandler (some (.Name y yp)) (some n) [r] hp] [] [] pos)) h fun v rp h => ?_
  refine onSome_is (P := fun v => P hh (.Try body [.ExceptHandler (some (.Name y yp)) (some n) [.Return v rp] hp] [] [] pos)) h fun v h => ?_
  refine onTuple_is (P := fun v => P hh (.Try body [.ExceptHandler (some (.Name y yp)) (some n) [.Return (some v) rp] hp] [] [] pos)) h fun es j tp h => ?_
  cases hh with
  | tup hs =>
    obtain ⟨h1, h⟩ := and_tt h
    obtain ⟨h2, h⟩ := and_tt h
    obtain ⟨h3, h⟩ := and_tt h
    obtain ⟨h4, h⟩ := and_tt h
    obtain ⟨h5, h⟩ := and_tt h
    exact k hs body y yp n es j tp rp hp pos h1 (eq_of_beq h2) h3 (eq_of_beq h4) h5 ((Bool.not_eq_true' _).mp (and_tt h).1) (of_decide_eq_true (and_tt h).2)
  | _ => exact (ff_tt h).elim

theorem SndS.try_ (Z : Fx L) (hX : ExcShape L.K L.D.CG P) (Y : ExcCls L.K L.D.CG P) (Yg : ExcGt L.K L.D.CG) (hg : L.mg "GrammarFault" = some (.ref L.D.CG)) (ys : List S) (hh : H) (hb : SndB L ys) : SndS L (.try_ ys hh) := fun c st hn h =>
  try_is (P := fun hh st => SVal L c (.try_ ys hh) st) h fun hs body y yp n es k tp rp hp pos h1 h2 h3 h4 h5 h6 h7 => ⟨fun {x σ₀ s₀ loc cs σ s} a Q E p0 => by
    refine wpAny_Try_except (hb hn h1 a _ _ ?_)
    have p0 : PostF L.D c.nm x σ₀ s₀ E (match exSs L.G L.C ys (loc, cs) with
      | .ok f s => .ok f s
      | .ex m p s => got (evH m p (.tup hs)) fun v => .ok (.ret v) s
      | .no => .no) (FK L.D x.F Q) := p0
    cases q : exSs L.G L.C ys (loc, cs) with
    | no => rw [q] at p0; exact p0.elim
    | ok fl st =>
      rw [q] at p0
      intro σ' s' W S l fl' r
      have z := p0 σ' s' W S l fl' r
      cases r with
      | next => exact wpAny_execs_nil z
      | brk => exact z
      | ret _ => exact z
    | ex m z st =>
      rw [q] at p0
      intro e σ' h₀ s' Fx i1 i2 W S x0 l0
      refine note_ok a.room.frames a.blk W x0 fun s2 l2 x2 _ => flight_ok W x2 fun s3 l3 x3 => ?_
      obtain ⟨ea, da, vs, rfl, i⟩ := id x3.obj
      obtain ⟨mu, pi, rfl, rfl, _⟩ := i.laid
      have W3 := W.keep x3.fly.step x3.fly.cells
      refine wpAny_handleBy_cons (codeAny_handlers_test ?_) (fun q => nomatch q)
      refine Name_function_global a.eo.kind ((a.eo.kd y).trans (eq_of_beq (and_tt h3).1)) (loadGlobal_global (mg := L.mg) (a.eo.glob.symm ▸ Z.g.keeps W3.base) ((congrArg L.mg h2).trans hg) ?_) ((Bool.not_eq_true' _).mp (and_tt h3).2)
      refine excMatches_own hX (Z.X.keeps W3.base) i.obj rfl (codeAny_handlers_suite_as (flight_ok W x3 fun s4 l4 x4 => ?_))
      obtain ⟨ea', da', vs', e', j⟩ := x4.obj
      cases e'
      obtain ⟨mu', pi', em, ep, ld⟩ := j.laid
      cases em
      cases ep
      have W4 := W.keep x4.fly.step x4.fly.cells
      have WF := W4.less i1 a.wd.inF
      obtain ⟨outer, ho⟩ := a.blk.head
      obtain ⟨_, Lc, m4, eL, n4⟩ := W4.frs x.env (ho ▸ List.mem_cons_self)
      cases a.blk.frame.symm.trans eL
      have neL : ∀ {a : Addr}, h₀.get? a = none → a ≠ x.env.locals := fun z q => W.exF _ (i1 _ a.eo.loc) (q ▸ z)
      have kd := (a.eo.kd n).trans (h4)
      refine wpAny_storeName_local kd n4 (fun hp5 n5 hs5 => ?_) (fun_plain a.eo.kind)
      have S5 : StepL x.env.locals x.F σ' s4.heap σ' hp5 := StepL.store hs5 a.eo.loc n4 n5
      have W5 := WF.keepL S5 (fun d hd o e => (hs5.2 d fun z => WF.apart d hd (z ▸ a.eo.loc)).trans e) n5
      have A5 : AtExc L c x.env x.F n ea mu pi hp5 := ⟨a.eo, h4, h6, Z.X.keeps W5.base, ⟨_, n5, if_pos rfl⟩, da', vs', (hs5.2 _ (neL j.newE)).trans j.obj, ld.keep fun o e => (hs5.2 _ (neL j.newD)).trans e⟩
      have p0 : PostF L.D c.nm x σ₀ s₀ E (got ((evHs (.str mu) (.int pi) hs).map .tup) fun v => .ok (.ret v) st) (FK L.D x.F Q) := p0
      refine PostF.got p0 fun zt ez p0 => ?_
      obtain ⟨zs, ezs, e'⟩ := Option.map_eq_some_iff.mp ez
      refine wpAny_execs_cons (wpAny_Return_some (Tuple_ (mHs_ok (σ := σ') Y Yg tp hs A5 h5 ezs fun vals tk el rs => ?_)))
      refine wpAny_newObj_type ?_ (small_ok rs.length (el ▸ Nat.le_trans h7 (by decide)))
      refine wpAny_nameGoes kd (n5.push _) (fun_plain a.eo.kind) fun h8 m8 n8 hs8 => ?_
      have W7 := W5.push { cls := .type "tuple", data := .seq vals.toArray }
      have S7 := Step.push (F := x.F) (σ := σ') (h := hp5) { cls := .type "tuple", data := .seq vals.toArray }
      have S8 : StepL x.env.locals x.F σ' (hp5.push { cls := .type "tuple", data := .seq vals.toArray }) σ' h8 := StepL.store hs8 a.eo.loc (n5.push _) n8
      have W8 := W7.keepL S8 (fun d hd o e => (hs8.2 d fun z => W7.apart d hd (z ▸ a.eo.loc)).trans e) n8
      have r7 : Rp L.D (hp5.push { cls := .type "tuple", data := .seq vals.toArray }) σ' x.F (.ref hp5.objs.size) (.tup zs) := .tup ⟨_, Heap.get?_push_size _ rfl, rfl, 0, rfl⟩ W5.notσ W5.notF (rs.step S7)
      have ll := (l0.trans l2).trans (l3.trans l4)
      refine p0 σ' { s4 with heap := h8, toks := tk + 1 } W8 ⟨((S.fly x4.fly.step i1 i2).trans S5).trans ((S7.toL _).trans S8), ll.1, ll.2, ll.3⟩ trivial _ ?_
      rw [← e']
      exact .ret (r7.stepL S8)⟩
end
end Mine
end

section
open PySem PySem.W PyProof.Rows PySem.Spec PySem.Calls
namespace Mine
/-- a name that a namespace of the world does not have -/
theorem ns_none {K : Frag} {h : Heap} {L : Addr} {mg : Str → Option Value} {x : Str} (X : K.In h) (G : h.Ns L mg) (e : nsIn K L x = some none) : mg x = none := by
  obtain ⟨o, es, ep, ho, hd, _, hf⟩ := G
  unfold nsIn at e
  split at e
  · rename_i c d es' n' sl q
    cases ho.symm.trans (X _ _ q)
    cases hd
    rw [← hf]
    unfold nsFind findBy
    rw [← Array.find?_toList]
    split at e
    · exact (none_some (Option.some.inj e).symm).elim
    · rename_i he
      rw [he]; rfl
  · cases e

/-- the datum of a value that is no reference -/
noncomputable def cvA : Value → Option CV
  | .none => some .none
  | .bool b => some (.bool b)
  | .int i _ => some (.int i)
  | .str x _ => some (.str x.cps.toList)
  | _ => none
/-- a tuple of the world -/
noncomputable def seqIn (K : Frag) (v : Value) : Option (List Value) := match v with
  | .ref a => (match K.lookup a with
    | some ⟨c, _, .seq items _, _⟩ => if c = .type "tuple" then some items.toList else none
    | _ => none)
  | _ => none
noncomputable def cvs (f : Value → Option CV) : List Value → Option (List CV)
  | [] => some []
  | v :: r => (f v).bind fun x => (cvs f r).map (x :: ·)
/-- the datum of a value of the world, as the fragment shows it (dicts apart) -/
noncomputable def cvK (K : Frag) : Nat → Value → Option CV
  | 0, v => cvA v
  | n + 1, v => match seqIn K v with
    | none => cvA v
    | some l => (cvs (cvK K n) l).map .tup
section
variable {D : Gd} {K : Frag} {h : Heap} {σ F : List Addr}
theorem cvA_ok {v : Value} {x : CV} (e : cvA v = some x) : Rp D h σ F v x := by
  cases v with
  | none => cases e; exact .none
  | bool b => cases e; exact .bool b
  | int i t => cases e; exact .int i t
  | str s t =>
    cases e
    have r := Rp.str (D := D) (h := h) (σ := σ) (F := F) s.cps.toList t
    rw [tx_of] at r; exact r
  | _ => exact (none_some e).elim
theorem seqIn_ok {v : Value} {l : List Value} (X : K.In h) (e : seqIn K v = some l) : ∃ a, v = .ref a ∧ IsTup h a l.toArray := by
  unfold seqIn at e
  split at e
  · split at e
    · rename_i hl
      split at e
      · rename_i hc
        cases e; cases hc
        exact ⟨_, rfl, _, X _ _ hl, rfl, _, by rw [Array.toArray_toList]⟩
      · exact (none_some e).elim
    · exact (none_some e).elim
  · exact (none_some e).elim
theorem cvs_ok {f : Value → Option CV} (k : ∀ v x, f v = some x → Rp D h σ F v x) : ∀ {vs : List Value} {xs : List CV}, cvs f vs = some xs → Rps D h σ F vs xs
  | [], _, e => by cases e; exact .nil
  | v :: vs, _, e => by
    obtain ⟨x, e1, e⟩ := Option.bind_eq_some_iff.mp e
    obtain ⟨ys, e2, e⟩ := Option.map_eq_some_iff.mp e
    subst e
    exact .cons (k v x e1) (cvs_ok k e2)
theorem cvK_ok (X : K.In h) : ∀ (n : Nat) (v : Value) (x : CV), cvK K n v = some x → Rp D h [] [] v x
  | 0, _, _, e => cvA_ok e
  | n + 1, v, x, e => by
    unfold cvK at e
    cases q : seqIn K v with
    | none => rw [q] at e; exact cvA_ok e
    | some l =>
      rw [q] at e
      obtain ⟨a, rfl, t⟩ := seqIn_ok X q
      obtain ⟨ys, e2, e⟩ := Option.map_eq_some_iff.mp e
      subst e
      exact .tup t List.not_mem_nil List.not_mem_nil (cvs_ok (cvK_ok X n) e2)
end

/-- a dict of texts and ints -/
noncomputable def sameD : List DictEntry → List (List Nat × Int) → Bool
  | [], [] => true
  | e :: r, (k, i) :: q => (match e.key with
      | .str x _ => x.cps.toList == k
      | _ => false) && ((match e.val with
      | .int j _ => i == j
      | _ => false) && sameD r q)
  | _, _ => false
theorem sameD_ok : ∀ {l : List DictEntry} {es : List (List Nat × Int)}, sameD l es = true → ∀ k, match lookD es k with
    | some i => ∃ t, (l.find? fun e => Value.isStrOf (tx k) e.key).map (·.val) = some (.int i t)
    | none => (l.find? fun e => Value.isStrOf (tx k) e.key).map (·.val) = none
  | [], [], _, k => rfl
  | ⟨hs, ky, vl⟩ :: r, (a, i) :: q, h, k => by
    obtain ⟨h1, hr⟩ := and_tt h
    obtain ⟨h2, hq⟩ := and_tt hr
    cases ky with
    | str x t =>
      cases vl with
      | int j u =>
        cases eq_of_beq h1
        cases eq_of_beq h2
        unfold lookD
        by_cases z : x.cps.toList = k
        · rw [if_pos z, List.find?_cons_of_pos (p := fun e : DictEntry => Value.isStrOf (tx k) e.key) (a := ⟨hs, .str x t, .int i u⟩) (show (x == tx k) = true from (beq_iff_eq (a := x)).mpr (z ▸ (tx_of x).symm))]
          exact ⟨u, rfl⟩
        · rw [if_neg z, List.find?_cons_of_neg (p := fun e : DictEntry => Value.isStrOf (tx k) e.key) (a := ⟨hs, .str x t, .int i u⟩) (show ¬ (x == tx k) = true from fun w => z (congrArg (fun y : Str => y.cps.toList) ((beq_iff_eq (a := x)).mp w)))]
          exact sameD_ok hq k
      | _ => exact (ff_tt h2).elim
    | _ => exact (ff_tt h1).elim
  | [], _ :: _, h, _ => nomatch h
  | _ :: _, [], h, _ => nomatch h
/-- the keys' hashes, as the world has them -/
noncomputable def fixE (P : Params) (e : DictEntry) : DictEntry := match e.key with
  | .str x t => ⟨PyData.keyHash P x, .str x t, e.val⟩
  | _ => ⟨0, .str (tx []) 0, .none⟩
theorem keysLit_of {P : Params} : ∀ {l : List DictEntry}, l.map (fixE P) = l → KeysLit P l
  | [], _ => trivial
  | ⟨hs, ky, vl⟩ :: r, h => by
    obtain ⟨h1, h2⟩ := List.cons.inj h
    refine ⟨?_, keysLit_of h2⟩
    cases ky with
    | str x t => exact ⟨x, t, rfl, (congrArg DictEntry.hash h1).symm⟩
    | _ => exact nomatch congrArg DictEntry.key h1
theorem dct_ok {D : Gd} {K : Frag} {h : Heap} (X : K.In h) {a : Addr} {l : List DictEntry} {n : Nat} {es : List (List Nat × Int)} (hl : K.lookup a = some ⟨.type "dict", none, .dict l.toArray n, #[]⟩) (hk : l.map (fixE D.w.params) = l) (hs : sameD l es = true) (hm : (a == sysModules) = false) : Rp D h [] [] (.ref a) (.dct es) :=
  .dct (mapOf_K (prog := D.prog) (w := D.w) X hl (keysLit_of hk)) hm (fun k => by
    have := sameD_ok hs k
    unfold findBy
    rw [List.find?_toArray]
    exact this) List.not_mem_nil List.not_mem_nil

noncomputable def fnIn (K : Frag) (a : Addr) : Option FuncData := match K.lookup a with
  | some ⟨_, _, .func fd, _⟩ => some fd
  | _ => none
noncomputable def fdAt (K : Frag) (a : Addr) : FuncData := (fnIn K a).getD default
noncomputable def stOf (fd : FuncData) : Option (List Stmt) := match fd.body with
  | .stmts b => some b
  | _ => none
noncomputable def bodyOf (fd : FuncData) : List Stmt := (stOf fd).getD []
noncomputable def defB (K : Frag) (a : Addr) (fd : FuncData) : Bool := (fnIn K a).isSome && (codeIn K fd.code fd.qualname && ((stOf fd).isSome && (fd.scope.kind == .function && (!fd.scope.isCoroutine && (!fd.scope.isGenerator && (fd.globals == mainGlobals && fd.builtins == builtinsNs))))))
theorem of_not {b : Bool} (h : (!b) = true) : b = false := (Bool.not_eq_true' _).mp h
theorem def_of {D : Gd} {K : Frag} {a : Addr} (X : K.In D.base) (h : defB K a (fdAt K a) = true) : DefAt D a (fdAt K a) (bodyOf (fdAt K a)) := by
  obtain ⟨h1, h⟩ := and_tt h
  obtain ⟨h2, h⟩ := and_tt h
  obtain ⟨h3, h⟩ := and_tt h
  obtain ⟨h4, h⟩ := and_tt h
  obtain ⟨h5, h⟩ := and_tt h
  obtain ⟨h6, h⟩ := and_tt h
  refine ⟨?_, codeRec_of X h2, ?_, eq_of_beq h4, of_not h5, of_not h6, eq_of_beq (and_tt h).1, eq_of_beq (and_tt h).2⟩
  · obtain ⟨fd, e⟩ := Option.isSome_iff_exists.mp h1
    rw [show fdAt K a = fd from congrArg (·.getD default) e]
    unfold fnIn at e
    split at e
    · rename_i hl
      cases e
      exact ⟨_, X _ _ hl, rfl⟩
    · exact (none_some e).elim
  · obtain ⟨b, e⟩ := Option.isSome_iff_exists.mp h3
    rw [show bodyOf (fdAt K a) = b from congrArg (·.getD []) e]
    unfold stOf at e
    split at e
    · rename_i hl
      cases e
      exact hl
    · exact (none_some e).elim
/-- where a def stands, as its name reaches it -/
noncomputable def refOf (r : Option (Option Value)) : Addr := match r with
  | some (some (.ref a)) => a
  | _ => 0
noncomputable def faOf (K : Frag) (CW : Addr) (N : Nm) (f : Nat) : Addr := match N.fn[f]? with
  | some x => refOf (if N.ms.contains f then findIn K (.ref CW) x else nsIn K mainGlobals x)
  | none => 0
/-- the default values of a def -/
noncomputable def dvAt (K : Frag) (fd : FuncData) : List Value := (seqIn K fd.defaults).getD []
noncomputable def rowOf (K : Frag) (a : Addr) (nm : List Str) : FnRow := ⟨a, fdAt K a, bodyOf (fdAt K a), nm, dvAt K (fdAt K a)⟩
noncomputable def chk (K : Frag) (N : Nm) (d : Fn) (r : FnRow) : Bool := defB K r.a r.fd && (r.fd.scope.names.all (fun x => x.2 != .cell) && (decide r.nm.Nodup && ((r.nm.take d.np).all (fun x => r.fd.scope.names.lookup x == some .local) && (mSs N r.sc d.body r.body && (decide (d.np ≤ r.nm.length) && keepIn K (.ref r.a))))))
section
variable {L : Lng}
theorem fnOK_of {d : Fn} {a : Addr} {nm : List Str} (X : L.K.In L.D.base) (h : chk L.K L.N d (rowOf L.K a nm) = true) (hd : cvs cvA (dvAt L.K (fdAt L.K a)) = some d.dflt)
    (hb : ∀ vals, vals.length ≤ d.np → d.np ≤ vals.length + d.dflt.length → ∀ S, peek L.K S (bindArgs (fdAt L.K a) ⟨vals, []⟩) = some ((nm.take d.np).zip (vals ++ (dvAt L.K (fdAt L.K a)).drop (d.dflt.length + vals.length - d.np)))) : FnOK L d (rowOf L.K a nm) := by
  obtain ⟨h1, h⟩ := and_tt h
  obtain ⟨h2, h⟩ := and_tt h
  obtain ⟨h3, h⟩ := and_tt h
  obtain ⟨h4, h⟩ := and_tt h
  obtain ⟨h5, h⟩ := and_tt h
  exact ⟨⟨def_of X h1, of_decide_eq_true h3, h5, (and_tt h).2⟩, no_cell h2, fun x m => eq_of_beq (List.all_eq_true.mp h4 x m), of_decide_eq_true (and_tt h).1, fun _ _ _ => cvs_ok (fun _ _ => cvA_ok) hd, fun s vals st l1 l2 => bindsP (X.keeps st) (hb vals l1 l2)⟩
/-- the def of one parameter in a cell -/
structure CloOK (K : Frag) (N : Nm) (d : Fn) (r : FnRow) (w : Str) : Prop where
  dat : defB K r.a r.fd = true
  nmN : r.nm.Nodup
  mtch : mSs N r.sc d.body r.body = true
  keep : keepIn K (.ref r.a) = true
  clos : r.fd.closure = []
  nm0 : r.nm[0]? = some w
  par : r.fd.scope.names.lookup w = some .cell
  cell : ∀ n, ((cellsFrom n r.fd.scope.names []).lookup w).isSome = true
  np : d.np = 1
  dflt : d.dflt = []
  binds : ∀ v, bindArgs r.fd ⟨[v], []⟩ = pure [(w, v)]
theorem fnOKC_of {d : Fn} {a : Addr} {nm : List Str} {w : Str} (X : L.K.In L.D.base) (c : CloOK L.K L.N d (rowOf L.K a nm) w) : FnOKC L d (rowOf L.K a nm) w :=
  ⟨⟨def_of X c.dat, c.nmN, c.mtch, c.keep⟩, c.clos, c.nm0, c.par, c.cell, ⟨c.np, c.dflt⟩, c.binds⟩

/-- the table of the defs -/
noncomputable def tabRow (K : Frag) (CW : Addr) (a : Addr) (x : Str) : Bool → Bool
  | true => findIn K (.ref CW) x == some (some (.ref a)) && (typeIn K (.ref a) == some (.type "function") && (!(x == attrNm 0) && (!(x == attrNm 1) && !(x == attrNm 2))))
  | false => nsIn K mainGlobals x == some (some (.ref a))
noncomputable def tabAt (K : Frag) (CW : Addr) (N : Nm) (f : Nat) : Bool := onSome N.fn[f]? fun x => keepIn K (.ref (faOf K CW N f)) && tabRow K CW (faOf K CW N f) x (N.ms.contains f)
structure TabOK (K : Frag) (CW : Addr) (N : Nm) : Prop where
  rows : (List.range N.fn.length).all (tabAt K CW N) = true
  i1 : N.fn[initIx]? = some "__init__"
  i2 : N.ms.contains initIx = true
  w1 : nsIn K mainGlobals "Words" = some (some (.ref CW))
  w2 : keepIn K (.ref CW) = true
theorem TabOK.at {K : Frag} {CW : Addr} {N : Nm} (t : TabOK K CW N) {f : Nat} {x : Str} (e : N.fn[f]? = some x) : keepIn K (.ref (faOf K CW N f)) = true ∧ tabRow K CW (faOf K CW N f) x (N.ms.contains f) = true := by
  have h := List.all_eq_true.mp t.rows f (List.mem_range.mpr (List.getElem?_eq_some_iff.mp e).1)
  unfold tabAt at h
  rw [e] at h
  exact and_tt h
theorem fnTab_of (X : L.K.In L.D.base) (G : L.D.base.Ns mainGlobals L.mg) (ef : L.fa = faOf L.K L.D.CW L.N) (t : TabOK L.K L.D.CW L.N) : FnTab L := by
  refine ⟨fun f x e m => ?_, fun f x e m => ?_, fun f x e => ef ▸ (t.at e).1, ⟨t.i1, t.i2⟩, mg_of X G t.w1, t.w2⟩
  · have h := (t.at e).2
    rw [m] at h
    exact ef ▸ mg_of X G (eq_of_beq h)
  · have h := (t.at e).2
    rw [m] at h
    obtain ⟨h1, h⟩ := and_tt h
    obtain ⟨h2, h⟩ := and_tt h
    refine ef ▸ ⟨eq_of_beq h1, eq_of_beq h2, fun n => ?_⟩
    match n with
    | 0 => exact of_not (and_tt h).1
    | 1 => exact of_not (and_tt (and_tt h).2).1
    | n + 2 => exact of_not (and_tt (and_tt h).2).2

/-- the text's own globals, dicts apart: dx is the dict's place -/
structure GlOK (K : Frag) (gn : List Str) (G : List CV) (dx : Nat) : Prop where
  vals : ((List.range gn.length).map fun n => if n = dx then none else gn[n]?.bind fun x => (nsIn K mainGlobals x).bind fun o => o.bind (cvK K 4)) = (List.range gn.length).map fun n => if n = dx then none else G[n]?
  blts : (bltRows.map fun p => (nsIn K mainGlobals p.1, bootBuiltins p.1)) = bltRows.map fun p => (some none, some p.2)
  big : (K.lookup 57).isSome = true
theorem no_name : bltRows.all (fun p => p.1 != ("__name__" : Str)) = true := by decide +kernel
theorem fx_of {dx : Nat} (X : L.K.In L.D.base) (Gg : L.D.base.Ns mainGlobals L.mg) (Gb : L.D.base.Ns builtinsNs L.mb) (lim : L.D.base.NoLimit) (hb : ∀ x : Str, x ≠ "__name__" → L.mb x = bootBuiltins x) (g : GlOK L.K L.N.gn L.G dx)
    (h3 : ∀ x cv, L.N.gn[dx]? = some x → L.G[dx]? = some cv → ∃ v, nsIn L.K mainGlobals x = some (some v) ∧ Rp L.D L.D.base [] [] v cv) : Fx L := by
  refine ⟨X, Gg, Gb, lim, ?_, fun x v hx => ?_, fun n x cv e1 e2 => ?_⟩
  · obtain ⟨o, ho⟩ := Option.isSome_iff_exists.mp g.big
    exact Nat.lt_trans (show 1 < 57 by decide) (Heap.lt_size (X _ _ ho))
  · have e := Prod.mk.inj (List.map_inj_left.mp g.blts _ hx)
    exact ⟨ns_none X Gg e.1, (hb _ (bne_iff_ne.mp (List.all_eq_true.mp no_name _ hx))).trans e.2⟩
  · by_cases z : n = dx
    · subst z
      obtain ⟨v, e3, r⟩ := h3 x cv e1 e2
      exact ⟨v, mg_of X Gg e3, r⟩
    · have e := List.map_inj_left.mp g.vals n (List.mem_range.mpr (List.getElem?_eq_some_iff.mp e1).1)
      rw [if_neg z, if_neg z, e1, e2, Option.bind_some] at e
      obtain ⟨o, e3, e⟩ := Option.bind_eq_some_iff.mp e
      obtain ⟨v, rfl, e⟩ := Option.bind_eq_some_iff.mp e
      exact ⟨v, mg_of X Gg e3, cvK_ok X _ _ _ e⟩
end
end Mine
end

section
open PySem PySem.W PyProof.Rows PySem.Spec PySem.Calls
namespace Mine
noncomputable def fAt (f : Nat) : Fn := funs.getD f default
noncomputable def nmAt (f : Nat) : List Str := nms.getD f []
noncomputable def faAt (K : Frag) (CW : Addr) (f : Nat) : Addr := faOf K CW nmF f
noncomputable def dvOf (K : Frag) (CW : Addr) (f : Nat) : List Value := dvAt K (fdAt K (faAt K CW f))
noncomputable def dueOf (m : Nat) : List Nat := (List.range 54).filter fun f => f != 49 && (decide (m ≤ (fAt f).np) && decide ((fAt f).np ≤ m + (fAt f).dflt.length))
theorem fs_len : funs.length = 54 := by decide +kernel
theorem np_le : ∀ f < 54, (fAt f).np ≤ 6 := by decide +kernel

noncomputable def levA (K : Frag) : Addr := refOf (nsIn K mainGlobals "LEVELS")
noncomputable def levO (K : Frag) : List DictEntry × Nat := match K.lookup (levA K) with
  | some ⟨_, _, .dict es n, _⟩ => (es.toList, n)
  | _ => ([], 0)
noncomputable def levD : List (List Nat × Int) := match (globs[11]? : Option CV) with
  | some (CV.dct es) => es
  | _ => []
noncomputable def clAt (K : Frag) (C : Addr) : ClassData := (clsIn K C).getD default
noncomputable def slAt (K : Frag) (C : Addr) (i : Nat) : Option Value := match K.lookup C with
  | some o => (o.slots[i]?).join
  | none => none
noncomputable def ddAt (K : Frag) (C : Addr) : Option Addr := match K.lookup C with
  | some o => o.dict
  | none => none
theorem at_names {P : Str → Prop} (h0 : P "rows") (h1 : P "at") (h2 : P "deep") : ∀ n, P (attrNm n)
  | 0 => h0
  | 1 => h1
  | _ + 2 => h2
theorem cls_of {K : Frag} {C : Addr} (a : findIn K (.ref C) "__getattribute__" = some (some (.builtin "object.__getattribute__"))) (b : findIn K (.ref C) "__getattr__" = some none) (c : findIn K (.ref C) "__setattr__" = some (some (.builtin "object.__setattr__"))) (d : hasDictIn K C = true) (e : plainOver K C = true) (f : makesIn K C = true)
    (g0 : findIn K (.ref C) "rows" = some none) (g1 : findIn K (.ref C) "at" = some none) (g2 : findIn K (.ref C) "deep" = some none) (t0 : takerIn K C "rows" = some none) (t1 : takerIn K C "at" = some none) (t2 : takerIn K C "deep" = some none) : ClsOK K C :=
  ⟨a, b, c, d, e, f, at_names (P := fun x => findIn K (.ref C) x = some none) g0 g1 g2, at_names (P := fun x => takerIn K C x = some none) t0 t1 t2⟩
theorem exc_of {K : Frag} {C P : Addr} (a : clsIn K C = some (clAt K C)) (b : (clAt K C).hasDict = true) (c : (clAt K C).mro = [.ref C, .ref P, .type "Exception", .type "BaseException", .type "object"]) (d : findIn K (.ref C) "__setattr__" = some (some (.builtin "object.__setattr__")))
    (e : findIn K (.ref C) "__getattribute__" = some (some (.builtin "BaseException.__getattribute__"))) (f : findIn K (.ref C) "message" = some none) (g : findIn K (.ref C) "spot" = some none) : ExcCls K C P := ⟨⟨_, a, b, c⟩, d, e, f, g⟩
/-- the checks that the world has to pass -/
structure Checks (K : Frag) (Pm : Params) (CW CG P fI : Addr) (ww : Str) : Prop where
  tab : TabOK K CW nmF
  defs : ((List.range 54).all fun f => f == 49 || chk K nmF (fAt f) (rowOf K (faAt K CW f) (nmAt f))) = true
  dfl : ((List.range 54).map fun f => cvs cvA (dvOf K CW f)) = (List.range 54).map fun f => some (fAt f).dflt
  bnd : ∀ vs : List Value, vs.length ≤ 6 → ∀ S, (dueOf vs.length).map (fun f => peek K S (bindArgs (fdAt K (faAt K CW f)) ⟨vs, []⟩)) = (dueOf vs.length).map fun f => some (((nmAt f).take (fAt f).np).zip (vs ++ (dvOf K CW f).drop ((fAt f).dflt.length + vs.length - (fAt f).np)))
  clo : CloOK K nmF (fAt 49) (rowOf K (faAt K CW 49) (nmAt 49)) ww
  cls : ClsOK K CW
  shp : K.lookup CG = some (excClassObj (clAt K CG).name (clAt K CG).qualname CG (clAt K CG).ns (clAt K CG).bases (.ref P :: [.type "Exception", .type "BaseException", .type "object"]) (clAt K CG).hasDict (clAt K CG).slotNames (clAt K CG).subclasses (clAt K CG).abstract (clAt K CG).collection (ddAt K CG) (slAt K CG 0) (slAt K CG 1) (slAt K CG 2) (slAt K CG 3) (slAt K CG 5) "Exception.__new__")
  exc : ExcCls K CG P
  gt : ExcGt K CG
  exi : findIn K (.ref CG) "__init__" = some (some (.ref fI))
  ext : typeIn K (.ref fI) = some (.type "function")
  exk : keepIn K (.ref CG) = true
  gf : nsIn K mainGlobals "GrammarFault" = some (some (.ref CG))
  nex : nsIn K mainGlobals "Exception" = some none
  bex : bootBuiltins "Exception" = some (.type "Exception")
  fex : findCls K (.type "Exception") (.type "type") "__init__" = some (.val (.builtin "Exception.__init__"))
  dat : defB K fI (fdAt K fI) = true
  ini : InitOK K (fdAt K fI) (bodyOf (fdAt K fI))
  gl : GlOK K nmF.gn globs 11
  l1 : nsIn K mainGlobals "LEVELS" = some (some (.ref (levA K)))
  l2 : K.lookup (levA K) = some ⟨.type "dict", none, .dict (levO K).1.toArray (levO K).2, #[]⟩
  l3 : (levO K).1.map (fixE Pm) = (levO K).1
  l4 : sameD (levO K).1 levD = true
  l5 : (levA K == sysModules) = false
  g1 : nmF.gn[11]? = some ("LEVELS" : Str)
  g2 : globs[11]? = some (CV.dct levD)

section
variable {L : Lng} {P fI : Addr} {ww : Str}
theorem world_ok {D : Gd} {K : Frag} {mg mb : Str → Option Value} (X : K.In D.base) (Gg : D.base.Ns mainGlobals mg) (Gb : D.base.Ns builtinsNs mb) (lim : D.base.NoLimit) (hb : ∀ x : Str, x ≠ "__name__" → mb x = bootBuiltins x)
    (c : Checks K D.w.params D.CW D.CG P fI ww) (b : Nat) : OSnds ⟨D, K, nmF, globs, callB funs globs b, b, mg, mb, faAt K D.CW⟩ := by
  have shp : ExcShape K D.CG P := ⟨_, _, _, _, _, _, _, _, _, _, _, _, _, _, _, c.shp⟩
  have Z : ∀ C b, Fx ⟨D, K, nmF, globs, C, b, mg, mb, faAt K D.CW⟩ := fun C b => fx_of X Gg Gb lim hb c.gl fun x cv e1 e2 => by
    cases c.g1.symm.trans e1
    cases c.g2.symm.trans e2
    exact ⟨_, c.l1, dct_ok X c.l2 c.l3 c.l4 c.l5⟩
  refine osnd_all (L := ⟨D, K, nmF, globs, fun _ _ _ => .no, 0, mg, mb, faAt K D.CW⟩) (P := funs) Z c.cls (fun C b => fnTab_of X Gg rfl c.tab) (fun C b => ?_) (fun f d e => ?_) b
  · have X0 : ExcFx ⟨D, K, nmF, globs, C, b, mg, mb, faAt K D.CW⟩ P fI (fdAt K fI) (bodyOf (fdAt K fI)) := ⟨shp, c.exc, def_of X c.dat, c.ini, c.exi, c.ext, ⟨ns_none X Gg c.nex, (hb _ (by decide)).trans c.bex⟩, c.fex⟩
    have hg := mg_of X Gg c.gf
    exact ⟨fun m p => SndS.rse (Z C b) X0 hg c.exk, fun x h => SndS.try_ (Z C b) shp c.exc c.gt hg x h⟩
  · have hf : f < 54 := fs_len ▸ (List.getElem?_eq_some_iff.mp e).1
    have hfa : fAt f = d := by unfold fAt; rw [List.getD_eq_getElem?_getD, e]; rfl
    subst hfa
    by_cases z : f = 49
    · subst z
      exact .inr ⟨rowOf K (faAt K D.CW 49) (nmAt 49), ww, rfl, fnOKC_of X c.clo⟩
    · have h2 := (Bool.or_eq_true_iff.mp (List.all_eq_true.mp c.defs f (List.mem_range.mpr hf))).resolve_left fun q => z (eq_of_beq q)
      refine .inl ⟨rowOf K (faAt K D.CW f) (nmAt f), rfl, fnOK_of X h2 (List.map_inj_left.mp c.dfl f (List.mem_range.mpr hf)) fun vals l1 l2 S => List.map_inj_left.mp (c.bnd vals (Nat.le_trans l1 (np_le f hf)) S) f ?_⟩
      exact List.mem_filter.mpr ⟨List.mem_range.mpr hf, and_of (bne_iff_ne.mpr z) (and_of (decide_eq_true l1) (decide_eq_true l2))⟩
end
end Mine
end

section
open PySem PySem.W PyProof.Rows PySem.Spec PySem.Calls
namespace Mine

theorem ints_rps {D : Gd} {h : Heap} {vs : List Value} {ns : List Int} (H : IntsAre vs ns) : Rps D h [] [] vs (ns.map .int) := by
  induction H with
  | nil => exact .nil
  | cons _ _ _ ih => exact .cons (.int _ _) ih

theorem law_end {p : Program} {w : World} {c : ClaimW} {cl : Str → Option Addr} {mean : ExcName → Option Value} {args : List WData} {s₁ : Shared} {K : Frag} {mg mb : Str → Option Value} {fa la : Addr}
    {vals : List Value} {ns : List Int} (X : K.In s₁.heap) (Gg : s₁.heap.Ns mainGlobals mg) (Gb : s₁.heap.Ns builtinsNs mb) (lim : s₁.heap.NoLimit) (hb : ∀ x : Str, x ≠ "__name__" → mb x = bootBuiltins x)
    (ck : Checks K w.params 207 57 32 29 "words") (hfa : mg "law" = some (.ref fa)) (hnm : nsIn K mainGlobals "law" = some (some (.ref (faAt K 207 53))))
    (hL : s₁.heap.IsList la vals.toArray) (hI : IntsAre vals ns) (hn : ns.length ≤ 63) (hg : s₁.gens = #[])
    (hr : ∀ cls, c.raises args cls = false) (hp : c.post args (.bool true) args = true) :
    wpAny (model p w) callerA (call (.ref fa) [.ref la]) (fun v s' => GoodWG c cl mean args s₁ (.ok (.ret v)) s') (fun e s' => GoodWG c cl mean args s₁ (.error e) s') s₁ := by
  have e : fa = faAt K 207 53 := Value.ref.inj (Option.some.inj (hfa.symm.trans (mg_of X Gg hnm)))
  subst e
  refine enter_call ?_
  let D : Gd := ⟨p, w, s₁.heap, 207, 57⟩
  obtain ⟨cs, hlaw⟩ := L.law_ok ns (Nat.le_trans hn (by decide))
  have nn : ∀ {a : Addr}, a ∉ ([] : List Addr) := List.not_mem_nil
  have W0 : Wd D [] [] [] [] s₁.heap := ⟨fun _ _ e => e, rfl, List.nodup_nil, fun _ h => (nn h).elim, fun _ h => (nn h).elim, fun _ h => (nn h).elim, fun _ _ _ h => (none_some h).elim, fun _ h => (List.not_mem_nil h).elim, fun _ h => (List.not_mem_nil h).elim, fun _ h => (nn h).elim⟩
  have O := world_ok (D := D) X Gg Gb lim hb ck 40
  generalize callB funs globs 40 = C at hlaw O
  refine O 53 ⟨_, rfl⟩ (x := ⟨callerA, [], default, []⟩) (σ := []) (cs := []) (vs := [.ils (ns.map .int)]) ⟨rfl, rfl, (show callerA.depth + 3 * 40 ≤ 902 by decide), (show callerA.units + 30 * 40 ≤ 9027 by decide)⟩ (Nat.le_refl _) W0 (.cons (.ils hL nn nn (ints_rps hI)) .nil) ?_
  show Post D _ _ _ _ (C 53 [.ils (ns.map .int)] []) _
  rw [hlaw]
  intro σ' s' W S val hv
  cases (hv.view : val = .bool true)
  exact ⟨.inl ⟨_, _, [], rfl, hr, ReadsW.bool true, hp, fun _ => ⟨List.nodup_nil, fun _ hm => (nomatch hm)⟩⟩, OldK.of_keep fun b o e => S.st.keep b o e nn nn, S.lt.os, .of_eq (S.lt.gens.trans hg)⟩
end Mine
end

section
open PySem PySem.W PyProof.Rows PySem.Spec PySem.Calls
namespace Mine
/- names of twins that are not wanted: the head comes through without them, and the compiled file stays small -/
theorem whole.tw10000958634945066235 : True := trivial
theorem whole.tw10001787076262389162 : True := trivial
theorem whole.tw10002100669626812175 : True := trivial
theorem whole.tw10007520593648235073 : True := trivial
theorem whole.tw10025635815308576066 : True := trivial
theorem whole.tw10084071824679271942 : True := trivial
theorem whole.tw10118140284582671090 : True := trivial
theorem whole.tw10144505478992762587 : True := trivial
theorem whole.tw10153838690179905649 : True := trivial
theorem whole.tw10178181129370835086 : True := trivial
theorem whole.tw10219327507634694686 : True := trivial
theorem whole.tw10232448909128457573 : True := trivial
theorem whole.tw10240183823617578283 : True := trivial
theorem whole.tw10301362462094837657 : True := trivial
theorem whole.tw10335108021726791369 : True := trivial
theorem whole.tw10339747121181971505 : True := trivial
theorem whole.tw10344827342348678470 : True := trivial
theorem whole.tw10354518954362131899 : True := trivial
theorem whole.tw10387336663765257279 : True := trivial
theorem whole.tw10412668953605463793 : True := trivial
theorem whole.tw10438997657263567297 : True := trivial
theorem whole.tw10446497943914359417 : True := trivial
theorem whole.tw10461253832287612282 : True := trivial
theorem whole.tw10467399731503315703 : True := trivial
theorem whole.tw10472183733418339316 : True := trivial
theorem whole.tw1047630922221454212 : True := trivial
theorem whole.tw10488504414272976643 : True := trivial
theorem whole.tw10499325594661192776 : True := trivial
theorem whole.tw10565146586650446459 : True := trivial
theorem whole.tw1058133836064258550 : True := trivial
theorem whole.tw10590843552420965350 : True := trivial
theorem whole.tw10602399703277881627 : True := trivial
theorem whole.tw10616696396452150886 : True := trivial
theorem whole.tw10646667717487897683 : True := trivial
theorem whole.tw10654317064775040509 : True := trivial
theorem whole.tw10749463760870054271 : True := trivial
theorem whole.tw10765999639320066096 : True := trivial
theorem whole.tw1077347074188364252 : True := trivial
theorem whole.tw10795012362202508061 : True := trivial
theorem whole.tw10805158454514937742 : True := trivial
theorem whole.tw10832908153356258463 : True := trivial
theorem whole.tw10838650209671834137 : True := trivial
theorem whole.tw10840090224303567227 : True := trivial
theorem whole.tw10887019763833697050 : True := trivial
theorem whole.tw10922663048198985862 : True := trivial
theorem whole.tw10951800313117414527 : True := trivial
theorem whole.tw10981959625080579500 : True := trivial
theorem whole.tw11018331769982298155 : True := trivial
theorem whole.tw11024528398593038377 : True := trivial
theorem whole.tw11027412199618322810 : True := trivial
theorem whole.tw11030684522653666869 : True := trivial
theorem whole.tw11100186960236547562 : True := trivial
theorem whole.tw11116944545036436439 : True := trivial
theorem whole.tw11124209341801176217 : True := trivial
theorem whole.tw1114806542021703131 : True := trivial
theorem whole.tw11187447588885237514 : True := trivial
theorem whole.tw11243603205920247706 : True := trivial
theorem whole.tw11316320225543275868 : True := trivial
theorem whole.tw11331365046741114882 : True := trivial
theorem whole.tw11384259339768038936 : True := trivial
theorem whole.tw113900542113845248 : True := trivial
theorem whole.tw11395692770084462984 : True := trivial
theorem whole.tw11401307502761735516 : True := trivial
theorem whole.tw11401351377558187561 : True := trivial
theorem whole.tw11447198823506915613 : True := trivial
theorem whole.tw11459245631466036986 : True := trivial
theorem whole.tw11465640654943744700 : True := trivial
theorem whole.tw11476502588441444683 : True := trivial
theorem whole.tw11501073197159204048 : True := trivial
theorem whole.tw11579432869886197636 : True := trivial
theorem whole.tw11670040512431834200 : True := trivial
theorem whole.tw11678933692714762019 : True := trivial
theorem whole.tw11690859581915506653 : True := trivial
theorem whole.tw1169358714977055332 : True := trivial
theorem whole.tw11777355322855799659 : True := trivial
theorem whole.tw11791088910183784695 : True := trivial
theorem whole.tw11792362355297244138 : True := trivial
theorem whole.tw11793381155483064346 : True := trivial
theorem whole.tw1182916100746360932 : True := trivial
theorem whole.tw11831613935261219028 : True := trivial
theorem whole.tw11836910150536664915 : True := trivial
theorem whole.tw1183935215734455525 : True := trivial
theorem whole.tw11841974853317911985 : True := trivial
theorem whole.tw11862022474199680377 : True := trivial
theorem whole.tw11876454138822706389 : True := trivial
theorem whole.tw11896201609302106115 : True := trivial
theorem whole.tw11952309323241053379 : True := trivial
theorem whole.tw11966515284280811977 : True := trivial
theorem whole.tw11975771152792504044 : True := trivial
theorem whole.tw11988251369728918034 : True := trivial
theorem whole.tw12044105500090777872 : True := trivial
theorem whole.tw12063277863729348616 : True := trivial
theorem whole.tw12064908160898778525 : True := trivial
theorem whole.tw12066178620653064874 : True := trivial
theorem whole.tw12077107353733055826 : True := trivial
theorem whole.tw12092817750456807627 : True := trivial
theorem whole.tw12098860561503762481 : True := trivial
theorem whole.tw12111672374848980225 : True := trivial
theorem whole.tw12117460353608821864 : True := trivial
theorem whole.tw1217171336636241682 : True := trivial
theorem whole.tw12179455670472476543 : True := trivial
theorem whole.tw12180422818723984309 : True := trivial
theorem whole.tw12186894253409539890 : True := trivial
theorem whole.tw12207685810698929643 : True := trivial
theorem whole.tw12294887724330564330 : True := trivial
theorem whole.tw12365302626169338283 : True := trivial
theorem whole.tw12381228794656768651 : True := trivial
theorem whole.tw12384220206497402333 : True := trivial
theorem whole.tw12384909515848061526 : True := trivial
theorem whole.tw1242133270297695508 : True := trivial
theorem whole.tw12442016628978143412 : True := trivial
theorem whole.tw12473419985498694175 : True := trivial
theorem whole.tw12474861257701531764 : True := trivial
theorem whole.tw12478609949429157409 : True := trivial
theorem whole.tw12484011378766964031 : True := trivial
theorem whole.tw12505054689143061370 : True := trivial
theorem whole.tw1255956871972877904 : True := trivial
theorem whole.tw1256279898242784606 : True := trivial
theorem whole.tw12598572606399187110 : True := trivial
theorem whole.tw12620984872611610876 : True := trivial
theorem whole.tw1266484639899004939 : True := trivial
theorem whole.tw12698311456782994138 : True := trivial
theorem whole.tw12742087137024979937 : True := trivial
theorem whole.tw127423454215802840 : True := trivial
theorem whole.tw12761472262123182041 : True := trivial
theorem whole.tw12762855891700095494 : True := trivial
theorem whole.tw12850242359631670003 : True := trivial
theorem whole.tw12852820008105578649 : True := trivial
theorem whole.tw12920395458479335663 : True := trivial
theorem whole.tw12928932934922122878 : True := trivial
theorem whole.tw12967805889597932581 : True := trivial
theorem whole.tw12976933641374925533 : True := trivial
theorem whole.tw12982672189386914922 : True := trivial
theorem whole.tw1299319290729411920 : True := trivial
theorem whole.tw13000713063990318526 : True := trivial
theorem whole.tw13045181716907704641 : True := trivial
theorem whole.tw13061340530893119238 : True := trivial
theorem whole.tw13110515450571257733 : True := trivial
theorem whole.tw13143666931850650640 : True := trivial
theorem whole.tw13155097880312403346 : True := trivial
theorem whole.tw1318554304652621475 : True := trivial
theorem whole.tw13213058742666125385 : True := trivial
theorem whole.tw1321319160052600332 : True := trivial
theorem whole.tw13285438998962464343 : True := trivial
theorem whole.tw13297878767709546727 : True := trivial
theorem whole.tw13334927893685096626 : True := trivial
theorem whole.tw1335791156554467795 : True := trivial
theorem whole.tw13373713576854631141 : True := trivial
theorem whole.tw13406957107772272364 : True := trivial
theorem whole.tw13434065944014204811 : True := trivial
theorem whole.tw13447532951914335906 : True := trivial
theorem whole.tw13463558215457259582 : True := trivial
theorem whole.tw13478315594510353802 : True := trivial
theorem whole.tw1349178898306187914 : True := trivial
theorem whole.tw1350920760672359567 : True := trivial
theorem whole.tw13518702907885339924 : True := trivial
theorem whole.tw1353902047762577225 : True := trivial
theorem whole.tw13562979760119101899 : True := trivial
theorem whole.tw1357757348178948127 : True := trivial
theorem whole.tw13679757057165986330 : True := trivial
theorem whole.tw1371446737807839366 : True := trivial
theorem whole.tw13730376311393935369 : True := trivial
theorem whole.tw13749801708979339770 : True := trivial
theorem whole.tw13760198194640045919 : True := trivial
theorem whole.tw13762013822233420738 : True := trivial
theorem whole.tw137721658169608169 : True := trivial
theorem whole.tw13823951767099335047 : True := trivial
theorem whole.tw13829708278779851847 : True := trivial
theorem whole.tw13835169320686990480 : True := trivial
theorem whole.tw1393339623888494026 : True := trivial
theorem whole.tw13960669724093699300 : True := trivial
theorem whole.tw13974613887430780637 : True := trivial
theorem whole.tw14011127081917711036 : True := trivial
theorem whole.tw14031613983174702221 : True := trivial
theorem whole.tw14117439955800268797 : True := trivial
theorem whole.tw14120694959671187261 : True := trivial
theorem whole.tw14138553856905868755 : True := trivial
theorem whole.tw14165115802777765920 : True := trivial
theorem whole.tw14173393766343599159 : True := trivial
theorem whole.tw14192229110069238088 : True := trivial
theorem whole.tw14229579941836420233 : True := trivial
theorem whole.tw14239292526413980002 : True := trivial
theorem whole.tw14328502944104624683 : True := trivial
theorem whole.tw14381574177426341226 : True := trivial
theorem whole.tw14390007995909808975 : True := trivial
theorem whole.tw14395644662136614805 : True := trivial
theorem whole.tw14398828562116658018 : True := trivial
theorem whole.tw14407849266092530191 : True := trivial
theorem whole.tw14443708556783366652 : True := trivial
theorem whole.tw14457598465852218886 : True := trivial
theorem whole.tw14470578340186314671 : True := trivial
theorem whole.tw14492196311604417308 : True := trivial
theorem whole.tw14493418047887008292 : True := trivial
theorem whole.tw14590790631899776401 : True := trivial
theorem whole.tw14592908492388784131 : True := trivial
theorem whole.tw14654356449610600485 : True := trivial
theorem whole.tw14661705875561194100 : True := trivial
theorem whole.tw14671651394210877623 : True := trivial
theorem whole.tw1469495571348798126 : True := trivial
theorem whole.tw1470681187219097129 : True := trivial
theorem whole.tw14725644924352215136 : True := trivial
theorem whole.tw14756447051001558117 : True := trivial
theorem whole.tw14765760737338471991 : True := trivial
theorem whole.tw14776171463994254414 : True := trivial
theorem whole.tw14852934547574820571 : True := trivial
theorem whole.tw14857529406646634625 : True := trivial
theorem whole.tw14863180981096415481 : True := trivial
theorem whole.tw14875044017630859624 : True := trivial
theorem whole.tw14877643965249282964 : True := trivial
theorem whole.tw1488662743745869538 : True := trivial
theorem whole.tw14916202748087371944 : True := trivial
theorem whole.tw14943008167867972167 : True := trivial
theorem whole.tw14998389939795375158 : True := trivial
theorem whole.tw15001587830400145190 : True := trivial
theorem whole.tw15013576625721048695 : True := trivial
theorem whole.tw15015764479258077956 : True := trivial
theorem whole.tw15089273742334493110 : True := trivial
theorem whole.tw1509033169537457064 : True := trivial
theorem whole.tw15103685750691789098 : True := trivial
theorem whole.tw15105012252411618398 : True := trivial
theorem whole.tw15189915617685484396 : True := trivial
theorem whole.tw15251578357679609785 : True := trivial
theorem whole.tw15264306265154332586 : True := trivial
theorem whole.tw15274856360797078626 : True := trivial
theorem whole.tw15285801702533195368 : True := trivial
theorem whole.tw1533094020690680647 : True := trivial
theorem whole.tw15338273372565686330 : True := trivial
theorem whole.tw15401142651479110994 : True := trivial
theorem whole.tw15469157617142141710 : True := trivial
theorem whole.tw15490696404161045352 : True := trivial
theorem whole.tw15539963934695697727 : True := trivial
theorem whole.tw15564212434770411261 : True := trivial
theorem whole.tw15652777202477211125 : True := trivial
theorem whole.tw15657491793718945610 : True := trivial
theorem whole.tw15671628823550760414 : True := trivial
theorem whole.tw15680802009173567957 : True := trivial
theorem whole.tw15695161780090201225 : True := trivial
theorem whole.tw15716183405302250479 : True := trivial
theorem whole.tw15753584648845244147 : True := trivial
theorem whole.tw15761127226676153883 : True := trivial
theorem whole.tw1579314106941295789 : True := trivial
theorem whole.tw15803673994437570577 : True := trivial
theorem whole.tw15819564801051643881 : True := trivial
theorem whole.tw15848567645679474065 : True := trivial
theorem whole.tw1587768003098754325 : True := trivial
theorem whole.tw15930047269337530508 : True := trivial
theorem whole.tw15950631773475717186 : True := trivial
theorem whole.tw1601961968588287001 : True := trivial
theorem whole.tw16026843855606243410 : True := trivial
theorem whole.tw16062187612904122858 : True := trivial
theorem whole.tw16089163917832698231 : True := trivial
theorem whole.tw16151222146762293071 : True := trivial
theorem whole.tw161632788893874429 : True := trivial
theorem whole.tw16191896734375390133 : True := trivial
theorem whole.tw16304597587823193687 : True := trivial
theorem whole.tw16316554137538487329 : True := trivial
theorem whole.tw16337621169857538619 : True := trivial
theorem whole.tw1633898876240874773 : True := trivial
theorem whole.tw16342273516520970692 : True := trivial
theorem whole.tw16398205279857054297 : True := trivial
theorem whole.tw1640677438868554593 : True := trivial
theorem whole.tw16442795661328238356 : True := trivial
theorem whole.tw16467933323881711526 : True := trivial
theorem whole.tw16505068655815891843 : True := trivial
theorem whole.tw16529046165737248422 : True := trivial
theorem whole.tw16544233456350748990 : True := trivial
theorem whole.tw16576061068926947915 : True := trivial
theorem whole.tw16586233370728154131 : True := trivial
theorem whole.tw16588625043399567139 : True := trivial
theorem whole.tw16595449952281916149 : True := trivial
theorem whole.tw16607669324509118938 : True := trivial
theorem whole.tw16616245412964173377 : True := trivial
theorem whole.tw16668768811381343612 : True := trivial
theorem whole.tw16708263669468244151 : True := trivial
theorem whole.tw16732526662816644420 : True := trivial
theorem whole.tw16738726308800667447 : True := trivial
theorem whole.tw16739781802365451968 : True := trivial
theorem whole.tw16800997667575721541 : True := trivial
theorem whole.tw16827500432841332687 : True := trivial
theorem whole.tw16845944245580146995 : True := trivial
theorem whole.tw16912792503757511054 : True := trivial
theorem whole.tw1692622564874605650 : True := trivial
theorem whole.tw169747851870786472 : True := trivial
theorem whole.tw16986268789631483586 : True := trivial
theorem whole.tw1699034841665187622 : True := trivial
theorem whole.tw17022761755405916213 : True := trivial
theorem whole.tw17044950167386977207 : True := trivial
theorem whole.tw17060747222450192753 : True := trivial
theorem whole.tw17075553230084287909 : True := trivial
theorem whole.tw17092094596097150618 : True := trivial
theorem whole.tw17128258169734466478 : True := trivial
theorem whole.tw17169624498616045403 : True := trivial
theorem whole.tw17175008800681467811 : True := trivial
theorem whole.tw17179786008130999086 : True := trivial
theorem whole.tw17195952149560314771 : True := trivial
theorem whole.tw17256302963761357986 : True := trivial
theorem whole.tw17295703372945214271 : True := trivial
theorem whole.tw17333791097184162534 : True := trivial
theorem whole.tw1733744953317856445 : True := trivial
theorem whole.tw17395194986337826024 : True := trivial
theorem whole.tw17454085226186693669 : True := trivial
theorem whole.tw17463027529269885953 : True := trivial
theorem whole.tw17475311184863085016 : True := trivial
theorem whole.tw17510340352245238577 : True := trivial
theorem whole.tw17529894129228449367 : True := trivial
theorem whole.tw17583434110615651305 : True := trivial
theorem whole.tw17598439363315890097 : True := trivial
theorem whole.tw17641713804859348092 : True := trivial
theorem whole.tw17659150536888882668 : True := trivial
theorem whole.tw17667163613716643404 : True := trivial
theorem whole.tw17692944630003236201 : True := trivial
theorem whole.tw17700112632457955127 : True := trivial
theorem whole.tw17756055853247313500 : True := trivial
theorem whole.tw17768757769460313278 : True := trivial
theorem whole.tw17781206938751360472 : True := trivial
theorem whole.tw17789319016849944305 : True := trivial
theorem whole.tw17814491789457634051 : True := trivial
theorem whole.tw17818493641747277991 : True := trivial
theorem whole.tw17819583843959417973 : True := trivial
theorem whole.tw17841917278309519415 : True := trivial
theorem whole.tw17870853324313594786 : True := trivial
theorem whole.tw17881794589497109145 : True := trivial
theorem whole.tw17886057370482458864 : True := trivial
theorem whole.tw17933440416606161858 : True := trivial
theorem whole.tw17945471581576359013 : True := trivial
theorem whole.tw17948893368442150300 : True := trivial
theorem whole.tw17980908128825299112 : True := trivial
theorem whole.tw17991299263585117788 : True := trivial
theorem whole.tw17992364426957274132 : True := trivial
theorem whole.tw18002909038890314157 : True := trivial
theorem whole.tw18056553881098321084 : True := trivial
theorem whole.tw18060336119277286115 : True := trivial
theorem whole.tw18135788421098096370 : True := trivial
theorem whole.tw18145388855558949900 : True := trivial
theorem whole.tw18174217711786252908 : True := trivial
theorem whole.tw18186416632783805872 : True := trivial
theorem whole.tw18293881159641894451 : True := trivial
theorem whole.tw18314547241281667657 : True := trivial
theorem whole.tw18315055452531851272 : True := trivial
theorem whole.tw18354614867481654581 : True := trivial
theorem whole.tw18382394861701510011 : True := trivial
theorem whole.tw18419535431094276187 : True := trivial
theorem whole.tw1859146779660683823 : True := trivial
theorem whole.tw1897105925431849711 : True := trivial
theorem whole.tw1902754551582867561 : True := trivial
theorem whole.tw1934810232205804993 : True := trivial
theorem whole.tw1975147037884041520 : True := trivial
theorem whole.tw1999433592531618509 : True := trivial
theorem whole.tw2013318861076662011 : True := trivial
theorem whole.tw2028823117376367632 : True := trivial
theorem whole.tw203428145850139289 : True := trivial
theorem whole.tw2047193779265307260 : True := trivial
theorem whole.tw2083198920140632441 : True := trivial
theorem whole.tw213970696928864655 : True := trivial
theorem whole.tw2151346155558304222 : True := trivial
theorem whole.tw2155487761632659812 : True := trivial
theorem whole.tw2168223474955763204 : True := trivial
theorem whole.tw2198523743367551842 : True := trivial
theorem whole.tw2290268214366725154 : True := trivial
theorem whole.tw2302033354624455591 : True := trivial
theorem whole.tw2349701861695252166 : True := trivial
theorem whole.tw2362521522948952975 : True := trivial
theorem whole.tw2401531773124529735 : True := trivial
theorem whole.tw2404457027504551060 : True := trivial
theorem whole.tw2409123336234807113 : True := trivial
theorem whole.tw2412972146837434115 : True := trivial
theorem whole.tw2439357469168130064 : True := trivial
theorem whole.tw2469003464257525574 : True := trivial
theorem whole.tw2490260996854626732 : True := trivial
theorem whole.tw2504750193415952891 : True := trivial
theorem whole.tw2536362301702204066 : True := trivial
theorem whole.tw2554714600840530319 : True := trivial
theorem whole.tw2558861820686608913 : True := trivial
theorem whole.tw2580061231857448207 : True := trivial
theorem whole.tw2626972384719194784 : True := trivial
theorem whole.tw2631569684183399233 : True := trivial
theorem whole.tw264305225020417698 : True := trivial
theorem whole.tw2665807779830099079 : True := trivial
theorem whole.tw2675290096998512546 : True := trivial
theorem whole.tw2685624786292725039 : True := trivial
theorem whole.tw2733790213765534055 : True := trivial
theorem whole.tw2781955308351554444 : True := trivial
theorem whole.tw280920844665842053 : True := trivial
theorem whole.tw2896436902973227457 : True := trivial
theorem whole.tw2912573282932879776 : True := trivial
theorem whole.tw29202618045891971 : True := trivial
theorem whole.tw2959683903145980101 : True := trivial
theorem whole.tw2989192609971925910 : True := trivial
theorem whole.tw3016316376071577429 : True := trivial
theorem whole.tw3028004478679740547 : True := trivial
theorem whole.tw3099174332690161747 : True := trivial
theorem whole.tw3099485228618234346 : True := trivial
theorem whole.tw3117049408229778687 : True := trivial
theorem whole.tw3118101993129739532 : True := trivial
theorem whole.tw3125283655325999989 : True := trivial
theorem whole.tw3127163415804763599 : True := trivial
theorem whole.tw3141554390599180669 : True := trivial
theorem whole.tw3150075250938504248 : True := trivial
theorem whole.tw3162264621223815677 : True := trivial
theorem whole.tw3162365515331879682 : True := trivial
theorem whole.tw3166543957339863982 : True := trivial
theorem whole.tw3168900989282067249 : True := trivial
theorem whole.tw3243557710152264731 : True := trivial
theorem whole.tw3270133029678145397 : True := trivial
theorem whole.tw3280129329062278201 : True := trivial
theorem whole.tw3306209509626126654 : True := trivial
theorem whole.tw3336266095096057487 : True := trivial
theorem whole.tw3345510996311645767 : True := trivial
theorem whole.tw3369746551918469629 : True := trivial
theorem whole.tw3388183141720772199 : True := trivial
theorem whole.tw3390907139478361160 : True := trivial
theorem whole.tw340442491454447764 : True := trivial
theorem whole.tw3467671131507365174 : True := trivial
theorem whole.tw3477664188213554577 : True := trivial
theorem whole.tw3479739002732855021 : True := trivial
theorem whole.tw3604371722874584219 : True := trivial
theorem whole.tw3619989788208562024 : True := trivial
theorem whole.tw3633373589777264862 : True := trivial
theorem whole.tw3687826684616867901 : True := trivial
theorem whole.tw369943808078234791 : True := trivial
theorem whole.tw3720110479823389818 : True := trivial
theorem whole.tw3724477965614018403 : True := trivial
theorem whole.tw3733001107339715835 : True := trivial
theorem whole.tw3733203681221829434 : True := trivial
theorem whole.tw3742335343461010818 : True := trivial
theorem whole.tw381110514646162275 : True := trivial
theorem whole.tw3817958767811374121 : True := trivial
theorem whole.tw3860174431591174066 : True := trivial
theorem whole.tw3869719713472690019 : True := trivial
theorem whole.tw3938181902498452885 : True := trivial
theorem whole.tw3945383572190744343 : True := trivial
theorem whole.tw3947618128840659280 : True := trivial
theorem whole.tw397210227534267232 : True := trivial
theorem whole.tw4024587099455181709 : True := trivial
theorem whole.tw4056270910917201831 : True := trivial
theorem whole.tw4104619502420251389 : True := trivial
theorem whole.tw4107823604484434990 : True := trivial
theorem whole.tw4163455835068889971 : True := trivial
theorem whole.tw4180466227808675834 : True := trivial
theorem whole.tw420889256603489644 : True := trivial
theorem whole.tw4210173837847294953 : True := trivial
theorem whole.tw4221266100470226451 : True := trivial
theorem whole.tw4234479992401935053 : True := trivial
theorem whole.tw427333557424167660 : True := trivial
theorem whole.tw431044224361937856 : True := trivial
theorem whole.tw4338333698743118245 : True := trivial
theorem whole.tw4346055641746905949 : True := trivial
theorem whole.tw4347982837100205910 : True := trivial
theorem whole.tw435229417069212923 : True := trivial
theorem whole.tw4357746044423742650 : True := trivial
theorem whole.tw437534634077163847 : True := trivial
theorem whole.tw4441356404631880174 : True := trivial
theorem whole.tw4444701892398472603 : True := trivial
theorem whole.tw4447922135398794285 : True := trivial
theorem whole.tw4478484345807364305 : True := trivial
theorem whole.tw4479364801722962140 : True := trivial
theorem whole.tw4497405343062392443 : True := trivial
theorem whole.tw4516712372641221423 : True := trivial
theorem whole.tw4535560162481520197 : True := trivial
theorem whole.tw4559885085590827626 : True := trivial
theorem whole.tw4595352539940377962 : True := trivial
theorem whole.tw4603890583814415204 : True := trivial
theorem whole.tw4605417425148642151 : True := trivial
theorem whole.tw4689585835679557668 : True := trivial
theorem whole.tw4757693249605793100 : True := trivial
theorem whole.tw482805393138593929 : True := trivial
theorem whole.tw4881149852633135710 : True := trivial
theorem whole.tw4897329129694005586 : True := trivial
theorem whole.tw4909349585908861296 : True := trivial
theorem whole.tw4918820536221260690 : True := trivial
theorem whole.tw4934077235998201596 : True := trivial
theorem whole.tw49618309497685836 : True := trivial
theorem whole.tw4977384430496418070 : True := trivial
theorem whole.tw499986732351040406 : True := trivial
theorem whole.tw5001923725869043736 : True := trivial
theorem whole.tw5015864234111024480 : True := trivial
theorem whole.tw5055955640874334904 : True := trivial
theorem whole.tw5078443471013023264 : True := trivial
theorem whole.tw5081031077709457048 : True := trivial
theorem whole.tw5099900934548537757 : True := trivial
theorem whole.tw5137022389394785357 : True := trivial
theorem whole.tw5159705281301196996 : True := trivial
theorem whole.tw5170085318457261871 : True := trivial
theorem whole.tw5171116725156735389 : True := trivial
theorem whole.tw520772439267309755 : True := trivial
theorem whole.tw5214446914017263519 : True := trivial
theorem whole.tw5233578499609466721 : True := trivial
theorem whole.tw5277582801102665213 : True := trivial
theorem whole.tw5297632933804744799 : True := trivial
theorem whole.tw5349422690488739272 : True := trivial
theorem whole.tw5361092306138085264 : True := trivial
theorem whole.tw536816803628104207 : True := trivial
theorem whole.tw5405151241437436114 : True := trivial
theorem whole.tw5408107943391738 : True := trivial
theorem whole.tw5433660331597885046 : True := trivial
theorem whole.tw543460287212350964 : True := trivial
theorem whole.tw5438831827131416888 : True := trivial
theorem whole.tw5460680643579594377 : True := trivial
theorem whole.tw5462770333876777704 : True := trivial
theorem whole.tw5477020428343274486 : True := trivial
theorem whole.tw5507206668745343223 : True := trivial
theorem whole.tw5515949286892933951 : True := trivial
theorem whole.tw5531847113258461380 : True := trivial
theorem whole.tw5542149417468696053 : True := trivial
theorem whole.tw5586392500970708615 : True := trivial
theorem whole.tw561600600097829391 : True := trivial
theorem whole.tw5649241889958590350 : True := trivial
theorem whole.tw5662987942479315956 : True := trivial
theorem whole.tw5790326999694950120 : True := trivial
theorem whole.tw5791918278046883877 : True := trivial
theorem whole.tw5795321864736660020 : True := trivial
theorem whole.tw5798653541585068671 : True := trivial
theorem whole.tw5800983766791026078 : True := trivial
theorem whole.tw5804886461390523402 : True := trivial
theorem whole.tw5879479702872096659 : True := trivial
theorem whole.tw5882343337706715899 : True := trivial
theorem whole.tw590541238101311183 : True := trivial
theorem whole.tw5938623499991607928 : True := trivial
theorem whole.tw5942346508108547180 : True := trivial
theorem whole.tw5984233764851548814 : True := trivial
theorem whole.tw5997644934508616594 : True := trivial
theorem whole.tw60084206612377972 : True := trivial
theorem whole.tw6018008695308894833 : True := trivial
theorem whole.tw6049599900894316688 : True := trivial
theorem whole.tw6084657873442493111 : True := trivial
theorem whole.tw6095937858554715304 : True := trivial
theorem whole.tw6159961993279768742 : True := trivial
theorem whole.tw6187261993980536492 : True := trivial
theorem whole.tw620233503781600244 : True := trivial
theorem whole.tw6233461465355520292 : True := trivial
theorem whole.tw6266228650988000492 : True := trivial
theorem whole.tw6330323023686639657 : True := trivial
theorem whole.tw6330797023819526829 : True := trivial
theorem whole.tw6356627984389668255 : True := trivial
theorem whole.tw6377287985247879410 : True := trivial
theorem whole.tw6396017553259284124 : True := trivial
theorem whole.tw6421574377784992043 : True := trivial
theorem whole.tw6472696656209681604 : True := trivial
theorem whole.tw6496092161831514541 : True := trivial
theorem whole.tw6525215580464160042 : True := trivial
theorem whole.tw6531100040246800141 : True := trivial
theorem whole.tw6553984163096543158 : True := trivial
theorem whole.tw6612613915786651340 : True := trivial
theorem whole.tw6648197116569056673 : True := trivial
theorem whole.tw6677481401041580341 : True := trivial
theorem whole.tw668774492082921180 : True := trivial
theorem whole.tw6711224856247384401 : True := trivial
theorem whole.tw6743021324641148519 : True := trivial
theorem whole.tw6750649090777595757 : True := trivial
theorem whole.tw675793542917168019 : True := trivial
theorem whole.tw6766658173562982576 : True := trivial
theorem whole.tw6772379921613518395 : True := trivial
theorem whole.tw6783627951005175229 : True := trivial
theorem whole.tw679095792406170707 : True := trivial
theorem whole.tw6795950696382679116 : True := trivial
theorem whole.tw6823266097380344784 : True := trivial
theorem whole.tw6831798877050662096 : True := trivial
theorem whole.tw6866068747796929802 : True := trivial
theorem whole.tw6888942637506950926 : True := trivial
theorem whole.tw6891315699540082446 : True := trivial
theorem whole.tw6893854221201818072 : True := trivial
theorem whole.tw6896427876366098391 : True := trivial
theorem whole.tw6915089677183239634 : True := trivial
theorem whole.tw6933715213461094250 : True := trivial
theorem whole.tw697334722855355308 : True := trivial
theorem whole.tw6975664082121306202 : True := trivial
theorem whole.tw7056001396292377188 : True := trivial
theorem whole.tw7078629122812257199 : True := trivial
theorem whole.tw7101197657001211085 : True := trivial
theorem whole.tw7154100213019291727 : True := trivial
theorem whole.tw715978364194892080 : True := trivial
theorem whole.tw7185185305316088854 : True := trivial
theorem whole.tw7187317218736086229 : True := trivial
theorem whole.tw7248877203947682478 : True := trivial
theorem whole.tw7280849871689594849 : True := trivial
theorem whole.tw7315993881563675004 : True := trivial
theorem whole.tw7368006489180217709 : True := trivial
theorem whole.tw7391549574342816922 : True := trivial
theorem whole.tw7452821578398259720 : True := trivial
theorem whole.tw7466904020207815869 : True := trivial
theorem whole.tw7499365098147365621 : True := trivial
theorem whole.tw7509650053966640704 : True := trivial
theorem whole.tw7525632177321363660 : True := trivial
theorem whole.tw7545590854473540767 : True := trivial
theorem whole.tw7564407027854533171 : True := trivial
theorem whole.tw7576292583959916747 : True := trivial
theorem whole.tw7582116766257987118 : True := trivial
theorem whole.tw7645621925510333512 : True := trivial
theorem whole.tw7669669677095693358 : True := trivial
theorem whole.tw772474843232632690 : True := trivial
theorem whole.tw775654668261428149 : True := trivial
theorem whole.tw7781976810680006178 : True := trivial
theorem whole.tw7856580471358416282 : True := trivial
theorem whole.tw7868544009499267292 : True := trivial
theorem whole.tw7910221479046277610 : True := trivial
theorem whole.tw7925426705801168976 : True := trivial
theorem whole.tw7952383044827225310 : True := trivial
theorem whole.tw7978788361824508945 : True := trivial
theorem whole.tw8011658993158656957 : True := trivial
theorem whole.tw803728761352460389 : True := trivial
theorem whole.tw8101450032967502455 : True := trivial
theorem whole.tw8109663874093803249 : True := trivial
theorem whole.tw817909704231249520 : True := trivial
theorem whole.tw8181180424491326830 : True := trivial
theorem whole.tw8184708281838074206 : True := trivial
theorem whole.tw8243020233432551205 : True := trivial
theorem whole.tw8269794280708405034 : True := trivial
theorem whole.tw8309436690622926411 : True := trivial
theorem whole.tw8341004590406740810 : True := trivial
theorem whole.tw8351164730277109312 : True := trivial
theorem whole.tw842793390314483620 : True := trivial
theorem whole.tw8443025263604155638 : True := trivial
theorem whole.tw8444963059077079450 : True := trivial
theorem whole.tw8454442166302862320 : True := trivial
theorem whole.tw8465779003785688887 : True := trivial
theorem whole.tw8523286992835677893 : True := trivial
theorem whole.tw8529020170189433330 : True := trivial
theorem whole.tw8572516506043022915 : True := trivial
theorem whole.tw8602141644225615130 : True := trivial
theorem whole.tw8684032485159981719 : True := trivial
theorem whole.tw8699793337390238261 : True := trivial
theorem whole.tw8719548228035378133 : True := trivial
theorem whole.tw8789054386453842027 : True := trivial
theorem whole.tw8799044985600393684 : True := trivial
theorem whole.tw8868806382682364411 : True := trivial
theorem whole.tw8894826161267586577 : True := trivial
theorem whole.tw8958426612096339740 : True := trivial
theorem whole.tw8958452949930002773 : True := trivial
theorem whole.tw8961415085178454156 : True := trivial
theorem whole.tw8965215075514910880 : True := trivial
theorem whole.tw8983756257105130227 : True := trivial
theorem whole.tw9024608533772062355 : True := trivial
theorem whole.tw9033953771586226978 : True := trivial
theorem whole.tw9046693723037758376 : True := trivial
theorem whole.tw9088682870026954680 : True := trivial
theorem whole.tw9095261259357604559 : True := trivial
theorem whole.tw9142887217227649140 : True := trivial
theorem whole.tw9170513070990267023 : True := trivial
theorem whole.tw9189751539129569556 : True := trivial
theorem whole.tw9212966250080664162 : True := trivial
theorem whole.tw9235561108164731721 : True := trivial
theorem whole.tw9242471422690250210 : True := trivial
theorem whole.tw9261806104794426953 : True := trivial
theorem whole.tw927568089824032536 : True := trivial
theorem whole.tw9305182965593076673 : True := trivial
theorem whole.tw9315315907157715723 : True := trivial
theorem whole.tw9347626172496877827 : True := trivial
theorem whole.tw9358836691059361674 : True := trivial
theorem whole.tw9406530864695525851 : True := trivial
theorem whole.tw9416693575131194153 : True := trivial
theorem whole.tw9464417701048127947 : True := trivial
theorem whole.tw948704589612583740 : True := trivial
theorem whole.tw9501391760213346845 : True := trivial
theorem whole.tw950895424614454216 : True := trivial
theorem whole.tw9521756469634577901 : True := trivial
theorem whole.tw9524161046149784534 : True := trivial
theorem whole.tw9625973628771424018 : True := trivial
theorem whole.tw9654072969724333583 : True := trivial
theorem whole.tw9685896690342822935 : True := trivial
theorem whole.tw9722750020625992282 : True := trivial
theorem whole.tw9725988738643398560 : True := trivial
theorem whole.tw9733464779038806419 : True := trivial
theorem whole.tw974242676711936875 : True := trivial
theorem whole.tw9753940524135748638 : True := trivial
theorem whole.tw9775085227918541326 : True := trivial
theorem whole.tw978456291528864041 : True := trivial
theorem whole.tw9787344453429475573 : True := trivial
theorem whole.tw9838295914634562783 : True := trivial
theorem whole.tw9851385603074314742 : True := trivial
theorem whole.tw9907439585923661828 : True := trivial
theorem whole.tw9951143050096045611 : True := trivial
theorem whole.tw9988426361468213469 : True := trivial
theorem whole.tw9994479494313819776 : True := trivial

set_option maxRecDepth 100000 in
set_option maxHeartbeats 8000000 in
theorem whole : PySem.Challenge.rw_xw0180_02.Holds := by
  w_on
  o_law
  k_head
  case hw => w_witness2
  k_fill
  intro w s₀ s₁ mg mb G Y fa o pm cd doc dV kV ho hd' hcd hD hmg hg args vals as hpre hlay hrd hwl hlo
  have KX := kIn_of Y
  refine Ground.open G ?_
  intro T B D TE TW
  wrow_args hpre hlay hrd hwl hlo
  rename_i ns _ _ _ _ _ _ _ _ _ _ hL _ _ _ hI _ hn _
  refine law_end KX T.g T.b T.nolimit T.builtins ?ck hmg ?nm hL hI (by omega) hg (fun _ => rfl) ?post
  case nm => kernel_rfl
  case ck => exact {
    tab := ⟨by kernel_rfl, by kernel_rfl, by kernel_rfl, by kernel_rfl, by kernel_rfl⟩
    defs := by kernel_rfl
    dfl := by kernel_rfl
    bnd := fun vs h => match vs, h with
      | [], _ => fun S => by kernel_rfl
      | [a], _ => fun S => by kernel_rfl
      | [a, b], _ => fun S => by kernel_rfl
      | [a, b, c], _ => fun S => by kernel_rfl
      | [a, b, c, d], _ => fun S => by kernel_rfl
      | [a, b, c, d, e], _ => fun S => by kernel_rfl
      | [a, b, c, d, e, f], _ => fun S => by kernel_rfl
      | _ :: _ :: _ :: _ :: _ :: _ :: _ :: _, h => absurd h (by simp)
    clo := ⟨by kernel_rfl, of_decide_eq_true (by kernel_rfl), by kernel_rfl, by kernel_rfl, by kernel_rfl, by kernel_rfl, by kernel_rfl, fun n => by kernel_rfl, by kernel_rfl, by kernel_rfl, fun v => by kernel_rfl⟩
    cls := cls_of (by kernel_rfl) (by kernel_rfl) (by kernel_rfl) (by kernel_rfl) (by kernel_rfl) (by kernel_rfl) (by kernel_rfl) (by kernel_rfl) (by kernel_rfl) (by kernel_rfl) (by kernel_rfl) (by kernel_rfl)
    shp := by kernel_rfl
    exc := exc_of (by kernel_rfl) (by kernel_rfl) (by kernel_rfl) (by kernel_rfl) (by kernel_rfl) (by kernel_rfl) (by kernel_rfl)
    gt := ⟨by kernel_rfl, by kernel_rfl⟩
    exi := by kernel_rfl
    ext := by kernel_rfl
    exk := by kernel_rfl
    gf := by kernel_rfl
    nex := by kernel_rfl
    bex := by kernel_rfl
    fex := by kernel_rfl
    dat := by kernel_rfl
    ini := ⟨by kernel_rfl, by kernel_rfl, by kernel_rfl, by kernel_rfl, by kernel_rfl, by kernel_rfl, fun x y z S => by kernel_rfl⟩
    gl := ⟨by kernel_rfl, by kernel_rfl, by kernel_rfl⟩
    l1 := by kernel_rfl
    l2 := by kernel_rfl
    l3 := by kernel_rfl
    l4 := by kernel_rfl
    l5 := by kernel_rfl
    g1 := by kernel_rfl
    g2 := by kernel_rfl }
  case post => wrow_post
end Mine
end

theorem PySem.Challenge.cw_xw0180_02_holds : PySem.Challenge.rw_xw0180_02.Holds :=
  Mine.whole
