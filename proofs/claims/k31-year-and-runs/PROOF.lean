import PyProof.Rows.All
import Wide.All
import OpenK.AllK
import Wide.FinOn
import HandS.ForMost
import HandS.Flow
import HandS.IsInst
import HandS.TupAny
import HandS.Zip
import HandS.Rev
import KE.GoesEnum
import HandS.NoneIn
import HandS.Defaults
import KE.KStateDown
import Lean
import HandS.Ends
import HandS.More
import HandS.Words
import HandS.WordsExc
import HandS.Head0
import HandS.Head1
import HandS.Head2
import HandS.HeadEnd
import HandS.HeadHook1
import HandS.HeadHook2
import HandS.HeadHook4
import PySem.Challenge.RW_longpound_k31_year_and_runs
set_option linter.all false
/-! Mp0: a small language of values (no heap) for the defs of a program: data, expressions, statements, their evaluators. -/
namespace Mp
open PySem (Str)

/-- data: what a value is worth, lists and tuples by their items -/
inductive D where
  | non
  | bl (b : Bool)
  | int (i : Int)
  | str (s : Str)
  | lst (xs : List D)
  | tup (xs : List D)

instance : Inhabited D := ⟨.non⟩

/-- a run's result: no word of it; a value; an own exception (class, fields) -/
inductive R (α : Type) where
  | bad
  | ok (a : α)
  | exc (c : Nat) (fs : List D)

namespace R
@[simp] def bind {α β : Type} : R α → (α → R β) → R β
  | .bad, _ => .bad
  | .ok a, f => f a
  | .exc c fs, _ => .exc c fs
instance : Monad R where
  pure := .ok
  bind := bind
@[simp] theorem bind_ok {α β : Type} (a : α) (f : α → R β) : (R.ok a >>= f) = f a := rfl
@[simp] theorem bind_bad {α β : Type} (f : α → R β) : ((R.bad : R α) >>= f) = .bad := rfl
@[simp] theorem bind_exc {α β : Type} (c : Nat) (fs : List D) (f : α → R β) : ((R.exc c fs : R α) >>= f) = .exc c fs := rfl
@[simp] theorem pure_ok {α : Type} (a : α) : (pure a : R α) = .ok a := rfl
def chk {α : Type} (c : Prop) [Decidable c] (x : R α) : R α := if c then x else .bad
theorem chk_t {α : Type} {c : Prop} [Decidable c] (h : c) (x : R α) : chk c x = x := if_pos h
theorem of_bind {α β : Type} {m : R α} {f : α → R β} {b : β} (h : (m >>= f) = .ok b) : ∃ a, m = .ok a ∧ f a = .ok b := by
  cases m with
  | bad => cases h
  | ok a => exact ⟨a, rfl, h⟩
  | exc c fs => cases h
theorem of_chk {α : Type} {c : Prop} [Decidable c] {x : R α} {b : α} (h : chk c x = .ok b) : c ∧ x = .ok b := by
  unfold chk at h
  split at h
  · exact ⟨‹_›, h⟩
  · cases h
end R

/-! ### operations on data -/
abbrev szl : Nat := 16777216

def atomic : D → Bool
  | .lst _ => false
  | .tup _ => false
  | _ => true

def truth : D → R Bool
  | .non => .ok false
  | .bl b => .ok b
  | .int i => .ok (i != 0)
  | .str s => .chk (s.cps.size ≤ szl) (.ok (s.cps.size != 0))
  | .lst xs => .ok !xs.isEmpty
  | .tup xs => .ok !xs.isEmpty

mutual
/-- == -/
def eqD : D → D → Bool
  | .non, .non => true
  | .bl a, .bl b => a == b
  | .bl a, .int j => (if a then 1 else 0) == j
  | .int i, .bl b => i == (if b then 1 else 0)
  | .int i, .int j => i == j
  | .str a, .str b => a == b
  | .lst xs, .lst ys => eqDs xs ys
  | .tup xs, .tup ys => eqDs xs ys
  | _, _ => false
def eqDs : List D → List D → Bool
  | [], [] => true
  | x :: xs, y :: ys => eqD x y && eqDs xs ys
  | _, _ => false
end
mutual
def depth : D → Nat
  | .lst xs => depths xs + 1
  | .tup xs => depths xs + 1
  | _ => 0
def depths : List D → Nat
  | [] => 0
  | x :: xs => max (depth x) (depths xs)
end

mutual
/-- every text's codes are codes -/
def strsD : D → Bool
  | .str x => x.cps.all (· < 0x110000)
  | .lst xs => strsDs xs
  | .tup xs => strsDs xs
  | _ => true
def strsDs : List D → Bool
  | [] => true
  | x :: xs => strsD x && strsDs xs
end
def okD (d : D) : Bool := strsD d && decide (depth d ≤ 60)

/-- arithmetic -/
inductive BOp where
  | add | sub | mul | fdiv | mod | pow
  deriving DecidableEq
def cmulB (i j : Int) : Prop := i.natAbs < 18446744073709551616 ∨ j.natAbs < 18446744073709551616
theorem cmulB_ok {i j : Int} (h : cmulB i j) : (-(2 ^ 64) < i ∧ i < 2 ^ 64) ∨ (-(2 ^ 64) < j ∧ j < 2 ^ 64) := by
  have e : (2 : Int) ^ 64 = 18446744073709551616 := by decide
  rw [e]
  unfold cmulB at h
  omega
instance (i j : Int) : Decidable (cmulB i j) := by unfold cmulB; infer_instance
def cdivB (j : Int) : Prop := j ≠ 0 ∧ j.natAbs < 1073741824
instance (j : Int) : Decidable (cdivB j) := by unfold cdivB; infer_instance
def cpowB (i j : Int) : Prop := 0 ≤ j ∧ j ≤ 1000000 ∧ i.natAbs < 2 ^ 64
instance (i j : Int) : Decidable (cpowB i j) := by unfold cpowB; infer_instance
def bopI : BOp → Int → Int → R D
  | .add, i, j => .ok (.int (i + j))
  | .sub, i, j => .ok (.int (i - j))
  | .mul, i, j => .chk (cmulB i j) (.ok (.int (i * j)))
  | .fdiv, i, j => .chk (cdivB j) (.ok (.int (i.fdiv j)))
  | .mod, i, j => .chk (j ≠ 0) (.ok (.int (i.fmod j)))
  | .pow, i, j => .chk (cpowB i j) (.ok (.int (i ^ j.toNat)))
/-- the values of a op b; of lists, tuples: + alone -/
def bop (o : BOp) : D → D → R D
  | .int i, .int j => bopI o i j
  | .lst xs, .lst ys => if o = .add then .chk (xs.length + ys.length ≤ szl) (.ok (.lst (xs ++ ys))) else .bad
  | .tup xs, .tup ys => if o = .add then .chk (xs.length + ys.length ≤ szl) (.ok (.tup (xs ++ ys))) else .bad
  | _, _ => .bad

inductive COp where
  | eq | ne | lt | le | gt | ge | is | isn | in_ | nin
  deriving DecidableEq
def cop (o : COp) (a b : D) : R Bool :=
  match o with
  | .eq => .chk (okD a = true ∧ okD b = true) (.ok (eqD a b))
  | .ne => .chk (okD a = true ∧ okD b = true) (.ok !(eqD a b))
  | .lt => (match a, b with | .int i, .int j => .ok (decide (i < j)) | _, _ => .bad)
  | .le => (match a, b with | .int i, .int j => .ok (decide (i ≤ j)) | _, _ => .bad)
  | .gt => (match a, b with | .int i, .int j => .ok (decide (j < i)) | _, _ => .bad)
  | .ge => (match a, b with | .int i, .int j => .ok (decide (j ≤ i)) | _, _ => .bad)
  | .is => (match a, b with | .non, .non => .ok true | _, .non => .ok false | _, _ => .bad)
  | .isn => (match a, b with | .non, .non => .ok false | _, .non => .ok true | _, _ => .bad)
  | .in_ => (match b with
    | .lst ys => .chk (atomic a = true ∧ ys.all atomic = true) (.ok (ys.any fun y => eqD y a))
    | .tup ys => .chk (atomic a = true ∧ ys.all atomic = true) (.ok (ys.any fun y => eqD y a))
    | _ => .bad)
  | .nin => (match b with
    | .lst ys => .chk (atomic a = true ∧ ys.all atomic = true) (.ok !(ys.any fun y => eqD y a))
    | .tup ys => .chk (atomic a = true ∧ ys.all atomic = true) (.ok !(ys.any fun y => eqD y a))
    | _ => .bad)

/-- the place of an index of any sign -/
def ixN (n : Nat) (i : Int) : Option Nat := if 0 ≤ i then (if i < n then some i.toNat else none) else if -(n : Int) ≤ i then some (i + n).toNat else none
def atI {α : Type} (xs : List α) (i : Int) : Option α := (ixN xs.length i).bind fun j => xs[j]?
def orBad {α : Type} : Option α → R α
  | some a => .ok a
  | none => .bad
/-- the places of a slice's part -/
def sIx (n d : Nat) : Option Int → Nat
  | none => d
  | some v => if v < 0 then ((v + (n : Int)).toNat) else min v.toNat n
def cut {α : Type} (xs : List α) (lo hi : Option Int) : List α := (xs.drop (sIx xs.length 0 lo)).take (sIx xs.length xs.length hi - sIx xs.length 0 lo)
inductive Ty where
  | int | bool | str | list | tuple
  deriving DecidableEq
def isTy : D → Ty → Bool
  | .int _, .int => true
  | .bl _, .bool => true
  | .bl _, .int => true
  | .str _, .str => true
  | .lst _, .list => true
  | .tup _, .tuple => true
  | _, _ => false

/-- all ints -/
def asInts : List D → Option (List Int)
  | [] => some []
  | .int i :: r => (asInts r).map (i :: ·)
  | _ :: _ => none
def maxI : List Int → Option Int
  | [] => none
  | x :: r => some (r.foldl max x)
def minI : List Int → Option Int
  | [] => none
  | x :: r => some (r.foldl min x)

/-- built-in functions -/
inductive Bf where
  | len | int | sum | max | min | list | tuple | abs
  deriving DecidableEq
def items : D → R (List D)
  | .lst xs => .ok xs
  | .tup xs => .ok xs
  | _ => .bad
def bf : Bf → List D → R D
  | .len, [.lst xs] => .ok (.int xs.length)
  | .len, [.tup xs] => .ok (.int xs.length)
  | .int, [.int i] => .ok (.int i)
  | .int, [.bl b] => .ok (.int (if b then 1 else 0))
  | .abs, [.int i] => .ok (.int (if i < 0 then -i else i))
  | .sum, [.lst xs] => do .ok (.int (← orBad (asInts xs)).sum)
  | .sum, [.tup xs] => do .ok (.int (← orBad (asInts xs)).sum)
  | .max, [.int i, .int j] => .ok (.int (if j > i then j else i))
  | .min, [.int i, .int j] => .ok (.int (if j < i then j else i))
  | .max, [.lst xs] => do .ok (.int (← orBad (maxI (← orBad (asInts xs)))))
  | .min, [.lst xs] => do .ok (.int (← orBad (minI (← orBad (asInts xs)))))
  | .list, [.lst xs] => .ok (.lst xs)
  | .list, [.tup xs] => .ok (.lst xs)
  | .tuple, [.lst xs] => .ok (.tup xs)
  | .tuple, [.tup xs] => .ok (.tup xs)
  | _, _ => .bad

/-! ### the small language -/
/-- a target: a name; names -/
inductive Tg where
  | name (i : Nat)
  | names (is : List Nat)

inductive M where
  | var (i : Nat)
  | con (d : D)
  | bin (o : BOp) (a b : M)
  | neg (a : M)
  | not (a : M)
  | and (a b : M)
  | or (a b : M)
  | cmp (o : COp) (a b : M)
  | chain (o p : COp) (a b c : M)
  | ite (c a b : M)
  | nil
  | cons (a r : M)
  | lst (es : M)
  | tup (es : M)
  | ix (a b : M)
  | sl (a lo hi : M)
  | isi (a : M) (ts : List Ty)
  | isi1 (a : M) (t : Ty)
  | bf (f : Bf) (es : M)
  | call (f : Nat) (es : M)
  | rng1 (a : M)
  | rng2 (a b : M)
  | enum (a : M)
  | zip (a b : M)
  | rev (a : M)
  | lc (e : M) (t : Tg) (own : List Nat) (it : M)
  | lcIf (e : M) (t : Tg) (own : List Nat) (it c : M)
  | index (a b : M)

/-- a slice's part: none if it is left out -/
def part : M → D → R (Option Int)
  | .con .non, _ => .ok none
  | _, .int i => .ok (some i)
  | _, _ => .bad

/-- slots: a value with the depth to which it is its name's own -/
abbrev Env := List (Option (D × Nat))
/-- a def's meaning -/
abbrev Fn := List D → R (D × Nat)

def Env.val (ρ : Env) (i : Nat) : R D := match ρ[i]? with
  | some (some (d, _)) => .ok d
  | _ => .bad
/-- what a name hands on: itself, if it owns anything -/
def Env.dep (ρ : Env) (i : Nat) : List Nat := match ρ[i]? with
  | some (some (_, 0)) => []
  | some (some (_, _ + 1)) => [i]
  | _ => []
/-- .. and its items, of a name that owns its list -/
def Env.dep1 (ρ : Env) (i : Nat) : List Nat := match ρ[i]? with
  | some (some (_, k)) => if k ≤ 1 then [] else [i]
  | _ => []
def sv (d : D) : Option (D × Nat) := some (d, 0)
def Env.wipe (ρ : Env) : List Nat → Env
  | [] => ρ
  | v :: vs => (Env.wipe ρ vs).set v none
/-- these names no longer own what they hold -/
def frz1 : Option (D × Nat) → Option (D × Nat)
  | some (d, _) => some (d, 0)
  | none => none
def Env.frz (ρ : Env) : List Nat → Env
  | [] => ρ
  | i :: is => Env.frz (ρ.modify i frz1) is
def setAll : List Nat → List D → Env → Option Env
  | [], [], ρ => some ρ
  | i :: is, d :: ds, ρ => setAll is ds (ρ.set i (sv d))
  | _, _, _ => none
def Tg.set : Tg → D → Env → R Env
  | .name i, d, ρ => .ok (ρ.set i (sv d))
  | .names is, .tup ds, ρ => orBad (setAll is ds ρ)
  | .names is, .lst ds, ρ => orBad (setAll is ds ρ)
  | _, _, _ => .bad
/-- the slots on which a value hangs that is handed on as d -/
def dp (d : D) (s : List Nat) : List Nat := if atomic d then [] else s

def rngOk (i : Int) : Prop := i.natAbs < 4611686018427387904
theorem rngOk_ok {i : Int} (h : rngOk i) : -(2 ^ 62) ≤ i ∧ i < 2 ^ 62 := by
  have e : (2 : Int) ^ 62 = 4611686018427387904 := by decide
  rw [e]
  unfold rngOk at h
  omega
instance (i : Int) : Decidable (rngOk i) := by unfold rngOk; infer_instance
/-- the asInts from lo on -/
def upto (lo : Int) (n : Nat) : List D := (List.range n).map fun (i : Nat) => D.int (lo + (i : Int))

/-- a value, the slots on which it hangs when it is handed on itself, those on which its items hang -/
structure V3 where
  d : D
  s : List Nat
  t : List Nat
def V3.at (d : D) : V3 := ⟨d, [], []⟩
/-- a new value whose items hang on s -/
def V3.new (d : D) (s : List Nat) : V3 := ⟨d, dp d s, dp d s⟩

/-- the list that a comprehension makes: one item after another -/
def lcGo (f : D → R V3) : List D → R (List D × List Nat)
  | [] => .ok ([], [])
  | d :: r => do
    let v ← f d
    let w ← lcGo f r
    .ok (v.d :: w.1, v.s ++ w.2)
def lcGoIf (c : D → R Bool) (f : D → R V3) : List D → R (List D × List Nat)
  | [] => .ok ([], [])
  | d :: r => do
    let b ← c d
    if b then
      let v ← f d
      let w ← lcGoIf c f r
      .ok (v.d :: w.1, v.s ++ w.2)
    else lcGoIf c f r

def enumD (xs : List D) : List D := (List.range xs.length).zipWith (fun (i : Nat) x => D.tup [.int (i : Int), x]) xs
def zipD (xs ys : List D) : List D := List.zipWith (fun x y => D.tup [x, y]) xs ys
def lstOf : D → R (List D)
  | .lst xs => .ok xs
  | _ => .bad
def intOf : D → R Int
  | .int i => .ok i
  | _ => .bad

section
variable (Φ : Nat → Fn)
mutual
/-- an expression's value, and the slots on which it hangs -/
def ev : M → Env → R V3
  | .var i, ρ => do
    let d ← ρ.val i
    .ok ⟨d, dp d (ρ.dep i), dp d (ρ.dep1 i)⟩
  | .con d, _ => .ok (.at d)
  | .bin o a b, ρ => do
    let x ← ev a ρ
    let y ← ev b ρ
    let z ← bop o x.d y.d
    .ok (.new z (x.t ++ y.t))
  | .neg a, ρ => do
    let x ← ev a ρ
    let i ← intOf x.d
    .ok (.at (.int (-i)))
  | .not a, ρ => do
    let x ← ev a ρ
    let b ← truth x.d
    .ok (.at (.bl !b))
  | .and a b, ρ => do
    let x ← ev a ρ
    let c ← truth x.d
    if c then ev b ρ else .ok x
  | .or a b, ρ => do
    let x ← ev a ρ
    let c ← truth x.d
    if c then .ok x else ev b ρ
  | .cmp o a b, ρ => do
    let x ← ev a ρ
    let y ← ev b ρ
    let z ← cop o x.d y.d
    .ok (.at (.bl z))
  | .chain o p a b c, ρ => do
    let x ← ev a ρ
    let y ← ev b ρ
    let k ← cop o x.d y.d
    if k then
      let z ← ev c ρ
      let l ← cop p y.d z.d
      .ok (.at (.bl l))
    else .ok (.at (.bl false))
  | .ite c a b, ρ => do
    let x ← ev c ρ
    let k ← truth x.d
    if k then ev a ρ else ev b ρ
  | .lst es, ρ => do
    let xs ← evs es ρ
    .chk (xs.1.length ≤ szl) (.ok (.new (.lst xs.1) xs.2.1))
  | .tup es, ρ => do
    let xs ← evs es ρ
    .chk (xs.1.length ≤ szl) (.ok (.new (.tup xs.1) xs.2.1))
  | .ix a b, ρ => do
    let x ← ev a ρ
    let y ← ev b ρ
    let i ← intOf y.d
    let xs ← items x.d
    let z ← orBad (atI xs i)
    .ok (.new z x.t)
  | .sl a lo hi, ρ => do
    let x ← ev a ρ
    let l ← ev lo ρ
    let h ← ev hi ρ
    let l ← part lo l.d
    let h ← part hi h.d
    match x.d with
    | .lst xs => .ok (.new (.lst (cut xs l h)) x.t)
    | .tup xs => .ok (.new (.tup (cut xs l h)) x.t)
    | _ => .bad
  | .isi a ts, ρ => do
    let x ← ev a ρ
    .ok (.at (.bl (ts.any (isTy x.d))))
  | .isi1 a t, ρ => do
    let x ← ev a ρ
    .ok (.at (.bl (isTy x.d t)))
  | .bf f es, ρ => do
    let xs ← evs es ρ
    let z ← bf f xs.1
    .ok (.new z xs.2.2)
  | .call f es, ρ => do
    let xs ← evs es ρ
    let z ← Φ f xs.1
    .ok (.new z.1 xs.2.1)
  | .lc e t own it, ρ => do
    let v ← ev it ρ
    let ds ← items v.d
    let es ← lcGo (fun d => do
      let ρ1 ← t.set d ((ρ.frz v.t).wipe own)
      ev e ρ1) ds
    .chk (es.1.length ≤ szl) (.ok (.new (.lst es.1) (v.t ++ es.2)))
  | .lcIf e t own it c, ρ => do
    let v ← ev it ρ
    let ds ← items v.d
    let es ← lcGoIf (fun d => do
      let ρ1 ← t.set d ((ρ.frz v.t).wipe own)
      let x ← ev c ρ1
      truth x.d) (fun d => do
      let ρ1 ← t.set d ((ρ.frz v.t).wipe own)
      ev e ρ1) ds
    .chk (es.1.length ≤ szl) (.ok (.new (.lst es.1) (v.t ++ es.2)))
  | .index a b, ρ => do
    let x ← ev a ρ
    let y ← ev b ρ
    let i ← intOf y.d
    let xs ← lstOf x.d
    let ns ← orBad (asInts xs)
    let j ← orBad (ns.findIdx? (· == i))
    .ok (.at (.int ((j : Nat) : Int)))
  | .rng1 a, ρ => do
    let x ← ev a ρ
    let j ← intOf x.d
    .chk (rngOk j) (.ok (.at (.lst (upto 0 j.toNat))))
  | .rng2 a b, ρ => do
    let x ← ev a ρ
    let y ← ev b ρ
    let i ← intOf x.d
    let j ← intOf y.d
    .chk (rngOk i ∧ rngOk j) (.ok (.at (.lst (upto i (j - i).toNat))))
  | .enum a, ρ => do
    let x ← ev a ρ
    let xs ← items x.d
    .ok ⟨.lst (enumD xs), x.s, x.t⟩
  | .zip a b, ρ => do
    let x ← ev a ρ
    let y ← ev b ρ
    match x.d, y.d with
    | .lst xs, .lst ys => .ok ⟨.lst (zipD xs ys), x.s ++ y.s, x.t ++ y.t⟩
    | .tup xs, .tup ys => .ok ⟨.lst (zipD xs ys), x.s ++ y.s, x.t ++ y.t⟩
    | _, _ => .bad
  | .rev a, ρ => do
    let x ← ev a ρ
    let xs ← items x.d
    .ok ⟨.lst xs.reverse, x.s, x.t⟩
  | .nil, _ => .bad
  | .cons _ _, _ => .bad
/-- arguments: their values, on which slots they hang, on which their items -/
def evs : M → Env → R (List D × List Nat × List Nat)
  | .nil, _ => .ok ([], [], [])
  | .cons a r, ρ => do
    let x ← ev a ρ
    let xs ← evs r ρ
    .ok (x.d :: xs.1, x.s ++ xs.2.1, x.t ++ xs.2.2)
  | _, _ => .bad
end
end

/-! ### statements -/
inductive S where
  | skip
  | seq (a b : S)
  | asg (i : Nat) (e : M)
  | unp (is : List Nat) (e : M)
  | six (i : Nat) (a e : M)
  | app (i : Nat) (e : M)
  | exp (e : M)
  | ret (e : M)
  | retN
  | ite (c : M) (a b : S)
  | whl (c : M) (b : S)
  | for_ (t : Tg) (it : M) (b : S)
  | brk
  | cnt
  | rai (c : Nat) (es : M)

def isL : D → Nat
  | .lst _ => 1
  | _ => 0

inductive Out where
  | bad
  | nx (ρ : Env)
  | rt (d : D) (k : Nat)
  | bk (ρ : Env)
  | ct (ρ : Env)
  | ex (c : Nat) (fs : List D)

section
variable (Φ : Nat → Fn)
/-- a value that may be its receiver's own: new lists, what a def hands over -/
def evO : M → Env → R (V3 × Nat)
  | .call f es, ρ => do
    let xs ← evs Φ es ρ
    let z ← Φ f xs.1
    .ok (.new z.1 xs.2.1, z.2)
  | .bin o a b, ρ => do
    let x ← ev Φ (.bin o a b) ρ
    .ok (x, isL x.d)
  | .lst es, ρ => do
    let x ← ev Φ (.lst es) ρ
    .ok (x, 1)
  | .lc e t own it, ρ => do
    let x ← ev Φ (.lc e t own it) ρ
    .ok (x, 1)
  | .lcIf e t own it c, ρ => do
    let x ← ev Φ (.lcIf e t own it c) ρ
    .ok (x, 1)
  | e, ρ => do
    let x ← ev Φ e ρ
    .ok (x, 0)

def tst (e : M) (ρ : Env) : R Bool := do
  let x ← ev Φ e ρ
  truth x.d

def whlGo (c : Env → R Bool) (b : Env → Out) : Nat → Env → Out
  | 0, _ => .bad
  | n + 1, ρ => match c ρ with
    | .ok true => (match b ρ with
      | .nx ρ' => whlGo c b n ρ'
      | .ct ρ' => whlGo c b n ρ'
      | .bk ρ' => .nx ρ'
      | o => o)
    | .ok false => .nx ρ
    | .exc k fs => .ex k fs
    | .bad => .bad
def forGo (t : Tg) (b : Env → Out) : List D → Env → Out
  | [], ρ => .nx ρ
  | d :: ds, ρ => match t.set d ρ with
    | .ok ρ1 => (match b ρ1 with
      | .nx ρ' => forGo t b ds ρ'
      | .ct ρ' => forGo t b ds ρ'
      | .bk ρ' => .nx ρ'
      | o => o)
    | _ => .bad
def R.out {α : Type} (m : R α) (f : α → Out) : Out := match m with
  | .ok a => f a
  | .bad => .bad
  | .exc c fs => .ex c fs
def Out.then (o : Out) (f : Env → Out) : Out := match o with
  | .nx ρ => f ρ
  | o => o
/-- the list that name i owns -/
def Env.own (ρ : Env) (i : Nat) : R (List D) := match ρ[i]? with
  | some (some (.lst xs, 1)) => .ok xs
  | _ => .bad

variable (fu : Nat)
def ex : S → Env → Out
  | .skip, ρ => .nx ρ
  | .seq a b, ρ => (ex a ρ).then (ex b)
  | .asg i e, ρ => (evO Φ e ρ).out fun x => .nx ((ρ.frz x.1.s).set i (some (x.1.d, x.2)))
  | .unp is e, ρ => (do let x ← ev Φ e ρ; let ds ← items x.d; orBad (setAll is ds (ρ.frz x.s))).out .nx
  | .six i a e, ρ => (do
      let x ← ev Φ e ρ
      let ρ1 := ρ.frz x.s
      let xs ← ρ1.own i
      let y ← ev Φ a ρ1
      let j ← intOf y.d
      let k ← orBad (ixN xs.length j)
      .ok (ρ1.set i (some (.lst (xs.set k x.d), 1)))).out .nx
  | .app i e, ρ => (do
      let x ← ev Φ e ρ
      let ρ1 := ρ.frz x.s
      let xs ← ρ1.own i
      .chk (xs.length < szl) (.ok (ρ1.set i (some (.lst (xs ++ [x.d]), 1))))).out .nx
  | .exp e, ρ => (ev Φ e ρ).out fun _ => .nx ρ
  | .ret e, ρ => (match e with
    | .var i => (match ρ[i]? with
      | some (some (d, k)) => .rt d k
      | _ => .bad)
    | _ => (evO Φ e ρ).out fun x => .rt x.1.d x.2)
  | .retN, _ => .rt .non 0
  | .ite c a b, ρ => (tst Φ c ρ).out fun k => if k then ex a ρ else ex b ρ
  | .whl c b, ρ => whlGo (tst Φ c) (ex b) fu ρ
  | .for_ t it b, ρ => (do let x ← ev Φ it ρ; let ds ← items x.d; .ok (ds, ρ.frz (x.s ++ x.t))).out fun p => forGo t (ex b) p.1 p.2
  | .brk, ρ => .bk ρ
  | .cnt, ρ => .ct ρ
  | .rai c es, ρ => (evs Φ es ρ).out fun xs => .ex c xs.1

/-- a def's run: np parameters, n slots, the parameters first -/
def run (np n : Nat) (b : S) : Fn := fun ds => if ds.length = np then (match ex Φ fu b (ds.map sv ++ List.replicate (n - ds.length) none) with
  | .rt d k => .ok (d, k)
  | .nx _ => .ok (.non, 0)
  | .ex c fs => .exc c fs
  | _ => .bad) else .bad
end
/-- the defs by their places: (parameters, slots, body); to depth k -/
def pphi (fu : Nat) (tab : List (Nat × Nat × S)) : Nat → Nat → Fn
  | 0, _, _ => .bad
  | k + 1, j, ds => match tab[j]? with
    | some d => run (pphi fu tab k) fu d.1 d.2.1 d.2.2 ds
    | none => .bad
end Mp

set_option Elab.async false
set_option linter.all false
set_option maxRecDepth 100000
set_option maxHeartbeats 4000000
/-! Mp1: data over the heap: what a value is worth, the state, its steps. -/
namespace Mp
open PySem PySem.Spec PyProof.Rows L2

/-! ### a value's worth -/
mutual
inductive Rep (K : PySem.W.Frag) (G : Hp) : V → D → Prop
  | non : Rep K G .non .non
  | bl (b : Bool) : Rep K G (.bl b) (.bl b)
  | int (i : Int) : Rep K G (.int i) (.int i)
  | str (x : Str) : Rep K G (.str x) (.str x)
  | lst {a : Addr} {xs : List V} {ds : List D} : SqL K G a xs → RepAll K G xs ds → Rep K G (.ref a) (.lst ds)
  | tup {a : Addr} {xs : List V} {ds : List D} : SqT K G a xs → RepAll K G xs ds → Rep K G (.ref a) (.tup ds)
inductive RepAll (K : PySem.W.Frag) (G : Hp) : List V → List D → Prop
  | nil : RepAll K G [] []
  | cons {v : V} {vs : List V} {d : D} {ds : List D} : Rep K G v d → RepAll K G vs ds → RepAll K G (v :: vs) (d :: ds)
end
theorem sqT_same {K : PySem.W.Frag} {H H' : Hp} {a : Addr} {xs : List V} (e : Same H H') (h : SqT K H a xs) : SqT K H' a xs := by
  rcases h with (h | ⟨o, h⟩) | h
  · exact .inl (.inl (e _ _ h))
  · exact .inl (.inr ⟨o, e _ _ h⟩)
  · exact .inr h
mutual
theorem Rep.mono {K : PySem.W.Frag} {G G' : Hp} (s : Same G G') : ∀ {v : V} {d : D}, Rep K G v d → Rep K G' v d
  | _, _, .non => .non
  | _, _, .bl b => .bl b
  | _, _, .int i => .int i
  | _, _, .str x => .str x
  | _, _, .lst h r => .lst (s.seq h) (RepAll.mono s r)
  | _, _, .tup h r => .tup (sqT_same s h) (RepAll.mono s r)
theorem RepAll.mono {K : PySem.W.Frag} {G G' : Hp} (s : Same G G') : ∀ {vs : List V} {ds : List D}, RepAll K G vs ds → RepAll K G' vs ds
  | _, _, .nil => .nil
  | _, _, .cons h r => .cons (Rep.mono s h) (RepAll.mono s r)
end
theorem Rep.flat {K : PySem.W.Frag} {G G' : Hp} {v : V} {d : D} (h : Rep K G v d) (a : atomic d = true) : Rep K G' v d := by
  cases h with
  | non => exact .non
  | bl b => exact .bl b
  | int i => exact .int i
  | str x => exact .str x
  | lst _ _ => cases a
  | tup _ _ => cases a
section
variable {K : PySem.W.Frag} {G : Hp}
theorem RepAll.length : ∀ {xs : List V} {ds : List D}, RepAll K G xs ds → xs.length = ds.length
  | _, _, .nil => rfl
  | _, _, .cons _ r => by rw [List.length_cons, List.length_cons, RepAll.length r]
theorem RepAll.get : ∀ {xs : List V} {ds : List D} {i : Nat} {d : D}, RepAll K G xs ds → ds[i]? = some d → ∃ x, xs[i]? = some x ∧ Rep K G x d
  | _, _, _, _, .nil, e => by simp at e
  | _, _, 0, _, .cons h r, e => by
    simp at e
    subst e
    exact ⟨_, rfl, h⟩
  | _, _, i + 1, d, .cons h r, e => by
    obtain ⟨x, e1, h1⟩ := RepAll.get (i := i) (d := d) r (by simpa using e)
    exact ⟨x, by simpa using e1, h1⟩
theorem RepAll.at : ∀ {xs : List V} {ds : List D} {i : Nat} {x : V}, RepAll K G xs ds → xs[i]? = some x → ∃ d, ds[i]? = some d ∧ Rep K G x d
  | _, _, _, _, .nil, e => by simp at e
  | _, _, 0, _, .cons h r, e => by
    simp at e
    subst e
    exact ⟨_, rfl, h⟩
  | _, _, i + 1, d, .cons h r, e => by
    obtain ⟨x, e1, h1⟩ := RepAll.at (i := i) (x := d) r (by simpa using e)
    exact ⟨x, by simpa using e1, h1⟩
theorem RepAll.append : ∀ {xs ys : List V} {ds es : List D}, RepAll K G xs ds → RepAll K G ys es → RepAll K G (xs ++ ys) (ds ++ es)
  | _, _, _, _, .nil, s => s
  | _, _, _, _, .cons h r, s => .cons h (RepAll.append r s)
theorem RepAll.take : ∀ {xs : List V} {ds : List D} (n : Nat), RepAll K G xs ds → RepAll K G (xs.take n) (ds.take n)
  | _, _, 0, _ => .nil
  | _, _, _ + 1, .nil => .nil
  | _, _, n + 1, .cons h r => .cons h (RepAll.take n r)
theorem RepAll.drop : ∀ {xs : List V} {ds : List D} (n : Nat), RepAll K G xs ds → RepAll K G (xs.drop n) (ds.drop n)
  | _, _, 0, r => r
  | _, _, _ + 1, .nil => .nil
  | _, _, n + 1, .cons h r => RepAll.drop n r
theorem RepAll.set {v : V} {d : D} (h : Rep K G v d) : ∀ {xs : List V} {ds : List D} (i : Nat), RepAll K G xs ds → RepAll K G (xs.set i v) (ds.set i d)
  | _, _, _, .nil => .nil
  | _, _, 0, .cons _ t => .cons h t
  | _, _, i + 1, .cons q t => .cons q (RepAll.set h i t)
theorem RepAll.reverse {xs : List V} {ds : List D} (h : RepAll K G xs ds) : RepAll K G xs.reverse ds.reverse := by
  induction xs generalizing ds with
  | nil =>
    cases h
    exact .nil
  | cons x r ih =>
    cases h with
    | cons h1 h2 =>
      rw [List.reverse_cons, List.reverse_cons]
      exact (ih h2).append (.cons h1 .nil)
theorem RepAll.asInts : ∀ {xs : List V} {ds : List D} {ns : List Int}, RepAll K G xs ds → asInts ds = some ns → xs = ns.map V.int
  | _, _, _, .nil, e => by
    cases e
    rfl
  | _, _, ns, .cons h r, e => by
    cases h with
    | int i =>
      unfold Mp.asInts at e
      cases q : Mp.asInts _ with
      | none => rw [q] at e; cases e
      | some ms =>
        rw [q] at e
        have e2 : i :: ms = ns := Option.some.inj e
        subst e2
        rw [RepAll.asInts r q]
        rfl
    | _ => cases e
theorem RepAll.isEmpty {xs : List V} {ds : List D} (h : RepAll K G xs ds) : xs.isEmpty = ds.isEmpty := by
  cases h <;> rfl
end

/-! ### labels, worlds, what is owned -/
abbrev Lb := Addr → Option (List Nat)
/-- the label's slot is one of S (a thing labelled [] belongs to none) -/
def inS (p S : List Nat) : Prop := ∃ i, p.head? = some i ∧ i ∈ S
open Classical in
/-- what stands still, with what the slots S own -/
noncomputable def wld (G H : Hp) (L : Lb) (S : List Nat) : Hp := fun a => match L a with
  | none => G a
  | some p => if inS p S then H a else none
def Own (K : PySem.W.Frag) (G H : Hp) (L : Lb) : Nat → List Nat → V → D → Prop
  | 0, _, v, d => Rep K G v d
  | k + 1, p, v, d => ∃ a xs ds, v = .ref a ∧ d = .lst ds ∧ H a = some (.lst xs) ∧ L a = some p ∧ xs.length = ds.length ∧
    ∀ (j : Nat) (x : V) (e : D), xs[j]? = some x → ds[j]? = some e → Own K G H L k (p ++ [j]) x e
/-- the state: names' slots ρ over σ, G stands still, L labels what names own; G0, H0: at the def's entry -/
structure SR (K : PySem.W.Frag) (G0 H0 : Hp) (ρ : Env) (σ : L2.St) (G H : Hp) (L : Lb) : Prop where
  gh : Same G H
  g0 : Same G0 G
  h0 : Same H0 H
  gnew : ∀ a o, G a = some o → G0 a = some o ∨ H0 a = none
  lab : ∀ a p, L a = some p → G a = none ∧ H0 a = none ∧ ∃ o, H a = some o
  len : σ.length = ρ.length
  slot : ∀ i d k, ρ[i]? = some (some (d, k)) → ∃ v, σ[i]? = some (some v) ∧ Own K G H L k [i] v d

section
variable {K : PySem.W.Frag} {G0 H0 G G' H H' : Hp} {ρ : Env} {σ : L2.St} {L L' : Lb} {S T : List Nat}
theorem wld_none {a : Addr} (h : L a = none) : wld G H L S a = G a := by
  unfold wld
  rw [h]
theorem wld_in {a : Addr} {p : List Nat} (h : L a = some p) (hi : inS p S) : wld G H L S a = H a := by
  unfold wld
  rw [h]
  exact if_pos hi
theorem wld_out {a : Addr} {p : List Nat} (h : L a = some p) (hi : ¬ inS p S) : wld G H L S a = none := by
  unfold wld
  rw [h]
  exact if_neg hi
theorem inS_l {p : List Nat} (h : inS p S) : inS p (S ++ T) := let ⟨i, e, m⟩ := h; ⟨i, e, List.mem_append_left _ m⟩
theorem inS_r {p : List Nat} (h : inS p T) : inS p (S ++ T) := let ⟨i, e, m⟩ := h; ⟨i, e, List.mem_append_right _ m⟩
theorem inS_app {p : List Nat} (h : inS p (S ++ T)) : inS p S ∨ inS p T := by
  obtain ⟨i, e, m⟩ := h
  rcases List.mem_append.mp m with m | m
  · exact .inl ⟨i, e, m⟩
  · exact .inr ⟨i, e, m⟩
theorem inS_nil {p : List Nat} : ¬ inS p [] := fun ⟨_, _, m⟩ => by cases m
theorem inS_one {i : Nat} {t : List Nat} : inS (i :: t) [i] := ⟨i, rfl, List.mem_singleton.mpr rfl⟩
theorem labc (L : Lb) (a : Addr) : L a = none ∨ ∃ p, L a = some p := by
  cases q : L a with
  | none => exact .inl rfl
  | some p => exact .inr ⟨p, rfl⟩
theorem SR.wldH (s : SR K G0 H0 ρ σ G H L) : Same (wld G H L S) H := fun a o e => by
  rcases labc L a with h | ⟨p, h⟩
  · rw [wld_none h] at e
    exact s.gh _ _ e
  · by_cases hi : inS p S
    · rw [wld_in h hi] at e
      exact e
    · rw [wld_out h hi] at e
      cases e
theorem SR.gwld (s : SR K G0 H0 ρ σ G H L) : Same G (wld G H L S) := fun a o e => by
  rcases labc L a with h | ⟨p, h⟩
  · rw [wld_none h]
    exact e
  · rw [(s.lab a _ h).1] at e
    cases e
theorem SR.wldSub (s : SR K G0 H0 ρ σ G H L) (hs : ∀ i ∈ S, i ∈ T) : Same (wld G H L S) (wld G H L T) := fun a o e => by
  rcases labc L a with h | ⟨p, h⟩
  · rw [wld_none h] at e ⊢
    exact e
  · by_cases hi : inS p S
    · rw [wld_in h hi] at e
      rw [wld_in h (let ⟨i, e1, m⟩ := hi; ⟨i, e1, hs i m⟩)]
      exact e
    · rw [wld_out h hi] at e
      cases e
theorem SR.wldMono (s : SR K G0 H0 ρ σ G H L) (hG : Same G G') (hH : Same H H') : Same (wld G H L S) (wld G' H' L S) := fun a o e => by
  rcases labc L a with h | ⟨p, h⟩
  · rw [wld_none h] at e ⊢
    exact hG _ _ e
  · by_cases hi : inS p S
    · rw [wld_in h hi] at e ⊢
      exact hH _ _ e
    · rw [wld_out h hi] at e
      cases e
theorem SR.wld0 (s : SR K G0 H0 ρ σ G H L) : wld G H L [] = G := funext fun a => by
  rcases labc L a with h | ⟨p, h⟩
  · exact wld_none h
  · rw [wld_out h inS_nil, (s.lab a _ h).1]
theorem Own.mono (g : Same G G') (h : Same H H') (l : ∀ a p, L a = some p → L' a = some p) : ∀ {k : Nat} {p : List Nat} {v : V} {d : D}, Own K G H L k p v d → Own K G' H' L' k p v d := by
  intro k
  induction k with
  | zero => exact fun r => Rep.mono g r
  | succ k ih =>
    rintro p v d ⟨a, xs, ds, e1, e2, e3, e4, e5, e6⟩
    exact ⟨a, xs, ds, e1, e2, h _ _ e3, l _ _ e4, e5, fun j x e q1 q2 => ih (e6 j x e q1 q2)⟩
theorem repAll_of : ∀ {xs : List V} {ds : List D}, xs.length = ds.length → (∀ (j : Nat) (x : V) (e : D), xs[j]? = some x → ds[j]? = some e → Rep K G x e) → RepAll K G xs ds
  | [], [], _, _ => .nil
  | [], _ :: _, hl, _ => by simp at hl
  | _ :: _, [], hl, _ => by simp at hl
  | x :: xs, d :: ds, hl, h => .cons (h 0 x d rfl rfl) (repAll_of (by simpa using hl) fun j y e q1 q2 => h (j + 1) y e (by simpa using q1) (by simpa using q2))
/-- an owned value, read: all that its slot owns stands in W -/
theorem Own.rep {W : Hp} (g : Same G W) : ∀ (k : Nat) (p : List Nat) (v : V) (d : D), (∀ a p', L a = some p' → p'.head? = p.head? → p ≠ [] → ∀ o, H a = some o → W a = some o) → p ≠ [] → Own K G H L k p v d → Rep K W v d := by
  intro k
  induction k with
  | zero => exact fun p v d w hp r => Rep.mono g r
  | succ k ih =>
    rintro p v d w hp ⟨a, xs, ds, e1, e2, e3, e4, e5, e6⟩
    subst e1 e2
    refine .lst (SqL.of (w a p e4 rfl hp _ e3)) (repAll_of e5 fun j x e q1 q2 => ih (p ++ [j]) x e (fun b p' hb hh _ o ho => w b p' hb ?_ hp o ho) (by simp) (e6 j x e q1 q2))
    rw [hh]
    cases p with
    | nil => exact absurd rfl hp
    | cons i t => rfl
/-- .. its items -/
theorem Own.items {k : Nat} {p : List Nat} {v : V} {d : D} {W : Hp} (g : Same G W) (w : ∀ a p', L a = some p' → p'.head? = p.head? → p ≠ [] → ∀ o, H a = some o → W a = some o) (hp : p ≠ []) (h : Own K G H L (k + 1) p v d) :
    ∃ a xs ds, v = .ref a ∧ d = .lst ds ∧ H a = some (.lst xs) ∧ L a = some p ∧ RepAll K W xs ds := by
  obtain ⟨a, xs, ds, e1, e2, e3, e4, e5, e6⟩ := h
  refine ⟨a, xs, ds, e1, e2, e3, e4, repAll_of e5 fun j x e q1 q2 => Own.rep g k (p ++ [j]) x e (fun b p' hb hh _ o ho => w b p' hb ?_ hp o ho) (by simp) (e6 j x e q1 q2)⟩
  rw [hh]
  cases p with
  | nil => exact absurd rfl hp
  | cons i t => rfl
/-- only things new to the heap were laid: the state goes on -/
theorem SR.grow (s : SR K G0 H0 ρ σ G H L) (hG : Same G G') (hH : Same H H') (gh : Same G' H') (gn : ∀ a o, G' a = some o → G a = some o ∨ H a = none) : SR K G0 H0 ρ σ G' H' L where
  gh := gh
  g0 := s.g0.trans hG
  h0 := s.h0.trans hH
  gnew := fun a o e => by
    rcases gn a o e with h | h
    · exact s.gnew a o h
    · exact .inr (s.h0.free h)
  lab := fun a p e => by
    obtain ⟨h1, h2, ⟨o, h3⟩⟩ := s.lab a p e
    refine ⟨?_, h2, ⟨o, hH _ _ h3⟩⟩
    cases q : G' a with
    | none => rfl
    | some u =>
      rcases gn a u q with z | z
      · rw [h1] at z; cases z
      · rw [h3] at z; cases z
  len := s.len
  slot := fun i d k e => by
    obtain ⟨v, e1, r⟩ := s.slot i d k e
    exact ⟨v, e1, Own.mono hG hH (fun _ _ q => q) r⟩
/-- a new thing that stands still -/
theorem SR.new (s : SR K G0 H0 ρ σ G H L) {p : Addr} {o : HO} (hp : H p = none) : SR K G0 H0 ρ σ (upd G p o) (upd H p o) L := by
  have hg : G p = none := s.gh.free hp
  have sH : Same H (upd H p o) := fun b x e => by
    rw [upd_ne (ne_of_none e hp)]
    exact e
  have sG : Same G (upd G p o) := fun b x e => by
    rw [upd_ne (ne_of_none e hg)]
    exact e
  refine s.grow sG sH (fun a x e => ?_) fun a x e => ?_
  · by_cases h : a = p
    · subst h
      rw [upd_same] at e ⊢
      exact e
    · rw [upd_ne h] at e ⊢
      exact s.gh _ _ e
  · by_cases h : a = p
    · subst h
      exact .inr hp
    · rw [upd_ne h] at e
      exact .inl e
theorem same_new {H : Hp} {p : Addr} {o : HO} (hp : H p = none) : Same H (upd H p o) := fun b x e => by
  rw [upd_ne (ne_of_none e hp)]
  exact e
open Classical in
/-- labels but those of the slots S -/
noncomputable def lbO (L : Lb) (S : List Nat) : Lb := fun a => match L a with
  | some p => if inS p S then none else some p
  | none => none
theorem lbO_none {a : Addr} (h : L a = none) : lbO L S a = none := by
  unfold lbO
  rw [h]
theorem lbO_in {a : Addr} {p : List Nat} (h : L a = some p) (hi : inS p S) : lbO L S a = none := by
  unfold lbO
  rw [h]
  exact if_pos hi
theorem lbO_out {a : Addr} {p : List Nat} (h : L a = some p) (hi : ¬ inS p S) : lbO L S a = some p := by
  unfold lbO
  rw [h]
  exact if_neg hi
theorem frz_len : ∀ (S : List Nat) (ρ : Env), (ρ.frz S).length = ρ.length
  | [], _ => rfl
  | i :: S, ρ => by
    unfold Env.frz
    rw [frz_len S]
    exact List.length_modify _ _ _
theorem frz_get : ∀ (S : List Nat) (ρ : Env) (i : Nat), (ρ.frz S)[i]? = if i ∈ S then (ρ[i]?).map frz1 else ρ[i]?
  | [], _, _ => by simp [Env.frz]
  | j :: S, ρ, i => by
    unfold Env.frz
    rw [frz_get S]
    have f2 : ∀ o : Option (D × Nat), frz1 (frz1 o) = frz1 o := fun o => by cases o <;> rfl
    by_cases h : j = i
    · subst h
      rw [List.getElem?_modify_eq]
      cases q : ρ[j]? with
      | none => simp
      | some o => simp [f2]
    · have hm : (ρ.modify j frz1)[i]? = ρ[i]? := by simp [List.getElem?_modify, h]
      rw [hm]
      by_cases h2 : i ∈ S
      · simp [h2]
      · have h3 : i ≠ j := fun z => h z.symm
        simp [h2, h3]
theorem Own.lent (s : SR K G0 H0 ρ σ G H L) : ∀ (k : Nat) (i : Nat) (p : List Nat) (v : V) (d : D), i ∉ S → Own K G H L k (i :: p) v d → Own K (wld G H L S) H (lbO L S) k (i :: p) v d := by
  intro k
  induction k with
  | zero => exact fun i p v d _ r => Rep.mono s.gwld r
  | succ k ih =>
    rintro i p v d hi ⟨a, xs, ds, e1, e2, e3, e4, e5, e6⟩
    exact ⟨a, xs, ds, e1, e2, e3, lbO_out e4 (fun ⟨j, ej, m⟩ => hi (by have ej : i = j := Option.some.inj ej; rw [ej]; exact m)), e5, fun j x e q1 q2 => ih i (p ++ [j]) x e hi (e6 j x e q1 q2)⟩
theorem SR.lend (s : SR K G0 H0 ρ σ G H L) (S : List Nat) : SR K G0 H0 (ρ.frz S) σ (wld G H L S) H (lbO L S) where
  gh := s.wldH
  g0 := s.g0.trans s.gwld
  h0 := s.h0
  gnew := fun a o e => by
    rcases labc L a with h | ⟨p', h⟩
    · rw [wld_none h] at e
      exact s.gnew a o e
    · exact .inr (s.lab a _ h).2.1
  lab := fun a p e => by
    rcases labc L a with h | ⟨p', h⟩
    · rw [lbO_none h] at e
      cases e
    · by_cases hi : inS p' S
      · rw [lbO_in h hi] at e
        cases e
      · rw [lbO_out h hi] at e
        cases e
        exact ⟨wld_out h hi, (s.lab a _ h).2⟩
  len := by rw [frz_len, s.len]
  slot := fun i d k e => by
    rw [frz_get] at e
    by_cases hi : i ∈ S
    · rw [if_pos hi] at e
      cases q : ρ[i]? with
      | none => rw [q] at e; cases e
      | some o =>
        rw [q] at e
        cases o with
        | none => cases e
        | some dk =>
          obtain ⟨d', k'⟩ := dk
          have e2 : d' = d ∧ 0 = k := by simpa [frz1] using e
          obtain ⟨e3, e4⟩ := e2
          subst e3 e4
          obtain ⟨v, e1, r⟩ := s.slot i d' k' q
          refine ⟨v, e1, ?_⟩
          show Rep K (wld G H L S) v d'
          refine Own.rep s.gwld k' [i] v d' (fun a p' hl hh _ o ho => ?_) (by simp) r
          cases p' with
          | nil => cases hh
          | cons j t =>
            have ej : j = i := Option.some.inj hh
            subst ej
            rw [wld_in hl ⟨j, rfl, hi⟩]
            exact ho
    · rw [if_neg hi] at e
      obtain ⟨v, e1, r⟩ := s.slot i d k e
      exact ⟨v, e1, Own.lent s k i [] v d hi r⟩
/-- behind a run in the lent world -/
theorem SR.unlend (s : SR K G0 H0 ρ σ G H L) {Gb : Hp} (hH : Same H H') (hG : Same (wld G H L S) Gb) (gh : Same Gb H') (gn : ∀ a o, Gb a = some o → wld G H L S a = some o ∨ H0 a = none)
    (out : ∀ a p, L a = some p → ¬ inS p S → Gb a = none) :
    ∃ G', SR K G0 H0 ρ σ G' H' L ∧ Same G G' ∧ (∀ a, Gb a = none → G' a = none) ∧ ∀ T, Same (wld Gb H' (lbO L S) T) (wld G' H' L (S ++ T)) := by
  classical
  refine ⟨fun a => if L a = none then Gb a else none, ⟨fun a o e => ?_, fun a o e => ?_, s.h0.trans hH, fun a o e => ?_, fun a p e => ?_, s.len, fun i d k e => ?_⟩, ?_, fun a e => ?_, fun T a o e => ?_⟩
  · split at e
    · exact gh _ _ e
    · cases e
  · have e1 := s.g0 _ _ e
    rcases labc L a with h | ⟨p', h⟩
    · show (if L a = none then Gb a else none) = some o
      rw [if_pos h]
      refine hG _ _ ?_
      rw [wld_none h]
      exact e1
    · rw [(s.lab a _ h).1] at e1
      cases e1
  · split at e
    · rename_i h
      rcases gn a o e with z | z
      · rw [wld_none h] at z
        exact s.gnew a o z
      · exact .inr z
    · cases e
  · obtain ⟨h1, h2, ⟨o, h3⟩⟩ := s.lab a p e
    refine ⟨?_, h2, ⟨o, hH _ _ h3⟩⟩
    show (if L a = none then Gb a else none) = none
    rw [if_neg (by rw [e]; exact fun z => nomatch z)]
  · obtain ⟨v, e1, r⟩ := s.slot i d k e
    refine ⟨v, e1, Own.mono (fun a o e => ?_) hH (fun _ _ q => q) r⟩
    rcases labc L a with h | ⟨p', h⟩
    · show (if L a = none then Gb a else none) = some o
      rw [if_pos h]
      refine hG _ _ ?_
      rw [wld_none h]
      exact e
    · rw [(s.lab a _ h).1] at e
      cases e
  · intro a o e
    rcases labc L a with h | ⟨p', h⟩
    · show (if L a = none then Gb a else none) = some o
      rw [if_pos h]
      refine hG _ _ ?_
      rw [wld_none h]
      exact e
    · rw [(s.lab a _ h).1] at e
      cases e
  · show (if L a = none then Gb a else none) = none
    rw [e]
    split <;> rfl
  · rcases labc L a with h | ⟨p', h⟩
    · rw [wld_none (lbO_none h)] at e
      rw [wld_none h]
      show (if L a = none then Gb a else none) = some o
      rw [if_pos h]
      exact e
    · by_cases hi : inS p' S
      · rw [wld_none (lbO_in h hi)] at e
        rw [wld_in h (inS_l hi)]
        exact gh _ _ e
      · by_cases ht : inS p' T
        · rw [wld_in (lbO_out h hi) ht] at e
          rw [wld_in h (inS_r ht)]
          exact e
        · rw [wld_out (lbO_out h hi) ht] at e
          cases e
end
end Mp

set_option Elab.async false
set_option linter.all false
set_option maxRecDepth 100000
set_option maxHeartbeats 4000000
/-! Mp2: rules of my own beside HandS: lists that stand anywhere, tuples summed and enumerated. -/
namespace PySem
open Sem (wp)
open AutoSeq1 (wpAny_loadPart')
set_option maxHeartbeats 1000000 in
theorem mp_meets_enumerateT (l : Addr) (items : Array Value) (n : Nat) (dct : Option Addr) (sl : Array (Option Value)) :
    Meets (Builtin.«enumerate.__new__» ⟨[.type "enumerate", .ref l], []⟩) (fun _ R s => s.heap.get? l = some { cls := .type "tuple", dict := dct, data := .seq items n, slots := sl } ∧
      R (.ok (.ret (.ref (s.heap.push { cls := .type "tuple_iterator", data := .fields #[.ref l, .int 0 0] }).objs.size)))
        { s with heap := (s.heap.push { cls := .type "tuple_iterator", data := .fields #[.ref l, .int 0 0] }).push { cls := .type "enumerate", data := .fields #[.none, .bool false, .ref s.heap.objs.size, rawInt 0, .none, .none] } }) :=
  .of_wp fun prog w A R s h => by
    obtain ⟨hp, g, d, tk, os⟩ := s; obtain ⟨hl, h⟩ := h
    have hsub := sub_enumerate
    have hL : Heap.IsTuple (Shared.heap ⟨hp, g, d, tk, os⟩) l items := ⟨_, hl, rfl, n, rfl⟩
    wp_walk using wpAny_loadPart' hl
    refine wpAny_stack_any fun st => wpAny_pure ?_
    split
    · rename_i c _ _ _ _ _
      cases (c == Value.type "enumerate")
      · wp_walk using wpAny_loadPart' hl, wpAny_pyIter_tuple hL
        exact ⟨_, rfl, h⟩
      · wp_walk using wpAny_loadPart' hl, wpAny_pyIter_tuple hL
        exact ⟨_, rfl, h⟩
    · wp_walk using wpAny_loadPart' hl, wpAny_pyIter_tuple hL
      exact ⟨_, rfl, h⟩
section
variable {prog : Program} {w : World} {A : Around} {E : Value → Shared → Prop} {s : Shared}
theorem mp_call_enumerate_tuple {l : Addr} {items : Array Value} {Q : Value → Shared → Prop} (hL : s.heap.IsTuple l items)
    (h : ∀ h', IsEnum h' (s.heap.objs.size + 1) s.heap.objs.size 0 .none → h'.IsTupleIter s.heap.objs.size l 0 → h'.objs.size = s.heap.objs.size + 2 →
      (∀ b o, s.heap.get? b = some o → h'.get? b = some o) → Q (.ref (s.heap.objs.size + 1)) { s with heap := h' }) :
    wpAny (model prog w) A (call (.type "enumerate") [.ref l]) Q E s := by
  obtain ⟨⟨c, dct, dt, sl⟩, hl, hc, n, hd⟩ := hL
  replace hc : c = .type "tuple" := hc
  replace hd : dt = .seq items n := hd
  subst hc hd
  refine callType_new F.called_enumerate (by decide) (F.typeCall_enumerate_1 _) (F.newCall_enumerate_1 _) (fun obj => F.args_object_init_2 obj _) F.entry_enumerate_new
    (mp_meets_enumerateT l items n dct sl) ⟨hl, ?_⟩
  have hz : (s.heap.push { cls := .type "tuple_iterator", data := .fields #[.ref l, .int 0 0] }).objs.size = s.heap.objs.size + 1 := Heap.size_push ..
  show _ ∧ _
  rw [hz]
  have he : IsEnum ((s.heap.push { cls := .type "tuple_iterator", data := .fields #[.ref l, .int 0 0] }).push
      { cls := .type "enumerate", data := .fields #[.none, .bool false, .ref s.heap.objs.size, rawInt 0, .none, .none] }) (s.heap.objs.size + 1) s.heap.objs.size 0 .none := by
    have := Heap.get?_push_size (s.heap.push { cls := .type "tuple_iterator", data := .fields #[.ref l, .int 0 0] })
      (o := { cls := .type "enumerate", data := .fields #[.none, .bool false, .ref s.heap.objs.size, rawInt 0, .none, .none] }) rfl
    rw [hz] at this; exact this
  refine ⟨⟨_, he, rfl⟩, h _ he ⟨_, Heap.get?_push_of_some _ (Heap.get?_push_size _ rfl), rfl, rfl⟩ (by rw [Heap.size_push, hz]) fun b o x => Heap.get?_push_of_some _ (Heap.get?_push_of_some _ x)⟩

theorem mp_sum_tuple {l : Addr} {its : List Value} {ns : List Int} {Q : Value → Shared → Prop} (hh : A.handled = none) (hl : s.heap.IsTuple l its.toArray) (hi : PyProof.Rows.IntsAre its ns)
    (h : ∀ h' tk t', (∀ b o, s.heap.get? b = some o → h'.get? b = some o) → Q (.int ns.sum t') { s with heap := h', toks := tk }) : wpAny (model prog w) A (call (.builtin "sum") [.ref l]) Q E s := by
  obtain ⟨xs, e⟩ := hi.allInts.items
  have hn : numsOf (intItems xs).toList = ns := by rw [← e]; exact hi.numsOf
  rw [nums_intItems] at hn
  rw [e] at hl
  have hlt : l < s.heap.objs.size := let ⟨_, q, _⟩ := hl; Heap.lt_size q
  have key : ∀ h' tk t', (∀ b o, s.heap.get? b = some o → h'.get? b = some o) → Q (.int (preSum (numAt xs) xs.size) t') { s with heap := h', toks := tk } := fun h' tk t' hk => by
    have := h h' tk t' hk
    rw [preSum_eq, List.take_of_length_le (by simp), hn]
    exact this
  refine call_sum_walkG (wpAny_pyIter_tuple hl ?_)
  refine ⟨s.heap.objs.size, _, _, _, _, _, numAt xs, rfl, Walks.tuple (A := A.in1) hh s.heap.objs.size l (Nat.ne_of_lt hlt) (intItems xs), ⟨⟨_, Heap.get?_push_size _ rfl, rfl, rfl⟩, (let ⟨o, ho, hc, n, hd⟩ := hl; ⟨o, Heap.get?_push_of_some _ ho, hc, n, hd⟩)⟩, ?_, (fun _ _ => intItems_at), fun h' tk t' hk => ?_⟩
  · intro b hb
    have e' : b = s.heap.objs.size ∨ b = l := by simpa using hb
    show b < (s.heap.push _).objs.size
    rw [Heap.size_push]
    rcases e' with z | z <;> rw [z]
    · exact Nat.lt_succ_self _
    · exact Nat.lt_succ_of_lt hlt
  · have := key h' tk t' fun b o e => hk b o (by
      have hb := Heap.lt_size e
      simp only [List.mem_singleton]
      exact Nat.ne_of_lt hb) (Heap.get?_push_of_some _ e)
    simpa [intItems] using this
theorem mp_enumT_end {e it t : Addr} {i : Nat} {items : Array Value} {old : Value} {Q : Option Value → Shared → Prop} (hh : A.handled = none) {k : Int}
    (he : IsEnum s.heap e it k old) (hit : s.heap.IsTupleIter it t i) (ht : s.heap.IsTuple t items) (hx : items[i]? = none)
    (hQ : ∀ h', Heap.ExtBut it s.heap h' → Q none { s with heap := h' }) : wpAny (model prog w) A (pyNext (.ref e)) Q E s := by
  have hT : s.TypeIs (.ref e) "enumerate" := ⟨_, he, rfl⟩
  unfold pyNext
  refine wpAny_bind (wpAny_attempt (wpAny_callSpecial?_slot (name := Str.ofString "__next__") hT F.slot_enumerate_next
    (wpAny_call_entry F.slot_enumerate_next hT F.entry_enumerate_next ?_ (F.args_enumerate_next_1 _))))
  show wpAny _ _ (field (.ref e) 2 >>= _) _ _ _
  refine wpAny_bind (wpAny_field he rfl (x := .ref it) rfl ?_)
  refine wpAny_bind (wpAny_nextOf_tuple_end (A := A.in1) hh hit ht hx fun h' x he' hx' => ?_)
  obtain ⟨o, ho, hc⟩ := hx'
  refine wpAny_bind (wpAny_isInstance (T := "StopIteration") (b := true) ⟨o, ho, hc⟩ isSubtype_stop ?_)
  exact wpAny_pure (hQ _ he')
end
end PySem

namespace L2
open PySem PySem.Spec PyProof.Rows
section
variable {X : Cx}
/-- lists joined, wherever they stand -/
def rCatL (K : PySem.W.Frag) : R2 := fun x y H Q => ∃ l b xs zs, x = .ref l ∧ y = .ref b ∧ SqL K H l xs ∧ SqL K H b zs ∧ xs.length + zs.length ≤ sizeLine ∧ ∀ p, H p = none → Q (.ref p) (upd H p (.lst (xs ++ zs)))
theorem op_catL : OpR X (binaryOp .Add) (rCatL X.K) := by
  intro pins s σ H x y v u Q I rx ry h
  obtain ⟨l, b, xs, zs, rfl, rfl, hH, hB, hz, q⟩ := h
  cases rx
  cases ry
  obtain ⟨its, r, p1, _⟩ := I.list hH
  obtain ⟨its2, r2, p2, _⟩ := I.list hB
  obtain ⟨⟨cls, dd, data, sl⟩, n, ho, hc, hdd, hd⟩ := p1
  obtain ⟨⟨cls2, dd2, data2, sl2⟩, n2, ho2, hc2, hdd2, hd2⟩ := p2
  simp only at hc hd hc2 hd2 hdd hdd2
  subst hc hd hc2 hd2 hdd hdd2
  have hl := r.length
  have hl2 := r2.length
  refine concat_meets ⟨_, ho, rfl⟩ ⟨_, ho2, rfl⟩ noFill_list_add seq_list_add PySem.F.slot_list_add PySem.F.entry_list_add (PySem.F.args_list_add_2 _ _) (list_addW l b its.toArray its2.toArray n n2 none none sl sl2 (by simp only [List.size_toArray]; omega)) ⟨ho, ho2, ?_⟩
  have ea : its.toArray ++ its2.toArray = (its ++ its2).toArray := by simp
  rw [ea]
  exact ⟨.ref _, _, I.lnew (t' := s.toks) (r.append r2) (by rw [List.length_append]; omega), rfl, q _ I.fresh⟩
/-- sum(x) of a list or tuple of ints -/
def rSumA (K : PySem.W.Frag) : List V → Hp → VK → Prop := fun vs H Q => ∃ (a : Addr) (ns : List Int), vs = [V.ref a] ∧ (SqL K H a (ns.map V.int) ∨ SqT K H a (ns.map V.int)) ∧ Q (.int ns.sum) H
theorem cr_sumA (hc : X.calm = true) : CallR X (.builtin "sum") (rSumA X.K) := by
  intro pins s σ H vs us Q I r h
  obtain ⟨a, ns, rfl, hs, q⟩ := h
  rcases hs with hs | hs
  · exact cr_sum hc pins s σ H _ us Q I r ⟨a, ns, rfl, hs, q⟩
  · obtain ⟨its, rv, hl, _⟩ := I.tuple hs
    rw [Vals.ref1 r]
    exact mp_sum_tuple (I.ok.hd hc) hl rv.ints fun h' tk t' hk => ⟨.int _, H, I.kept hk, ⟨_, rfl⟩, q⟩
end

/-! ### walks -/
section
variable {X : Cx} {tg : Expr}
/-- a list or a tuple -/
def iSeq (K : PySem.W.Frag) (tl : TE) : TI := fun σ H R => tl σ H fun x H1 => ∃ a, x = .ref a ∧ (((∃ xs, SqL K H1 a xs) ∧ R (Itl K a) H1) ∨ ((∃ xs, SqT K H1 a xs) ∧ R (Itt K a) H1))
theorem pi_seq {l : Expr} {tl : TE} (hl : PE X l tl) : PI X tg l (iSeq X.K tl) := by
  refine ⟨fun pins s σ H R I h => ?_⟩
  refine thn (hl.run pins s σ H _ I h) fun v s1 ⟨x, H1, I1, r1, q1⟩ => ?_
  obtain ⟨a, e, q⟩ := q1
  subst e
  cases r1
  rcases q with ⟨⟨xs, hq⟩, q⟩ | ⟨⟨xs, hq⟩, q⟩
  · obtain ⟨its, rv, p, hz⟩ := I1.list hq
    refine wpAny_pyIter_list p.isList ?_
    refine ⟨s1.heap.objs.size, [s1.heap.objs.size], _, _, H1, rfl, I1.kept (t' := s1.toks) fun b o e => Heap.get?_push_of_some _ e, turn_list a _, ⟨_, Heap.get?_push_size _ rfl, rfl, rfl⟩, fun b hb => ?_, q⟩
    have e : b = s1.heap.objs.size := by simpa using hb
    subst e
    exact I1.fpOk (Nat.le_refl _) (I1.hok.fresh (Nat.le_refl _))
  · obtain ⟨its, rv, p, hz⟩ := I1.tuple hq
    refine wpAny_pyIter_tuple p ?_
    refine ⟨s1.heap.objs.size, [s1.heap.objs.size], _, _, H1, rfl, I1.kept (t' := s1.toks) fun b o e => Heap.get?_push_of_some _ e, turn_tuple a _, ⟨_, Heap.get?_push_size _ rfl, rfl, rfl⟩, fun b hb => ?_, q⟩
    have e : b = s1.heap.objs.size := by simpa using hb
    subst e
    exact I1.fpOk (Nat.le_refl _) (I1.hok.fresh (Nat.le_refl _))
/-- the tuple at a, each item in a new pair -/
def IteT (K : PySem.W.Frag) (a : Addr) : It :=
  ⟨fun i H => ∃ (xs : List V) (x : V), SqT K H a xs ∧ xs[i]? = some x, fun i H v H' => ∃ T x, v = .ref T ∧ H T = none ∧ H' = upd H T (.tup [.int (i : Nat), x]) ∧ ∀ xs, SqT K H a xs → xs[i]? = some x, fun i H => ∃ xs : List V, SqT K H a xs ∧ xs.length ≤ i⟩
end
theorem turn_enumT {P : Program} {w : World} {K : PySem.W.Frag} {elts : List Expr} {kk : Nat} {tpos : Pos} (a e it : Addr) :
    Turn P w K (.Tuple elts kk tpos) (IteT K a) [e, it] e (fun i h => (∃ old, IsEnum h e it ((i : Nat) : Int) old) ∧ h.IsTupleIter it a i ∧ e ≠ it) where
  mem := by simp
  obj := fun i h st b hb => by
    obtain ⟨⟨old, he⟩, ⟨o, ho, hc, hd⟩, _⟩ := st
    have e' : b = e ∨ b = it := by simpa using hb
    rcases e' with z | z
    · rw [z]; exact ⟨_, he, fun v q => nomatch q⟩
    · rw [z]; exact ⟨o, ho, fun v q => by rw [hd] at q; cases q⟩
  keep := fun i h h' st k => let ⟨⟨old, he⟩, hi, hne⟩ := st; ⟨⟨old, k e (by simp) _ he⟩, hi.at fun o q => k it (by simp) o q, hne⟩
  item := by
    intro X hP hw hK hc i pins s σ H E I hf st hg
    subst hP hw hK
    obtain ⟨⟨old, he⟩, hit, hne⟩ := st
    obtain ⟨xs, x, hq, hx⟩ := hg
    obtain ⟨its, rv, p, hz⟩ := I.tuple hq
    obtain ⟨u, hu, ru⟩ := rv.get hx
    have hel : e < s.heap.objs.size := Heap.lt_size he
    have hil : it < s.heap.objs.size := by obtain ⟨_, q, _⟩ := hit; exact Heap.lt_size q
    have hai : a ≠ it := fun z => by
      obtain ⟨o, ho, hcl, n, hdd⟩ := p
      obtain ⟨o2, ho2, hc2, hd2⟩ := hit
      rw [z, ho2] at ho
      cases ho
      rw [hd2] at hdd
      cases hdd
    have hea : e ≠ a := fun z => by
      obtain ⟨o, ho, hcl, n, hdd⟩ := p
      have he2 : s.heap.get? a = some _ := z ▸ he
      rw [he2] at ho
      cases ho
      cases hdd
    have hef : e ∉ [it, a] := by simp [hne, hea]
    have hilt : i < its.toArray.size := by
      have h1 := (List.getElem?_eq_some_iff.mp hu).1
      simpa using h1
    refine wpAny_pyNext_enum_itemD (Draws.tuple (A := X.A.in1) (I.ok.hd hc) it a hai its.toArray) he ⟨hit, p⟩ hilt hne hef fun x' h' tk hx' ho hst' hT hsz hk => ?_
    obtain ⟨hit', p'⟩ := hst'
    have exu : x' = u := by
      have h2 : its.toArray[i]? = some u := by simpa using hu
      exact Option.some.inj (hx'.symm.trans h2)
    subst exu
    refine ⟨_, rfl, wpAny_letOwnedTupleGo_enum (s := { s with heap := h', toks := tk + 1 }) ho fun h'' he' sb => ?_⟩
    have hT2 : h''.get? s.heap.objs.size = some { cls := .type "tuple", data := .seq #[.int i tk, x'] } := (sb.2 _ (Nat.ne_of_gt hel)).trans hT
    have new : ObjOk X.prog X.w (upd H s.heap.objs.size (.tup [.int (i : Nat), x])) h'' s.heap.objs.size (.tup [.int (i : Nat), x]) :=
      ⟨by show 2 ≤ sizeLine; decide, [.int i tk, x'], .cons ⟨_, rfl⟩ (.cons ru .nil), ⟨_, hT2, rfl, _, rfl⟩⟩
    have I1 : Inv X pins σ (upd H s.heap.objs.size (.tup [.int (i : Nat), x])) { s with heap := h'', toks := tk + 1 } :=
      I.turnedNew (ch := [e, it]) (fun b ob hb q => (sb.2 b (fun z => hb (by simp [z]))).trans (hk b ob (fun z => hb (by simp [z])) (fun z => hb (by simp [z])) q)) hf (Nat.le_refl _) new
    refine ⟨.ref s.heap.objs.size, _, I1, rfl, ⟨_, x, rfl, I.hok.fresh (Nat.le_refl _), rfl, fun ys hy => by rw [I.tuple_inj hy hq]; exact hx⟩, ⟨⟨x', ?_⟩, hit'.at fun o q => (sb.2 it (Ne.symm hne)).trans q, hne⟩, fun b hb => ?_⟩
    · have e1 : ((i + 1 : Nat) : Int) = (i : Int) + 1 := by omega
      rw [e1]; exact he'
    · have hb' : b < s.heap.objs.size := by
        have e' : b = e ∨ b = it := by simpa using hb
        rcases e' with z | z
        · rw [z]; exact hel
        · rw [z]; exact hil
      rw [upd_ne (Nat.ne_of_lt hb')]
      exact (hf b hb).1
  done := by
    intro X hP hw hK hc i pins s σ H E I hf st hg
    subst hP hw hK
    obtain ⟨⟨old, he⟩, hit, hne⟩ := st
    obtain ⟨xs, hq, hx⟩ := hg
    obtain ⟨its, rv, p, hz⟩ := I.tuple hq
    obtain ⟨f0, f1, f2, f3, f4, f5⟩ := hf it (by simp)
    have hl := rv.length
    have hsz : its.toArray.size ≤ i := by simp only [List.size_toArray]; omega
    have hai : a ≠ it := fun z => by
      obtain ⟨o, ho, hcl, n, hdd⟩ := p
      obtain ⟨o2, ho2, hc2, hd2⟩ := hit
      rw [z, ho2] at ho
      cases ho
      rw [hd2] at hdd
      cases hdd
    refine mp_enumT_end (I.ok.hd hc) he hit p (by rw [Array.getElem?_eq_none]; exact hsz) fun h' eb => ⟨rfl, I.turned (t' := s.toks) (fun b o hb q => eb b o hb q) f0 f1 f3 f4 f5⟩
  self := fun A i s Q E st h => let ⟨⟨_, he⟩, _⟩ := st; wpAny_pyIter_enum he h
end L2

set_option Elab.async false
set_option linter.all false
set_option maxRecDepth 100000
set_option maxHeartbeats 4000000
/-! Mp3: readings of the small language; operations. -/
namespace Mp
open PySem PySem.Spec PyProof.Rows L2

/-- a value in two worlds: where it stands itself, where its items stand -/
def RepW (K : PySem.W.Frag) (Ws Wt : Hp) (v : V) (d : D) : Prop := match d with
  | .lst ds => ∃ a xs, v = .ref a ∧ SqL K Ws a xs ∧ RepAll K Ws xs ds ∧ RepAll K Wt xs ds
  | .tup ds => ∃ a xs, v = .ref a ∧ SqT K Ws a xs ∧ RepAll K Ws xs ds ∧ SqT K Wt a xs ∧ RepAll K Wt xs ds
  | d => Rep K Ws v d
abbrev RepV (K : PySem.W.Frag) (G H : Hp) (L : Lb) (v : V) (x : V3) : Prop := RepW K (wld G H L x.s) (wld G H L x.t) v x.d
/-- arguments -/
inductive RepWs (K : PySem.W.Frag) (Ws Wt : Hp) : List V → List D → Prop
  | nil : RepWs K Ws Wt [] []
  | cons {v : V} {vs : List V} {d : D} {ds : List D} : RepW K Ws Wt v d → RepWs K Ws Wt vs ds → RepWs K Ws Wt (v :: vs) (d :: ds)
abbrev RepVs (K : PySem.W.Frag) (G H : Hp) (L : Lb) (vs : List V) (x : List D × List Nat × List Nat) : Prop := RepWs K (wld G H L x.2.1) (wld G H L x.2.2) vs x.1

section
variable {K : PySem.W.Frag} {G0 H0 G G' H H' W Ws Wt Ws' Wt' : Hp} {ρ : Env} {σ : L2.St} {L : Lb} {v : V} {d : D} {x : V3}
theorem RepW.s (r : RepW K Ws Wt v d) : Rep K Ws v d := by
  cases d with
  | lst ds =>
    obtain ⟨a, xs, e, q, r, _⟩ := r
    rw [e]
    exact .lst q r
  | tup ds =>
    obtain ⟨a, xs, e, q, r, _⟩ := r
    rw [e]
    exact .tup q r
  | _ => exact r
theorem RepW.mono (s : Same Ws Ws') (t : Same Wt Wt') (r : RepW K Ws Wt v d) : RepW K Ws' Wt' v d := by
  cases d with
  | lst ds =>
    obtain ⟨a, xs, e, q, r1, r2⟩ := r
    exact ⟨a, xs, e, s.seq q, RepAll.mono s r1, RepAll.mono t r2⟩
  | tup ds =>
    obtain ⟨a, xs, e, q, r1, q2, r2⟩ := r
    exact ⟨a, xs, e, sqT_same s q, RepAll.mono s r1, sqT_same t q2, RepAll.mono t r2⟩
  | _ => exact Rep.mono s r
theorem RepWs.mono (s : Same Ws Ws') (t : Same Wt Wt') {vs : List V} {ds : List D} (r : RepWs K Ws Wt vs ds) : RepWs K Ws' Wt' vs ds := by
  induction r with
  | nil => exact .nil
  | cons a _ ih => exact .cons (a.mono s t) ih
theorem RepWs.s {vs : List V} {ds : List D} (r : RepWs K Ws Wt vs ds) : RepAll K Ws vs ds := by
  induction r with
  | nil => exact .nil
  | cons a _ ih => exact .cons a.s ih
/-- one world -/
theorem RepW.one (r : Rep K W v d) : RepW K W W v d := by
  cases r with
  | lst h r => exact ⟨_, _, rfl, h, r, r⟩
  | tup h r => exact ⟨_, _, rfl, h, r, h, r⟩
  | non => exact .non
  | bl b => exact .bl b
  | int i => exact .int i
  | str x => exact .str x
theorem RepV.mono (sr : SR K G0 H0 ρ σ G H L) (g : Same G G') (h : Same H H') (r : RepV K G H L v x) : RepV K G' H' L v x := RepW.mono (sr.wldMono g h) (sr.wldMono g h) r
theorem RepVs.mono (sr : SR K G0 H0 ρ σ G H L) {vs : List V} {y : List D × List Nat × List Nat} (g : Same G G') (h : Same H H') (r : RepVs K G H L vs y) : RepVs K G' H' L vs y :=
  RepWs.mono (sr.wldMono g h) (sr.wldMono g h) r
/-- a flat value -/
theorem RepW.flat (r : Rep K W v d) (a : atomic d = true) : RepW K Ws Wt v d := by
  cases d with
  | lst _ => cases a
  | tup _ => cases a
  | _ => exact Rep.flat r a
theorem RepV.at (r : Rep K W v d) (a : atomic d = true) : RepV K G H L v (.at d) := RepW.flat r a
theorem RepV.at' {t : List Nat} (r : Rep K W v d) (a : atomic d = true) : RepV K G H L v (.new d t) := RepW.flat r a
/-- a value whose worth hangs on t -/
theorem RepV.of {t : List Nat} (r : Rep K (wld G H L t) v d) : RepV K G H L v (.new d t) := by
  cases h : atomic d with
  | true => exact RepW.flat r h
  | false =>
    have e : dp d t = t := by
      unfold dp
      rw [h]
      rfl
    show RepW K (wld G H L (dp d t)) (wld G H L (dp d t)) v d
    rw [e]
    exact RepW.one r
theorem wld_new (sr : SR K G0 H0 ρ σ G H L) {p : Addr} {o : HO} {S : List Nat} (hp : H p = none) : wld (upd G p o) (upd H p o) L S p = some o := by
  rcases labc L p with h | ⟨p', h⟩
  · rw [wld_none h, upd_same]
  · obtain ⟨_, _, ⟨u, e⟩⟩ := sr.lab p _ h
    rw [hp] at e
    cases e
theorem RepV.newLst (sr : SR K G0 H0 ρ σ G H L) {p : Addr} {xs : List V} {ds : List D} {t : List Nat} (hp : H p = none) (ra : RepAll K (wld G H L t) xs ds) :
    RepV K (upd G p (.lst xs)) (upd H p (.lst xs)) L (.ref p) (.new (.lst ds) t) := by
  have hg : G p = none := sr.gh.free hp
  have m := sr.wldMono (S := t) (same_new (o := .lst xs) hg) (same_new (o := .lst xs) hp)
  exact RepV.of (.lst (SqL.of (wld_new sr hp)) (RepAll.mono m ra))
theorem RepV.newTup (sr : SR K G0 H0 ρ σ G H L) {p : Addr} {xs : List V} {ds : List D} {t : List Nat} (hp : H p = none) (ra : RepAll K (wld G H L t) xs ds) :
    RepV K (upd G p (.tup xs)) (upd H p (.tup xs)) L (.ref p) (.new (.tup ds) t) := by
  have hg : G p = none := sr.gh.free hp
  have m := sr.wldMono (S := t) (same_new (o := .tup xs) hg) (same_new (o := .tup xs) hp)
  exact RepV.of (.tup (SqT.of (wld_new sr hp)) (RepAll.mono m ra))
/-- a tuple is itself, its items hang on t -/
theorem RepV.sameTup {a : Addr} {xs : List V} {ds : List D} {t : List Nat} (q : SqT K (wld G H L t) a xs) (ra : RepAll K (wld G H L t) xs ds) : RepV K G H L (.ref a) (.new (.tup ds) t) :=
  RepV.of (.tup q ra)
end

/-! ### readings -/
section
variable (K : PySem.W.Frag) (G0 H0 : Hp) (ρ : Env)
def tEv (r : R V3) : TE := fun σ H Q => ∃ G L, SR K G0 H0 ρ σ G H L ∧ ∃ x, r = .ok x ∧ ∀ v H' G', SR K G0 H0 ρ σ G' H' L → Same G G' → Same H H' → RepV K G' H' L v x → Q v H'
def tEvs (r : R (List D × List Nat × List Nat)) : TA := fun σ H Q => ∃ G L, SR K G0 H0 ρ σ G H L ∧ ∃ x, r = .ok x ∧ ∀ vs H' G', SR K G0 H0 ρ σ G' H' L → Same G G' → Same H H' → RepVs K G' H' L vs x → Q vs H'
def tTst (r : R Bool) : TT := fun σ H Q => ∃ G L, SR K G0 H0 ρ σ G H L ∧ ∃ b, r = .ok b ∧ ∀ H' G', SR K G0 H0 ρ σ G' H' L → Same G G' → Same H H' → Q b H'
end
section
variable {X : Cx} {e : Expr}
theorem pe_imp {t t' : TE} (h : PE X e t) (w : ∀ σ H Q, t' σ H Q → t σ H Q) : PE X e t' := ⟨fun pins s σ H Q I q => h.run pins s σ H Q I (w σ H Q q)⟩
theorem pt_imp {t t' : TT} (h : PT X e t) (w : ∀ σ H Q, t' σ H Q → t σ H Q) : PT X e t' := ⟨fun pins s σ H Q I q => h.run pins s σ H Q I (w σ H Q q)⟩
theorem pa_imp {es : List Expr} {t t' : TA} (h : PA X es t) (w : ∀ σ H Q, t' σ H Q → t σ H Q) : PA X es t' := ⟨fun pos pins s σ H Q I q => h.run pos pins s σ H Q I (w σ H Q q)⟩
theorem ps_imp {st : Stmt} {t t' : TS} (h : PS X st t) (w : ∀ D σ H, t' D σ H → t D σ H) : PS X st t' := ⟨fun pins s σ H D I q => h.run pins s σ H D I (w D σ H q)⟩
theorem pss_imp {st : List Stmt} {t t' : TS} (h : PSs X st t) (w : ∀ D σ H, t' D σ H → t D σ H) : PSs X st t' := ⟨fun pins s σ H D I q => h.run pins s σ H D I (w D σ H q)⟩
theorem pi_imp {tg : Expr} {t t' : TI} (h : PI X tg e t) (w : ∀ σ H Q, t' σ H Q → t σ H Q) : PI X tg e t' := ⟨fun pins s σ H Q I q => h.run pins s σ H Q I (w σ H Q q)⟩
end

/-! ### what syntax asks -/
/-- no star, no set, no slice, no set or dict comprehension -/
def okE : Expr → Bool
  | .Starred .. => false
  | .Set .. => false
  | .Slice .. => false
  | .SetComp .. => false
  | .DictComp .. => false
  | _ => true
def notLC : Expr → Bool
  | .ListComp .. => false
  | _ => true
/-- neither not, and, or, a comparison, nor a conditional -/
def plainT : Expr → Bool
  | .UnaryOp .Not _ _ => false
  | .BoolOp .. => false
  | .IfExp .. => false
  | .Compare .. => false
  | _ => true
theorem star_ok {e : Expr} (h : okE e = true) (es : List Expr) (env : PySem.Env) : starEach (e :: es) env = (false, eval e env) :: starEach es env := by
  cases e <;> first | rfl | cases h
theorem back_ok {pos : Pos} {env : PySem.Env} : ∀ {es : List Expr}, es.all okE = true → (backTo pos (starEach es env)).any (·.1) = false
  | [], _ => rfl
  | e :: es, h => by
    rw [List.all_cons, Bool.and_eq_true] at h
    rw [star_ok h.1]
    show (false || (backTo pos (starEach es env)).any (·.1)) = false
    rw [back_ok h.2]
    rfl
theorem mark_ok {e : Expr} (h : okE e = true) (op : CmpOp) : behindInMarks op e = false := by
  cases e <;> first | rfl | cases h
theorem marks2_ok {b c : Expr} (h : okE c = true) (o p : CmpOp) : lastMarks [o, p] [b, c] = false := by
  unfold lastMarks
  cases c <;> first | rfl | cases h
theorem fold_ok {e : Expr} (h : okE e = true) (env : PySem.Env) (x : Value) : foldedSetIterable e env x = pure x := by
  cases e <;> first | rfl | cases h
theorem swap_ok {e : Expr} (h : okE e = true) (h2 : notLC e = true) (t : Option Expr) (l : Nat) (env : PySem.Env) : swapsWith e t l env = pure false := by
  cases e <;> first | rfl | exact Bool.noConfusion h | exact Bool.noConfusion h2
theorem plain_ok {e : Expr} (h : plainT e = true) (env : PySem.Env) (whole : Sem Value) : isTrue e env whole = (do let v ← whole; standAt e.pos; holding [v] (truthy v)) := by
  cases e with
  | UnaryOp o a p => cases o <;> first | rfl | cases h
  | BoolOp => cases h
  | IfExp => cases h
  | Compare => cases h
  | _ => rfl
theorem ix_ok {e : Expr} (h : okE e = true) : PlainIx e := fun o i => by
  cases e <;> first | rfl | cases h

/-! ### operators -/
def opOf : BOp → Operator
  | .add => .Add
  | .sub => .Sub
  | .mul => .Mult
  | .fdiv => .FloorDiv
  | .mod => .Mod
  | .pow => .Pow
def rB (K : PySem.W.Frag) : BOp → R2
  | .add => fun x y H Q => rI0 (fun i j => .int (i + j)) x y H Q ∨ (rCatL K x y H Q ∨ rCatA K x y H Q)
  | .sub => rI0 fun i j => .int (i - j)
  | .mul => rI CMul fun i j => .int (i * j)
  | .fdiv => rI CDivN fun i j => .int (i.fdiv j)
  | .mod => rI (fun _ j => j ≠ 0) fun i j => .int (i.fmod j)
  | .pow => rI CPow fun i j => .int (i ^ j.toNat)
theorem op_B {X : Cx} : ∀ o : BOp, OpR X (binaryOp (opOf o)) (rB X.K o)
  | .add => op_add.or (op_catL.or op_catA)
  | .sub => op_sub
  | .mul => op_mul
  | .fdiv => op_fdivN
  | .mod => op_modN
  | .pow => op_pow
section
variable {K : PySem.W.Frag} {G0 H0 G H : Hp} {ρ : Env} {σ : L2.St} {L : Lb} {v v1 v2 : V} {d z : D} {x y x1 x2 : V3} {Q : VK}
/-- how an evaluation goes on -/
abbrev Go (K : PySem.W.Frag) (G0 H0 : Hp) (ρ : Env) (σ : L2.St) (G H : Hp) (L : Lb) (x : V3) (Q : VK) : Prop := ∀ v H' G', SR K G0 H0 ρ σ G' H' L → Same G G' → Same H H' → RepV K G' H' L v x → Q v H'
theorem Go.here (sr : SR K G0 H0 ρ σ G H L) (k : Go K G0 H0 ρ σ G H L x Q) (r : RepV K G H L v x) : Q v H := k v H G sr (Same.refl G) (Same.refl H) r
theorem Go.lst (sr : SR K G0 H0 ρ σ G H L) {xs : List V} {ds : List D} {t : List Nat} (k : Go K G0 H0 ρ σ G H L (.new (.lst ds) t) Q) (ra : RepAll K (wld G H L t) xs ds) : ∀ p, H p = none → Q (.ref p) (upd H p (.lst xs)) := fun p hp =>
  k _ _ (upd G p (.lst xs)) (sr.new hp) (same_new (sr.gh.free hp)) (same_new hp) (RepV.newLst sr hp ra)
theorem Go.tup (sr : SR K G0 H0 ρ σ G H L) {xs : List V} {ds : List D} {t : List Nat} (k : Go K G0 H0 ρ σ G H L (.new (.tup ds) t) Q) (ra : RepAll K (wld G H L t) xs ds) : ∀ p, H p = none → Q (.ref p) (upd H p (.tup xs)) := fun p hp =>
  k _ _ (upd G p (.tup xs)) (sr.new hp) (same_new (sr.gh.free hp)) (same_new hp) (RepV.newTup sr hp ra)
theorem Rep.intE {W : Hp} {i : Int} (r : Rep K W v (.int i)) : v = .int i := by
  cases r
  rfl
theorem szl_eq : szl = sizeLine := by decide
theorem mem_l {S T : List Nat} : ∀ i ∈ S, i ∈ S ++ T := fun i h => List.mem_append_left _ h
theorem mem_r {S T : List Nat} : ∀ i ∈ T, i ∈ S ++ T := fun i h => List.mem_append_right _ h
/-- a tuple stands where its items' slots let it: it is never owned -/
theorem Rep.tupT {W : Hp} {ds : List D} (r : Rep K W v (.tup ds)) : ∃ a xs, v = .ref a ∧ SqT K W a xs ∧ RepAll K W xs ds := by
  cases r with
  | tup h r => exact ⟨_, _, rfl, h, r⟩
/-- operators on data -/
theorem rB_of {bo : BOp} (sr : SR K G0 H0 ρ σ G H L) (r1 : RepV K G H L v1 x1) (r2 : RepV K G H L v2 x2) (e : bop bo x1.d x2.d = .ok z) (k : Go K G0 H0 ρ σ G H L (.new z (x1.t ++ x2.t)) Q) : rB K bo v1 v2 H Q := by
  obtain ⟨d1, s1, t1⟩ := x1
  obtain ⟨d2, s2, t2⟩ := x2
  have one := RepW.s r1
  have two := RepW.s r2
  dsimp only at e one two
  cases one with
  | int i =>
    cases two with
    | int j =>
      have fin : ∀ {n : Int}, z = .int n → Q (.int n) H := fun {n} ez => Go.here sr k (by
        rw [ez]
        exact RepV.at' (.int n) rfl (W := G))
      cases bo with
      | add =>
        have ez : D.int (i + j) = z := R.ok.inj e
        exact .inl ⟨i, j, rfl, rfl, fin ez.symm⟩
      | sub =>
        have ez : D.int (i - j) = z := R.ok.inj e
        exact ⟨i, j, rfl, rfl, fin ez.symm⟩
      | mul =>
        obtain ⟨c, e⟩ := R.of_chk e
        exact ⟨i, j, rfl, rfl, cmulB_ok c, fin (R.ok.inj e).symm⟩
      | fdiv =>
        obtain ⟨c, e⟩ := R.of_chk e
        exact ⟨i, j, rfl, rfl, c, fin (R.ok.inj e).symm⟩
      | mod =>
        obtain ⟨c, e⟩ := R.of_chk e
        exact ⟨i, j, rfl, rfl, c, fin (R.ok.inj e).symm⟩
      | pow =>
        obtain ⟨c, e⟩ := R.of_chk e
        exact ⟨i, j, rfl, rfl, c, fin (R.ok.inj e).symm⟩
    | _ => cases e
  | @lst a xs ds q1 q2 =>
    cases two with
    | @lst b ys es q3 q4 =>
      by_cases h : bo = .add
      · subst h
        have e : R.chk (ds.length + es.length ≤ szl) (R.ok (D.lst (ds ++ es))) = .ok z := e
        obtain ⟨c, e⟩ := R.of_chk e
        have ez : D.lst (ds ++ es) = z := R.ok.inj e
        subst ez
        obtain ⟨a', xs', ea, qa, _, ra⟩ := r1
        obtain ⟨b', ys', eb, qb, _, rb⟩ := r2
        refine .inr (.inl ⟨a', b', xs', ys', ea, eb, sr.wldH.seq qa, sr.wldH.seq qb, ?_, Go.lst sr k ((RepAll.mono (sr.wldSub mem_l) ra).append (RepAll.mono (sr.wldSub mem_r) rb))⟩)
        rw [ra.length, rb.length]
        exact c
      · have e : (if bo = .add then _ else R.bad) = R.ok z := e
        rw [if_neg h] at e
        cases e
    | _ => cases e
  | @tup a xs ds q1 q2 =>
    cases two with
    | @tup b ys es q3 q4 =>
      by_cases h : bo = .add
      · subst h
        have e : R.chk (ds.length + es.length ≤ szl) (R.ok (D.tup (ds ++ es))) = .ok z := e
        obtain ⟨c, e⟩ := R.of_chk e
        have ez : D.tup (ds ++ es) = z := R.ok.inj e
        subst ez
        obtain ⟨a', xs', ea, _, _, qa, ra⟩ := r1
        obtain ⟨b', ys', eb, _, _, qb, rb⟩ := r2
        have mA := RepAll.mono (sr.wldSub (T := t1 ++ t2) mem_l) ra
        have mB := RepAll.mono (sr.wldSub (T := t1 ++ t2) mem_r) rb
        refine .inr (.inr ⟨a', b', xs', ys', ea, eb, sqT_same sr.wldH qa, sqT_same sr.wldH qb, ?_, fun hx => ?_, fun _ hy => ?_, fun _ _ => Go.tup sr k (mA.append mB)⟩)
        · rw [ra.length, rb.length]
          exact c
        · subst hx
          cases ra
          exact Go.here sr k (RepV.sameTup (sqT_same (sr.wldSub mem_r) qb) mB)
        · subst hy
          cases rb
          rw [List.append_nil] at k
          exact Go.here sr k (RepV.sameTup (sqT_same (sr.wldSub mem_l) qa) mA)
      · have e : (if bo = .add then _ else R.bad) = R.ok z := e
        rw [if_neg h] at e
        cases e
    | _ => cases e
  | _ => cases e
end
end Mp

set_option Elab.async false
set_option linter.all false
set_option maxRecDepth 100000
set_option maxHeartbeats 4000000
/-! Mp4: comparisons, truth, isinstance, built-in functions. -/
namespace Mp
open PySem PySem.Spec PyProof.Rows L2

/-! ### == -/
mutual
def toP : D → PyData
  | .non => .none
  | .bl b => .bool b
  | .int i => .int i
  | .str x => .str x
  | .lst xs => .list (toPs xs)
  | .tup xs => .tuple (toPs xs)
def toPs : List D → List PyData
  | [] => []
  | x :: xs => toP x :: toPs xs
end
mutual
theorem rep_dp {K : PySem.W.Frag} {H : Hp} : ∀ {v : V} {d : D}, Rep K H v d → Dp K H v (toP d)
  | _, _, .non => by rw [toP]; exact .non
  | _, _, .bl b => by rw [toP]; exact .bl b
  | _, _, .int i => by rw [toP]; exact .int i
  | _, _, .str x => by rw [toP]; exact .str x
  | _, _, .lst h r => by rw [toP]; exact .lst h (reps_dp r)
  | _, _, .tup h r => by rw [toP]; exact .tup h (reps_dp r)
theorem reps_dp {K : PySem.W.Frag} {H : Hp} : ∀ {vs : List V} {ds : List D}, RepAll K H vs ds → DpAll K H vs (toPs ds)
  | _, _, .nil => by rw [toPs]; exact .nil
  | _, _, .cons h r => by rw [toPs]; exact .cons (rep_dp h) (reps_dp r)
end
mutual
theorem eqv_toP : ∀ a b : D, PyData.eqv (toP a) (toP b) = eqD a b
  | .non, b => by cases b <;> simp [toP, PyData.eqv, eqD]
  | .bl x, b => by cases b <;> simp [toP, PyData.eqv, eqD]
  | .int i, b => by cases b <;> simp [toP, PyData.eqv, eqD]
  | .str x, b => by cases b <;> simp [toP, PyData.eqv, eqD]
  | .lst xs, b => by
    cases b with
    | lst ys => simp only [toP, PyData.eqv, eqD]; exact eqvs_toP xs ys
    | _ => simp [toP, PyData.eqv, eqD]
  | .tup xs, b => by
    cases b with
    | tup ys => simp only [toP, PyData.eqv, eqD]; exact eqvs_toP xs ys
    | _ => simp [toP, PyData.eqv, eqD]
theorem eqvs_toP : ∀ a b : List D, PyData.eqvAll (toPs a) (toPs b) = eqDs a b
  | [], b => by cases b <;> simp [toPs, PyData.eqvAll, eqDs]
  | x :: xs, b => by
    cases b with
    | nil => simp [toPs, PyData.eqvAll, eqDs]
    | cons y ys => simp only [toPs, PyData.eqvAll, eqDs, eqv_toP x y, eqvs_toP xs ys]
end
mutual
theorem lay_toP : ∀ a : D, strsD a = true → (toP a).canLay0 = true
  | .non, _ => by simp [toP, PyData.canLay0]
  | .bl _, _ => by simp [toP, PyData.canLay0]
  | .int _, _ => by simp [toP, PyData.canLay0]
  | .str x, h => by
    simp only [toP, PyData.canLay0]
    exact h
  | .lst xs, h => by
    simp only [toP, PyData.canLay0]
    exact lays_toP xs (by simpa [strsD] using h)
  | .tup xs, h => by
    simp only [toP, PyData.canLay0]
    exact lays_toP xs (by simpa [strsD] using h)
theorem lays_toP : ∀ a : List D, strsDs a = true → PyData.canLayAll0 (toPs a) = true
  | [], _ => by simp [toPs, PyData.canLayAll0]
  | x :: xs, h => by
    have h' : strsD x = true ∧ strsDs xs = true := by simpa [strsDs] using h
    simp [toPs, PyData.canLayAll0, lay_toP x h'.1, lays_toP xs h'.2]
end
mutual
theorem depth_toP : ∀ a : D, (toP a).depth = depth a
  | .non => by simp [toP, PyData.depth, depth]
  | .bl _ => by simp [toP, PyData.depth, depth]
  | .int _ => by simp [toP, PyData.depth, depth]
  | .str _ => by simp [toP, PyData.depth, depth]
  | .lst xs => by simp [toP, PyData.depth, depth, depths_toP xs]
  | .tup xs => by simp [toP, PyData.depth, depth, depths_toP xs]
theorem depths_toP : ∀ a : List D, PyData.depthAll (toPs a) = depths a
  | [] => by simp [toPs, PyData.depthAll, depths]
  | x :: xs => by simp [toPs, PyData.depthAll, depths, depth_toP x, depths_toP xs]
end
theorem shaped_toP {a : D} (h : okD a = true) : SeqAt.shaped (toP a) = true := by
  unfold okD at h
  rw [Bool.and_eq_true] at h
  unfold SeqAt.shaped
  rw [Bool.and_eq_true, lay_toP a h.1, depth_toP]
  have := of_decide_eq_true h.2
  exact ⟨rfl, decide_eq_true (by omega)⟩

theorem eqV_rep {K : PySem.W.Frag} {W W' : Hp} {v w : V} {d e : D} (r : Rep K W v d) (q : Rep K W' w e) (a : atomic d = true) (b : atomic e = true) : eqV v w = eqD d e := by
  cases r <;> cases q <;> first | exact Bool.noConfusion a | exact Bool.noConfusion b | (simp [eqV, eqD])
theorem flat_rep {K : PySem.W.Frag} {W : Hp} {v : V} {d : D} (r : Rep K W v d) (a : atomic d = true) : flatV v = true := by
  cases r <;> first | rfl | exact Bool.noConfusion a
theorem inV_rep {K : PySem.W.Frag} {W W' : Hp} {v : V} {d : D} (r : Rep K W v d) (a : atomic d = true) : ∀ {xs : List V} {ds : List D}, RepAll K W' xs ds → ds.all atomic = true → xs.all flatV = true ∧ inV v xs = ds.any fun y => eqD y d
  | _, _, .nil, _ => ⟨rfl, rfl⟩
  | _, _, .cons h t, b => by
    rw [List.all_cons, Bool.and_eq_true] at b
    obtain ⟨h1, h2⟩ := inV_rep r a t b.2
    refine ⟨by rw [List.all_cons, flat_rep h b.1, h1]; rfl, ?_⟩
    unfold inV at h2 ⊢
    rw [List.any_cons, List.any_cons, h2, eqV_rep h r b.1 a]

/-! ### comparisons -/
def copOf : COp → CmpOp
  | .eq => .Eq
  | .ne => .NotEq
  | .lt => .Lt
  | .le => .LtE
  | .gt => .Gt
  | .ge => .GtE
  | .is => .Is
  | .isn => .IsNot
  | .in_ => .In
  | .nin => .NotIn
def rC (K : PySem.W.Frag) : COp → R2
  | .eq => rEqD K
  | .ne => rNeD K
  | .lt => rI0 fun i j => .bl (decide (i < j))
  | .le => rI0 fun i j => .bl (decide (i ≤ j))
  | .gt => rI0 fun i j => .bl (decide (j < i))
  | .ge => rI0 fun i j => .bl (decide (j ≤ i))
  | .is => fun x y H Q => y = .non ∧ Q (.bl (decide (x = .non))) H
  | .isn => fun x y H Q => y = .non ∧ Q (.bl (!decide (x = .non))) H
  | .in_ => rIn K false
  | .nin => rIn K true
theorem op_C {X : Cx} (hu : X.A.units + 64 < cLine) : ∀ o : COp, OpR X (compareOp (copOf o)) (rC X.K o)
  | .eq => op_eqD hu
  | .ne => op_neD hu
  | .lt => op_lt
  | .le => op_le
  | .gt => op_gt
  | .ge => op_ge
  | .is => op_isN
  | .isn => op_notN
  | .in_ => op_in_seq
  | .nin => op_notIn_seq
section
variable {K : PySem.W.Frag} {G0 H0 G H W : Hp} {ρ : Env} {σ : L2.St} {L : Lb} {v v1 v2 : V} {d z : D} {x y x1 x2 : V3} {Q : VK} {b : Bool}
theorem RepW.h (sr : SR K G0 H0 ρ σ G H L) {S T : List Nat} (r : RepW K (wld G H L S) (wld G H L T) v d) : Rep K H v d := Rep.mono sr.wldH r.s
theorem Rep.decN (r : Rep K W v d) : decide (v = .non) = (match d with | .non => true | _ => false) := by
  cases r <;> first | rfl | exact decide_eq_false (fun z => nomatch z)
theorem rC_of {o : COp} (sr : SR K G0 H0 ρ σ G H L) (r1 : RepV K G H L v1 x1) (r2 : RepV K G H L v2 x2) (e : cop o x1.d x2.d = .ok b) (k : Q (.bl b) H) : rC K o v1 v2 H Q := by
  obtain ⟨d1, s1, t1⟩ := x1
  obtain ⟨d2, s2, t2⟩ := x2
  have one := RepW.h sr r1
  have two := RepW.h sr r2
  dsimp only at e one two
  have seq : ∀ {ys : List D}, (d2 = .lst ys ∨ d2 = .tup ys) → ∃ p xs, v2 = .ref p ∧ (SqL K H p xs ∨ SqT K H p xs) ∧ RepAll K H xs ys := fun {ys} h => by
    rcases h with h | h <;> subst h
    · cases two with
      | lst q r => exact ⟨_, _, rfl, .inl q, r⟩
    · cases two with
      | tup q r => exact ⟨_, _, rfl, .inr q, r⟩
  have ins : ∀ {ys : List D} {neg : Bool}, (d2 = .lst ys ∨ d2 = .tup ys) → atomic d1 = true ∧ ys.all atomic = true → (if neg then !(ys.any fun y => eqD y d1) else ys.any fun y => eqD y d1) = b → rIn K neg v1 v2 H Q := fun {ys neg} h c e => by
    obtain ⟨p, xs, e2, q, ra⟩ := seq h
    obtain ⟨h1, h2⟩ := inV_rep one c.1 ra c.2
    refine ⟨p, xs, e2, q, flat_rep one c.1, h1, ?_⟩
    rw [h2, e]
    exact k
  cases o with
  | eq =>
    obtain ⟨c, e⟩ := R.of_chk e
    have e := R.ok.inj e
    subst e
    exact ⟨_, _, rep_dp one, rep_dp two, shaped_toP c.1, shaped_toP c.2, by rw [eqv_toP]; exact k⟩
  | ne =>
    obtain ⟨c, e⟩ := R.of_chk e
    have e := R.ok.inj e
    subst e
    exact ⟨_, _, rep_dp one, rep_dp two, shaped_toP c.1, shaped_toP c.2, by rw [eqv_toP]; exact k⟩
  | lt =>
    cases one <;> first | (cases e; done) | skip
    cases two <;> first | (cases e; done) | skip
    have e := R.ok.inj e
    exact ⟨_, _, rfl, rfl, by rw [← e] at k; exact k⟩
  | le =>
    cases one <;> first | (cases e; done) | skip
    cases two <;> first | (cases e; done) | skip
    have e := R.ok.inj e
    exact ⟨_, _, rfl, rfl, by rw [← e] at k; exact k⟩
  | gt =>
    cases one <;> first | (cases e; done) | skip
    cases two <;> first | (cases e; done) | skip
    have e := R.ok.inj e
    exact ⟨_, _, rfl, rfl, by rw [← e] at k; exact k⟩
  | ge =>
    cases one <;> first | (cases e; done) | skip
    cases two <;> first | (cases e; done) | skip
    have e := R.ok.inj e
    exact ⟨_, _, rfl, rfl, by rw [← e] at k; exact k⟩
  | is =>
    cases two <;> first | (cases one <;> cases e; done) | skip
    refine ⟨rfl, ?_⟩
    rw [one.decN]
    cases one <;> (have e := R.ok.inj e; rw [← e] at k; exact k)
  | isn =>
    cases two <;> first | (cases one <;> cases e; done) | skip
    refine ⟨rfl, ?_⟩
    rw [one.decN]
    cases one <;> (have e := R.ok.inj e; rw [← e] at k; exact k)
  | in_ =>
    cases two with
    | lst q r =>
      obtain ⟨c, e⟩ := R.of_chk e
      exact ins (.inl rfl) c (R.ok.inj e)
    | tup q r =>
      obtain ⟨c, e⟩ := R.of_chk e
      exact ins (.inr rfl) c (R.ok.inj e)
    | _ => cases e
  | nin =>
    cases two with
    | lst q r =>
      obtain ⟨c, e⟩ := R.of_chk e
      exact ins (neg := true) (.inl rfl) c (R.ok.inj e)
    | tup q r =>
      obtain ⟨c, e⟩ := R.of_chk e
      exact ins (neg := true) (.inr rfl) c (R.ok.inj e)
    | _ => cases e
/-- truth -/
theorem truV_of (r : Rep K H v d) (e : truth d = .ok b) : TruV K v H b := by
  cases r with
  | non => exact (R.ok.inj e).symm
  | bl c => exact (R.ok.inj e).symm
  | int i => exact (R.ok.inj e).symm
  | str y =>
    obtain ⟨c, e⟩ := R.of_chk e
    refine ⟨c, ?_⟩
    rw [← R.ok.inj e]
    show (y.cps.size != 0) = ((y.cps.size : Int) != 0)
    cases q : y.cps.size <;> rfl
  | lst q r => exact .inl ⟨_, q, by rw [r.isEmpty]; exact (R.ok.inj e).symm⟩
  | tup q r => exact .inr (.inl ⟨_, q, by rw [r.isEmpty]; exact (R.ok.inj e).symm⟩)

end
end Mp

set_option Elab.async false
set_option linter.all false
set_option maxRecDepth 100000
set_option maxHeartbeats 4000000
namespace Mp
open PySem PySem.Spec PyProof.Rows L2
section
variable {K : PySem.W.Frag} {H : Hp} {v : V} {d : D}
/-! ### isinstance -/
def tyS : Ty → String
  | .int => "int"
  | .bool => "bool"
  | .str => "str"
  | .list => "list"
  | .tuple => "tuple"
def tyN : D → Nat
  | .non => 0
  | .bl _ => 1
  | .int _ => 2
  | .str _ => 3
  | .lst _ => 4
  | .tup _ => 5
def nmN : Nat → String
  | 0 => "NoneType"
  | 1 => "bool"
  | 2 => "int"
  | 3 => "str"
  | 4 => "list"
  | _ => "tuple"
def isN : Nat → Ty → Bool
  | 1, .int => true
  | 1, .bool => true
  | 2, .int => true
  | 3, .str => true
  | 4, .list => true
  | 5, .tuple => true
  | _, _ => false
theorem isN_ok (a : D) (t : Ty) : isTy a t = isN (tyN a) t := by
  cases a <;> cases t <;> rfl
def tyOf (a : D) : String := nmN (tyN a)
theorem kit_tab : ((List.range 6).all fun n => [Ty.int, .bool, .str, .list, .tuple].all fun t => decide (kitB (nmN n) (tyS t) = some (isN n t))) = true := by decide +kernel
theorem kit_all (a : D) (t : Ty) : kitB (tyOf a) (tyS t) = some (isTy a t) := by
  rw [isN_ok]
  have h := List.all_eq_true.mp kit_tab (tyN a) (List.mem_range.mpr (by cases a <;> (simp only [tyN]; omega)))
  exact of_decide_eq_true (List.all_eq_true.mp h t (by cases t <;> simp))
theorem rep_ty (r : Rep K H v d) : TyX K H v (.type (tyOf d)) := by
  cases r with
  | non => exact .base .non
  | bl b => exact .base (.bl b)
  | int i => exact .base (.int i)
  | str x => exact .base (.str x)
  | lst q r =>
    rcases q with (q | ⟨o, q⟩) | ⟨o, its, n, q, c, _⟩
    · exact .base (.lst q)
    · exact .base (.frz q)
    · exact .kList q c
  | tup q r =>
    rcases q with (q | ⟨o, q⟩) | ⟨o, its, n, q, c, _⟩
    · exact .base (.tup q)
    · exact .fTuple q
    · exact .kTuple q c
theorem kitAny_of {a : D} : ∀ ts : List Ty, PySem.W.kitAny K (.type (tyOf a)) (ts.map fun t => .type (tyS t)) = some (ts.any (isTy a))
  | [] => rfl
  | t :: ts => by
    refine kitAny_cons (kit_ty (kit_all a t)) (fun h => ?_) fun h => ?_
    · rw [List.any_cons, h, Bool.false_or]
      exact kitAny_of ts
    · rw [List.any_cons, h, Bool.true_or]

/-! ### built-in functions -/
def bfN : Bf → Str
  | .len => "len"
  | .int => "int"
  | .sum => "sum"
  | .max => "max"
  | .min => "min"
  | .list => "list"
  | .tuple => "tuple"
  | .abs => "abs"
def bfV : Bf → Value
  | .len => .builtin "len"
  | .int => .type "int"
  | .sum => .builtin "sum"
  | .max => .builtin "max"
  | .min => .builtin "min"
  | .list => .type "list"
  | .tuple => .type "tuple"
  | .abs => .builtin "abs"
def rBf (K : PySem.W.Frag) : Bf → List V → Hp → VK → Prop
  | .len => fun xs H Q => ∃ p ys, xs = [.ref p] ∧ (SqL K H p ys ∨ SqT K H p ys) ∧ Q (.int ys.length) H
  | .int => fun xs H Q => (∃ i, xs = [.int i] ∧ Q (.int i) H) ∨ ∃ k, xs = [.bl k] ∧ Q (.int (if k then 1 else 0)) H
  | .sum => rSumA K
  | .max => fun xs H Q => (∃ i j, xs = [.int i, .int j] ∧ Q (.int (if j > i then j else i)) H) ∨ rMax K xs H Q
  | .min => fun xs H Q => (∃ i j, xs = [.int i, .int j] ∧ Q (.int (if j < i then j else i)) H) ∨ rMin K xs H Q
  | .list => fun xs H Q => ∃ p ys, xs = [.ref p] ∧ (SqL K H p ys ∨ SqT K H p ys) ∧ ∀ l, H l = none → Q (.ref l) (upd H l (.lst ys))
  | .tuple => fun xs H Q => ∃ p ys, xs = [.ref p] ∧ ((SqL K H p ys ∧ ∀ l, H l = none → Q (.ref l) (upd H l (.tup ys))) ∨ (SqT K H p ys ∧ Q (.ref p) H))
  | .abs => fun xs H Q => ∃ i, xs = [.int i] ∧ Q (.int (if i < 0 then -i else i)) H
theorem call_Bf {X : Cx} (hc : X.calm = true) : ∀ f : Bf, CallR X (bfV f) (rBf X.K f)
  | .len => call_len_seq
  | .int => call_int1
  | .sum => cr_sumA hc
  | .max => (call_max2 hc).or (cr_max hc)
  | .min => (call_min2 hc).or (cr_min hc)
  | .list => call_list_of
  | .tuple => call_tuple_of
  | .abs => call_abs
theorem maxI_of {ns : List Int} {m : Int} (h : maxI ns = some m) {M : Int} (h1 : M ∈ ns) (h2 : ∀ y, y ∈ ns → y ≤ M) : M = m := by
  cases ns with
  | nil => cases h
  | cons x r =>
    have e : r.foldl max x = m := Option.some.inj h
    have up : ∀ (r : List Int) (x : Int), x ≤ r.foldl max x ∧ (∀ y ∈ r, y ≤ r.foldl max x) ∧ (r.foldl max x = x ∨ r.foldl max x ∈ r) := by
      intro r
      induction r with
      | nil => exact fun x => ⟨Int.le_refl _, fun _ z => (nomatch z), .inl rfl⟩
      | cons z r ih =>
        intro x
        obtain ⟨a, b, c⟩ := ih (max x z)
        rw [List.foldl_cons]
        refine ⟨by omega, fun y hy => ?_, ?_⟩
        · rcases List.mem_cons.mp hy with q | q
          · rw [q]; omega
          · exact b y q
        · rcases c with c | c
          · rcases Int.le_total x z with q | q
            · exact .inr (by rw [c, Int.max_eq_right q]; exact List.mem_cons_self)
            · exact .inl (by rw [c, Int.max_eq_left q])
          · exact .inr (List.mem_cons_of_mem _ c)
    obtain ⟨a, b, c⟩ := up r x
    rw [e] at a b c
    have h3 : m ≤ M := by
      rcases c with c | c
      · exact h2 _ (by rw [c]; exact List.mem_cons_self)
      · exact h2 _ (List.mem_cons_of_mem _ c)
    have h4 : M ≤ m := by
      rcases List.mem_cons.mp h1 with q | q
      · rw [q]; exact a
      · exact b _ q
    omega
theorem minI_of {ns : List Int} {m : Int} (h : minI ns = some m) {M : Int} (h1 : M ∈ ns) (h2 : ∀ y, y ∈ ns → M ≤ y) : M = m := by
  cases ns with
  | nil => cases h
  | cons x r =>
    have e : r.foldl min x = m := Option.some.inj h
    have up : ∀ (r : List Int) (x : Int), r.foldl min x ≤ x ∧ (∀ y ∈ r, r.foldl min x ≤ y) ∧ (r.foldl min x = x ∨ r.foldl min x ∈ r) := by
      intro r
      induction r with
      | nil => exact fun x => ⟨Int.le_refl _, fun _ z => (nomatch z), .inl rfl⟩
      | cons z r ih =>
        intro x
        obtain ⟨a, b, c⟩ := ih (min x z)
        rw [List.foldl_cons]
        refine ⟨by omega, fun y hy => ?_, ?_⟩
        · rcases List.mem_cons.mp hy with q | q
          · rw [q]; omega
          · exact b y q
        · rcases c with c | c
          · rcases Int.le_total x z with q | q
            · exact .inl (by rw [c, Int.min_eq_left q])
            · exact .inr (by rw [c, Int.min_eq_right q]; exact List.mem_cons_self)
          · exact .inr (List.mem_cons_of_mem _ c)
    obtain ⟨a, b, c⟩ := up r x
    rw [e] at a b c
    have h3 : M ≤ m := by
      rcases c with c | c
      · exact h2 _ (by rw [c]; exact List.mem_cons_self)
      · exact h2 _ (List.mem_cons_of_mem _ c)
    have h4 : m ≤ M := by
      rcases List.mem_cons.mp h1 with q | q
      · rw [q]; exact a
      · exact b _ q
    omega
theorem orBad_ok {α : Type} {o : Option α} {a : α} (h : orBad o = .ok a) : o = some a := by
  cases o with
  | none => cases h
  | some b => rw [R.ok.inj h]
end
section
variable {K : PySem.W.Frag} {G0 H0 G H W : Hp} {ρ : Env} {σ : L2.St} {L : Lb} {v : V} {d z : D} {Q : VK} {vs : List V}
theorem bf1 {Ws Wt : Hp} (r : RepWs K Ws Wt vs [d]) : ∃ v, vs = [v] ∧ RepW K Ws Wt v d := by
  cases r with
  | cons a1 a2 =>
    cases a2
    exact ⟨_, rfl, a1⟩
theorem items_of (sr : SR K G0 H0 ρ σ G H L) {s t : List Nat} (r : RepW K (wld G H L s) (wld G H L t) v d) {ds : List D} (e : items d = .ok ds) : ∃ a xs, v = .ref a ∧ (SqL K H a xs ∨ SqT K H a xs) ∧ RepAll K (wld G H L t) xs ds := by
  cases d with
  | lst es =>
    obtain ⟨a, xs, e1, q, _, r⟩ := r
    rw [← R.ok.inj e]
    exact ⟨a, xs, e1, .inl (sr.wldH.seq q), r⟩
  | tup es =>
    obtain ⟨a, xs, e1, q, _, _, r⟩ := r
    rw [← R.ok.inj e]
    exact ⟨a, xs, e1, .inr (sqT_same sr.wldH q), r⟩
  | _ => cases e
theorem rBf_of {f : Bf} {x : List D × List Nat × List Nat} (sr : SR K G0 H0 ρ σ G H L) (r : RepVs K G H L vs x) (e : bf f x.1 = .ok z) (k : Go K G0 H0 ρ σ G H L (.new z x.2.2) Q) : rBf K f vs H Q := by
  obtain ⟨ds, s, t⟩ := x
  dsimp only at e k
  have int : ∀ {n : Int}, z = .int n → Q (.int n) H := fun {n} ez => Go.here sr k (by
    rw [ez]
    exact RepV.at' (.int n) rfl (W := G))
  match ds, e, r with
  | [], e, r => cases f <;> cases e
  | [d], e, r =>
    obtain ⟨v, rfl, r2⟩ := bf1 r
    have r1 := r2.s
    have seq : ∀ {es : List D}, (d = .lst es ∨ d = .tup es) → ∃ p ys, v = .ref p ∧ (SqL K H p ys ∨ SqT K H p ys) ∧ RepAll K (wld G H L t) ys es := fun {es} h => items_of sr r2 (by rcases h with h | h <;> rw [h] <;> rfl)
    have len : ∀ {es : List D}, (d = .lst es ∨ d = .tup es) → z = .int es.length → rBf K .len [v] H Q := fun {es} h ez => by
      obtain ⟨p, ys, e1, q, ra⟩ := seq h
      exact ⟨p, ys, by rw [e1], q, by rw [ra.length]; exact int ez⟩
    have sum : ∀ {es : List D} {ns : List Int}, (d = .lst es ∨ d = .tup es) → asInts es = some ns → z = .int ns.sum → rBf K .sum [v] H Q := fun {es ns} h hn ez => by
      obtain ⟨p, ys, e1, q, ra⟩ := seq h
      rw [ra.asInts hn] at q
      exact ⟨p, ns, by rw [e1], q, int ez⟩
    have lst : ∀ {es : List D}, (d = .lst es ∨ d = .tup es) → z = .lst es → rBf K .list [v] H Q := fun {es} h ez => by
      obtain ⟨p, ys, e1, q, ra⟩ := seq h
      rw [ez] at k
      exact ⟨p, ys, by rw [e1], q, Go.lst sr k ra⟩
    cases d with
    | non => cases f <;> cases e
    | str _ => cases f <;> cases e
    | bl b =>
      cases f <;> first | (cases e; done) | skip
      cases r1
      exact .inr ⟨b, rfl, int (R.ok.inj e).symm⟩
    | int i =>
      cases r1
      cases f <;> first | (cases e; done) | skip
      · exact .inl ⟨i, rfl, int (R.ok.inj e).symm⟩
      · exact ⟨i, rfl, int (R.ok.inj e).symm⟩
    | lst es =>
      cases f with
      | len => exact len (.inl rfl) (R.ok.inj e).symm
      | int => cases e
      | abs => cases e
      | sum =>
        obtain ⟨ns, e1, e2⟩ := R.of_bind e
        exact sum (.inl rfl) (orBad_ok e1) (R.ok.inj e2).symm
      | max =>
        obtain ⟨ns, e1, e0⟩ := R.of_bind e
        obtain ⟨m, e2, e3⟩ := R.of_bind e0
        have e1 := orBad_ok e1
        have e2 := orBad_ok e2
        obtain ⟨p, ys, e4, q, ra⟩ := seq (.inl rfl)
        obtain ⟨p', ys', e5, q5, _, ra5⟩ := r2
        have q5 := sr.wldH.seq q5
        rw [ra5.asInts e1] at q5
        refine .inr ⟨p', ns, by rw [e5], q5, ?_, fun M h1 h2 => ?_⟩
        · cases ns with
          | nil => cases e2
          | cons _ _ => exact Nat.succ_pos _
        · rw [maxI_of e2 h1 h2]
          exact int (R.ok.inj e3).symm
      | min =>
        obtain ⟨ns, e1, e0⟩ := R.of_bind e
        obtain ⟨m, e2, e3⟩ := R.of_bind e0
        have e1 := orBad_ok e1
        have e2 := orBad_ok e2
        obtain ⟨p', ys', e5, q5, _, ra5⟩ := r2
        have q5 := sr.wldH.seq q5
        rw [ra5.asInts e1] at q5
        refine .inr ⟨p', ns, by rw [e5], q5, ?_, fun M h1 h2 => ?_⟩
        · cases ns with
          | nil => cases e2
          | cons _ _ => exact Nat.succ_pos _
        · rw [minI_of e2 h1 h2]
          exact int (R.ok.inj e3).symm
      | list => exact lst (.inl rfl) (R.ok.inj e).symm
      | tuple =>
        obtain ⟨p, ys, e1, q, _, ra⟩ := r2
        rw [← R.ok.inj e] at k
        exact ⟨p, ys, by rw [e1], .inl ⟨sr.wldH.seq q, Go.tup sr k ra⟩⟩
    | tup es =>
      cases f with
      | len => exact len (.inr rfl) (R.ok.inj e).symm
      | int => cases e
      | abs => cases e
      | sum =>
        obtain ⟨ns, e1, e2⟩ := R.of_bind e
        exact sum (.inr rfl) (orBad_ok e1) (R.ok.inj e2).symm
      | max => cases e
      | min => cases e
      | list => exact lst (.inr rfl) (R.ok.inj e).symm
      | tuple =>
        obtain ⟨p, ys, e1, _, _, q, ra⟩ := r2
        rw [← R.ok.inj e] at k
        refine ⟨p, ys, by rw [e1], .inr ⟨sqT_same sr.wldH q, ?_⟩⟩
        have h := Go.here sr k (RepV.sameTup q ra)
        exact h
  | [d1, d2], e, r =>
    have ra := r.s
    cases ra with
    | cons a1 a2 =>
      cases a2 with
      | cons a2 a3 =>
        cases a3
        cases a1 <;> first | (cases f <;> cases e; done) | skip
        cases a2 <;> first | (cases f <;> cases e; done) | skip
        cases f <;> first | (cases e; done) | skip
        · exact .inl ⟨_, _, rfl, int (R.ok.inj e).symm⟩
        · exact .inl ⟨_, _, rfl, int (R.ok.inj e).symm⟩
  | d1 :: d2 :: d3 :: ds, e, r => cases f <;> cases d1 <;> first | (cases e; done) | (cases d2 <;> cases e)
end
end Mp

set_option Elab.async false
set_option linter.all false
set_option maxRecDepth 100000
set_option maxHeartbeats 4000000
/-! Mp5: targets, walks; what syntax a piece of the small language stands for (chk). -/
namespace Mp
open PySem PySem.Spec PyProof.Rows L2

/-! ### slots -/
theorem wipe_get (vs : List Nat) (σ : L2.St) (j : Nat) : (L2.wipe σ vs)[j]? = if j ∈ vs then (σ[j]?).map (fun _ => none) else σ[j]? := by
  induction vs with
  | nil => simp [L2.wipe]
  | cons v vs ih =>
    unfold L2.wipe
    by_cases h : v = j
    · subst h
      rw [List.getElem?_set]
      simp only [if_true, List.mem_cons, true_or]
      by_cases hl : v < (L2.wipe σ vs).length
      · rw [if_pos hl]
        rw [L2.wipe_length] at hl
        rw [List.getElem?_eq_getElem hl]
        rfl
      · rw [if_neg hl]
        rw [L2.wipe_length] at hl
        rw [List.getElem?_eq_none (by omega)]
        rfl
    · rw [List.getElem?_set_ne h, ih]
      have h2 : j ≠ v := fun z => h z.symm
      simp [h2]
theorem ewipe_get (vs : List Nat) (ρ : Env) (j : Nat) : (Env.wipe ρ vs)[j]? = if j ∈ vs then (ρ[j]?).map (fun _ => none) else ρ[j]? := by
  induction vs with
  | nil => simp [Env.wipe]
  | cons v vs ih =>
    unfold Env.wipe
    by_cases h : v = j
    · subst h
      have hlen : ∀ us : List Nat, (Env.wipe ρ us).length = ρ.length := fun us => by
        induction us with
        | nil => rfl
        | cons u us ih => unfold Env.wipe; rw [List.length_set, ih]
      rw [List.getElem?_set]
      simp only [if_true, List.mem_cons, true_or]
      by_cases hl : v < (Env.wipe ρ vs).length
      · rw [if_pos hl]
        rw [hlen] at hl
        rw [List.getElem?_eq_getElem hl]
        rfl
      · rw [if_neg hl]
        rw [hlen] at hl
        rw [List.getElem?_eq_none (by omega)]
        rfl
    · rw [List.getElem?_set_ne h, ih]
      have h2 : j ≠ v := fun z => h z.symm
      simp [h2]
theorem ewipe_len (vs : List Nat) (ρ : Env) : (Env.wipe ρ vs).length = ρ.length := by
  induction vs with
  | nil => rfl
  | cons u us ih => unfold Env.wipe; rw [List.length_set, ih]
theorem wipe_set {vs : List Nat} {σ : L2.St} {i : Nat} {x : Option V} (h : i ∈ vs) : L2.wipe (σ.set i x) vs = L2.wipe σ vs := by
  apply List.ext_getElem?
  intro j
  rw [wipe_get, wipe_get]
  by_cases hj : j ∈ vs
  · rw [if_pos hj, if_pos hj]
    by_cases e : i = j
    · subst e
      rw [List.getElem?_set]
      by_cases hl : i < σ.length
      · rw [if_pos rfl, if_pos hl, List.getElem?_eq_getElem hl]
        rfl
      · rw [if_pos rfl, if_neg hl, List.getElem?_eq_none (by omega)]
    · rw [List.getElem?_set_ne e]
  · rw [if_neg hj, if_neg hj, List.getElem?_set_ne (fun e => hj (by rw [← e]; exact h))]
theorem wipe_wipe {vs : List Nat} {σ : L2.St} : L2.wipe (L2.wipe σ vs) vs = L2.wipe σ vs := by
  apply List.ext_getElem?
  intro j
  rw [wipe_get, wipe_get]
  by_cases hj : j ∈ vs
  · rw [if_pos hj, if_pos hj]
    cases σ[j]? <;> rfl
  · rw [if_neg hj, if_neg hj]
section
variable {K : PySem.W.Frag} {G0 H0 G H G' H' : Hp} {ρ : Env} {σ : L2.St} {L : Lb} {v : V} {d : D}
theorem SR.wipe (s : SR K G0 H0 ρ σ G H L) (vs : List Nat) : SR K G0 H0 (ρ.wipe vs) (L2.wipe σ vs) G H L where
  gh := s.gh
  g0 := s.g0
  h0 := s.h0
  gnew := s.gnew
  lab := s.lab
  len := by rw [L2.wipe_length, ewipe_len, s.len]
  slot := fun i d k e => by
    rw [ewipe_get] at e
    by_cases hi : i ∈ vs
    · rw [if_pos hi] at e
      cases q : ρ[i]? <;> rw [q] at e <;> cases e
    · rw [if_neg hi] at e
      obtain ⟨v, e1, r⟩ := s.slot i d k e
      exact ⟨v, by rw [wipe_get, if_neg hi]; exact e1, r⟩
theorem SR.set (s : SR K G0 H0 ρ σ G H L) (i : Nat) (r : Rep K G v d) : SR K G0 H0 (ρ.set i (sv d)) (σ.set i (some v)) G H L where
  gh := s.gh
  g0 := s.g0
  h0 := s.h0
  gnew := s.gnew
  lab := s.lab
  len := by rw [List.length_set, List.length_set, s.len]
  slot := fun j e k q => by
    by_cases h : i = j
    · subst h
      rw [List.getElem?_set] at q
      by_cases hl : i < ρ.length
      · rw [if_pos rfl, if_pos hl] at q
        have q2 : (d, 0) = (e, k) := Option.some.inj (Option.some.inj q)
        cases q2
        exact ⟨v, by rw [List.getElem?_set_self (by rw [s.len]; exact hl)], r⟩
      · rw [if_pos rfl, if_neg hl] at q
        cases q
    · rw [List.getElem?_set_ne h] at q
      obtain ⟨w, e1, r1⟩ := s.slot j e k q
      exact ⟨w, by rw [List.getElem?_set_ne h]; exact e1, r1⟩
/-- a thing of ours that nobody else holds comes to stand still -/
theorem SR.adopt (s : SR K G0 H0 ρ σ G H L) {p : Addr} {o : HO} (hp : H p = some o) (h0 : H0 p = none) (hg : G p = none) (hl : L p = none) : SR K G0 H0 ρ σ (upd G p o) H L where
  gh := fun a x e => by
    by_cases h : a = p
    · subst h
      rw [upd_same] at e
      rw [← e]
      exact hp
    · rw [upd_ne h] at e
      exact s.gh _ _ e
  g0 := s.g0.trans (same_new hg)
  h0 := s.h0
  gnew := fun a x e => by
    by_cases h : a = p
    · subst h
      exact .inr h0
    · rw [upd_ne h] at e
      exact s.gnew _ _ e
  lab := fun a q e => by
    obtain ⟨h1, h2⟩ := s.lab a q e
    refine ⟨?_, h2⟩
    rw [upd_ne (fun z => by rw [z, hl] at e; cases e)]
    exact h1
  len := s.len
  slot := fun i d k e => by
    obtain ⟨v, e1, r⟩ := s.slot i d k e
    exact ⟨v, e1, Own.mono (same_new hg) (Same.refl H) (fun _ _ q => q) r⟩
end

/-! ### targets -/
def gNames : List Nat → TGs
  | [] => gNil
  | i :: is => gCons (gName i) (gNames is)
def gTg (K : PySem.W.Frag) : Tg → TG
  | .name i => gName i
  | .names is => fun v σ H Q => gTup K is.length (gNames is) v σ H Q ∨ gUnl K is.length (gNames is) v σ H Q
def Tg.slots : Tg → List Nat
  | .name i => [i]
  | .names is => is
section
variable {K : PySem.W.Frag} {G0 H0 G H : Hp} {ρ ρ1 : Env} {σ : L2.St} {L : Lb} {v : V} {d : D} {Q : L2.St → Hp → Prop}
theorem gNames_of : ∀ {is : List Nat} {xs : List V} {ds : List D} {ρ : Env} {σ : L2.St}, SR K G0 H0 ρ σ G H L → RepAll K G xs ds → setAll is ds ρ = some ρ1 →
    (∀ σ1, SR K G0 H0 ρ1 σ1 G H L → (∀ vs : List Nat, (∀ i ∈ is, i ∈ vs) → L2.wipe σ1 vs = L2.wipe σ vs) → Q σ1 H) → gNames is xs σ H Q
  | [], xs, ds, ρ, σ, s, r, e, k => by
    cases r with
    | nil =>
      have e : ρ = ρ1 := Option.some.inj e
      subst e
      exact ⟨rfl, k σ s fun _ _ => rfl⟩
    | cons => cases e
  | i :: is, xs, ds, ρ, σ, s, r, e, k => by
    cases r with
    | nil => cases e
    | @cons x xs d ds h r =>
      exact ⟨x, xs, rfl, gNames_of (s.set i h) r e fun σ1 s1 w => k σ1 s1 fun vs hv => by
        rw [w vs fun j hj => hv j (List.mem_cons_of_mem _ hj), wipe_set (hv i List.mem_cons_self)]⟩
theorem setAll_len : ∀ {is : List Nat} {ds : List D} {ρ : Env}, setAll is ds ρ = some ρ1 → ds.length = is.length
  | [], [], _, _ => rfl
  | [], _ :: _, _, e => by cases e
  | _ :: _, [], _, e => by cases e
  | _ :: is, _ :: ds, _, e => by rw [List.length_cons, List.length_cons, setAll_len (is := is) (ds := ds) e]
theorem gTg_of {t : Tg} (s : SR K G0 H0 ρ σ G H L) (r : Rep K G v d) (e : t.set d ρ = .ok ρ1)
    (k : ∀ σ1, SR K G0 H0 ρ1 σ1 G H L → (∀ vs : List Nat, (∀ i ∈ t.slots, i ∈ vs) → L2.wipe σ1 vs = L2.wipe σ vs) → Q σ1 H) : gTg K t v σ H Q := by
  cases t with
  | name i =>
    have e := R.ok.inj e
    subst e
    exact k _ (s.set i r) fun vs hv => wipe_set (hv i (List.mem_singleton.mpr rfl))
  | names is =>
    cases r with
    | @lst a xs ds q ra =>
      have e := orBad_ok e
      exact .inr ⟨a, xs, rfl, s.gh.seq q, by rw [ra.length, setAll_len e], gNames_of s ra e k⟩
    | @tup a xs ds q ra =>
      have e := orBad_ok e
      exact .inl ⟨a, xs, rfl, sqT_same s.gh q, by rw [ra.length, setAll_len e], gNames_of s ra e k⟩
    | _ => cases e
end
/-- a name that a def or block may store -/
def tgN (sc : Scope) (x : Str) : Bool := decide (sc.names.lookup x = some .local) || decide (sc.names.lookup x = some .cell)
def pName : Expr → Option Str
  | .Name x _ => some x
  | _ => none
theorem pName_ok {e : Expr} {x : Str} (h : pName e = some x) : ∃ p, e = .Name x p := by
  cases e <;> first | (cases h; done) | exact ⟨_, by rw [← Option.some.inj h]⟩
def pTuple : Expr → Option (List Expr)
  | .Tuple es _ _ => some es
  | _ => none
theorem pTuple_ok {e : Expr} {x : List Expr} (h : pTuple e = some x) : ∃ k p, e = .Tuple x k p := by
  cases e <;> first | (cases h; done) | exact ⟨_, _, by rw [← Option.some.inj h]⟩
def nameOk (N : List Str) (sc : Scope) (i : Nat) (e : Expr) : Bool := match pName e with
  | some x => decide (N[i]? = some x) && tgN sc x
  | none => false
def chkNames (N : List Str) (sc : Scope) : List Nat → List Expr → Bool
  | [], [] => true
  | i :: is, e :: es => nameOk N sc i e && chkNames N sc is es
  | _, _ => false
def chkTg (N : List Str) (sc : Scope) : Tg → Expr → Bool
  | .name i, e => nameOk N sc i e
  | .names is, e => match pTuple e with
    | some es => chkNames N sc is es
    | none => false
section
variable {X : Cx} {sc : Scope}
/-- the names that sc says may be stored here may be -/
def TgOk (X : Cx) (sc : Scope) : Prop := ∀ x, tgN sc x = true → Loc X.env.scope x ∧ (X.fn x = true ∨ X.env.scope.names.lookup x = some .local)
theorem pg_nm (hN : X.N.Nodup) (ok : TgOk X sc) {i : Nat} {e : Expr} (h : nameOk X.N sc i e = true) : PG X e (gName i) := by
  unfold nameOk at h
  cases q : pName e with
  | none => rw [q] at h; cases h
  | some x =>
    rw [q, Bool.and_eq_true] at h
    obtain ⟨p, rfl⟩ := pName_ok q
    obtain ⟨h1, h2⟩ := ok x h.2
    exact pg_name hN (of_decide_eq_true h.1) h1 h2
theorem pgs_nms (hN : X.N.Nodup) (ok : TgOk X sc) : ∀ {is : List Nat} {es : List Expr}, chkNames X.N sc is es = true →
    PGs X es (gNames is) ∧ (assignEach es X.env).length = is.length ∧ (assignEach es X.env).findIdx? (·.1) = none
  | [], [], _ => ⟨pgs_nil, rfl, rfl⟩
  | [], _ :: _, h => by cases h
  | _ :: _, [], h => by cases h
  | i :: is, e :: es, h => by
    have h : (nameOk X.N sc i e && chkNames X.N sc is es) = true := h
    rw [Bool.and_eq_true] at h
    obtain ⟨a, b, c⟩ := pgs_nms hN ok h.2
    have hp := pg_nm hN ok h.1
    have hn : ∃ x p, e = .Name x p := by
      have h1 := h.1
      unfold nameOk at h1
      cases q : pName e with
      | none => rw [q] at h1; cases h1
      | some x =>
        obtain ⟨p, e1⟩ := pName_ok q
        exact ⟨x, p, e1⟩
    obtain ⟨x, p, rfl⟩ := hn
    have ea : assignEach (.Name x p :: es) X.env = (false, assign (.Name x p) X.env) :: assignEach es X.env := rfl
    refine ⟨pgs_cons hp a, ?_, ?_⟩
    · rw [ea, List.length_cons, b, List.length_cons]
    · rw [ea, List.findIdx?_cons, c]
      rfl
theorem pg_tg (hc : X.calm = true) (hN : X.N.Nodup) (ok : TgOk X sc) {t : Tg} {e : Expr} (h : chkTg X.N sc t e = true) : PG X e (gTg X.K t) := by
  cases t with
  | name i => exact pg_nm hN ok h
  | names is =>
    have h : (match pTuple e with | some es => chkNames X.N sc is es | none => false) = true := h
    cases q : pTuple e with
    | none => rw [q] at h; cases h
    | some es =>
      rw [q] at h
      obtain ⟨k, p, rfl⟩ := pTuple_ok q
      obtain ⟨a, b, c⟩ := pgs_nms hN ok h
      have one := pg_tup (pos := p) (k := k) hc a b c
      have two := pg_unl (pos := p) (k := k) hc a b c
      refine ⟨fun pins s σ H v u Q I r hw => ?_⟩
      rcases hw with hw | hw
      · exact one.run pins s σ H v u Q I r hw
      · exact two.run pins s σ H v u Q I r hw
end

/-! ### walks -/
inductive Yl (K : PySem.W.Frag) (W H : Hp) (x : V) (H' : Hp) (d : D) : Prop
  | same : H' = H → Rep K W x d → Yl K W H x H' d
  | new {T : Addr} {xs : List V} {es : List D} : H T = none → H' = upd H T (.tup xs) → x = .ref T → d = .tup es → RepAll K W xs es → Yl K W H x H' d
structure Wk (K : PySem.W.Frag) (J : It) (Sd : Hp → Prop) (W : Hp) (ds : List D) : Prop where
  mono : ∀ H H', Same H H' → Sd H → Sd H'
  go : ∀ i H, Sd H → i < ds.length → J.go i H
  stop : ∀ i H, Sd H → ds.length ≤ i → J.stop i H
  yl : ∀ i H x H', Sd H → i < ds.length → J.yld i H x H' → ∃ d, ds[i]? = some d ∧ Yl K W H x H' d
def tIv (K : PySem.W.Frag) (G0 H0 : Hp) (ρ : Env) (r : R V3) : TI := fun σ H Q => ∃ G L, SR K G0 H0 ρ σ G H L ∧ ∃ x ds, r = .ok x ∧ items x.d = .ok ds ∧
  ∀ J Sd H' G', SR K G0 H0 ρ σ G' H' L → Same G G' → Same H H' → Sd (wld G' H' L x.s) → Wk K J Sd (wld G' H' L x.t) ds → Q J H'
section
variable {K : PySem.W.Frag} {W H : Hp} {a : Addr} {xs : List V} {ds : List D}
theorem wk_list (r : RepAll K W xs ds) : Wk K (Itl K a) (fun H => SqL K H a xs) W ds where
  mono := fun H H' s h => s.seq h
  go := fun i H h hi => ⟨xs, xs[i]'(by rw [r.length]; exact hi), h, by simp [r.length, hi]⟩
  stop := fun i H h hi => ⟨xs, h, by rw [r.length]; exact hi⟩
  yl := fun i H x H' h hi y => by
    obtain ⟨e, y⟩ := y
    obtain ⟨d, e1, e2⟩ := r.at (y xs h)
    exact ⟨d, e1, .same e e2⟩
theorem wk_tup (r : RepAll K W xs ds) : Wk K (Itt K a) (fun H => SqT K H a xs) W ds where
  mono := fun H H' s h => sqT_same s h
  go := fun i H h hi => ⟨xs, xs[i]'(by rw [r.length]; exact hi), h, by simp [r.length, hi]⟩
  stop := fun i H h hi => ⟨xs, h, by rw [r.length]; exact hi⟩
  yl := fun i H x H' h hi y => by
    obtain ⟨e, y⟩ := y
    obtain ⟨d, e1, e2⟩ := r.at (y xs h)
    exact ⟨d, e1, .same e e2⟩
theorem upto_get {lo : Int} {n i : Nat} (h : i < n) : (upto lo n)[i]? = some (.int (lo + i)) := by
  unfold upto
  rw [List.getElem?_map, List.getElem?_range h]
  rfl
theorem upto_len {lo : Int} {n : Nat} : (upto lo n).length = n := by
  unfold upto
  rw [List.length_map, List.length_range]
theorem wk_rng {lo : Int} {n : Nat} : Wk K (Itr lo n) (fun _ => True) W (upto lo n) where
  mono := fun _ _ _ _ => trivial
  go := fun i H _ hi => by
    rw [upto_len] at hi
    exact hi
  stop := fun i H _ hi => by
    rw [upto_len] at hi
    exact hi
  yl := fun i H x H' _ hi y => by
    rw [upto_len] at hi
    exact ⟨_, upto_get hi, .same y.1 (by rw [y.2]; exact .int _)⟩
theorem enumD_get {i : Nat} {d : D} (h : ds[i]? = some d) : (enumD ds)[i]? = some (.tup [.int (i : Nat), d]) := by
  have hl : i < ds.length := (List.getElem?_eq_some_iff.mp h).1
  unfold enumD
  rw [List.getElem?_zipWith, List.getElem?_range hl, h]
theorem enumD_len : (enumD ds).length = ds.length := by
  unfold enumD
  rw [List.length_zipWith, List.length_range, Nat.min_self]
theorem wk_enum (r : RepAll K W xs ds) : Wk K (Ite K a) (fun H => SqL K H a xs) W (enumD ds) where
  mono := fun H H' s h => s.seq h
  go := fun i H h hi => by
    rw [enumD_len] at hi
    exact ⟨xs, xs[i]'(by rw [r.length]; exact hi), h, by simp [r.length, hi]⟩
  stop := fun i H h hi => ⟨xs, h, by rw [r.length, ← enumD_len (ds := ds)]; exact hi⟩
  yl := fun i H x H' h hi y => by
    obtain ⟨T, x', e, hT, eH, y⟩ := y
    obtain ⟨d, e1, e2⟩ := r.at (y xs h)
    exact ⟨_, enumD_get e1, .new hT eH e rfl (.cons (.int _) (.cons e2 .nil))⟩
theorem wk_enumT (r : RepAll K W xs ds) : Wk K (IteT K a) (fun H => SqT K H a xs) W (enumD ds) where
  mono := fun H H' s h => sqT_same s h
  go := fun i H h hi => by
    rw [enumD_len] at hi
    exact ⟨xs, xs[i]'(by rw [r.length]; exact hi), h, by simp [r.length, hi]⟩
  stop := fun i H h hi => ⟨xs, h, by rw [r.length, ← enumD_len (ds := ds)]; exact hi⟩
  yl := fun i H x H' h hi y => by
    obtain ⟨T, x', e, hT, eH, y⟩ := y
    obtain ⟨d, e1, e2⟩ := r.at (y xs h)
    exact ⟨_, enumD_get e1, .new hT eH e rfl (.cons (.int _) (.cons e2 .nil))⟩
theorem wk_rev (r : RepAll K W xs ds) : Wk K (Itv K a xs.length) (fun H => SqL K H a xs) W ds.reverse where
  mono := fun H H' s h => s.seq h
  go := fun i H h hi => by
    rw [List.length_reverse] at hi
    have hl := r.length
    have h1 : xs.length - 1 - i < xs.length := by omega
    exact ⟨by omega, xs, xs[xs.length - 1 - i], h, List.getElem?_eq_getElem h1⟩
  stop := fun i H h hi => by
    rw [List.length_reverse] at hi
    have hl := r.length
    show xs.length ≤ i
    omega
  yl := fun i H x H' h hi y => by
    rw [List.length_reverse] at hi
    have hl := r.length
    obtain ⟨e, y⟩ := y
    obtain ⟨d, e1, e2⟩ := r.at (y xs h)
    refine ⟨d, ?_, .same e e2⟩
    rw [List.getElem?_reverse hi, ← e1, hl]
theorem wk_revT (r : RepAll K W xs ds) : Wk K (RT.ItvT K a xs.length) (fun H => SqT K H a xs) W ds.reverse where
  mono := fun H H' s h => sqT_same s h
  go := fun i H h hi => by
    rw [List.length_reverse] at hi
    have hl := r.length
    have h1 : xs.length - 1 - i < xs.length := by omega
    exact ⟨by omega, xs, xs[xs.length - 1 - i], h, List.getElem?_eq_getElem h1⟩
  stop := fun i H h hi => by
    rw [List.length_reverse] at hi
    have hl := r.length
    show xs.length ≤ i
    omega
  yl := fun i H x H' h hi y => by
    rw [List.length_reverse] at hi
    have hl := r.length
    obtain ⟨e, y⟩ := y
    obtain ⟨d, e1, e2⟩ := r.at (y xs h)
    refine ⟨d, ?_, .same e e2⟩
    rw [List.getElem?_reverse hi, ← e1, hl]
end
end Mp

set_option Elab.async false
set_option linter.all false
set_option maxRecDepth 100000
set_option maxHeartbeats 4000000
/-! Mp6: chk: an expression of the small language stands for this syntax; what it then keeps. -/
namespace Mp
open PySem PySem.Spec PyProof.Rows L2

/-! ### syntax taken apart -/
def pConst : Expr → Option Const
  | .Constant c _ _ => some c
  | _ => none
theorem pConst_ok {e : Expr} {c : Const} (h : pConst e = some c) : ∃ k p, e = .Constant c k p := by
  cases e <;> first | (cases h; done) | exact ⟨_, _, by rw [← Option.some.inj h]⟩
def pBin : Expr → Option (Expr × Operator × Expr)
  | .BinOp a o b _ => some (a, o, b)
  | _ => none
theorem pBin_ok {e a b : Expr} {o : Operator} (h : pBin e = some (a, o, b)) : ∃ p, e = .BinOp a o b p := by
  cases e <;> first | (cases h; done) | (cases h; exact ⟨_, rfl⟩)
def pUn : Expr → Option (UnaryOp × Expr)
  | .UnaryOp o a _ => some (o, a)
  | _ => none
theorem pUn_ok {e a : Expr} {o : UnaryOp} (h : pUn e = some (o, a)) : ∃ p, e = .UnaryOp o a p := by
  cases e <;> first | (cases h; done) | (cases h; exact ⟨_, rfl⟩)
def pBool : Expr → Option (BoolOp × List Expr)
  | .BoolOp o es _ => some (o, es)
  | _ => none
theorem pBool_ok {e : Expr} {o : BoolOp} {es : List Expr} (h : pBool e = some (o, es)) : ∃ p, e = .BoolOp o es p := by
  cases e <;> first | (cases h; done) | (cases h; exact ⟨_, rfl⟩)
def pCmp : Expr → Option (Expr × List CmpOp × List Expr)
  | .Compare a os bs _ => some (a, os, bs)
  | _ => none
theorem pCmp_ok {e a : Expr} {os : List CmpOp} {bs : List Expr} (h : pCmp e = some (a, os, bs)) : ∃ p, e = .Compare a os bs p := by
  cases e <;> first | (cases h; done) | (cases h; exact ⟨_, rfl⟩)
def pIf : Expr → Option (Expr × Expr × Expr)
  | .IfExp c a b _ => some (c, a, b)
  | _ => none
theorem pIf_ok {e a b c : Expr} (h : pIf e = some (c, a, b)) : ∃ p, e = .IfExp c a b p := by
  cases e <;> first | (cases h; done) | (cases h; exact ⟨_, rfl⟩)
def pList : Expr → Option (List Expr)
  | .List es _ => some es
  | _ => none
theorem pList_ok {e : Expr} {es : List Expr} (h : pList e = some es) : ∃ p, e = .List es p := by
  cases e <;> first | (cases h; done) | (cases h; exact ⟨_, rfl⟩)
def pSub : Expr → Option (Expr × Expr)
  | .Subscript a b _ => some (a, b)
  | _ => none
theorem pSub_ok {e a b : Expr} (h : pSub e = some (a, b)) : ∃ p, e = .Subscript a b p := by
  cases e <;> first | (cases h; done) | (cases h; exact ⟨_, rfl⟩)
def pSlice : Expr → Option (Option Expr × Option Expr)
  | .Slice l h none _ => some (l, h)
  | _ => none
theorem pSlice_ok {e : Expr} {l h : Option Expr} (q : pSlice e = some (l, h)) : ∃ p, e = .Slice l h none p := by
  cases e with
  | Slice a b c p =>
    cases c with
    | none =>
      cases q
      exact ⟨_, rfl⟩
    | some _ => cases q
  | _ => cases q
/-- f(e, ..) -/
def pCall : Expr → Option (Str × Expr × List Expr)
  | .Call (.Name x _) (e :: es) [] _ => some (x, e, es)
  | _ => none
theorem pCall_ok {c e : Expr} {x : Str} {es : List Expr} (h : pCall c = some (x, e, es)) : ∃ p pos, c = .Call (.Name x p) (e :: es) [] pos := by
  unfold pCall at h
  split at h
  · cases h
    exact ⟨_, _, rfl⟩
  · cases h
/-- o.m(e, ..) on one line -/
def pMeth : Expr → Option (Expr × Str × Expr × List Expr)
  | .Call (.Attribute o m ap) (e :: es) [] cp => if (ap.endLine == cp.line) = true then some (o, m, e, es) else none
  | _ => none
theorem pMeth_ok {c o e : Expr} {m : Str} {es : List Expr} (h : pMeth c = some (o, m, e, es)) : ∃ ap cp, c = .Call (.Attribute o m ap) (e :: es) [] cp ∧ (ap.endLine == cp.line) = true := by
  unfold pMeth at h
  split at h
  · split at h
    · cases h
      exact ⟨_, _, rfl, ‹_›⟩
    · cases h
  · cases h
def pLC : Expr → Option (Expr × Expr × Expr × List Expr × Scope)
  | .ListComp elt [⟨tg, iter, ifs, 0⟩] sc _ => some (elt, tg, iter, ifs, sc)
  | _ => none
theorem pLC_ok {c elt tg iter : Expr} {ifs : List Expr} {sc : Scope} (h : pLC c = some (elt, tg, iter, ifs, sc)) : ∃ p, c = .ListComp elt [⟨tg, iter, ifs, 0⟩] sc p := by
  unfold pLC at h
  split at h
  · cases h
    exact ⟨_, rfl⟩
  · cases h

/-! ### the check -/
structure Tb where
  N : List Str
  fn : List Str
  con : List (Str × Int)
/-- what is asked: an expression, the rest of an and | or, arguments, what a loop with this target walks -/
inductive Ag where
  | ex (e : Expr)
  | bo (o : BoolOp) (es : List Expr)
  | args (es : List Expr)
  | it (e tg : Expr)
def Ag.e : Ag → Option Expr
  | .ex e => some e
  | .bo _ [e] => some e
  | .it e _ => some e
  | _ => none
/-- the first of an and | or and its rest -/
def Ag.b (o : BoolOp) : Ag → Option (Expr × Expr × List Expr)
  | .bo p (a :: b :: r) => if p = o then some (a, b, r) else none
  | .bo _ [e] => (match pBool e with
    | some (p, a :: b :: r) => if p = o then some (a, b, r) else none
    | _ => none)
  | .ex e => (match pBool e with
    | some (p, a :: b :: r) => if p = o then some (a, b, r) else none
    | _ => none)
  | _ => none
def visN (sc : Scope) (x : Str) : Bool := (decide (sc.names.lookup x = some .local) || decide (sc.names.lookup x = some .cell) || decide (sc.names.lookup x = some .free)) && !(x == "__debug__") && !(x == "__classdict__")
def glN (sc : Scope) (x : Str) : Bool := decide (sc.names.lookup x = some .globalImplicit) && !(x == "__debug__")
def isNon : M → Bool
  | .con .non => true
  | _ => false
def ownN (N : List Str) (own : List Nat) : List (Str × Nat) := own.map fun i => (N.getD i "", i)
section
variable (T : Tb)
def conOk (d : D) (sc : Scope) (e : Expr) : Bool := match pConst e with
  | some c => (match d, c with
    | .non, .none => true
    | .bl b, .bool c => b == c
    | .int i, .int j => decide (i = j)
    | .str x, .str y => decide (x = y)
    | _, _ => false)
  | none => (match pName e, d with
    | some x, .int i => decide (T.con.lookup x = some i) && glN sc x
    | _, _ => false)
def tyOk (sc : Scope) (t : Ty) (e : Expr) : Bool := match pName e with
  | some x => decide (x = Str.ofString (tyS t)) && glN sc x
  | none => false
def tysOk (sc : Scope) : List Ty → List Expr → Bool
  | [], [] => true
  | t :: ts, e :: es => okE e && tyOk sc t e && tysOk sc ts es
  | _, _ => false
def chk : M → Scope → Ag → Bool
  | .var i, sc, g => (match g.e with
    | some e => (match pName e with
      | some x => decide (T.N[i]? = some x) && visN sc x
      | none => false)
    | none => false)
  | .con d, sc, g => (match g.e with
    | some e => conOk T d sc e
    | none => false)
  | .bin o a b, sc, g => (match g.e.bind pBin with
    | some (x, p, y) => decide (p = opOf o) && chk a sc (.ex x) && chk b sc (.ex y)
    | none => false)
  | .neg a, sc, g => (match g.e.bind pUn with
    | some (p, x) => decide (p = .USub) && chk a sc (.ex x)
    | none => false)
  | .not a, sc, g => (match g.e.bind pUn with
    | some (p, x) => decide (p = .Not) && chk a sc (.ex x)
    | none => false)
  | .and a b, sc, g => (match g.b .And with
    | some (x, y, r) => chk a sc (.ex x) && chk b sc (.bo .And (y :: r))
    | none => false)
  | .or a b, sc, g => (match g.b .Or with
    | some (x, y, r) => chk a sc (.ex x) && chk b sc (.bo .Or (y :: r))
    | none => false)
  | .cmp o a b, sc, g => (match g.e.bind pCmp with
    | some (x, [p], [y]) => decide (p = copOf o) && okE y && chk a sc (.ex x) && chk b sc (.ex y)
    | _ => false)
  | .chain o p a b c, sc, g => (match g.e.bind pCmp with
    | some (x, [o', p'], [y, z]) => decide (o' = copOf o) && decide (p' = copOf p) && okE z && chk a sc (.ex x) && chk b sc (.ex y) && chk c sc (.ex z)
    | _ => false)
  | .ite c a b, sc, g => (match g.e.bind pIf with
    | some (z, x, y) => chk c sc (.ex z) && chk a sc (.ex x) && chk b sc (.ex y)
    | none => false)
  | .nil, _, g => (match g with
    | .args [] => true
    | _ => false)
  | .cons a r, sc, g => (match g with
    | .args (e :: es) => okE e && chk a sc (.ex e) && chk r sc (.args es)
    | _ => false)
  | .lst es, sc, g => (match g.e.bind pList with
    | some xs => chk es sc (.args xs)
    | none => false)
  | .tup es, sc, g => (match g.e.bind pTuple with
    | some xs => chk es sc (.args xs)
    | none => false)
  | .ix a b, sc, g => (match g.e.bind pSub with
    | some (x, y) => okE y && chk a sc (.ex x) && chk b sc (.ex y)
    | none => false)
  | .sl a lo hi, sc, g => (match g.e.bind pSub with
    | some (x, y) => (match pSlice y with
      | some (l, h) => chk a sc (.ex x) && (match l with
          | none => isNon lo
          | some l => !isNon lo && chk lo sc (.ex l)) && (match h with
          | none => isNon hi
          | some h => !isNon hi && chk hi sc (.ex h))
      | none => false)
    | none => false)
  | .isi a ts, sc, g => (match g.e.bind pCall with
    | some (f, x, [t]) => decide (f = "isinstance") && glN sc f && okE x && okE t && chk a sc (.ex x) && decide (ts.length ≤ 100) && (match pTuple t with
      | some es => tysOk sc ts es
      | none => false)
    | _ => false)
  | .isi1 a t, sc, g => (match g.e.bind pCall with
    | some (f, x, [y]) => decide (f = "isinstance") && glN sc f && okE x && okE y && chk a sc (.ex x) && tyOk sc t y
    | _ => false)
  | .bf f es, sc, g => (match g.e.bind pCall with
    | some (x, e, r) => decide (x = bfN f) && glN sc x && okE e && r.all okE && chk es sc (.args (e :: r))
    | none => false)
  | .call f es, sc, g => (match g.e.bind pCall with
    | some (x, e, r) => decide (T.fn[f]? = some x) && glN sc x && okE e && r.all okE && chk es sc (.args (e :: r))
    | none => false)
  | .lc e t own it, sc, g => (match g.e.bind pLC with
    | some (elt, tg, iter, [], cs) => okE iter && blkC T.N sc cs (ownN T.N own) && chkTg T.N cs t tg && t.slots.all (fun i => own.contains i) && chk it sc (.it iter tg) && chk e (relS cs sc) (.ex elt)
    | _ => false)
  | .lcIf e t own it c, sc, g => (match g.e.bind pLC with
    | some (elt, tg, iter, [k], cs) => okE iter && blkC T.N sc cs (ownN T.N own) && chkTg T.N cs t tg && t.slots.all (fun i => own.contains i) && chk it sc (.it iter tg) && chk e (relS cs sc) (.ex elt) && chk c (relS cs sc) (.ex k)
    | _ => false)
  | .index a b, sc, g => (match g.e.bind pMeth with
    | some (o, m, e, []) => decide (m = "index") && okE e && chk a sc (.ex o) && chk b sc (.ex e) && ((pName o).isSome || (pCall o).isSome)
    | _ => false)
  | .rng1 a, sc, g => (match g with
    | .it e _ => (match pCall e with
      | some (f, x, []) => decide (f = "range") && glN sc f && okE x && chk a sc (.ex x)
      | _ => false)
    | _ => false)
  | .rng2 a b, sc, g => (match g with
    | .it e _ => (match pCall e with
      | some (f, x, [y]) => decide (f = "range") && glN sc f && okE x && okE y && chk a sc (.ex x) && chk b sc (.ex y)
      | _ => false)
    | _ => false)
  | .enum a, sc, g => (match g with
    | .it e tg => (match pCall e with
      | some (f, x, []) => decide (f = "enumerate") && glN sc f && okE x && (pTuple tg).isSome && chk a sc (.ex x)
      | _ => false)
    | _ => false)
  | .zip a b, sc, g => (match g with
    | .it e tg => (match pCall e with
      | some (f, x, [y]) => decide (f = "zip") && glN sc f && okE x && okE y && (pTuple tg).isSome && chk a sc (.ex x) && chk b sc (.ex y)
      | _ => false)
    | _ => false)
  | .rev a, sc, g => (match g with
    | .it e _ => (match pCall e with
      | some (f, x, []) => decide (f = "reversed") && glN sc f && okE x && chk a sc (.ex x)
      | _ => false)
    | _ => false)
end

/-! ### what a context offers; what a piece keeps -/
def bltAll : List Str := ["len", "int", "sum", "max", "min", "list", "tuple", "abs", "bool", "str", "range", "enumerate", "zip", "reversed", "isinstance"]
def spF (K : PySem.W.Frag) (n : Nat) (F : Fn) : Sp := fun vs H Q _ => ∃ (G : Hp) (ds : List D) (r : D × Nat), vs.length = n ∧ Same G H ∧ RepAll K G vs ds ∧ F ds = .ok r ∧
  ∀ (v : V) (H' G' : Hp) (L' : Lb), Same H H' → Same G G' → Same G' H' → (∀ a o, G' a = some o → G a = some o ∨ H a = none) →
    (∀ a p, L' a = some p → G' a = none ∧ H a = none ∧ (∃ o, H' a = some o) ∧ ∃ t, p = 0 :: t) → Own K G' H' L' r.2 [0] v r.1 → Q v H'
structure Cn (T : Tb) (Φ : Nat → Fn) (k : Nat) (X : Cx) : Prop where
  N : X.N = T.N
  calm : X.calm = true
  nd : X.N.Nodup
  room : Room k X.A
  blt : ∀ x ∈ bltAll, X.mg x = none
  con : ∀ x i, T.con.lookup x = some i → ∃ t, X.mg x = some (.int i t)
  fns : ∀ j x, T.fn[j]? = some x → ∃ f fd ps, X.mg x = some (.ref f) ∧ PySem.W.keepIn X.K (.ref f) = true ∧ Binds X.K fd ps [] ∧ FnOk X.prog X.w X.K X.mg X.base CX0 k f fd ps (spF X.K ps.length (Φ j)) ∧ ∀ ds r, Φ j ds = .ok r → ds.length = ps.length
def Goal (Φ : Nat → Fn) (X : Cx) (m : M) : Ag → Prop
  | .ex e => ∀ G0 H0 ρ, PE X e (tEv X.K G0 H0 ρ (ev Φ m ρ)) ∧ PT X e (tTst X.K G0 H0 ρ (tst Φ m ρ))
  | .bo o es => ∀ pos G0 H0 ρ, PE X (.BoolOp o es pos) (tEv X.K G0 H0 ρ (ev Φ m ρ)) ∧ PW X (.BoolOp o es pos) (tTst X.K G0 H0 ρ (tst Φ m ρ))
  | .args es => ∀ G0 H0 ρ, PA X es (tEvs X.K G0 H0 ρ (evs Φ m ρ))
  | .it e tg => ∀ G0 H0 ρ, PI X tg e (tIv X.K G0 H0 ρ (ev Φ m ρ))
def Sound (T : Tb) (Φ : Nat → Fn) (k : Nat) (m : M) : Prop := ∀ (X : Cx) (sc : Scope) (g : Ag), Cn T Φ k X → X.env.scope = sc → chk T m sc g = true → Goal Φ X m g
section
variable {T : Tb} {Φ : Nat → Fn} {k : Nat} {X : Cx} {m : M} {e : Expr}
/-- a test of a value by its truth -/
theorem pt_of {G0 H0 : Hp} {ρ : Env} (h : PE X e (tEv X.K G0 H0 ρ (ev Φ m ρ))) (p : plainT e = true) : PT X e (tTst X.K G0 H0 ρ (tst Φ m ρ)) := by
  refine pt_imp (pt_truth h (plain_ok p X.env)) fun σ H Q h => ?_
  obtain ⟨G, L, sr, b, e1, k⟩ := h
  obtain ⟨x, ex, e2⟩ := R.of_bind e1
  exact ⟨G, L, sr, x, ex, fun v H' G' sr' g h r => ⟨b, truV_of (RepW.h sr' r) e2, k H' G' sr' g h⟩⟩
/-- walked as a list or tuple -/
theorem pi_of {G0 H0 : Hp} {ρ : Env} {tg : Expr} (h : PE X e (tEv X.K G0 H0 ρ (ev Φ m ρ))) : PI X tg e (tIv X.K G0 H0 ρ (ev Φ m ρ)) := by
  refine pi_imp (pi_seq h) fun σ H Q h => ?_
  obtain ⟨G, L, sr, x, ds, ex, ei, k⟩ := h
  refine ⟨G, L, sr, x, ex, fun v H' G' sr' g h r => ?_⟩
  obtain ⟨d, s, t⟩ := x
  cases d with
  | lst es =>
    have ei := R.ok.inj ei
    subst ei
    obtain ⟨a, xs, e1, q, _, ra⟩ := r
    exact ⟨a, e1, .inl ⟨⟨xs, sr'.wldH.seq q⟩, k _ (fun H => SqL X.K H a xs) H' G' sr' g h q (wk_list ra)⟩⟩
  | tup es =>
    have ei := R.ok.inj ei
    subst ei
    obtain ⟨a, xs, e1, q, _, _, ra⟩ := r
    exact ⟨a, e1, .inr ⟨⟨xs, sqT_same sr'.wldH q⟩, k _ (fun H => SqT X.K H a xs) H' G' sr' g h q (wk_tup ra)⟩⟩
  | _ => cases ei
end
end Mp

set_option Elab.async false
set_option linter.all false
set_option maxRecDepth 100000
set_option maxHeartbeats 4000000
/-! Mp7: each form of expression keeps what chk says. -/
namespace Mp
open PySem PySem.Spec PyProof.Rows L2
section
variable {T : Tb} {Φ : Nat → Fn} {k : Nat} {X : Cx} {m a b c : M} {e : Expr} {g : Ag}

theorem lift (h : ∀ G0 H0 ρ, PE X e (tEv X.K G0 H0 ρ (ev Φ m ρ)) ∧ PT X e (tTst X.K G0 H0 ρ (tst Φ m ρ))) (hg : g.e = some e) : Goal Φ X m g := by
  cases g with
  | ex e' =>
    cases hg
    exact h
  | bo o es =>
    match es, hg with
    | [e'], hg =>
      cases hg
      intro pos G0 H0 ρ
      refine ⟨pe_one (h G0 H0 ρ).1, ?_⟩
      cases o with
      | And => exact pw_and1 (h G0 H0 ρ).2
      | Or => exact pw_or1 (h G0 H0 ρ).2
    | [], hg => cases hg
    | _ :: _ :: _, hg => cases hg
  | args es => cases hg
  | it e' tg =>
    cases hg
    exact fun G0 H0 ρ => pi_of (h G0 H0 ρ).1
/-- .. whose test is by truth -/
theorem liftP (h : ∀ G0 H0 ρ, PE X e (tEv X.K G0 H0 ρ (ev Φ m ρ))) (p : plainT e = true) (hg : g.e = some e) : Goal Φ X m g :=
  lift (fun G0 H0 ρ => ⟨h G0 H0 ρ, pt_of (h G0 H0 ρ) p⟩) hg
theorem of_bindE {α : Type} {f : Expr → Option α} {o : Option Expr} {z : α} (h : o.bind f = some z) : ∃ e, o = some e ∧ f e = some z := by
  cases o with
  | none => cases h
  | some e => exact ⟨e, rfl, h⟩
theorem and2 {p q : Bool} (h : (p && q) = true) : p = true ∧ q = true := by
  rwa [Bool.and_eq_true] at h
theorem gl_of {sc : Scope} {x : Str} (hs : X.env.scope = sc) (h : glN sc x = true) : Gl X x ∧ (x == ("__debug__" : Str)) = false := by
  obtain ⟨h1, h2⟩ := and2 h
  refine ⟨?_, by simpa using h2⟩
  show X.env.scope.names.lookup x = _
  rw [hs]
  exact of_decide_eq_true h1

/-! ### names, constants -/
theorem snd_var (i : Nat) : Sound T Φ k (.var i) := fun X sc g C hs h => by
  unfold chk at h
  cases hg : g.e with
  | none => rw [hg] at h; cases h
  | some e =>
    rw [hg] at h
    dsimp only at h
    cases hx : pName e with
    | none => rw [hx] at h; cases h
    | some x =>
      rw [hx] at h
      obtain ⟨h1, h2⟩ := and2 h
      obtain ⟨h2, h4⟩ := and2 h2
      obtain ⟨h2, h3⟩ := and2 h2
      obtain ⟨p, rfl⟩ := pName_ok hx
      refine liftP (fun G0 H0 ρ => ?_) rfl hg
      have hv : Vis X.env.scope x := by
        rw [hs]
        rw [Bool.or_eq_true, Bool.or_eq_true] at h2
        rcases h2 with (h2 | h2) | h2
        · exact .inl (of_decide_eq_true h2)
        · exact .inr (.inl (of_decide_eq_true h2))
        · exact .inr (.inr (of_decide_eq_true h2))
      refine pe_imp (pe_var (i := i) (by rw [C.N]; exact of_decide_eq_true h1) hv (by simpa using h3) (by simpa using h4)) fun σ H Q q => ?_
      obtain ⟨G, L, sr, x, ex, k⟩ := q
      obtain ⟨d, e1, e2⟩ := R.of_bind ex
      have e2 := R.ok.inj e2
      subst e2
      unfold Env.val at e1
      split at e1
      · rename_i d' n q
        cases e1
        obtain ⟨v, e3, o⟩ := sr.slot i d n q
        refine ⟨v, e3, Go.here sr k ?_⟩
        have hd : ρ.dep i = if n = 0 then [] else [i] := by
          unfold Env.dep
          rw [q]
          cases n <;> rfl
        have hd1 : ρ.dep1 i = if n ≤ 1 then [] else [i] := by
          unfold Env.dep1
          rw [q]
        show RepW X.K (wld G H L (dp d (ρ.dep i))) (wld G H L (dp d (ρ.dep1 i))) v d
        cases ha : atomic d with
        | true =>
          cases n with
          | zero => exact RepW.flat (W := G) o ha
          | succ n =>
            obtain ⟨a, xs, ds, _, ed, _⟩ := o
            rw [ed] at ha
            cases ha
        | false =>
          have ed : ∀ s, dp d s = s := fun s => by
            unfold dp
            rw [ha]
            rfl
          rw [ed, ed, hd, hd1]
          cases n with
          | zero =>
            rw [if_pos rfl, if_pos (Nat.zero_le 1), sr.wld0]
            exact RepW.one o
          | succ n =>
            rw [if_neg (Nat.succ_ne_zero n)]
            have w : ∀ a p', L a = some p' → p'.head? = [i].head? → [i] ≠ [] → ∀ o, H a = some o → wld G H L [i] a = some o := fun a p' hl hh _ o ho => by
              cases p' with
              | nil => cases hh
              | cons j t =>
                have ej : j = i := Option.some.inj hh
                subst ej
                rw [wld_in hl inS_one]
                exact ho
            obtain ⟨a, xs, ds, ev, ed, eh, el, ra⟩ := Own.items sr.gwld w (by simp) o
            obtain ⟨a2, xs2, ds2, ev2, ed2, eh2, _, elen, its⟩ := o
            subst ev ed
            cases ev2
            cases ed2
            rw [eh] at eh2
            cases eh2
            refine ⟨a, xs, rfl, SqL.of (w a _ el rfl (by simp) _ eh), ra, ?_⟩
            cases n with
            | zero =>
              rw [if_pos (Nat.le_refl 1), sr.wld0]
              exact repAll_of elen fun j x e q1 q2 => its j x e q1 q2
            | succ n =>
              rw [if_neg (by omega)]
              exact ra
      · cases e1
theorem snd_con (d : D) : Sound T Φ k (.con d) := fun X sc g C hs h => by
  unfold chk at h
  cases hg : g.e with
  | none => rw [hg] at h; cases h
  | some e =>
    rw [hg] at h
    have h : conOk T d sc e = true := h
    unfold conOk at h
    have fin : ∀ {v : V}, atomic d = true → (∀ W, Rep X.K W v d) → PE X e (tC v) → plainT e = true → Goal Φ X (.con d) g := fun {v} ha hr hp pt => liftP (fun G0 H0 ρ => pe_imp hp fun σ H Q q => by
      obtain ⟨G, L, sr, x, ex, k⟩ := q
      have e2 := R.ok.inj ex
      subst e2
      exact Go.here sr k (RepV.at (W := G) (hr G) ha)) pt hg
    cases hc : pConst e with
    | some c =>
      rw [hc] at h
      obtain ⟨k', p, rfl⟩ := pConst_ok hc
      cases d with
      | non =>
        cases c <;> first | (cases h; done) | skip
        exact fin rfl (fun _ => .non) pe_non rfl
      | bl b =>
        cases c with
        | bool b' =>
          have e : b = b' := by simpa using h
          subst e
          exact fin rfl (fun _ => .bl _) pe_bl rfl
        | _ => cases h
      | int i =>
        cases c with
        | int i' =>
          have e : i = i' := of_decide_eq_true h
          subst e
          exact fin rfl (fun _ => .int _) pe_int rfl
        | _ => cases h
      | str x =>
        cases c with
        | str x' =>
          have e : x = x' := of_decide_eq_true h
          subst e
          exact fin rfl (fun _ => .str _) pe_str rfl
        | _ => cases h
      | lst _ => cases c <;> cases h
      | tup _ => cases c <;> cases h
    | none =>
      rw [hc] at h
      cases hx : pName e with
      | none => rw [hx] at h; cases h
      | some x =>
        rw [hx] at h
        cases d with
        | int i =>
          obtain ⟨h1, h2⟩ := and2 h
          obtain ⟨p, rfl⟩ := pName_ok hx
          obtain ⟨g1, g2⟩ := gl_of hs h2
          obtain ⟨t, ht⟩ := C.con x i (of_decide_eq_true h1)
          exact fin rfl (fun _ => .int _) (pe_glob (v := .int i) g1 ht ⟨t, rfl⟩ g2) rfl
        | _ => cases h

/-! ### operators -/
theorem snd_bin (o : BOp) (A : Sound T Φ k a) (B : Sound T Φ k b) : Sound T Φ k (.bin o a b) := fun X sc g C hs h => by
  unfold chk at h
  cases hp : g.e.bind pBin with
  | none => rw [hp] at h; cases h
  | some z =>
    obtain ⟨x, p, y⟩ := z
    rw [hp] at h
    obtain ⟨h1, h3⟩ := and2 h
    obtain ⟨h1, h2⟩ := and2 h1
    obtain ⟨e, hg, he⟩ := of_bindE hp
    obtain ⟨pos, rfl⟩ := pBin_ok he
    have e1 := of_decide_eq_true h1
    subst e1
    refine liftP (fun G0 H0 ρ => pe_imp (pe_op (op_B o) (A X sc (.ex x) C hs h2 G0 H0 ρ).1 (B X sc (.ex y) C hs h3 G0 H0 ρ).1) fun σ H Q q => ?_) rfl hg
    obtain ⟨G, L, sr, r, er, k⟩ := q
    obtain ⟨x1, e1, er⟩ := R.of_bind er
    obtain ⟨x2, e2, er⟩ := R.of_bind er
    obtain ⟨z, e3, er⟩ := R.of_bind er
    have er := R.ok.inj er
    subst er
    exact ⟨G, L, sr, x1, e1, fun v1 H1 G1 sr1 g1 h1 r1 => ⟨G1, L, sr1, x2, e2, fun v2 H2 G2 sr2 g2 h2 r2 =>
      rB_of sr2 (RepV.mono sr1 g2 h2 r1) r2 e3 fun v H' G' s' g h r => k v H' G' s' (g1.trans (g2.trans g)) (h1.trans (h2.trans h)) r⟩⟩
theorem intOf_ok {d : D} {i : Int} (h : intOf d = .ok i) : d = .int i := by
  cases d <;> first | (cases h; done) | rw [R.ok.inj h]
theorem snd_neg (A : Sound T Φ k a) : Sound T Φ k (.neg a) := fun X sc g C hs h => by
  unfold chk at h
  cases hp : g.e.bind pUn with
  | none => rw [hp] at h; cases h
  | some z =>
    obtain ⟨p, x⟩ := z
    rw [hp] at h
    obtain ⟨h1, h2⟩ := and2 h
    obtain ⟨e, hg, he⟩ := of_bindE hp
    obtain ⟨pos, rfl⟩ := pUn_ok he
    have e1 := of_decide_eq_true h1
    subst e1
    refine liftP (fun G0 H0 ρ => pe_imp (pe_un un_neg (A X sc (.ex x) C hs h2 G0 H0 ρ).1) fun σ H Q q => ?_) rfl hg
    obtain ⟨G, L, sr, r, er, k⟩ := q
    obtain ⟨x1, e1, er⟩ := R.of_bind er
    obtain ⟨i, e3, er⟩ := R.of_bind er
    have er := R.ok.inj er
    subst er
    refine ⟨G, L, sr, x1, e1, fun v1 H1 G1 sr1 g1 h1 r1 => ?_⟩
    have r2 := RepW.s r1
    rw [intOf_ok e3] at r2
    exact ⟨i, Rep.intE r2, k _ H1 G1 sr1 g1 h1 (RepV.at (W := G1) (.int _) rfl)⟩
theorem tst_not (ρ : Env) : tst Φ (.not a) ρ = (tst Φ a ρ >>= fun c => .ok !c) := by
  unfold tst
  show ((ev Φ a ρ >>= fun x => truth x.d >>= fun c => R.ok (V3.at (.bl !c))) >>= fun x => truth x.d) = ((ev Φ a ρ >>= fun x => truth x.d) >>= fun c => R.ok !c)
  cases ev Φ a ρ with
  | ok x =>
    show ((truth x.d >>= fun c => R.ok (V3.at (.bl !c))) >>= fun x => truth x.d) = (truth x.d >>= fun c => R.ok !c)
    cases truth x.d <;> rfl
  | bad => rfl
  | exc c fs => rfl
theorem snd_not (A : Sound T Φ k a) : Sound T Φ k (.not a) := fun X sc g C hs h => by
  unfold chk at h
  cases hp : g.e.bind pUn with
  | none => rw [hp] at h; cases h
  | some z =>
    obtain ⟨p, x⟩ := z
    rw [hp] at h
    obtain ⟨h1, h2⟩ := and2 h
    obtain ⟨e, hg, he⟩ := of_bindE hp
    obtain ⟨pos, rfl⟩ := pUn_ok he
    have e1 := of_decide_eq_true h1
    subst e1
    have Ax := A X sc (.ex x) C hs h2
    refine lift (fun G0 H0 ρ => ⟨pe_imp (pe_notT (Ax G0 H0 ρ).1) fun σ H Q q => ?_, pt_imp (pt_not (Ax G0 H0 ρ).2) fun σ H Q q => ?_⟩) hg
    · obtain ⟨G, L, sr, r, er, k⟩ := q
      obtain ⟨x1, e1, er⟩ := R.of_bind er
      obtain ⟨c, e3, er⟩ := R.of_bind er
      have er := R.ok.inj er
      subst er
      exact ⟨G, L, sr, x1, e1, fun v1 H1 G1 sr1 g1 h1 r1 => ⟨c, truV_of (RepW.h sr1 r1) e3, k _ H1 G1 sr1 g1 h1 (RepV.at (W := G1) (.bl _) rfl)⟩⟩
    · obtain ⟨G, L, sr, r, er, k⟩ := q
      rw [tst_not] at er
      obtain ⟨c, e1, e2⟩ := R.of_bind er
      have e2 := R.ok.inj e2
      subst e2
      exact ⟨G, L, sr, c, e1, fun H1 G1 sr1 g1 h1 => k H1 G1 sr1 g1 h1⟩
theorem tst_and (ρ : Env) : tst Φ (.and a b) ρ = (tst Φ a ρ >>= fun c => if c = true then tst Φ b ρ else .ok false) := by
  unfold tst
  show ((ev Φ a ρ >>= fun x => truth x.d >>= fun c => if c = true then ev Φ b ρ else R.ok x) >>= fun x => truth x.d) = ((ev Φ a ρ >>= fun x => truth x.d) >>= fun c => if c = true then (ev Φ b ρ >>= fun x => truth x.d) else R.ok false)
  cases ev Φ a ρ with
  | ok x =>
    show ((truth x.d >>= fun c => if c = true then ev Φ b ρ else R.ok x) >>= fun x => truth x.d) = (truth x.d >>= fun c => if c = true then (ev Φ b ρ >>= fun x => truth x.d) else R.ok false)
    cases q : truth x.d with
    | ok c =>
      cases c with
      | true => rfl
      | false => exact q
    | bad => rfl
    | exc c fs => rfl
  | bad => rfl
  | exc c fs => rfl
theorem tst_or (ρ : Env) : tst Φ (.or a b) ρ = (tst Φ a ρ >>= fun c => if c = true then .ok true else tst Φ b ρ) := by
  unfold tst
  show ((ev Φ a ρ >>= fun x => truth x.d >>= fun c => if c = true then R.ok x else ev Φ b ρ) >>= fun x => truth x.d) = ((ev Φ a ρ >>= fun x => truth x.d) >>= fun c => if c = true then R.ok true else (ev Φ b ρ >>= fun x => truth x.d))
  cases ev Φ a ρ with
  | ok x =>
    show ((truth x.d >>= fun c => if c = true then R.ok x else ev Φ b ρ) >>= fun x => truth x.d) = (truth x.d >>= fun c => if c = true then R.ok true else (ev Φ b ρ >>= fun x => truth x.d))
    cases q : truth x.d with
    | ok c =>
      cases c with
      | false => rfl
      | true => exact q
    | bad => rfl
    | exc c fs => rfl
  | bad => rfl
  | exc c fs => rfl
/-- an and | or, wherever it stands -/
theorem liftB {o : BoolOp} {x y : Expr} {r : List Expr} (h : ∀ pos G0 H0 ρ, PE X (.BoolOp o (x :: y :: r) pos) (tEv X.K G0 H0 ρ (ev Φ m ρ)) ∧ PW X (.BoolOp o (x :: y :: r) pos) (tTst X.K G0 H0 ρ (tst Φ m ρ))) (hg : g.b o = some (x, y, r)) : Goal Φ X m g := by
  have one : ∀ {e : Expr} {p : BoolOp} {a b : Expr} {s : List Expr}, pBool e = some (p, a :: b :: s) → (if p = o then some (a, b, s) else none) = some (x, y, r) → ∀ G0 H0 ρ, PE X e (tEv X.K G0 H0 ρ (ev Φ m ρ)) ∧ PT X e (tTst X.K G0 H0 ρ (tst Φ m ρ)) := fun {e p a b s} q q2 G0 H0 ρ => by
    by_cases hp : p = o
    · rw [if_pos hp] at q2
      cases q2
      subst hp
      obtain ⟨pos, rfl⟩ := pBool_ok q
      exact ⟨(h pos G0 H0 ρ).1, (h pos G0 H0 ρ).2.pt⟩
    · rw [if_neg hp] at q2
      cases q2
  have ex : ∀ {e : Expr}, (match pBool e with
    | some (p, a :: b :: s) => if p = o then some (a, b, s) else none
    | _ => none) = some (x, y, r) → ∀ G0 H0 ρ, PE X e (tEv X.K G0 H0 ρ (ev Φ m ρ)) ∧ PT X e (tTst X.K G0 H0 ρ (tst Φ m ρ)) := fun {e} q => by
    split at q
    · exact one ‹_› q
    · cases q
  cases g with
  | ex e => exact ex hg
  | bo p es =>
    match es, hg with
    | [e], hg => exact lift (g := .bo p [e]) (ex hg) rfl
    | [], hg => cases hg
    | a :: b :: s, hg =>
      have hg : (if p = o then some (a, b, s) else none) = some (x, y, r) := hg
      by_cases hp : p = o
      · rw [if_pos hp] at hg
        cases hg
        subst hp
        exact h
      · rw [if_neg hp] at hg
        cases hg
  | args es => cases hg
  | it e tg => cases hg
theorem snd_and (A : Sound T Φ k a) (B : Sound T Φ k b) : Sound T Φ k (.and a b) := fun X sc g C hs h => by
  unfold chk at h
  cases hp : g.b .And with
  | none => rw [hp] at h; cases h
  | some z =>
    obtain ⟨x, y, r⟩ := z
    rw [hp] at h
    obtain ⟨h1, h2⟩ := and2 h
    have Ax := A X sc (.ex x) C hs h1
    have Bx := B X sc (.bo .And (y :: r)) C hs h2
    refine liftB (fun pos G0 H0 ρ => ⟨pe_imp (pe_andT (Ax G0 H0 ρ).1 (Bx pos G0 H0 ρ).1) fun σ H Q q => ?_, ⟨fun w pins s σ H Q I q => (pw_and (Ax G0 H0 ρ).2 (Bx pos G0 H0 ρ).2).run w pins s σ H Q I ?_⟩⟩) hp
    · obtain ⟨G, L, sr, r, er, k⟩ := q
      obtain ⟨x1, e1, er⟩ := R.of_bind er
      obtain ⟨c, e3, er⟩ := R.of_bind er
      refine ⟨G, L, sr, x1, e1, fun v1 H1 G1 sr1 g1 h1 r1 => ⟨c, truV_of (RepW.h sr1 r1) e3, ?_⟩⟩
      cases c with
      | true =>
        rw [if_pos rfl] at er ⊢
        exact ⟨G1, L, sr1, r, er, fun v H' G' s' g h r => k v H' G' s' (g1.trans g) (h1.trans h) r⟩
      | false =>
        rw [if_neg Bool.false_ne_true] at er ⊢
        have er := R.ok.inj er
        subst er
        exact k v1 H1 G1 sr1 g1 h1 r1
    · obtain ⟨G, L, sr, r, er, k⟩ := q
      rw [tst_and] at er
      obtain ⟨c, e1, er⟩ := R.of_bind er
      refine ⟨G, L, sr, c, e1, fun H1 G1 sr1 g1 h1 => ?_⟩
      cases c with
      | true =>
        rw [if_pos rfl] at er ⊢
        exact ⟨G1, L, sr1, r, er, fun H' G' s' g h => k H' G' s' (g1.trans g) (h1.trans h)⟩
      | false =>
        rw [if_neg Bool.false_ne_true] at er ⊢
        have er := R.ok.inj er
        subst er
        exact k H1 G1 sr1 g1 h1
theorem snd_or (A : Sound T Φ k a) (B : Sound T Φ k b) : Sound T Φ k (.or a b) := fun X sc g C hs h => by
  unfold chk at h
  cases hp : g.b .Or with
  | none => rw [hp] at h; cases h
  | some z =>
    obtain ⟨x, y, r⟩ := z
    rw [hp] at h
    obtain ⟨h1, h2⟩ := and2 h
    have Ax := A X sc (.ex x) C hs h1
    have Bx := B X sc (.bo .Or (y :: r)) C hs h2
    refine liftB (fun pos G0 H0 ρ => ⟨pe_imp (pe_orT (Ax G0 H0 ρ).1 (Bx pos G0 H0 ρ).1) fun σ H Q q => ?_, ⟨fun w pins s σ H Q I q => (pw_or (Ax G0 H0 ρ).2 (Bx pos G0 H0 ρ).2).run w pins s σ H Q I ?_⟩⟩) hp
    · obtain ⟨G, L, sr, r, er, k⟩ := q
      obtain ⟨x1, e1, er⟩ := R.of_bind er
      obtain ⟨c, e3, er⟩ := R.of_bind er
      refine ⟨G, L, sr, x1, e1, fun v1 H1 G1 sr1 g1 h1 r1 => ⟨c, truV_of (RepW.h sr1 r1) e3, ?_⟩⟩
      cases c with
      | true =>
        rw [if_pos rfl] at er ⊢
        have er := R.ok.inj er
        subst er
        exact k v1 H1 G1 sr1 g1 h1 r1
      | false =>
        rw [if_neg Bool.false_ne_true] at er ⊢
        exact ⟨G1, L, sr1, r, er, fun v H' G' s' g h r => k v H' G' s' (g1.trans g) (h1.trans h) r⟩
    · obtain ⟨G, L, sr, r, er, k⟩ := q
      rw [tst_or] at er
      obtain ⟨c, e1, er⟩ := R.of_bind er
      refine ⟨G, L, sr, c, e1, fun H1 G1 sr1 g1 h1 => ?_⟩
      cases c with
      | true =>
        rw [if_pos rfl] at er ⊢
        have er := R.ok.inj er
        subst er
        exact k H1 G1 sr1 g1 h1
      | false =>
        rw [if_neg Bool.false_ne_true] at er ⊢
        exact ⟨G1, L, sr1, r, er, fun H' G' s' g h => k H' G' s' (g1.trans g) (h1.trans h)⟩
theorem snd_cmp (o : COp) (A : Sound T Φ k a) (B : Sound T Φ k b) : Sound T Φ k (.cmp o a b) := fun X sc g C hs h => by
  unfold chk at h
  split at h
  · rename_i x p y hp
    obtain ⟨h1, h4⟩ := and2 h
    obtain ⟨h1, h3⟩ := and2 h1
    obtain ⟨h1, h2⟩ := and2 h1
    obtain ⟨e, hg, he⟩ := of_bindE hp
    obtain ⟨pos, rfl⟩ := pCmp_ok he
    have e1 := of_decide_eq_true h1
    subst e1
    have Ax := A X sc (.ex x) C hs h3
    have Bx := B X sc (.ex y) C hs h4
    have hu : X.A.units + 64 < cLine := C.room.units
    refine lift (fun G0 H0 ρ => ⟨pe_imp (pe_cmpR (op_C hu o) (Ax G0 H0 ρ).1 (Bx G0 H0 ρ).1 (mark_ok h2 _)) fun σ H Q q => ?_, pt_imp (pt_cmpR (op_C hu o) (Ax G0 H0 ρ).1 (Bx G0 H0 ρ).1 (mark_ok h2 _)) fun σ H Q q => ?_⟩) hg
    · obtain ⟨G, L, sr, r, er, k⟩ := q
      obtain ⟨x1, e1, er⟩ := R.of_bind er
      obtain ⟨x2, e2, er⟩ := R.of_bind er
      obtain ⟨z, e3, er⟩ := R.of_bind er
      have er := R.ok.inj er
      subst er
      exact ⟨G, L, sr, x1, e1, fun v1 H1 G1 sr1 g1 h1 r1 => ⟨G1, L, sr1, x2, e2, fun v2 H2 G2 sr2 g2 h2 r2 =>
        rC_of sr2 (RepV.mono sr1 g2 h2 r1) r2 e3 (k _ H2 G2 sr2 (g1.trans g2) (h1.trans h2) (RepV.at (W := G2) (.bl _) rfl))⟩⟩
    · obtain ⟨G, L, sr, r, er, k⟩ := q
      obtain ⟨x0, er, et⟩ := R.of_bind er
      obtain ⟨x1, e1, er⟩ := R.of_bind er
      obtain ⟨x2, e2, er⟩ := R.of_bind er
      obtain ⟨z, e3, er⟩ := R.of_bind er
      have er := R.ok.inj er
      subst er
      have et : z = r := R.ok.inj et
      subst et
      exact ⟨G, L, sr, x1, e1, fun v1 H1 G1 sr1 g1 h1 r1 => ⟨G1, L, sr1, x2, e2, fun v2 H2 G2 sr2 g2 h2 r2 =>
        rC_of sr2 (RepV.mono sr1 g2 h2 r1) r2 e3 ⟨z, rfl, k H2 G2 sr2 (g1.trans g2) (h1.trans h2)⟩⟩⟩
  · cases h
theorem snd_chain (o p : COp) (A : Sound T Φ k a) (B : Sound T Φ k b) (C' : Sound T Φ k c) : Sound T Φ k (.chain o p a b c) := fun X sc g C hs h => by
  unfold chk at h
  split at h
  · rename_i x o' p' y z hp
    obtain ⟨h1, h6⟩ := and2 h
    obtain ⟨h1, h5⟩ := and2 h1
    obtain ⟨h1, h4⟩ := and2 h1
    obtain ⟨h1, h3⟩ := and2 h1
    obtain ⟨h1, h2⟩ := and2 h1
    obtain ⟨e, hg, he⟩ := of_bindE hp
    obtain ⟨pos, rfl⟩ := pCmp_ok he
    have e1 := of_decide_eq_true h1
    subst e1
    have e1 := of_decide_eq_true h2
    subst e1
    have Ax := A X sc (.ex x) C hs h4
    have Bx := B X sc (.ex y) C hs h5
    have Cx := C' X sc (.ex z) C hs h6
    have hu : X.A.units + 64 < cLine := C.room.units
    have key : ∀ {G0 H0 : Hp} {ρ : Env} {σ : L2.St} {H : Hp} {Q : VK} {G : Hp} {L : Lb} {r : V3}, SR X.K G0 H0 ρ σ G H L → ev Φ (.chain o p a b c) ρ = .ok r →
        (∀ v H' G' (k : Bool), r.d = .bl k → v = .bl k → SR X.K G0 H0 ρ σ G' H' L → Same G G' → Same H H' → Q v H') → tChain (rC X.K o) (rC X.K p) (tEv X.K G0 H0 ρ (ev Φ a ρ)) (tEv X.K G0 H0 ρ (ev Φ b ρ)) (tEv X.K G0 H0 ρ (ev Φ c ρ)) σ H Q := by
      intro G0 H0 ρ σ H Q G L r sr er k
      obtain ⟨x1, e1, er⟩ := R.of_bind er
      obtain ⟨x2, e2, er⟩ := R.of_bind er
      obtain ⟨z, e3, er⟩ := R.of_bind er
      refine ⟨G, L, sr, x1, e1, fun v1 H1 G1 sr1 g1 h1 r1 => ⟨G1, L, sr1, x2, e2, fun v2 H2 G2 sr2 g2 h2 r2 => rC_of sr2 (RepV.mono sr1 g2 h2 r1) r2 e3 ⟨z, rfl, ?_⟩⟩⟩
      cases z with
      | true =>
        rw [if_pos rfl] at er ⊢
        obtain ⟨x3, e4, er⟩ := R.of_bind er
        obtain ⟨w, e5, er⟩ := R.of_bind er
        have er := R.ok.inj er
        subst er
        exact ⟨G2, L, sr2, x3, e4, fun v3 H3 G3 sr3 g3 h3 r3 => rC_of sr3 (RepV.mono sr2 g3 h3 r2) r3 e5 (k _ H3 G3 w rfl rfl sr3 (g1.trans (g2.trans g3)) (h1.trans (h2.trans h3)))⟩
      | false =>
        rw [if_neg Bool.false_ne_true] at er ⊢
        have er := R.ok.inj er
        subst er
        exact k _ H2 G2 false rfl rfl sr2 (g1.trans g2) (h1.trans h2)
    refine lift (fun G0 H0 ρ => ⟨pe_imp (pe_chain (op_C hu o) (op_C hu p) (Ax G0 H0 ρ).1 (Bx G0 H0 ρ).1 (Cx G0 H0 ρ).1 (marks2_ok h3 _ _)) fun σ H Q q => ?_, pt_imp (pt_chain (op_C hu o) (op_C hu p) (Ax G0 H0 ρ).1 (Bx G0 H0 ρ).1 (Cx G0 H0 ρ).1 (marks2_ok h3 _ _)) fun σ H Q q => ?_⟩) hg
    · obtain ⟨G, L, sr, r, er, k⟩ := q
      refine key sr er fun v H' G' c e1 e2 sr' g h => k v H' G' sr' g h ?_
      show RepW X.K _ _ v r.d
      rw [e1, e2]
      exact Rep.bl c
    · obtain ⟨G, L, sr, r, er, k⟩ := q
      obtain ⟨x0, er, et⟩ := R.of_bind er
      refine key sr er fun v H' G' c e1 e2 sr' g h => ⟨c, e2, ?_⟩
      rw [e1] at et
      have et : c = r := R.ok.inj et
      rw [et]
      exact k H' G' sr' g h
  · cases h
end
end Mp

set_option Elab.async false
set_option linter.all false
set_option maxRecDepth 100000
set_option maxHeartbeats 4000000
/-! Mp8: the further forms: conditionals, displays, items, slices, calls, walks. -/
namespace Mp
open PySem PySem.Spec PyProof.Rows L2
section
variable {T : Tb} {Φ : Nat → Fn} {k : Nat} {X : Cx} {m a b c : M} {e : Expr} {g : Ag}

theorem pt_ifExp {x y z : Expr} {pos : Pos} {t u v : TT} (hc : PT X z t) (ha : PT X x u) (hb : PT X y v) : PT X (.IfExp z x y pos) (fun σ H Q => t σ H fun c H1 => if c = true then u σ H1 Q else v σ H1 Q) := by
  refine ⟨fun pins s σ H Q I h => ?_⟩
  refine isTrue_IfExp (thn (hc.run pins s σ H _ I h) fun d s1 ⟨H1, I1, q1⟩ => ?_)
  cases d with
  | true => exact ha.run pins s1 σ H1 Q I1 q1
  | false => exact hb.run pins s1 σ H1 Q I1 q1
theorem tst_ite (ρ : Env) : tst Φ (.ite c a b) ρ = (tst Φ c ρ >>= fun k => if k = true then tst Φ a ρ else tst Φ b ρ) := by
  unfold tst
  show ((ev Φ c ρ >>= fun x => truth x.d >>= fun k => if k = true then ev Φ a ρ else ev Φ b ρ) >>= fun x => truth x.d) = ((ev Φ c ρ >>= fun x => truth x.d) >>= fun k => if k = true then (ev Φ a ρ >>= fun x => truth x.d) else (ev Φ b ρ >>= fun x => truth x.d))
  cases ev Φ c ρ with
  | ok x =>
    show ((truth x.d >>= fun k => if k = true then ev Φ a ρ else ev Φ b ρ) >>= fun x => truth x.d) = (truth x.d >>= fun k => if k = true then (ev Φ a ρ >>= fun x => truth x.d) else (ev Φ b ρ >>= fun x => truth x.d))
    cases truth x.d with
    | ok c => cases c <;> rfl
    | bad => rfl
    | exc c fs => rfl
  | bad => rfl
  | exc c fs => rfl
theorem snd_ite (C' : Sound T Φ k c) (A : Sound T Φ k a) (B : Sound T Φ k b) : Sound T Φ k (.ite c a b) := fun X sc g C hs h => by
  unfold chk at h
  cases hp : g.e.bind pIf with
  | none => rw [hp] at h; cases h
  | some w =>
    obtain ⟨z, x, y⟩ := w
    rw [hp] at h
    obtain ⟨h1, h3⟩ := and2 h
    obtain ⟨h1, h2⟩ := and2 h1
    obtain ⟨e, hg, he⟩ := of_bindE hp
    obtain ⟨pos, rfl⟩ := pIf_ok he
    have Cx := C' X sc (.ex z) C hs h1
    have Ax := A X sc (.ex x) C hs h2
    have Bx := B X sc (.ex y) C hs h3
    refine lift (fun G0 H0 ρ => ⟨pe_imp (pe_ifExp (Cx G0 H0 ρ).2 (Ax G0 H0 ρ).1 (Bx G0 H0 ρ).1) fun σ H Q q => ?_, pt_imp (pt_ifExp (Cx G0 H0 ρ).2 (Ax G0 H0 ρ).2 (Bx G0 H0 ρ).2) fun σ H Q q => ?_⟩) hg
    · obtain ⟨G, L, sr, r, er, k⟩ := q
      obtain ⟨x1, e1, er⟩ := R.of_bind er
      obtain ⟨d, e3, er⟩ := R.of_bind er
      refine ⟨G, L, sr, d, ?_, fun H1 G1 sr1 g1 h1 => ?_⟩
      · unfold tst
        rw [e1]
        exact e3
      · cases d with
        | true =>
          rw [if_pos rfl] at er ⊢
          exact ⟨G1, L, sr1, r, er, fun v H' G' s' g h r => k v H' G' s' (g1.trans g) (h1.trans h) r⟩
        | false =>
          rw [if_neg Bool.false_ne_true] at er ⊢
          exact ⟨G1, L, sr1, r, er, fun v H' G' s' g h r => k v H' G' s' (g1.trans g) (h1.trans h) r⟩
    · obtain ⟨G, L, sr, r, er, k⟩ := q
      rw [tst_ite] at er
      obtain ⟨d, e1, er⟩ := R.of_bind er
      refine ⟨G, L, sr, d, e1, fun H1 G1 sr1 g1 h1 => ?_⟩
      cases d with
      | true =>
        rw [if_pos rfl] at er ⊢
        exact ⟨G1, L, sr1, r, er, fun H' G' s' g h => k H' G' s' (g1.trans g) (h1.trans h)⟩
      | false =>
        rw [if_neg Bool.false_ne_true] at er ⊢
        exact ⟨G1, L, sr1, r, er, fun H' G' s' g h => k H' G' s' (g1.trans g) (h1.trans h)⟩

/-! ### arguments, displays -/
theorem snd_nil : Sound T Φ k .nil := fun X sc g C hs h => by
  unfold chk at h
  split at h
  · intro G0 H0 ρ
    refine pa_imp pa_nil fun σ H Q q => ?_
    obtain ⟨G, L, sr, r, er, k⟩ := q
    have er := R.ok.inj er
    subst er
    exact k [] H G sr (Same.refl G) (Same.refl H) .nil
  · cases h
theorem snd_cons (A : Sound T Φ k a) (B : Sound T Φ k b) : Sound T Φ k (.cons a b) := fun X sc g C hs h => by
  unfold chk at h
  split at h
  · rename_i e es
    obtain ⟨h1, h3⟩ := and2 h
    obtain ⟨h1, h2⟩ := and2 h1
    have Ax := A X sc (.ex e) C hs h2
    have Bx := B X sc (.args es) C hs h3
    intro G0 H0 ρ
    refine pa_imp (pa_cons (Ax G0 H0 ρ).1 (Bx G0 H0 ρ) (star_ok h1 es X.env)) fun σ H Q q => ?_
    obtain ⟨G, L, sr, r, er, k⟩ := q
    obtain ⟨x1, e1, er⟩ := R.of_bind er
    obtain ⟨x2, e2, er⟩ := R.of_bind er
    have er := R.ok.inj er
    subst er
    exact ⟨G, L, sr, x1, e1, fun v1 H1 G1 sr1 g1 h1 r1 => ⟨G1, L, sr1, x2, e2, fun vs H2 G2 sr2 g2 h2 r2 =>
      k _ H2 G2 sr2 (g1.trans g2) (h1.trans h2) (.cons (RepW.mono (sr2.wldSub mem_l) (sr2.wldSub mem_l) (RepV.mono sr1 g2 h2 r1)) (RepWs.mono (sr2.wldSub mem_r) (sr2.wldSub mem_r) r2))⟩⟩
  · cases h
theorem snd_lst (A : Sound T Φ k a) : Sound T Φ k (.lst a) := fun X sc g C hs h => by
  unfold chk at h
  cases hp : g.e.bind pList with
  | none => rw [hp] at h; cases h
  | some es =>
    rw [hp] at h
    obtain ⟨e, hg, he⟩ := of_bindE hp
    obtain ⟨pos, rfl⟩ := pList_ok he
    have Ax := A X sc (.args es) C hs h
    refine liftP (fun G0 H0 ρ => pe_imp (pe_lst (Ax G0 H0 ρ)) fun σ H Q q => ?_) rfl hg
    obtain ⟨G, L, sr, r, er, k⟩ := q
    obtain ⟨x1, e1, er⟩ := R.of_bind er
    obtain ⟨c, er⟩ := R.of_chk er
    have er := R.ok.inj er
    subst er
    exact ⟨G, L, sr, x1, e1, fun vs H1 G1 sr1 g1 h1 r1 => ⟨by rw [r1.s.length]; exact c, Go.lst sr1 (fun v H' G' s' g h r => k v H' G' s' (g1.trans g) (h1.trans h) r) r1.s⟩⟩
theorem snd_tup (A : Sound T Φ k a) : Sound T Φ k (.tup a) := fun X sc g C hs h => by
  unfold chk at h
  cases hp : g.e.bind pTuple with
  | none => rw [hp] at h; cases h
  | some es =>
    rw [hp] at h
    obtain ⟨e, hg, he⟩ := of_bindE hp
    obtain ⟨k1, pos, rfl⟩ := pTuple_ok he
    have Ax := A X sc (.args es) C hs h
    refine liftP (fun G0 H0 ρ => pe_imp (pe_tup (Ax G0 H0 ρ)) fun σ H Q q => ?_) rfl hg
    obtain ⟨G, L, sr, r, er, k⟩ := q
    obtain ⟨x1, e1, er⟩ := R.of_bind er
    obtain ⟨c, er⟩ := R.of_chk er
    have er := R.ok.inj er
    subst er
    exact ⟨G, L, sr, x1, e1, fun vs H1 G1 sr1 g1 h1 r1 => ⟨by rw [r1.s.length]; exact c, Go.tup sr1 (fun v H' G' s' g h r => k v H' G' s' (g1.trans g) (h1.trans h) r) r1.s⟩⟩

/-! ### items, slices -/
theorem atI_rep {K : PySem.W.Frag} {W : Hp} {xs : List V} {ds : List D} {i : Int} {d : D} (r : RepAll K W xs ds) (h : atI ds i = some d) : ∃ v, L2.atI xs i = some v ∧ Rep K W v d := by
  unfold Mp.atI at h
  cases q : Mp.ixN ds.length i with
  | none => rw [q] at h; cases h
  | some j =>
    rw [q] at h
    obtain ⟨v, e1, e2⟩ := r.get (i := j) h
    refine ⟨v, ?_, e2⟩
    unfold L2.atI
    rw [r.length]
    have q2 : L2.ixN ds.length i = some j := q
    rw [q2]
    exact e1
theorem snd_ix (A : Sound T Φ k a) (B : Sound T Φ k b) : Sound T Φ k (.ix a b) := fun X sc g C hs h => by
  unfold chk at h
  cases hp : g.e.bind pSub with
  | none => rw [hp] at h; cases h
  | some z =>
    obtain ⟨x, y⟩ := z
    rw [hp] at h
    obtain ⟨h1, h3⟩ := and2 h
    obtain ⟨h1, h2⟩ := and2 h1
    obtain ⟨e, hg, he⟩ := of_bindE hp
    obtain ⟨pos, rfl⟩ := pSub_ok he
    refine liftP (fun G0 H0 ρ => pe_imp (pe_ix (ix_list.or ix_tup) (A X sc (.ex x) C hs h2 G0 H0 ρ).1 (B X sc (.ex y) C hs h3 G0 H0 ρ).1 (ix_ok h1)) fun σ H Q q => ?_) rfl hg
    obtain ⟨G, L, sr, r, er, k⟩ := q
    obtain ⟨x1, e1, er⟩ := R.of_bind er
    obtain ⟨x2, e2, er⟩ := R.of_bind er
    obtain ⟨i, e3, er⟩ := R.of_bind er
    obtain ⟨ds, e4, er⟩ := R.of_bind er
    obtain ⟨z, e5, er⟩ := R.of_bind er
    have er := R.ok.inj er
    subst er
    refine ⟨G, L, sr, x1, e1, fun v1 H1 G1 sr1 g1 h1 r1 => ⟨G1, L, sr1, x2, e2, fun v2 H2 G2 sr2 g2 h2 r2 => ?_⟩⟩
    have r3 := RepW.s r2
    rw [intOf_ok e3] at r3
    obtain ⟨p, xs, ep, q, ra⟩ := items_of sr2 (RepV.mono sr1 g2 h2 r1) e4
    obtain ⟨v, ev, rv⟩ := atI_rep ra (orBad_ok e5)
    have fin := k v H2 G2 sr2 (g1.trans g2) (h1.trans h2) (RepV.of rv)
    rcases q with q | q
    · exact .inl ⟨p, xs, i, v, ep, Rep.intE r3, q, ev, fin⟩
    · exact .inr ⟨p, xs, i, v, ep, Rep.intE r3, q, ev, fin⟩
theorem cut_rep {K : PySem.W.Frag} {W : Hp} {xs : List V} {ds : List D} {lo hi : Option Int} (r : RepAll K W xs ds) : RepAll K W (cutV xs lo hi) (cut ds lo hi) := by
  unfold cutV cut
  rw [r.length]
  exact (r.drop _).take _
def tPO (K : PySem.W.Frag) (G0 H0 : Hp) (ρ : Env) (m : M) (r : R V3) : TO := fun σ H Q => ∃ G L, SR K G0 H0 ρ σ G H L ∧ ∃ x l, r = .ok x ∧ part m x.d = .ok l ∧ ∀ H' G', SR K G0 H0 ρ σ G' H' L → Same G G' → Same H H' → Q l H'
theorem part_none {d : D} (h : isNon m = true) : part m d = .ok none := by
  unfold isNon at h
  split at h
  · rfl
  · cases h
theorem part_some {d : D} {l : Option Int} (h : isNon m = false) (e : part m d = .ok l) : ∃ i, d = .int i ∧ l = some i := by
  unfold part at e
  split at e
  · cases h
  · exact ⟨_, rfl, (R.ok.inj e).symm⟩
  · cases e
theorem po_of {sc : Scope} {o : Option Expr} (A : Sound T Φ k m) (C : Cn T Φ k X) (hs : X.env.scope = sc) (h : (match o with
    | none => isNon m
    | some l => !isNon m && chk T m sc (.ex l)) = true) (G0 H0 : Hp) (ρ : Env) : PO X o (tPO X.K G0 H0 ρ m (ev Φ m ρ)) := by
  cases o with
  | none =>
    have h : isNon m = true := h
    refine ⟨fun pins s σ H Q I q => po_none.run pins s σ H Q I ?_⟩
    obtain ⟨G, L, sr, x, l, e1, e2, k⟩ := q
    rw [part_none h] at e2
    have e2 := R.ok.inj e2
    subst e2
    exact k H G sr (Same.refl G) (Same.refl H)
  | some l =>
    obtain ⟨h1, h2⟩ := and2 h
    have h1 : isNon m = false := by simpa using h1
    have Ax := A X sc (.ex l) C hs h2
    refine ⟨fun pins s σ H Q I q => (po_some (Ax G0 H0 ρ).1).run pins s σ H Q I ?_⟩
    obtain ⟨G, L, sr, x, l, e1, e2, k⟩ := q
    obtain ⟨i, ed, el⟩ := part_some h1 e2
    subst el
    refine ⟨G, L, sr, x, e1, fun v H' G' s' g h r => ⟨i, ?_, k H' G' s' g h⟩⟩
    have r1 := RepW.s r
    rw [ed] at r1
    exact Rep.intE r1
theorem snd_sl (A : Sound T Φ k a) (B : Sound T Φ k b) (C' : Sound T Φ k c) : Sound T Φ k (.sl a b c) := fun X sc g C hs h => by
  unfold chk at h
  cases hp : g.e.bind pSub with
  | none => rw [hp] at h; cases h
  | some z =>
    obtain ⟨x, y⟩ := z
    rw [hp] at h
    dsimp only at h
    cases hy : pSlice y with
    | none => rw [hy] at h; cases h
    | some w =>
      obtain ⟨l, u⟩ := w
      rw [hy] at h
      obtain ⟨h1, h3⟩ := and2 h
      obtain ⟨h1, h2⟩ := and2 h1
      obtain ⟨e, hg, he⟩ := of_bindE hp
      obtain ⟨pos, rfl⟩ := pSub_ok he
      obtain ⟨p2, rfl⟩ := pSlice_ok hy
      refine liftP (fun G0 H0 ρ => pe_imp (pe_slice (sl_list.or sl_tupA) (A X sc (.ex x) C hs h1 G0 H0 ρ).1 (po_of B C hs h2 G0 H0 ρ) (po_of C' C hs h3 G0 H0 ρ)) fun σ H Q q => ?_) rfl hg
      obtain ⟨G, L, sr, r, er, k⟩ := q
      obtain ⟨x1, e1, er⟩ := R.of_bind er
      obtain ⟨x2, e2, er⟩ := R.of_bind er
      obtain ⟨x3, e3, er⟩ := R.of_bind er
      obtain ⟨lo, e4, er⟩ := R.of_bind er
      obtain ⟨hi, e5, er⟩ := R.of_bind er
      refine ⟨G, L, sr, x1, e1, fun v1 H1 G1 sr1 g1 h1 r1 => ⟨G1, L, sr1, x2, lo, e2, e4, fun H2 G2 sr2 g2 h2 => ⟨G2, L, sr2, x3, hi, e3, e5, fun H3 G3 sr3 g3 h3 => ?_⟩⟩⟩
      have r1 := RepV.mono sr1 (g2.trans g3) (h2.trans h3) r1
      have k : Go X.K G0 H0 ρ σ G3 H3 L r Q := fun v H' G' s' g h r => k v H' G' s' (g1.trans (g2.trans (g3.trans g))) (h1.trans (h2.trans (h3.trans h))) r
      obtain ⟨d, s, t⟩ := x1
      cases d with
      | lst ds =>
        have er := R.ok.inj er
        subst er
        obtain ⟨p, xs, ep, q, _, ra⟩ := r1
        exact .inl ⟨p, xs, ep, sr3.wldH.seq q, Go.lst sr3 k (cut_rep ra)⟩
      | tup ds =>
        have er := R.ok.inj er
        subst er
        obtain ⟨p, xs, ep, _, _, q, ra⟩ := r1
        refine .inr ⟨p, xs, ep, sqT_same sr3.wldH q, fun hw => ?_, fun _ => Go.tup sr3 k (cut_rep ra)⟩
        have hw : Mp.sIx xs.length 0 lo = 0 ∧ Mp.sIx xs.length xs.length hi = xs.length := hw
        have ec : cut ds lo hi = ds := by
          unfold cut
          rw [← ra.length, hw.1, hw.2]
          simp [ra.length]
        rw [ec] at k
        have r : Q (.ref p) H3 := Go.here sr3 k (RepV.sameTup q ra)
        exact r
      | _ => cases er

/-! ### isinstance -/
theorem ty_pe {sc : Scope} {t : Ty} {e : Expr} (C : Cn T Φ k X) (hs : X.env.scope = sc) (h : tyOk sc t e = true) : PE X e (tC (.ty (tyS t))) := by
  unfold tyOk at h
  cases hx : pName e with
  | none => rw [hx] at h; cases h
  | some x =>
    rw [hx] at h
    obtain ⟨h1, h2⟩ := and2 h
    obtain ⟨p, rfl⟩ := pName_ok hx
    obtain ⟨g1, g2⟩ := gl_of hs h2
    have e1 := of_decide_eq_true h1
    subst e1
    refine pe_bltn (u := .type (tyS t)) g1 (C.blt _ ?_) ?_ rfl ?_ g2
    · cases t <;> decide
    · cases t <;> decide +kernel
    · cases t <;> decide
theorem tys_pa {sc : Scope} (C : Cn T Φ k X) (hs : X.env.scope = sc) : ∀ {ts : List Ty} {es : List Expr}, tysOk sc ts es = true → ∃ t, PA X es t ∧ ∀ σ H Q, Q (ts.map fun t => V.ty (tyS t)) H → t σ H Q
  | [], [], _ => ⟨_, pa_nil, fun σ H Q q => q⟩
  | [], _ :: _, h => by cases h
  | _ :: _, [], h => by cases h
  | t :: ts, e :: es, h => by
    have h : (okE e && tyOk sc t e && tysOk sc ts es) = true := h
    obtain ⟨h1, h3⟩ := and2 h
    obtain ⟨h1, h2⟩ := and2 h1
    obtain ⟨u, hu, k⟩ := tys_pa C hs h3
    exact ⟨_, pa_cons (ty_pe C hs h2) hu (star_ok h1 es X.env), fun σ H Q q => k σ H _ q⟩
theorem boot_isi : bootBuiltins "isinstance" = some (.builtin "isinstance") := by decide +kernel
theorem snd_isi1 (t : Ty) (A : Sound T Φ k a) : Sound T Φ k (.isi1 a t) := fun X sc g C hs h => by
  unfold chk at h
  split at h
  · rename_i f x y hp
    obtain ⟨h1, h6⟩ := and2 h
    obtain ⟨h1, h5⟩ := and2 h1
    obtain ⟨h1, h4⟩ := and2 h1
    obtain ⟨h1, h3⟩ := and2 h1
    obtain ⟨h1, h2⟩ := and2 h1
    obtain ⟨e, hg, he⟩ := of_bindE hp
    obtain ⟨p, pos, rfl⟩ := pCall_ok he
    have e1 := of_decide_eq_true h1
    subst e1
    obtain ⟨g1, g2⟩ := gl_of hs h2
    have Ax := A X sc (.ex x) C hs h5
    refine liftP (fun G0 H0 ρ => pe_imp (pe_callB call_isi g1 (C.blt _ (by decide)) boot_isi (pa_cons (Ax G0 H0 ρ).1 (pa_cons (ty_pe C hs h6) pa_nil (star_ok h4 [] X.env)) (star_ok h3 [y] X.env)) (by decide) g2 (star_ok h3 [y] X.env) (back_ok (by simp [h4]))) fun σ H Q q => ?_) rfl hg
    obtain ⟨G, L, sr, r, er, k⟩ := q
    obtain ⟨x1, e1, er⟩ := R.of_bind er
    have er := R.ok.inj er
    subst er
    exact ⟨G, L, sr, x1, e1, fun v1 H1 G1 sr1 g1 h1 r1 => ⟨v1, .ty (tyS t), .type (tyOf x1.d), .type (tyS t), isTy x1.d t, rfl, .ty _, rep_ty (RepW.h sr1 r1), kit_ty (kit_all _ _), k _ H1 G1 sr1 g1 h1 (RepV.at (W := G1) (.bl _) rfl)⟩⟩
  · cases h
theorem tys_cls : ∀ ts : List Ty, Paired ClsV (ts.map fun t => V.ty (tyS t)) (ts.map fun t => Value.type (tyS t))
  | [] => .nil
  | t :: ts => .cons (.ty _) (tys_cls ts)
theorem tysOk_len {sc : Scope} : ∀ {ts : List Ty} {es : List Expr}, tysOk sc ts es = true → ts.length = es.length
  | [], [], _ => rfl
  | [], _ :: _, h => by cases h
  | _ :: _, [], h => by cases h
  | t :: ts, e :: es, h => by
    have h : (okE e && tyOk sc t e && tysOk sc ts es) = true := h
    rw [List.length_cons, List.length_cons, tysOk_len (and2 h).2]
theorem snd_isi (ts : List Ty) (A : Sound T Φ k a) : Sound T Φ k (.isi a ts) := fun X sc g C hs h => by
  unfold chk at h
  split at h
  · rename_i f x y hp
    obtain ⟨h1, h6⟩ := and2 h
    obtain ⟨h1, h7⟩ := and2 h1
    obtain ⟨h1, h5⟩ := and2 h1
    obtain ⟨h1, h4⟩ := and2 h1
    obtain ⟨h1, h3⟩ := and2 h1
    obtain ⟨h1, h2⟩ := and2 h1
    have h7 := of_decide_eq_true h7
    obtain ⟨e, hg, he⟩ := of_bindE hp
    obtain ⟨p, pos, rfl⟩ := pCall_ok he
    have e1 := of_decide_eq_true h1
    subst e1
    obtain ⟨g1, g2⟩ := gl_of hs h2
    have Ax := A X sc (.ex x) C hs h5
    cases hy : pTuple y with
    | none => rw [hy] at h6; cases h6
    | some es =>
      rw [hy] at h6
      obtain ⟨k1, p1, rfl⟩ := pTuple_ok hy
      obtain ⟨u, hu, ku⟩ := tys_pa C hs h6
      refine liftP (fun G0 H0 ρ => pe_imp (pe_callB call_isiT g1 (C.blt _ (by decide)) boot_isi (pa_cons (Ax G0 H0 ρ).1 (pa_cons (pe_tup hu) pa_nil (star_ok h4 [] X.env)) (star_ok h3 _ X.env)) (by decide) g2 (star_ok h3 _ X.env) (back_ok (by simp [h4]))) fun σ H Q q => ?_) rfl hg
      obtain ⟨G, L, sr, r, er, k⟩ := q
      obtain ⟨x1, e1, er⟩ := R.of_bind er
      have er := R.ok.inj er
      subst er
      refine ⟨G, L, sr, x1, e1, fun v1 H1 G1 sr1 g1 h1 r1 => ku _ _ _ ⟨?_, fun q hq => ?_⟩⟩
      · rw [List.length_map]
        exact Nat.le_trans h7 (by rw [← szl_eq]; decide)
      · exact ⟨v1, q, _, .type (tyOf x1.d), _, ts.any (isTy x1.d), rfl, upd_same, tys_cls ts, rep_ty (Rep.mono (same_new hq) (RepW.h sr1 r1)), kitAny_of ts, k _ _ _ (sr1.new hq) (g1.trans (same_new (sr1.gh.free hq))) (h1.trans (same_new hq)) (RepV.at (W := G1) (.bl _) rfl)⟩
  · cases h
end
end Mp

set_option Elab.async false
set_option linter.all false
set_option maxRecDepth 100000
set_option maxHeartbeats 4000000
/-! Mp9: calls, walks, comprehensions; all expressions are sound. -/
namespace Mp
open PySem PySem.Spec PyProof.Rows L2
section
variable {T : Tb} {Φ : Nat → Fn} {k : Nat} {X : Cx} {m a b c : M} {e : Expr} {g : Ag}

/-! ### calls -/
theorem bfN_in (f : Bf) : bfN f ∈ bltAll := by cases f <;> decide
theorem bfN_ne (f : Bf) : bfN f ≠ "__name__" := by cases f <;> decide
theorem boot_bf : ∀ f : Bf, bootBuiltins (bfN f) = some (bfV f)
  | .len => by decide +kernel
  | .int => by decide +kernel
  | .sum => by decide +kernel
  | .max => by decide +kernel
  | .min => by decide +kernel
  | .list => by decide +kernel
  | .tuple => by decide +kernel
  | .abs => by decide +kernel
theorem pe_bf {f : Bf} {e : Expr} {es : List Expr} {t : TA} {p pos : Pos} (hc : X.calm = true) (hg : Gl X (bfN f)) (hm : X.mg (bfN f) = none) (ha : PA X (e :: es) t) (hdb : (bfN f == ("__debug__" : Str)) = false)
    (he : starEach (e :: es) X.env = (false, eval e X.env) :: starEach es X.env) (hpl : (backTo pos (starEach es X.env)).any (·.1) = false) : PE X (.Call (.Name (bfN f) p) (e :: es) [] pos) (tCB (rBf X.K f) t) := by
  have hv := boot_bf f
  have hr := call_Bf (X := X) hc f
  have hn := bfN_ne f
  cases f <;> first
    | exact pe_callB hr hg hm hv ha hn hdb he hpl
    | exact pe_callTy hr hg hm hv ha hn hdb he hpl
theorem snd_bf (f : Bf) (A : Sound T Φ k a) : Sound T Φ k (.bf f a) := fun X sc g C hs h => by
  unfold chk at h
  cases hp : g.e.bind pCall with
  | none => rw [hp] at h; cases h
  | some z =>
    obtain ⟨x, e0, r⟩ := z
    rw [hp] at h
    obtain ⟨h1, h5⟩ := and2 h
    obtain ⟨h1, h4⟩ := and2 h1
    obtain ⟨h1, h3⟩ := and2 h1
    obtain ⟨h1, h2⟩ := and2 h1
    obtain ⟨e, hg, he⟩ := of_bindE hp
    obtain ⟨p, pos, rfl⟩ := pCall_ok he
    have e1 := of_decide_eq_true h1
    subst e1
    obtain ⟨g1, g2⟩ := gl_of hs h2
    have Ax := A X sc (.args (e0 :: r)) C hs h5
    refine liftP (fun G0 H0 ρ => pe_imp (pe_bf C.calm g1 (C.blt _ (bfN_in f)) (Ax G0 H0 ρ) g2 (star_ok h3 r X.env) (back_ok h4)) fun σ H Q q => ?_) rfl hg
    obtain ⟨G, L, sr, r, er, k⟩ := q
    obtain ⟨x1, e1, er⟩ := R.of_bind er
    obtain ⟨z, e2, er⟩ := R.of_bind er
    have er := R.ok.inj er
    subst er
    exact ⟨G, L, sr, x1, e1, fun vs H1 G1 sr1 g1 h1 r1 => rBf_of sr1 r1 e2 fun v H' G' s' g h r => k v H' G' s' (g1.trans g) (h1.trans h) r⟩
/-- behind a call: what is handed over is shared -/
theorem shared_of {K : PySem.W.Frag} {G0 H0 G H H' Gc : Hp} {ρ : Env} {σ : L2.St} {L Lc : Lb} {S : List Nat} {v : V} {d : D} {n : Nat} (sr : SR K G0 H0 ρ σ G H L) (hH : Same H H') (hG : Same (wld G H L S) Gc) (gh : Same Gc H')
    (gn : ∀ a o, Gc a = some o → wld G H L S a = some o ∨ H a = none) (lb : ∀ a p, Lc a = some p → Gc a = none ∧ H a = none ∧ (∃ o, H' a = some o) ∧ ∃ t, p = 0 :: t) (o : Own K Gc H' Lc n [0] v d) :
    ∃ G', SR K G0 H0 ρ σ G' H' L ∧ Same G G' ∧ RepV K G' H' L v (.new d S) := by
  have lbc : ∀ a, Lc a = none ∨ ∃ t, Lc a = some (0 :: t) := fun a => by
    cases q : Lc a with
    | none => exact .inl rfl
    | some p =>
      obtain ⟨_, _, _, t, rfl⟩ := lb a p q
      exact .inr ⟨t, rfl⟩
  have n0 : ∀ a t, Lc a = some (0 :: t) → ∃ o, wld Gc H' Lc [0] a = some o ∧ H' a = some o ∧ H a = none := fun a t q => by
    obtain ⟨_, h2, ⟨o, h3⟩, _⟩ := lb a _ q
    exact ⟨o, by rw [wld_in q inS_one]; exact h3, h3, h2⟩
  have gW : Same Gc (wld Gc H' Lc [0]) := fun a o e => by
    rcases lbc a with q | ⟨t, q⟩
    · rw [wld_none q]
      exact e
    · rw [(lb a _ q).1] at e
      cases e
  have hW : Same (wld Gc H' Lc [0]) H' := fun a o e => by
    rcases lbc a with q | ⟨t, q⟩
    · rw [wld_none q] at e
      exact gh _ _ e
    · rw [wld_in q inS_one] at e
      exact e
  have nW : ∀ a o, wld Gc H' Lc [0] a = some o → wld G H L S a = some o ∨ H a = none := fun a o e => by
    rcases lbc a with q | ⟨t, q⟩
    · rw [wld_none q] at e
      exact gn a o e
    · exact .inr (lb a _ q).2.1
  have out : ∀ a p, L a = some p → ¬ inS p S → wld Gc H' Lc [0] a = none := fun a p q hi => by
    cases e : wld Gc H' Lc [0] a with
    | none => rfl
    | some o =>
      rcases nW a o e with z | z
      · rw [wld_out q hi] at z
        cases z
      · obtain ⟨_, _, ⟨u, z2⟩⟩ := sr.lab a _ q
        rw [z] at z2
        cases z2
  obtain ⟨G', s', g', _, w'⟩ := sr.unlend (S := S) hH (hG.trans gW) hW (fun a o e => (nW a o e).imp id sr.h0.free) out
  refine ⟨G', s', g', RepV.of ?_⟩
  have r1 : Rep K (wld Gc H' Lc [0]) v d := Own.rep gW n [0] v d (fun a p' hl hh _ o ho => by
    cases p' with
    | nil => cases hh
    | cons j t =>
      have ej : j = 0 := Option.some.inj hh
      subst ej
      rw [wld_in hl inS_one]
      exact ho) (by simp) o
  have r2 : Same (wld Gc H' Lc [0]) (wld (wld Gc H' Lc [0]) H' (lbO L S) []) := fun a o e => by
    rcases labc L a with q | ⟨p, q⟩
    · rw [wld_none (lbO_none q)]
      exact e
    · by_cases hi : inS p S
      · rw [wld_none (lbO_in q hi)]
        exact e
      · rw [out a p q hi] at e
        cases e
  have r3 := w' []
  rw [List.append_nil] at r3
  exact Rep.mono (r2.trans r3) r1
theorem snd_call (f : Nat) (A : Sound T Φ k a) : Sound T Φ k (.call f a) := fun X sc g C hs h => by
  unfold chk at h
  cases hp : g.e.bind pCall with
  | none => rw [hp] at h; cases h
  | some z =>
    obtain ⟨x, e0, r⟩ := z
    rw [hp] at h
    obtain ⟨h1, h5⟩ := and2 h
    obtain ⟨h1, h4⟩ := and2 h1
    obtain ⟨h1, h3⟩ := and2 h1
    obtain ⟨h1, h2⟩ := and2 h1
    obtain ⟨e, hg, he⟩ := of_bindE hp
    obtain ⟨p, pos, rfl⟩ := pCall_ok he
    obtain ⟨g1, g2⟩ := gl_of hs h2
    have Ax := A X sc (.args (e0 :: r)) C hs h5
    obtain ⟨fa, fd, ps, m1, m2, m3, m4, m5⟩ := C.fns f x (of_decide_eq_true h1)
    refine liftP (fun G0 H0 ρ => pe_imp (pe_call m4 C.room g1 m1 m2 m3 .nil pass0 (Ax G0 H0 ρ) g2 (star_ok h3 r X.env) (back_ok h4)) fun σ H Q q => ?_) rfl hg
    obtain ⟨G, L, sr, r, er, k⟩ := q
    obtain ⟨x1, e1, er⟩ := R.of_bind er
    obtain ⟨z, e2, er⟩ := R.of_bind er
    have er := R.ok.inj er
    subst er
    refine ⟨G, L, sr, x1, e1, fun vs H1 G1 sr1 g1 h1 r1 => ?_⟩
    refine ⟨wld G1 H1 L x1.2.1, x1.1, z, ?_, sr1.wldH, ?_, e2, fun v H' Gc Lc hH hG gh gn lb o => ?_⟩
    · rw [List.append_nil, r1.s.length]
      exact m5 _ _ e2
    · rw [List.append_nil]
      exact r1.s
    · obtain ⟨G', s', g', r'⟩ := shared_of sr1 hH hG gh gn lb o
      exact k v H' G' s' (g1.trans g') (h1.trans hH) r'

/-! ### list.index -/
theorem asInts_at : ∀ {ds : List D} {ns : List Int} {j : Nat}, asInts ds = some ns → ds[j]? = (ns[j]?).map D.int
  | [], ns, j, e => by
    cases e
    simp
  | d :: ds, ns, j, e => by
    cases d with
    | int i =>
      unfold asInts at e
      cases q : asInts ds with
      | none => rw [q] at e; cases e
      | some ms =>
        rw [q] at e
        have e2 : i :: ms = ns := Option.some.inj e
        subst e2
        cases j with
        | zero => rfl
        | succ j =>
          rw [List.getElem?_cons_succ, List.getElem?_cons_succ]
          exact asInts_at q
    | _ => cases e
theorem attr_ok {o : Expr} {f : Str} {env : PySem.Env} (h : ((pName o).isSome || (pCall o).isSome) = true) : attributeBase o f env (eval o env) = eval o env := by
  rw [Bool.or_eq_true] at h
  rcases h with h | h
  · cases q : pName o with
    | none => rw [q] at h; cases h
    | some x =>
      obtain ⟨p, rfl⟩ := pName_ok q
      rfl
  · cases q : pCall o with
    | none => rw [q] at h; cases h
    | some x =>
      obtain ⟨x, e, es⟩ := x
      obtain ⟨p, pos, rfl⟩ := pCall_ok q
      rfl
theorem snd_index (A : Sound T Φ k a) (B : Sound T Φ k b) : Sound T Φ k (.index a b) := fun X sc g C hs h => by
  unfold chk at h
  split at h
  · rename_i o m e0 hp
    obtain ⟨h1, h5⟩ := and2 h
    obtain ⟨h1, h4⟩ := and2 h1
    obtain ⟨h1, h3⟩ := and2 h1
    obtain ⟨h1, h2⟩ := and2 h1
    obtain ⟨e, hg, he⟩ := of_bindE hp
    obtain ⟨ap, cp, rfl, hl⟩ := pMeth_ok he
    have e1 := of_decide_eq_true h1
    subst e1
    have Ax := A X sc (.ex o) C hs h3
    have Bx := B X sc (.ex e0) C hs h4
    refine liftP (fun G0 H0 ρ => pe_imp (pe_bm PySem.F.plainAttrs_list PySem.F.slot_list_index PySem.F.type_list_index mt_index (Ax G0 H0 ρ).1 (pa_cons (Bx G0 H0 ρ).1 pa_nil (star_ok h2 [] X.env)) (attr_ok h5) (by rw [star_ok h2]; rfl) hl (star_ok h2 [] X.env) rfl) fun σ H Q q => ?_) rfl hg
    obtain ⟨G, L, sr, r, er, k⟩ := q
    obtain ⟨x1, e1, er⟩ := R.of_bind er
    obtain ⟨x2, e2, er⟩ := R.of_bind er
    obtain ⟨i, e3, er⟩ := R.of_bind er
    obtain ⟨ds, e4, er⟩ := R.of_bind er
    obtain ⟨ns, e5, er⟩ := R.of_bind er
    obtain ⟨j, e6, er⟩ := R.of_bind er
    have er := R.ok.inj er
    subst er
    have e5 := orBad_ok e5
    have e6 := orBad_ok e6
    obtain ⟨d, s, t⟩ := x1
    cases d with
    | lst es =>
      have e4 := R.ok.inj e4
      subst e4
      refine ⟨G, L, sr, _, e1, fun v1 H1 G1 sr1 g1 h1 r1 => ?_⟩
      obtain ⟨p, xs, ep, q, ra, ra2⟩ := r1
      refine ⟨?_, G1, L, sr1, x2, e2, fun v2 H2 G2 sr2 g2 h2 r2 => ?_⟩
      · rw [ep]
        exact .inl ⟨rfl, xs, sr1.wldH.seq q⟩
      · have r3 := RepW.s r2
        rw [intOf_ok e3] at r3
        have exs := ra.asInts e5
        subst exs
        obtain ⟨hj, hz, hno⟩ := List.findIdx?_eq_some_iff_getElem.mp e6
        refine ⟨p, _, .int i, j, .int i, ep, by rw [Rep.intE r3], h2.seq (sr1.wldH.seq q), rfl, ?_, ?_, by simp [eqV], fun m z' hm hz' => ?_, k _ H2 G2 sr2 (g1.trans g2) (h1.trans h2) (RepV.at (W := G2) (.int _) rfl)⟩
        · rw [List.all_map]
          exact List.all_eq_true.mpr fun _ _ => rfl
        · have ez : ns[j] = i := by simpa using hz
          rw [List.getElem?_map, List.getElem?_eq_getElem hj, ez]
          rfl
        · have hml : m < ns.length := Nat.lt_trans hm hj
          rw [List.getElem?_map, List.getElem?_eq_getElem hml] at hz'
          have ez' : V.int ns[m] = z' := Option.some.inj hz'
          subst ez'
          have := hno m hm
          simpa [eqV] using this
    | _ => cases e4
  · cases h

/-! ### walks -/
theorem goal_it {e tg : Expr} (h : ∀ G0 H0 ρ, PI X tg e (tIv X.K G0 H0 ρ (ev Φ m ρ))) : Goal Φ X m (.it e tg) := h
theorem snd_rng1 (A : Sound T Φ k a) : Sound T Φ k (.rng1 a) := fun X sc g C hs h => by
  unfold chk at h
  split at h
  · rename_i e tg
    split at h
    · rename_i f x hp
      obtain ⟨h1, h4⟩ := and2 h
      obtain ⟨h1, h3⟩ := and2 h1
      obtain ⟨h1, h2⟩ := and2 h1
      obtain ⟨p, pos, rfl⟩ := pCall_ok hp
      have e1 := of_decide_eq_true h1
      subst e1
      obtain ⟨g1, g2⟩ := gl_of hs h2
      have Ax := A X sc (.ex x) C hs h4
      refine goal_it fun G0 H0 ρ => pi_imp (pi_range1 g1 (C.blt _ (by decide)) (pa_cons (Ax G0 H0 ρ).1 pa_nil (star_ok h3 [] X.env)) (star_ok h3 [] X.env)) fun σ H Q q => ?_
      obtain ⟨G, L, sr, r, ds, er, ei, k⟩ := q
      obtain ⟨x1, e1, er⟩ := R.of_bind er
      obtain ⟨j, e2, er⟩ := R.of_bind er
      obtain ⟨c, er⟩ := R.of_chk er
      have er := R.ok.inj er
      subst er
      have ei := R.ok.inj ei
      subst ei
      refine ⟨G, L, sr, x1, e1, fun v1 H1 G1 sr1 g1 h1 r1 => ?_⟩
      have r3 := RepW.s r1
      rw [intOf_ok e2] at r3
      exact ⟨j, by rw [Rep.intE r3], (rngOk_ok c).1, (rngOk_ok c).2, k _ (fun _ => True) H1 G1 sr1 g1 h1 trivial wk_rng⟩
    · cases h
  · cases h
theorem snd_rng2 (A : Sound T Φ k a) (B : Sound T Φ k b) : Sound T Φ k (.rng2 a b) := fun X sc g C hs h => by
  unfold chk at h
  split at h
  · rename_i e tg
    split at h
    · rename_i f x y hp
      obtain ⟨h1, h6⟩ := and2 h
      obtain ⟨h1, h5⟩ := and2 h1
      obtain ⟨h1, h4⟩ := and2 h1
      obtain ⟨h1, h3⟩ := and2 h1
      obtain ⟨h1, h2⟩ := and2 h1
      obtain ⟨p, pos, rfl⟩ := pCall_ok hp
      have e1 := of_decide_eq_true h1
      subst e1
      obtain ⟨g1, g2⟩ := gl_of hs h2
      have Ax := A X sc (.ex x) C hs h5
      have Bx := B X sc (.ex y) C hs h6
      refine goal_it fun G0 H0 ρ => pi_imp (pi_range2 g1 (C.blt _ (by decide)) (pa_cons (Ax G0 H0 ρ).1 (pa_cons (Bx G0 H0 ρ).1 pa_nil (star_ok h4 [] X.env)) (star_ok h3 [y] X.env)) (by rw [star_ok h3, star_ok h4]; rfl) (star_ok h4 [] X.env)) fun σ H Q q => ?_
      obtain ⟨G, L, sr, r, ds, er, ei, k⟩ := q
      obtain ⟨x1, e1, er⟩ := R.of_bind er
      obtain ⟨x2, e2, er⟩ := R.of_bind er
      obtain ⟨i, e3, er⟩ := R.of_bind er
      obtain ⟨j, e4, er⟩ := R.of_bind er
      obtain ⟨c, er⟩ := R.of_chk er
      have er := R.ok.inj er
      subst er
      have ei := R.ok.inj ei
      subst ei
      refine ⟨G, L, sr, x1, e1, fun v1 H1 G1 sr1 g1 h1 r1 => ⟨G1, L, sr1, x2, e2, fun v2 H2 G2 sr2 g2 h2 r2 => ?_⟩⟩
      have r3 := RepW.s r1
      rw [intOf_ok e3] at r3
      have r4 := RepW.s r2
      rw [intOf_ok e4] at r4
      exact ⟨i, j, by rw [Rep.intE r3, Rep.intE r4], ⟨(rngOk_ok c.1).1, (rngOk_ok c.1).2, (rngOk_ok c.2).1, (rngOk_ok c.2).2⟩, k _ (fun _ => True) H2 G2 sr2 (g1.trans g2) (h1.trans h2) trivial wk_rng⟩
    · cases h
  · cases h
/-- enumerate(x), a list or a tuple -/
def iEnumA (K : PySem.W.Frag) (ta : TA) : TI := fun σ H R => ta σ H fun vs H1 => ∃ a xs, vs = [.ref a] ∧ ((SqL K H1 a xs ∧ R (Ite K a) H1) ∨ (SqT K H1 a xs ∧ R (IteT K a) H1))
theorem pi_enumA {e : Expr} {ta : TA} {p pos tpos : Pos} {elts : List Expr} {kk : Nat} (hg : Gl X "enumerate") (hm : X.mg "enumerate" = none) (ha : PA X [e] ta) (hs : starEach [e] X.env = [(false, eval e X.env)]) :
    PI X (.Tuple elts kk tpos) (.Call (.Name "enumerate" p) [e] [] pos) (iEnumA X.K ta) := by
  refine ⟨fun pins s σ H R I h => ?_⟩
  refine Call_ (ld_blt I hg hm boot_enumerate (PyProof.Rows.callWith_type1 (thn (ha.run pos pins s σ H _ I h) fun us s1 ⟨vs, H1, I1, r1, q1⟩ => ?_) hs rfl))
  obtain ⟨a, xs, ex, q⟩ := q1
  subst ex
  cases r1 with
  | cons r rr =>
    cases rr
    cases r
    rcases q with ⟨hq, q⟩ | ⟨hq, q⟩
    · obtain ⟨its, rv, p', hz⟩ := I1.list hq
      refine call_enumerate_list p'.isList fun h' he hit hsz hk => wpAny_pyIter_enum he ?_
      have I2 : Inv X pins σ H1 { s1 with heap := h' } := I1.kept (t' := s1.toks) hk
      refine ⟨s1.heap.objs.size + 1, [s1.heap.objs.size + 1, s1.heap.objs.size], _, _, H1, rfl, I2, turn_enum a (s1.heap.objs.size + 1) s1.heap.objs.size, ⟨⟨.none, he⟩, hit, Nat.succ_ne_self _⟩, fun b hb => ?_, q⟩
      have e' : b = s1.heap.objs.size + 1 ∨ b = s1.heap.objs.size := by simpa using hb
      have hle : s1.heap.objs.size ≤ b := by
        rcases e' with z | z
        · rw [z]; exact Nat.le_add_right _ _
        · rw [z]; exact Nat.le_refl _
      exact I1.fpOk hle (I1.hok.fresh hle)
    · obtain ⟨its, rv, p', hz⟩ := I1.tuple hq
      refine mp_call_enumerate_tuple p' fun h' he hit hsz hk => wpAny_pyIter_enum he ?_
      have I2 : Inv X pins σ H1 { s1 with heap := h' } := I1.kept (t' := s1.toks) hk
      refine ⟨s1.heap.objs.size + 1, [s1.heap.objs.size + 1, s1.heap.objs.size], _, _, H1, rfl, I2, turn_enumT a (s1.heap.objs.size + 1) s1.heap.objs.size, ⟨⟨.none, he⟩, hit, Nat.succ_ne_self _⟩, fun b hb => ?_, q⟩
      have e' : b = s1.heap.objs.size + 1 ∨ b = s1.heap.objs.size := by simpa using hb
      have hle : s1.heap.objs.size ≤ b := by
        rcases e' with z | z
        · rw [z]; exact Nat.le_add_right _ _
        · rw [z]; exact Nat.le_refl _
      exact I1.fpOk hle (I1.hok.fresh hle)
theorem some_ok {α : Type} {o : Option α} (h : o.isSome = true) : ∃ a, o = some a := by
  cases o with
  | none => cases h
  | some a => exact ⟨a, rfl⟩
theorem snd_enum (A : Sound T Φ k a) : Sound T Φ k (.enum a) := fun X sc g C hs h => by
  unfold chk at h
  split at h
  · rename_i e tg
    split at h
    · rename_i f x hp
      obtain ⟨h1, h5⟩ := and2 h
      obtain ⟨h1, h4⟩ := and2 h1
      obtain ⟨h1, h3⟩ := and2 h1
      obtain ⟨h1, h2⟩ := and2 h1
      obtain ⟨p, pos, rfl⟩ := pCall_ok hp
      have e1 := of_decide_eq_true h1
      subst e1
      obtain ⟨ts, ht⟩ := some_ok h4
      obtain ⟨k1, p1, rfl⟩ := pTuple_ok ht
      obtain ⟨g1, g2⟩ := gl_of hs h2
      have Ax := A X sc (.ex x) C hs h5
      refine goal_it fun G0 H0 ρ => pi_imp (pi_enumA g1 (C.blt _ (by decide)) (pa_cons (Ax G0 H0 ρ).1 pa_nil (star_ok h3 [] X.env)) (star_ok h3 [] X.env)) fun σ H Q q => ?_
      obtain ⟨G, L, sr, r, ds, er, ei, k⟩ := q
      obtain ⟨x1, e1, er⟩ := R.of_bind er
      obtain ⟨xs, e2, er⟩ := R.of_bind er
      have er := R.ok.inj er
      subst er
      have ei := R.ok.inj ei
      subst ei
      refine ⟨G, L, sr, x1, e1, fun v1 H1 G1 sr1 g1 h1 r1 => ?_⟩
      obtain ⟨d, s, t⟩ := x1
      cases d with
      | lst es =>
        have e2 := R.ok.inj e2
        subst e2
        obtain ⟨p, ys, ep, q, _, ra⟩ := r1
        exact ⟨p, ys, by rw [ep], .inl ⟨sr1.wldH.seq q, k _ (fun H => SqL X.K H p ys) H1 G1 sr1 g1 h1 q (wk_enum ra)⟩⟩
      | tup es =>
        have e2 := R.ok.inj e2
        subst e2
        obtain ⟨p, ys, ep, q, _, _, ra⟩ := r1
        exact ⟨p, ys, by rw [ep], .inr ⟨sqT_same sr1.wldH q, k _ (fun H => SqT X.K H p ys) H1 G1 sr1 g1 h1 q (wk_enumT ra)⟩⟩
      | _ => cases e2
    · cases h
  · cases h
theorem snd_rev (A : Sound T Φ k a) : Sound T Φ k (.rev a) := fun X sc g C hs h => by
  unfold chk at h
  split at h
  · rename_i e tg
    split at h
    · rename_i f x hp
      obtain ⟨h1, h4⟩ := and2 h
      obtain ⟨h1, h3⟩ := and2 h1
      obtain ⟨h1, h2⟩ := and2 h1
      obtain ⟨p, pos, rfl⟩ := pCall_ok hp
      have e1 := of_decide_eq_true h1
      subst e1
      obtain ⟨g1, g2⟩ := gl_of hs h2
      have Ax := A X sc (.ex x) C hs h4
      refine goal_it fun G0 H0 ρ => pi_imp (RT.pi_revA g1 (C.blt _ (by decide)) (Ax G0 H0 ρ).1 (star_ok h3 [] X.env)) fun σ H Q q => ?_
      obtain ⟨G, L, sr, r, ds, er, ei, k⟩ := q
      obtain ⟨x1, e1, er⟩ := R.of_bind er
      obtain ⟨xs, e2, er⟩ := R.of_bind er
      have er := R.ok.inj er
      subst er
      have ei := R.ok.inj ei
      subst ei
      refine ⟨G, L, sr, x1, e1, fun v1 H1 G1 sr1 g1 h1 r1 => ?_⟩
      obtain ⟨d, s, t⟩ := x1
      cases d with
      | lst es =>
        have e2 := R.ok.inj e2
        subst e2
        obtain ⟨p, ys, ep, q, _, ra⟩ := r1
        exact ⟨p, ys, ep, .inl ⟨sr1.wldH.seq q, k _ (fun H => SqL X.K H p ys) H1 G1 sr1 g1 h1 q (wk_rev ra)⟩⟩
      | tup es =>
        have e2 := R.ok.inj e2
        subst e2
        obtain ⟨p, ys, ep, q, _, _, ra⟩ := r1
        exact ⟨p, ys, ep, .inr ⟨sqT_same sr1.wldH q, k _ (fun H => SqT X.K H p ys) H1 G1 sr1 g1 h1 q (wk_revT ra)⟩⟩
      | _ => cases e2
    · cases h
  · cases h
theorem zipD_get {xs ys : List D} {i : Nat} {x y : D} (h1 : xs[i]? = some x) (h2 : ys[i]? = some y) : (zipD xs ys)[i]? = some (.tup [x, y]) := by
  unfold zipD
  rw [List.getElem?_zipWith, h1, h2]
theorem zipD_len {xs ys : List D} : (zipD xs ys).length = min xs.length ys.length := by
  unfold zipD
  rw [List.length_zipWith]
theorem wk_zip {K : PySem.W.Frag} {W : Hp} {a b : Addr} {xs ys : List V} {ds es : List D} (r : RepAll K W xs ds) (q : RepAll K W ys es) : Wk K (Itz K a b) (fun H => SqL K H a xs ∧ SqL K H b ys) W (zipD ds es) where
  mono := fun H H' s h => ⟨s.seq h.1, s.seq h.2⟩
  go := fun i H h hi => by
    rw [zipD_len, ← r.length, ← q.length] at hi
    have h1 : i < xs.length := by omega
    have h2 : i < ys.length := by omega
    exact ⟨xs, ys, xs[i], ys[i], h.1, h.2, List.getElem?_eq_getElem h1, List.getElem?_eq_getElem h2⟩
  stop := fun i H h hi => by
    rw [zipD_len, ← r.length, ← q.length] at hi
    exact ⟨xs, ys, h.1, h.2, by omega⟩
  yl := fun i H x H' h hi y => by
    obtain ⟨T, x', y', e, hT, eH, y1, y2⟩ := y
    obtain ⟨d1, e1, e2⟩ := r.at (y1 xs h.1)
    obtain ⟨d2, e3, e4⟩ := q.at (y2 ys h.2)
    exact ⟨_, zipD_get e1 e3, .new hT eH e rfl (.cons e2 (.cons e4 .nil))⟩
theorem wk_zipT {K : PySem.W.Frag} {W : Hp} {a b : Addr} {xs ys : List V} {ds es : List D} (r : RepAll K W xs ds) (q : RepAll K W ys es) : Wk K (RZ.ItzT K a b) (fun H => SqT K H a xs ∧ SqT K H b ys) W (zipD ds es) where
  mono := fun H H' s h => ⟨sqT_same s h.1, sqT_same s h.2⟩
  go := fun i H h hi => by
    rw [zipD_len, ← r.length, ← q.length] at hi
    have h1 : i < xs.length := by omega
    have h2 : i < ys.length := by omega
    exact ⟨xs, ys, xs[i], ys[i], h.1, h.2, List.getElem?_eq_getElem h1, List.getElem?_eq_getElem h2⟩
  stop := fun i H h hi => by
    rw [zipD_len, ← r.length, ← q.length] at hi
    exact ⟨xs, ys, h.1, h.2, by omega⟩
  yl := fun i H x H' h hi y => by
    obtain ⟨T, x', y', e, hT, eH, y1, y2⟩ := y
    obtain ⟨d1, e1, e2⟩ := r.at (y1 xs h.1)
    obtain ⟨d2, e3, e4⟩ := q.at (y2 ys h.2)
    exact ⟨_, zipD_get e1 e3, .new hT eH e rfl (.cons e2 (.cons e4 .nil))⟩
theorem snd_zip (A : Sound T Φ k a) (B : Sound T Φ k b) : Sound T Φ k (.zip a b) := fun X sc g C hs h => by
  unfold chk at h
  split at h
  · rename_i e tg
    split at h
    · rename_i f x y hp
      obtain ⟨h1, h7⟩ := and2 h
      obtain ⟨h1, h6⟩ := and2 h1
      obtain ⟨h1, h5⟩ := and2 h1
      obtain ⟨h1, h4⟩ := and2 h1
      obtain ⟨h1, h3⟩ := and2 h1
      obtain ⟨h1, h2⟩ := and2 h1
      obtain ⟨p, pos, rfl⟩ := pCall_ok hp
      have e1 := of_decide_eq_true h1
      subst e1
      obtain ⟨ts, ht⟩ := some_ok h5
      obtain ⟨k1, p1, rfl⟩ := pTuple_ok ht
      obtain ⟨g1, g2⟩ := gl_of hs h2
      have Ax := A X sc (.ex x) C hs h6
      have Bx := B X sc (.ex y) C hs h7
      refine goal_it fun G0 H0 ρ => pi_imp (RZ.pi_zipA g1 (C.blt _ (by decide)) (pa_cons (Ax G0 H0 ρ).1 (pa_cons (Bx G0 H0 ρ).1 pa_nil (star_ok h4 [] X.env)) (star_ok h3 [y] X.env)) (star_ok h3 [y] X.env) (back_ok (by simp [h4]))) fun σ H Q q => ?_
      obtain ⟨G, L, sr, r, ds, er, ei, k⟩ := q
      obtain ⟨x1, e1, er⟩ := R.of_bind er
      obtain ⟨x2, e2, er⟩ := R.of_bind er
      refine ⟨G, L, sr, x1, e1, fun v1 H1 G1 sr1 g1 h1 r1 => ⟨G1, L, sr1, x2, e2, fun v2 H2 G2 sr2 g2 h2 r2 => ?_⟩⟩
      have r1 := RepV.mono sr1 g2 h2 r1
      obtain ⟨d1, s1, t1⟩ := x1
      obtain ⟨d2, s2, t2⟩ := x2
      cases d1 with
      | lst xs =>
        cases d2 with
        | lst ys =>
          have er := R.ok.inj er
          subst er
          have ei := R.ok.inj ei
          subst ei
          obtain ⟨p, us, ep, q, _, ra⟩ := r1
          obtain ⟨p2, us2, ep2, q2, _, ra2⟩ := r2
          exact ⟨p, p2, us, us2, by rw [ep, ep2], .inl ⟨sr2.wldH.seq q, sr2.wldH.seq q2, k _ (fun H => SqL X.K H p us ∧ SqL X.K H p2 us2) H2 G2 sr2 (g1.trans g2) (h1.trans h2)
            ⟨(sr2.wldSub mem_l).seq q, (sr2.wldSub mem_r).seq q2⟩ (wk_zip (RepAll.mono (sr2.wldSub mem_l) ra) (RepAll.mono (sr2.wldSub mem_r) ra2))⟩⟩
        | _ => cases er
      | tup xs =>
        cases d2 with
        | tup ys =>
          have er := R.ok.inj er
          subst er
          have ei := R.ok.inj ei
          subst ei
          obtain ⟨p, us, ep, q, _, _, ra⟩ := r1
          obtain ⟨p2, us2, ep2, q2, _, _, ra2⟩ := r2
          exact ⟨p, p2, us, us2, by rw [ep, ep2], .inr ⟨sqT_same sr2.wldH q, sqT_same sr2.wldH q2, k _ (fun H => SqT X.K H p us ∧ SqT X.K H p2 us2) H2 G2 sr2 (g1.trans g2) (h1.trans h2)
            ⟨sqT_same (sr2.wldSub mem_l) q, sqT_same (sr2.wldSub mem_r) q2⟩ (wk_zipT (RepAll.mono (sr2.wldSub mem_l) ra) (RepAll.mono (sr2.wldSub mem_r) ra2))⟩⟩
        | _ => cases er
      | _ => cases er
    · cases h
  · cases h
end
end Mp

set_option Elab.async false
set_option linter.all false
set_option maxRecDepth 100000
set_option maxHeartbeats 4000000
/-! Mp10: list comprehensions; every expression is sound. -/
namespace Mp
open PySem PySem.Spec PyProof.Rows L2

section
variable {K : PySem.W.Frag} {G0 H0 G G' H H' : Hp} {ρ : Env} {σ : L2.St} {L L' : Lb} {S : List Nat}
theorem Own.monoN (g : Same G G') (h : ∀ a p o, L a = some p → p ≠ [] → H a = some o → H' a = some o) (l : ∀ a p, p ≠ [] → L a = some p → L' a = some p) : ∀ (k : Nat) (p : List Nat) (v : V) (d : D), p ≠ [] → Own K G H L k p v d → Own K G' H' L' k p v d := by
  intro k
  induction k with
  | zero => exact fun p v d _ r => Rep.mono g r
  | succ k ih =>
    rintro p v d hp ⟨a, xs, ds, e1, e2, e3, e4, e5, e6⟩
    exact ⟨a, xs, ds, e1, e2, h a p _ e4 hp e3, l _ _ hp e4, e5, fun j x e q1 q2 => ih _ x e (by simp) (e6 j x e q1 q2)⟩
/-- a list that is being made: labelled [] -/
noncomputable def lbD (L : Lb) (D : Addr) : Lb := open Classical in fun a => if a = D then some [] else L a
theorem lbD_same (L : Lb) (D : Addr) : lbD L D D = some [] := by
  unfold lbD
  exact if_pos rfl
theorem lbD_ne {L : Lb} {D a : Addr} (h : a ≠ D) : lbD L D a = L a := by
  unfold lbD
  exact if_neg h
theorem not_inS_nil : ¬ inS [] S := fun ⟨_, e, _⟩ => by cases e
theorem SR.begin (s : SR K G0 H0 ρ σ G H L) {p : Addr} {o : HO} (hp : H p = none) : SR K G0 H0 ρ σ G (upd H p o) (lbD L p) := by
  have hL : L p = none := by
    cases q : L p with
    | none => rfl
    | some x =>
      obtain ⟨_, _, u, e⟩ := s.lab p x q
      rw [hp] at e
      cases e
  have hl : ∀ a x, L a = some x → lbD L p a = some x := fun a x e => by
    rw [lbD_ne (fun z => by rw [z, hL] at e; cases e)]
    exact e
  refine ⟨s.gh.trans (same_new hp), s.g0, s.h0.trans (same_new hp), s.gnew, fun a x e => ?_, s.len, fun i d k e => ?_⟩
  · by_cases h : a = p
    · subst h
      exact ⟨s.gh.free hp, s.h0.free hp, o, upd_same⟩
    · rw [lbD_ne h] at e
      obtain ⟨h1, h2, u, h3⟩ := s.lab a x e
      exact ⟨h1, h2, u, same_new hp _ _ h3⟩
  · obtain ⟨v, e1, r⟩ := s.slot i d k e
    exact ⟨v, e1, Own.mono (Same.refl G) (same_new hp) hl r⟩
theorem SR.mut0 (s : SR K G0 H0 ρ σ G H L) {p : Addr} {o : HO} (hp : L p = some []) : SR K G0 H0 ρ σ G (upd H p o) L := by
  obtain ⟨h1, h2, u, h3⟩ := s.lab p _ hp
  have hs : ∀ {F : Hp}, F p = none → Same F H → Same F (upd H p o) := fun {F} hF hs a x e => by
    rw [upd_ne (ne_of_none e hF)]
    exact hs _ _ e
  refine ⟨hs h1 s.gh, s.g0, hs h2 s.h0, s.gnew, fun a x e => ?_, s.len, fun i d k e => ?_⟩
  · obtain ⟨q1, q2, w, q3⟩ := s.lab a x e
    by_cases h : a = p
    · subst h
      exact ⟨q1, q2, o, upd_same⟩
    · exact ⟨q1, q2, w, by rw [upd_ne h]; exact q3⟩
  · obtain ⟨v, e1, r⟩ := s.slot i d k e
    refine ⟨v, e1, Own.monoN (Same.refl G) (fun a x w e hx q => ?_) (fun _ _ _ q => q) k [i] v d (by simp) r⟩
    rw [upd_ne (fun z => by rw [z, hp] at e; cases e; exact hx rfl)]
    exact q
theorem wld_mut0 {p : Addr} {o : HO} (hp : L p = some []) : wld G (upd H p o) L S = wld G H L S := funext fun a => by
  rcases labc L a with h | ⟨x, h⟩
  · rw [wld_none h, wld_none h]
  · by_cases hi : inS x S
    · rw [wld_in h hi, wld_in h hi, upd_ne]
      intro z
      rw [z, hp] at h
      cases h
      exact not_inS_nil hi
    · rw [wld_out h hi, wld_out h hi]
theorem SR.unD {q0 : Addr} (s : SR K G0 H0 ρ σ G H (lbD L q0)) (hL : L q0 = none) : SR K G0 H0 ρ σ G H L := by
  refine ⟨s.gh, s.g0, s.h0, s.gnew, fun a x e => ?_, s.len, fun i d k e => ?_⟩
  · have h : a ≠ q0 := fun z => by rw [z, hL] at e; cases e
    exact s.lab a x (by rw [lbD_ne h]; exact e)
  · obtain ⟨v, e1, r⟩ := s.slot i d k e
    refine ⟨v, e1, Own.monoN (Same.refl G) (fun _ _ _ _ _ q => q) (fun a x hx q => ?_) k [i] v d (by simp) r⟩
    by_cases h : a = q0
    · subst h
      rw [lbD_same] at q
      cases q
      exact absurd rfl hx
    · rw [lbD_ne h] at q
      exact q
theorem wld_unD {q0 : Addr} (s : SR K G0 H0 ρ σ G H (lbD L q0)) : Same (wld G H (lbD L q0) S) (wld G H L S) := fun a x e => by
  by_cases h : a = q0
  · subst h
    rw [wld_out (lbD_same L a) not_inS_nil] at e
    cases e
  · rcases labc L a with q | ⟨y, q⟩
    · rw [wld_none (by rw [lbD_ne h]; exact q)] at e
      rw [wld_none q]
      exact e
    · by_cases hi : inS y S
      · rw [wld_in (by rw [lbD_ne h]; exact q) hi] at e
        rw [wld_in q hi]
        exact e
      · rw [wld_out (by rw [lbD_ne h]; exact q) hi] at e
        cases e
theorem wld_begin (s : SR K G0 H0 ρ σ G H L) {p : Addr} {o : HO} (hp : H p = none) : Same (wld G H L S) (wld G (upd H p o) (lbD L p) S) := fun a x e => by
  rcases labc L a with q | ⟨y, q⟩
  · rw [wld_none q] at e
    have h : a ≠ p := fun z => by
      rw [z, s.gh.free hp] at e
      cases e
    rw [wld_none (by rw [lbD_ne h]; exact q)]
    exact e
  · have h : a ≠ p := fun z => by
      obtain ⟨_, _, u, e2⟩ := s.lab a y q
      rw [z, hp] at e2
      cases e2
    by_cases hi : inS y S
    · rw [wld_in q hi] at e
      rw [wld_in (by rw [lbD_ne h]; exact q) hi, upd_ne h]
      exact e
    · rw [wld_out q hi] at e
      cases e

/-! ### readings that find their state -/
def tEvX (K : PySem.W.Frag) (G0 H0 : Hp) (f : Env → R V3) : TE := fun σ H Q => ∃ ρ, tEv K G0 H0 ρ (f ρ) σ H Q
def tTstX (K : PySem.W.Frag) (G0 H0 : Hp) (f : Env → R Bool) : TT := fun σ H Q => ∃ ρ, tTst K G0 H0 ρ (f ρ) σ H Q
theorem lcGo_if {f : D → R V3} : ∀ ds : List D, lcGo f ds = lcGoIf (fun _ => .ok true) f ds
  | [] => rfl
  | d :: ds => by
    unfold lcGo lcGoIf
    rw [lcGo_if ds]
    rfl
/-- how an evaluation goes on whose value is a new list that nobody else holds -/
abbrev GoF (K : PySem.W.Frag) (G0 H0 : Hp) (ρ : Env) (σ : L2.St) (G H : Hp) (L : Lb) (ds : List D) (t : List Nat) (Q : VK) : Prop := ∀ p xs H' G', SR K G0 H0 ρ σ G' H' L → Same G G' → Same H H' → H' p = some (.lst xs) → G' p = none → H0 p = none → L p = none →
  RepAll K (wld G' H' L t) xs ds → Q (.ref p) H'
theorem Go.f {ds : List D} {t : List Nat} {Q : VK} (k : Go K G0 H0 ρ σ G H L (.new (.lst ds) t) Q) : GoF K G0 H0 ρ σ G H L ds t Q := fun p xs H' G' s g h hp gp h0 lp ra =>
  k (.ref p) H' (upd G' p (.lst xs)) (s.adopt hp h0 gp lp) (g.trans (same_new gp)) h (RepV.of (.lst (SqL.of (by rw [wld_none lp, upd_same])) (RepAll.mono (s.wldMono (same_new gp) (Same.refl _)) ra)))
/-- .. laid at one stroke -/
theorem GoF.lst (sr : SR K G0 H0 ρ σ G H L) {xs : List V} {ds : List D} {t : List Nat} {Q : VK} (k : GoF K G0 H0 ρ σ G H L ds t Q) (ra : RepAll K (wld G H L t) xs ds) : ∀ p, H p = none → Q (.ref p) (upd H p (.lst xs)) := fun p hp => by
  have hL : L p = none := by
    cases q : L p with
    | none => rfl
    | some x =>
      obtain ⟨_, _, u, e⟩ := sr.lab p x q
      rw [hp] at e
      cases e
  exact k p xs _ G (sr.grow (Same.refl G) (same_new hp) (sr.gh.trans (same_new hp)) fun a o e => .inl e) (Same.refl G) (same_new hp) upd_same (sr.gh.free hp) (sr.h0.free hp) hL (RepAll.mono (sr.wldMono (Same.refl G) (same_new hp)) ra)
/-- how a comprehension's turns go -/
theorem lc_turns {t : Tg} {own : List Nat} {cf : Env → R Bool} {f : Env → R V3} {r : R V3} {v : V3} {ds : List D} {es : List D × List Nat} {Q : VK}
    (sr : SR K G0 H0 ρ σ G H L) (er : r = .ok v) (ei : items v.d = .ok ds) (ht : t.slots.all (fun i => own.contains i) = true)
    (eg : lcGoIf (fun d => do
      let ρ1 ← t.set d ((ρ.frz v.t).wipe own)
      cf ρ1) (fun d => do
      let ρ1 ← t.set d ((ρ.frz v.t).wipe own)
      f ρ1) ds = .ok es) (hz : es.1.length ≤ szl) (k : GoF K G0 H0 ρ σ G H L es.1 (v.t ++ es.2) Q) :
    tLc (tIv K G0 H0 ρ r) (gTg K t) (tTstX K G0 H0 cf) (tEvX K G0 H0 f) own σ H Q := by
  refine ⟨G, L, sr, v, ds, er, ei, fun J Sd H1 G1 sr1 g1 h1 hSd wk q0 hD => ?_⟩
  have ht : ∀ i ∈ t.slots, i ∈ own := fun i hi => by
    have := List.all_eq_true.mp ht i hi
    simpa using this
  have srL := sr1.lend v.t
  have hLD : lbO L v.t q0 = none := by
    cases q : lbO L v.t q0 with
    | none => rfl
    | some x =>
      obtain ⟨_, _, u, e⟩ := srL.lab q0 x q
      rw [hD] at e
      cases e
  let Lb := lbO L v.t
  let Gb := wld G1 H1 L v.t
  let P : Nat → Hp → Prop := fun i H' => ∃ Gi acc dacc rest, SR K G0 H0 (ρ.frz v.t) σ Gi H' (lbD Lb q0) ∧ Same Gb Gi ∧ Same H1 H' ∧ H' q0 = some (.lst acc) ∧
    RepAll K (wld Gi H' (lbD Lb q0) es.2) acc dacc ∧ lcGoIf (fun d => do
      let ρ1 ← t.set d ((ρ.frz v.t).wipe own)
      cf ρ1) (fun d => do
      let ρ1 ← t.set d ((ρ.frz v.t).wipe own)
      f ρ1) (ds.drop i) = .ok rest ∧ es.1 = dacc ++ rest.1 ∧ ∀ j ∈ rest.2, j ∈ es.2
  have hSd' : ∀ {H'}, Same H1 H' → Sd H' := fun {H'} h => wk.mono _ _ (sr1.wldH.trans h) hSd
  refine ⟨fun i m H' => m = ds.length - i ∧ i ≤ ds.length ∧ P i H', ⟨ds.length, by simp, Nat.zero_le _, Gb, [], [], es, srL.begin hD, Same.refl _, same_new hD, upd_same, .nil, by simpa using eg, rfl, fun _ h => h⟩, ?_⟩
  rintro i m H' ⟨rfl, hi, Gi, acc, dacc, rest, sri, gi, hi', hacc, ra, eg', ees, hsub⟩
  by_cases hlt : i < ds.length
  · refine .inr ⟨wk.go i H' (hSd' hi') hlt, P (i + 1), fun H'' p => ⟨ds.length - (i + 1), by omega, rfl, hlt, p⟩, fun x H2 y => ?_⟩
    obtain ⟨d, ed, yl⟩ := wk.yl i H' x H2 (hSd' hi') hlt y
    -- the item's state
    have step : ∃ G2, SR K G0 H0 (ρ.frz v.t) σ G2 H2 (lbD Lb q0) ∧ Same Gi G2 ∧ Same H' H2 ∧ Rep K G2 x d := by
      cases yl with
      | same e r =>
        subst e
        exact ⟨Gi, sri, Same.refl _, Same.refl _, Rep.mono gi r⟩
      | @new T' xs es' hT e ex ed r =>
        subst e ex ed
        exact ⟨_, sri.new hT, same_new (sri.gh.free hT), same_new hT, .tup (SqT.of upd_same) (RepAll.mono (gi.trans (same_new (sri.gh.free hT))) r)⟩
    obtain ⟨G2, sr2, g2, h2, rx⟩ := step
    have edrop : ds.drop i = d :: ds.drop (i + 1) := by
      rw [← List.getElem_cons_drop hlt]
      congr 1
      exact Option.some.inj ((List.getElem?_eq_getElem hlt).symm.trans ed)
    rw [edrop] at eg'
    unfold lcGoIf at eg'
    obtain ⟨b, eb, eg'⟩ := R.of_bind eg'
    obtain ⟨ρ1, eρ, eb⟩ := R.of_bind eb
    refine gTg_of (sr2.wipe own) rx eρ fun σ1 s1 hw => ⟨(hw own ht).trans wipe_wipe, ρ1, G2, lbD Lb q0, s1, b, eb, fun H3 G3 sr3 g3 h3 => ?_⟩
    have back : ∀ {ρ' σ' G' H' ρ2 σ2 G2 H2}, SR K G0 H0 ρ' σ' G' H' (lbD Lb q0) → SR K G0 H0 ρ2 σ2 G2 H2 (lbD Lb q0) → Same G2 G' → Same H2 H' → SR K G0 H0 ρ2 σ2 G' H' (lbD Lb q0) := fun {ρ' σ' G' H' ρ2 σ2 G2 H2} s' s2 g h =>
      ⟨s'.gh, s'.g0, s'.h0, s'.gnew, s'.lab, s2.len, fun i d k e => by
        obtain ⟨w, e1, r⟩ := s2.slot i d k e
        exact ⟨w, e1, Own.mono g h (fun _ _ q => q) r⟩⟩
    cases b with
    | true =>
      rw [if_pos rfl] at eg'
      show tEvX K G0 H0 f σ1 H3 _
      obtain ⟨w, ew, eg'⟩ := R.of_bind eg'
      obtain ⟨ρ1', eρ', ew⟩ := R.of_bind ew
      rw [eρ] at eρ'
      have eρ' := R.ok.inj eρ'
      subst eρ'
      obtain ⟨rest', er', eg'⟩ := R.of_bind eg'
      have eg' := R.ok.inj eg'
      subst eg'
      refine ⟨ρ1, G3, lbD Lb q0, sr3, w, ew, fun yv H4 G4 sr4 g4 h4 r4 => ⟨acc, h4 _ _ (h3 _ _ (h2 _ _ hacc)), ?_, ?_⟩⟩
      · rw [ra.length]
        have : es.1.length = dacc.length + (rest'.1.length + 1) := by
          rw [ees, List.length_append, List.length_cons]
        have hz2 : es.1.length ≤ sizeLine := by
          rw [← szl_eq]
          exact hz
        omega
      · have s5 := back sr4 sri (g2.trans (g3.trans g4)) (h2.trans (h3.trans h4))
        have m5 := sri.wldMono (S := es.2) (g2.trans (g3.trans g4)) (h2.trans (h3.trans h4))
        refine ⟨G4, acc ++ [yv], dacc ++ [w.d], rest', s5.mut0 (lbD_same Lb q0), gi.trans (g2.trans (g3.trans g4)), fun a o e => ?_, upd_same, ?_, er', ?_, fun j hj => hsub j (List.mem_append_right _ hj)⟩
        · rw [upd_ne (ne_of_none e hD)]
          exact h4 _ _ (h3 _ _ (h2 _ _ (hi' _ _ e)))
        · rw [wld_mut0 (lbD_same Lb q0)]
          refine (RepAll.mono m5 ra).append (.cons (Rep.mono (s5.wldSub fun j hj => hsub j (List.mem_append_left _ hj)) (RepW.s r4)) .nil)
        · rw [ees, List.append_assoc]
          rfl
    | false =>
      rw [if_neg Bool.false_ne_true] at eg'
      show P (i + 1) H3
      have m5 := sri.wldMono (S := es.2) (g2.trans g3) (h2.trans h3)
      exact ⟨G3, acc, dacc, rest, back sr3 sri (g2.trans g3) (h2.trans h3), gi.trans (g2.trans g3), hi'.trans (h2.trans h3), h3 _ _ (h2 _ _ hacc), RepAll.mono m5 ra, eg', ees, hsub⟩
  · have e : i = ds.length := by omega
    subst e
    refine .inl ⟨wk.stop _ H' (hSd' hi') (Nat.le_refl _), ?_⟩
    rw [List.drop_length] at eg'
    have eg' := R.ok.inj eg'
    subst eg'
    have ees : es.1 = dacc := by
      rw [ees, List.append_nil]
    have hGD : Gi q0 = none := (sri.lab q0 _ (lbD_same Lb q0)).1
    have h0D : H0 q0 = none := (sri.lab q0 _ (lbD_same Lb q0)).2.1
    have sF := sri.unD hLD
    obtain ⟨G', s', g', n', w'⟩ := sr1.unlend (S := v.t) hi' gi sF.gh (fun a o e => by
      rcases sF.gnew a o e with z | z
      · exact .inl (sr1.gwld _ _ (sr1.g0 _ _ z))
      · exact .inr z) (fun a p q hp => (sF.lab a p (lbO_out q hp)).1)
    have hLq : L q0 = none := by
      cases q : L q0 with
      | none => rfl
      | some x =>
        obtain ⟨_, _, u, e⟩ := sr1.lab q0 x q
        rw [hD] at e
        cases e
    exact k q0 acc H' G' s' (g1.trans g') (h1.trans hi') hacc (n' _ hGD) h0D hLq (RepAll.mono ((wld_unD sri).trans (w' es.2)) (ees ▸ ra))
end

section
variable {T : Tb} {Φ : Nat → Fn} {k : Nat} {X : Cx} {m a b c : M} {e : Expr} {g : Ag}
theorem tgN_blk {cs sc : Scope} {s : Shared} {H : Hp} {cl : List (Str × Addr)} {Ca : Addr} {fp : List Addr} (hs : X.env.scope = sc) : TgOk (X.blk s H cs (compEnvC cs cl Ca X.env) fp) cs := fun x h => by
  unfold tgN at h
  rw [Bool.or_eq_true] at h
  rcases h with h | h
  · have h := of_decide_eq_true h
    have h2 := lookup_relS_keep (sc := X.env.scope) (by decide) h
    exact ⟨.inl h2, .inr h2⟩
  · have h := of_decide_eq_true h
    have h2 := lookup_relS_keep (sc := X.env.scope) (by decide) h
    refine ⟨.inr h2, .inl ?_⟩
    show (cs.names.lookup x == some NameKind.cell) = true
    rw [h]
    rfl
theorem ownN_slots {N : List Str} : ∀ own : List Nat, (ownN N own).map (·.2) = own
  | [] => rfl
  | i :: r => by
    show i :: (ownN N r).map (·.2) = i :: r
    rw [ownN_slots r]
theorem Cn.blk {cs : Scope} {s : Shared} {H : Hp} {cl : List (Str × Addr)} {Ca : Addr} {fp : List Addr} (C : Cn T Φ k X) : Cn T Φ k (X.blk s H cs (compEnvC cs cl Ca X.env) fp) := ⟨C.N, C.calm, C.nd, C.room, C.blt, C.con, C.fns⟩
/-- what a comprehension's rules ask -/
structure LcP (X : Cx) (elt tg iter : Expr) (ifs : List Expr) (cs : Scope) (own : List (Str × Nat)) (wi : TI) (g : TG) (tt : TT) (te : TE) : Prop where
  hi : PI X tg iter wi
  ok : BlkOk X.N X.env.scope cs own
  hg : ∀ (s : Shared) (H : Hp) (Ca : Addr) (cl : List (Str × Addr)) (fp : List Addr), PG (X.blk s H cs (compEnvC cs cl Ca X.env) fp) tg g
  ht : ∀ (s : Shared) (H : Hp) (Ca : Addr) (cl : List (Str × Addr)) (fp : List Addr), PTs (X.blk s H cs (compEnvC cs cl Ca X.env) fp) ifs tt
  he : ∀ (s : Shared) (H : Hp) (Ca : Addr) (cl : List (Str × Addr)) (fp : List Addr), PE (X.blk s H cs (compEnvC cs cl Ca X.env) fp) elt te
  hs : ∀ x, foldedSetIterable iter X.env x = pure x
theorem lcP {t : Tg} {own : List Nat} (E : Sound T Φ k a) (I : Sound T Φ k b) {sc : Scope} (C : Cn T Φ k X) (hs : X.env.scope = sc) (h : chk T (.lc a t own b) sc g = true) :
    ∃ elt tg iter cs pos, g.e = some (.ListComp elt [⟨tg, iter, [], 0⟩] cs pos) ∧ t.slots.all (fun i => own.contains i) = true ∧
      ∀ G0 H0 ρ, LcP X elt tg iter [] cs (ownN T.N own) (tIv X.K G0 H0 ρ (ev Φ b ρ)) (gTg X.K t) (tTstX X.K G0 H0 fun _ => .ok true) (tEvX X.K G0 H0 (ev Φ a)) := by
  unfold chk at h
  split at h
  · rename_i elt tg iter cs hp
    obtain ⟨h1, h6⟩ := and2 h
    obtain ⟨h1, h5⟩ := and2 h1
    obtain ⟨h1, h4⟩ := and2 h1
    obtain ⟨h1, h3⟩ := and2 h1
    obtain ⟨h1, h2⟩ := and2 h1
    obtain ⟨e, hg, he⟩ := of_bindE hp
    obtain ⟨pos, rfl⟩ := pLC_ok he
    have Ix := I X sc (.it iter tg) C hs h5
    refine ⟨elt, tg, iter, cs, pos, hg, h4, fun G0 H0 ρ => ⟨Ix G0 H0 ρ, blkOk_by (by rw [C.N, hs]; exact h2), fun s H Ca cl fp => pg_tg (X := X.blk s H cs (compEnvC cs cl Ca X.env) fp) C.calm C.nd (tgN_blk hs) (by rw [C.N]; exact h3), fun s H Ca cl fp => ?_, fun s H Ca cl fp => ?_, fold_ok h1 X.env⟩⟩
    · exact ⟨fun pins s' σ H' Q I ⟨ρ', q⟩ => pts_nil.run pins s' σ H' Q I (by
        obtain ⟨G, L, sr, b, e, k⟩ := q
        have e := R.ok.inj e
        subst e
        exact k H' G sr (Same.refl G) (Same.refl H'))⟩
    · exact ⟨fun pins s' σ H' Q I ⟨ρ', q⟩ => (E (X.blk s H cs (compEnvC cs cl Ca X.env) fp) (relS cs sc) (.ex elt) C.blk (by rw [← hs]; rfl) h6 G0 H0 ρ').1.run pins s' σ H' Q I q⟩
  · cases h
theorem lcIfP {t : Tg} {own : List Nat} (E : Sound T Φ k a) (I : Sound T Φ k b) (Cd : Sound T Φ k c) {sc : Scope} (C : Cn T Φ k X) (hs : X.env.scope = sc) (h : chk T (.lcIf a t own b c) sc g = true) :
    ∃ elt tg iter cd cs pos, g.e = some (.ListComp elt [⟨tg, iter, [cd], 0⟩] cs pos) ∧ t.slots.all (fun i => own.contains i) = true ∧
      ∀ G0 H0 ρ, LcP X elt tg iter [cd] cs (ownN T.N own) (tIv X.K G0 H0 ρ (ev Φ b ρ)) (gTg X.K t) (tTstX X.K G0 H0 (tst Φ c)) (tEvX X.K G0 H0 (ev Φ a)) := by
  unfold chk at h
  split at h
  · rename_i elt tg iter cd cs hp
    obtain ⟨h1, h7⟩ := and2 h
    obtain ⟨h1, h6⟩ := and2 h1
    obtain ⟨h1, h5⟩ := and2 h1
    obtain ⟨h1, h4⟩ := and2 h1
    obtain ⟨h1, h3⟩ := and2 h1
    obtain ⟨h1, h2⟩ := and2 h1
    obtain ⟨e, hg, he⟩ := of_bindE hp
    obtain ⟨pos, rfl⟩ := pLC_ok he
    have Ix := I X sc (.it iter tg) C hs h5
    refine ⟨elt, tg, iter, cd, cs, pos, hg, h4, fun G0 H0 ρ => ⟨Ix G0 H0 ρ, blkOk_by (by rw [C.N, hs]; exact h2), fun s H Ca cl fp => pg_tg (X := X.blk s H cs (compEnvC cs cl Ca X.env) fp) C.calm C.nd (tgN_blk hs) (by rw [C.N]; exact h3), fun s H Ca cl fp => ?_, fun s H Ca cl fp => ?_, fold_ok h1 X.env⟩⟩
    · exact ⟨fun pins s' σ H' Q I ⟨ρ', q⟩ => (pts_one (Cd (X.blk s H cs (compEnvC cs cl Ca X.env) fp) (relS cs sc) (.ex cd) C.blk (by rw [← hs]; rfl) h7 G0 H0 ρ').2).run pins s' σ H' Q I q⟩
    · exact ⟨fun pins s' σ H' Q I ⟨ρ', q⟩ => (E (X.blk s H cs (compEnvC cs cl Ca X.env) fp) (relS cs sc) (.ex elt) C.blk (by rw [← hs]; rfl) h6 G0 H0 ρ').1.run pins s' σ H' Q I q⟩
  · cases h
section
variable {K : PySem.W.Frag} {G0 H0 G H : Hp} {ρ : Env} {σ : L2.St} {L : Lb} {Q : VK} {x : V3} {t : Tg} {own : List Nat}
theorem lc_read (N : List Str) (ht : t.slots.all (fun i => own.contains i) = true) (sr : SR K G0 H0 ρ σ G H L) (er : ev Φ (.lc a t own b) ρ = .ok x) (k : ∀ es u, x = .new (.lst es) u → GoF K G0 H0 ρ σ G H L es u Q) :
    tLc (tIv K G0 H0 ρ (ev Φ b ρ)) (gTg K t) (tTstX K G0 H0 fun _ => .ok true) (tEvX K G0 H0 (ev Φ a)) ((ownN N own).map (·.2)) σ H Q := by
  rw [ownN_slots]
  obtain ⟨v, e1, er⟩ := R.of_bind er
  obtain ⟨ds, e2, er⟩ := R.of_bind er
  obtain ⟨es, e3, er⟩ := R.of_bind er
  obtain ⟨hz, er⟩ := R.of_chk er
  have er := R.ok.inj er
  subst er
  rw [lcGo_if] at e3
  refine lc_turns (cf := fun _ => .ok true) (f := ev Φ a) sr e1 e2 ht ?_ hz (k _ _ rfl)
  have ec : ∀ (ds : List D) (es : List D × List Nat), lcGoIf (fun _ => .ok true) (fun d => do
      let ρ1 ← t.set d ((ρ.frz v.t).wipe own)
      ev Φ a ρ1) ds = .ok es → lcGoIf (fun d => do
      let ρ1 ← t.set d ((ρ.frz v.t).wipe own)
      R.ok true) (fun d => do
      let ρ1 ← t.set d ((ρ.frz v.t).wipe own)
      ev Φ a ρ1) ds = .ok es := by
    intro ds
    induction ds with
    | nil => exact fun es e => e
    | cons d ds ih =>
      intro es e
      unfold lcGoIf at e ⊢
      obtain ⟨b, eb, e⟩ := R.of_bind e
      have eb := R.ok.inj eb
      subst eb
      rw [if_pos rfl] at e
      obtain ⟨w, ew, e⟩ := R.of_bind e
      obtain ⟨ρ1, eρ, ew⟩ := R.of_bind ew
      obtain ⟨rest, er, e⟩ := R.of_bind e
      rw [eρ]
      show R.bind (ev Φ a ρ1) _ = _
      rw [ew]
      show R.bind _ _ = _
      rw [ih rest er]
      exact e
  exact ec ds es e3
theorem lcIf_read (N : List Str) (ht : t.slots.all (fun i => own.contains i) = true) (sr : SR K G0 H0 ρ σ G H L) (er : ev Φ (.lcIf a t own b c) ρ = .ok x) (k : ∀ es u, x = .new (.lst es) u → GoF K G0 H0 ρ σ G H L es u Q) :
    tLc (tIv K G0 H0 ρ (ev Φ b ρ)) (gTg K t) (tTstX K G0 H0 (tst Φ c)) (tEvX K G0 H0 (ev Φ a)) ((ownN N own).map (·.2)) σ H Q := by
  rw [ownN_slots]
  obtain ⟨v, e1, er⟩ := R.of_bind er
  obtain ⟨ds, e2, er⟩ := R.of_bind er
  obtain ⟨es, e3, er⟩ := R.of_bind er
  obtain ⟨hz, er⟩ := R.of_chk er
  have er := R.ok.inj er
  subst er
  exact lc_turns (cf := tst Φ c) (f := ev Φ a) sr e1 e2 ht e3 hz (k _ _ rfl)
end
theorem snd_lc (t : Tg) (own : List Nat) (E : Sound T Φ k a) (I : Sound T Φ k b) : Sound T Φ k (.lc a t own b) := fun X sc g C hs h => by
  obtain ⟨elt, tg, iter, cs, pos, hg, ht, P⟩ := lcP E I C hs h
  refine liftP (fun G0 H0 ρ => ?_) rfl hg
  obtain ⟨p1, p2, p3, p4, p5, p6⟩ := P G0 H0 ρ
  refine pe_imp (pe_lc C.calm C.nd p1 p2 p3 p4 p5 p6) fun σ H Q q => ?_
  obtain ⟨G, L, sr, r, er, k⟩ := q
  exact lc_read T.N ht sr er fun es u e => by
    subst e
    exact Go.f k
theorem snd_lcIf (t : Tg) (own : List Nat) (E : Sound T Φ k a) (I : Sound T Φ k b) (Cd : Sound T Φ k c) : Sound T Φ k (.lcIf a t own b c) := fun X sc g C hs h => by
  obtain ⟨elt, tg, iter, cd, cs, pos, hg, ht, P⟩ := lcIfP E I Cd C hs h
  refine liftP (fun G0 H0 ρ => ?_) rfl hg
  obtain ⟨p1, p2, p3, p4, p5, p6⟩ := P G0 H0 ρ
  refine pe_imp (pe_lc C.calm C.nd p1 p2 p3 p4 p5 p6) fun σ H Q q => ?_
  obtain ⟨G, L, sr, r, er, k⟩ := q
  exact lcIf_read T.N ht sr er fun es u e => by
    subst e
    exact Go.f k

/-- every expression -/
theorem sound : ∀ m : M, Sound T Φ k m
  | .var i => snd_var i
  | .con d => snd_con d
  | .bin o a b => snd_bin o (sound a) (sound b)
  | .neg a => snd_neg (sound a)
  | .not a => snd_not (sound a)
  | .and a b => snd_and (sound a) (sound b)
  | .or a b => snd_or (sound a) (sound b)
  | .cmp o a b => snd_cmp o (sound a) (sound b)
  | .chain o p a b c => snd_chain o p (sound a) (sound b) (sound c)
  | .ite c a b => snd_ite (sound c) (sound a) (sound b)
  | .nil => snd_nil
  | .cons a r => snd_cons (sound a) (sound r)
  | .lst es => snd_lst (sound es)
  | .tup es => snd_tup (sound es)
  | .ix a b => snd_ix (sound a) (sound b)
  | .sl a lo hi => snd_sl (sound a) (sound lo) (sound hi)
  | .isi a ts => snd_isi ts (sound a)
  | .isi1 a t => snd_isi1 t (sound a)
  | .bf f es => snd_bf f (sound es)
  | .call f es => snd_call f (sound es)
  | .rng1 a => snd_rng1 (sound a)
  | .rng2 a b => snd_rng2 (sound a) (sound b)
  | .enum a => snd_enum (sound a)
  | .zip a b => snd_zip (sound a) (sound b)
  | .rev a => snd_rev (sound a)
  | .lc e t own it => snd_lc t own (sound e) (sound it)
  | .lcIf e t own it c => snd_lcIf t own (sound e) (sound it) (sound c)
  | .index a b => snd_index (sound a) (sound b)
end
end Mp

set_option Elab.async false
set_option linter.all false
set_option maxRecDepth 100000
set_option maxHeartbeats 4000000
/-! Mp11: values that come to be owned. -/
namespace Mp
open PySem PySem.Spec PyProof.Rows L2

section
variable {K : PySem.W.Frag} {G0 H0 G G' H H' Gc : Hp} {ρ : Env} {σ : L2.St} {L L' Lc : Lb} {S : List Nat} {v : V} {d : D} {n : Nat}
/-- how an evaluation goes on whose value may be new: L' labels what it holds (root 0) -/
abbrev GoO (K : PySem.W.Frag) (G0 H0 : Hp) (ρ : Env) (σ : L2.St) (G H : Hp) (L : Lb) (x : V3 × Nat) (Q : VK) : Prop := ∀ v H' G' L', SR K G0 H0 ρ σ G' H' L → Same G G' → Same H H' →
  (∀ a p, L' a = some p → L a = none ∧ G' a = none ∧ H0 a = none ∧ (∃ o, H' a = some o) ∧ ∃ t, p = 0 :: t) → Own K (wld G' H' L x.1.s) H' L' x.2 [0] v x.1.d → Q v H'
def tEvO (K : PySem.W.Frag) (G0 H0 : Hp) (ρ : Env) (r : R (V3 × Nat)) : TE := fun σ H Q => ∃ G L, SR K G0 H0 ρ σ G H L ∧ ∃ x, r = .ok x ∧ GoO K G0 H0 ρ σ G H L x Q
theorem GoO.go {x : V3} {Q : VK} (k : GoO K G0 H0 ρ σ G H L (x, 0) Q) : Go K G0 H0 ρ σ G H L x Q := fun v H' G' s g h r => k v H' G' (fun _ => none) s g h (fun _ _ e => by cases e) (RepW.s r)
noncomputable def lb1 (p : Addr) : Lb := open Classical in fun a => if a = p then some [0] else none
theorem lb1_same (p : Addr) : lb1 p p = some [0] := by
  unfold lb1
  exact if_pos rfl
theorem lb1_some {p a : Addr} {q : List Nat} (h : lb1 p a = some q) : a = p ∧ q = [0] := by
  unfold lb1 at h
  by_cases e : a = p
  · rw [if_pos e] at h
    exact ⟨e, (Option.some.inj h).symm⟩
  · rw [if_neg e] at h
    cases h
theorem GoO.f {ds : List D} {t : List Nat} {Q : VK} (k : GoO K G0 H0 ρ σ G H L (.new (.lst ds) t, 1) Q) : GoF K G0 H0 ρ σ G H L ds t Q := fun p xs H' G' s g h hp gp h0 lp ra =>
  k (.ref p) H' G' (lb1 p) s g h (fun a q e => by
    obtain ⟨e1, e2⟩ := lb1_some e
    subst e1 e2
    exact ⟨lp, gp, h0, ⟨_, hp⟩, [], rfl⟩) ⟨p, xs, ds, rfl, rfl, hp, lb1_same p, ra.length, fun j x e q1 q2 => by
      obtain ⟨y, e1, r⟩ := ra.get q2
      rw [q1] at e1
      cases e1
      exact r⟩
theorem owned_of (sr : SR K G0 H0 ρ σ G H L) (hH : Same H H') (hG : Same (wld G H L S) Gc) (gh : Same Gc H') (gn : ∀ a o, Gc a = some o → wld G H L S a = some o ∨ H a = none)
    (lb : ∀ a p, Lc a = some p → Gc a = none ∧ H a = none ∧ (∃ o, H' a = some o) ∧ ∃ t, p = 0 :: t) (o : Own K Gc H' Lc n [0] v d) :
    ∃ G', SR K G0 H0 ρ σ G' H' L ∧ Same G G' ∧ (∀ a p, Lc a = some p → L a = none ∧ G' a = none ∧ H0 a = none ∧ (∃ o, H' a = some o) ∧ ∃ t, p = 0 :: t) ∧ Own K (wld G' H' L (dp d S)) H' Lc n [0] v d := by
  have out : ∀ a p, L a = some p → ¬ inS p S → Gc a = none := fun a p q hi => by
    cases e : Gc a with
    | none => rfl
    | some o =>
      rcases gn a o e with z | z
      · rw [wld_out q hi] at z
        cases z
      · obtain ⟨_, _, ⟨u, z2⟩⟩ := sr.lab a _ q
        rw [z] at z2
        cases z2
  obtain ⟨G', s', g', n', w'⟩ := sr.unlend (S := S) hH hG gh (fun a o e => (gn a o e).imp id sr.h0.free) out
  refine ⟨G', s', g', fun a p e => ?_, ?_⟩
  · obtain ⟨h1, h2, h3, h4⟩ := lb a p e
    refine ⟨?_, n' _ h1, sr.h0.free h2, h3, h4⟩
    cases q : L a with
    | none => rfl
    | some x =>
      obtain ⟨_, _, u, z⟩ := sr.lab a x q
      rw [h2] at z
      cases z
  · cases ha : atomic d with
    | true =>
      cases n with
      | zero => exact Rep.flat (show Rep K Gc v d from o) ha
      | succ n =>
        obtain ⟨_, _, _, _, e, _⟩ := o
        rw [e] at ha
        cases ha
    | false =>
      have e : dp d S = S := by
        unfold dp
        rw [ha]
        rfl
      rw [e]
      have r2 : Same Gc (wld Gc H' (lbO L S) []) := fun a o e => by
        rcases labc L a with q | ⟨p, q⟩
        · rw [wld_none (lbO_none q)]
          exact e
        · by_cases hi : inS p S
          · rw [wld_none (lbO_in q hi)]
            exact e
          · rw [out a p q hi] at e
            cases e
      have r3 := w' []
      rw [List.append_nil] at r3
      exact Own.mono (r2.trans r3) (Same.refl _) (fun _ _ q => q) o
end

section
variable {T : Tb} {Φ : Nat → Fn} {k : Nat} {X : Cx} {m a b c : M} {e : Expr} {g : Ag}
def SoundO (T : Tb) (Φ : Nat → Fn) (k : Nat) (m : M) : Prop := ∀ (X : Cx) (sc : Scope) (e : Expr), Cn T Φ k X → X.env.scope = sc → chk T m sc (.ex e) = true → ∀ G0 H0 ρ, PE X e (tEvO X.K G0 H0 ρ (evO Φ m ρ))
theorem sndO_def (h : ∀ ρ, evO Φ m ρ = (ev Φ m ρ >>= fun x => .ok (x, 0))) : SoundO T Φ k m := fun X sc e C hs hc G0 H0 ρ =>
  pe_imp ((sound (T := T) (Φ := Φ) (k := k) m) X sc (.ex e) C hs hc G0 H0 ρ).1 fun σ H Q q => by
    obtain ⟨G, L, sr, x, er, k⟩ := q
    rw [h] at er
    obtain ⟨y, e1, er⟩ := R.of_bind er
    have er := R.ok.inj er
    subst er
    exact ⟨G, L, sr, y, e1, GoO.go k⟩
theorem sndO_lst : SoundO T Φ k (.lst a) := fun X sc e C hs h G0 H0 ρ => by
  unfold chk at h
  cases hp : (Ag.ex e).e.bind pList with
  | none => rw [hp] at h; cases h
  | some es =>
    rw [hp] at h
    obtain ⟨e', hg, he⟩ := of_bindE hp
    cases hg
    obtain ⟨pos, rfl⟩ := pList_ok he
    have Ax := sound (T := T) (Φ := Φ) (k := k) a X sc (.args es) C hs h
    refine pe_imp (pe_lst (Ax G0 H0 ρ)) fun σ H Q q => ?_
    obtain ⟨G, L, sr, r, er, k⟩ := q
    obtain ⟨x0, er0, er⟩ := R.of_bind er
    obtain ⟨x1, e1, er0⟩ := R.of_bind er0
    obtain ⟨c, er0⟩ := R.of_chk er0
    have er0 := R.ok.inj er0
    subst er0
    have er := R.ok.inj er
    subst er
    exact ⟨G, L, sr, x1, e1, fun vs H1 G1 sr1 g1 h1 r1 => ⟨by rw [r1.s.length]; exact c, GoF.lst sr1 (GoO.f fun v H' G' L' s' g h r => k v H' G' L' s' (g1.trans g) (h1.trans h) r) r1.s⟩⟩
theorem sndO_bin (o : BOp) : SoundO T Φ k (.bin o a b) := fun X sc e C hs h G0 H0 ρ => by
  unfold chk at h
  cases hp : (Ag.ex e).e.bind pBin with
  | none => rw [hp] at h; cases h
  | some z =>
    obtain ⟨x, p, y⟩ := z
    rw [hp] at h
    obtain ⟨h1, h3⟩ := and2 h
    obtain ⟨h1, h2⟩ := and2 h1
    obtain ⟨e', hg, he⟩ := of_bindE hp
    cases hg
    obtain ⟨pos, rfl⟩ := pBin_ok he
    have e1 := of_decide_eq_true h1
    subst e1
    refine pe_imp (pe_op (op_B o) (sound (T := T) (Φ := Φ) (k := k) a X sc (.ex x) C hs h2 G0 H0 ρ).1 (sound (T := T) (Φ := Φ) (k := k) b X sc (.ex y) C hs h3 G0 H0 ρ).1) fun σ H Q q => ?_
    obtain ⟨G, L, sr, r, er, k⟩ := q
    obtain ⟨x0, er0, er⟩ := R.of_bind er
    obtain ⟨x1, e1, er0⟩ := R.of_bind er0
    obtain ⟨x2, e2, er0⟩ := R.of_bind er0
    obtain ⟨z, e3, er0⟩ := R.of_bind er0
    have er0 := R.ok.inj er0
    subst er0
    have er := R.ok.inj er
    subst er
    refine ⟨G, L, sr, x1, e1, fun v1 H1 G1 sr1 g1 h1 r1 => ⟨G1, L, sr1, x2, e2, fun v2 H2 G2 sr2 g2 h2 r2 => ?_⟩⟩
    have r1 := RepV.mono sr1 g2 h2 r1
    have k2 : GoO X.K G0 H0 ρ σ G2 H2 L (.new z (x1.t ++ x2.t), isL z) Q := fun v H' G' L' s' g h r => k v H' G' L' s' (g1.trans (g2.trans g)) (h1.trans (h2.trans h)) r
    cases z with
    | lst es =>
      obtain ⟨d1, s1, t1⟩ := x1
      obtain ⟨d2, s2, t2⟩ := x2
      have bad : ∀ {α : Type} {c : Prop} [Decidable c] {n : Int}, ¬ (R.chk c (R.ok (D.int n)) = .ok (.lst es)) := fun h => by
        obtain ⟨_, h⟩ := R.of_chk h
        cases h
      cases d1 with
      | int i =>
        cases d2 with
        | int j =>
          cases o with
          | add => cases e3
          | sub => cases e3
          | _ =>
            obtain ⟨_, h⟩ := R.of_chk e3
            cases h
        | _ => cases e3
      | lst ds =>
        cases d2 with
        | lst es2 =>
          by_cases h : o = .add
          · subst h
            obtain ⟨c, e⟩ := R.of_chk (show R.chk (ds.length + es2.length ≤ szl) (R.ok (D.lst (ds ++ es2))) = .ok (.lst es) from e3)
            have e := R.ok.inj e
            have e : ds ++ es2 = es := D.lst.inj e
            subst e
            obtain ⟨a', xs', ea, qa, _, ra⟩ := r1
            obtain ⟨b', ys', eb, qb, _, rb⟩ := r2
            refine .inr (.inl ⟨a', b', xs', ys', ea, eb, sr2.wldH.seq qa, sr2.wldH.seq qb, ?_, GoF.lst sr2 (GoO.f k2) ((RepAll.mono (sr2.wldSub mem_l) ra).append (RepAll.mono (sr2.wldSub mem_r) rb))⟩)
            rw [ra.length, rb.length]
            exact c
          · have e : (if o = .add then _ else R.bad) = R.ok (D.lst es) := e3
            rw [if_neg h] at e
            cases e
        | _ => cases e3
      | tup ds =>
        cases d2 with
        | tup es2 =>
          by_cases h : o = .add
          · subst h
            obtain ⟨c, e⟩ := R.of_chk (show R.chk (ds.length + es2.length ≤ szl) (R.ok (D.tup (ds ++ es2))) = .ok (.lst es) from e3)
            cases e
          · have e : (if o = .add then _ else R.bad) = R.ok (D.lst es) := e3
            rw [if_neg h] at e
            cases e
        | _ => cases e3
      | _ => cases e3
    | _ => exact rB_of sr2 r1 r2 e3 (GoO.go k2)
theorem sndO_lc (t : Tg) (own : List Nat) : SoundO T Φ k (.lc a t own b) := fun X sc e C hs h G0 H0 ρ => by
  obtain ⟨elt, tg, iter, cs, pos, hg, ht, P⟩ := lcP (sound (k := k) a) (sound b) C hs h
  cases hg
  obtain ⟨p1, p2, p3, p4, p5, p6⟩ := P G0 H0 ρ
  refine pe_imp (pe_lc C.calm C.nd p1 p2 p3 p4 p5 p6) fun σ H Q q => ?_
  obtain ⟨G, L, sr, r, er, k⟩ := q
  obtain ⟨x, ex, er⟩ := R.of_bind er
  have er := R.ok.inj er
  subst er
  exact lc_read T.N ht sr ex fun es u e => by
    subst e
    exact GoO.f k
theorem sndO_lcIf (t : Tg) (own : List Nat) : SoundO T Φ k (.lcIf a t own b c) := fun X sc e C hs h G0 H0 ρ => by
  obtain ⟨elt, tg, iter, cd, cs, pos, hg, ht, P⟩ := lcIfP (sound (k := k) a) (sound b) (sound c) C hs h
  cases hg
  obtain ⟨p1, p2, p3, p4, p5, p6⟩ := P G0 H0 ρ
  refine pe_imp (pe_lc C.calm C.nd p1 p2 p3 p4 p5 p6) fun σ H Q q => ?_
  obtain ⟨G, L, sr, r, er, k⟩ := q
  obtain ⟨x, ex, er⟩ := R.of_bind er
  have er := R.ok.inj er
  subst er
  exact lcIf_read T.N ht sr ex fun es u e => by
    subst e
    exact GoO.f k
theorem sndO_call (f : Nat) : SoundO T Φ k (.call f a) := fun X sc e C hs h G0 H0 ρ => by
  unfold chk at h
  cases hp : (Ag.ex e).e.bind pCall with
  | none => rw [hp] at h; cases h
  | some z =>
    obtain ⟨x, e0, r⟩ := z
    rw [hp] at h
    obtain ⟨h1, h5⟩ := and2 h
    obtain ⟨h1, h4⟩ := and2 h1
    obtain ⟨h1, h3⟩ := and2 h1
    obtain ⟨h1, h2⟩ := and2 h1
    obtain ⟨e', hg, he⟩ := of_bindE hp
    cases hg
    obtain ⟨p, pos, rfl⟩ := pCall_ok he
    obtain ⟨g1, g2⟩ := gl_of hs h2
    have Ax := sound (T := T) (Φ := Φ) (k := k) a X sc (.args (e0 :: r)) C hs h5
    obtain ⟨fa, fd, ps, m1, m2, m3, m4, m5⟩ := C.fns f x (of_decide_eq_true h1)
    refine pe_imp (pe_call m4 C.room g1 m1 m2 m3 .nil pass0 (Ax G0 H0 ρ) g2 (star_ok h3 r X.env) (back_ok h4)) fun σ H Q q => ?_
    obtain ⟨G, L, sr, r, er, k⟩ := q
    obtain ⟨x1, e1, er⟩ := R.of_bind er
    obtain ⟨z, e2, er⟩ := R.of_bind er
    have er := R.ok.inj er
    subst er
    refine ⟨G, L, sr, x1, e1, fun vs H1 G1 sr1 g1 h1 r1 => ?_⟩
    refine ⟨wld G1 H1 L x1.2.1, x1.1, z, ?_, sr1.wldH, ?_, e2, fun v H' Gc Lc hH hG gh gn lb o => ?_⟩
    · rw [List.append_nil, r1.s.length]
      exact m5 _ _ e2
    · rw [List.append_nil]
      exact r1.s
    · obtain ⟨G', s', g', l', o'⟩ := owned_of sr1 hH hG gh gn lb o
      exact k v H' G' Lc s' (g1.trans g') (h1.trans hH) l' o'
theorem soundO : ∀ m : M, SoundO T Φ k m
  | .bin o a b => sndO_bin o
  | .lst es => sndO_lst
  | .lc e t own it => sndO_lc t own
  | .lcIf e t own it c => sndO_lcIf t own
  | .call f es => sndO_call f
  | .var i => sndO_def fun _ => rfl
  | .con d => sndO_def fun _ => rfl
  | .neg a => sndO_def fun _ => rfl
  | .not a => sndO_def fun _ => rfl
  | .and a b => sndO_def fun _ => rfl
  | .or a b => sndO_def fun _ => rfl
  | .cmp o a b => sndO_def fun _ => rfl
  | .chain o p a b c => sndO_def fun _ => rfl
  | .ite c a b => sndO_def fun _ => rfl
  | .nil => sndO_def fun _ => rfl
  | .cons a r => sndO_def fun _ => rfl
  | .tup es => sndO_def fun _ => rfl
  | .ix a b => sndO_def fun _ => rfl
  | .sl a lo hi => sndO_def fun _ => rfl
  | .isi a ts => sndO_def fun _ => rfl
  | .isi1 a t => sndO_def fun _ => rfl
  | .bf f es => sndO_def fun _ => rfl
  | .rng1 a => sndO_def fun _ => rfl
  | .rng2 a b => sndO_def fun _ => rfl
  | .enum a => sndO_def fun _ => rfl
  | .zip a b => sndO_def fun _ => rfl
  | .rev a => sndO_def fun _ => rfl
  | .index a b => sndO_def fun _ => rfl
end
end Mp

set_option Elab.async false
set_option linter.all false
set_option maxRecDepth 100000
set_option maxHeartbeats 4000000
/-! Mp12: statements: the state's steps, the check, soundness. -/
namespace Mp
open PySem PySem.Spec PyProof.Rows L2

section
variable {K : PySem.W.Frag} {G0 H0 G G' H H' Gb : Hp} {ρ : Env} {σ : L2.St} {L L' : Lb} {S : List Nat} {v : V} {d : D} {n k : Nat}
/-- labels L, and those of L' as the i-th slot's -/
def lbM (L L' : Lb) (i : Nat) : Lb := fun a => match L a with
  | some p => some p
  | none => (L' a).map fun p => i :: p.tail
theorem lbM_l {i : Nat} {a : Addr} {p : List Nat} (h : L a = some p) : lbM L L' i a = some p := by
  unfold lbM
  rw [h]
theorem lbM_r {i : Nat} {a : Addr} {t : List Nat} (h : L a = none) (h2 : L' a = some (0 :: t)) : lbM L L' i a = some (i :: t) := by
  unfold lbM
  rw [h, h2]
  rfl
theorem lbM_some {i : Nat} {a : Addr} {p : List Nat} (h : lbM L L' i a = some p) : L a = some p ∨ ∃ q, L' a = some q := by
  unfold lbM at h
  cases e : L a with
  | some x =>
    rw [e] at h
    exact .inl h
  | none =>
    rw [e] at h
    cases e2 : L' a with
    | none => rw [e2] at h; cases h
    | some q => exact .inr ⟨q, rfl⟩
theorem Own.relab {i : Nat} (dj : ∀ a p, L' a = some p → L a = none) : ∀ (k : Nat) (t : List Nat) (v : V) (d : D), Own K G H L' k (0 :: t) v d → Own K G H (lbM L L' i) k (i :: t) v d := by
  intro k
  induction k with
  | zero => exact fun _ _ _ r => r
  | succ k ih =>
    rintro t v d ⟨a, xs, ds, e1, e2, e3, e4, e5, e6⟩
    exact ⟨a, xs, ds, e1, e2, e3, lbM_r (dj _ _ e4) e4, e5, fun j x e q1 q2 => ih (t ++ [j]) x e (e6 j x e q1 q2)⟩
/-- the i-th slot gets a value that it may own -/
theorem SR.bindO (s : SR K G0 H0 ρ σ G H L) (i : Nat) (lb : ∀ a p, L' a = some p → L a = none ∧ G a = none ∧ H0 a = none ∧ (∃ o, H a = some o) ∧ ∃ t, p = 0 :: t) (o : Own K G H L' k [0] v d) :
    SR K G0 H0 (ρ.set i (some (d, k))) (σ.set i (some v)) G H (lbM L L' i) where
  gh := s.gh
  g0 := s.g0
  h0 := s.h0
  gnew := s.gnew
  lab := fun a p e => by
    rcases lbM_some e with e | ⟨q, e⟩
    · exact s.lab a p e
    · obtain ⟨_, h2, h3, h4, _⟩ := lb a q e
      exact ⟨h2, h3, h4⟩
  len := by rw [List.length_set, List.length_set, s.len]
  slot := fun j e n q => by
    by_cases h : i = j
    · subst h
      rw [List.getElem?_set] at q
      by_cases hl : i < ρ.length
      · rw [if_pos rfl, if_pos hl] at q
        have q2 : (d, k) = (e, n) := Option.some.inj (Option.some.inj q)
        cases q2
        exact ⟨v, by rw [List.getElem?_set_self (by rw [s.len]; exact hl)], Own.relab (fun a p h => (lb a p h).1) k [] v d o⟩
      · rw [if_pos rfl, if_neg hl] at q
        cases q
    · rw [List.getElem?_set_ne h] at q
      obtain ⟨w, e1, r1⟩ := s.slot j e n q
      exact ⟨w, by rw [List.getElem?_set_ne h]; exact e1, Own.mono (Same.refl _) (Same.refl _) (fun _ _ z => lbM_l z) r1⟩
theorem SR.asg (s : SR K G0 H0 ρ σ G H L) (i : Nat) (lb : ∀ a p, L' a = some p → L a = none ∧ G a = none ∧ H0 a = none ∧ (∃ o, H a = some o) ∧ ∃ t, p = 0 :: t) (o : Own K (wld G H L S) H L' k [0] v d) :
    SR K G0 H0 ((ρ.frz S).set i (some (d, k))) (σ.set i (some v)) (wld G H L S) H (lbM (lbO L S) L' i) :=
  (s.lend S).bindO i (fun a p e => by
    obtain ⟨h1, h2, h3, h4, h5⟩ := lb a p e
    exact ⟨lbO_none h1, by rw [wld_none h1]; exact h2, h3, h4, h5⟩) o
theorem Own.other {p : Addr} {o : HO} {i : Nat} (hp : L p = some [i]) : ∀ (k : Nat) (j : Nat) (t : List Nat) (v : V) (d : D), j ≠ i → Own K G H L k (j :: t) v d → Own K G (upd H p o) L k (j :: t) v d := by
  intro k
  induction k with
  | zero => exact fun _ _ _ _ _ r => r
  | succ k ih =>
    rintro j t v d hj ⟨a, xs, ds, e1, e2, e3, e4, e5, e6⟩
    refine ⟨a, xs, ds, e1, e2, ?_, e4, e5, fun m x e q1 q2 => ih j (t ++ [m]) x e hj (e6 m x e q1 q2)⟩
    rw [upd_ne (fun z => by rw [z, hp] at e4; cases e4; exact hj rfl)]
    exact e3
/-- the list that the i-th slot owns -/
theorem SR.ownL (s : SR K G0 H0 ρ σ G H L) {i : Nat} {ds : List D} (e : ρ[i]? = some (some (.lst ds, 1))) : ∃ p xs, σ[i]? = some (some (.ref p)) ∧ H p = some (.lst xs) ∧ RepAll K G xs ds ∧
    ∀ ys es, RepAll K G ys es → SR K G0 H0 (ρ.set i (some (.lst es, 1))) σ G (upd H p (.lst ys)) L := by
  obtain ⟨v, ev, a, xs, ds', e1, e2, e3, e4, e5, e6⟩ := s.slot i _ _ e
  cases e2
  subst e1
  obtain ⟨h1, h2, _⟩ := s.lab a _ e4
  have hi : i < ρ.length := (List.getElem?_eq_some_iff.mp e).1
  refine ⟨a, xs, ev, e3, repAll_of e5 e6, fun ys es ra => ⟨?_, s.g0, ?_, s.gnew, ?_, by rw [List.length_set, s.len], ?_⟩⟩
  · intro b o q
    rw [upd_ne (ne_of_none q h1)]
    exact s.gh _ _ q
  · intro b o q
    rw [upd_ne (ne_of_none q h2)]
    exact s.h0 _ _ q
  · intro b p q
    obtain ⟨z1, z2, o, z3⟩ := s.lab b p q
    refine ⟨z1, z2, ?_⟩
    by_cases h : b = a
    · subst h
      exact ⟨_, upd_same⟩
    · exact ⟨o, by rw [upd_ne h]; exact z3⟩
  · intro j d n q
    by_cases h : i = j
    · subst h
      rw [List.getElem?_set_self hi] at q
      have q2 : (D.lst es, 1) = (d, n) := Option.some.inj (Option.some.inj q)
      cases q2
      refine ⟨_, ev, a, ys, es, rfl, rfl, upd_same, e4, ra.length, fun m x y q1 q2 => ?_⟩
      obtain ⟨z, e1, r⟩ := ra.get q2
      rw [q1] at e1
      cases e1
      exact r
    · rw [List.getElem?_set_ne h] at q
      obtain ⟨w, e1, r1⟩ := s.slot j d n q
      exact ⟨w, e1, Own.other e4 n j [] w d (fun z => h z.symm) r1⟩
theorem SR.rebase (s : SR K G0 H0 ρ σ G H L) : SR K G H0 ρ σ G H L := ⟨s.gh, Same.refl G, s.h0, fun a o e => .inl e, s.lab, s.len, s.slot⟩
theorem SR.unbase (s : SR K Gb H0 ρ σ G H L) (g : Same G0 Gb) (n : ∀ a o, Gb a = some o → G0 a = some o ∨ H0 a = none) : SR K G0 H0 ρ σ G H L :=
  ⟨s.gh, g.trans s.g0, s.h0, fun a o e => (s.gnew a o e).elim (n a o) .inr, s.lab, s.len, s.slot⟩

/-! ### ends -/
def EndOk (K : PySem.W.Frag) (G0 H0 : Hp) (D : Ends) : Out → Prop
  | .bad => False
  | .nx ρ => ∀ σ G H L, SR K G0 H0 ρ σ G H L → D.nx σ H
  | .bk ρ => ∀ σ G H L, SR K G0 H0 ρ σ G H L → D.bk σ H
  | .ct ρ => ∀ σ G H L, SR K G0 H0 ρ σ G H L → D.ct σ H
  | .rt d k => ∀ v G H L, Same G0 G → Same H0 H → Same G H → (∀ a o, G a = some o → G0 a = some o ∨ H0 a = none) → (∀ a p, L a = some p → G a = none ∧ H0 a = none ∧ (∃ o, H a = some o) ∧ ∃ t, p = 0 :: t) → Own K G H L k [0] v d → D.rt v H
  | .ex _ _ => False
def tEx (K : PySem.W.Frag) (f : Env → Out) : TS := fun D σ H => ∃ G0 H0 ρ G L, SR K G0 H0 ρ σ G H L ∧ EndOk K G0 H0 D (f ρ)
def tEvO' (K : PySem.W.Frag) (f : Env → R (V3 × Nat)) : TE := fun σ H Q => ∃ G0 H0 ρ, tEvO K G0 H0 ρ (f ρ) σ H Q
def tEv' (K : PySem.W.Frag) (f : Env → R V3) : TE := fun σ H Q => ∃ G0 H0 ρ, tEv K G0 H0 ρ (f ρ) σ H Q
def tTst' (K : PySem.W.Frag) (f : Env → R Bool) : TT := fun σ H Q => ∃ G0 H0 ρ, tTst K G0 H0 ρ (f ρ) σ H Q
def tIv' (K : PySem.W.Frag) (f : Env → R V3) : TI := fun σ H Q => ∃ G0 H0 ρ, tIv K G0 H0 ρ (f ρ) σ H Q
theorem EndOk.base {D : Ends} {o : Out} (g : Same G0 Gb) (n : ∀ a o, Gb a = some o → G0 a = some o ∨ H0 a = none) (h : EndOk K G0 H0 D o) : EndOk K Gb H0 D o := by
  cases o with
  | bad => exact h
  | nx ρ => exact fun σ G H L s => h σ G H L (s.unbase g n)
  | bk ρ => exact fun σ G H L s => h σ G H L (s.unbase g n)
  | ct ρ => exact fun σ G H L s => h σ G H L (s.unbase g n)
  | rt d k => exact fun v G H L q1 q2 q3 q4 q5 q6 => h v G H L (g.trans q1) q2 q3 (fun a o e => (q4 a o e).elim (n a o) .inr) q5 q6
  | ex c fs => exact h
theorem EndOk.out {α : Type} {D : Ends} {m : R α} {f : α → Out} (h : EndOk K G0 H0 D (m.out f)) : ∃ a, m = .ok a ∧ EndOk K G0 H0 D (f a) := by
  cases m with
  | bad => exact absurd h id
  | ok a => exact ⟨a, rfl, h⟩
  | exc c fs => exact absurd h id
/-- a name's value handed over with what it owns -/
theorem SR.hand (s : SR K G0 H0 ρ σ G H L) {i : Nat} (e : ρ[i]? = some (some (d, k))) {En : Ends} (h : EndOk K G0 H0 En (.rt d k)) : ∃ v, σ[i]? = some (some v) ∧ En.rt v H := by
  classical
  obtain ⟨v, ev, r⟩ := s.slot i d k e
  let M : Lb := fun a => match L a with
    | some (j :: t) => if j = i then some (0 :: t) else none
    | _ => none
  have m1 : ∀ {a : Addr} {t : List Nat}, L a = some (i :: t) → M a = some (0 :: t) := fun {a t} h => by
    show (match L a with
      | some (j :: t) => if j = i then some (0 :: t) else none
      | _ => none) = _
    rw [h]
    exact if_pos rfl
  have rel : ∀ (k : Nat) (t : List Nat) (v : V) (d : D), Own K G H L k (i :: t) v d → Own K G H M k (0 :: t) v d := by
    intro k
    induction k with
    | zero => exact fun _ _ _ r => r
    | succ k ih =>
      rintro t v d ⟨a, xs, ds, e1, e2, e3, e4, e5, e6⟩
      exact ⟨a, xs, ds, e1, e2, e3, m1 e4, e5, fun j x e q1 q2 => ih (t ++ [j]) x e (e6 j x e q1 q2)⟩
  refine ⟨v, ev, h v G H M s.g0 s.h0 s.gh s.gnew (fun a p q => ?_) (rel k [] v d r)⟩
  have q : (match L a with
      | some (j :: t) => if j = i then some (0 :: t) else none
      | _ => none) = some p := q
  split at q
  · rename_i j t hl
    split at q
    · cases q
      obtain ⟨z1, z2, z3⟩ := s.lab a _ hl
      exact ⟨z1, z2, z3, t, rfl⟩
    · cases q
  · cases q
end
end Mp

set_option Elab.async false
set_option linter.all false
set_option maxRecDepth 100000
set_option maxHeartbeats 4000000
/-! Mp13: statements: the check, soundness. -/
namespace Mp
open PySem PySem.Spec PyProof.Rows L2

/-! ### syntax -/
inductive SAg where
  | one (st : Stmt)
  | blk (sts : List Stmt)
def SAg.s : SAg → Option Stmt
  | .one st => some st
  | .blk [st] => some st
  | _ => none
def pAssign : Stmt → Option (Expr × Expr)
  | .Assign [t] v _ => some (t, v)
  | _ => none
theorem pAssign_ok {st : Stmt} {t v : Expr} (h : pAssign st = some (t, v)) : ∃ p, st = .Assign [t] v p := by
  unfold pAssign at h
  split at h
  · cases h
    exact ⟨_, rfl⟩
  · cases h
def pExprS : Stmt → Option Expr
  | .Expr e _ => some e
  | _ => none
theorem pExprS_ok {st : Stmt} {e : Expr} (h : pExprS st = some e) : ∃ p, st = .Expr e p := by
  unfold pExprS at h
  split at h
  · cases h
    exact ⟨_, rfl⟩
  · cases h
def pRet : Stmt → Option (Option Expr)
  | .Return e _ => some e
  | _ => none
theorem pRet_ok {st : Stmt} {e : Option Expr} (h : pRet st = some e) : ∃ p, st = .Return e p := by
  unfold pRet at h
  split at h
  · cases h
    exact ⟨_, rfl⟩
  · cases h
def pIfS : Stmt → Option (Expr × List Stmt × List Stmt)
  | .If c a b _ => some (c, a, b)
  | _ => none
theorem pIfS_ok {st : Stmt} {c : Expr} {a b : List Stmt} (h : pIfS st = some (c, a, b)) : ∃ p, st = .If c a b p := by
  unfold pIfS at h
  split at h
  · cases h
    exact ⟨_, rfl⟩
  · cases h
def pWhile : Stmt → Option (Expr × List Stmt)
  | .While c b [] _ => some (c, b)
  | _ => none
theorem pWhile_ok {st : Stmt} {c : Expr} {b : List Stmt} (h : pWhile st = some (c, b)) : ∃ p, st = .While c b [] p := by
  unfold pWhile at h
  split at h
  · cases h
    exact ⟨_, rfl⟩
  · cases h
def pFor : Stmt → Option (Expr × Expr × List Stmt)
  | .For tg it b [] _ => some (tg, it, b)
  | _ => none
theorem pFor_ok {st : Stmt} {tg it : Expr} {b : List Stmt} (h : pFor st = some (tg, it, b)) : ∃ p, st = .For tg it b [] p := by
  unfold pFor at h
  split at h
  · cases h
    exact ⟨_, rfl⟩
  · cases h
def isSkip : Stmt → Bool
  | .Pass _ => true
  | .Expr (.Constant (.str _) _ _) _ => true
  | _ => false
def isBrk : Stmt → Bool
  | .Break _ => true
  | _ => false
def isCnt : Stmt → Bool
  | .Continue _ => true
  | _ => false
def notTup : Expr → Bool
  | .Tuple .. => false
  | _ => true
/-- is a comprehension stored to this name by another order -/
def swC (sc cs : Scope) (y : Str) (py pos : Pos) : Bool := (ScopeKind.function == ScopeKind.function && sc.names.lookup y == some .local && py.line == pos.line && !(cs.names.any fun (n, k) => n == y && (k == .local || k == .cell)))
theorem sw_c {elt : Expr} {gs : List Comprehension} {cs : Scope} {pos py : Pos} {y : Str} {l : Nat} {env : PySem.Env} (hk : env.scope.kind = .function) : swapsWith (.ListComp elt gs cs pos) (some (.Name y py)) l env = pure (swC env.scope cs y py pos) := by
  have hb : env.blockKind = .function := by
    unfold PySem.Env.blockKind
    rw [hk]
    rfl
  unfold swapsWith
  simp only [hb]
  rfl
/-- a store of a value by name: neither a comprehension (on one line) nor a set -/
def lcStore (sc : Scope) (tg v : Expr) : Bool := match tg, v with
  | .Name y py, .ListComp _ _ cs pos => !(swC sc cs y py pos)
  | _, _ => false
def plainStore (sc : Scope) (tg v : Expr) : Bool := okE v && (notLC v || lcStore sc tg v)
theorem plainStore_ok {env : PySem.Env} {tg v : Expr} {l : Nat} (hk : env.scope.kind = .function) (h : plainStore env.scope tg v = true) : swapsWith v (some tg) l env = pure false := by
  unfold plainStore at h
  obtain ⟨h1, h2⟩ := and2 h
  rw [Bool.or_eq_true] at h2
  rcases h2 with h2 | h2
  · exact swap_ok h1 h2 _ _ _
  · unfold lcStore at h2
    split at h2
    · rw [Bool.not_eq_true'] at h2
      rw [sw_c hk, h2]
    · cases h2

section
variable (T : Tb)
def chkNm (sc : Scope) (i : Nat) (e : Expr) : Bool := match pName e with
  | some x => decide (T.N[i]? = some x) && visN sc x
  | none => false
def isLc : M → Bool
  | .lc .. => true
  | .lcIf .. => true
  | _ => false
def chkS : S → Scope → SAg → Bool
  | .skip, sc, g => (match g with
    | .blk [] => true
    | g => (match g.s with
      | some st => isSkip st
      | none => false))
  | .seq a b, sc, g => (match g with
    | .blk (s1 :: s2 :: r) => chkS a sc (.one s1) && chkS b sc (.blk (s2 :: r))
    | _ => false)
  | .asg i e, sc, g => (match g.s.bind pAssign with
    | some (tg, v) => nameOk T.N sc i tg && chk T e sc (.ex v) && (plainStore sc tg v || isLc e)
    | none => false)
  | .unp is e, sc, g => (match g.s.bind pAssign with
    | some (tg, v) => chkTg T.N sc (.names is) tg && chk T e sc (.ex v) && okE v && notLC v && notTup v
    | none => false)
  | .six i a e, sc, g => (match g.s.bind pAssign with
    | some (tg, v) => (match pSub tg with
      | some (o, x) => chkNm T sc i o && chk T a sc (.ex x) && okE x && chk T e sc (.ex v) && okE v && notLC v
      | none => false)
    | none => false)
  | .app i e, sc, g => (match (g.s.bind pExprS).bind pMeth with
    | some (o, m, x, []) => decide (m = "append") && chkNm T sc i o && chk T e sc (.ex x) && okE x
    | _ => false)
  | .exp e, sc, g => (match g.s.bind pExprS with
    | some x => chk T e sc (.ex x) && okE x && notLC x
    | none => false)
  | .ret e, sc, g => (match g.s.bind pRet with
    | some (some x) => chk T e sc (.ex x)
    | _ => false)
  | .retN, sc, g => (match g.s.bind pRet with
    | some none => true
    | _ => false)
  | .ite c a b, sc, g => (match g.s.bind pIfS with
    | some (x, p, q) => chk T c sc (.ex x) && chkS a sc (.blk p) && chkS b sc (.blk q)
    | none => false)
  | .whl c b, sc, g => (match g.s.bind pWhile with
    | some (x, p) => chk T c sc (.ex x) && chkS b sc (.blk p)
    | none => false)
  | .for_ t it b, sc, g => (match g.s.bind pFor with
    | some (tg, x, p) => chkTg T.N sc t tg && chk T it sc (.it x tg) && okE x && chkS b sc (.blk p)
    | none => false)
  | .brk, sc, g => (match g.s with
    | some st => isBrk st
    | none => false)
  | .cnt, sc, g => (match g.s with
    | some st => isCnt st
    | none => false)
  | .rai _ _, sc, g => g.s.isSome
end

/-! ### soundness -/
structure CnS (T : Tb) (Φ : Nat → Fn) (k : Nat) (X : Cx) : Prop extends Cn T Φ k X where
  kind : X.env.scope.kind = .function
  owns : PassesOwn (model X.prog X.w) X.A X.env X.xe
  fnA : ∀ x, X.fn x = true
def GoalS (Φ : Nat → Fn) (fu : Nat) (X : Cx) (s : S) : SAg → Prop
  | .one st => PS X st (tEx X.K (ex Φ fu s))
  | .blk sts => PSs X sts (tEx X.K (ex Φ fu s))
def SoundS (T : Tb) (Φ : Nat → Fn) (fu k : Nat) (s : S) : Prop := ∀ (X : Cx) (sc : Scope) (g : SAg), CnS T Φ k X → X.env.scope = sc → chkS T s sc g = true → GoalS Φ fu X s g
section
variable {T : Tb} {Φ : Nat → Fn} {fu k : Nat} {X : Cx} {s a b : S} {e c : M} {st : Stmt} {g : SAg} {sc : Scope}
theorem liftS (h : PS X st (tEx X.K (ex Φ fu s))) (hg : g.s = some st) : GoalS Φ fu X s g := by
  cases g with
  | one st' =>
    cases hg
    exact h
  | blk sts =>
    match sts, hg with
    | [st'], hg =>
      cases hg
      exact pss_one h
    | [], hg => cases hg
    | _ :: _ :: _, hg => cases hg
theorem of_bindS {α β : Type} {f : α → Option β} {o : Option α} {z : β} (h : o.bind f = some z) : ∃ e, o = some e ∧ f e = some z := by
  cases o with
  | none => cases h
  | some e => exact ⟨e, rfl, h⟩
theorem pe_x {x : Expr} (C : CnS T Φ k X) (hs : X.env.scope = sc) (h : chk T e sc (.ex x) = true) : PE X x (tEv' X.K (ev Φ e)) := ⟨fun pins s σ H Q I ⟨G0, H0, ρ, q⟩ => (sound (T := T) (k := k) e X sc (.ex x) C.toCn hs h G0 H0 ρ).1.run pins s σ H Q I q⟩
theorem pt_x {x : Expr} (C : CnS T Φ k X) (hs : X.env.scope = sc) (h : chk T c sc (.ex x) = true) : PT X x (tTst' X.K (tst Φ c)) := ⟨fun pins s σ H Q I ⟨G0, H0, ρ, q⟩ => (sound (T := T) (k := k) c X sc (.ex x) C.toCn hs h G0 H0 ρ).2.run pins s σ H Q I q⟩
theorem pe_o {x : Expr} (C : CnS T Φ k X) (hs : X.env.scope = sc) (h : chk T e sc (.ex x) = true) : PE X x (tEvO' X.K (evO Φ e)) := ⟨fun pins s σ H Q I ⟨G0, H0, ρ, q⟩ => (soundO (T := T) (k := k) e X sc x C.toCn hs h G0 H0 ρ).run pins s σ H Q I q⟩
theorem pi_x {x tg : Expr} (C : CnS T Φ k X) (hs : X.env.scope = sc) (h : chk T e sc (.it x tg) = true) : PI X tg x (tIv' X.K (ev Φ e)) := ⟨fun pins s σ H Q I ⟨G0, H0, ρ, q⟩ => (sound (T := T) (k := k) e X sc (.it x tg) C.toCn hs h G0 H0 ρ).run pins s σ H Q I q⟩
theorem tgOk_of (C : CnS T Φ k X) (hs : X.env.scope = sc) : TgOk X sc := fun x h => by
  refine ⟨?_, .inl (C.fnA x)⟩
  rw [hs]
  unfold tgN at h
  rw [Bool.or_eq_true] at h
  exact h.imp of_decide_eq_true of_decide_eq_true
theorem pe_nm {i : Nat} {x : Expr} (C : CnS T Φ k X) (hs : X.env.scope = sc) (h : chkNm T sc i x = true) : PE X x (tVar i) ∧ (pName x).isSome = true := by
  unfold chkNm at h
  cases hx : pName x with
  | none => rw [hx] at h; cases h
  | some y =>
    rw [hx] at h
    obtain ⟨h1, h2⟩ := and2 h
    obtain ⟨h2, h4⟩ := and2 h2
    obtain ⟨h2, h3⟩ := and2 h2
    obtain ⟨p, rfl⟩ := pName_ok hx
    have hv : Vis X.env.scope y := by
      rw [hs]
      rw [Bool.or_eq_true, Bool.or_eq_true] at h2
      rcases h2 with (h2 | h2) | h2
      · exact .inl (of_decide_eq_true h2)
      · exact .inr (.inl (of_decide_eq_true h2))
      · exact .inr (.inr (of_decide_eq_true h2))
    exact ⟨pe_var (i := i) (by rw [C.N]; exact of_decide_eq_true h1) hv (by simpa using h3) (by simpa using h4), rfl⟩

theorem sS_skip : SoundS T Φ fu k .skip := fun X sc g C hs h => by
  have one : ∀ {st}, g.s = some st → isSkip st = true → GoalS Φ fu X .skip g := fun {st} hg hk => by
    refine liftS ?_ hg
    have red : ∀ D σ H, tEx X.K (ex Φ fu .skip) D σ H → tNext D σ H := fun D σ H ⟨G0, H0, ρ, G, L, sr, q⟩ => q σ G H L sr
    unfold isSkip at hk
    split at hk
    · exact ps_imp ps_pass red
    · exact ps_imp ps_doc red
    · cases hk
  unfold chkS at h
  split at h
  · exact pss_imp pss_nil fun D σ H ⟨G0, H0, ρ, G, L, sr, q⟩ => q σ G H L sr
  · cases hg : g.s with
    | none => rw [hg] at h; cases h
    | some st =>
      rw [hg] at h
      exact one hg h
theorem sS_seq (A : SoundS T Φ fu k a) (B : SoundS T Φ fu k b) : SoundS T Φ fu k (.seq a b) := fun X sc g C hs h => by
  unfold chkS at h
  split at h
  · rename_i s1 s2 r
    obtain ⟨h1, h2⟩ := and2 h
    refine pss_imp (pss_cons (A X sc (.one s1) C hs h1) (B X sc (.blk (s2 :: r)) C hs h2)) fun D σ H q => ?_
    obtain ⟨G0, H0, ρ, G, L, sr, q⟩ := q
    refine ⟨G0, H0, ρ, G, L, sr, ?_⟩
    have q : EndOk X.K G0 H0 D ((ex Φ fu a ρ).then (ex Φ fu b)) := q
    cases e : ex Φ fu a ρ with
    | nx ρ' =>
      rw [e] at q
      exact fun σ' G' H' L' s' => ⟨G0, H0, ρ', G', L', s', q⟩
    | _ =>
      rw [e] at q
      exact q
  · cases h
theorem sS_brk : SoundS T Φ fu k .brk := fun X sc g C hs h => by
  unfold chkS at h
  cases hg : g.s with
  | none => rw [hg] at h; cases h
  | some st =>
    rw [hg] at h
    refine liftS ?_ hg
    have h : isBrk st = true := h
    unfold isBrk at h
    split at h
    · exact ps_imp ps_break fun D σ H ⟨G0, H0, ρ, G, L, sr, q⟩ => q σ G H L sr
    · cases h
theorem sS_cnt : SoundS T Φ fu k .cnt := fun X sc g C hs h => by
  unfold chkS at h
  cases hg : g.s with
  | none => rw [hg] at h; cases h
  | some st =>
    rw [hg] at h
    refine liftS ?_ hg
    have h : isCnt st = true := h
    unfold isCnt at h
    split at h
    · exact ps_imp ps_continue fun D σ H ⟨G0, H0, ρ, G, L, sr, q⟩ => q σ G H L sr
    · cases h
theorem sS_rai (n : Nat) : SoundS T Φ fu k (.rai n e) := fun X sc g C hs h => by
  unfold chkS at h
  obtain ⟨st, hg⟩ := Option.isSome_iff_exists.mp h
  refine liftS (ps_imp ps_never fun D σ H ⟨G0, H0, ρ, G, L, sr, q⟩ => ?_) hg
  obtain ⟨_, _, q⟩ := EndOk.out q
  exact q
theorem sS_exp : SoundS T Φ fu k (.exp e) := fun X sc g C hs h => by
  unfold chkS at h
  cases hp : g.s.bind pExprS with
  | none => rw [hp] at h; cases h
  | some x =>
    rw [hp] at h
    obtain ⟨h1, h3⟩ := and2 h
    obtain ⟨h1, h2⟩ := and2 h1
    obtain ⟨st, hg, he⟩ := of_bindS hp
    obtain ⟨p, rfl⟩ := pExprS_ok he
    refine liftS (ps_imp (ps_expr (pe_x C hs h1) (swap_ok h2 h3 _ _ _)) fun D σ H ⟨G0, H0, ρ, G, L, sr, q⟩ => ?_) hg
    obtain ⟨x, ex, q⟩ := EndOk.out q
    exact ⟨G0, H0, ρ, G, L, sr, x, ex, fun v H' G' s' g h r => q σ G' H' L s'⟩
theorem sS_retN : SoundS T Φ fu k .retN := fun X sc g C hs h => by
  unfold chkS at h
  split at h
  · rename_i hp
    obtain ⟨st, hg, he⟩ := of_bindS hp
    obtain ⟨p, rfl⟩ := pRet_ok he
    refine liftS (ps_imp ps_retN fun D σ H ⟨G0, H0, ρ, G, L, sr, q⟩ => ?_) hg
    exact q .non G H (fun _ => none) sr.g0 sr.h0 sr.gh sr.gnew (fun _ _ z => by cases z) .non
  · cases h
theorem sS_ite (A : SoundS T Φ fu k a) (B : SoundS T Φ fu k b) : SoundS T Φ fu k (.ite c a b) := fun X sc g C hs h => by
  unfold chkS at h
  cases hp : g.s.bind pIfS with
  | none => rw [hp] at h; cases h
  | some z =>
    obtain ⟨x, p, q⟩ := z
    rw [hp] at h
    obtain ⟨h1, h3⟩ := and2 h
    obtain ⟨h1, h2⟩ := and2 h1
    obtain ⟨st, hg, he⟩ := of_bindS hp
    obtain ⟨p, rfl⟩ := pIfS_ok he
    refine liftS (ps_imp (ps_if (pt_x C hs h1) (A X sc (.blk _) C hs h2) (B X sc (.blk _) C hs h3)) fun D σ H ⟨G0, H0, ρ, G, L, sr, q⟩ => ?_) hg
    obtain ⟨t, et, q⟩ := EndOk.out q
    refine ⟨G0, H0, ρ, G, L, sr, t, et, fun H' G' s' g h => ?_⟩
    cases t with
    | true => exact ⟨G0, H0, ρ, G', L, s', q⟩
    | false => exact ⟨G0, H0, ρ, G', L, s', q⟩
theorem sS_whl (B : SoundS T Φ fu k b) : SoundS T Φ fu k (.whl c b) := fun X sc g C hs h => by
  unfold chkS at h
  cases hp : g.s.bind pWhile with
  | none => rw [hp] at h; cases h
  | some z =>
    obtain ⟨x, p⟩ := z
    rw [hp] at h
    obtain ⟨h1, h2⟩ := and2 h
    obtain ⟨st, hg, he⟩ := of_bindS hp
    obtain ⟨p, rfl⟩ := pWhile_ok he
    refine liftS (ps_imp (ps_while C.owns (pt_x C hs h1) (B X sc (.blk _) C hs h2)) fun D σ H ⟨G0, H0, ρ, G, L, sr, q⟩ => ?_) hg
    refine ⟨fun m σ H => ∃ ρ G L, SR X.K G0 H0 ρ σ G H L ∧ EndOk X.K G0 H0 D (whlGo (tst Φ c) (ex Φ fu b) m ρ), ⟨fu, ρ, G, L, sr, q⟩, ?_⟩
    rintro m σ H ⟨ρ, G, L, sr, q⟩
    cases m with
    | zero => exact absurd q id
    | succ m =>
      unfold whlGo at q
      cases ec : tst Φ c ρ with
      | bad =>
        rw [ec] at q
        exact absurd q id
      | exc n fs =>
        rw [ec] at q
        exact absurd q id
      | ok t =>
        rw [ec] at q
        refine ⟨G0, H0, ρ, G, L, sr, t, ec, fun H' G' s' g h => ?_⟩
        cases t with
        | false => exact q σ G' H' L s'
        | true =>
          have q : EndOk X.K G0 H0 D (match ex Φ fu b ρ with
            | .nx ρ' => whlGo (tst Φ c) (ex Φ fu b) m ρ'
            | .ct ρ' => whlGo (tst Φ c) (ex Φ fu b) m ρ'
            | .bk ρ' => .nx ρ'
            | o => o) := q
          refine ⟨fun σ H => ∃ ρ G L, SR X.K G0 H0 ρ σ G H L ∧ EndOk X.K G0 H0 D (whlGo (tst Φ c) (ex Φ fu b) m ρ), fun σ' H' z => ⟨m, Nat.lt_succ_self m, z⟩, G0, H0, ρ, G', L, s', ?_⟩
          cases eb : ex Φ fu b ρ with
          | nx ρ' =>
            rw [eb] at q
            exact fun σ G H L s => ⟨ρ', G, L, s, q⟩
          | ct ρ' =>
            rw [eb] at q
            exact fun σ G H L s => ⟨ρ', G, L, s, q⟩
          | bk ρ' =>
            rw [eb] at q
            exact q
          | _ =>
            rw [eb] at q
            exact q
end
end Mp

set_option Elab.async false
set_option linter.all false
set_option maxRecDepth 100000
set_option maxHeartbeats 4000000
/-! Mp14: stores, loops; every statement is sound. -/
namespace Mp
open PySem PySem.Spec PyProof.Rows L2
section
variable {T : Tb} {Φ : Nat → Fn} {fu k : Nat} {X : Cx} {s a b : S} {e c m : M} {st : Stmt} {g : SAg} {sc : Scope}

theorem nameOk_ok {N : List Str} {i : Nat} {tg : Expr} (h : nameOk N sc i tg = true) : ∃ x p, tg = .Name x p ∧ N[i]? = some x ∧ tgN sc x = true := by
  unfold nameOk at h
  cases q : pName tg with
  | none => rw [q] at h; cases h
  | some x =>
    rw [q] at h
    obtain ⟨h1, h2⟩ := and2 h
    obtain ⟨p, e1⟩ := pName_ok q
    exact ⟨x, p, e1, of_decide_eq_true h1, h2⟩
/-- the end of i = a new list -/
theorem asg_f {K : PySem.W.Frag} {G0 H0 G H : Hp} {ρ : Env} {σ : L2.St} {L : Lb} {i : Nat} {es : List D} {u : List Nat} {En : Ends} (q : EndOk K G0 H0 En (.nx ((ρ.frz (V3.new (.lst es) u).s).set i (some (.lst es, 1))))) :
    GoF K G0 H0 ρ σ G H L es u (fun x H1 => gName i x σ H1 En.nx) :=
  GoO.f fun v H' G' L' s' _ _ lb o => q _ _ _ _ (s'.asg i lb o)
theorem sS_asg (i : Nat) : SoundS T Φ fu k (.asg i e) := fun X sc g C hs h => by
  unfold chkS at h
  cases hp : g.s.bind pAssign with
  | none => rw [hp] at h; cases h
  | some z =>
    obtain ⟨tg, v⟩ := z
    rw [hp] at h
    obtain ⟨h1, h3⟩ := and2 h
    obtain ⟨h1, h2⟩ := and2 h1
    obtain ⟨st, hg, he⟩ := of_bindS hp
    obtain ⟨p, rfl⟩ := pAssign_ok he
    obtain ⟨x, px, rfl, hN, ht⟩ := nameOk_ok h1
    have hx : Loc X.env.scope x := (tgOk_of C hs x ht).1
    have hN' : X.N[i]? = some x := by
      rw [C.N]
      exact hN
    have fin : ∀ (hsw : swapsWith v (some (.Name x px)) p.line X.env = pure false), GoalS Φ fu X (.asg i e) g := fun hsw => by
      refine liftS (ps_imp (ps_set C.nd hN' hx (pe_o C hs h2) hsw (.inl (C.fnA x))) fun D σ H ⟨G0, H0, ρ, G, L, sr, q⟩ => ?_) hg
      obtain ⟨x, ex, q⟩ := EndOk.out q
      exact ⟨G0, H0, ρ, G, L, sr, x, ex, fun v H' G' L' s' g h lb o => q _ _ _ _ (s'.asg i lb o)⟩
    cases h4 : plainStore sc (.Name x px) v with
    | true => exact fin (plainStore_ok C.kind (by rw [hs]; exact h4))
    | false =>
      rw [h4] at h3
      have h3 : isLc e = true := h3
      cases e with
      | lc a t own b =>
        obtain ⟨elt, tg, iter, cs, pos, hv, ht2, P⟩ := lcP (sound (k := k) a) (sound b) C.toCn hs h2
        cases hv
        cases h5 : swC sc cs x px pos with
        | false => exact fin (by rw [sw_c C.kind, hs, h5])
        | true =>
          have hxl : X.env.scope.names.lookup x = some .local := by
            rw [hs]
            unfold swC at h5
            obtain ⟨h5, _⟩ := and2 h5
            obtain ⟨h5, _⟩ := and2 h5
            obtain ⟨_, h5⟩ := and2 h5
            exact beq_iff_eq.mp h5
          refine liftS (ps_imp (t := tAsg (fun σ H Q => ∃ G0 H0 ρ, tLc (tIv X.K G0 H0 ρ (ev Φ b ρ)) (gTg X.K t) (tTstX X.K G0 H0 fun _ => .ok true) (tEvX X.K G0 H0 (ev Φ a)) ((ownN T.N own).map (·.2)) σ H Q) (gName i)) ⟨fun pins s σ H D I ⟨G0, H0, ρ, w⟩ => ?_⟩ fun D σ H ⟨G0, H0, ρ, G, L, sr, q⟩ => ?_) hg
          · obtain ⟨p1, p2, p3, p4, p5, p6⟩ := P G0 H0 ρ
            exact (ps_setLc C.calm C.nd hN' hxl (by rw [sw_c C.kind, hs, h5]) p1 p2 p3 p4 p5 p6).run pins s σ H D I w
          · obtain ⟨y, ey, q⟩ := EndOk.out q
            obtain ⟨z, ez, ey⟩ := R.of_bind ey
            have ey := R.ok.inj ey
            subst ey
            exact ⟨G0, H0, ρ, lc_read T.N ht2 sr ez fun es u e => by
              subst e
              exact asg_f q⟩
      | lcIf a t own b c =>
        obtain ⟨elt, tg, iter, cd, cs, pos, hv, ht2, P⟩ := lcIfP (sound (k := k) a) (sound b) (sound c) C.toCn hs h2
        cases hv
        cases h5 : swC sc cs x px pos with
        | false => exact fin (by rw [sw_c C.kind, hs, h5])
        | true =>
          have hxl : X.env.scope.names.lookup x = some .local := by
            rw [hs]
            unfold swC at h5
            obtain ⟨h5, _⟩ := and2 h5
            obtain ⟨h5, _⟩ := and2 h5
            obtain ⟨_, h5⟩ := and2 h5
            exact beq_iff_eq.mp h5
          refine liftS (ps_imp (t := tAsg (fun σ H Q => ∃ G0 H0 ρ, tLc (tIv X.K G0 H0 ρ (ev Φ b ρ)) (gTg X.K t) (tTstX X.K G0 H0 (tst Φ c)) (tEvX X.K G0 H0 (ev Φ a)) ((ownN T.N own).map (·.2)) σ H Q) (gName i)) ⟨fun pins s σ H D I ⟨G0, H0, ρ, w⟩ => ?_⟩ fun D σ H ⟨G0, H0, ρ, G, L, sr, q⟩ => ?_) hg
          · obtain ⟨p1, p2, p3, p4, p5, p6⟩ := P G0 H0 ρ
            exact (ps_setLc C.calm C.nd hN' hxl (by rw [sw_c C.kind, hs, h5]) p1 p2 p3 p4 p5 p6).run pins s σ H D I w
          · obtain ⟨y, ey, q⟩ := EndOk.out q
            obtain ⟨z, ez, ey⟩ := R.of_bind ey
            have ey := R.ok.inj ey
            subst ey
            exact ⟨G0, H0, ρ, lcIf_read T.N ht2 sr ez fun es u e => by
              subst e
              exact asg_f q⟩
      | _ => cases h3
theorem sS_unp (is : List Nat) : SoundS T Φ fu k (.unp is e) := fun X sc g C hs h => by
  unfold chkS at h
  cases hp : g.s.bind pAssign with
  | none => rw [hp] at h; cases h
  | some z =>
    obtain ⟨tg, v⟩ := z
    rw [hp] at h
    obtain ⟨h1, h5⟩ := and2 h
    obtain ⟨h1, h4⟩ := and2 h1
    obtain ⟨h1, h3⟩ := and2 h1
    obtain ⟨h1, h2⟩ := and2 h1
    obtain ⟨st, hg, he⟩ := of_bindS hp
    obtain ⟨p, rfl⟩ := pAssign_ok he
    have gt := pg_tg (X := X) C.calm C.nd (tgOk_of C hs) (by rw [C.N]; exact h1)
    have h1' : (match pTuple tg with | some es => chkNames T.N sc is es | none => false) = true := h1
    cases q : pTuple tg with
    | none => rw [q] at h1'; cases h1'
    | some es =>
      obtain ⟨kk, pp, rfl⟩ := pTuple_ok q
      refine liftS (ps_imp (ps_asg (pe_x C hs h2) gt (by unfold swapsWithSole; exact swap_ok h3 h4 _ _ _) (by cases v <;> first | rfl | cases h5) rfl) fun D σ H ⟨G0, H0, ρ, G, L, sr, q⟩ => ?_) hg
      obtain ⟨ρ1, eρ, q⟩ := EndOk.out q
      obtain ⟨x, ex, eρ⟩ := R.of_bind eρ
      obtain ⟨ds, ei, eρ⟩ := R.of_bind eρ
      have eρ' := orBad_ok eρ
      refine ⟨G0, H0, ρ, G, L, sr, x, ex, fun v H' G' s' g h r => ?_⟩
      refine gTg_of (t := .names is) (ρ1 := ρ1) (s'.lend x.s) (RepW.s r) ?_ fun σ1 s1 _ => q _ _ _ _ s1
      obtain ⟨xd, xs, xt⟩ := x
      cases xd with
      | lst ys =>
        have ei := R.ok.inj ei
        subst ei
        exact eρ
      | tup ys =>
        have ei := R.ok.inj ei
        subst ei
        exact eρ
      | _ => cases ei
theorem sub_ok {x : Expr} (h : okE x = true) (o : Expr) (p : Pos) (env : PySem.Env) (v : Value) : assign (.Subscript o x p) env v = (do
      let ov ← holding [v] (eval o env)
      let iv ← holding [v, ov] (eval x env)
      standAt p
      holding [v, ov, iv] (setItem ov iv v)
      release [v, ov, iv] []) := by
  cases x <;> first | rfl | cases h
theorem own_ok {ρ : Env} {i : Nat} {xs : List D} (h : ρ.own i = .ok xs) : ρ[i]? = some (some (.lst xs, 1)) := by
  unfold Env.own at h
  split at h
  · rename_i q
    rw [q, R.ok.inj h]
  · cases h
theorem frz_own {S : List Nat} {ρ : Env} {i : Nat} {xs : List D} (h : (ρ.frz S)[i]? = some (some (.lst xs, 1))) : ρ[i]? = some (some (.lst xs, 1)) := by
  rw [frz_get] at h
  by_cases hi : i ∈ S
  · rw [if_pos hi] at h
    cases q : ρ[i]? with
    | none => rw [q] at h; cases h
    | some o =>
      rw [q] at h
      cases o with
      | none => cases h
      | some dk =>
        obtain ⟨d, n⟩ := dk
        have e2 : d = .lst xs ∧ 0 = 1 := by simpa [frz1] using h
        cases e2.2
  · rw [if_neg hi] at h
    exact h
theorem sS_six (i : Nat) : SoundS T Φ fu k (.six i m e) := fun X sc g C hs h => by
  unfold chkS at h
  cases hp : g.s.bind pAssign with
  | none => rw [hp] at h; cases h
  | some z =>
    obtain ⟨tg, v⟩ := z
    rw [hp] at h
    have h : (match pSub tg with
      | some (o, x) => chkNm T sc i o && chk T m sc (.ex x) && okE x && chk T e sc (.ex v) && okE v && notLC v
      | none => false) = true := h
    cases hq : pSub tg with
    | none => rw [hq] at h; cases h
    | some z =>
      obtain ⟨o, x⟩ := z
      rw [hq] at h
      obtain ⟨h1, h6⟩ := and2 h
      obtain ⟨h1, h5⟩ := and2 h1
      obtain ⟨h1, h4⟩ := and2 h1
      obtain ⟨h1, h3⟩ := and2 h1
      obtain ⟨h1, h2⟩ := and2 h1
      obtain ⟨st, hg, he⟩ := of_bindS hp
      obtain ⟨p, rfl⟩ := pAssign_ok he
      obtain ⟨pp, rfl⟩ := pSub_ok hq
      refine liftS (ps_imp (ps_asg (pe_x C hs h4) (pg_sub (pe_nm C hs h1).1 (pe_x C hs h2) set_list (sub_ok h3 o pp X.env)) (by unfold swapsWithSole; exact swap_ok h5 h6 _ _ _) rfl rfl) fun D σ H ⟨G0, H0, ρ, G, L, sr, q⟩ => ?_) hg
      obtain ⟨ρ2, eρ, q⟩ := EndOk.out q
      obtain ⟨x, ex, eρ⟩ := R.of_bind eρ
      obtain ⟨xs, eo, eρ⟩ := R.of_bind eρ
      obtain ⟨y, ey, eρ⟩ := R.of_bind eρ
      obtain ⟨j, ej, eρ⟩ := R.of_bind eρ
      obtain ⟨n, en, eρ⟩ := R.of_bind eρ
      have eρ := R.ok.inj eρ
      subst eρ
      have en := orBad_ok en
      refine ⟨G0, H0, ρ, G, L, sr, x, ex, fun v1 H1 G1 s1 g1 h1 r1 => ?_⟩
      have s2 := s1.lend x.s
      have r2 := RepW.s r1
      obtain ⟨l, zs, ev, eh, ra, up⟩ := s2.ownL (own_ok eo)
      refine ⟨.ref l, ev, G0, H0, ρ.frz x.s, _, _, s2, y, ey, fun v2 H2 G2 s3 g2 h2 r3 => ?_⟩
      obtain ⟨l', zs', ev', eh', ra', up'⟩ := s3.ownL (own_ok eo)
      rw [ev] at ev'
      cases ev'
      have r4 := RepW.s r3
      rw [intOf_ok ej] at r4
      rw [Rep.intE r4]
      refine ⟨l, zs', j, n, rfl, rfl, eh', by rw [ra'.length]; exact en, ?_⟩
      exact q _ _ _ _ (up' _ _ (RepAll.set (Rep.mono g2 r2) n ra'))
theorem sS_app (i : Nat) : SoundS T Φ fu k (.app i e) := fun X sc g C hs h => by
  unfold chkS at h
  split at h
  · rename_i o mm x hp
    obtain ⟨h1, h4⟩ := and2 h
    obtain ⟨h1, h3⟩ := and2 h1
    obtain ⟨h1, h2⟩ := and2 h1
    have e1 := of_decide_eq_true h1
    subst e1
    obtain ⟨ee, hp1, hp2⟩ := of_bindS hp
    obtain ⟨st, hg, he⟩ := of_bindS hp1
    obtain ⟨p, rfl⟩ := pExprS_ok he
    obtain ⟨ap, cp, rfl, hl⟩ := pMeth_ok hp2
    obtain ⟨hv, hn⟩ := pe_nm C hs h2
    refine liftS (ps_imp (ps_expr (pe_bm PySem.F.plainAttrs_list PySem.F.slot_list_append PySem.F.type_list_append mt_append hv (pa_cons (pe_x C hs h3) pa_nil (star_ok h4 [] X.env)) (attr_ok (by rw [hn]; rfl)) (by rw [star_ok h4]; rfl) hl (star_ok h4 [] X.env) rfl) rfl) fun D σ H ⟨G0, H0, ρ, G, L, sr, q⟩ => ?_) hg
    obtain ⟨ρ2, eρ, q⟩ := EndOk.out q
    obtain ⟨x, ex, eρ⟩ := R.of_bind eρ
    obtain ⟨xs, eo, eρ⟩ := R.of_bind eρ
    obtain ⟨hz, eρ⟩ := R.of_chk eρ
    have eρ := R.ok.inj eρ
    subst eρ
    have eo := own_ok eo
    obtain ⟨l, zs, ev, eh, ra, up⟩ := sr.ownL (frz_own eo)
    refine ⟨.ref l, ev, .inl ⟨rfl, zs, .inl (.inl eh)⟩, G0, H0, ρ, G, L, sr, x, ex, fun v1 H1 G1 s1 g1 h1 r1 => ?_⟩
    have s2 := s1.lend x.s
    obtain ⟨l', zs', ev', eh', ra', up'⟩ := s2.ownL eo
    rw [ev] at ev'
    cases ev'
    refine ⟨l, zs', v1, rfl, rfl, eh', ?_, q _ _ _ _ (up' _ _ (ra'.append (.cons (RepW.s r1) .nil)))⟩
    rw [ra'.length, ← szl_eq]
    exact hz
  · cases h
theorem sS_ret : SoundS T Φ fu k (.ret e) := fun X sc g C hs h => by
  unfold chkS at h
  split at h
  · rename_i x hp
    obtain ⟨st, hg, he⟩ := of_bindS hp
    obtain ⟨p, rfl⟩ := pRet_ok he
    have gen : (∀ ρ, ex Φ fu (.ret e) ρ = (evO Φ e ρ).out fun x => .rt x.1.d x.2) → GoalS Φ fu X (.ret e) g := fun hr => by
      refine liftS (ps_imp (ps_ret (pe_o C hs h)) fun D σ H ⟨G0, H0, ρ, G, L, sr, q⟩ => ?_) hg
      rw [hr] at q
      obtain ⟨x, ex, q⟩ := EndOk.out q
      refine ⟨G0, H0, ρ, G, L, sr, x, ex, fun v H' G' L' s' g h lb o => ?_⟩
      have s2 := s'.lend x.1.s
      exact q v _ H' L' s2.g0 s2.h0 s2.gh s2.gnew (fun a p e => by
        obtain ⟨q1, q2, q3, q4, q5⟩ := lb a p e
        exact ⟨by rw [wld_none q1]; exact q2, q3, q4, q5⟩) o
    cases e with
    | var i =>
      have hc : chkNm T sc i x = true := by
        unfold chk at h
        exact h
      refine liftS (ps_imp (ps_ret (pe_nm C hs hc).1) fun D σ H ⟨G0, H0, ρ, G, L, sr, q⟩ => ?_) hg
      have q : EndOk X.K G0 H0 D (match ρ[i]? with
        | some (some (d, k)) => .rt d k
        | _ => .bad) := q
      split at q
      · rename_i d n e1
        exact sr.hand e1 q
      · exact absurd q id
    | _ => exact gen fun _ => rfl
  · cases h
theorem sS_for (t : Tg) (B : SoundS T Φ fu k b) : SoundS T Φ fu k (.for_ t m b) := fun X sc g C hs h => by
  unfold chkS at h
  cases hp : g.s.bind pFor with
  | none => rw [hp] at h; cases h
  | some z =>
    obtain ⟨tg, it, p⟩ := z
    rw [hp] at h
    obtain ⟨h1, h4⟩ := and2 h
    obtain ⟨h1, h3⟩ := and2 h1
    obtain ⟨h1, h2⟩ := and2 h1
    obtain ⟨st, hg, he⟩ := of_bindS hp
    obtain ⟨p, rfl⟩ := pFor_ok he
    refine liftS (ps_imp (ps_for C.owns C.calm (pi_x C hs h2) (pg_tg (X := X) C.calm C.nd (tgOk_of C hs) (by rw [C.N]; exact h1)) (B X sc (.blk _) C hs h4) (fold_ok h3 X.env)) fun D σ H ⟨G0, H0, ρ, G, L, sr, q⟩ => ?_) hg
    obtain ⟨z, ez, q⟩ := EndOk.out q
    obtain ⟨x, ex1, ez⟩ := R.of_bind ez
    obtain ⟨ds, ei, ez⟩ := R.of_bind ez
    have ez := R.ok.inj ez
    subst ez
    refine ⟨G0, H0, ρ, G, L, sr, x, ds, ex1, ei, fun J Sd H1 G1 sr1 g1 h1 hSd wk => ?_⟩
    have srL := sr1.lend (x.s ++ x.t)
    have hSdB : Sd (wld G1 H1 L (x.s ++ x.t)) := wk.mono _ _ (sr1.wldSub mem_l) hSd
    have hT : Same (wld G1 H1 L x.t) (wld G1 H1 L (x.s ++ x.t)) := sr1.wldSub mem_r
    generalize wld G1 H1 L (x.s ++ x.t) = Gb at srL hSdB hT
    refine ⟨fun i m σ H => ∃ ρ' G' L', m = ds.length - i ∧ i ≤ ds.length ∧ SR X.K Gb H0 ρ' σ G' H L' ∧ EndOk X.K G0 H0 D (forGo t (ex Φ fu b) (ds.drop i) ρ'), ⟨ds.length, _, _, _, by simp, Nat.zero_le _, srL.rebase, by simpa using q⟩, ?_⟩
    rintro i m σ H ⟨ρ', G', L', rfl, hi, s', q⟩
    by_cases hlt : i < ds.length
    · refine .inr ⟨wk.go i H (wk.mono _ _ (s'.g0.trans s'.gh) hSdB) hlt, fun σ H => ∃ ρ' G' L', SR X.K Gb H0 ρ' σ G' H L' ∧ EndOk X.K G0 H0 D (forGo t (ex Φ fu b) (ds.drop (i + 1)) ρ'), fun σ' H' ⟨ρ', G', L', s, q⟩ => ⟨ds.length - (i + 1), by omega, ρ', G', L', rfl, hlt, s, q⟩, fun v H' y => ?_⟩
      obtain ⟨d, ed, yl⟩ := wk.yl i H v H' (wk.mono _ _ (s'.g0.trans s'.gh) hSdB) hlt y
      have edrop : ds.drop i = d :: ds.drop (i + 1) := by
        rw [← List.getElem_cons_drop hlt]
        congr 1
        exact Option.some.inj ((List.getElem?_eq_getElem hlt).symm.trans ed)
      rw [edrop] at q
      unfold forGo at q
      have step : ∃ G2, SR X.K Gb H0 ρ' σ G2 H' L' ∧ Rep X.K G2 v d := by
        cases yl with
        | same e r =>
          subst e
          exact ⟨G', s', Rep.mono (hT.trans s'.g0) r⟩
        | @new T' xs es' hT' e ex ed r =>
          subst e ex ed
          exact ⟨_, s'.new hT', .tup (SqT.of upd_same) (RepAll.mono (hT.trans (s'.g0.trans (same_new (s'.gh.free hT')))) r)⟩
      obtain ⟨G2, s2, r2⟩ := step
      cases eρ : t.set d ρ' with
      | bad =>
        rw [eρ] at q
        exact absurd q id
      | exc n fs =>
        rw [eρ] at q
        exact absurd q id
      | ok ρ1 =>
        rw [eρ] at q
        refine gTg_of s2 r2 eρ fun σ1 s3 _ => ⟨Gb, H0, ρ1, G2, L', s3, ?_⟩
        have q : EndOk X.K G0 H0 D (match ex Φ fu b ρ1 with
          | .nx ρ' => forGo t (ex Φ fu b) (ds.drop (i + 1)) ρ'
          | .ct ρ' => forGo t (ex Φ fu b) (ds.drop (i + 1)) ρ'
          | .bk ρ' => .nx ρ'
          | o => o) := q
        have bg : Same G0 Gb := srL.g0
        have bn := srL.gnew
        cases eb : ex Φ fu b ρ1 with
        | nx ρ' =>
          rw [eb] at q
          exact fun σ G H L s => ⟨ρ', G, L, s, q⟩
        | ct ρ' =>
          rw [eb] at q
          exact fun σ G H L s => ⟨ρ', G, L, s, q⟩
        | bk ρ' =>
          rw [eb] at q
          exact fun σ G H L s => q σ G H L (s.unbase bg bn)
        | rt d k =>
          rw [eb] at q
          exact EndOk.base (D := { D with nx := _, ct := _, bk := _ }) bg bn q
        | bad =>
          rw [eb] at q
          exact q
        | ex _ _ =>
          rw [eb] at q
          exact q
    · have e : i = ds.length := by omega
      subst e
      rw [List.drop_length] at q
      exact .inl ⟨wk.stop _ H (wk.mono _ _ (s'.g0.trans s'.gh) hSdB) (Nat.le_refl _), q σ G' H L' (s'.unbase srL.g0 srL.gnew)⟩
theorem soundS : ∀ s : S, SoundS T Φ fu k s
  | .skip => sS_skip
  | .seq a b => sS_seq (soundS a) (soundS b)
  | .asg i e => sS_asg i
  | .unp is e => sS_unp is
  | .six i a e => sS_six i
  | .app i e => sS_app i
  | .exp e => sS_exp
  | .ret e => sS_ret
  | .retN => sS_retN
  | .ite c a b => sS_ite (soundS a) (soundS b)
  | .whl c b => sS_whl (soundS b)
  | .for_ t it b => sS_for t (soundS b)
  | .brk => sS_brk
  | .cnt => sS_cnt
  | .rai c es => sS_rai c
end
end Mp

set_option Elab.async false
set_option linter.all false
set_option maxRecDepth 100000
set_option maxHeartbeats 4000000
/-! Mp15: defs: what the small language says of a def, the def does. -/
namespace Mp
open PySem PySem.Spec PyProof.Rows L2

/-- a def: its name, its statement, its slots, its parameters, its body in the small language -/
structure Fd where
  name : Str
  st : Stmt
  N : List Str
  ps : List Str
  b : S
def scOk (N ps : List Str) (sc : Scope) : Bool := decide (sc.kind = .function) && !sc.isCoroutine && !sc.isGenerator && decide N.Nodup && decide (N.take ps.length = ps) &&
  ps.all (fun x => decide (sc.names.lookup x = some .local ∨ sc.names.lookup x = some .cell)) && sc.names.all (fun y => decide (y.2 ≠ .free))
theorem scOk_ok {N ps : List Str} {sc : Scope} (h : scOk N ps sc = true) : FnScope N ps sc := by
  obtain ⟨h, h7⟩ := and2 h
  obtain ⟨h, h6⟩ := and2 h
  obtain ⟨h, h5⟩ := and2 h
  obtain ⟨h, h4⟩ := and2 h
  obtain ⟨h, h3⟩ := and2 h
  obtain ⟨h1, h2⟩ := and2 h
  exact ⟨of_decide_eq_true h1, by simpa using h2, by simpa using h3, of_decide_eq_true h4, of_decide_eq_true h5, fun x hx => of_decide_eq_true (List.all_eq_true.mp h6 x hx), fun y hy => of_decide_eq_true (List.all_eq_true.mp h7 y hy)⟩
def Fd.ok (fn : List Str) (con : List (Str × Int)) (d : Fd) : Bool := scOk d.N d.ps (defScope d.st) && chkS ⟨d.N, fn, con⟩ d.b (defScope d.st) (.blk (defBody d.st))
def Fd.bd (d : Fd) : Prop := ∀ (kV doc pm : Value) (an : Option Addr) (cdv ct : Value) (us : List Value), us.length = d.ps.length →
  bindArgs (PySem.W.fnOf d.name d.name (defArgs d.st) (defBody d.st) (defScope d.st) .none kV doc pm an cdv ct) ⟨us, []⟩ = pure (d.ps.zip us)
abbrev Fd.fun (K : PySem.W.Frag) (d : Fd) (f : Addr) (fd : FuncData) : Prop := FunD K d.name d.name (defArgs d.st) (defBody d.st) (defScope d.st) [] [] f fd
def phi (fu : Nat) (tab : List Fd) : Nat → Nat → Fn
  | 0, _, _ => .bad
  | k + 1, j, ds => match tab[j]? with
    | some d => run (phi fu tab k) fu d.ps.length d.N.length d.b ds
    | none => .bad
theorem phi_pphi (fu : Nat) (tab : List Fd) : ∀ k, phi fu tab k = pphi fu (tab.map fun d => (d.ps.length, d.N.length, d.b)) k
  | 0 => rfl
  | k + 1 => by
    funext j ds
    show (match tab[j]? with | some d => run (phi fu tab k) fu d.ps.length d.N.length d.b ds | none => .bad) = (match (tab.map fun d => (d.ps.length, d.N.length, d.b))[j]? with | some d => run (pphi fu _ k) fu d.1 d.2.1 d.2.2 ds | none => .bad)
    rw [phi_pphi fu tab k, List.getElem?_map]
    cases tab[j]? <;> rfl
theorem FnOk.never {P : Program} {w : World} {K : PySem.W.Frag} {mg : Str → Option Value} {base : Heap} {k : Nat} {f : Addr} {fd : FuncData} {ps : List Str} {sp : Sp} (h : ∀ vs H Q E, ¬ sp vs H Q E) : FnOk P w K mg base CX0 k f fd ps sp :=
  ⟨fun vs H Q E q => absurd q (h vs H Q E), fun _ _ _ _ _ _ _ _ _ _ _ _ _ q => absurd q (h _ _ _ _)⟩
theorem RepAll.args {K : PySem.W.Frag} {G : Hp} {vs : List V} {ds : List D} (r : RepAll K G vs ds) (n : Nat) {i : Nat} {d : D} {k : Nat} (e : (ds.map sv ++ List.replicate n none)[i]? = some (some (d, k))) (m : Nat) :
    k = 0 ∧ ∃ v, (vs.map some ++ List.replicate m none)[i]? = some (some v) ∧ Rep K G v d := by
  by_cases h : i < ds.length
  · rw [List.getElem?_append_left (by rw [List.length_map]; exact h), List.getElem?_map, List.getElem?_eq_getElem h] at e
    have e2 : (ds[i], 0) = (d, k) := Option.some.inj (Option.some.inj e)
    obtain ⟨v, e3, r2⟩ := r.get (List.getElem?_eq_getElem h)
    cases e2
    refine ⟨rfl, v, ?_, r2⟩
    rw [List.getElem?_append_left (by rw [List.length_map, r.length]; exact h), List.getElem?_map, e3]
    rfl
  · rw [List.getElem?_append_right (by rw [List.length_map]; omega), List.getElem?_replicate] at e
    split at e <;> cases e
section
variable {P : Program} {w : World} {K : PySem.W.Frag} {mg : Str → Option Value} {base : Heap} {tab : List Fd} {con : List (Str × Int)} {fu : Nat}
theorem all_ok (Hf : ∀ d ∈ tab, ∃ f fd, mg d.name = some (.ref f) ∧ d.fun K f fd) (Hb : ∀ d ∈ tab, d.bd) (Hc : tab.all (Fd.ok (tab.map Fd.name) con) = true) (Hblt : ∀ x ∈ bltAll, mg x = none) (Hcon : ∀ x i, con.lookup x = some i → ∃ t, mg x = some (.int i t)) :
    ∀ k j d, tab[j]? = some d → ∀ f fd, mg d.name = some (.ref f) → d.fun K f fd → FnOk P w K mg base CX0 k f fd d.ps (spF K d.ps.length (phi fu tab k j)) := by
  intro k
  induction k with
  | zero =>
    intro j d hj f fd _ _
    exact FnOk.never fun vs H Q E ⟨_, _, _, _, _, _, h, _⟩ => by cases h
  | succ k ih =>
    intro j d hj f fd hmg F
    have hd : d ∈ tab := List.mem_of_getElem? hj
    obtain ⟨c1, c2⟩ := and2 (List.all_eq_true.mp Hc d hd)
    have S := scOk_ok c1
    have ephi : phi fu tab (k + 1) j = fun ds => run (phi fu tab k) fu d.ps.length d.N.length d.b ds := by
      funext ds
      show (match tab[j]? with | some d => run (phi fu tab k) fu d.ps.length d.N.length d.b ds | none => .bad) = _
      rw [hj]
    refine F.ok S (fun vs H Q E ⟨_, _, _, h, _⟩ => h) (fun cdv A outer s H vs Q E hr h => ?_)
    have C : CnS ⟨d.N, tab.map Fd.name, con⟩ (phi fu tab k) k (cxOf CX0 P w K mg base d.N d.name (defScope d.st) f cdv A outer s H E).nox := by
      refine ⟨⟨rfl, rfl, S.nd, hr, Hblt, Hcon, fun i x e => ?_⟩, S.kind, PassesOwn.never, fun _ => rfl⟩
      have e : (tab.map Fd.name)[i]? = some x := e
      rw [List.getElem?_map] at e
      cases q : tab[i]? with
      | none => rw [q] at e; cases e
      | some d' =>
        rw [q] at e
        cases e
        have hm := List.mem_of_getElem? q
        obtain ⟨f', fd', g1, g2⟩ := Hf d' hm
        refine ⟨f', fd', d'.ps, g1, g2.kp, FunD.bindsN g2 (Hb d' hm), ih i d' q f' fd' g1 g2, fun ds r e => ?_⟩
        cases k with
        | zero => cases e
        | succ k =>
          have e : (match tab[i]? with | some d => run (phi fu tab k) fu d.ps.length d.N.length d.b ds | none => .bad) = .ok r := e
          rw [q] at e
          have e : (if ds.length = d'.ps.length then _ else R.bad) = .ok r := e
          by_cases hl : ds.length = d'.ps.length
          · exact hl
          · rw [if_neg hl] at e
            cases e
    have B := soundS (T := ⟨d.N, tab.map Fd.name, con⟩) (Φ := phi fu tab k) (fu := fu) (k := k) d.b _ (defScope d.st) (.blk (defBody d.st)) C rfl c2
    refine ⟨tEx K (ex (phi fu tab k) fu d.b), PSs.nox B, ?_⟩
    obtain ⟨G, ds, r, hl, hs, ra, er, kQ⟩ := h
    rw [ephi] at er
    have er : (if ds.length = d.ps.length then (match ex (phi fu tab k) fu d.b (ds.map sv ++ List.replicate (d.N.length - ds.length) none) with
      | .rt d k => R.ok (d, k)
      | .nx _ => .ok (.non, 0)
      | .ex c fs => .exc c fs
      | _ => .bad) else .bad) = .ok r := er
    have hld : ds.length = d.ps.length := by rw [← ra.length, hl]
    rw [if_pos hld] at er
    have s0 : SR K G H (ds.map sv ++ List.replicate (d.N.length - ds.length) none) (L2.start d.N vs) G H (fun _ => none) := by
      refine ⟨hs, Same.refl G, Same.refl H, fun a o e => .inl e, fun a p e => (by cases e), ?_, fun i d' n e => ?_⟩
      · unfold L2.start
        rw [List.length_append, List.length_append, List.length_map, List.length_map, List.length_replicate, List.length_replicate, ra.length]
      · obtain ⟨rfl, v, e1, e2⟩ := ra.args _ e (d.N.length - vs.length)
        exact ⟨v, e1, e2⟩
    refine ⟨G, H, _, G, _, s0, ?_⟩
    cases eo : ex (phi fu tab k) fu d.b (ds.map sv ++ List.replicate (d.N.length - ds.length) none) with
    | rt d' n =>
      rw [eo] at er
      have er := R.ok.inj er
      subst er
      exact fun v G' H' L' g h gh gn lb o => kQ v H' G' L' h g gh gn lb o
    | nx ρ' =>
      rw [eo] at er
      have er := R.ok.inj er
      subst er
      exact fun σ' G' H' L' s' => kQ .non H' G' (fun _ => none) s'.h0 s'.g0 s'.gh s'.gnew (fun _ _ z => by cases z) .non
    | bad => rw [eo] at er; cases er
    | bk _ => rw [eo] at er; cases er
    | ct _ => rw [eo] at er; cases er
    | ex _ _ => rw [eo] at er; cases er
/-- a law: its def at place j answers True to every list of at most n whole numbers -/
theorem law_sp {n : Nat} {F : Fn} (hF : ∀ ns : List Int, ns.length ≤ n → ∃ k, F [.lst (ns.map D.int)] = .ok (.bl true, k)) {H : Hp} {a : Addr} {ns : List Int} (hl : ns.length ≤ n) (hS : SqL K H a (ns.map V.int)) : spF K 1 F [.ref a] H (fun v _ => v = .bl true) fun _ _ _ => False := by
  obtain ⟨k, e⟩ := hF ns hl
  have ra : ∀ ns : List Int, RepAll K H (ns.map V.int) (ns.map D.int) := fun ns => by
    induction ns with
    | nil => exact .nil
    | cons i r ih => exact .cons (.int i) ih
  refine ⟨H, _, _, rfl, Same.refl H, .cons (.lst hS (ra ns)) .nil, e, fun v H' G' L' _ _ _ _ _ o => ?_⟩
  cases k with
  | zero =>
    have o : Rep K G' v (.bl true) := o
    cases o
    rfl
  | succ k =>
    obtain ⟨_, _, _, _, e, _⟩ := o
    cases e
end
end Mp

set_option Elab.async false
set_option linter.all false
set_option maxRecDepth 100000
set_option maxHeartbeats 4000000
/-! Mp16: what the top leaves, by names; a law's promise. -/
namespace Mp
open PySem PySem.Spec PyProof.Rows L2
def Fd.dd (d : Fd) : He.DefD := ⟨(d.name, none), d.name, d.name, defArgs d.st, defBody d.st, defScope d.st, [], []⟩
def faOf (tab : List Fd) (con : List (Str × Int)) : List He.Fa := (tab.map fun d => .glo d.name) ++ (bltAll.map .free ++ con.map fun p => .int p.1 p.2)
def fnOf (tab : List Fd) : List He.DefD := tab.map Fd.dd
theorem law_facts {P : Program} {w : World} {K : PySem.W.Frag} {h : Heap} {mg : Str → Option Value} {f : Addr} {tab : List Fd} {con : List (Str × Int)} (X : K.In h) (G : h.Ns mainGlobals mg) (c : He.SaysD (faOf tab con) (fnOf tab) K)
    (Hb : ∀ d ∈ tab, d.bd) (Hc : tab.all (Fd.ok (tab.map Fd.name) con) = true) (fu k la : Nat) {d : Fd} (dl : tab[la]? = some d) (hfa : mg d.name = some (.ref f)) {x : Str} (hps : d.ps = [x]) :
    ∃ fd : FuncData, (∀ (s : Shared) (v : Value), BindsTo s fd ⟨[v], []⟩ [(x, v)]) ∧ ∀ base : Heap, K.In base → base.Ns mainGlobals mg → FnOk P w K mg base CX0 k f fd [x] (spF K 1 (phi fu tab k la)) := by
  have glo : ∀ d ∈ tab, mg d.name = some (.ref (He.ga K d.name)) := fun d hd => He.glo_ok X G (c.facts (List.mem_append_left _ (List.mem_map.mpr ⟨d, hd, rfl⟩)))
  have blt : ∀ y ∈ bltAll, mg y = none := fun y hy => He.free_ok X G (c.facts (List.mem_append_right _ (List.mem_append_left _ (List.mem_map.mpr ⟨y, hy, rfl⟩))))
  have con : ∀ y i, con.lookup y = some i → ∃ t, mg y = some (.int i t) := fun y i e => He.int_ok X G (c.facts (List.mem_append_right _ (List.mem_append_right _ (List.mem_map.mpr ⟨(y, i), PySem.mem_of_lookup e, rfl⟩))))
  have fun_ : ∀ d ∈ tab, ∃ fd, d.fun K (He.ga K d.name) fd := fun d hd => c.defs (d := d.dd) (List.mem_map.mpr ⟨d, hd, rfl⟩)
  have hd := List.mem_of_getElem? dl
  obtain ⟨fd, F⟩ := fun_ d hd
  have e := hfa.symm.trans (glo d hd)
  cases e
  have b := FunD.bindsA (ps := d.ps) F (Hb d hd)
  rw [hps] at b
  refine ⟨fd, fun s v => b s [v] rfl, fun base _ _ => ?_⟩
  have r := all_ok (P := P) (w := w) (K := K) (mg := mg) (base := base) (fu := fu) (fun d hd => by
    obtain ⟨fd, F⟩ := fun_ d hd
    exact ⟨_, fd, glo d hd, F⟩) Hb Hc blt con k la d dl _ fd (glo d hd) F
  rw [hps] at r
  exact r
end Mp

set_option Elab.async false
set_option linter.all false
set_option maxRecDepth 100000
namespace Mp
/-! printed by gen.py from the linked text: the defs in the small language -/
open PySem
/-- 0: is_integer(value); slots [(0, 'value')] -/
def b_is_integer : S := (.ret (.and (.isi1 (.var 0) .int) (.not (.isi1 (.var 0) .bool))))
/-- 1: is_row(value); slots [(0, 'value')] -/
def b_is_row : S := (.ret (.isi (.var 0) [.list, .tuple]))
/-- 2: is_within(value, low, high); slots [(0, 'value'), (1, 'low'), (2, 'high')] -/
def b_is_within : S := (.ret (.and (.call 0 (.cons (.var 0) .nil)) (.chain .le .le (.var 1) (.var 0) (.var 2))))
/-- 3: check_number(name, value, low, high); slots [(0, 'name'), (1, 'value'), (2, 'low'), (3, 'high')] -/
def b_check_number : S := (.seq (.ite (.not (.call 2 (.cons (.var 1) (.cons (.var 2) (.cons (.var 3) .nil))))) (.rai 2 (.cons (.var 0) (.cons (.con .non) .nil))) .skip)
  (.ret (.var 1)))
/-- 4: check_integers(name, values, size, low, high); slots [(0, 'name'), (1, 'values'), (2, 'size'), (3, 'low'), (4, 'high'), (5, 'place'), (6, 'value')] -/
def l_check_integers_0 : S := (.ite (.not (.call 2 (.cons (.var 6) (.cons (.var 3) (.cons (.var 4) .nil))))) (.rai 2 (.cons (.var 0) (.cons (.var 5) .nil))) .skip)
def f_check_integers_0 : S := .for_ (.names [5, 6]) (.enum (.var 1)) l_check_integers_0
def b_check_integers : S := (.seq (.ite (.or (.not (.call 1 (.cons (.var 1) .nil))) (.cmp .ne (.bf .len (.cons (.var 1) .nil)) (.var 2))) (.rai 2 (.cons (.var 0) (.cons (.con .non) .nil))) .skip)
  (.seq (f_check_integers_0)
  (.ret (.bf .tuple (.cons (.var 1) .nil)))))
/-- 5: check_room(room); slots [(0, 'room')] -/
def b_check_room : S := (.ret (.call 3 (.cons (.con (.str (Str.ofString "room"))) (.cons (.var 0) (.cons (.con (.int 1)) (.cons (.con (.int 1000)) .nil))))))
/-- 6: check_flows(name, flows); slots [(0, 'name'), (1, 'flows')] -/
def b_check_flows : S := (.seq (.ite (.or (.not (.call 1 (.cons (.var 1) .nil))) (.cmp .eq (.bf .len (.cons (.var 1) .nil)) (.con (.int 0)))) (.rai 2 (.cons (.var 0) (.cons (.con .non) .nil))) .skip)
  (.seq (.ite (.cmp .gt (.bf .len (.cons (.var 1) .nil)) (.con (.int 24))) (.rai 1 (.cons (.con (.int 24)) .nil)) .skip)
  (.ret (.call 4 (.cons (.var 0) (.cons (.var 1) (.cons (.bf .len (.cons (.var 1) .nil)) (.cons (.con (.int 0)) (.cons (.con (.int 1000)) .nil)))))))))
/-- 7: check_draws(draws, periods); slots [(0, 'draws'), (1, 'periods')] -/
def b_check_draws : S := (.ret (.call 4 (.cons (.con (.str (Str.ofString "draws"))) (.cons (.var 0) (.cons (.var 1) (.cons (.con (.int 0)) (.cons (.con (.int 1000)) .nil)))))))
/-- 8: check_moment(room, periods, period, level); slots [(0, 'room'), (1, 'periods'), (2, 'period'), (3, 'level')] -/
def b_check_moment : S := (.seq (.exp (.call 3 (.cons (.con (.str (Str.ofString "period"))) (.cons (.var 2) (.cons (.con (.int 0)) (.cons (.bin .sub (.var 1) (.con (.int 1))) .nil))))))
  (.exp (.call 3 (.cons (.con (.str (Str.ofString "level"))) (.cons (.var 3) (.cons (.con (.int 0)) (.cons (.var 0) .nil)))))))
/-- 9: step(room, inflow, draws, period, level); slots [(0, 'room'), (1, 'inflow'), (2, 'draws'), (3, 'period'), (4, 'level'), (5, 'held')] -/
def b_step : S := (.seq (.asg 5 (.bf .min (.cons (.var 0) (.cons (.bin .add (.var 4) (.ix (.var 1) (.var 3))) .nil))))
  (.seq (.ite (.cmp .lt (.var 5) (.ix (.var 2) (.var 3))) (.ret (.con .non)) .skip)
  (.ret (.bin .sub (.var 5) (.ix (.var 2) (.var 3))))))
/-- 10: year_step(room, inflow, draws, period, level); slots [(0, 'room'), (1, 'inflow'), (2, 'draws'), (3, 'period'), (4, 'level'), (5, 'flows'), (6, 'takes')] -/
def b_year_step : S := (.seq (.exp (.call 5 (.cons (.var 0) .nil)))
  (.seq (.asg 5 (.call 6 (.cons (.con (.str (Str.ofString "inflow"))) (.cons (.var 1) .nil))))
  (.seq (.asg 6 (.call 7 (.cons (.var 2) (.cons (.bf .len (.cons (.var 5) .nil)) .nil))))
  (.seq (.exp (.call 8 (.cons (.var 0) (.cons (.bf .len (.cons (.var 5) .nil)) (.cons (.var 3) (.cons (.var 4) .nil))))))
  (.ret (.call 9 (.cons (.var 0) (.cons (.var 5) (.cons (.var 6) (.cons (.var 3) (.cons (.var 4) .nil)))))))))))
/-- 11: lasting(room, inflow, draws, period, level); slots [(0, 'room'), (1, 'inflow'), (2, 'draws'), (3, 'period'), (4, 'level'), (5, 'flows'), (6, 'takes'), (7, 'passed'), (8, 'held'), (9, 'before'), (10, 'turn')] -/
def l_lasting_0 : S := (.seq (.asg 8 (.call 9 (.cons (.var 0) (.cons (.var 5) (.cons (.var 6) (.cons (.bin .mod (.bin .add (.var 3) (.var 10)) (.bf .len (.cons (.var 5) .nil))) (.cons (.var 8) .nil)))))))
  (.ite (.cmp .is (.var 8) (.con .non)) (.ret (.bin .add (.var 7) (.var 10))) .skip))
def f_lasting_0 : S := .for_ (.name 10) (.rng1 (.bf .len (.cons (.var 5) .nil))) l_lasting_0
def l_lasting_1 : S := (.seq (.asg 9 (.var 8))
  (.seq (f_lasting_0)
  (.asg 7 (.bin .add (.var 7) (.bf .len (.cons (.var 5) .nil))))))
def f_lasting_1 : S := .whl (.cmp .lt (.var 8) (.var 9)) l_lasting_1
def b_lasting : S := (.seq (.exp (.call 5 (.cons (.var 0) .nil)))
  (.seq (.asg 5 (.call 6 (.cons (.con (.str (Str.ofString "inflow"))) (.cons (.var 1) .nil))))
  (.seq (.asg 6 (.call 7 (.cons (.var 2) (.cons (.bf .len (.cons (.var 5) .nil)) .nil))))
  (.seq (.exp (.call 8 (.cons (.var 0) (.cons (.bf .len (.cons (.var 5) .nil)) (.cons (.var 3) (.cons (.var 4) .nil))))))
  (.seq (.asg 7 (.con (.int 0)))
  (.seq (.asg 8 (.var 4))
  (.seq (.asg 9 (.bin .add (.var 8) (.con (.int 1))))
  (.seq (f_lasting_1)
  (.ret (.con .non))))))))))
/-- 12: fall_of(inflow, draws, start, length); slots [(0, 'inflow'), (1, 'draws'), (2, 'start'), (3, 'length'), (4, 'total'), (5, 'turn'), (6, 'at')] -/
def l_fall_of_0 : S := (.seq (.asg 6 (.bin .mod (.bin .add (.var 2) (.var 5)) (.bf .len (.cons (.var 1) .nil))))
  (.asg 4 (.bin .sub (.bin .add (.var 4) (.ix (.var 1) (.var 6))) (.ix (.var 0) (.var 6)))))
def f_fall_of_0 : S := .for_ (.name 5) (.rng2 (.con (.int 1)) (.var 3)) l_fall_of_0
def b_fall_of : S := (.seq (.asg 4 (.ix (.var 1) (.var 2)))
  (.seq (f_fall_of_0)
  (.ret (.var 4))))
/-- 13: fall(inflow, draws, start, length); slots [(0, 'inflow'), (1, 'draws'), (2, 'start'), (3, 'length'), (4, 'flows'), (5, 'takes')] -/
def b_fall : S := (.seq (.asg 4 (.call 6 (.cons (.con (.str (Str.ofString "inflow"))) (.cons (.var 0) .nil))))
  (.seq (.asg 5 (.call 7 (.cons (.var 1) (.cons (.bf .len (.cons (.var 4) .nil)) .nil))))
  (.seq (.exp (.call 3 (.cons (.con (.str (Str.ofString "start"))) (.cons (.var 2) (.cons (.con (.int 0)) (.cons (.bin .sub (.bf .len (.cons (.var 4) .nil)) (.con (.int 1))) .nil))))))
  (.seq (.exp (.call 3 (.cons (.con (.str (Str.ofString "length"))) (.cons (.var 3) (.cons (.con (.int 1)) (.cons (.bf .len (.cons (.var 4) .nil)) .nil))))))
  (.ret (.call 12 (.cons (.var 4) (.cons (.var 5) (.cons (.var 2) (.cons (.var 3) .nil))))))))))
/-- 14: worst_of(inflow, draws); slots [(0, 'inflow'), (1, 'draws'), (2, 'best'), (3, 'start'), (4, 'total'), (5, 'length'), (6, 'at')] -/
def l_worst_of_0 : S := (.seq (.ite (.cmp .gt (.var 5) (.con (.int 1))) (.seq (.asg 6 (.bin .mod (.bin .sub (.bin .add (.var 3) (.var 5)) (.con (.int 1))) (.bf .len (.cons (.var 1) .nil))))
    (.asg 4 (.bin .sub (.bin .add (.var 4) (.ix (.var 1) (.var 6))) (.ix (.var 0) (.var 6))))) .skip)
  (.ite (.cmp .gt (.var 4) (.ix (.var 2) (.con (.int 2)))) (.asg 2 (.tup (.cons (.var 3) (.cons (.var 5) (.cons (.var 4) .nil))))) .skip))
def f_worst_of_0 : S := .for_ (.name 5) (.rng2 (.con (.int 1)) (.bin .add (.bf .len (.cons (.var 1) .nil)) (.con (.int 1)))) l_worst_of_0
def l_worst_of_1 : S := (.seq (.asg 4 (.ix (.var 1) (.var 3)))
  (f_worst_of_0))
def f_worst_of_1 : S := .for_ (.name 3) (.rng1 (.bf .len (.cons (.var 1) .nil))) l_worst_of_1
def b_worst_of : S := (.seq (.asg 2 (.tup (.cons (.con (.int 0)) (.cons (.con (.int 1)) (.cons (.ix (.var 1) (.con (.int 0))) .nil)))))
  (.seq (f_worst_of_1)
  (.ret (.var 2))))
/-- 15: worst_run(inflow, draws); slots [(0, 'inflow'), (1, 'draws'), (2, 'flows'), (3, 'takes')] -/
def b_worst_run : S := (.seq (.asg 2 (.call 6 (.cons (.con (.str (Str.ofString "inflow"))) (.cons (.var 0) .nil))))
  (.seq (.asg 3 (.call 7 (.cons (.var 1) (.cons (.bf .len (.cons (.var 2) .nil)) .nil))))
  (.ret (.call 14 (.cons (.var 2) (.cons (.var 3) .nil))))))
/-- 16: least_room(inflow, draws); slots [(0, 'inflow'), (1, 'draws'), (2, 'flows'), (3, 'takes')] -/
def b_least_room : S := (.seq (.asg 2 (.call 6 (.cons (.con (.str (Str.ofString "inflow"))) (.cons (.var 0) .nil))))
  (.seq (.asg 3 (.call 7 (.cons (.var 1) (.cons (.bf .len (.cons (.var 2) .nil)) .nil))))
  (.seq (.ite (.cmp .gt (.bf .sum (.cons (.var 3) .nil)) (.bf .sum (.cons (.var 2) .nil))) (.ret (.con .non)) .skip)
  (.ret (.ix (.call 14 (.cons (.var 2) (.cons (.var 3) .nil))) (.con (.int 2)))))))
/-- 17: _law_cells(script); slots [(0, 'script'), (1, 'cells'), (2, 'seed'), (3, 'k'), (4, 'cell'), (5, 'first'), (6, 'second')] -/
def l__law_cells_0 : S := (.seq (.asg 4 (.var 2))
  (.seq (.ite (.cmp .lt (.var 3) (.bf .len (.cons (.var 0) .nil))) (.asg 4 (.bf .int (.cons (.ix (.var 0) (.var 3)) .nil))) .skip)
  (.seq (.ite (.cmp .lt (.var 4) (.bin .pow (.con (.int 10)) (.con (.int 18)))) (.seq (.asg 5 (.bin .mod (.bf .int (.cons (.bin .mul (.bin .add (.bin .add (.bin .mod (.bf .int (.cons (.var 4) .nil)) (.con (.int 1000003))) (.bin .mul (.con (.int 31)) (.var 3))) (.con (.int 17))) (.con (.int 48271))) .nil)) (.con (.int 2147483647))))
    (.seq (.asg 6 (.bin .mod (.bf .int (.cons (.bin .add (.bin .mul (.bin .add (.var 5) (.con (.int 101))) (.con (.int 69621))) (.var 3)) .nil)) (.con (.int 2147483629))))
    (.asg 4 (.bin .add (.bin .mul (.var 5) (.con (.int 2147483629))) (.var 6))))) .skip)
  (.seq (.app 1 (.bin .mod (.bf .int (.cons (.var 4) .nil)) (.bin .pow (.con (.int 10)) (.con (.int 18)))))
  (.asg 2 (.bin .fdiv (.ix (.var 1) (.neg (.con (.int 1)))) (.con (.int 1009))))))))
def f__law_cells_0 : S := .for_ (.name 3) (.rng1 (.con (.int 63))) l__law_cells_0
def b__law_cells : S := (.seq (.asg 1 (.lst .nil))
  (.seq (.asg 2 (.con (.int 0)))
  (.seq (f__law_cells_0)
  (.ret (.var 1)))))
/-- 18: _law_year(cells, periods, top, way); slots [(0, 'cells'), (1, 'periods'), (2, 'top'), (3, 'way'), (4, 'inflow'), (5, 'draws'), (6, 'turn'), (7, 'at'), (8, 'k'), (9, 'flow'), (10, 'draw')] -/
def e__law_year_0 : M := .bin .mod (.bf .int (.cons (.ix (.var 0) (.bin .add (.con (.int 1)) (.var 8))) .nil)) (.bin .add (.var 2) (.con (.int 1)))
def c__law_year_0 : M := .lc e__law_year_0 (.name 8) [8] (.rng1 (.var 1))
def e__law_year_1 : M := .bin .mod (.bf .int (.cons (.bin .fdiv (.ix (.var 0) (.bin .add (.con (.int 1)) (.var 8))) (.con (.int 1001))) .nil)) (.bin .add (.var 2) (.con (.int 1)))
def c__law_year_1 : M := .lc e__law_year_1 (.name 8) [8] (.rng1 (.var 1))
def i__law_year_0 : S := .ite (.and (.cmp .ge (.var 3) (.con (.int 1))) (.cmp .le (.var 3) (.con (.int 3)))) (.asg 5 (.bin .add (.sl (.var 4) (.var 6) (.con .non)) (.sl (.var 4) (.con .non) (.var 6)))) .skip
def i__law_year_1 : S := .ite (.cmp .eq (.var 3) (.con (.int 2))) (.six 5 (.var 7) (.bf .min (.cons (.con (.int 1000)) (.cons (.bin .add (.ix (.var 5) (.var 7)) (.con (.int 1))) .nil)))) .skip
def i__law_year_2 : S := .ite (.cmp .eq (.var 3) (.con (.int 3))) (.six 5 (.var 7) (.bf .max (.cons (.con (.int 0)) (.cons (.bin .sub (.ix (.var 5) (.var 7)) (.con (.int 1))) .nil)))) .skip
def e__law_year_2 : M := .bin .fdiv (.bf .sum (.cons (.var 4) .nil)) (.var 1)
def c__law_year_2 : M := .lc e__law_year_2 (.name 9) [9] (.var 4)
def i__law_year_3 : S := .ite (.cmp .eq (.var 3) (.con (.int 4))) (.asg 5 (c__law_year_2)) .skip
def e__law_year_3 : M := .bin .fdiv (.var 10) (.con (.int 2))
def c__law_year_3 : M := .lc e__law_year_3 (.name 10) [10] (.var 5)
def i__law_year_4 : S := .ite (.cmp .eq (.var 3) (.con (.int 5))) (.asg 5 (c__law_year_3)) .skip
def e__law_year_4 : M := .bf .min (.cons (.ix (.var 5) (.var 8)) (.cons (.ix (.var 4) (.var 8)) .nil))
def c__law_year_4 : M := .lc e__law_year_4 (.name 8) [8] (.rng1 (.var 1))
def i__law_year_5 : S := .ite (.cmp .eq (.var 3) (.con (.int 6))) (.asg 5 (c__law_year_4)) .skip
def e__law_year_5 : M := .con (.int 0)
def c__law_year_5 : M := .lc e__law_year_5 (.name 9) [9] (.var 4)
def i__law_year_6 : S := .ite (.cmp .eq (.var 3) (.con (.int 7))) (.seq (.asg 5 (c__law_year_5))
    (.six 5 (.var 7) (.bf .min (.cons (.con (.int 1000)) (.cons (.bf .sum (.cons (.var 4) .nil)) .nil))))) .skip
def b__law_year : S := (.seq (.asg 4 (c__law_year_0))
  (.seq (.asg 5 (c__law_year_1))
  (.seq (.asg 6 (.bin .mod (.bf .int (.cons (.ix (.var 0) (.con (.int 25))) .nil)) (.var 1)))
  (.seq (.asg 7 (.bin .mod (.bf .int (.cons (.bin .fdiv (.ix (.var 0) (.con (.int 25))) (.con (.int 24))) .nil)) (.var 1)))
  (.seq (i__law_year_0)
  (.seq (i__law_year_1)
  (.seq (i__law_year_2)
  (.seq (i__law_year_3)
  (.seq (i__law_year_4)
  (.seq (i__law_year_5)
  (.seq (i__law_year_6)
  (.ret (.lst (.cons (.var 4) (.cons (.var 5) .nil)))))))))))))))
/-- 19: _law_worst(inflow, draws); slots [(0, 'inflow'), (1, 'draws'), (2, 'best'), (3, 'start'), (4, 'lost'), (5, 'length'), (6, 'at')] -/
def l__law_worst_0 : S := (.seq (.asg 6 (.bin .mod (.bf .int (.cons (.bin .sub (.bin .add (.var 3) (.var 5)) (.con (.int 1))) .nil)) (.bf .len (.cons (.var 1) .nil))))
  (.seq (.asg 4 (.bin .add (.var 4) (.ix (.var 1) (.var 6))))
  (.seq (.ite (.cmp .gt (.var 5) (.con (.int 1))) (.asg 4 (.bin .sub (.var 4) (.ix (.var 0) (.var 6)))) .skip)
  (.ite (.cmp .gt (.var 4) (.ix (.var 2) (.con (.int 2)))) (.asg 2 (.lst (.cons (.var 3) (.cons (.var 5) (.cons (.var 4) .nil))))) .skip))))
def f__law_worst_0 : S := .for_ (.name 5) (.rng2 (.con (.int 1)) (.bin .add (.bf .len (.cons (.var 1) .nil)) (.con (.int 1)))) l__law_worst_0
def l__law_worst_1 : S := (.seq (.asg 4 (.con (.int 0)))
  (f__law_worst_0))
def f__law_worst_1 : S := .for_ (.name 3) (.rng1 (.bf .len (.cons (.var 1) .nil))) l__law_worst_1
def b__law_worst : S := (.seq (.asg 2 (.lst (.cons (.con (.int 0)) (.cons (.con (.int 1)) (.cons (.ix (.var 1) (.con (.int 0))) .nil)))))
  (.seq (f__law_worst_1)
  (.ret (.var 2))))
/-- 20: _law_is(told, due); slots [(0, 'told'), (1, 'due')] -/
def b__law_is : S := (.seq (.ite (.cmp .eq (.var 1) (.neg (.con (.int 1)))) (.ret (.cmp .is (.var 0) (.con .non))) .skip)
  (.ret (.and (.isi1 (.var 0) .int) (.and (.not (.isi1 (.var 0) .bool)) (.cmp .eq (.var 0) (.var 1))))))
/-- 21: _law_step(room, inflow, draws, at, level); slots [(0, 'room'), (1, 'inflow'), (2, 'draws'), (3, 'at'), (4, 'level')] -/
def b__law_step : S := (.ret (.bf .max (.cons (.neg (.con (.int 1))) (.cons (.bin .sub (.bf .min (.cons (.var 0) (.cons (.bin .add (.var 4) (.ix (.var 1) (.var 3))) .nil))) (.ix (.var 2) (.var 3))) .nil))))
/-- 22: _law_lasting(room, inflow, draws, start, level); slots [(0, 'room'), (1, 'inflow'), (2, 'draws'), (3, 'start'), (4, 'level'), (5, 'passed'), (6, 'year'), (7, 'before'), (8, 'turn')] -/
def l__law_lasting_0 : S := (.seq (.asg 4 (.call 21 (.cons (.var 0) (.cons (.var 1) (.cons (.var 2) (.cons (.bin .mod (.bf .int (.cons (.bin .add (.var 3) (.var 8)) .nil)) (.bf .len (.cons (.var 2) .nil))) (.cons (.var 4) .nil)))))))
  (.seq (.ite (.cmp .lt (.var 4) (.con (.int 0))) (.ret (.var 5)) .skip)
  (.asg 5 (.bin .add (.var 5) (.con (.int 1))))))
def f__law_lasting_0 : S := .for_ (.name 8) (.rng1 (.bf .len (.cons (.var 2) .nil))) l__law_lasting_0
def l__law_lasting_1 : S := (.seq (.asg 7 (.var 4))
  (.seq (f__law_lasting_0)
  (.ite (.cmp .ge (.var 4) (.var 7)) (.ret (.neg (.con (.int 1)))) .skip)))
def f__law_lasting_1 : S := .for_ (.name 6) (.rng1 (.bin .add (.var 0) (.con (.int 2)))) l__law_lasting_1
def b__law_lasting : S := (.seq (.asg 5 (.con (.int 0)))
  (.seq (f__law_lasting_1)
  (.ret (.neg (.con (.int 1))))))
/-- 23: _law_fall(inflow, draws, start, length); slots [(0, 'inflow'), (1, 'draws'), (2, 'start'), (3, 'length'), (4, 'total'), (5, 'turn'), (6, 'at')] -/
def l__law_fall_0 : S := (.seq (.asg 6 (.bin .mod (.bf .int (.cons (.bin .add (.var 2) (.var 5)) .nil)) (.bf .len (.cons (.var 1) .nil))))
  (.asg 4 (.bin .sub (.bin .add (.var 4) (.ix (.var 1) (.var 6))) (.ix (.var 0) (.var 6)))))
def f__law_fall_0 : S := .for_ (.name 5) (.rng1 (.var 3)) l__law_fall_0
def b__law_fall : S := (.seq (.asg 4 (.ix (.var 0) (.var 2)))
  (.seq (f__law_fall_0)
  (.ret (.var 4))))
/-- 24: _law_walks(room, inflow, draws, at, level); slots [(0, 'room'), (1, 'inflow'), (2, 'draws'), (3, 'at'), (4, 'level'), (5, 'passed'), (6, 'told'), (7, 'last'), (8, 'dry'), (9, 'draw')] -/
def e__law_walks_0 : M := .con (.int 0)
def c__law_walks_0 : M := .lc e__law_walks_0 (.name 9) [9] (.var 2)
def b__law_walks : S := (.seq (.asg 5 (.lst (.cons (.bf .list (.cons (.var 1) .nil)) (.cons (.bf .list (.cons (.var 2) .nil)) .nil))))
  (.seq (.asg 6 (.call 10 (.cons (.var 0) (.cons (.ix (.var 5) (.con (.int 0))) (.cons (.ix (.var 5) (.con (.int 1))) (.cons (.var 3) (.cons (.var 4) .nil)))))))
  (.seq (.ite (.not (.call 20 (.cons (.var 6) (.cons (.call 21 (.cons (.var 0) (.cons (.var 1) (.cons (.var 2) (.cons (.var 3) (.cons (.var 4) .nil)))))) .nil)))) (.ret (.con (.bl false))) .skip)
  (.seq (.asg 7 (.call 11 (.cons (.var 0) (.cons (.ix (.var 5) (.con (.int 0))) (.cons (.ix (.var 5) (.con (.int 1))) (.cons (.var 3) (.cons (.var 4) .nil)))))))
  (.seq (.asg 8 (c__law_walks_0))
  (.seq (.ite (.cmp .isn (.call 11 (.cons (.var 0) (.cons (.bf .tuple (.cons (.var 1) .nil)) (.cons (.bf .tuple (.cons (.var 8) .nil)) (.cons (.var 3) (.cons (.var 4) .nil)))))) (.con .non)) (.ret (.con (.bl false))) .skip)
  (.seq (.ite (.not (.call 20 (.cons (.call 10 (.cons (.var 0) (.cons (.bf .tuple (.cons (.var 1) .nil)) (.cons (.var 8) (.cons (.var 3) (.cons (.var 4) .nil)))))) (.cons (.bf .min (.cons (.var 0) (.cons (.bin .add (.var 4) (.ix (.var 1) (.var 3))) .nil))) .nil)))) (.ret (.con (.bl false))) .skip)
  (.ret (.and (.cmp .eq (.var 5) (.lst (.cons (.var 1) (.cons (.var 2) .nil)))) (.call 20 (.cons (.var 7) (.cons (.call 22 (.cons (.var 0) (.cons (.var 1) (.cons (.var 2) (.cons (.var 3) (.cons (.var 4) .nil)))))) .nil))))))))))))
/-- 25: _law_runs(inflow, draws, start, length, worst); slots [(0, 'inflow'), (1, 'draws'), (2, 'start'), (3, 'length'), (4, 'worst'), (5, 'passed'), (6, 'told'), (7, 'most'), (8, 'k'), (9, 'due'), (10, 'dry'), (11, 'draw')] -/
def i__law_runs_0 : S := .ite (.not (.call 20 (.cons (.call 13 (.cons (.ix (.var 5) (.con (.int 0))) (.cons (.ix (.var 5) (.con (.int 1))) (.cons (.var 2) (.cons (.con (.int 1)) .nil))))) (.cons (.ix (.var 1) (.var 2)) .nil)))) (.ret (.con (.bl false))) .skip
def i__law_runs_1 : S := .ite (.or (.not (.isi1 (.var 6) .int)) (.or (.isi1 (.var 6) .bool) (.cmp .ne (.var 6) (.call 23 (.cons (.var 0) (.cons (.var 1) (.cons (.var 2) (.cons (.var 3) .nil)))))))) (.ret (.con (.bl false))) .skip
def i__law_runs_2 : S := .ite (.or (.not (.isi1 (.var 7) .tuple)) (.cmp .ne (.bf .len (.cons (.var 7) .nil)) (.con (.int 3)))) (.ret (.con (.bl false))) .skip
def i__law_runs_3 : S := .ite (.not (.call 20 (.cons (.ix (.var 7) (.var 8)) (.cons (.ix (.var 4) (.var 8)) .nil)))) (.ret (.con (.bl false))) .skip
def l__law_runs_0 : S := (i__law_runs_3)
def f__law_runs_0 : S := .for_ (.name 8) (.rng1 (.con (.int 3))) l__law_runs_0
def i__law_runs_4 : S := .ite (.cmp .gt (.bf .sum (.cons (.var 1) .nil)) (.bf .sum (.cons (.var 0) .nil))) (.asg 9 (.neg (.con (.int 1)))) .skip
def i__law_runs_5 : S := .ite (.or (.not (.call 20 (.cons (.call 16 (.cons (.ix (.var 5) (.con (.int 0))) (.cons (.ix (.var 5) (.con (.int 1))) .nil))) (.cons (.var 9) .nil)))) (.cmp .ne (.var 5) (.lst (.cons (.var 0) (.cons (.var 1) .nil))))) (.ret (.con (.bl false))) .skip
def e__law_runs_0 : M := .con (.int 0)
def c__law_runs_0 : M := .lc e__law_runs_0 (.name 11) [11] (.var 1)
def i__law_runs_6 : S := .ite (.or (.not (.call 20 (.cons (.call 16 (.cons (.bf .tuple (.cons (.var 0) .nil)) (.cons (.bf .tuple (.cons (.var 10) .nil)) .nil))) (.cons (.con (.int 0)) .nil)))) (.cmp .ne (.call 15 (.cons (.bf .list (.cons (.var 0) .nil)) (.cons (.var 10) .nil))) (.tup (.cons (.con (.int 0)) (.cons (.con (.int 1)) (.cons (.con (.int 0)) .nil)))))) (.ret (.con (.bl false))) .skip
def b__law_runs : S := (.seq (.asg 5 (.lst (.cons (.bf .list (.cons (.var 0) .nil)) (.cons (.bf .list (.cons (.var 1) .nil)) .nil))))
  (.seq (i__law_runs_0)
  (.seq (.asg 6 (.call 13 (.cons (.ix (.var 5) (.con (.int 0))) (.cons (.ix (.var 5) (.con (.int 1))) (.cons (.var 2) (.cons (.var 3) .nil))))))
  (.seq (i__law_runs_1)
  (.seq (.asg 7 (.call 15 (.cons (.ix (.var 5) (.con (.int 0))) (.cons (.ix (.var 5) (.con (.int 1))) .nil))))
  (.seq (i__law_runs_2)
  (.seq (f__law_runs_0)
  (.seq (.asg 9 (.ix (.var 4) (.con (.int 2))))
  (.seq (i__law_runs_4)
  (.seq (i__law_runs_5)
  (.seq (.asg 10 (c__law_runs_0))
  (.seq (i__law_runs_6)
  (.ret (.call 20 (.cons (.call 16 (.cons (.bf .tuple (.cons (.var 0) .nil)) (.cons (.bf .tuple (.cons (.var 1) .nil)) .nil))) (.cons (.var 9) .nil))))))))))))))))
/-- 26: law(script); slots [(0, 'script'), (1, 'cells'), (2, 'head'), (3, 'periods'), (4, 'top'), (5, 'inflow'), (6, 'draws'), (7, 'worst'), (8, 'room'), (9, 'start'), (10, 'length'), (11, 'at'), (12, 'level')] -/
def i_law_0 : S := .ite (.not (.call 25 (.cons (.var 5) (.cons (.var 6) (.cons (.var 9) (.cons (.var 10) (.cons (.var 7) .nil))))))) (.ret (.con (.bl false))) .skip
def i_law_1 : S := .ite (.or (.not (.call 24 (.cons (.var 8) (.cons (.var 5) (.cons (.var 6) (.cons (.var 11) (.cons (.var 12) .nil))))))) (.not (.call 24 (.cons (.var 8) (.cons (.var 5) (.cons (.var 6) (.cons (.con (.int 0)) (.cons (.var 8) .nil)))))))) (.ret (.con (.bl false))) .skip
def b_law : S := (.seq (.asg 1 (.call 17 (.cons (.var 0) .nil)))
  (.seq (.asg 2 (.ix (.var 1) (.con (.int 0))))
  (.seq (.asg 3 (.bin .add (.con (.int 1)) (.bin .mod (.bf .int (.cons (.var 2) .nil)) (.con (.int 24)))))
  (.seq (.asg 4 (.ix (.lst (.cons (.con (.int 3)) (.cons (.con (.int 10)) (.cons (.con (.int 60)) (.cons (.con (.int 1000)) .nil))))) (.bin .mod (.bf .int (.cons (.bin .fdiv (.var 2) (.con (.int 24))) .nil)) (.con (.int 4)))))
  (.seq (.unp [5, 6] (.call 18 (.cons (.var 1) (.cons (.var 3) (.cons (.var 4) (.cons (.bin .mod (.bf .int (.cons (.bin .fdiv (.var 2) (.con (.int 96))) .nil)) (.con (.int 8))) .nil))))))
  (.seq (.asg 7 (.call 19 (.cons (.var 5) (.cons (.var 6) .nil))))
  (.seq (.asg 8 (.ix (.lst (.cons (.bin .add (.con (.int 1)) (.bin .mod (.bf .int (.cons (.ix (.var 1) (.con (.int 26))) .nil)) (.con (.int 1000)))) (.cons (.bin .add (.con (.int 1)) (.bin .mod (.bf .int (.cons (.ix (.var 1) (.con (.int 26))) .nil)) (.con (.int 30)))) (.cons (.ix (.var 7) (.con (.int 2))) (.cons (.bin .add (.ix (.var 7) (.con (.int 2))) (.con (.int 1))) .nil))))) (.bin .mod (.bf .int (.cons (.bin .fdiv (.var 2) (.con (.int 768))) .nil)) (.con (.int 4)))))
  (.seq (.asg 8 (.bf .max (.cons (.con (.int 1)) (.cons (.bf .min (.cons (.con (.int 1000)) (.cons (.var 8) .nil))) .nil))))
  (.seq (.asg 9 (.bin .mod (.bf .int (.cons (.ix (.var 1) (.con (.int 27))) .nil)) (.var 3)))
  (.seq (.asg 10 (.bin .add (.con (.int 1)) (.bin .mod (.bf .int (.cons (.bin .fdiv (.ix (.var 1) (.con (.int 27))) (.con (.int 24))) .nil)) (.var 3))))
  (.seq (i_law_0)
  (.seq (.asg 11 (.bin .mod (.bf .int (.cons (.ix (.var 1) (.con (.int 28))) .nil)) (.var 3)))
  (.seq (.asg 12 (.bin .mod (.bf .int (.cons (.bin .fdiv (.ix (.var 1) (.con (.int 28))) (.con (.int 24))) .nil)) (.bin .add (.var 8) (.con (.int 1)))))
  (.seq (i_law_1)
  (.ret (.call 24 (.cons (.var 8) (.cons (.var 5) (.cons (.var 6) (.cons (.bin .sub (.var 3) (.con (.int 1))) (.cons (.con (.int 0)) .nil)))))))))))))))))))))
def ptab : List (Nat × Nat × S) := [(1, 1, b_is_integer), (1, 1, b_is_row), (3, 3, b_is_within), (4, 4, b_check_number), (5, 7, b_check_integers), (1, 1, b_check_room), (2, 2, b_check_flows), (2, 2, b_check_draws), (4, 4, b_check_moment), (5, 6, b_step), (5, 7, b_year_step), (5, 11, b_lasting), (4, 7, b_fall_of), (4, 6, b_fall), (2, 7, b_worst_of), (2, 4, b_worst_run), (2, 4, b_least_room), (1, 7, b__law_cells), (4, 11, b__law_year), (2, 7, b__law_worst), (2, 2, b__law_is), (5, 5, b__law_step), (5, 9, b__law_lasting), (4, 7, b__law_fall), (5, 10, b__law_walks), (5, 12, b__law_runs), (1, 13, b_law)]
end Mp

set_option Elab.async false
set_option linter.all false
set_option maxRecDepth 100000
/-! Q0: the small language evaluated: what simp needs; loops. -/
namespace Mp
/-- turns that a while may take -/
@[irreducible] def FU : Nat := 100000
theorem FU_eq : FU = 100000 := by unfold FU; rfl
@[simp] theorem then_nx (ρ : Env) (f : Env → Out) : (Out.nx ρ).then f = f ρ := rfl
@[simp] theorem then_rt (d : D) (k : Nat) (f : Env → Out) : (Out.rt d k).then f = .rt d k := rfl
@[simp] theorem then_bk (ρ : Env) (f : Env → Out) : (Out.bk ρ).then f = .bk ρ := rfl
@[simp] theorem then_ct (ρ : Env) (f : Env → Out) : (Out.ct ρ).then f = .ct ρ := rfl
@[simp] theorem then_ite (c : Prop) [Decidable c] (a b : Out) (f : Env → Out) : (if c then a else b).then f = if c then a.then f else b.then f := by split <;> rfl
@[simp] theorem out_ok {α : Type} (a : α) (f : α → Out) : (R.ok a).out f = f a := rfl
@[simp] theorem val_0 (d : D) (k : Nat) (r : Env) : Env.val (some (d, k) :: r) 0 = .ok d := rfl
@[simp] theorem val_s (x : Option (D × Nat)) (r : Env) (i : Nat) : Env.val (x :: r) (i + 1) = Env.val r i := rfl
@[simp] theorem atm_int (i : Int) (s : List Nat) : dp (.int i) s = [] := rfl
@[simp] theorem atm_bl (i : Bool) (s : List Nat) : dp (.bl i) s = [] := rfl
@[simp] theorem atm_non (s : List Nat) : dp .non s = [] := rfl
@[simp] theorem atm_str (x : PySem.Str) (s : List Nat) : dp (.str x) s = [] := rfl
@[simp] theorem atm_lst (x : List D) (s : List Nat) : dp (.lst x) s = s := rfl
@[simp] theorem atm_tup (x : List D) (s : List Nat) : dp (.tup x) s = s := rfl
@[simp] theorem frz_nil (ρ : Env) : ρ.frz [] = ρ := rfl
@[simp] theorem frz_cons (ρ : Env) (i : Nat) (s : List Nat) : ρ.frz (i :: s) = Env.frz (ρ.modify i frz1) s := rfl
@[simp] theorem chk_T {α : Type} (x : R α) : R.chk True x = x := by
  unfold R.chk
  rw [if_pos trivial]
/-- a def's end -/
def Out.fin : Out → R (D × Nat)
  | .rt d k => .ok (d, k)
  | .nx _ => .ok (.non, 0)
  | .ex c fs => .exc c fs
  | _ => .bad
@[simp] theorem fin_rt (d : D) (k : Nat) : (Out.rt d k).fin = .ok (d, k) := rfl
@[simp] theorem fin_nx (ρ : Env) : (Out.nx ρ).fin = .ok (.non, 0) := rfl
@[simp] theorem fin_ite (c : Prop) [Decidable c] (a b : Out) : (if c then a else b).fin = if c then a.fin else b.fin := by split <;> rfl
theorem run_eq (Φ : Nat → Fn) (fu np n : Nat) (b : S) (ds : List D) : run Φ fu np n b ds = if ds.length = np then (ex Φ fu b (ds.map sv ++ List.replicate (n - ds.length) none)).fin else .bad := rfl
/-- the item at i -/
def gi (ns : List Int) (i : Int) : Int := ns.getD i.toNat 0
abbrev li (ns : List Int) : List D := ns.map D.int
theorem atI_li {ns : List Int} {i : Int} (h : 0 ≤ i) (h2 : i < ns.length) : atI (ns.map D.int) i = some (.int (gi ns i)) := by
  unfold atI ixN
  rw [if_pos h, List.length_map, if_pos h2]
  have h3 : i.toNat < ns.length := by omega
  show (ns.map D.int)[i.toNat]? = _
  rw [List.getElem?_map, List.getElem?_eq_getElem h3]
  unfold gi
  rw [List.getD_eq_getElem?_getD, List.getElem?_eq_getElem h3]
  rfl
theorem ixN_ok {n : Nat} {i : Int} (h : 0 ≤ i) (h2 : i < n) : ixN n i = some i.toNat := by
  unfold ixN
  rw [if_pos h, if_pos h2]
@[simp] theorem asInts_li : ∀ ns : List Int, asInts (ns.map D.int) = some ns
  | [] => rfl
  | n :: r => by
    show (asInts (r.map D.int)).map (n :: ·) = _
    rw [asInts_li r]
    rfl
@[simp] theorem eqDs_li : ∀ ns : List Int, eqDs (ns.map D.int) (ns.map D.int) = true
  | [] => rfl
  | n :: r => by
    show (eqD (.int n) (.int n) && eqDs (r.map D.int) (r.map D.int)) = true
    rw [eqDs_li r]
    simp [eqD]
@[simp] theorem strs_li : ∀ ns : List Int, strsDs (ns.map D.int) = true
  | [] => rfl
  | n :: r => strs_li r
@[simp] theorem depths_li : ∀ ns : List Int, depths (ns.map D.int) = 0
  | [] => rfl
  | n :: r => by
    show max 0 (depths (r.map D.int)) = 0
    rw [depths_li r]
    rfl
theorem gi_mem {ns : List Int} {i : Int} (h : 0 ≤ i) (h2 : i < ns.length) : gi ns i ∈ ns := by
  have h3 : i.toNat < ns.length := by omega
  unfold gi
  rw [List.getD_eq_getElem?_getD, List.getElem?_eq_getElem h3]
  exact List.getElem_mem h3
theorem upto_at {lo : Int} {n i : Nat} (h : i < n) : (upto lo n)[i]? = some (.int (lo + i)) := by
  unfold upto
  rw [List.getElem?_map, List.getElem?_range h]
  rfl
@[simp] theorem upto_length (lo : Int) (n : Nat) : (upto lo n).length = n := by
  unfold upto
  rw [List.length_map, List.length_range]
theorem upto_0 (lo : Int) : upto lo 0 = [] := rfl
theorem upto_s (lo : Int) (n : Nat) : upto lo (n + 1) = .int lo :: upto (lo + 1) n := by
  unfold upto
  rw [List.range_succ_eq_map, List.map_cons, List.map_map]
  congr 1
  · simp
  · apply List.map_congr_left
    intro i _
    show D.int (lo + ((i + 1 : Nat) : Int)) = D.int (lo + 1 + i)
    congr 1
    omega
theorem ex_for {Φ : Nat → Fn} {fu : Nat} {t : Tg} {it : M} {b : S} {ρ : Env} {x : V3} {ds : List D} (h1 : ev Φ it ρ = .ok x) (h2 : Mp.items x.d = .ok ds) : ex Φ fu (.for_ t it b) ρ = forGo t (ex Φ fu b) ds (ρ.frz (x.s ++ x.t)) := by
  rw [ex, h1, R.bind_ok, h2]
  rfl
theorem rng_ok {n : Nat} (h : n < 1000000) : rngOk (n : Int) := by
  unfold rngOk
  omega
theorem ev_rng1 {Φ : Nat → Fn} {a : M} {ρ : Env} {x : V3} {j : Int} (h : ev Φ a ρ = .ok x) (hx : x.d = .int j) (hr : rngOk j) : ev Φ (.rng1 a) ρ = .ok (.at (.lst (upto 0 j.toNat))) := by
  have e : intOf (.int j) = .ok j := rfl
  rw [ev, h, R.bind_ok, hx, e, R.bind_ok, R.chk_t hr]
theorem ev_rng2 {Φ : Nat → Fn} {a b : M} {ρ : Env} {x y : V3} {i j : Int} (h : ev Φ a ρ = .ok x) (hx : x.d = .int i) (h' : ev Φ b ρ = .ok y) (hy : y.d = .int j) (hr : rngOk i) (hr' : rngOk j) : ev Φ (.rng2 a b) ρ = .ok (.at (.lst (upto i (j - i).toNat))) := by
  have e : intOf (.int j) = .ok j := rfl
  have e' : intOf (.int i) = .ok i := rfl
  rw [ev, h, R.bind_ok, h', R.bind_ok, hx, e', R.bind_ok, hy, e, R.bind_ok, R.chk_t ⟨hr, hr'⟩]
theorem ex_for1 {Φ : Nat → Fn} {fu : Nat} {t : Tg} {a : M} {b : S} {ρ : Env} {x : V3} {j : Int} (h : ev Φ a ρ = .ok x) (hx : x.d = .int j) (hr : rngOk j) : ex Φ fu (.for_ t (.rng1 a) b) ρ = forGo t (ex Φ fu b) (upto 0 j.toNat) ρ := by
  rw [ex_for (ev_rng1 h hx hr) rfl]
  rfl
theorem ex_for2 {Φ : Nat → Fn} {fu : Nat} {t : Tg} {a a' : M} {b : S} {ρ : Env} {x y : V3} {i j : Int} (h : ev Φ a ρ = .ok x) (hx : x.d = .int i) (h' : ev Φ a' ρ = .ok y) (hy : y.d = .int j) (hr : rngOk i) (hr' : rngOk j) : ex Φ fu (.for_ t (.rng2 a a') b) ρ = forGo t (ex Φ fu b) (upto i (j - i).toNat) ρ := by
  rw [ex_for (ev_rng2 h hx h' hy hr hr') rfl]
  rfl
theorem forGo_nx {t : Tg} {b : Env → Out} {d : D} {ds : List D} {ρ ρ1 ρ2 : Env} (h1 : t.set d ρ = .ok ρ1) (h2 : b ρ1 = .nx ρ2) : forGo t b (d :: ds) ρ = forGo t b ds ρ2 := by
  show (match t.set d ρ with | .ok ρ1 => (match b ρ1 with | .nx ρ' => forGo t b ds ρ' | .ct ρ' => forGo t b ds ρ' | .bk ρ' => .nx ρ' | o => o) | _ => .bad) = _
  rw [h1]
  show (match b ρ1 with | .nx ρ' => forGo t b ds ρ' | .ct ρ' => forGo t b ds ρ' | .bk ρ' => .nx ρ' | o => o) = _
  rw [h2]
theorem forGo_rt {t : Tg} {b : Env → Out} {d e : D} {k : Nat} {ds : List D} {ρ ρ1 : Env} (h1 : t.set d ρ = .ok ρ1) (h2 : b ρ1 = .rt e k) : forGo t b (d :: ds) ρ = .rt e k := by
  show (match t.set d ρ with | .ok ρ1 => (match b ρ1 with | .nx ρ' => forGo t b ds ρ' | .ct ρ' => forGo t b ds ρ' | .bk ρ' => .nx ρ' | o => o) | _ => .bad) = _
  rw [h1]
  show (match b ρ1 with | .nx ρ' => forGo t b ds ρ' | .ct ρ' => forGo t b ds ρ' | .bk ρ' => .nx ρ' | o => o) = _
  rw [h2]
theorem whl_f {c : Env → R Bool} {b : Env → Out} {n : Nat} {ρ : Env} (h : c ρ = .ok false) : whlGo c b (n + 1) ρ = .nx ρ := by
  unfold whlGo
  rw [h]
theorem whl_nx {c : Env → R Bool} {b : Env → Out} {n : Nat} {ρ ρ' : Env} (h : c ρ = .ok true) (h2 : b ρ = .nx ρ') : whlGo c b (n + 1) ρ = whlGo c b n ρ' := by
  show (match c ρ with | .ok true => (match b ρ with | .nx ρ' => whlGo c b n ρ' | .ct ρ' => whlGo c b n ρ' | .bk ρ' => .nx ρ' | o => o) | .ok false => .nx ρ | .exc k fs => .ex k fs | .bad => .bad) = _
  rw [h]
  show (match b ρ with | .nx ρ' => whlGo c b n ρ' | .ct ρ' => whlGo c b n ρ' | .bk ρ' => .nx ρ' | o => o) = _
  rw [h2]
theorem whl_rt {c : Env → R Bool} {b : Env → Out} {n : Nat} {ρ : Env} {d : D} {k : Nat} (h : c ρ = .ok true) (h2 : b ρ = .rt d k) : whlGo c b (n + 1) ρ = .rt d k := by
  show (match c ρ with | .ok true => (match b ρ with | .nx ρ' => whlGo c b n ρ' | .ct ρ' => whlGo c b n ρ' | .bk ρ' => .nx ρ' | o => o) | .ok false => .nx ρ | .exc k fs => .ex k fs | .bad => .bad) = _
  rw [h]
  show (match b ρ with | .nx ρ' => whlGo c b n ρ' | .ct ρ' => whlGo c b n ρ' | .bk ρ' => .nx ρ' | o => o) = _
  rw [h2]
/-- a walk that always goes on: an invariant by the turn -/
theorem forGo_inv {t : Tg} {b : Env → Out} (P : Nat → Env → Prop) : ∀ (ds : List D) (i : Nat) (ρ : Env), P i ρ → (∀ j d ρ, ds[j]? = some d → P (i + j) ρ → ∃ ρ1 ρ2, t.set d ρ = .ok ρ1 ∧ b ρ1 = .nx ρ2 ∧ P (i + j + 1) ρ2) →
    ∃ ρ', forGo t b ds ρ = .nx ρ' ∧ P (i + ds.length) ρ'
  | [], i, ρ, h, _ => ⟨ρ, rfl, h⟩
  | d :: ds, i, ρ, h, st => by
    obtain ⟨ρ1, ρ2, e1, e2, h2⟩ := st 0 d ρ rfl h
    obtain ⟨ρ', e3, h3⟩ := forGo_inv P ds (i + 1) ρ2 h2 fun j d ρ e q => by
      have := st (j + 1) d ρ (by simpa using e) (by rw [show i + (j + 1) = i + 1 + j by omega]; exact q)
      rw [show i + (j + 1) + 1 = i + 1 + j + 1 by omega] at this
      exact this
    refine ⟨ρ', ?_, by rw [List.length_cons, show i + (ds.length + 1) = i + 1 + ds.length by omega]; exact h3⟩
    unfold forGo
    rw [e1]
    show (match b ρ1 with | .nx ρ' => forGo t b ds ρ' | .ct ρ' => forGo t b ds ρ' | .bk ρ' => .nx ρ' | o => o) = _
    rw [e2]
    exact e3
/-- over a range -/
theorem for_upto {t : Tg} {b : Env → Out} (P : Nat → Env → Prop) (lo : Int) (n : Nat) {ρ : Env} (h : P 0 ρ) (st : ∀ j ρ, j < n → P j ρ → ∃ ρ1 ρ2, t.set (.int (lo + j)) ρ = .ok ρ1 ∧ b ρ1 = .nx ρ2 ∧ P (j + 1) ρ2) :
    ∃ ρ', forGo t b (upto lo n) ρ = .nx ρ' ∧ P n ρ' := by
  obtain ⟨ρ', e, q⟩ := forGo_inv P (upto lo n) 0 ρ h fun j d ρ e q => by
    have hj : j < n := by
      have := (List.getElem?_eq_some_iff.mp e).1
      simpa using this
    rw [upto_at hj] at e
    cases e
    rw [Nat.zero_add] at q ⊢
    exact st j ρ hj q
  exact ⟨ρ', e, by simpa using q⟩
/-- a comprehension of whole numbers -/
theorem lcGo_ints {f : D → R V3} {g : D → Int} : ∀ ds : List D, (∀ d ∈ ds, ∃ w, f d = .ok w ∧ w.d = .int (g d) ∧ w.s = []) → lcGo f ds = .ok ((ds.map g).map D.int, [])
  | [], _ => rfl
  | d :: ds, h => by
    obtain ⟨w, e1, e2, e3⟩ := h d List.mem_cons_self
    unfold lcGo
    rw [e1, lcGo_ints ds fun d hd => h d (List.mem_cons_of_mem _ hd)]
    show R.ok (w.d :: (ds.map g).map D.int, w.s ++ []) = _
    rw [e2, e3]
    rfl
theorem upto_mem {lo : Int} {n : Nat} {d : D} (h : d ∈ upto lo n) : ∃ i : Nat, i < n ∧ d = .int (lo + i) := by
  unfold upto at h
  obtain ⟨i, hi, e⟩ := List.mem_map.mp h
  exact ⟨i, List.mem_range.mp hi, e.symm⟩
end Mp

set_option Elab.async false
set_option linter.all false
set_option maxRecDepth 100000
set_option maxHeartbeats 4000000
namespace Mp
abbrev F (k : Nat) : Nat → Fn := pphi FU ptab k
def stepM (room : Int) (inf dr : List Int) (p l : Int) : Option Int := if min room (l + gi inf p) < gi dr p then none else some (min room (l + gi inf p) - gi dr p)
def oi : Option Int → D
  | none => .non
  | some i => .int i
theorem min_if (a b : Int) : (if b < a then b else a) = min a b := by omega
theorem max_if (a b : Int) : (if a < b then b else a) = max a b := by omega
/-- a row of whole numbers: a list or a tuple -/
def Row (d : D) (ns : List Int) : Prop := d = .lst (ns.map D.int) ∨ d = .tup (ns.map D.int)
section
variable (k : Nat)
theorem s_is_integer (v : Int) : F (k + 1) 0 [.int v] = .ok (.bl true, 0) := by
  show run (F k) FU 1 1 b_is_integer _ = _
  simp [Tg.set, setAll, Env.wipe, frz1, sv, V3.at, V3.new, intOf, items, isTy, truth, isL, orBad, bopI, Env.dep, Env.dep1, run_eq, ex, ev, evs, evO, tst, bop, cop, bf, b_is_integer]
theorem s_is_row {d : D} {ns : List Int} (h : Row d ns) : F (k + 1) 1 [d] = .ok (.bl true, 0) := by
  show run (F k) FU 1 1 b_is_row _ = _
  rcases h with rfl | rfl <;> simp [Tg.set, setAll, Env.wipe, frz1, sv, V3.at, V3.new, intOf, items, isTy, truth, isL, orBad, bopI, Env.dep, Env.dep1, run_eq, ex, ev, evs, evO, tst, bop, cop, bf, b_is_row]
theorem s_is_within (v lo hi : Int) : F (k + 2) 2 [.int v, .int lo, .int hi] = .ok (.bl (decide (lo ≤ v ∧ v ≤ hi)), 0) := by
  show run (F (k + 1)) FU 3 3 b_is_within _ = _
  simp [Tg.set, setAll, Env.wipe, frz1, sv, V3.at, V3.new, intOf, items, isTy, truth, isL, orBad, bopI, Env.dep, Env.dep1, run_eq, ex, ev, evs, evO, tst, bop, cop, bf, b_is_within, s_is_integer]
  by_cases h : lo ≤ v <;> simp [Tg.set, setAll, Env.wipe, frz1, sv, V3.at, V3.new, intOf, items, isTy, truth, isL, orBad, bopI, Env.dep, Env.dep1, run_eq, ex, ev, evs, evO, tst, bop, cop, bf, h]
theorem s_check_number (nm : D) (v lo hi : Int) (h : lo ≤ v ∧ v ≤ hi) : F (k + 3) 3 [nm, .int v, .int lo, .int hi] = .ok (.int v, 0) := by
  show run (F (k + 2)) FU 4 4 b_check_number _ = _
  simp [Tg.set, setAll, Env.wipe, frz1, sv, V3.at, V3.new, intOf, items, isTy, truth, isL, orBad, bopI, Env.dep, Env.dep1, run_eq, ex, ev, evs, evO, tst, bop, cop, bf, b_check_number, s_is_within, h]
theorem s_step (room : Int) (inf dr : List Int) (p l : Int) (h1 : 0 ≤ p) (h2 : p < inf.length) (h3 : p < dr.length) :
    F (k + 1) 9 [.int room, .tup (inf.map D.int), .tup (dr.map D.int), .int p, .int l] = .ok (oi (stepM room inf dr p l), 0) := by
  show run (F k) FU 5 6 b_step _ = _
  unfold stepM
  simp [Tg.set, setAll, Env.wipe, frz1, sv, V3.at, V3.new, intOf, items, isTy, truth, isL, orBad, bopI, Env.dep, Env.dep1, run_eq, ex, ev, evs, evO, tst, bop, cop, bf, b_step, atI_li h1 h2, atI_li h1 h3, min_if]
  split <;> simp [Tg.set, setAll, Env.wipe, frz1, sv, V3.at, V3.new, intOf, items, isTy, truth, isL, orBad, bopI, Env.dep, Env.dep1, run_eq, ex, ev, evs, evO, tst, bop, cop, bf, oi]
theorem enum_at {ns : List Int} {j : Nat} {d : D} (h : (enumD (ns.map D.int))[j]? = some d) : ∃ v ∈ ns, d = .tup [.int j, .int v] := by
  unfold enumD at h
  rw [List.getElem?_zipWith] at h
  by_cases hj : j < ns.length
  · rw [List.getElem?_range (by rw [List.length_map]; exact hj), List.getElem?_map, List.getElem?_eq_getElem hj] at h
    exact ⟨ns[j], List.getElem_mem hj, (Option.some.inj h).symm⟩
  · rw [List.getElem?_eq_none (l := ns.map D.int) (by rw [List.length_map]; omega)] at h
    split at h <;> simp_all
theorem s_check_integers (nm : D) {row : D} {ns : List Int} (size lo hi : Int) (hr : Row row ns) (hl : (ns.length : Int) = size) (h : ∀ x ∈ ns, lo ≤ x ∧ x ≤ hi) :
    F (k + 3) 4 [nm, row, .int size, .int lo, .int hi] = .ok (.tup (ns.map D.int), 0) := by
  show run (F (k + 2)) FU 5 7 b_check_integers _ = _
  have fin : ∀ row : D, ∃ x y, forGo (.names [5, 6]) (ex (F (k + 2)) FU l_check_integers_0) (enumD (ns.map D.int))
      [some (nm, 0), some (row, 0), some (.int size, 0), some (.int lo, 0), some (.int hi, 0), none, none] = .nx [some (nm, 0), some (row, 0), some (.int size, 0), some (.int lo, 0), some (.int hi, 0), x, y] := fun row => by
    obtain ⟨ρ', e, x, y, rfl⟩ := forGo_inv (t := .names [5, 6]) (b := ex (F (k + 2)) FU l_check_integers_0)
      (fun _ ρ => ∃ x y, ρ = [some (nm, 0), some (row, 0), some (.int size, 0), some (.int lo, 0), some (.int hi, 0), x, y]) (enumD (ns.map D.int)) 0 _ ⟨none, none, rfl⟩ fun j d ρ e ⟨x, y, er⟩ => by
        obtain ⟨v, hv, rfl⟩ := enum_at e
        subst er
        refine ⟨_, _, rfl, ?_, some (.int j, 0), some (.int v, 0), rfl⟩
        simp [Tg.set, setAll, Env.wipe, frz1, sv, V3.at, V3.new, intOf, items, isTy, truth, isL, orBad, bopI, Env.dep, Env.dep1, run_eq, ex, ev, evs, evO, tst, bop, cop, bf, l_check_integers_0, s_is_within, h v hv]
    exact ⟨x, y, e⟩
  have fl : ∀ row : D, Row row ns → ∃ x y, ex (F (k + 2)) FU f_check_integers_0 [some (nm, 0), some (row, 0), some (.int size, 0), some (.int lo, 0), some (.int hi, 0), none, none] = .nx [some (nm, 0), some (row, 0), some (.int size, 0), some (.int lo, 0), some (.int hi, 0), x, y] := fun row hr => by
    obtain ⟨x, y, e⟩ := fin row
    refine ⟨x, y, ?_⟩
    rcases hr with rfl | rfl
    · rw [f_check_integers_0, ex_for (x := ⟨.lst (enumD (ns.map D.int)), [], []⟩) (ds := enumD (ns.map D.int)) (by simp [Tg.set, setAll, Env.wipe, frz1, sv, V3.at, V3.new, intOf, items, isTy, truth, isL, orBad, bopI, Env.dep, Env.dep1, run_eq, ex, ev, evs, evO, tst, bop, cop, bf]) rfl]
      exact e
    · rw [f_check_integers_0, ex_for (x := ⟨.lst (enumD (ns.map D.int)), [], []⟩) (ds := enumD (ns.map D.int)) (by simp [Tg.set, setAll, Env.wipe, frz1, sv, V3.at, V3.new, intOf, items, isTy, truth, isL, orBad, bopI, Env.dep, Env.dep1, run_eq, ex, ev, evs, evO, tst, bop, cop, bf]) rfl]
      exact e
  obtain ⟨x, y, e⟩ := fl row hr
  rcases hr with rfl | rfl
  · simp [Tg.set, setAll, Env.wipe, frz1, sv, V3.at, V3.new, intOf, items, isTy, truth, isL, orBad, bopI, Env.dep, Env.dep1, run_eq, ex, ev, evs, evO, tst, bop, cop, bf, b_check_integers, s_is_row (k + 1) (ns := ns) (.inl rfl), hl, okD, strsD, depth, eqD, e]
  · simp [Tg.set, setAll, Env.wipe, frz1, sv, V3.at, V3.new, intOf, items, isTy, truth, isL, orBad, bopI, Env.dep, Env.dep1, run_eq, ex, ev, evs, evO, tst, bop, cop, bf, b_check_integers, s_is_row (k + 1) (ns := ns) (.inr rfl), hl, okD, strsD, depth, eqD, e]
end
end Mp

set_option Elab.async false
set_option linter.all false
set_option maxRecDepth 100000
set_option maxHeartbeats 4000000
namespace Mp
/-- rows of a year -/
structure Yr (inf dr : List Int) : Prop where
  len : dr.length = inf.length
  pos : 0 < inf.length
  le : inf.length ≤ 24
  i : ∀ x ∈ inf, 0 ≤ x ∧ x ≤ 1000
  d : ∀ x ∈ dr, 0 ≤ x ∧ x ≤ 1000
theorem fm0 (a : Int) {n : Nat} (h : 0 < n) : 0 ≤ a.fmod n := Int.fmod_nonneg_of_pos a (by omega)
theorem fm1 (a : Int) {n : Nat} (h : 0 < n) : a.fmod n < n := Int.fmod_lt_of_pos a (by omega)
/-- m turns from turn t on: dry at a turn, or what is held then -/
def yrM (room : Int) (inf dr : List Int) (p : Int) : Nat → Nat → Int → Nat ⊕ Int
  | 0, _, l => .inr l
  | m + 1, t, l => match stepM room inf dr ((p + t).fmod inf.length) l with
    | none => .inl t
    | some l' => yrM room inf dr p m (t + 1) l'
/-- how long it lasts -/
def lastM (room : Int) (inf dr : List Int) (p : Int) : Nat → Int → Int → Option Int
  | 0, _, _ => none
  | f + 1, c, l => match yrM room inf dr p inf.length 0 l with
    | .inl t => some (c + t)
    | .inr l' => if l' < l then lastM room inf dr p f (c + inf.length) l' else none
section
variable (k : Nat) {inf dr : List Int} {ri rd : D}
theorem s_check_room (room : Int) (h : 1 ≤ room ∧ room ≤ 1000) : F (k + 4) 5 [.int room] = .ok (.int room, 0) := by
  show run (F (k + 3)) FU 1 1 b_check_room _ = _
  simp [Tg.set, setAll, Env.wipe, frz1, sv, V3.at, V3.new, intOf, items, isTy, truth, isL, orBad, bopI, Env.dep, Env.dep1, run_eq, ex, ev, evs, evO, tst, bop, cop, bf, b_check_room, s_check_number k _ _ _ _ h]
theorem s_check_flows (nm : D) {row : D} {ns : List Int} (hr : Row row ns) (h0 : 0 < ns.length) (h1 : ns.length ≤ 24) (h : ∀ x ∈ ns, 0 ≤ x ∧ x ≤ 1000) : F (k + 4) 6 [nm, row] = .ok (.tup (ns.map D.int), 0) := by
  show run (F (k + 3)) FU 2 2 b_check_flows _ = _
  have e := s_check_integers k nm (ns.length : Int) 0 1000 hr rfl h
  have n0 : ¬ ns.length = 0 := by omega
  have n1 : ¬ (24 : Int) < ns.length := by omega
  rcases hr with rfl | rfl
  · simp [Tg.set, setAll, Env.wipe, frz1, sv, V3.at, V3.new, intOf, items, isTy, truth, isL, orBad, bopI, Env.dep, Env.dep1, run_eq, ex, ev, evs, evO, tst, bop, cop, bf, b_check_flows, s_is_row (k + 2) (ns := ns) (.inl rfl), okD, strsD, depth, eqD, n0, n1, e]
  · simp [Tg.set, setAll, Env.wipe, frz1, sv, V3.at, V3.new, intOf, items, isTy, truth, isL, orBad, bopI, Env.dep, Env.dep1, run_eq, ex, ev, evs, evO, tst, bop, cop, bf, b_check_flows, s_is_row (k + 2) (ns := ns) (.inr rfl), okD, strsD, depth, eqD, n0, n1, e]
theorem s_check_draws {row : D} {ns : List Int} (size : Int) (hr : Row row ns) (hl : (ns.length : Int) = size) (h : ∀ x ∈ ns, 0 ≤ x ∧ x ≤ 1000) : F (k + 4) 7 [row, .int size] = .ok (.tup (ns.map D.int), 0) := by
  show run (F (k + 3)) FU 2 2 b_check_draws _ = _
  have e := fun nm => s_check_integers k nm size 0 1000 hr hl h
  rcases hr with rfl | rfl <;> simp [Tg.set, setAll, Env.wipe, frz1, sv, V3.at, V3.new, intOf, items, isTy, truth, isL, orBad, bopI, Env.dep, Env.dep1, run_eq, ex, ev, evs, evO, tst, bop, cop, bf, b_check_draws, e]
theorem s_check_moment (room n p l : Int) (h1 : 0 ≤ p) (h2 : p < n) (h3 : 0 ≤ l) (h4 : l ≤ room) : F (k + 4) 8 [.int room, .int n, .int p, .int l] = .ok (.non, 0) := by
  show run (F (k + 3)) FU 4 4 b_check_moment _ = _
  simp [Tg.set, setAll, Env.wipe, frz1, sv, V3.at, V3.new, intOf, items, isTy, truth, isL, orBad, bopI, Env.dep, Env.dep1, run_eq, ex, ev, evs, evO, tst, bop, cop, bf, b_check_moment, s_check_number k _ p 0 (n - 1) ⟨h1, by omega⟩, s_check_number k _ l 0 room ⟨h3, h4⟩]
theorem s_year_step (Y : Yr inf dr) (hi : Row ri inf) (hd : Row rd dr) (room p l : Int) (hr : 1 ≤ room ∧ room ≤ 1000) (h1 : 0 ≤ p) (h2 : p < inf.length) (h3 : 0 ≤ l) (h4 : l ≤ room) :
    F (k + 5) 10 [.int room, ri, rd, .int p, .int l] = .ok (oi (stepM room inf dr p l), 0) := by
  show run (F (k + 4)) FU 5 7 b_year_step _ = _
  simp [Tg.set, setAll, Env.wipe, frz1, sv, V3.at, V3.new, intOf, items, isTy, truth, isL, orBad, bopI, Env.dep, Env.dep1, run_eq, ex, ev, evs, evO, tst, bop, cop, bf, b_year_step, s_check_room k room hr, s_check_flows k _ hi Y.pos Y.le Y.i]
  have e2 := s_check_draws k (inf.length : Int) hd (by rw [Y.len]) Y.d
  have e3 := s_step (k + 3) room inf dr p l h1 h2 (by rw [Y.len]; exact h2)
  rcases hi with rfl | rfl <;> rcases hd with rfl | rfl <;> simp [Tg.set, setAll, Env.wipe, frz1, sv, V3.at, V3.new, intOf, items, isTy, truth, isL, orBad, bopI, Env.dep, Env.dep1, run_eq, ex, ev, evs, evO, tst, bop, cop, bf, e2, e3, s_check_moment k room _ p l h1 h2 h3 h4]
end
end Mp

set_option Elab.async false
set_option linter.all false
set_option maxRecDepth 100000
set_option maxHeartbeats 4000000
namespace Mp
section
variable (k : Nat) {inf dr : List Int} {ri rd : D}
/-- a year's turns, as the code goes through them -/
theorem last_turns (Y : Yr inf dr) (room p lv : Int) (c bf_ : Int) : ∀ (m t : Nat) (l : Int) (x : Option (D × Nat)), ∃ x', forGo (.name 10) (ex (F (k + 1)) FU l_lasting_0) (upto t m)
    [some (.int room, 0), some (ri, 0), some (rd, 0), some (.int p, 0), some (.int lv, 0), some (.tup (inf.map D.int), 0), some (.tup (dr.map D.int), 0), some (.int c, 0), some (.int l, 0), some (.int bf_, 0), x] =
    match yrM room inf dr p m t l with
    | .inl t' => .rt (.int (c + t')) 0
    | .inr l' => .nx [some (.int room, 0), some (ri, 0), some (rd, 0), some (.int p, 0), some (.int lv, 0), some (.tup (inf.map D.int), 0), some (.tup (dr.map D.int), 0), some (.int c, 0), some (.int l', 0), some (.int bf_, 0), x'] := by
  intro m
  induction m with
  | zero => exact fun t l x => ⟨x, rfl⟩
  | succ m ih =>
    intro t l x
    have hn : (inf.length : Int) ≠ 0 := by have := Y.pos; omega
    have e1 := s_step k room inf dr ((p + t).fmod inf.length) l (fm0 _ Y.pos) (fm1 _ Y.pos) (by rw [Y.len]; exact fm1 _ Y.pos)
    have hn0 : ¬ inf = [] := fun z => by rw [z] at hn; exact hn rfl
    rw [upto_s]
    unfold yrM
    cases es : stepM room inf dr ((p + t).fmod inf.length) l with
    | none =>
      rw [es] at e1
      exact ⟨none, forGo_rt rfl (by simp [Tg.set, setAll, Env.wipe, frz1, sv, V3.at, V3.new, intOf, items, isTy, truth, isL, orBad, bopI, Env.dep, Env.dep1, run_eq, ex, ev, evs, evO, tst, bop, cop, bf, l_lasting_0, hn0, e1, oi])⟩
    | some l' =>
      rw [es] at e1
      obtain ⟨x', e2⟩ := ih (t + 1) l' (some (.int t, 0))
      exact ⟨x', (forGo_nx rfl (by simp [Tg.set, setAll, Env.wipe, frz1, sv, V3.at, V3.new, intOf, items, isTy, truth, isL, orBad, bopI, Env.dep, Env.dep1, run_eq, ex, ev, evs, evO, tst, bop, cop, bf, l_lasting_0, hn0, e1, oi])).trans e2⟩
/-- every year it holds less, or it lasts: fuel enough -/
theorem last_years (Y : Yr inf dr) (room p lv : Int) : ∀ (f g : Nat) (c l b : Int) (x : Option (D × Nat)), l < b → 0 ≤ l → l.toNat + 1 < f → f ≤ g → (∀ l l', 0 ≤ l → yrM room inf dr p inf.length 0 l = .inr l' → 0 ≤ l') →
    ∃ ρ', whlGo (tst (F (k + 1)) (.cmp .lt (.var 8) (.var 9))) (ex (F (k + 1)) FU l_lasting_1) g
    [some (.int room, 0), some (ri, 0), some (rd, 0), some (.int p, 0), some (.int lv, 0), some (.tup (inf.map D.int), 0), some (.tup (dr.map D.int), 0), some (.int c, 0), some (.int l, 0), some (.int b, 0), x] =
    match lastM room inf dr p f c l with
    | some v => .rt (.int v) 0
    | none => .nx ρ' := by
  intro f
  induction f with
  | zero => intro g c l b x _ _ h; omega
  | succ f ih =>
    intro g c l b x hb h0 hf hg hnn
    obtain ⟨g, rfl⟩ : ∃ g', g = g' + 1 := ⟨g - 1, by omega⟩
    obtain ⟨x', e⟩ := last_turns k (ri := ri) (rd := rd) Y room p lv c l inf.length 0 l x
    have hrng : rngOk (inf.length : Int) := rng_ok (by have := Y.le; omega)
    have hc : ∀ (l b : Int) (c : Int) (x : Option (D × Nat)), tst (F (k + 1)) (.cmp .lt (.var 8) (.var 9)) [some (.int room, 0), some (ri, 0), some (rd, 0), some (.int p, 0), some (.int lv, 0), some (.tup (inf.map D.int), 0), some (.tup (dr.map D.int), 0), some (.int c, 0), some (.int l, 0), some (.int b, 0), x] = .ok (decide (l < b)) := fun l b c x => by simp [Tg.set, setAll, Env.wipe, frz1, sv, V3.at, V3.new, intOf, items, isTy, truth, isL, orBad, bopI, Env.dep, Env.dep1, run_eq, ex, ev, evs, evO, tst, bop, cop, bf]
    have hb1 : ex (F (k + 1)) FU l_lasting_1 [some (.int room, 0), some (ri, 0), some (rd, 0), some (.int p, 0), some (.int lv, 0), some (.tup (inf.map D.int), 0), some (.tup (dr.map D.int), 0), some (.int c, 0), some (.int l, 0), some (.int b, 0), x] =
        (match yrM room inf dr p inf.length 0 l with
        | .inl t' => .rt (.int (c + t')) 0
        | .inr l' => .nx [some (.int room, 0), some (ri, 0), some (rd, 0), some (.int p, 0), some (.int lv, 0), some (.tup (inf.map D.int), 0), some (.tup (dr.map D.int), 0), some (.int (c + inf.length), 0), some (.int l', 0), some (.int l, 0), x']) := by
      have ef : ∀ c l b : Int, ex (F (k + 1)) FU f_lasting_0 [some (.int room, 0), some (ri, 0), some (rd, 0), some (.int p, 0), some (.int lv, 0), some (.tup (inf.map D.int), 0), some (.tup (dr.map D.int), 0), some (.int c, 0), some (.int l, 0), some (.int b, 0), x] =
          forGo (.name 10) (ex (F (k + 1)) FU l_lasting_0) (upto 0 inf.length) [some (.int room, 0), some (ri, 0), some (rd, 0), some (.int p, 0), some (.int lv, 0), some (.tup (inf.map D.int), 0), some (.tup (dr.map D.int), 0), some (.int c, 0), some (.int l, 0), some (.int b, 0), x] := fun c l b => by
        rw [f_lasting_0, ex_for1 (x := .at (.int inf.length)) (j := inf.length) (by simp [Tg.set, setAll, Env.wipe, frz1, sv, V3.at, V3.new, intOf, items, isTy, truth, isL, orBad, bopI, Env.dep, Env.dep1, run_eq, ex, ev, evs, evO, tst, bop, cop, bf]) rfl hrng, Int.toNat_natCast]
      have e' : forGo (.name 10) (ex (F (k + 1)) FU l_lasting_0) (upto 0 inf.length) _ = _ := e
      simp [Tg.set, setAll, Env.wipe, frz1, sv, V3.at, V3.new, intOf, items, isTy, truth, isL, orBad, bopI, Env.dep, Env.dep1, run_eq, ex, ev, evs, evO, tst, bop, cop, bf, l_lasting_1, ef, e']
      cases yrM room inf dr p inf.length 0 l <;> simp [Tg.set, setAll, Env.wipe, frz1, sv, V3.at, V3.new, intOf, items, isTy, truth, isL, orBad, bopI, Env.dep, Env.dep1, run_eq, ex, ev, evs, evO, tst, bop, cop, bf]
    unfold lastM
    cases ey : yrM room inf dr p inf.length 0 l with
    | inl t =>
      rw [ey] at hb1
      exact ⟨[], whl_rt (by rw [hc, decide_eq_true hb]) hb1⟩
    | inr l' =>
      rw [ey] at hb1
      have w := whl_nx (c := tst (F (k + 1)) (.cmp .lt (.var 8) (.var 9))) (n := g) (by rw [hc, decide_eq_true hb]) hb1
      by_cases h2 : l' < l
      · obtain ⟨ρ', e'⟩ := ih g (c + inf.length) l' l x' h2 (hnn l l' h0 ey) (by have := hnn l l' h0 ey; omega) (by omega) hnn
        refine ⟨ρ', w.trans ?_⟩
        simp only [if_pos h2]
        exact e'
      · obtain ⟨g, rfl⟩ : ∃ g', g = g' + 1 := ⟨g - 1, by omega⟩
        simp only [if_neg h2]
        exact ⟨_, w.trans (whl_f (by rw [hc, decide_eq_false h2]))⟩
theorem step_nn (Y : Yr inf dr) {room p l l' : Int} (h : stepM room inf dr p l = some l') : 0 ≤ l' := by
  unfold stepM at h
  split at h
  · cases h
  · have e := Option.some.inj h
    omega
theorem yr_nn (Y : Yr inf dr) {room p : Int} : ∀ {m t : Nat} {l l' : Int}, 0 ≤ l → yrM room inf dr p m t l = .inr l' → 0 ≤ l'
  | 0, _, l, l', h, e => by
    cases e
    exact h
  | m + 1, t, l, l', h, e => by
    unfold yrM at e
    cases es : stepM room inf dr ((p + t).fmod inf.length) l with
    | none => rw [es] at e; cases e
    | some l2 =>
      rw [es] at e
      exact yr_nn Y (step_nn Y es) e
theorem s_lasting (Y : Yr inf dr) (hi : Row ri inf) (hd : Row rd dr) (room p l : Int) (hr : 1 ≤ room ∧ room ≤ 1000) (h1 : 0 ≤ p) (h2 : p < inf.length) (h3 : 0 ≤ l) (h4 : l ≤ room) (f : Nat) (hf : l.toNat + 1 < f) (hf2 : f ≤ FU) :
    F (k + 5) 11 [.int room, ri, rd, .int p, .int l] = .ok (oi (lastM room inf dr p f 0 l), 0) := by
  show run (F (k + 4)) FU 5 11 b_lasting _ = _
  have e2 := s_check_draws k (inf.length : Int) hd (by rw [Y.len]) Y.d
  have e3 : ∃ ρ', ex (F (k + 4)) FU f_lasting_1 [some (.int room, 0), some (ri, 0), some (rd, 0), some (.int p, 0), some (.int l, 0), some (.tup (inf.map D.int), 0), some (.tup (dr.map D.int), 0), some (.int 0, 0), some (.int l, 0), some (.int (l + 1), 0), none] =
    match lastM room inf dr p f 0 l with
    | some v => .rt (.int v) 0
    | none => .nx ρ' := by
    rw [f_lasting_1, ex]
    exact last_years (k + 3) (ri := ri) (rd := rd) Y room p l f FU 0 l (l + 1) none (by omega) h3 hf hf2 (fun l l' q e => yr_nn Y q e)
  obtain ⟨ρ', e3⟩ := e3
  simp [Tg.set, setAll, Env.wipe, frz1, sv, V3.at, V3.new, intOf, items, isTy, truth, isL, orBad, bopI, Env.dep, Env.dep1, run_eq, ex, ev, evs, evO, tst, bop, cop, bf, b_lasting, s_check_room k room hr, s_check_flows k _ hi Y.pos Y.le Y.i]
  cases el : lastM room inf dr p f 0 l with
  | none =>
    rw [el] at e3
    rcases hi with rfl | rfl <;> rcases hd with rfl | rfl <;> simp [Tg.set, setAll, Env.wipe, frz1, sv, V3.at, V3.new, intOf, items, isTy, truth, isL, orBad, bopI, Env.dep, Env.dep1, run_eq, ex, ev, evs, evO, tst, bop, cop, bf, e2, s_check_moment k room _ p l h1 h2 h3 h4, e3, oi]
  | some v =>
    rw [el] at e3
    rcases hi with rfl | rfl <;> rcases hd with rfl | rfl <;> simp [Tg.set, setAll, Env.wipe, frz1, sv, V3.at, V3.new, intOf, items, isTy, truth, isL, orBad, bopI, Env.dep, Env.dep1, run_eq, ex, ev, evs, evO, tst, bop, cop, bf, e2, s_check_moment k room _ p l h1 h2 h3 h4, e3, oi]

/-! ### the law's own -/
theorem s_law_step (Y : Yr inf dr) (room p l : Int) (h1 : 0 ≤ p) (h2 : p < inf.length) :
    F (k + 1) 21 [.int room, .lst (inf.map D.int), .lst (dr.map D.int), .int p, .int l] = .ok (.int ((stepM room inf dr p l).getD (-1)), 0) := by
  show run (F k) FU 5 5 b__law_step _ = _
  simp [Tg.set, setAll, Env.wipe, frz1, sv, V3.at, V3.new, intOf, items, isTy, truth, isL, orBad, bopI, Env.dep, Env.dep1, run_eq, ex, ev, evs, evO, tst, bop, cop, bf, b__law_step, atI_li h1 h2, atI_li h1 (show p < dr.length by rw [Y.len]; exact h2), min_if]
  unfold stepM
  by_cases h : min room (l + gi inf p) < gi dr p
  · rw [if_pos h, if_neg (by omega)]
    rfl
  · rw [if_neg h, if_pos (by omega)]
    rfl
theorem law_turns (Y : Yr inf dr) (room p c : Int) (yr bf_ : D) : ∀ (m t : Nat) (l : Int) (x : Option (D × Nat)), ∃ x', forGo (.name 8) (ex (F (k + 1)) FU l__law_lasting_0) (upto t m)
    [some (.int room, 0), some (.lst (inf.map D.int), 0), some (.lst (dr.map D.int), 0), some (.int p, 0), some (.int l, 0), some (.int (c + t), 0), some (yr, 0), some (bf_, 0), x] =
    match yrM room inf dr p m t l with
    | .inl t' => .rt (.int (c + t')) 0
    | .inr l' => .nx [some (.int room, 0), some (.lst (inf.map D.int), 0), some (.lst (dr.map D.int), 0), some (.int p, 0), some (.int l', 0), some (.int (c + t + m), 0), some (yr, 0), some (bf_, 0), x'] := by
  intro m
  induction m with
  | zero =>
    intro t l x
    refine ⟨x, ?_⟩
    show _ = Out.nx _
    rw [show c + (t : Int) + ((0 : Nat) : Int) = c + t by omega]
    rfl
  | succ m ih =>
    intro t l x
    have hn0 : ¬ inf = [] := fun z => by
      have := Y.pos
      rw [z] at this
      exact absurd this (by simp [Tg.set, setAll, Env.wipe, frz1, sv, V3.at, V3.new, intOf, items, isTy, truth, isL, orBad, bopI, Env.dep, Env.dep1, run_eq, ex, ev, evs, evO, tst, bop, cop, bf])
    have hl := Y.len
    have e1 := s_law_step k Y room ((p + t).fmod inf.length) l (fm0 _ Y.pos) (fm1 _ Y.pos)
    rw [upto_s]
    unfold yrM
    cases es : stepM room inf dr ((p + t).fmod inf.length) l with
    | none =>
      rw [es] at e1
      exact ⟨none, forGo_rt rfl (by simp [Tg.set, setAll, Env.wipe, frz1, sv, V3.at, V3.new, intOf, items, isTy, truth, isL, orBad, bopI, Env.dep, Env.dep1, run_eq, ex, ev, evs, evO, tst, bop, cop, bf, l__law_lasting_0, hl, hn0, e1])⟩
    | some l' =>
      rw [es] at e1
      have h0 := step_nn Y es
      obtain ⟨x', e2⟩ := ih (t + 1) l' (some (.int t, 0))
      refine ⟨x', (forGo_nx (ρ2 := [some (.int room, 0), some (.lst (inf.map D.int), 0), some (.lst (dr.map D.int), 0), some (.int p, 0), some (.int l', 0), some (.int (c + (t + 1 : Nat)), 0), some (yr, 0), some (bf_, 0), some (.int t, 0)]) rfl ?_).trans ?_⟩
      · have h1 : ¬ l' < 0 := by omega
        simp [Tg.set, setAll, Env.wipe, frz1, sv, V3.at, V3.new, intOf, items, isTy, truth, isL, orBad, bopI, Env.dep, Env.dep1, run_eq, ex, ev, evs, evO, tst, bop, cop, bf, l__law_lasting_0, hl, hn0, e1, h1]
        omega
      · rw [show c + (t : Int) + ((m + 1 : Nat) : Int) = c + ((t + 1 : Nat) : Int) + (m : Int) by omega]
        exact e2
theorem law_years (Y : Yr inf dr) (room p : Int) : ∀ (m : Nat) (y c l : Int) (a b x : Option (D × Nat)), (forGo (.name 6) (ex (F (k + 1)) FU l__law_lasting_1) (upto y m)
    [some (.int room, 0), some (.lst (inf.map D.int), 0), some (.lst (dr.map D.int), 0), some (.int p, 0), some (.int l, 0), some (.int c, 0), a, b, x] = .rt (.int ((lastM room inf dr p m c l).getD (-1))) 0) ∨
    ∃ ρ', (forGo (.name 6) (ex (F (k + 1)) FU l__law_lasting_1) (upto y m)
    [some (.int room, 0), some (.lst (inf.map D.int), 0), some (.lst (dr.map D.int), 0), some (.int p, 0), some (.int l, 0), some (.int c, 0), a, b, x] = .nx ρ') ∧ lastM room inf dr p m c l = none := by
  intro m
  induction m with
  | zero => exact fun y c l a b x => .inr ⟨_, rfl, rfl⟩
  | succ m ih =>
    intro y c l a b x
    obtain ⟨x', e⟩ := law_turns k Y room p c (.int y) (.int l) inf.length 0 l x
    have hrng : rngOk (inf.length : Int) := rng_ok (by have := Y.le; omega)
    have hl := Y.len
    have ef : ex (F (k + 1)) FU f__law_lasting_0 [some (.int room, 0), some (.lst (inf.map D.int), 0), some (.lst (dr.map D.int), 0), some (.int p, 0), some (.int l, 0), some (.int c, 0), some (.int y, 0), some (.int l, 0), x] =
        forGo (.name 8) (ex (F (k + 1)) FU l__law_lasting_0) (upto 0 inf.length) [some (.int room, 0), some (.lst (inf.map D.int), 0), some (.lst (dr.map D.int), 0), some (.int p, 0), some (.int l, 0), some (.int c, 0), some (.int y, 0), some (.int l, 0), x] := by
      rw [f__law_lasting_0, ex_for1 (x := .at (.int inf.length)) (j := inf.length) (by simp [Tg.set, setAll, Env.wipe, frz1, sv, V3.at, V3.new, intOf, items, isTy, truth, isL, orBad, bopI, Env.dep, Env.dep1, run_eq, ex, ev, evs, evO, tst, bop, cop, bf, hl]) rfl hrng, Int.toNat_natCast]
    rw [show c + ((0 : Nat) : Int) = c by omega] at e
    have e' : forGo (.name 8) (ex (F (k + 1)) FU l__law_lasting_0) (upto 0 inf.length) _ = _ := e
    rw [upto_s]
    unfold lastM
    cases ey : yrM room inf dr p inf.length 0 l with
    | inl t =>
      rw [ey] at e'
      exact .inl (forGo_rt rfl (by simp [Tg.set, setAll, Env.wipe, frz1, sv, V3.at, V3.new, intOf, items, isTy, truth, isL, orBad, bopI, Env.dep, Env.dep1, run_eq, ex, ev, evs, evO, tst, bop, cop, bf, l__law_lasting_1, ef, e']))
    | inr l' =>
      rw [ey] at e'
      by_cases h2 : l' < l
      · have hb : ex (F (k + 1)) FU l__law_lasting_1 [some (.int room, 0), some (.lst (inf.map D.int), 0), some (.lst (dr.map D.int), 0), some (.int p, 0), some (.int l, 0), some (.int c, 0), some (.int y, 0), b, x] =
            .nx [some (.int room, 0), some (.lst (inf.map D.int), 0), some (.lst (dr.map D.int), 0), some (.int p, 0), some (.int l', 0), some (.int (c + inf.length), 0), some (.int y, 0), some (.int l, 0), x'] := by
          have h3 : ¬ l ≤ l' := by omega
          simp [Tg.set, setAll, Env.wipe, frz1, sv, V3.at, V3.new, intOf, items, isTy, truth, isL, orBad, bopI, Env.dep, Env.dep1, run_eq, ex, ev, evs, evO, tst, bop, cop, bf, l__law_lasting_1, ef, e', h3]
        have w := forGo_nx (t := .name 6) (d := .int y) (ds := upto (y + 1) m) (ρ := [some (.int room, 0), some (.lst (inf.map D.int), 0), some (.lst (dr.map D.int), 0), some (.int p, 0), some (.int l, 0), some (.int c, 0), a, b, x]) (by rfl) hb
        simp only [if_pos h2]
        rw [w]
        exact ih (y + 1) (c + inf.length) l' _ _ _
      · simp only [if_neg h2]
        have h3 : l ≤ l' := by omega
        exact .inl (forGo_rt rfl (by simp [Tg.set, setAll, Env.wipe, frz1, sv, V3.at, V3.new, intOf, items, isTy, truth, isL, orBad, bopI, Env.dep, Env.dep1, run_eq, ex, ev, evs, evO, tst, bop, cop, bf, l__law_lasting_1, ef, e', h3]))
theorem s_law_lasting (Y : Yr inf dr) (room p l : Int) (hr : 1 ≤ room ∧ room ≤ 1000) :
    F (k + 2) 22 [.int room, .lst (inf.map D.int), .lst (dr.map D.int), .int p, .int l] = .ok (.int ((lastM room inf dr p (room + 2).toNat 0 l).getD (-1)), 0) := by
  show run (F (k + 1)) FU 5 9 b__law_lasting _ = _
  have hrng : rngOk (room + 2) := by
    have := rng_ok (n := (room + 2).toNat) (by omega)
    rwa [show (((room + 2).toNat : Nat) : Int) = room + 2 by omega] at this
  have ef : ex (F (k + 1)) FU f__law_lasting_1 [some (.int room, 0), some (.lst (inf.map D.int), 0), some (.lst (dr.map D.int), 0), some (.int p, 0), some (.int l, 0), some (.int 0, 0), none, none, none] =
      forGo (.name 6) (ex (F (k + 1)) FU l__law_lasting_1) (upto 0 (room + 2).toNat) [some (.int room, 0), some (.lst (inf.map D.int), 0), some (.lst (dr.map D.int), 0), some (.int p, 0), some (.int l, 0), some (.int 0, 0), none, none, none] := by
    rw [f__law_lasting_1, ex_for1 (x := .at (.int (room + 2))) (j := room + 2) (by simp [Tg.set, setAll, Env.wipe, frz1, sv, V3.at, V3.new, intOf, items, isTy, truth, isL, orBad, bopI, Env.dep, Env.dep1, run_eq, ex, ev, evs, evO, tst, bop, cop, bf]) rfl hrng]
  rcases law_years k Y room p (room + 2).toNat 0 0 l none none none with e | ⟨ρ', e, e2⟩
  · simp [Tg.set, setAll, Env.wipe, frz1, sv, V3.at, V3.new, intOf, items, isTy, truth, isL, orBad, bopI, Env.dep, Env.dep1, run_eq, ex, ev, evs, evO, tst, bop, cop, bf, b__law_lasting, ef, e]
  · simp [Tg.set, setAll, Env.wipe, frz1, sv, V3.at, V3.new, intOf, items, isTy, truth, isL, orBad, bopI, Env.dep, Env.dep1, run_eq, ex, ev, evs, evO, tst, bop, cop, bf, b__law_lasting, ef, e, e2]
theorem s_law_is (o : Option Int) (h : ∀ v, o = some v → v ≠ -1) : F (k + 1) 20 [oi o, .int (o.getD (-1))] = .ok (.bl true, 0) := by
  show run (F k) FU 2 2 b__law_is _ = _
  cases o with
  | none => simp [Tg.set, setAll, Env.wipe, frz1, sv, V3.at, V3.new, intOf, items, isTy, truth, isL, orBad, bopI, Env.dep, Env.dep1, run_eq, ex, ev, evs, evO, tst, bop, cop, bf, b__law_is, oi, okD, strsD, depth, eqD]
  | some v =>
    have := h v rfl
    simp [Tg.set, setAll, Env.wipe, frz1, sv, V3.at, V3.new, intOf, items, isTy, truth, isL, orBad, bopI, Env.dep, Env.dep1, run_eq, ex, ev, evs, evO, tst, bop, cop, bf, b__law_is, oi, okD, strsD, depth, eqD, this]
theorem last_nn : ∀ {m : Nat} {room p c l v : Int}, 0 ≤ c → lastM room inf dr p m c l = some v → 0 ≤ v
  | 0, _, _, _, _, _, _, e => by cases e
  | m + 1, room, p, c, l, v, h, e => by
    unfold lastM at e
    split at e
    · have := Option.some.inj e
      omega
    · split at e
      · exact last_nn (by omega) e
      · cases e
end
end Mp

set_option Elab.async false
set_option linter.all false
set_option maxRecDepth 100000
set_option maxHeartbeats 4000000
namespace Mp
/-- the fall over j turns more -/
def totM (inf dr : List Int) (s : Int) : Nat → Int
  | 0 => gi dr s
  | j + 1 => totM inf dr s j + gi dr ((s + ((j + 1 : Nat) : Int)).fmod inf.length) - gi inf ((s + ((j + 1 : Nat) : Int)).fmod inf.length)
abbrev B3 := Int × Int × Int
def rowM (inf dr : List Int) (s : Int) : Nat → B3 → B3
  | 0, b => b
  | j + 1, b => if (rowM inf dr s j b).2.2 < totM inf dr s j then (s, ((j + 1 : Nat) : Int), totM inf dr s j) else rowM inf dr s j b
def allM (inf dr : List Int) : Nat → B3
  | 0 => (0, 1, gi dr 0)
  | s + 1 => rowM inf dr s inf.length (allM inf dr s)
def b3 (b : B3) : List D := [.int b.1, .int b.2.1, .int b.2.2]
theorem at3_0 (a b c : D) : atI [a, b, c] 0 = some a := rfl
theorem at3_1 (a b c : D) : atI [a, b, c] 1 = some b := rfl
theorem at3_2 (a b c : D) : atI [a, b, c] 2 = some c := rfl
theorem fms {s : Int} {n : Nat} (h : 0 ≤ s) (h2 : s < n) : s.fmod n = s := by
  rw [Int.fmod_eq_emod_of_nonneg _ (by omega)]
  exact Int.emod_eq_of_lt h h2
section
variable (k : Nat) {inf dr : List Int} {ri rd : D}
theorem ne0 (Y : Yr inf dr) : ¬ inf = [] := fun z => by
  have := Y.pos
  rw [z] at this
  exact absurd this (by simp [Tg.set, setAll, Env.wipe, frz1, sv, V3.at, V3.new, intOf, items, isTy, truth, isL, orBad, bopI, Env.dep, Env.dep1, run_eq, ex, ev, evs, evO, tst, bop, cop, bf])
theorem fall_turn (Y : Yr inf dr) (s t tot : Int) (x b : Option (D × Nat)) : ex (F k) FU l_fall_of_0 [some (.tup (inf.map D.int), 0), some (.tup (dr.map D.int), 0), some (.int s, 0), x, some (.int tot, 0), some (.int t, 0), b] =
    .nx [some (.tup (inf.map D.int), 0), some (.tup (dr.map D.int), 0), some (.int s, 0), x, some (.int (tot + gi dr ((s + t).fmod inf.length) - gi inf ((s + t).fmod inf.length)), 0), some (.int t, 0), some (.int ((s + t).fmod inf.length), 0)] := by
  have hl := Y.len
  have hn0 := ne0 Y
  have f0 := fm0 (s + t) Y.pos
  have f1 := fm1 (s + t) Y.pos
  have hq := atI_li f0 f1
  have hq2 := atI_li (ns := dr) f0 (by rw [hl]; exact f1)
  simp [Tg.set, setAll, Env.wipe, frz1, sv, V3.at, V3.new, intOf, items, isTy, truth, isL, orBad, bopI, Env.dep, Env.dep1, run_eq, ex, ev, evs, evO, tst, bop, cop, bf, l_fall_of_0, hl, hn0, hq, hq2]
theorem law_fall_turn (Y : Yr inf dr) (s t tot : Int) (x b : Option (D × Nat)) : ex (F k) FU l__law_fall_0 [some (.lst (inf.map D.int), 0), some (.lst (dr.map D.int), 0), some (.int s, 0), x, some (.int tot, 0), some (.int t, 0), b] =
    .nx [some (.lst (inf.map D.int), 0), some (.lst (dr.map D.int), 0), some (.int s, 0), x, some (.int (tot + gi dr ((s + t).fmod inf.length) - gi inf ((s + t).fmod inf.length)), 0), some (.int t, 0), some (.int ((s + t).fmod inf.length), 0)] := by
  have hl := Y.len
  have hn0 := ne0 Y
  have f0 := fm0 (s + t) Y.pos
  have f1 := fm1 (s + t) Y.pos
  have hq := atI_li f0 f1
  have hq2 := atI_li (ns := dr) f0 (by rw [hl]; exact f1)
  simp [Tg.set, setAll, Env.wipe, frz1, sv, V3.at, V3.new, intOf, items, isTy, truth, isL, orBad, bopI, Env.dep, Env.dep1, run_eq, ex, ev, evs, evO, tst, bop, cop, bf, l__law_fall_0, hl, hn0, hq, hq2]
theorem s_fall_of (Y : Yr inf dr) (s len : Int) (j : Nat) (h1 : 0 ≤ s) (h2 : s < inf.length) (hj : j + 1 ≤ inf.length) (hlen : len = j + 1) :
    F (k + 1) 12 [.tup (inf.map D.int), .tup (dr.map D.int), .int s, .int len] = .ok (.int (totM inf dr s j), 0) := by
  show run (F k) FU 4 7 b_fall_of _ = _
  have hl := Y.len
  have hle := Y.le
  obtain ⟨ρ', e, a, b, rfl⟩ := for_upto (t := .name 5) (b := ex (F k) FU l_fall_of_0) (fun j' ρ => ∃ a b, ρ = [some (.tup (inf.map D.int), 0), some (.tup (dr.map D.int), 0), some (.int s, 0), some (.int len, 0), some (.int (totM inf dr s j'), 0), a, b]) 1 j ⟨none, none, rfl⟩ fun j' ρ hj' ⟨a, b, er⟩ => by
    subst er
    refine ⟨_, _, rfl, fall_turn k Y s (1 + j') _ _ b, some (.int (1 + j'), 0), some (.int ((s + (1 + (j' : Int))).fmod inf.length), 0), ?_⟩
    have e0 : s + (1 + (j' : Int)) = s + ((j' + 1 : Nat) : Int) := by omega
    simp only [totM, e0]
  have ef : ex (F k) FU f_fall_of_0 [some (.tup (inf.map D.int), 0), some (.tup (dr.map D.int), 0), some (.int s, 0), some (.int len, 0), some (.int (gi dr s), 0), none, none] = .nx [some (.tup (inf.map D.int), 0), some (.tup (dr.map D.int), 0), some (.int s, 0), some (.int len, 0), some (.int (totM inf dr s j), 0), a, b] := by
    rw [f_fall_of_0, ex_for2 (x := .at (.int 1)) (i := 1) (y := .at (.int len)) (j := len) (by simp [Tg.set, setAll, Env.wipe, frz1, sv, V3.at, V3.new, intOf, items, isTy, truth, isL, orBad, bopI, Env.dep, Env.dep1, run_eq, ex, ev, evs, evO, tst, bop, cop, bf]) rfl (by simp [Tg.set, setAll, Env.wipe, frz1, sv, V3.at, V3.new, intOf, items, isTy, truth, isL, orBad, bopI, Env.dep, Env.dep1, run_eq, ex, ev, evs, evO, tst, bop, cop, bf]) rfl (rng_ok (n := 1) (by omega)) (by
      have := rng_ok (n := j + 1) (by omega)
      rwa [show ((j + 1 : Nat) : Int) = len by omega] at this), show (len - 1).toNat = j by omega]
    exact e
  have ea := atI_li (ns := dr) h1 (by rw [hl]; exact h2)
  simp [Tg.set, setAll, Env.wipe, frz1, sv, V3.at, V3.new, intOf, items, isTy, truth, isL, orBad, bopI, Env.dep, Env.dep1, run_eq, ex, ev, evs, evO, tst, bop, cop, bf, b_fall_of, ea, ef]
theorem s_law_fall (Y : Yr inf dr) (s len : Int) (j : Nat) (h1 : 0 ≤ s) (h2 : s < inf.length) (hj : j + 1 ≤ inf.length) (hlen : len = j + 1) :
    F (k + 1) 23 [.lst (inf.map D.int), .lst (dr.map D.int), .int s, .int len] = .ok (.int (totM inf dr s j), 0) := by
  show run (F k) FU 4 7 b__law_fall _ = _
  have hl := Y.len
  have hle := Y.le
  obtain ⟨ρ', e, a, b, rfl⟩ := for_upto (t := .name 5) (b := ex (F k) FU l__law_fall_0) (fun j' ρ => ∃ a b, ρ = [some (.lst (inf.map D.int), 0), some (.lst (dr.map D.int), 0), some (.int s, 0), some (.int len, 0), some (.int (match j' with | 0 => gi inf s | i + 1 => totM inf dr s i), 0), a, b]) 0 (j + 1) ⟨none, none, rfl⟩ fun j' ρ hj' ⟨a, b, er⟩ => by
    subst er
    refine ⟨_, _, rfl, law_fall_turn k Y s (0 + j') _ _ b, some (.int (0 + j'), 0), some (.int ((s + (0 + (j' : Int))).fmod inf.length), 0), ?_⟩
    cases j' with
    | zero =>
      have e0 : s + (0 + ((0 : Nat) : Int)) = s := by omega
      rw [e0, fms h1 h2]
      simp only [totM]
      rw [show gi inf s + gi dr s - gi inf s = gi dr s by omega]
    | succ i =>
      have e0 : s + (0 + ((i + 1 : Nat) : Int)) = s + ((i + 1 : Nat) : Int) := by omega
      simp only [totM, e0]
  have ef : ex (F k) FU f__law_fall_0 [some (.lst (inf.map D.int), 0), some (.lst (dr.map D.int), 0), some (.int s, 0), some (.int len, 0), some (.int (gi inf s), 0), none, none] = .nx [some (.lst (inf.map D.int), 0), some (.lst (dr.map D.int), 0), some (.int s, 0), some (.int len, 0), some (.int (totM inf dr s j), 0), a, b] := by
    rw [f__law_fall_0, ex_for1 (x := .at (.int len)) (j := len) (by simp [Tg.set, setAll, Env.wipe, frz1, sv, V3.at, V3.new, intOf, items, isTy, truth, isL, orBad, bopI, Env.dep, Env.dep1, run_eq, ex, ev, evs, evO, tst, bop, cop, bf]) rfl (by
      have := rng_ok (n := j + 1) (by omega)
      rwa [show ((j + 1 : Nat) : Int) = len by omega] at this), show len.toNat = j + 1 by omega]
    exact e
  have ea := atI_li (ns := inf) h1 h2
  simp [Tg.set, setAll, Env.wipe, frz1, sv, V3.at, V3.new, intOf, items, isTy, truth, isL, orBad, bopI, Env.dep, Env.dep1, run_eq, ex, ev, evs, evO, tst, bop, cop, bf, b__law_fall, ea, ef]
/-! ### the worst run -/
theorem worst_in (Y : Yr inf dr) (s : Int) (h1 : 0 ≤ s) (h2 : s < inf.length) (j : Nat) (b : B3) (x y : Option (D × Nat)) :
    ex (F k) FU l_worst_of_0 [some (.tup (inf.map D.int), 0), some (.tup (dr.map D.int), 0), some (.tup (b3 b), 0), some (.int s, 0), some (.int (match j with | 0 => gi dr s | i + 1 => totM inf dr s i), 0), some (.int (1 + j), 0), x] =
    .nx [some (.tup (inf.map D.int), 0), some (.tup (dr.map D.int), 0), some (.tup (b3 (if b.2.2 < totM inf dr s j then (s, ((j + 1 : Nat) : Int), totM inf dr s j) else b)), 0), some (.int s, 0), some (.int (totM inf dr s j), 0), some (.int (1 + j), 0), (match j with | 0 => x | i + 1 => some (.int ((s + ((i + 1 : Nat) : Int)).fmod inf.length), 0))] := by
  have hl := Y.len
  have hn0 := ne0 Y
  have f0 := fm0 (s + (j : Int)) Y.pos
  have f1 := fm1 (s + (j : Int)) Y.pos
  have hq := atI_li f0 f1
  have hq2 := atI_li (ns := dr) f0 (by rw [hl]; exact f1)
  have e1 : s + (1 + (j : Int)) - 1 = s + j := by omega
  obtain ⟨b1, b2, b4⟩ := b
  cases j with
  | zero =>
    by_cases h : b4 < gi dr s
    · simp [Tg.set, setAll, Env.wipe, frz1, sv, V3.at, V3.new, intOf, items, isTy, truth, isL, orBad, bopI, Env.dep, Env.dep1, run_eq, ex, ev, evs, evO, tst, bop, cop, bf, l_worst_of_0, b3, at3_2, totM, h, szl]
    · simp [Tg.set, setAll, Env.wipe, frz1, sv, V3.at, V3.new, intOf, items, isTy, truth, isL, orBad, bopI, Env.dep, Env.dep1, run_eq, ex, ev, evs, evO, tst, bop, cop, bf, l_worst_of_0, b3, at3_2, totM, h, szl]
  | succ i =>
    have e2 : (1 : Int) < 1 + ((i : Int) + 1) := by omega
    have e3 : (s + (1 + ((i : Int) + 1)) - 1) = s + ((i : Int) + 1) := by omega
    have ec : ((i + 1 : Nat) : Int) = (i : Int) + 1 := by omega
    have e4 : (1 : Int) + ((i : Int) + 1) = (i : Int) + 1 + 1 := by omega
    rw [ec] at hq hq2
    by_cases h : b4 < totM inf dr s i + gi dr ((s + ((i : Int) + 1)).fmod inf.length) - gi inf ((s + ((i : Int) + 1)).fmod inf.length)
    · simp [Tg.set, setAll, Env.wipe, frz1, sv, V3.at, V3.new, intOf, items, isTy, truth, isL, orBad, bopI, Env.dep, Env.dep1, run_eq, ex, ev, evs, evO, tst, bop, cop, bf, l_worst_of_0, b3, at3_2, totM, e2, e3, hl, hn0, hq, hq2, h, szl]
      exact e4
    · simp [Tg.set, setAll, Env.wipe, frz1, sv, V3.at, V3.new, intOf, items, isTy, truth, isL, orBad, bopI, Env.dep, Env.dep1, run_eq, ex, ev, evs, evO, tst, bop, cop, bf, l_worst_of_0, b3, at3_2, totM, e2, e3, hl, hn0, hq, hq2, h, szl]
theorem law_worst_in (Y : Yr inf dr) (s : Int) (h1 : 0 ≤ s) (h2 : s < inf.length) (j : Nat) (b : B3) (x y : Option (D × Nat)) :
    ex (F k) FU l__law_worst_0 [some (.lst (inf.map D.int), 0), some (.lst (dr.map D.int), 0), some (.lst (b3 b), 1), some (.int s, 0), some (.int (match j with | 0 => 0 | i + 1 => totM inf dr s i), 0), some (.int (1 + j), 0), x] =
    .nx [some (.lst (inf.map D.int), 0), some (.lst (dr.map D.int), 0), some (.lst (b3 (if b.2.2 < totM inf dr s j then (s, ((j + 1 : Nat) : Int), totM inf dr s j) else b)), 1), some (.int s, 0), some (.int (totM inf dr s j), 0), some (.int (1 + j), 0), some (.int ((s + (j : Int)).fmod inf.length), 0)] := by
  have hl := Y.len
  have hn0 := ne0 Y
  have f0 := fm0 (s + (j : Int)) Y.pos
  have f1 := fm1 (s + (j : Int)) Y.pos
  have hq := atI_li f0 f1
  have hq2 := atI_li (ns := dr) f0 (by rw [hl]; exact f1)
  obtain ⟨b1, b2, b4⟩ := b
  cases j with
  | zero =>
    have e0 : s + 1 - 1 = s := by omega
    have ef := fms h1 h2
    simp [Tg.set, setAll, Env.wipe, frz1, sv, V3.at, V3.new, intOf, items, isTy, truth, isL, orBad, bopI, Env.dep, Env.dep1, run_eq, ex, ev, evs, evO, tst, bop, cop, bf, ef] at hq hq2
    by_cases h : b4 < gi dr s
    · simp [Tg.set, setAll, Env.wipe, frz1, sv, V3.at, V3.new, intOf, items, isTy, truth, isL, orBad, bopI, Env.dep, Env.dep1, run_eq, ex, ev, evs, evO, tst, bop, cop, bf, l__law_worst_0, b3, at3_2, totM, h, e0, hl, hn0, ef, hq, hq2, szl]
    · simp [Tg.set, setAll, Env.wipe, frz1, sv, V3.at, V3.new, intOf, items, isTy, truth, isL, orBad, bopI, Env.dep, Env.dep1, run_eq, ex, ev, evs, evO, tst, bop, cop, bf, l__law_worst_0, b3, at3_2, totM, h, e0, hl, hn0, ef, hq, hq2, szl]
  | succ i =>
    have e2 : (1 : Int) < 1 + ((i : Int) + 1) := by omega
    have e3 : (s + (1 + ((i : Int) + 1)) - 1) = s + ((i : Int) + 1) := by omega
    have ec : ((i + 1 : Nat) : Int) = (i : Int) + 1 := by omega
    have e4 : (1 : Int) + ((i : Int) + 1) = (i : Int) + 1 + 1 := by omega
    rw [ec] at hq hq2
    by_cases h : b4 < totM inf dr s i + gi dr ((s + ((i : Int) + 1)).fmod inf.length) - gi inf ((s + ((i : Int) + 1)).fmod inf.length)
    · simp [Tg.set, setAll, Env.wipe, frz1, sv, V3.at, V3.new, intOf, items, isTy, truth, isL, orBad, bopI, Env.dep, Env.dep1, run_eq, ex, ev, evs, evO, tst, bop, cop, bf, l__law_worst_0, b3, at3_2, totM, e2, e3, hl, hn0, hq, hq2, h, szl]
      exact e4
    · simp [Tg.set, setAll, Env.wipe, frz1, sv, V3.at, V3.new, intOf, items, isTy, truth, isL, orBad, bopI, Env.dep, Env.dep1, run_eq, ex, ev, evs, evO, tst, bop, cop, bf, l__law_worst_0, b3, at3_2, totM, e2, e3, hl, hn0, hq, hq2, h, szl]
end
end Mp

set_option Elab.async false
set_option linter.all false
set_option maxRecDepth 100000
set_option maxHeartbeats 4000000
namespace Mp
section
variable (k : Nat) {inf dr : List Int} {ri rd : D}
theorem worst_row (Y : Yr inf dr) (s : Int) (h1 : 0 ≤ s) (h2 : s < inf.length) (b : B3) (x4 x5 x6 : Option (D × Nat)) : ∃ y4 y5 y6,
    ex (F k) FU l_worst_of_1 [some (.tup (inf.map D.int), 0), some (.tup (dr.map D.int), 0), some (.tup (b3 b), 0), some (.int s, 0), x4, x5, x6] =
    .nx [some (.tup (inf.map D.int), 0), some (.tup (dr.map D.int), 0), some (.tup (b3 (rowM inf dr s inf.length b)), 0), some (.int s, 0), y4, y5, y6] := by
  have hl := Y.len
  have hle := Y.le
  obtain ⟨ρ', e, y5, y6, rfl⟩ := for_upto (t := .name 5) (b := ex (F k) FU l_worst_of_0) (fun j ρ => ∃ y5 y6, ρ = [some (.tup (inf.map D.int), 0), some (.tup (dr.map D.int), 0), some (.tup (b3 (rowM inf dr s j b)), 0), some (.int s, 0), some (.int (match j with | 0 => gi dr s | i + 1 => totM inf dr s i), 0), y5, y6]) 1 inf.length ⟨x5, x6, rfl⟩ fun j ρ hj ⟨a, c, er⟩ => by
    subst er
    exact ⟨_, _, rfl, worst_in k Y s h1 h2 j _ c none, _, _, rfl⟩
  have e1 : ex (F k) FU f_worst_of_0 [some (.tup (inf.map D.int), 0), some (.tup (dr.map D.int), 0), some (.tup (b3 b), 0), some (.int s, 0), some (.int (gi dr s), 0), x5, x6] = forGo (.name 5) (ex (F k) FU l_worst_of_0) (upto 1 inf.length) [some (.tup (inf.map D.int), 0), some (.tup (dr.map D.int), 0), some (.tup (b3 b), 0), some (.int s, 0), some (.int (gi dr s), 0), x5, x6] := by
    rw [f_worst_of_0, ex_for2 (x := .at (.int 1)) (i := 1) (y := .at (.int ((inf.length + 1 : Nat) : Int))) (j := ((inf.length + 1 : Nat) : Int)) (by simp [Tg.set, setAll, Env.wipe, frz1, sv, V3.at, V3.new, intOf, items, isTy, truth, isL, orBad, bopI, Env.dep, Env.dep1, run_eq, ex, ev, evs, evO, tst, bop, cop, bf]) rfl (by simp [Tg.set, setAll, Env.wipe, frz1, sv, V3.at, V3.new, intOf, items, isTy, truth, isL, orBad, bopI, Env.dep, Env.dep1, run_eq, ex, ev, evs, evO, tst, bop, cop, bf, hl]) rfl (rng_ok (n := 1) (by omega)) (rng_ok (by omega)), show (((inf.length + 1 : Nat) : Int) - 1).toNat = inf.length by omega]
  have ef : ∃ y4, ex (F k) FU f_worst_of_0 [some (.tup (inf.map D.int), 0), some (.tup (dr.map D.int), 0), some (.tup (b3 b), 0), some (.int s, 0), some (.int (gi dr s), 0), x5, x6] = .nx [some (.tup (inf.map D.int), 0), some (.tup (dr.map D.int), 0), some (.tup (b3 (rowM inf dr s inf.length b)), 0), some (.int s, 0), y4, y5, y6] := ⟨_, e1.trans e⟩
  obtain ⟨y4, ef⟩ := ef
  have ea := atI_li (ns := dr) h1 (by rw [hl]; exact h2)
  refine ⟨y4, y5, y6, ?_⟩
  simp [Tg.set, setAll, Env.wipe, frz1, sv, V3.at, V3.new, intOf, items, isTy, truth, isL, orBad, bopI, Env.dep, Env.dep1, run_eq, ex, ev, evs, evO, tst, bop, cop, bf, l_worst_of_1, ea, ef]
theorem law_worst_row (Y : Yr inf dr) (s : Int) (h1 : 0 ≤ s) (h2 : s < inf.length) (b : B3) (x4 x5 x6 : Option (D × Nat)) : ∃ y4 y5 y6,
    ex (F k) FU l__law_worst_1 [some (.lst (inf.map D.int), 0), some (.lst (dr.map D.int), 0), some (.lst (b3 b), 1), some (.int s, 0), x4, x5, x6] =
    .nx [some (.lst (inf.map D.int), 0), some (.lst (dr.map D.int), 0), some (.lst (b3 (rowM inf dr s inf.length b)), 1), some (.int s, 0), y4, y5, y6] := by
  have hl := Y.len
  have hle := Y.le
  obtain ⟨ρ', e, y5, y6, rfl⟩ := for_upto (t := .name 5) (b := ex (F k) FU l__law_worst_0) (fun j ρ => ∃ y5 y6, ρ = [some (.lst (inf.map D.int), 0), some (.lst (dr.map D.int), 0), some (.lst (b3 (rowM inf dr s j b)), 1), some (.int s, 0), some (.int (match j with | 0 => 0 | i + 1 => totM inf dr s i), 0), y5, y6]) 1 inf.length ⟨x5, x6, rfl⟩ fun j ρ hj ⟨a, c, er⟩ => by
    subst er
    exact ⟨_, _, rfl, law_worst_in k Y s h1 h2 j _ c none, _, _, rfl⟩
  have e1 : ex (F k) FU f__law_worst_0 [some (.lst (inf.map D.int), 0), some (.lst (dr.map D.int), 0), some (.lst (b3 b), 1), some (.int s, 0), some (.int 0, 0), x5, x6] = forGo (.name 5) (ex (F k) FU l__law_worst_0) (upto 1 inf.length) [some (.lst (inf.map D.int), 0), some (.lst (dr.map D.int), 0), some (.lst (b3 b), 1), some (.int s, 0), some (.int 0, 0), x5, x6] := by
    rw [f__law_worst_0, ex_for2 (x := .at (.int 1)) (i := 1) (y := .at (.int ((inf.length + 1 : Nat) : Int))) (j := ((inf.length + 1 : Nat) : Int)) (by simp [Tg.set, setAll, Env.wipe, frz1, sv, V3.at, V3.new, intOf, items, isTy, truth, isL, orBad, bopI, Env.dep, Env.dep1, run_eq, ex, ev, evs, evO, tst, bop, cop, bf]) rfl (by simp [Tg.set, setAll, Env.wipe, frz1, sv, V3.at, V3.new, intOf, items, isTy, truth, isL, orBad, bopI, Env.dep, Env.dep1, run_eq, ex, ev, evs, evO, tst, bop, cop, bf, hl]) rfl (rng_ok (n := 1) (by omega)) (rng_ok (by omega)), show (((inf.length + 1 : Nat) : Int) - 1).toNat = inf.length by omega]
  have ef : ∃ y4, ex (F k) FU f__law_worst_0 [some (.lst (inf.map D.int), 0), some (.lst (dr.map D.int), 0), some (.lst (b3 b), 1), some (.int s, 0), some (.int 0, 0), x5, x6] = .nx [some (.lst (inf.map D.int), 0), some (.lst (dr.map D.int), 0), some (.lst (b3 (rowM inf dr s inf.length b)), 1), some (.int s, 0), y4, y5, y6] := ⟨_, e1.trans e⟩
  obtain ⟨y4, ef⟩ := ef
  refine ⟨y4, y5, y6, ?_⟩
  simp [Tg.set, setAll, Env.wipe, frz1, sv, V3.at, V3.new, intOf, items, isTy, truth, isL, orBad, bopI, Env.dep, Env.dep1, run_eq, ex, ev, evs, evO, tst, bop, cop, bf, l__law_worst_1, ef]
theorem s_worst_of (Y : Yr inf dr) : F (k + 1) 14 [.tup (inf.map D.int), .tup (dr.map D.int)] = .ok (.tup (b3 (allM inf dr inf.length)), 0) := by
  show run (F k) FU 2 7 b_worst_of _ = _
  have hl := Y.len
  have hle := Y.le
  obtain ⟨ρ', e, y3, y4, y5, y6, rfl⟩ := for_upto (t := .name 3) (b := ex (F k) FU l_worst_of_1) (fun j ρ => ∃ y3 y4 y5 y6, ρ = [some (.tup (inf.map D.int), 0), some (.tup (dr.map D.int), 0), some (.tup (b3 (allM inf dr j)), 0), y3, y4, y5, y6]) 0 inf.length ⟨none, none, none, none, rfl⟩ fun j ρ hj ⟨a, c, d, f, er⟩ => by
    subst er
    obtain ⟨y4, y5, y6, e⟩ := worst_row k Y (0 + (j : Int)) (by omega) (by omega) (allM inf dr j) c d f
    exact ⟨_, _, rfl, e, some (.int (0 + j), 0), y4, y5, y6, by simp only [allM, Int.zero_add]⟩
  have ef : ex (F k) FU f_worst_of_1 [some (.tup (inf.map D.int), 0), some (.tup (dr.map D.int), 0), some (.tup [.int 0, .int 1, .int (gi dr 0)], 0), none, none, none, none] = .nx [some (.tup (inf.map D.int), 0), some (.tup (dr.map D.int), 0), some (.tup (b3 (allM inf dr inf.length)), 0), y3, y4, y5, y6] := by
    rw [f_worst_of_1, ex_for1 (x := .at (.int inf.length)) (j := inf.length) (by simp [Tg.set, setAll, Env.wipe, frz1, sv, V3.at, V3.new, intOf, items, isTy, truth, isL, orBad, bopI, Env.dep, Env.dep1, run_eq, ex, ev, evs, evO, tst, bop, cop, bf, hl]) rfl (rng_ok (by omega)), Int.toNat_natCast]
    exact e
  have ea := atI_li (ns := dr) (i := 0) (by omega) (by have := Y.pos; omega)
  simp [Tg.set, setAll, Env.wipe, frz1, sv, V3.at, V3.new, intOf, items, isTy, truth, isL, orBad, bopI, Env.dep, Env.dep1, run_eq, ex, ev, evs, evO, tst, bop, cop, bf, b_worst_of, ea, ef, szl]
theorem s_law_worst (Y : Yr inf dr) : F (k + 1) 19 [.lst (inf.map D.int), .lst (dr.map D.int)] = .ok (.lst (b3 (allM inf dr inf.length)), 1) := by
  show run (F k) FU 2 7 b__law_worst _ = _
  have hl := Y.len
  have hle := Y.le
  obtain ⟨ρ', e, y3, y4, y5, y6, rfl⟩ := for_upto (t := .name 3) (b := ex (F k) FU l__law_worst_1) (fun j ρ => ∃ y3 y4 y5 y6, ρ = [some (.lst (inf.map D.int), 0), some (.lst (dr.map D.int), 0), some (.lst (b3 (allM inf dr j)), 1), y3, y4, y5, y6]) 0 inf.length ⟨none, none, none, none, rfl⟩ fun j ρ hj ⟨a, c, d, f, er⟩ => by
    subst er
    obtain ⟨y4, y5, y6, e⟩ := law_worst_row k Y (0 + (j : Int)) (by omega) (by omega) (allM inf dr j) c d f
    exact ⟨_, _, rfl, e, some (.int (0 + j), 0), y4, y5, y6, by simp only [allM, Int.zero_add]⟩
  have ef : ex (F k) FU f__law_worst_1 [some (.lst (inf.map D.int), 0), some (.lst (dr.map D.int), 0), some (.lst [.int 0, .int 1, .int (gi dr 0)], 1), none, none, none, none] = .nx [some (.lst (inf.map D.int), 0), some (.lst (dr.map D.int), 0), some (.lst (b3 (allM inf dr inf.length)), 1), y3, y4, y5, y6] := by
    rw [f__law_worst_1, ex_for1 (x := .at (.int inf.length)) (j := inf.length) (by simp [Tg.set, setAll, Env.wipe, frz1, sv, V3.at, V3.new, intOf, items, isTy, truth, isL, orBad, bopI, Env.dep, Env.dep1, run_eq, ex, ev, evs, evO, tst, bop, cop, bf, hl]) rfl (rng_ok (by omega)), Int.toNat_natCast]
    exact e
  have ea := atI_li (ns := dr) (i := 0) (by omega) (by have := Y.pos; omega)
  simp [Tg.set, setAll, Env.wipe, frz1, sv, V3.at, V3.new, intOf, items, isTy, truth, isL, orBad, bopI, Env.dep, Env.dep1, run_eq, ex, ev, evs, evO, tst, bop, cop, bf, b__law_worst, ea, ef, szl]
end
end Mp

set_option Elab.async false
set_option linter.all false
set_option maxRecDepth 100000
set_option maxHeartbeats 4000000
namespace Mp
section
variable (k : Nat) {inf dr : List Int} {ri rd : D}
theorem s_fall (Y : Yr inf dr) (hi : Row ri inf) (hd : Row rd dr) (s len : Int) (j : Nat) (h1 : 0 ≤ s) (h2 : s < inf.length) (hj : j + 1 ≤ inf.length) (hlen : len = j + 1) :
    F (k + 5) 13 [ri, rd, .int s, .int len] = .ok (.int (totM inf dr s j), 0) := by
  show run (F (k + 4)) FU 4 6 b_fall _ = _
  have e2 := s_check_draws k (inf.length : Int) hd (by rw [Y.len]) Y.d
  have e3 := s_fall_of (k + 3) Y s len j h1 h2 hj hlen
  have e4 := fun nm => s_check_number (k + 1) nm s 0 (inf.length - 1) ⟨h1, by omega⟩
  have e5 := fun nm => s_check_number (k + 1) nm len 1 inf.length ⟨by omega, by omega⟩
  simp [Tg.set, setAll, Env.wipe, frz1, sv, V3.at, V3.new, intOf, items, isTy, truth, isL, orBad, bopI, Env.dep, Env.dep1, run_eq, ex, ev, evs, evO, tst, bop, cop, bf, b_fall, s_check_flows k _ hi Y.pos Y.le Y.i]
  rcases hi with rfl | rfl <;> rcases hd with rfl | rfl <;> simp [Tg.set, setAll, Env.wipe, frz1, sv, V3.at, V3.new, intOf, items, isTy, truth, isL, orBad, bopI, Env.dep, Env.dep1, run_eq, ex, ev, evs, evO, tst, bop, cop, bf, e2, e3, e4, e5]
theorem s_worst_run (Y : Yr inf dr) (hi : Row ri inf) (hd : Row rd dr) : F (k + 5) 15 [ri, rd] = .ok (.tup (b3 (allM inf dr inf.length)), 0) := by
  show run (F (k + 4)) FU 2 4 b_worst_run _ = _
  have e2 := s_check_draws k (inf.length : Int) hd (by rw [Y.len]) Y.d
  have e3 := s_worst_of (k + 3) Y
  simp [Tg.set, setAll, Env.wipe, frz1, sv, V3.at, V3.new, intOf, items, isTy, truth, isL, orBad, bopI, Env.dep, Env.dep1, run_eq, ex, ev, evs, evO, tst, bop, cop, bf, b_worst_run, s_check_flows k _ hi Y.pos Y.le Y.i]
  rcases hi with rfl | rfl <;> rcases hd with rfl | rfl <;> simp [Tg.set, setAll, Env.wipe, frz1, sv, V3.at, V3.new, intOf, items, isTy, truth, isL, orBad, bopI, Env.dep, Env.dep1, run_eq, ex, ev, evs, evO, tst, bop, cop, bf, e2, e3]
theorem s_least_room (Y : Yr inf dr) (hi : Row ri inf) (hd : Row rd dr) : F (k + 5) 16 [ri, rd] = .ok (oi (if inf.sum < dr.sum then none else some (allM inf dr inf.length).2.2), 0) := by
  show run (F (k + 4)) FU 2 4 b_least_room _ = _
  have e2 := s_check_draws k (inf.length : Int) hd (by rw [Y.len]) Y.d
  have e3 := s_worst_of (k + 3) Y
  simp [Tg.set, setAll, Env.wipe, frz1, sv, V3.at, V3.new, intOf, items, isTy, truth, isL, orBad, bopI, Env.dep, Env.dep1, run_eq, ex, ev, evs, evO, tst, bop, cop, bf, b_least_room, s_check_flows k _ hi Y.pos Y.le Y.i]
  by_cases h : inf.sum < dr.sum
  · rcases hi with rfl | rfl <;> rcases hd with rfl | rfl <;> simp [Tg.set, setAll, Env.wipe, frz1, sv, V3.at, V3.new, intOf, items, isTy, truth, isL, orBad, bopI, Env.dep, Env.dep1, run_eq, ex, ev, evs, evO, tst, bop, cop, bf, e2, e3, h, oi]
  · rcases hi with rfl | rfl <;> rcases hd with rfl | rfl <;> simp [Tg.set, setAll, Env.wipe, frz1, sv, V3.at, V3.new, intOf, items, isTy, truth, isL, orBad, bopI, Env.dep, Env.dep1, run_eq, ex, ev, evs, evO, tst, bop, cop, bf, e2, e3, h, oi, b3, at3_2]
end
end Mp

set_option Elab.async false
set_option linter.all false
set_option maxRecDepth 100000
set_option maxHeartbeats 4000000
namespace Mp
section
variable (k : Nat)
theorem cp18 : cpowB 10 18 := ⟨by decide, by decide, by decide⟩
theorem cm_a (x : Int) : cmulB x 48271 := .inr (by decide)
theorem cm_b (x : Int) : cmulB x 69621 := .inr (by decide)
theorem cm_c (x : Int) : cmulB x 2147483629 := .inr (by decide)
theorem cm_d (x : Int) : cmulB 31 x := .inl (by decide)
theorem cd_a : cdivB 1009 := ⟨by decide, by decide⟩
theorem atI_last (acc : List Int) (c : Int) : atI (acc.map D.int ++ [D.int c]) (-1) = some (.int c) := by
  unfold atI ixN
  have h : ¬ (0 : Int) ≤ -1 := by omega
  rw [if_neg h]
  have h2 : -(((acc.map D.int ++ [D.int c]).length : Nat) : Int) ≤ -1 := by
    rw [List.length_append]
    simp [Tg.set, setAll, Env.wipe, frz1, sv, V3.at, V3.new, intOf, items, isTy, truth, isL, orBad, bopI, Env.dep, Env.dep1, run_eq, ex, ev, evs, evO, tst, bop, cop, bf]
    omega
  rw [if_pos h2]
  show (acc.map D.int ++ [D.int c])[_]? = _
  have h3 : (-1 + (((acc.map D.int ++ [D.int c]).length : Nat) : Int)).toNat = acc.length := by
    rw [List.length_append]
    simp [Tg.set, setAll, Env.wipe, frz1, sv, V3.at, V3.new, intOf, items, isTy, truth, isL, orBad, bopI, Env.dep, Env.dep1, run_eq, ex, ev, evs, evO, tst, bop, cop, bf]
    omega
  rw [h3, List.getElem?_append_right (by simp [Tg.set, setAll, Env.wipe, frz1, sv, V3.at, V3.new, intOf, items, isTy, truth, isL, orBad, bopI, Env.dep, Env.dep1, run_eq, ex, ev, evs, evO, tst, bop, cop, bf])]
  simp [Tg.set, setAll, Env.wipe, frz1, sv, V3.at, V3.new, intOf, items, isTy, truth, isL, orBad, bopI, Env.dep, Env.dep1, run_eq, ex, ev, evs, evO, tst, bop, cop, bf]
/-- the cell's new value -/
def cellM (cell j : Int) : Int := if cell < 1000000000000000000 then
    (((cell.fmod 1000003 + 31 * j + 17) * 48271).fmod 2147483647 * 2147483629 + (((((cell.fmod 1000003 + 31 * j + 17) * 48271).fmod 2147483647 + 101) * 69621 + j).fmod 2147483629)).fmod 1000000000000000000
  else cell.fmod 1000000000000000000
theorem cellM_r (cell j : Int) : 0 ≤ cellM cell j ∧ cellM cell j < 1000000000000000000 := by
  unfold cellM
  split
  · exact ⟨Int.fmod_nonneg_of_pos _ (by decide), Int.fmod_lt_of_pos _ (by decide)⟩
  · exact ⟨Int.fmod_nonneg_of_pos _ (by decide), Int.fmod_lt_of_pos _ (by decide)⟩
theorem cells_turn (ns acc : List Int) (seed : Int) (j : Nat) (hz : acc.length < 16777216) (a b c : Option (D × Nat)) : ∃ y4 y5 y6,
    ex (F k) FU l__law_cells_0 [some (.lst (ns.map D.int), 0), some (.lst (acc.map D.int), 1), some (.int seed, 0), some (.int j, 0), a, b, c] =
    .nx [some (.lst (ns.map D.int), 0), some (.lst ((acc ++ [cellM (if j < ns.length then gi ns j else seed) j]).map D.int), 1), some (.int ((cellM (if j < ns.length then gi ns j else seed) j).fdiv 1009), 0), some (.int j, 0), y4, y5, y6] := by
  have hp := cp18
  by_cases hj : j < ns.length
  · have ha := atI_li (ns := ns) (i := j) (by omega) (by omega)
    by_cases hb : gi ns j < 1000000000000000000
    · simp [Tg.set, setAll, Env.wipe, frz1, sv, V3.at, V3.new, intOf, items, isTy, truth, isL, orBad, bopI, Env.dep, Env.dep1, run_eq, ex, ev, evs, evO, tst, bop, cop, bf, l__law_cells_0, hj, ha, hp, hb, cm_a, cm_b, cm_c, cm_d, cd_a, atI_last, Env.own, hz, cellM]
    · simp [Tg.set, setAll, Env.wipe, frz1, sv, V3.at, V3.new, intOf, items, isTy, truth, isL, orBad, bopI, Env.dep, Env.dep1, run_eq, ex, ev, evs, evO, tst, bop, cop, bf, l__law_cells_0, hj, ha, hp, hb, cm_a, cm_b, cm_c, cm_d, cd_a, atI_last, Env.own, hz, cellM]
  · by_cases hb : seed < 1000000000000000000
    · simp [Tg.set, setAll, Env.wipe, frz1, sv, V3.at, V3.new, intOf, items, isTy, truth, isL, orBad, bopI, Env.dep, Env.dep1, run_eq, ex, ev, evs, evO, tst, bop, cop, bf, l__law_cells_0, hj, hp, hb, cm_a, cm_b, cm_c, cm_d, cd_a, atI_last, Env.own, hz, cellM]
    · simp [Tg.set, setAll, Env.wipe, frz1, sv, V3.at, V3.new, intOf, items, isTy, truth, isL, orBad, bopI, Env.dep, Env.dep1, run_eq, ex, ev, evs, evO, tst, bop, cop, bf, l__law_cells_0, hj, hp, hb, cm_a, cm_b, cm_c, cm_d, cd_a, atI_last, Env.own, hz, cellM]
/-- cells: in range -/
def Cell (cs : List Int) : Prop := ∀ c ∈ cs, 0 ≤ c ∧ c < 1000000000000000000
theorem s_law_cells (ns : List Int) : ∃ cs : List Int, F (k + 1) 17 [.lst (ns.map D.int)] = .ok (.lst (cs.map D.int), 1) ∧ cs.length = 63 ∧ Cell cs := by
  obtain ⟨ρ', e, acc, seed, y3, y4, y5, y6, rfl, hl, hc⟩ := for_upto (t := .name 3) (b := ex (F k) FU l__law_cells_0) (fun j ρ => ∃ acc seed y3 y4 y5 y6, ρ = [some (.lst (ns.map D.int), 0), some (.lst (acc.map D.int), 1), some (.int seed, 0), y3, y4, y5, y6] ∧ acc.length = j ∧ Cell acc) 0 63
    ⟨[], 0, none, none, none, none, rfl, rfl, fun _ h => by cases h⟩ fun j ρ hj ⟨acc, seed, a, b, c, d, er, hl, hc⟩ => by
      subst er
      obtain ⟨y4, y5, y6, e⟩ := cells_turn k ns acc seed j (by omega) b c d
      refine ⟨_, _, (by rw [Int.zero_add]; rfl), e, _, _, some (.int j, 0), y4, y5, y6, rfl, by rw [List.length_append, hl]; rfl, fun x hx => ?_⟩
      rcases List.mem_append.mp hx with hx | hx
      · exact hc x hx
      · rw [List.mem_singleton.mp hx]
        exact cellM_r _ _
  have ef : ex (F k) FU f__law_cells_0 [some (.lst (ns.map D.int), 0), some (.lst [], 1), some (.int 0, 0), none, none, none, none] = .nx [some (.lst (ns.map D.int), 0), some (.lst (acc.map D.int), 1), some (.int seed, 0), y3, y4, y5, y6] := by
    rw [f__law_cells_0, ex_for1 (x := .at (.int 63)) (j := 63) (by simp [Tg.set, setAll, Env.wipe, frz1, sv, V3.at, V3.new, intOf, items, isTy, truth, isL, orBad, bopI, Env.dep, Env.dep1, run_eq, ex, ev, evs, evO, tst, bop, cop, bf]) rfl (rng_ok (n := 63) (by omega))]
    exact e
  refine ⟨acc, ?_, hl, hc⟩
  show run (F k) FU 1 7 b__law_cells _ = _
  simp [Tg.set, setAll, Env.wipe, frz1, sv, V3.at, V3.new, intOf, items, isTy, truth, isL, orBad, bopI, Env.dep, Env.dep1, run_eq, ex, ev, evs, evO, tst, bop, cop, bf, b__law_cells, ef, szl]
end
end Mp

set_option Elab.async false
set_option linter.all false
set_option maxRecDepth 100000
set_option maxHeartbeats 4000000
namespace Mp
theorem lcGo_P {P : Int → Prop} {f : D → R V3} : ∀ ds : List D, (∀ d ∈ ds, ∃ w i, f d = .ok w ∧ w.d = .int i ∧ w.s = [] ∧ P i) → ∃ xs : List Int, lcGo f ds = .ok (xs.map D.int, []) ∧ xs.length = ds.length ∧ ∀ i ∈ xs, P i
  | [], _ => ⟨[], rfl, rfl, fun _ h => by cases h⟩
  | d :: ds, h => by
    obtain ⟨w, i, e1, e2, e3, p⟩ := h d List.mem_cons_self
    obtain ⟨xs, e4, e5, e6⟩ := lcGo_P ds fun d hd => h d (List.mem_cons_of_mem _ hd)
    refine ⟨i :: xs, ?_, by rw [List.length_cons, List.length_cons, e5], fun x hx => ?_⟩
    · unfold lcGo
      rw [e1, e4]
      show R.ok (w.d :: xs.map D.int, w.s ++ []) = _
      rw [e2, e3]
      rfl
    · rcases List.mem_cons.mp hx with hx | hx
      · rw [hx]
        exact p
      · exact e6 x hx
/-- a comprehension of whole numbers over what owns nothing deep -/
theorem comp_P {P : Int → Prop} {Φ : Nat → Fn} {e it : M} {s : Nat} {ρ : Env} {x : V3} {ds : List D} (h1 : ev Φ it ρ = .ok x) (h2 : Mp.items x.d = .ok ds) (h3 : x.t = []) (hz : ds.length ≤ szl)
    (hf : ∀ d ∈ ds, ∃ w i, ev Φ e ((ρ.set s none).set s (some (d, 0))) = .ok w ∧ w.d = .int i ∧ w.s = [] ∧ P i) :
    ∃ xs : List Int, evO Φ (.lc e (.name s) [s] it) ρ = .ok (.new (.lst (xs.map D.int)) [], 1) ∧ xs.length = ds.length ∧ ∀ i ∈ xs, P i := by
  obtain ⟨xs, e1, e2, e3⟩ := lcGo_P (P := P) (f := fun d => do
      let ρ1 ← (Tg.name s).set d ((ρ.frz x.t).wipe [s])
      ev Φ e ρ1) ds (fun d hd => by
    obtain ⟨w, i, q⟩ := hf d hd
    refine ⟨w, i, ?_, q.2⟩
    rw [h3]
    exact q.1)
  refine ⟨xs, ?_, e2, e3⟩
  rw [evO, ev, h1, R.bind_ok, h2, R.bind_ok, e1, R.bind_ok]
  have hl : ((xs.map D.int, ([] : List Nat)).1).length ≤ szl := by
    show (xs.map D.int).length ≤ szl
    rw [List.length_map, e2]
    exact hz
  rw [R.chk_t hl, R.bind_ok, h3]
  rfl
end Mp

set_option Elab.async false
set_option linter.all false
set_option maxRecDepth 100000
set_option maxHeartbeats 4000000
namespace Mp
def Rg (xs : List Int) : Prop := ∀ x ∈ xs, 0 ≤ x ∧ x ≤ 1000
abbrev EY (cells inf dr : List Int) (n top way turn at_ : Int) (x y z : Option (D × Nat)) : Env := [some (.lst (cells.map D.int), 0), some (.int n, 0), some (.int top, 0), some (.int way, 0), some (.lst (inf.map D.int), 1), some (.lst (dr.map D.int), 1), some (.int turn, 0), some (.int at_, 0), x, y, z]
theorem cut_lo {xs : List Int} {t : Int} (h : 0 ≤ t) (h2 : t < xs.length) : cut (xs.map D.int) (some t) none = (xs.drop t.toNat).map D.int := by
  unfold cut sIx
  simp only [List.length_map]
  have h3 : ¬ t < 0 := by omega
  rw [if_neg h3, show min t.toNat xs.length = t.toNat by omega, ← List.map_drop, List.take_of_length_le (by simp [Tg.set, setAll, Env.wipe, frz1, sv, V3.at, V3.new, intOf, items, isTy, truth, isL, orBad, bopI, Env.dep, Env.dep1, run_eq, ex, ev, evs, evO, tst, bop, cop, bf])]
theorem cut_hi {xs : List Int} {t : Int} (h : 0 ≤ t) (h2 : t < xs.length) : cut (xs.map D.int) none (some t) = (xs.take t.toNat).map D.int := by
  unfold cut sIx
  simp only [List.length_map]
  have h3 : ¬ t < 0 := by omega
  rw [if_neg h3, show min t.toNat xs.length = t.toNat by omega, List.drop_zero, Nat.sub_zero, ← List.map_take]
section
variable (k : Nat) {cells inf dr : List Int} {n top way turn at_ : Int} {x y z : Option (D × Nat)}
theorem y0 (hi : Rg inf) (hd : Rg dr) (hl : dr.length = inf.length) (h24 : inf.length ≤ 24) (ht : 0 ≤ turn) (ht2 : turn < inf.length) : ∃ dr', ex (F k) FU i__law_year_0 (EY cells inf dr n top way turn at_ x y z) = .nx (EY cells inf dr' n top way turn at_ x y z) ∧ dr'.length = inf.length ∧ Rg dr' := by
  by_cases h : 1 ≤ way ∧ way ≤ 3
  · obtain ⟨h1, h2⟩ := h
    refine ⟨inf.drop turn.toNat ++ inf.take turn.toNat, ?_, by simp [Tg.set, setAll, Env.wipe, frz1, sv, V3.at, V3.new, intOf, items, isTy, truth, isL, orBad, bopI, Env.dep, Env.dep1, run_eq, ex, ev, evs, evO, tst, bop, cop, bf]; omega, fun x hx => ?_⟩
    · have hz : inf.length - turn.toNat + min turn.toNat inf.length ≤ 16777216 := by omega
      simp [Tg.set, setAll, Env.wipe, frz1, sv, V3.at, V3.new, intOf, items, isTy, truth, isL, orBad, bopI, Env.dep, Env.dep1, run_eq, ex, ev, evs, evO, tst, bop, cop, bf, i__law_year_0, EY, h1, h2, part, cut_lo ht ht2, cut_hi ht ht2, szl, hz]
    · rcases List.mem_append.mp hx with hx | hx
      · exact hi x (List.mem_of_mem_drop hx)
      · exact hi x (List.mem_of_mem_take hx)
  · refine ⟨dr, ?_, hl, hd⟩
    by_cases h1 : 1 ≤ way
    · have h2 : ¬ way ≤ 3 := fun z => h ⟨h1, z⟩
      simp [Tg.set, setAll, Env.wipe, frz1, sv, V3.at, V3.new, intOf, items, isTy, truth, isL, orBad, bopI, Env.dep, Env.dep1, run_eq, ex, ev, evs, evO, tst, bop, cop, bf, i__law_year_0, EY, h1, h2]
    · simp [Tg.set, setAll, Env.wipe, frz1, sv, V3.at, V3.new, intOf, items, isTy, truth, isL, orBad, bopI, Env.dep, Env.dep1, run_eq, ex, ev, evs, evO, tst, bop, cop, bf, i__law_year_0, EY, h1]
theorem set_li (xs : List Int) (i : Nat) (v : Int) : (xs.map D.int).set i (.int v) = (xs.set i v).map D.int := by rw [List.map_set]
theorem Rg.set {xs : List Int} (h : Rg xs) (i : Nat) {v : Int} (h1 : 0 ≤ v) (h2 : v ≤ 1000) : Rg (xs.set i v) := fun x hx => by
  rcases List.mem_or_eq_of_mem_set hx with hx | hx
  · exact h x hx
  · rw [hx]
    exact ⟨h1, h2⟩
theorem y1 (hd : Rg dr) (hl : dr.length = inf.length) (ha : 0 ≤ at_) (ha2 : at_ < inf.length) : ∃ dr', ex (F k) FU i__law_year_1 (EY cells inf dr n top way turn at_ x y z) = .nx (EY cells inf dr' n top way turn at_ x y z) ∧ dr'.length = inf.length ∧ Rg dr' := by
  have hq := atI_li (ns := dr) ha (by rw [hl]; exact ha2)
  have hx := ixN_ok (n := dr.length) ha (by rw [hl]; exact ha2)
  by_cases h : way = 2
  · have hg := hd _ (gi_mem (ns := dr) ha (by rw [hl]; exact ha2))
    refine ⟨dr.set at_.toNat (min 1000 (gi dr at_ + 1)), ?_, by rw [List.length_set]; exact hl, hd.set _ (by omega) (by omega)⟩
    simp [Tg.set, setAll, Env.wipe, frz1, sv, V3.at, V3.new, intOf, items, isTy, truth, isL, orBad, bopI, Env.dep, Env.dep1, run_eq, ex, ev, evs, evO, tst, bop, cop, bf, i__law_year_1, EY, h, okD, strsD, depth, eqD, hq, min_if, Env.own, hx, List.map_set]
  · refine ⟨dr, ?_, hl, hd⟩
    simp [Tg.set, setAll, Env.wipe, frz1, sv, V3.at, V3.new, intOf, items, isTy, truth, isL, orBad, bopI, Env.dep, Env.dep1, run_eq, ex, ev, evs, evO, tst, bop, cop, bf, i__law_year_1, EY, h, okD, strsD, depth, eqD]
theorem y2 (hd : Rg dr) (hl : dr.length = inf.length) (ha : 0 ≤ at_) (ha2 : at_ < inf.length) : ∃ dr', ex (F k) FU i__law_year_2 (EY cells inf dr n top way turn at_ x y z) = .nx (EY cells inf dr' n top way turn at_ x y z) ∧ dr'.length = inf.length ∧ Rg dr' := by
  have hq := atI_li (ns := dr) ha (by rw [hl]; exact ha2)
  have hx := ixN_ok (n := dr.length) ha (by rw [hl]; exact ha2)
  by_cases h : way = 3
  · have hg := hd _ (gi_mem (ns := dr) ha (by rw [hl]; exact ha2))
    refine ⟨dr.set at_.toNat (max 0 (gi dr at_ - 1)), ?_, by rw [List.length_set]; exact hl, hd.set _ (by omega) (by omega)⟩
    simp [Tg.set, setAll, Env.wipe, frz1, sv, V3.at, V3.new, intOf, items, isTy, truth, isL, orBad, bopI, Env.dep, Env.dep1, run_eq, ex, ev, evs, evO, tst, bop, cop, bf, i__law_year_2, EY, h, okD, strsD, depth, eqD, hq, max_if, Env.own, hx, List.map_set]
  · refine ⟨dr, ?_, hl, hd⟩
    simp [Tg.set, setAll, Env.wipe, frz1, sv, V3.at, V3.new, intOf, items, isTy, truth, isL, orBad, bopI, Env.dep, Env.dep1, run_eq, ex, ev, evs, evO, tst, bop, cop, bf, i__law_year_2, EY, h, okD, strsD, depth, eqD]
theorem sum_r : ∀ {xs : List Int}, Rg xs → 0 ≤ xs.sum ∧ xs.sum ≤ 1000 * xs.length
  | [], _ => by simp [Tg.set, setAll, Env.wipe, frz1, sv, V3.at, V3.new, intOf, items, isTy, truth, isL, orBad, bopI, Env.dep, Env.dep1, run_eq, ex, ev, evs, evO, tst, bop, cop, bf]
  | a :: r, h => by
    have h1 := h a List.mem_cons_self
    have h2 := sum_r (xs := r) fun x hx => h x (List.mem_cons_of_mem _ hx)
    rw [List.sum_cons, List.length_cons]
    omega
theorem y3 (hi : Rg inf) (hd : Rg dr) (hl : dr.length = inf.length) (h24 : inf.length ≤ 24) (h0 : 0 < inf.length) (hn : n = inf.length) : ∃ dr' y', ex (F k) FU i__law_year_3 (EY cells inf dr n top way turn at_ x y z) = .nx (EY cells inf dr' n top way turn at_ x y' z) ∧ dr'.length = inf.length ∧ Rg dr' := by
  by_cases h : way = 4
  · have hs := sum_r hi
    have hc : cdivB n := ⟨by omega, by omega⟩
    obtain ⟨xs, e1, e2, e3⟩ := comp_P (P := fun v => 0 ≤ v ∧ v ≤ 1000) (Φ := F k) (e := e__law_year_2) (it := .var 4) (s := 9) (ρ := EY cells inf dr n top way turn at_ x y z) (x := ⟨.lst (inf.map D.int), [4], []⟩) (ds := inf.map D.int) (by simp [Tg.set, setAll, Env.wipe, frz1, sv, V3.at, V3.new, intOf, items, isTy, truth, isL, orBad, bopI, Env.dep, Env.dep1, run_eq, ex, ev, evs, evO, tst, bop, cop, bf, EY]) rfl rfl (by rw [List.length_map]; unfold szl; omega) (fun d hd => ⟨_, inf.sum.fdiv n, by simp [Tg.set, setAll, Env.wipe, frz1, sv, V3.at, V3.new, intOf, items, isTy, truth, isL, orBad, bopI, Env.dep, Env.dep1, run_eq, ex, ev, evs, evO, tst, bop, cop, bf, EY, e__law_year_2, hc]; rfl, rfl, rfl, by
      rw [Int.fdiv_eq_ediv_of_nonneg _ (by omega)]
      exact ⟨Int.ediv_nonneg hs.1 (by omega), by
        have : inf.sum / n < 1001 := Int.ediv_lt_of_lt_mul (by omega) (by omega)
        omega⟩⟩)
    refine ⟨xs, y, ?_, by rw [e2, List.length_map], e3⟩
    have e1' : evO (F k) c__law_year_2 (EY cells inf dr n top way turn at_ x y z) = _ := e1
    simp [Tg.set, setAll, Env.wipe, frz1, sv, V3.at, V3.new, intOf, items, isTy, truth, isL, orBad, bopI, Env.dep, Env.dep1, run_eq, ex, ev, evs, evO, tst, bop, cop, bf, EY] at e1'
    simp [Tg.set, setAll, Env.wipe, frz1, sv, V3.at, V3.new, intOf, items, isTy, truth, isL, orBad, bopI, Env.dep, Env.dep1, run_eq, ex, ev, evs, evO, tst, bop, cop, bf, i__law_year_3, EY, h, okD, strsD, depth, eqD]
    simp [Tg.set, setAll, Env.wipe, frz1, sv, V3.at, V3.new, intOf, items, isTy, truth, isL, orBad, bopI, Env.dep, Env.dep1, run_eq, ex, ev, evs, evO, tst, bop, cop, bf, h] at e1'
    rw [e1']
    simp [Tg.set, setAll, Env.wipe, frz1, sv, V3.at, V3.new, intOf, items, isTy, truth, isL, orBad, bopI, Env.dep, Env.dep1, run_eq, ex, ev, evs, evO, tst, bop, cop, bf]
  · refine ⟨dr, y, ?_, hl, hd⟩
    simp [Tg.set, setAll, Env.wipe, frz1, sv, V3.at, V3.new, intOf, items, isTy, truth, isL, orBad, bopI, Env.dep, Env.dep1, run_eq, ex, ev, evs, evO, tst, bop, cop, bf, i__law_year_3, EY, h, okD, strsD, depth, eqD]
end
end Mp

set_option Elab.async false
set_option linter.all false
set_option maxRecDepth 100000
set_option maxHeartbeats 4000000
namespace Mp
section
variable (k : Nat) {cells inf dr : List Int} {n top way turn at_ : Int} {x y z : Option (D × Nat)}
theorem y4 (hi : Rg inf) (hd : Rg dr) (hl : dr.length = inf.length) (h24 : inf.length ≤ 24) : ∃ dr' z', ex (F k) FU i__law_year_4 (EY cells inf dr n top way turn at_ x y z) = .nx (EY cells inf dr' n top way turn at_ x y z') ∧ dr'.length = inf.length ∧ Rg dr' := by
  by_cases h : way = 5
  · have hc : cdivB 2 := ⟨by omega, by omega⟩
    obtain ⟨xs, e1, e2, e3⟩ := comp_P (P := fun v => 0 ≤ v ∧ v ≤ 1000) (Φ := F k) (e := e__law_year_3) (it := .var 5) (s := 10) (ρ := EY cells inf dr n top way turn at_ x y z) (x := ⟨.lst (dr.map D.int), [5], []⟩) (ds := dr.map D.int) (by simp [Tg.set, setAll, Env.wipe, frz1, sv, V3.at, V3.new, intOf, items, isTy, truth, isL, orBad, bopI, Env.dep, Env.dep1, run_eq, ex, ev, evs, evO, tst, bop, cop, bf, EY]) rfl rfl (by rw [List.length_map]; unfold szl; omega) (fun d hd' => by
      obtain ⟨v, hv, rfl⟩ := List.mem_map.mp hd'
      have hg := hd v hv
      refine ⟨_, v.fdiv 2, by simp [Tg.set, setAll, Env.wipe, frz1, sv, V3.at, V3.new, intOf, items, isTy, truth, isL, orBad, bopI, Env.dep, Env.dep1, run_eq, ex, ev, evs, evO, tst, bop, cop, bf, EY, e__law_year_3, hc]; rfl, rfl, rfl, ?_⟩
      rw [Int.fdiv_eq_ediv_of_nonneg _ (by omega)]
      omega)
    refine ⟨xs, z, ?_, by rw [e2, List.length_map, hl], e3⟩
    have e1' : evO (F k) c__law_year_3 (EY cells inf dr n top way turn at_ x y z) = _ := e1
    simp [Tg.set, setAll, Env.wipe, frz1, sv, V3.at, V3.new, intOf, items, isTy, truth, isL, orBad, bopI, Env.dep, Env.dep1, run_eq, ex, ev, evs, evO, tst, bop, cop, bf, EY] at e1'
    simp [Tg.set, setAll, Env.wipe, frz1, sv, V3.at, V3.new, intOf, items, isTy, truth, isL, orBad, bopI, Env.dep, Env.dep1, run_eq, ex, ev, evs, evO, tst, bop, cop, bf, i__law_year_4, EY, h, okD, strsD, depth, eqD]
    simp [Tg.set, setAll, Env.wipe, frz1, sv, V3.at, V3.new, intOf, items, isTy, truth, isL, orBad, bopI, Env.dep, Env.dep1, run_eq, ex, ev, evs, evO, tst, bop, cop, bf, h] at e1'
    rw [e1']
    simp [Tg.set, setAll, Env.wipe, frz1, sv, V3.at, V3.new, intOf, items, isTy, truth, isL, orBad, bopI, Env.dep, Env.dep1, run_eq, ex, ev, evs, evO, tst, bop, cop, bf]
  · refine ⟨dr, z, ?_, hl, hd⟩
    simp [Tg.set, setAll, Env.wipe, frz1, sv, V3.at, V3.new, intOf, items, isTy, truth, isL, orBad, bopI, Env.dep, Env.dep1, run_eq, ex, ev, evs, evO, tst, bop, cop, bf, i__law_year_4, EY, h, okD, strsD, depth, eqD]
theorem y5 (hi : Rg inf) (hd : Rg dr) (hl : dr.length = inf.length) (h24 : inf.length ≤ 24) (hn : n = inf.length) : ∃ dr' x', ex (F k) FU i__law_year_5 (EY cells inf dr n top way turn at_ x y z) = .nx (EY cells inf dr' n top way turn at_ x' y z) ∧ dr'.length = inf.length ∧ Rg dr' := by
  by_cases h : way = 6
  · have hr : rngOk n := by rw [hn]; exact rng_ok (by omega)
    have hn' : n.toNat = inf.length := by omega
    obtain ⟨xs, e1, e2, e3⟩ := comp_P (P := fun v => 0 ≤ v ∧ v ≤ 1000) (Φ := F k) (e := e__law_year_4) (it := .rng1 (.var 1)) (s := 8) (ρ := EY cells inf dr n top way turn at_ x y z) (x := .at (.lst (upto 0 n.toNat))) (ds := upto 0 n.toNat) (ev_rng1 (x := ⟨.int n, [], []⟩) (by simp [Tg.set, setAll, Env.wipe, frz1, sv, V3.at, V3.new, intOf, items, isTy, truth, isL, orBad, bopI, Env.dep, Env.dep1, run_eq, ex, ev, evs, evO, tst, bop, cop, bf, EY]) rfl hr) rfl rfl (by rw [upto_length]; unfold szl; omega) (fun d hd' => by
      obtain ⟨i, hi', rfl⟩ := upto_mem hd'
      have a1 : (0 : Int) ≤ 0 + i := by omega
      have q1 := atI_li (ns := dr) a1 (by omega)
      have q2 := atI_li (ns := inf) a1 (by omega)
      have g1 := hd _ (gi_mem (ns := dr) a1 (by omega))
      have g2 := hi _ (gi_mem (ns := inf) a1 (by omega))
      rw [Int.zero_add] at q1 q2 g1 g2
      refine ⟨_, min (gi dr i) (gi inf i), by simp [Tg.set, setAll, Env.wipe, frz1, sv, V3.at, V3.new, intOf, items, isTy, truth, isL, orBad, bopI, Env.dep, Env.dep1, run_eq, ex, ev, evs, evO, tst, bop, cop, bf, EY, e__law_year_4, q1, q2, min_if]; rfl, rfl, rfl, by omega⟩)
    refine ⟨xs, x, ?_, by rw [e2, upto_length, hn'], e3⟩
    have e1' : evO (F k) c__law_year_4 (EY cells inf dr n top way turn at_ x y z) = _ := e1
    simp [Tg.set, setAll, Env.wipe, frz1, sv, V3.at, V3.new, intOf, items, isTy, truth, isL, orBad, bopI, Env.dep, Env.dep1, run_eq, ex, ev, evs, evO, tst, bop, cop, bf, EY] at e1'
    simp [Tg.set, setAll, Env.wipe, frz1, sv, V3.at, V3.new, intOf, items, isTy, truth, isL, orBad, bopI, Env.dep, Env.dep1, run_eq, ex, ev, evs, evO, tst, bop, cop, bf, i__law_year_5, EY, h, okD, strsD, depth, eqD]
    simp [Tg.set, setAll, Env.wipe, frz1, sv, V3.at, V3.new, intOf, items, isTy, truth, isL, orBad, bopI, Env.dep, Env.dep1, run_eq, ex, ev, evs, evO, tst, bop, cop, bf, h] at e1'
    rw [e1']
    simp [Tg.set, setAll, Env.wipe, frz1, sv, V3.at, V3.new, intOf, items, isTy, truth, isL, orBad, bopI, Env.dep, Env.dep1, run_eq, ex, ev, evs, evO, tst, bop, cop, bf]
  · refine ⟨dr, x, ?_, hl, hd⟩
    simp [Tg.set, setAll, Env.wipe, frz1, sv, V3.at, V3.new, intOf, items, isTy, truth, isL, orBad, bopI, Env.dep, Env.dep1, run_eq, ex, ev, evs, evO, tst, bop, cop, bf, i__law_year_5, EY, h, okD, strsD, depth, eqD]
theorem y6 (hi : Rg inf) (hd : Rg dr) (hl : dr.length = inf.length) (h24 : inf.length ≤ 24) (ha : 0 ≤ at_) (ha2 : at_ < inf.length) : ∃ dr' y', ex (F k) FU i__law_year_6 (EY cells inf dr n top way turn at_ x y z) = .nx (EY cells inf dr' n top way turn at_ x y' z) ∧ dr'.length = inf.length ∧ Rg dr' := by
  by_cases h : way = 7
  · obtain ⟨xs, e1, e2, e3⟩ := comp_P (P := fun v => 0 ≤ v ∧ v ≤ 1000) (Φ := F k) (e := e__law_year_5) (it := .var 4) (s := 9) (ρ := EY cells inf dr n top way turn at_ x y z) (x := ⟨.lst (inf.map D.int), [4], []⟩) (ds := inf.map D.int) (by simp [Tg.set, setAll, Env.wipe, frz1, sv, V3.at, V3.new, intOf, items, isTy, truth, isL, orBad, bopI, Env.dep, Env.dep1, run_eq, ex, ev, evs, evO, tst, bop, cop, bf, EY]) rfl rfl (by rw [List.length_map]; unfold szl; omega) (fun d hd' => ⟨_, 0, by simp [Tg.set, setAll, Env.wipe, frz1, sv, V3.at, V3.new, intOf, items, isTy, truth, isL, orBad, bopI, Env.dep, Env.dep1, run_eq, ex, ev, evs, evO, tst, bop, cop, bf, e__law_year_5]; rfl, rfl, rfl, by omega⟩)
    have hs := sum_r hi
    rw [List.length_map] at e2
    have hx := ixN_ok (n := xs.length) ha (by rw [e2]; exact ha2)
    refine ⟨xs.set at_.toNat (min 1000 inf.sum), y, ?_, by rw [List.length_set]; exact e2, Rg.set e3 _ (by omega) (by omega)⟩
    have e1' : evO (F k) c__law_year_5 (EY cells inf dr n top way turn at_ x y z) = _ := e1
    simp [Tg.set, setAll, Env.wipe, frz1, sv, V3.at, V3.new, intOf, items, isTy, truth, isL, orBad, bopI, Env.dep, Env.dep1, run_eq, ex, ev, evs, evO, tst, bop, cop, bf, EY] at e1'
    simp [Tg.set, setAll, Env.wipe, frz1, sv, V3.at, V3.new, intOf, items, isTy, truth, isL, orBad, bopI, Env.dep, Env.dep1, run_eq, ex, ev, evs, evO, tst, bop, cop, bf, i__law_year_6, EY, h, okD, strsD, depth, eqD]
    simp [Tg.set, setAll, Env.wipe, frz1, sv, V3.at, V3.new, intOf, items, isTy, truth, isL, orBad, bopI, Env.dep, Env.dep1, run_eq, ex, ev, evs, evO, tst, bop, cop, bf, h] at e1'
    rw [e1']
    simp [Tg.set, setAll, Env.wipe, frz1, sv, V3.at, V3.new, intOf, items, isTy, truth, isL, orBad, bopI, Env.dep, Env.dep1, run_eq, ex, ev, evs, evO, tst, bop, cop, bf, min_if, Env.own, hx, List.map_set]
  · refine ⟨dr, y, ?_, hl, hd⟩
    simp [Tg.set, setAll, Env.wipe, frz1, sv, V3.at, V3.new, intOf, items, isTy, truth, isL, orBad, bopI, Env.dep, Env.dep1, run_eq, ex, ev, evs, evO, tst, bop, cop, bf, i__law_year_6, EY, h, okD, strsD, depth, eqD]
theorem evO_bin (Φ : Nat → Fn) (o : BOp) (a b : M) (ρ : Env) : evO Φ (.bin o a b) ρ = (do let x ← ev Φ (.bin o a b) ρ; .ok (x, isL x.d)) := rfl
theorem evO_lst (Φ : Nat → Fn) (a : M) (ρ : Env) : evO Φ (.lst a) ρ = (do let x ← ev Φ (.lst a) ρ; .ok (x, 1)) := rfl
theorem s_law_year (hc : Cell cells) (hcl : cells.length = 63) (m : Nat) (hm0 : 0 < m) (hm : m ≤ 24) (hn : n = m) (ht0 : 0 ≤ top) (ht : top ≤ 1000) : ∃ inf dr : List Int, F (k + 1) 18 [.lst (cells.map D.int), .int n, .int top, .int way] = .ok (.lst [.lst (inf.map D.int), .lst (dr.map D.int)], 1) ∧ Yr inf dr ∧ inf.length = m := by
  have hr : rngOk n := by rw [hn]; exact rng_ok (by omega)
  have hn' : n.toNat = m := by omega
  have hn0 : ¬ n = 0 := by omega
  have ht1 : ¬ top + 1 = 0 := by omega
  have c24 : cdivB 24 := ⟨by decide, by decide⟩
  have c1001 : cdivB 1001 := ⟨by decide, by decide⟩
  obtain ⟨inf, e1, l1, r1⟩ := comp_P (P := fun v => 0 ≤ v ∧ v ≤ 1000) (Φ := F k) (e := e__law_year_0) (it := .rng1 (.var 1)) (s := 8) (ρ := [some (.lst (cells.map D.int), 0), some (.int n, 0), some (.int top, 0), some (.int way, 0), none, none, none, none, none, none, none]) (x := .at (.lst (upto 0 n.toNat))) (ds := upto 0 n.toNat) (ev_rng1 (x := ⟨.int n, [], []⟩) (by simp [Tg.set, setAll, Env.wipe, frz1, sv, V3.at, V3.new, intOf, items, isTy, truth, isL, orBad, bopI, Env.dep, Env.dep1, run_eq, ex, ev, evs, evO, tst, bop, cop, bf]) rfl hr) rfl rfl (by rw [upto_length]; unfold szl; omega) (fun d hd' => by
    obtain ⟨i, hi', rfl⟩ := upto_mem hd'
    have q1 := atI_li (ns := cells) (i := 1 + (i : Int)) (by omega) (by omega)
    refine ⟨_, (gi cells (1 + i)).fmod (top + 1), by simp [Tg.set, setAll, Env.wipe, frz1, sv, V3.at, V3.new, intOf, items, isTy, truth, isL, orBad, bopI, Env.dep, Env.dep1, run_eq, ex, ev, evs, evO, tst, bop, cop, bf, e__law_year_0, q1, ht1]; rfl, rfl, rfl, Int.fmod_nonneg_of_pos _ (by omega), ?_⟩
    have := Int.fmod_lt_of_pos (gi cells (1 + i)) (show 0 < top + 1 by omega)
    omega)
  obtain ⟨dr, e2, l2, r2⟩ := comp_P (P := fun v => 0 ≤ v ∧ v ≤ 1000) (Φ := F k) (e := e__law_year_1) (it := .rng1 (.var 1)) (s := 8) (ρ := [some (.lst (cells.map D.int), 0), some (.int n, 0), some (.int top, 0), some (.int way, 0), some (.lst (inf.map D.int), 1), none, none, none, none, none, none]) (x := .at (.lst (upto 0 n.toNat))) (ds := upto 0 n.toNat) (ev_rng1 (x := ⟨.int n, [], []⟩) (by simp [Tg.set, setAll, Env.wipe, frz1, sv, V3.at, V3.new, intOf, items, isTy, truth, isL, orBad, bopI, Env.dep, Env.dep1, run_eq, ex, ev, evs, evO, tst, bop, cop, bf]) rfl hr) rfl rfl (by rw [upto_length]; unfold szl; omega) (fun d hd' => by
    obtain ⟨i, hi', rfl⟩ := upto_mem hd'
    have q1 := atI_li (ns := cells) (i := 1 + (i : Int)) (by omega) (by omega)
    refine ⟨_, ((gi cells (1 + i)).fdiv 1001).fmod (top + 1), by simp [Tg.set, setAll, Env.wipe, frz1, sv, V3.at, V3.new, intOf, items, isTy, truth, isL, orBad, bopI, Env.dep, Env.dep1, run_eq, ex, ev, evs, evO, tst, bop, cop, bf, e__law_year_1, q1, ht1, c1001]; rfl, rfl, rfl, Int.fmod_nonneg_of_pos _ (by omega), ?_⟩
    have := Int.fmod_lt_of_pos ((gi cells (1 + i)).fdiv 1001) (show 0 < top + 1 by omega)
    omega)
  rw [upto_length, hn'] at l1 l2
  have e1' : evO (F k) c__law_year_0 _ = _ := e1
  have e2' : evO (F k) c__law_year_1 _ = _ := e2
  have q25 := atI_li (ns := cells) (i := 25) (by omega) (by omega)
  have p1 := fm0 (gi cells 25) (n := m) hm0
  have p2 := fm1 (gi cells 25) (n := m) hm0
  have p3 := fm0 ((gi cells 25).fdiv 24) (n := m) hm0
  have p4 := fm1 ((gi cells 25).fdiv 24) (n := m) hm0
  rw [← hn] at p1 p2 p3 p4
  have hnl : n = inf.length := by omega
  rw [hnl] at p2 p4
  rw [← hnl] at p2 p4
  have f := @y0 k cells inf dr n top way ((gi cells 25).fmod n) (((gi cells 25).fdiv 24).fmod n) none none none r1 r2 (by omega) (by omega) p1 (by omega)
  obtain ⟨d0, f0, g0, h0⟩ := f
  obtain ⟨d1, f1, g1, h1⟩ := @y1 k cells inf d0 n top way ((gi cells 25).fmod n) (((gi cells 25).fdiv 24).fmod n) none none none h0 g0 p3 (by omega)
  obtain ⟨d2, f2, g2, h2⟩ := @y2 k cells inf d1 n top way ((gi cells 25).fmod n) (((gi cells 25).fdiv 24).fmod n) none none none h1 g1 p3 (by omega)
  obtain ⟨d3, a3, f3, g3, h3⟩ := @y3 k cells inf d2 n top way ((gi cells 25).fmod n) (((gi cells 25).fdiv 24).fmod n) none none none r1 h2 g2 (by omega) (by omega) hnl
  obtain ⟨d4, a4, f4, g4, h4⟩ := @y4 k cells inf d3 n top way ((gi cells 25).fmod n) (((gi cells 25).fdiv 24).fmod n) none a3 none r1 h3 g3 (by omega)
  obtain ⟨d5, a5, f5, g5, h5⟩ := @y5 k cells inf d4 n top way ((gi cells 25).fmod n) (((gi cells 25).fdiv 24).fmod n) none a3 a4 r1 h4 g4 (by omega) hnl
  obtain ⟨d6, a6, f6, g6, h6⟩ := @y6 k cells inf d5 n top way ((gi cells 25).fmod n) (((gi cells 25).fdiv 24).fmod n) a5 a3 a4 r1 h5 g5 (by omega) p3 (by omega)
  refine ⟨inf, d6, ?_, ⟨g6, by omega, by omega, r1, h6⟩, l1⟩
  show run (F k) FU 4 11 b__law_year _ = _
  simp only [EY] at f0 f1 f2 f3 f4 f5 f6
  simp [Tg.set, setAll, Env.wipe, frz1, sv, V3.at, V3.new, intOf, items, isTy, truth, isL, orBad, bopI, Env.dep, Env.dep1, run_eq, ex, ev, evs, tst, bop, cop, bf, evO_bin, evO_lst, b__law_year, e1', e2', q25, hn0, c24, f0, f1, f2, f3, f4, f5, f6, szl]
end
end Mp

set_option Elab.async false
set_option linter.all false
set_option maxRecDepth 100000
set_option maxHeartbeats 4000000
namespace Mp
theorem evO_call (Φ : Nat → Fn) (f : Nat) (a : M) (ρ : Env) : evO Φ (.call f a) ρ = (do let xs ← evs Φ a ρ; let z ← Φ f xs.1; .ok (.new z.1 xs.2.1, z.2)) := rfl
theorem evO_and (Φ : Nat → Fn) (a b : M) (ρ : Env) : evO Φ (.and a b) ρ = (do let x ← ev Φ (.and a b) ρ; .ok (x, 0)) := rfl
theorem evO_ix (Φ : Nat → Fn) (a b : M) (ρ : Env) : evO Φ (.ix a b) ρ = (do let x ← ev Φ (.ix a b) ρ; .ok (x, 0)) := rfl
theorem evO_con (Φ : Nat → Fn) (d : D) (ρ : Env) : evO Φ (.con d) ρ = (do let x ← ev Φ (.con d) ρ; .ok (x, 0)) := rfl
theorem evO_neg (Φ : Nat → Fn) (a : M) (ρ : Env) : evO Φ (.neg a) ρ = (do let x ← ev Φ (.neg a) ρ; .ok (x, 0)) := rfl
theorem evO_bf (Φ : Nat → Fn) (f : Bf) (a : M) (ρ : Env) : evO Φ (.bf f a) ρ = (do let x ← ev Φ (.bf f a) ρ; .ok (x, 0)) := rfl
theorem atm_oi (o : Option Int) (s : List Nat) : dp (oi o) s = [] := by cases o <;> rfl
section
variable (k : Nat) {inf dr dz : List Int}
theorem gi_zero (hz : ∀ x ∈ dz, x = 0) (i : Int) : gi dz i = 0 := by
  unfold gi
  rw [List.getD_eq_getElem?_getD]
  cases e : dz[i.toNat]? with
  | none => rfl
  | some x => exact hz x (List.mem_of_getElem? e)
theorem step_zero (hz : ∀ x ∈ dz, x = 0) (hi : Rg inf) {room p l : Int} (h0 : 0 ≤ l) (hl : l ≤ room) (hp : 0 ≤ p) (hp2 : p < inf.length) : stepM room inf dz p l = some (min room (l + gi inf p)) := by
  have := hi _ (gi_mem hp hp2)
  unfold stepM
  rw [gi_zero hz, if_neg (by omega)]
  congr 1
  omega
theorem yr_zero (hz : ∀ x ∈ dz, x = 0) (Y : Yr inf dz) {room p : Int} : ∀ (m t : Nat) (l : Int), 0 ≤ l → l ≤ room → ∃ l', yrM room inf dz p m t l = .inr l' ∧ l ≤ l'
  | 0, t, l, _, _ => ⟨l, rfl, by omega⟩
  | m + 1, t, l, h0, hl => by
    have f0 := fm0 (p + t) Y.pos
    have f1 := fm1 (p + t) Y.pos
    have hg := Y.i _ (gi_mem f0 f1)
    obtain ⟨l', e, h⟩ := yr_zero hz Y (room := room) (p := p) m (t + 1) (min room (l + gi inf ((p + t).fmod inf.length))) (by omega) (by omega)
    refine ⟨l', ?_, by omega⟩
    unfold yrM
    rw [step_zero hz Y.i h0 hl f0 f1]
    exact e
theorem last_zero (hz : ∀ x ∈ dz, x = 0) (Y : Yr inf dz) {room p l : Int} (f : Nat) (h0 : 0 ≤ l) (hl : l ≤ room) : lastM room inf dz p f 0 l = none := by
  cases f with
  | zero => rfl
  | succ f =>
    obtain ⟨l', e, h⟩ := yr_zero hz Y (p := p) inf.length 0 l h0 hl
    unfold lastM
    rw [e]
    show (if l' < l then _ else none) = none
    rw [if_neg (by omega)]
theorem s_law_walks (Y : Yr inf dr) (room p l : Int) (hr : 1 ≤ room ∧ room ≤ 1000) (h1 : 0 ≤ p) (h2 : p < inf.length) (h3 : 0 ≤ l) (h4 : l ≤ room) :
    F (k + 6) 24 [.int room, .lst (inf.map D.int), .lst (dr.map D.int), .int p, .int l] = .ok (.bl true, 0) := by
  show run (F (k + 5)) FU 5 10 b__law_walks _ = _
  have hfu : (room + 2).toNat ≤ FU := by rw [FU_eq]; omega
  have a1 := s_year_step k Y (.inl rfl) (.inl rfl) room p l hr h1 h2 h3 h4
  have a2 := s_law_step (k + 4) Y room p l h1 h2
  have a3 := s_law_is (k + 4) (stepM room inf dr p l) (fun v e => by have := step_nn Y e; omega)
  have a4 := s_lasting k Y (.inl rfl) (.inl rfl) room p l hr h1 h2 h3 h4 (room + 2).toNat (by omega) hfu
  have a8 := s_law_lasting (k + 3) Y room p l hr
  have a9 := s_law_is (k + 4) (lastM room inf dr p (room + 2).toNat 0 l) (fun v e => by have := last_nn (by omega) e; omega)
  obtain ⟨dz, e1, e2, hz⟩ := comp_P (P := fun v => v = 0) (Φ := F (k + 5)) (e := e__law_walks_0) (it := .var 2) (s := 9) (ρ := [some (.int room, 0), some (.lst (inf.map D.int), 0), some (.lst (dr.map D.int), 0), some (.int p, 0), some (.int l, 0), some (.lst [.lst (inf.map D.int), .lst (dr.map D.int)], 1), some (oi (stepM room inf dr p l), 0), some (oi (lastM room inf dr p (room + 2).toNat 0 l), 0), none, none]) (x := ⟨.lst (dr.map D.int), [], []⟩) (ds := dr.map D.int) (by simp [Tg.set, setAll, Env.wipe, frz1, sv, V3.at, V3.new, intOf, items, isTy, truth, isL, orBad, bopI, Env.dep, Env.dep1, run_eq, ex, ev, evs, tst, bop, cop, bf, evO_bin, evO_lst, evO_call, evO_and, evO_ix, evO_con, evO_neg, evO_bf, atm_oi]) rfl rfl (by rw [List.length_map, Y.len]; have := Y.le; unfold szl; omega) (fun d hd' => ⟨_, 0, by simp [Tg.set, setAll, Env.wipe, frz1, sv, V3.at, V3.new, intOf, items, isTy, truth, isL, orBad, bopI, Env.dep, Env.dep1, run_eq, ex, ev, evs, tst, bop, cop, bf, evO_bin, evO_lst, evO_call, evO_and, evO_ix, evO_con, evO_neg, evO_bf, atm_oi, e__law_walks_0]; rfl, rfl, rfl, rfl⟩)
  rw [List.length_map] at e2
  have Z : Yr inf dz := ⟨by rw [e2, Y.len], Y.pos, Y.le, Y.i, fun x hx => by rw [hz x hx]; omega⟩
  have a5 := s_lasting k Z (.inr rfl) (.inr rfl) room p l hr h1 h2 h3 h4 (room + 2).toNat (by omega) hfu
  rw [last_zero hz Z _ h3 h4] at a5
  have a6 := s_year_step k Z (.inr rfl) (.inl rfl) room p l hr h1 h2 h3 h4
  rw [step_zero hz Y.i h3 h4 h1 h2] at a6
  have hg := Y.i _ (gi_mem h1 h2)
  have a7 := s_law_is (k + 4) (some (min room (l + gi inf p))) (fun v e => by have := Option.some.inj e; omega)
  have e1' : evO (F (k + 5)) c__law_walks_0 _ = _ := e1
  have q := atI_li (ns := inf) h1 h2
  have t0 : ∀ a b : D, atI [a, b] 0 = some a := fun _ _ => rfl
  have t1 : ∀ a b : D, atI [a, b] 1 = some b := fun _ _ => rfl
  simp only [oi, Option.getD] at a5 a6 a7
  simp [Tg.set, setAll, Env.wipe, frz1, sv, V3.at, V3.new, intOf, items, isTy, truth, isL, orBad, bopI, Env.dep, Env.dep1, run_eq, ex, ev, evs, tst, bop, cop, bf, evO_bin, evO_lst, evO_call, evO_and, evO_ix, evO_con, evO_neg, evO_bf, atm_oi, b__law_walks, t0, t1, a1, a2, a3, a4, a5, a6, a7, a8, a9, e1', q, min_if, szl, okD, strsD, strsDs, depth, depths, eqD, eqDs]
end
end Mp

set_option Elab.async false
set_option linter.all false
set_option maxRecDepth 100000
set_option maxHeartbeats 4000000
namespace Mp
section
variable (k : Nat) {inf dr dz : List Int}
def Gd (b : B3) : Prop := 0 ≤ b.1 ∧ 1 ≤ b.2.1 ∧ 0 ≤ b.2.2
theorem row_g {s : Int} (hs : 0 ≤ s) : ∀ (j : Nat) (b : B3), Gd b → Gd (rowM inf dr s j b)
  | 0, b, h => h
  | j + 1, b, h => by
    have ih := row_g hs j b h
    unfold rowM
    split
    · rename_i h2
      exact ⟨hs, by show (1 : Int) ≤ ((j + 1 : Nat) : Int); omega, by
        have := ih.2.2
        show 0 ≤ totM inf dr s j
        omega⟩
    · exact ih
theorem all_g (Y : Yr inf dr) : ∀ m : Nat, Gd (allM inf dr m)
  | 0 => ⟨by show (0 : Int) ≤ 0; omega, by show (1 : Int) ≤ 1; omega, (Y.d _ (gi_mem (ns := dr) (i := 0) (by omega) (by rw [Y.len]; have := Y.pos; omega))).1⟩
  | m + 1 => row_g (by omega) _ _ (all_g Y m)
theorem tot_z (hz : ∀ x ∈ dz, x = 0) (Y : Yr inf dz) (s : Int) : ∀ j : Nat, totM inf dz s j ≤ 0
  | 0 => by
    show gi dz s ≤ 0
    rw [gi_zero hz]
    omega
  | j + 1 => by
    have ih := tot_z hz Y s j
    have f0 := fm0 (s + ((j + 1 : Nat) : Int)) Y.pos
    have f1 := fm1 (s + ((j + 1 : Nat) : Int)) Y.pos
    have hg := Y.i _ (gi_mem f0 f1)
    unfold totM
    rw [gi_zero hz]
    omega
theorem row_z (hz : ∀ x ∈ dz, x = 0) (Y : Yr inf dz) (s : Int) : ∀ j : Nat, rowM inf dz s j (0, 1, 0) = (0, 1, 0)
  | 0 => rfl
  | j + 1 => by
    have h := tot_z hz Y s j
    unfold rowM
    rw [row_z hz Y s j, if_neg (by show ¬ (0 : Int) < _; omega)]
theorem all_z (hz : ∀ x ∈ dz, x = 0) (Y : Yr inf dz) : ∀ m : Nat, allM inf dz m = (0, 1, 0)
  | 0 => by
    show (0, 1, gi dz 0) = _
    rw [gi_zero hz]
  | m + 1 => by
    unfold allM
    rw [all_z hz Y m, row_z hz Y]
theorem sum_z (m : Nat) : (List.replicate m (0 : Int)).sum = 0 := by
  induction m with
  | zero => rfl
  | succ m ih => rw [List.replicate_succ, List.sum_cons, ih]; rfl
theorem all_eq {xs : List Int} (h : ∀ x ∈ xs, x = 0) : xs = List.replicate xs.length 0 := List.eq_replicate_of_mem h
theorem runs_turn (b : B3) (hb : Gd b) (i : Nat) (hi : i < 3) (a0 a1 a2 a3 a5 a6 x a9 a10 a11 : Option (D × Nat)) :
    ex (F (k + 1)) FU l__law_runs_0 [a0, a1, a2, a3, some (.lst (b3 b), 0), a5, a6, some (.tup (b3 b), 0), some (.int i, 0), a9, a10, a11] = .nx [a0, a1, a2, a3, some (.lst (b3 b), 0), a5, a6, some (.tup (b3 b), 0), some (.int i, 0), a9, a10, a11] := by
  obtain ⟨b1, b2, b4⟩ := b
  obtain ⟨g1, g2, g3⟩ := hb
  simp only at g1 g2 g3
  have c1 := s_law_is k (some b1) (fun v e => by have := Option.some.inj e; omega)
  have c2 := s_law_is k (some b2) (fun v e => by have := Option.some.inj e; omega)
  have c3 := s_law_is k (some b4) (fun v e => by have := Option.some.inj e; omega)
  simp only [oi, Option.getD] at c1 c2 c3
  match i, hi with
  | 0, _ => simp [Tg.set, setAll, Env.wipe, frz1, sv, V3.at, V3.new, intOf, items, isTy, truth, isL, orBad, bopI, Env.dep, Env.dep1, run_eq, ex, ev, evs, tst, bop, cop, bf, evO_bin, evO_lst, evO_call, evO_and, evO_ix, evO_con, evO_neg, evO_bf, atm_oi, l__law_runs_0, i__law_runs_3, b3, at3_0, c1]
  | 1, _ => simp [Tg.set, setAll, Env.wipe, frz1, sv, V3.at, V3.new, intOf, items, isTy, truth, isL, orBad, bopI, Env.dep, Env.dep1, run_eq, ex, ev, evs, tst, bop, cop, bf, evO_bin, evO_lst, evO_call, evO_and, evO_ix, evO_con, evO_neg, evO_bf, atm_oi, l__law_runs_0, i__law_runs_3, b3, at3_1, c2]
  | 2, _ => simp [Tg.set, setAll, Env.wipe, frz1, sv, V3.at, V3.new, intOf, items, isTy, truth, isL, orBad, bopI, Env.dep, Env.dep1, run_eq, ex, ev, evs, tst, bop, cop, bf, evO_bin, evO_lst, evO_call, evO_and, evO_ix, evO_con, evO_neg, evO_bf, atm_oi, l__law_runs_0, i__law_runs_3, b3, at3_2, c3]
theorem runs_loop (b : B3) (hb : Gd b) (a0 a1 a2 a3 a5 a6 a9 a10 a11 : Option (D × Nat)) :
    ex (F (k + 1)) FU f__law_runs_0 [a0, a1, a2, a3, some (.lst (b3 b), 0), a5, a6, some (.tup (b3 b), 0), none, a9, a10, a11] = .nx [a0, a1, a2, a3, some (.lst (b3 b), 0), a5, a6, some (.tup (b3 b), 0), some (.int 2, 0), a9, a10, a11] := by
  rw [f__law_runs_0, ex_for1 (x := .at (.int 3)) (j := 3) (by simp [Tg.set, setAll, Env.wipe, frz1, sv, V3.at, V3.new, intOf, items, isTy, truth, isL, orBad, bopI, Env.dep, Env.dep1, run_eq, ex, ev, evs, tst, bop, cop, bf, evO_bin, evO_lst, evO_call, evO_and, evO_ix, evO_con, evO_neg, evO_bf, atm_oi]) rfl (rng_ok (n := 3) (by omega))]
  show forGo _ _ [.int 0, .int 1, .int 2] _ = _
  have r := runs_turn k b hb
  rw [forGo_nx rfl (r 0 (by omega) a0 a1 a2 a3 a5 a6 none a9 a10 a11), forGo_nx rfl (r 1 (by omega) a0 a1 a2 a3 a5 a6 none a9 a10 a11), forGo_nx rfl (r 2 (by omega) a0 a1 a2 a3 a5 a6 none a9 a10 a11)]
  rfl
end
end Mp

set_option Elab.async false
set_option linter.all false
set_option maxRecDepth 100000
set_option maxHeartbeats 400000
namespace Mp
theorem at2_0 (a b : D) : atI [a, b] 0 = some a := rfl
theorem at2_1 (a b : D) : atI [a, b] 1 = some b := rfl
section
variable (k : Nat) {inf dr dz : List Int}
abbrev PS2 (inf dr : List Int) : D := .lst [.lst (inf.map D.int), .lst (dr.map D.int)]
theorem r0 (Y : Yr inf dr) (s : Int) (h1 : 0 ≤ s) (h2 : s < inf.length) (a3 a4 a6 a7 a8 a9 a10 a11 : Option (D × Nat)) :
    ex (F (k + 5)) FU i__law_runs_0 [some (.lst (inf.map D.int), 0), some (.lst (dr.map D.int), 0), some (.int s, 0), a3, a4, some (PS2 inf dr, 1), a6, a7, a8, a9, a10, a11] = .nx [some (.lst (inf.map D.int), 0), some (.lst (dr.map D.int), 0), some (.int s, 0), a3, a4, some (PS2 inf dr, 1), a6, a7, a8, a9, a10, a11] := by
  have hgd := Y.d _ (gi_mem (ns := dr) h1 (by rw [Y.len]; exact h2))
  have q := atI_li (ns := dr) h1 (by rw [Y.len]; exact h2)
  have d1 := s_fall k Y (.inl rfl) (.inl rfl) s 1 0 h1 h2 (by omega) (by omega)
  have d2 := s_law_is (k + 4) (some (gi dr s)) (fun v e => by have := Option.some.inj e; omega)
  simp only [oi, Option.getD] at d2
  simp only [totM] at d1
  simp [Tg.set, setAll, Env.wipe, frz1, sv, V3.at, V3.new, intOf, items, isTy, truth, isL, orBad, bopI, Env.dep, Env.dep1, run_eq, ex, ev, evs, tst, bop, cop, bf, evO_bin, evO_lst, evO_call, evO_and, evO_ix, evO_con, evO_neg, evO_bf, atm_oi, i__law_runs_0, PS2, at2_0, at2_1, d1, d2, q]
theorem r1 (Y : Yr inf dr) (s len : Int) (j : Nat) (h1 : 0 ≤ s) (h2 : s < inf.length) (hj : j + 1 ≤ inf.length) (hlen : len = j + 1) (a4 a5 a7 a8 a9 a10 a11 : Option (D × Nat)) :
    ex (F (k + 5)) FU i__law_runs_1 [some (.lst (inf.map D.int), 0), some (.lst (dr.map D.int), 0), some (.int s, 0), some (.int len, 0), a4, a5, some (.int (totM inf dr s j), 0), a7, a8, a9, a10, a11] = .nx [some (.lst (inf.map D.int), 0), some (.lst (dr.map D.int), 0), some (.int s, 0), some (.int len, 0), a4, a5, some (.int (totM inf dr s j), 0), a7, a8, a9, a10, a11] := by
  have d4 := s_law_fall (k + 4) Y s len j h1 h2 hj hlen
  simp [Tg.set, setAll, Env.wipe, frz1, sv, V3.at, V3.new, intOf, items, isTy, truth, isL, orBad, bopI, Env.dep, Env.dep1, run_eq, ex, ev, evs, tst, bop, cop, bf, evO_bin, evO_lst, evO_call, evO_and, evO_ix, evO_con, evO_neg, evO_bf, atm_oi, i__law_runs_1, d4, okD, strsD, depth, eqD]
theorem r2 (b : B3) (a0 a1 a2 a3 a4 a5 a6 a8 a9 a10 a11 : Option (D × Nat)) :
    ex (F (k + 5)) FU i__law_runs_2 [a0, a1, a2, a3, a4, a5, a6, some (.tup (b3 b), 0), a8, a9, a10, a11] = .nx [a0, a1, a2, a3, a4, a5, a6, some (.tup (b3 b), 0), a8, a9, a10, a11] := by
  simp [Tg.set, setAll, Env.wipe, frz1, sv, V3.at, V3.new, intOf, items, isTy, truth, isL, orBad, bopI, Env.dep, Env.dep1, run_eq, ex, ev, evs, tst, bop, cop, bf, evO_bin, evO_lst, evO_call, evO_and, evO_ix, evO_con, evO_neg, evO_bf, atm_oi, i__law_runs_2, b3, okD, strsD, depth, eqD]
theorem r4 (due : Int) (a2 a3 a4 a5 a6 a7 a8 a10 a11 : Option (D × Nat)) :
    ex (F (k + 5)) FU i__law_runs_4 [some (.lst (inf.map D.int), 0), some (.lst (dr.map D.int), 0), a2, a3, a4, a5, a6, a7, a8, some (.int due, 0), a10, a11] = .nx [some (.lst (inf.map D.int), 0), some (.lst (dr.map D.int), 0), a2, a3, a4, a5, a6, a7, a8, some (.int (if inf.sum < dr.sum then -1 else due), 0), a10, a11] := by
  by_cases h : inf.sum < dr.sum
  · simp [Tg.set, setAll, Env.wipe, frz1, sv, V3.at, V3.new, intOf, items, isTy, truth, isL, orBad, bopI, Env.dep, Env.dep1, run_eq, ex, ev, evs, tst, bop, cop, bf, evO_bin, evO_lst, evO_call, evO_and, evO_ix, evO_con, evO_neg, evO_bf, atm_oi, i__law_runs_4, h]
  · simp [Tg.set, setAll, Env.wipe, frz1, sv, V3.at, V3.new, intOf, items, isTy, truth, isL, orBad, bopI, Env.dep, Env.dep1, run_eq, ex, ev, evs, tst, bop, cop, bf, evO_bin, evO_lst, evO_call, evO_and, evO_ix, evO_con, evO_neg, evO_bf, atm_oi, i__law_runs_4, h]
def dueM (inf dr : List Int) : Option Int := if inf.sum < dr.sum then none else some (allM inf dr inf.length).2.2
theorem due_eq : (if inf.sum < dr.sum then -1 else (allM inf dr inf.length).2.2) = (dueM inf dr).getD (-1) := by
  unfold dueM
  split <;> rfl
theorem due_is (Y : Yr inf dr) : F (k + 5) 20 [oi (dueM inf dr), .int ((dueM inf dr).getD (-1))] = .ok (.bl true, 0) :=
  s_law_is (k + 4) (dueM inf dr) (fun v e => by
    unfold dueM at e
    split at e
    · cases e
    · have := Option.some.inj e
      have := (all_g Y inf.length).2.2
      omega)
theorem r5 (Y : Yr inf dr) (a2 a3 a4 a6 a7 a8 a10 a11 : Option (D × Nat)) :
    ex (F (k + 5)) FU i__law_runs_5 [some (.lst (inf.map D.int), 0), some (.lst (dr.map D.int), 0), a2, a3, a4, some (PS2 inf dr, 1), a6, a7, a8, some (.int ((dueM inf dr).getD (-1)), 0), a10, a11] = .nx [some (.lst (inf.map D.int), 0), some (.lst (dr.map D.int), 0), a2, a3, a4, some (PS2 inf dr, 1), a6, a7, a8, some (.int ((dueM inf dr).getD (-1)), 0), a10, a11] := by
  have d6 : F (k + 5) 16 [.lst (inf.map D.int), .lst (dr.map D.int)] = .ok (oi (dueM inf dr), 0) := s_least_room k Y (.inl rfl) (.inl rfl)
  have d7 := due_is k Y
  simp [Tg.set, setAll, Env.wipe, frz1, sv, V3.at, V3.new, intOf, items, isTy, truth, isL, orBad, bopI, Env.dep, Env.dep1, run_eq, ex, ev, evs, tst, bop, cop, bf, evO_bin, evO_lst, evO_call, evO_and, evO_ix, evO_con, evO_neg, evO_bf, atm_oi, i__law_runs_5, PS2, at2_0, at2_1, d6, d7, szl, okD, strsD, strsDs, depth, depths, eqD, eqDs]
end
end Mp

set_option Elab.async false
set_option linter.all false
set_option maxRecDepth 100000
set_option maxHeartbeats 400000
namespace Mp
section
variable (k : Nat) {inf dr dz : List Int}
theorem r6 (Z : Yr inf dz) (hz : ∀ x ∈ dz, x = 0) (hs : dz.sum = 0) (a1 a2 a3 a4 a5 a6 a7 a8 a9 a11 : Option (D × Nat)) :
    ex (F (k + 5)) FU i__law_runs_6 [some (.lst (inf.map D.int), 0), a1, a2, a3, a4, a5, a6, a7, a8, a9, some (.lst (dz.map D.int), 1), a11] = .nx [some (.lst (inf.map D.int), 0), a1, a2, a3, a4, a5, a6, a7, a8, a9, some (.lst (dz.map D.int), 1), a11] := by
  have d8 := s_least_room k Z (.inr rfl) (.inr rfl)
  have d9 := s_worst_run k Z (.inl rfl) (.inl rfl)
  have d10 := s_law_is (k + 4) (some 0) (fun v e => by have := Option.some.inj e; omega)
  have hs0 := (sum_r Z.i).1
  rw [all_z hz Z, hs, if_neg (by omega)] at d8
  rw [all_z hz Z] at d9
  simp only [oi, Option.getD] at d8 d10
  clear hz hs hs0 Z
  simp [Tg.set, setAll, Env.wipe, frz1, sv, V3.at, V3.new, intOf, items, isTy, truth, isL, orBad, bopI, Env.dep, Env.dep1, run_eq, ex, ev, evs, tst, bop, cop, bf, evO_bin, evO_lst, evO_call, evO_and, evO_ix, evO_con, evO_neg, evO_bf, atm_oi, i__law_runs_6, d8, d9, d10, b3, szl, okD, strsD, strsDs, depth, depths, eqD, eqDs]
theorem r_dry (Y : Yr inf dr) (a2 a3 a4 a5 a6 a7 a8 a9 : Option (D × Nat)) : evO (F (k + 5)) c__law_runs_0 [some (.lst (inf.map D.int), 0), some (.lst (dr.map D.int), 0), a2, a3, a4, a5, a6, a7, a8, a9, none, none] = .ok (.new (.lst ((List.replicate inf.length 0).map D.int)) [], 1) := by
  obtain ⟨dz, e1, e2, hz⟩ := comp_P (P := fun v => v = 0) (Φ := F (k + 5)) (e := e__law_runs_0) (it := .var 1) (s := 11) (ρ := [some (.lst (inf.map D.int), 0), some (.lst (dr.map D.int), 0), a2, a3, a4, a5, a6, a7, a8, a9, none, none]) (x := ⟨.lst (dr.map D.int), [], []⟩) (ds := dr.map D.int) (by simp [Tg.set, setAll, Env.wipe, frz1, sv, V3.at, V3.new, intOf, items, isTy, truth, isL, orBad, bopI, Env.dep, Env.dep1, run_eq, ex, ev, evs, tst, bop, cop, bf, evO_bin, evO_lst, evO_call, evO_and, evO_ix, evO_con, evO_neg, evO_bf, atm_oi]) rfl rfl (by rw [List.length_map, Y.len]; have := Y.le; unfold szl; omega) (fun d hd' => ⟨_, 0, by simp [Tg.set, setAll, Env.wipe, frz1, sv, V3.at, V3.new, intOf, items, isTy, truth, isL, orBad, bopI, Env.dep, Env.dep1, run_eq, ex, ev, evs, tst, bop, cop, bf, evO_bin, evO_lst, evO_call, evO_and, evO_ix, evO_con, evO_neg, evO_bf, atm_oi, e__law_runs_0]; rfl, rfl, rfl, rfl⟩)
  rw [List.length_map, Y.len] at e2
  rw [← e2, ← all_eq hz]
  exact e1
end
end Mp

set_option Elab.async false
set_option linter.all false
set_option maxRecDepth 100000
set_option maxHeartbeats 400000
namespace Mp
theorem ex_sq {Φ : Nat → Fn} {fu : Nat} {a b : S} {ρ ρ' : Env} (h : ex Φ fu a ρ = .nx ρ') : ex Φ fu (.seq a b) ρ = ex Φ fu b ρ' := by
  rw [ex, h]
  rfl
theorem F_run {j k np n : Nat} {b : S} {ds : List D} {ρ : Env} (h : ptab[j]? = some (np, n, b)) (hl : ds.length = np) (hr : ds.map sv ++ List.replicate (n - ds.length) none = ρ) : F (k + 1) j ds = (ex (F k) FU b ρ).fin := by
  show (match ptab[j]? with | some d => run (F k) FU d.1 d.2.1 d.2.2 ds | none => .bad) = _
  rw [h]
  show run _ _ _ _ _ _ = _
  rw [run_eq, if_pos hl, hr]
section
variable (k : Nat) {inf dr dz : List Int}
theorem atb3 (b : B3) : atI (b3 b) 2 = some (.int b.2.2) := rfl
theorem s_law_runs (Y : Yr inf dr) (s len : Int) (j : Nat) (h1 : 0 ≤ s) (h2 : s < inf.length) (hj : j + 1 ≤ inf.length) (hlen : len = j + 1) :
    F (k + 6) 25 [.lst (inf.map D.int), .lst (dr.map D.int), .int s, .int len, .lst (b3 (allM inf dr inf.length))] = .ok (.bl true, 0) := by
  rw [F_run (np := 5) (n := 12) (b := b__law_runs) (ρ := [some (.lst (inf.map D.int), 0), some (.lst (dr.map D.int), 0), some (.int s, 0), some (.int len, 0), some (.lst (b3 (allM inf dr inf.length)), 0), none, none, none, none, none, none, none]) rfl rfl rfl]
  have e0 := r0 k Y s h1 h2
  have e1 := r1 k Y s len j h1 h2 hj hlen
  have e2 := r2 k (allM inf dr inf.length)
  have e3 := runs_loop (k + 4) (allM inf dr inf.length) (all_g Y inf.length)
  have e4 := @r4 k inf dr (allM inf dr inf.length).2.2
  rw [due_eq] at e4
  have e5 := r5 k Y
  have ec := r_dry k Y
  have hz : ∀ x ∈ List.replicate inf.length (0 : Int), x = 0 := fun x hx => (List.mem_replicate.mp hx).2
  have Z : Yr inf (List.replicate inf.length 0) := ⟨by rw [List.length_replicate], Y.pos, Y.le, Y.i, fun x hx => by rw [hz x hx]; omega⟩
  have hs := sum_z inf.length
  have e6 := r6 k Z hz hs
  have d3 := s_fall k Y (.inl rfl) (.inl rfl) s len j h1 h2 hj hlen
  have d5 := s_worst_run k Y (.inl rfl) (.inl rfl)
  have d6' : F (k + 5) 16 [.tup (inf.map D.int), .tup (dr.map D.int)] = .ok (oi (dueM inf dr), 0) := s_least_room k Y (.inr rfl) (.inr rfl)
  have d7 := due_is k Y
  generalize (List.replicate inf.length (0 : Int)) = dz at ec e6
  generalize (allM inf dr inf.length) = W at e2 e3 e4 d5 ⊢
  generalize (dueM inf dr) = du at e4 e5 d6' d7
  generalize totM inf dr s j = tt at e1 d3
  clear hz Z hs Y hj hlen h1 h2
  generalize hli : List.map D.int inf = LI at *
  generalize hld : List.map D.int dr = LD at *
  generalize List.map D.int dz = LZ at *
  rw [b__law_runs]
  have a5 : ex (F (k + 5)) FU (.asg 5 (.lst (.cons (.bf .list (.cons (.var 0) .nil)) (.cons (.bf .list (.cons (.var 1) .nil)) .nil)))) [some (.lst LI, 0), some (.lst LD, 0), some (.int s, 0), some (.int len, 0), some (.lst (b3 W), 0), none, none, none, none, none, none, none] = .nx [some (.lst LI, 0), some (.lst LD, 0), some (.int s, 0), some (.int len, 0), some (.lst (b3 W), 0), some (PS2 inf dr, 1), none, none, none, none, none, none] := by
    simp [Tg.set, setAll, Env.wipe, frz1, sv, V3.at, V3.new, intOf, items, isTy, truth, isL, orBad, bopI, Env.dep, Env.dep1, run_eq, ex, ev, evs, tst, bop, cop, bf, evO_bin, evO_lst, evO_call, evO_and, evO_ix, evO_con, evO_neg, evO_bf, atm_oi, szl, hli, hld]
  rw [ex_sq a5, ex_sq (e0 _ _ _ _ _ _ _ _)]
  clear a5 e0
  have a6 : ∀ a7 a8 a9 a10 a11, ex (F (k + 5)) FU (.asg 6 (.call 13 (.cons (.ix (.var 5) (.con (.int 0))) (.cons (.ix (.var 5) (.con (.int 1))) (.cons (.var 2) (.cons (.var 3) .nil)))))) [some (.lst LI, 0), some (.lst LD, 0), some (.int s, 0), some (.int len, 0), some (.lst (b3 W), 0), some (PS2 inf dr, 1), none, a7, a8, a9, a10, a11] = .nx [some (.lst LI, 0), some (.lst LD, 0), some (.int s, 0), some (.int len, 0), some (.lst (b3 W), 0), some (PS2 inf dr, 1), some (.int tt, 0), a7, a8, a9, a10, a11] := fun _ _ _ _ _ => by
    simp [Tg.set, setAll, Env.wipe, frz1, sv, V3.at, V3.new, intOf, items, isTy, truth, isL, orBad, bopI, Env.dep, Env.dep1, run_eq, ex, ev, evs, tst, bop, cop, bf, evO_bin, evO_lst, evO_call, evO_and, evO_ix, evO_con, evO_neg, evO_bf, atm_oi, PS2, hli, hld, at2_0, at2_1, d3]
  rw [ex_sq (a6 _ _ _ _ _), ex_sq (e1 _ _ _ _ _ _ _)]
  clear a6 e1 d3
  have a7 : ∀ a8 a9 a10 a11, ex (F (k + 5)) FU (.asg 7 (.call 15 (.cons (.ix (.var 5) (.con (.int 0))) (.cons (.ix (.var 5) (.con (.int 1))) .nil)))) [some (.lst LI, 0), some (.lst LD, 0), some (.int s, 0), some (.int len, 0), some (.lst (b3 W), 0), some (PS2 inf dr, 1), some (.int tt, 0), none, a8, a9, a10, a11] = .nx [some (.lst LI, 0), some (.lst LD, 0), some (.int s, 0), some (.int len, 0), some (.lst (b3 W), 0), some (PS2 inf dr, 1), some (.int tt, 0), some (.tup (b3 W), 0), a8, a9, a10, a11] := fun _ _ _ _ => by
    simp [Tg.set, setAll, Env.wipe, frz1, sv, V3.at, V3.new, intOf, items, isTy, truth, isL, orBad, bopI, Env.dep, Env.dep1, run_eq, ex, ev, evs, tst, bop, cop, bf, evO_bin, evO_lst, evO_call, evO_and, evO_ix, evO_con, evO_neg, evO_bf, atm_oi, PS2, hli, hld, at2_0, at2_1, d5]
  rw [ex_sq (a7 _ _ _ _), ex_sq (e2 _ _ _ _ _ _ _ _ _ _ _), ex_sq (e3 _ _ _ _ _ _ _ _ _)]
  clear a7 e2 e3 d5
  have a9 : ∀ a7 a8 a10 a11, ex (F (k + 5)) FU (.asg 9 (.ix (.var 4) (.con (.int 2)))) [some (.lst LI, 0), some (.lst LD, 0), some (.int s, 0), some (.int len, 0), some (.lst (b3 W), 0), some (PS2 inf dr, 1), some (.int tt, 0), a7, a8, none, a10, a11] = .nx [some (.lst LI, 0), some (.lst LD, 0), some (.int s, 0), some (.int len, 0), some (.lst (b3 W), 0), some (PS2 inf dr, 1), some (.int tt, 0), a7, a8, some (.int W.2.2, 0), a10, a11] := fun _ _ _ _ => by
    simp [Tg.set, setAll, Env.wipe, frz1, sv, V3.at, V3.new, intOf, items, isTy, truth, isL, orBad, bopI, Env.dep, Env.dep1, run_eq, ex, ev, evs, tst, bop, cop, bf, evO_bin, evO_lst, evO_call, evO_and, evO_ix, evO_con, evO_neg, evO_bf, atm_oi, atb3]
  rw [ex_sq (a9 _ _ _ _), ex_sq (e4 _ _ _ _ _ _ _ _ _), ex_sq (e5 _ _ _ _ _ _ _ _)]
  clear a9 e4 e5
  have a10 : ∀ a7 a8 a9 , ex (F (k + 5)) FU (.asg 10 c__law_runs_0) [some (.lst LI, 0), some (.lst LD, 0), some (.int s, 0), some (.int len, 0), some (.lst (b3 W), 0), some (PS2 inf dr, 1), some (.int tt, 0), a7, a8, a9, none, none] = .nx [some (.lst LI, 0), some (.lst LD, 0), some (.int s, 0), some (.int len, 0), some (.lst (b3 W), 0), some (PS2 inf dr, 1), some (.int tt, 0), a7, a8, a9, some (.lst LZ, 1), none] := fun _ _ _ => by
    simp [Tg.set, setAll, Env.wipe, frz1, sv, V3.at, V3.new, intOf, items, isTy, truth, isL, orBad, bopI, Env.dep, Env.dep1, run_eq, ex, ev, evs, tst, bop, cop, bf, evO_bin, evO_lst, evO_call, evO_and, evO_ix, evO_con, evO_neg, evO_bf, atm_oi, ec]
  rw [ex_sq (a10 _ _ _), ex_sq (e6 _ _ _ _ _ _ _ _ _ _)]
  clear a10 e6 ec
  simp [Tg.set, setAll, Env.wipe, frz1, sv, V3.at, V3.new, intOf, items, isTy, truth, isL, orBad, bopI, Env.dep, Env.dep1, run_eq, ex, ev, evs, tst, bop, cop, bf, evO_bin, evO_lst, evO_call, evO_and, evO_ix, evO_con, evO_neg, evO_bf, atm_oi, d6', d7]
end
end Mp

set_option Elab.async false
set_option linter.all false
set_option maxRecDepth 100000
set_option maxHeartbeats 400000
namespace Mp
theorem at4_ex (a b c d i : Int) (h0 : 0 ≤ i) (h1 : i < 4) : ∃ v, atI [D.int a, .int b, .int c, .int d] i = some (.int v) ∧ (v = a ∨ v = b ∨ v = c ∨ v = d) := by
  have : i = 0 ∨ i = 1 ∨ i = 2 ∨ i = 3 := by omega
  rcases this with rfl | rfl | rfl | rfl
  · exact ⟨a, rfl, .inl rfl⟩
  · exact ⟨b, rfl, .inr (.inl rfl)⟩
  · exact ⟨c, rfl, .inr (.inr (.inl rfl))⟩
  · exact ⟨d, rfl, .inr (.inr (.inr rfl))⟩
theorem s_law (k : Nat) (ns : List Int) : F (k + 7) 26 [.lst (ns.map D.int)] = .ok (.bl true, 0) := by
  rw [F_run (np := 1) (n := 13) (b := b_law) (ρ := [some (.lst (ns.map D.int), 0), none, none, none, none, none, none, none, none, none, none, none, none]) rfl rfl rfl]
  obtain ⟨cs, ec, hcl, hc⟩ := s_law_cells (k + 5) ns
  have q0 := atI_li (ns := cs) (i := 0) (by omega) (by omega)
  have q26 := atI_li (ns := cs) (i := 26) (by omega) (by omega)
  have q27 := atI_li (ns := cs) (i := 27) (by omega) (by omega)
  have q28 := atI_li (ns := cs) (i := 28) (by omega) (by omega)
  have c24 : cdivB 24 := ⟨by decide, by decide⟩
  have c96 : cdivB 96 := ⟨by decide, by decide⟩
  have c768 : cdivB 768 := ⟨by decide, by decide⟩
  generalize gi cs 0 = h0 at q0
  generalize gi cs 26 = h26 at q26
  generalize gi cs 27 = h27 at q27
  generalize gi cs 28 = h28 at q28
  have m0 := Int.fmod_nonneg_of_pos h0 (show (0 : Int) < 24 by omega)
  have m1 := Int.fmod_lt_of_pos h0 (show (0 : Int) < 24 by omega)
  generalize hm : h0.fmod 24 = mm at m0 m1
  obtain ⟨m, rfl⟩ : ∃ m : Nat, mm = m := ⟨mm.toNat, by omega⟩
  obtain ⟨top, et, ht⟩ := at4_ex 3 10 60 1000 ((h0.fdiv 24).fmod 4) (Int.fmod_nonneg_of_pos _ (by omega)) (Int.fmod_lt_of_pos _ (by omega))
  obtain ⟨inf, dr, ey, Y, hl⟩ := s_law_year (k + 5) (cells := cs) (n := 1 + (m : Int)) (top := top) (way := (h0.fdiv 96).fmod 8) hc hcl (m + 1) (by omega) (by omega) (by omega) (by omega) (by omega)
  have ew := s_law_worst (k + 5) Y
  have hg := all_g Y inf.length
  obtain ⟨g1, g2, g3⟩ := hg
  obtain ⟨room, er, hr⟩ := at4_ex (1 + h26.fmod 1000) (1 + h26.fmod 30) (allM inf dr inf.length).2.2 ((allM inf dr inf.length).2.2 + 1) ((h0.fdiv 768).fmod 4) (Int.fmod_nonneg_of_pos _ (by omega)) (Int.fmod_lt_of_pos _ (by omega))
  clear hr ht
  have n0 : ¬ (1 + (m : Int) = 0) := by omega
  have p27 := Int.fmod_nonneg_of_pos h27 (show (0 : Int) < 1 + m by omega)
  have p27' := Int.fmod_lt_of_pos h27 (show (0 : Int) < 1 + m by omega)
  have l27 := Int.fmod_nonneg_of_pos (h27.fdiv 24) (show (0 : Int) < 1 + m by omega)
  have l27' := Int.fmod_lt_of_pos (h27.fdiv 24) (show (0 : Int) < 1 + m by omega)
  have p28 := Int.fmod_nonneg_of_pos h28 (show (0 : Int) < 1 + m by omega)
  have p28' := Int.fmod_lt_of_pos h28 (show (0 : Int) < 1 + m by omega)
  obtain ⟨rm, hrm⟩ : ∃ rm, max 1 (min 1000 room) = rm := ⟨_, rfl⟩
  have r1 : 1 ≤ rm ∧ rm ≤ 1000 := by omega
  have nr : ¬ rm + 1 = 0 := by omega
  have l28 := Int.fmod_nonneg_of_pos (h28.fdiv 24) (show (0 : Int) < rm + 1 by omega)
  have l28' := Int.fmod_lt_of_pos (h28.fdiv 24) (show (0 : Int) < rm + 1 by omega)
  generalize hs : h27.fmod (1 + m) = s at p27 p27'
  generalize hn : (h27.fdiv 24).fmod (1 + m) = n at l27 l27'
  generalize ha : h28.fmod (1 + m) = a at p28 p28'
  generalize hlv : (h28.fdiv 24).fmod (rm + 1) = lv at l28 l28'
  have er' := s_law_runs k Y s (1 + n) n.toNat p27 (by omega) (by omega) (by omega)
  have w1 := s_law_walks k Y rm a lv r1 p28 (by omega) l28 (by omega)
  have w2 := s_law_walks k Y rm 0 rm r1 (by omega) (by omega) (by omega) (by omega)
  have w3 := s_law_walks k Y rm (1 + m - 1) 0 r1 (by omega) (by omega) (by omega) (by omega)
  clear Y g1 g2 g3 r1 hc hcl
  generalize allM inf dr inf.length = W at ew er er'
  generalize List.map D.int inf = LI at *
  generalize List.map D.int dr = LD at *
  generalize List.map D.int cs = LC at *
  generalize List.map D.int ns = LN at *
  have b3w : b3 W = [.int W.1, .int W.2.1, .int W.2.2] := rfl
  rw [b_law]
  rw [ex_sq (ρ' := [some (.lst LN, 0), some (.lst LC, 1), none, none, none, none, none, none, none, none, none, none, none]) (by simp [Tg.set, setAll, Env.wipe, frz1, sv, V3.at, V3.new, intOf, items, isTy, truth, isL, orBad, bopI, Env.dep, Env.dep1, run_eq, ex, ev, evs, tst, bop, cop, bf, evO_bin, evO_lst, evO_call, evO_and, evO_ix, evO_con, evO_neg, evO_bf, atm_oi, ec])]
  rw [ex_sq (ρ' := [some (.lst LN, 0), some (.lst LC, 1), some (.int h0, 0), none, none, none, none, none, none, none, none, none, none]) (by simp [Tg.set, setAll, Env.wipe, frz1, sv, V3.at, V3.new, intOf, items, isTy, truth, isL, orBad, bopI, Env.dep, Env.dep1, run_eq, ex, ev, evs, tst, bop, cop, bf, evO_bin, evO_lst, evO_call, evO_and, evO_ix, evO_con, evO_neg, evO_bf, atm_oi, q0])]
  rw [ex_sq (ρ' := [some (.lst LN, 0), some (.lst LC, 1), some (.int h0, 0), some (.int (1 + (m : Int)), 0), none, none, none, none, none, none, none, none, none]) (by simp [Tg.set, setAll, Env.wipe, frz1, sv, V3.at, V3.new, intOf, items, isTy, truth, isL, orBad, bopI, Env.dep, Env.dep1, run_eq, ex, ev, evs, tst, bop, cop, bf, evO_bin, evO_lst, evO_call, evO_and, evO_ix, evO_con, evO_neg, evO_bf, atm_oi, hm])]
  rw [ex_sq (ρ' := [some (.lst LN, 0), some (.lst LC, 1), some (.int h0, 0), some (.int (1 + (m : Int)), 0), some (.int top, 0), none, none, none, none, none, none, none, none]) (by simp [Tg.set, setAll, Env.wipe, frz1, sv, V3.at, V3.new, intOf, items, isTy, truth, isL, orBad, bopI, Env.dep, Env.dep1, run_eq, ex, ev, evs, tst, bop, cop, bf, evO_bin, evO_lst, evO_call, evO_and, evO_ix, evO_con, evO_neg, evO_bf, atm_oi, c24, et, szl])]
  rw [ex_sq (ρ' := [some (.lst LN, 0), some (.lst LC, 0), some (.int h0, 0), some (.int (1 + (m : Int)), 0), some (.int top, 0), some (.lst LI, 0), some (.lst LD, 0), none, none, none, none, none, none]) (by simp [Tg.set, setAll, Env.wipe, frz1, sv, V3.at, V3.new, intOf, items, isTy, truth, isL, orBad, bopI, Env.dep, Env.dep1, run_eq, ex, ev, evs, tst, bop, cop, bf, evO_bin, evO_lst, evO_call, evO_and, evO_ix, evO_con, evO_neg, evO_bf, atm_oi, ey, items, c96])]
  rw [ex_sq (ρ' := [some (.lst LN, 0), some (.lst LC, 0), some (.int h0, 0), some (.int (1 + (m : Int)), 0), some (.int top, 0), some (.lst LI, 0), some (.lst LD, 0), some (.lst (b3 W), 1), none, none, none, none, none]) (by simp [Tg.set, setAll, Env.wipe, frz1, sv, V3.at, V3.new, intOf, items, isTy, truth, isL, orBad, bopI, Env.dep, Env.dep1, run_eq, ex, ev, evs, tst, bop, cop, bf, evO_bin, evO_lst, evO_call, evO_and, evO_ix, evO_con, evO_neg, evO_bf, atm_oi, ew])]
  rw [ex_sq (ρ' := [some (.lst LN, 0), some (.lst LC, 0), some (.int h0, 0), some (.int (1 + (m : Int)), 0), some (.int top, 0), some (.lst LI, 0), some (.lst LD, 0), some (.lst (b3 W), 1), some (.int room, 0), none, none, none, none]) (by simp [Tg.set, setAll, Env.wipe, frz1, sv, V3.at, V3.new, intOf, items, isTy, truth, isL, orBad, bopI, Env.dep, Env.dep1, run_eq, ex, ev, evs, tst, bop, cop, bf, evO_bin, evO_lst, evO_call, evO_and, evO_ix, evO_con, evO_neg, evO_bf, atm_oi, q26, c768, er, b3w, at3_2, szl])]
  rw [ex_sq (ρ' := [some (.lst LN, 0), some (.lst LC, 0), some (.int h0, 0), some (.int (1 + (m : Int)), 0), some (.int top, 0), some (.lst LI, 0), some (.lst LD, 0), some (.lst (b3 W), 1), some (.int rm, 0), none, none, none, none]) (by simp [Tg.set, setAll, Env.wipe, frz1, sv, V3.at, V3.new, intOf, items, isTy, truth, isL, orBad, bopI, Env.dep, Env.dep1, run_eq, ex, ev, evs, tst, bop, cop, bf, evO_bin, evO_lst, evO_call, evO_and, evO_ix, evO_con, evO_neg, evO_bf, atm_oi, hrm, min_if, max_if])]
  rw [ex_sq (ρ' := [some (.lst LN, 0), some (.lst LC, 0), some (.int h0, 0), some (.int (1 + (m : Int)), 0), some (.int top, 0), some (.lst LI, 0), some (.lst LD, 0), some (.lst (b3 W), 1), some (.int rm, 0), some (.int s, 0), none, none, none]) (by simp [Tg.set, setAll, Env.wipe, frz1, sv, V3.at, V3.new, intOf, items, isTy, truth, isL, orBad, bopI, Env.dep, Env.dep1, run_eq, ex, ev, evs, tst, bop, cop, bf, evO_bin, evO_lst, evO_call, evO_and, evO_ix, evO_con, evO_neg, evO_bf, atm_oi, q27, n0, hs])]
  rw [ex_sq (ρ' := [some (.lst LN, 0), some (.lst LC, 0), some (.int h0, 0), some (.int (1 + (m : Int)), 0), some (.int top, 0), some (.lst LI, 0), some (.lst LD, 0), some (.lst (b3 W), 1), some (.int rm, 0), some (.int s, 0), some (.int (1 + n), 0), none, none]) (by simp [Tg.set, setAll, Env.wipe, frz1, sv, V3.at, V3.new, intOf, items, isTy, truth, isL, orBad, bopI, Env.dep, Env.dep1, run_eq, ex, ev, evs, tst, bop, cop, bf, evO_bin, evO_lst, evO_call, evO_and, evO_ix, evO_con, evO_neg, evO_bf, atm_oi, q27, c24, n0, hn])]
  rw [ex_sq (ρ' := [some (.lst LN, 0), some (.lst LC, 0), some (.int h0, 0), some (.int (1 + (m : Int)), 0), some (.int top, 0), some (.lst LI, 0), some (.lst LD, 0), some (.lst (b3 W), 1), some (.int rm, 0), some (.int s, 0), some (.int (1 + n), 0), none, none]) (by simp [Tg.set, setAll, Env.wipe, frz1, sv, V3.at, V3.new, intOf, items, isTy, truth, isL, orBad, bopI, Env.dep, Env.dep1, run_eq, ex, ev, evs, tst, bop, cop, bf, evO_bin, evO_lst, evO_call, evO_and, evO_ix, evO_con, evO_neg, evO_bf, atm_oi, i_law_0, er'])]
  rw [ex_sq (ρ' := [some (.lst LN, 0), some (.lst LC, 0), some (.int h0, 0), some (.int (1 + (m : Int)), 0), some (.int top, 0), some (.lst LI, 0), some (.lst LD, 0), some (.lst (b3 W), 1), some (.int rm, 0), some (.int s, 0), some (.int (1 + n), 0), some (.int a, 0), none]) (by simp [Tg.set, setAll, Env.wipe, frz1, sv, V3.at, V3.new, intOf, items, isTy, truth, isL, orBad, bopI, Env.dep, Env.dep1, run_eq, ex, ev, evs, tst, bop, cop, bf, evO_bin, evO_lst, evO_call, evO_and, evO_ix, evO_con, evO_neg, evO_bf, atm_oi, q28, n0, ha])]
  rw [ex_sq (ρ' := [some (.lst LN, 0), some (.lst LC, 0), some (.int h0, 0), some (.int (1 + (m : Int)), 0), some (.int top, 0), some (.lst LI, 0), some (.lst LD, 0), some (.lst (b3 W), 1), some (.int rm, 0), some (.int s, 0), some (.int (1 + n), 0), some (.int a, 0), some (.int lv, 0)]) (by simp [Tg.set, setAll, Env.wipe, frz1, sv, V3.at, V3.new, intOf, items, isTy, truth, isL, orBad, bopI, Env.dep, Env.dep1, run_eq, ex, ev, evs, tst, bop, cop, bf, evO_bin, evO_lst, evO_call, evO_and, evO_ix, evO_con, evO_neg, evO_bf, atm_oi, q28, c24, nr, hlv])]
  rw [ex_sq (ρ' := [some (.lst LN, 0), some (.lst LC, 0), some (.int h0, 0), some (.int (1 + (m : Int)), 0), some (.int top, 0), some (.lst LI, 0), some (.lst LD, 0), some (.lst (b3 W), 1), some (.int rm, 0), some (.int s, 0), some (.int (1 + n), 0), some (.int a, 0), some (.int lv, 0)]) (by simp [Tg.set, setAll, Env.wipe, frz1, sv, V3.at, V3.new, intOf, items, isTy, truth, isL, orBad, bopI, Env.dep, Env.dep1, run_eq, ex, ev, evs, tst, bop, cop, bf, evO_bin, evO_lst, evO_call, evO_and, evO_ix, evO_con, evO_neg, evO_bf, atm_oi, i_law_1, w1, w2])]
  simp [Tg.set, setAll, Env.wipe, frz1, sv, V3.at, V3.new, intOf, items, isTy, truth, isL, orBad, bopI, Env.dep, Env.dep1, run_eq, ex, ev, evs, tst, bop, cop, bf, evO_bin, evO_lst, evO_call, evO_and, evO_ix, evO_con, evO_neg, evO_bf, atm_oi, w3]
end Mp

set_option Elab.async false
set_option linter.all false
set_option maxRecDepth 100000
set_option maxHeartbeats 4000000
namespace Mp
open PySem.Spec L2
/-! printed by gen.py from the linked text: the defs in the small language -/
open PySem
def top (i : Nat) : Stmt := PySem.Challenge.pw_longpound_k31_year_and_runs.main.body.getD i (.Pass ⟨0, 0, 0, 0⟩)
def d_is_integer : Fd := ⟨"is_integer", top 5, ["value"], ["value"], b_is_integer⟩
theorem bd_is_integer : d_is_integer.bd := fun _ _ _ _ _ _ us hl => match us, hl with | [_], _ => rfl
def d_is_row : Fd := ⟨"is_row", top 6, ["value"], ["value"], b_is_row⟩
theorem bd_is_row : d_is_row.bd := fun _ _ _ _ _ _ us hl => match us, hl with | [_], _ => rfl
def d_is_within : Fd := ⟨"is_within", top 7, ["value", "low", "high"], ["value", "low", "high"], b_is_within⟩
theorem bd_is_within : d_is_within.bd := fun _ _ _ _ _ _ us hl => match us, hl with | [_, _, _], _ => rfl
def d_check_number : Fd := ⟨"check_number", top 8, ["name", "value", "low", "high"], ["name", "value", "low", "high"], b_check_number⟩
theorem bd_check_number : d_check_number.bd := fun _ _ _ _ _ _ us hl => match us, hl with | [_, _, _, _], _ => rfl
def d_check_integers : Fd := ⟨"check_integers", top 9, ["name", "values", "size", "low", "high", "place", "value"], ["name", "values", "size", "low", "high"], b_check_integers⟩
theorem bd_check_integers : d_check_integers.bd := fun _ _ _ _ _ _ us hl => match us, hl with | [_, _, _, _, _], _ => rfl
def d_check_room : Fd := ⟨"check_room", top 14, ["room"], ["room"], b_check_room⟩
theorem bd_check_room : d_check_room.bd := fun _ _ _ _ _ _ us hl => match us, hl with | [_], _ => rfl
def d_check_flows : Fd := ⟨"check_flows", top 15, ["name", "flows"], ["name", "flows"], b_check_flows⟩
theorem bd_check_flows : d_check_flows.bd := fun _ _ _ _ _ _ us hl => match us, hl with | [_, _], _ => rfl
def d_check_draws : Fd := ⟨"check_draws", top 16, ["draws", "periods"], ["draws", "periods"], b_check_draws⟩
theorem bd_check_draws : d_check_draws.bd := fun _ _ _ _ _ _ us hl => match us, hl with | [_, _], _ => rfl
def d_check_moment : Fd := ⟨"check_moment", top 17, ["room", "periods", "period", "level"], ["room", "periods", "period", "level"], b_check_moment⟩
theorem bd_check_moment : d_check_moment.bd := fun _ _ _ _ _ _ us hl => match us, hl with | [_, _, _, _], _ => rfl
def d_step : Fd := ⟨"step", top 18, ["room", "inflow", "draws", "period", "level", "held"], ["room", "inflow", "draws", "period", "level"], b_step⟩
theorem bd_step : d_step.bd := fun _ _ _ _ _ _ us hl => match us, hl with | [_, _, _, _, _], _ => rfl
def d_year_step : Fd := ⟨"year_step", top 19, ["room", "inflow", "draws", "period", "level", "flows", "takes"], ["room", "inflow", "draws", "period", "level"], b_year_step⟩
theorem bd_year_step : d_year_step.bd := fun _ _ _ _ _ _ us hl => match us, hl with | [_, _, _, _, _], _ => rfl
def d_lasting : Fd := ⟨"lasting", top 20, ["room", "inflow", "draws", "period", "level", "flows", "takes", "passed", "held", "before", "turn"], ["room", "inflow", "draws", "period", "level"], b_lasting⟩
theorem bd_lasting : d_lasting.bd := fun _ _ _ _ _ _ us hl => match us, hl with | [_, _, _, _, _], _ => rfl
def d_fall_of : Fd := ⟨"fall_of", top 22, ["inflow", "draws", "start", "length", "total", "turn", "at"], ["inflow", "draws", "start", "length"], b_fall_of⟩
theorem bd_fall_of : d_fall_of.bd := fun _ _ _ _ _ _ us hl => match us, hl with | [_, _, _, _], _ => rfl
def d_fall : Fd := ⟨"fall", top 23, ["inflow", "draws", "start", "length", "flows", "takes"], ["inflow", "draws", "start", "length"], b_fall⟩
theorem bd_fall : d_fall.bd := fun _ _ _ _ _ _ us hl => match us, hl with | [_, _, _, _], _ => rfl
def d_worst_of : Fd := ⟨"worst_of", top 24, ["inflow", "draws", "best", "start", "total", "length", "at"], ["inflow", "draws"], b_worst_of⟩
theorem bd_worst_of : d_worst_of.bd := fun _ _ _ _ _ _ us hl => match us, hl with | [_, _], _ => rfl
def d_worst_run : Fd := ⟨"worst_run", top 25, ["inflow", "draws", "flows", "takes"], ["inflow", "draws"], b_worst_run⟩
theorem bd_worst_run : d_worst_run.bd := fun _ _ _ _ _ _ us hl => match us, hl with | [_, _], _ => rfl
def d_least_room : Fd := ⟨"least_room", top 26, ["inflow", "draws", "flows", "takes"], ["inflow", "draws"], b_least_room⟩
theorem bd_least_room : d_least_room.bd := fun _ _ _ _ _ _ us hl => match us, hl with | [_, _], _ => rfl
def d__law_cells : Fd := ⟨"_law_cells", top 28, ["script", "cells", "seed", "k", "cell", "first", "second"], ["script"], b__law_cells⟩
theorem bd__law_cells : d__law_cells.bd := fun _ _ _ _ _ _ us hl => match us, hl with | [_], _ => rfl
def d__law_year : Fd := ⟨"_law_year", top 29, ["cells", "periods", "top", "way", "inflow", "draws", "turn", "at", "k", "flow", "draw"], ["cells", "periods", "top", "way"], b__law_year⟩
theorem bd__law_year : d__law_year.bd := fun _ _ _ _ _ _ us hl => match us, hl with | [_, _, _, _], _ => rfl
def d__law_worst : Fd := ⟨"_law_worst", top 30, ["inflow", "draws", "best", "start", "lost", "length", "at"], ["inflow", "draws"], b__law_worst⟩
theorem bd__law_worst : d__law_worst.bd := fun _ _ _ _ _ _ us hl => match us, hl with | [_, _], _ => rfl
def d__law_is : Fd := ⟨"_law_is", top 31, ["told", "due"], ["told", "due"], b__law_is⟩
theorem bd__law_is : d__law_is.bd := fun _ _ _ _ _ _ us hl => match us, hl with | [_, _], _ => rfl
def d__law_step : Fd := ⟨"_law_step", top 32, ["room", "inflow", "draws", "at", "level"], ["room", "inflow", "draws", "at", "level"], b__law_step⟩
theorem bd__law_step : d__law_step.bd := fun _ _ _ _ _ _ us hl => match us, hl with | [_, _, _, _, _], _ => rfl
def d__law_lasting : Fd := ⟨"_law_lasting", top 33, ["room", "inflow", "draws", "start", "level", "passed", "year", "before", "turn"], ["room", "inflow", "draws", "start", "level"], b__law_lasting⟩
theorem bd__law_lasting : d__law_lasting.bd := fun _ _ _ _ _ _ us hl => match us, hl with | [_, _, _, _, _], _ => rfl
def d__law_fall : Fd := ⟨"_law_fall", top 34, ["inflow", "draws", "start", "length", "total", "turn", "at"], ["inflow", "draws", "start", "length"], b__law_fall⟩
theorem bd__law_fall : d__law_fall.bd := fun _ _ _ _ _ _ us hl => match us, hl with | [_, _, _, _], _ => rfl
def d__law_walks : Fd := ⟨"_law_walks", top 35, ["room", "inflow", "draws", "at", "level", "passed", "told", "last", "dry", "draw"], ["room", "inflow", "draws", "at", "level"], b__law_walks⟩
theorem bd__law_walks : d__law_walks.bd := fun _ _ _ _ _ _ us hl => match us, hl with | [_, _, _, _, _], _ => rfl
def d__law_runs : Fd := ⟨"_law_runs", top 36, ["inflow", "draws", "start", "length", "worst", "passed", "told", "most", "k", "due", "dry", "draw"], ["inflow", "draws", "start", "length", "worst"], b__law_runs⟩
theorem bd__law_runs : d__law_runs.bd := fun _ _ _ _ _ _ us hl => match us, hl with | [_, _, _, _, _], _ => rfl
def d_law : Fd := ⟨"law", top 37, ["script", "cells", "head", "periods", "top", "inflow", "draws", "worst", "room", "start", "length", "at", "level"], ["script"], b_law⟩
theorem bd_law : d_law.bd := fun _ _ _ _ _ _ us hl => match us, hl with | [_], _ => rfl
def tab : List Fd := [d_is_integer, d_is_row, d_is_within, d_check_number, d_check_integers, d_check_room, d_check_flows, d_check_draws, d_check_moment, d_step, d_year_step, d_lasting, d_fall_of, d_fall, d_worst_of, d_worst_run, d_least_room, d__law_cells, d__law_year, d__law_worst, d__law_is, d__law_step, d__law_lasting, d__law_fall, d__law_walks, d__law_runs, d_law]
def con : List (Str × Int) := [("MOST_PERIODS", 24), ("MOST_FLOW", 1000), ("MOST_ROOM", 1000)]
theorem bds : ∀ d ∈ tab, d.bd := List.forall_mem_cons.mpr ⟨bd_is_integer, List.forall_mem_cons.mpr ⟨bd_is_row, List.forall_mem_cons.mpr ⟨bd_is_within, List.forall_mem_cons.mpr ⟨bd_check_number, List.forall_mem_cons.mpr ⟨bd_check_integers, List.forall_mem_cons.mpr ⟨bd_check_room, List.forall_mem_cons.mpr ⟨bd_check_flows, List.forall_mem_cons.mpr ⟨bd_check_draws, List.forall_mem_cons.mpr ⟨bd_check_moment, List.forall_mem_cons.mpr ⟨bd_step, List.forall_mem_cons.mpr ⟨bd_year_step, List.forall_mem_cons.mpr ⟨bd_lasting, List.forall_mem_cons.mpr ⟨bd_fall_of, List.forall_mem_cons.mpr ⟨bd_fall, List.forall_mem_cons.mpr ⟨bd_worst_of, List.forall_mem_cons.mpr ⟨bd_worst_run, List.forall_mem_cons.mpr ⟨bd_least_room, List.forall_mem_cons.mpr ⟨bd__law_cells, List.forall_mem_cons.mpr ⟨bd__law_year, List.forall_mem_cons.mpr ⟨bd__law_worst, List.forall_mem_cons.mpr ⟨bd__law_is, List.forall_mem_cons.mpr ⟨bd__law_step, List.forall_mem_cons.mpr ⟨bd__law_lasting, List.forall_mem_cons.mpr ⟨bd__law_fall, List.forall_mem_cons.mpr ⟨bd__law_walks, List.forall_mem_cons.mpr ⟨bd__law_runs, List.forall_mem_cons.mpr ⟨bd_law, fun _ z => nomatch z⟩⟩⟩⟩⟩⟩⟩⟩⟩⟩⟩⟩⟩⟩⟩⟩⟩⟩⟩⟩⟩⟩⟩⟩⟩⟩⟩
abbrev loose : List Str := ["CanalError", "TooMany", "BadRow", "is_integer", "is_row", "is_within", "check_number", "check_integers", "MOST_PERIODS", "MOST_FLOW", "MOST_ROOM", "check_room", "check_flows", "check_draws", "check_moment", "step", "year_step", "lasting", "fall_of", "fall", "worst_of", "worst_run", "least_room", "_law_cells", "_law_year", "_law_worst", "_law_is", "_law_step", "_law_lasting", "_law_fall", "_law_walks", "_law_runs"]
def lawTop : Nat := 37
def lawAt : Nat := 26
theorem tab_ok : tab.all (Fd.ok (tab.map Fd.name) con) = true := by decide +kernel
set_option maxHeartbeats 0
end Mp
namespace Mp
open PySem PySem.Spec PyProof.Rows L2
abbrev RR : PySem.W.OpenRow := PySem.W.OpenLaw.row PySem.Challenge.rw_longpound_k31_year_and_runs
abbrev hk : PySem.W.Hook := He.hookD 4 (faOf tab con) (fnOf tab)
def ob (s : PySem.W.SharedT) : He.AlD := He.obsDG 4 (faOf tab con) (fnOf tab) (HandSHeadRun.getT s)
theorem ob_eq (s : PySem.W.SharedT) : ob s = hk.obs s.abs := He.obsDG_eq (HandSHeadRun.getT_eq s)
theorem runs (w : World) : HandSHeadRun.RunEq RR (PySem.W.view RR.prog [37]) hk ob 3000 Mp.loose w := by
  intro os
  kernel_rfl
end Mp
open PySem PySem.W PySem.Calls PyProof.Rows
theorem Mp.law_end (lawTrue : ∀ ns : List Int, ns.length ≤ 63 → ∃ k, Mp.pphi Mp.FU Mp.ptab 8 Mp.lawAt [.lst (ns.map Mp.D.int)] = .ok (.bl true, k)) : PySem.Challenge.rw_longpound_k31_year_and_runs.Holds := by
  w_on; o_law
  refine HandSHeadRun.head_any (r := OpenLaw.row PySem.Challenge.rw_longpound_k31_year_and_runs) (q := view (OpenLaw.row PySem.Challenge.rw_longpound_k31_year_and_runs).prog [37]) (H := Mp.hk) (ob := Mp.ob) (M := 3000) (loose := Mp.loose) (d := HandSHeadRun.topDef (OpenLaw.row PySem.Challenge.rw_longpound_k31_year_and_runs).prog 37) (kwd := []) Mp.ob_eq
    (by kernel_rfl) (fun s => by kernel_rfl) Mp.runs (by kernel_rfl) (by kernel_rfl) (by kernel_rfl) (by rfl) (by first | assumption | decide +kernel) (by decide +kernel) ⟨rfl, rfl, rfl, rfl, rfl, by decide +kernel⟩ ?hw ?hc
  case hw => w_witness2
  case hc =>
    refine L2.walk_ofE (l := PySem.Challenge.rw_longpound_k31_year_and_runs) (n := 63) (k := 8) (x := "script") (CX := L2.CX0) rfl (by decide) (by kernel_rfl) ⟨rfl, by decide, by decide⟩ ?F (fun _ _ _ _ z => z)
    intro w mg fa h Y G hmg0
    obtain ⟨K, KX, c⟩ := Y
    have hmg : mg Mp.d_law.name = some (.ref fa) := by
      have e : (HandSHeadRun.topDef (OpenLaw.row PySem.Challenge.rw_longpound_k31_year_and_runs).prog 37).name = ("law" : PySem.Str) := by kernel_rfl
      rw [← show ("law" : PySem.Str) = Mp.d_law.name from rfl, ← e]
      exact hmg0
    obtain ⟨fd, hb, hF⟩ := Mp.law_facts (P := (PySem.Challenge.rw_longpound_k31_year_and_runs).prog) (w := w) KX G c Mp.bds Mp.tab_ok Mp.FU 8 Mp.lawAt (d := Mp.d_law) rfl hmg rfl
    exact ⟨K, fd, _, KX, hb, fun H a ns hl _ hS => Mp.law_sp (fun ns hn => by rw [Mp.phi_pphi]; exact lawTrue ns hn) hl hS, hF⟩

theorem PySem.Challenge.cw_longpound_k31_year_and_runs_holds : PySem.Challenge.rw_longpound_k31_year_and_runs.Holds := by
  exact Mp.law_end (fun ns _ => ⟨0, Mp.s_law 1 ns⟩)
